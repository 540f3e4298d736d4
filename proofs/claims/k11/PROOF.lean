import PyProof.Rows.All
import Wide.All
import OpenK.AllK
import Wide.FinOn
import HandS.ForMost
import HandS.Defaults
import HandS.Deep
import HandS.TupAny
import HandS.TupMul
import HandS.IsInst
import HandS.NoneIn
import HandS.DictTup
import HandS.Strs
import KE.DataMinMax
import HandS.HeadHook2
import HandS.SetFor
import HandS.Head0
import HandS.Head1
import HandS.Head2
import HandS.HeadEnd
import HandS.HeadHook1
import HandS.HeadHook3
import HandS.HeadHook4
import PySem.Challenge.RW_firstbreak_k11_whole_found_in_the_fewest
set_option Elab.async false
set_option linter.all false
set_option maxRecDepth 100000
set_option maxHeartbeats 4000000
/-! The mathematics of the law: mirror functions over plain lists, no program in sight. -/
namespace FbM

/-! ### histories: the makes that a candidate breaks -/
def addNew (found ps : List Nat) : List Nat := ps.foldl (fun f p => if p ∈ f then f else f ++ [p]) found
def aboveStep (P : List (List Nat)) (found : List Nat) (k : Nat) : List Nat := if k ∈ found then addNew found (P.getD k []) else found
def aboveI (P : List (List Nat)) (m i : Nat) : List Nat := (List.range i).foldl (fun f i => aboveStep P f (m - i)) [m]
def above (P : List (List Nat)) (m : Nat) : List Nat := aboveI P m (m + 1)
def br (P : List (List Nat)) (c m : Nat) : Bool := decide (c ∈ above P m)
def anc (P : List (List Nat)) (m : Nat) : List Nat := (List.range (m + 1)).filter fun c => br P c m

structure HV (P : List (List Nat)) : Prop where
  pos : 1 ≤ P.length
  le : P.length ≤ 24
  sorted : ∀ k, (P.getD k []).Pairwise (· < ·)
  lt : ∀ k p, p ∈ P.getD k [] → p < k

theorem aboveI_succ (P : List (List Nat)) (m i : Nat) : aboveI P m (i + 1) = aboveStep P (aboveI P m i) (m - i) := by
  unfold aboveI
  rw [List.range_succ, List.foldl_append]; rfl

theorem addNew_eq : ∀ (ps f : List Nat), ps.Nodup → addNew f ps = f ++ ps.filter (fun p => decide (p ∉ f))
  | [], f, _ => by simp [addNew]
  | p :: ps, f, h => by
    have h1 : p ∉ ps := (List.nodup_cons.mp h).1
    have h2 : ps.Nodup := (List.nodup_cons.mp h).2
    have e : addNew f (p :: ps) = addNew (if p ∈ f then f else f ++ [p]) ps := rfl
    rw [e, addNew_eq ps _ h2]
    by_cases hp : p ∈ f
    · simp [hp]
    · rw [if_neg hp, List.filter_cons, if_pos (by simpa using hp), List.append_assoc]
      congr 1
      show p :: _ = p :: _
      congr 1
      apply List.filter_congr
      intro x hx
      have : x ≠ p := fun e => h1 (e ▸ hx)
      simp [this]

theorem mem_addNew (ps : List Nat) : ∀ (f : List Nat) (x : Nat), x ∈ addNew f ps ↔ x ∈ f ∨ x ∈ ps := by
  induction ps with
  | nil => intro f x; simp [addNew]
  | cons p ps ih =>
    intro f x
    have e : addNew f (p :: ps) = addNew (if p ∈ f then f else f ++ [p]) ps := rfl
    rw [e, ih]
    by_cases hp : p ∈ f
    · rw [if_pos hp]; constructor
      · rintro (h | h)
        · exact .inl h
        · exact .inr (List.mem_cons_of_mem _ h)
      · rintro (h | h)
        · exact .inl h
        · rcases List.mem_cons.mp h with rfl | h
          · exact .inl hp
          · exact .inr h
    · rw [if_neg hp]; simp only [List.mem_append, List.mem_cons, List.not_mem_nil, or_false]
      constructor
      · rintro ((h | h) | h)
        · exact .inl h
        · exact .inr (.inl h)
        · exact .inr (.inr h)
      · rintro (h | h | h)
        · exact .inl (.inl h)
        · exact .inl (.inr h)
        · exact .inr h

theorem nodup_addNew : ∀ (ps f : List Nat), f.Nodup → (addNew f ps).Nodup
  | [], f, h => h
  | p :: ps, f, h => by
    have e : addNew f (p :: ps) = addNew (if p ∈ f then f else f ++ [p]) ps := rfl
    rw [e]
    apply nodup_addNew
    by_cases hp : p ∈ f
    · rw [if_pos hp]; exact h
    · rw [if_neg hp]
      rw [List.nodup_append]
      refine ⟨h, by simp, ?_⟩
      intro a ha b hb
      simp at hb; subst hb; intro e; subst e; exact hp ha

theorem aboveI_nodup (P : List (List Nat)) (m : Nat) : ∀ i, (aboveI P m i).Nodup
  | 0 => by simp [aboveI]
  | i + 1 => by
    rw [aboveI_succ]; unfold aboveStep
    split
    · exact nodup_addNew _ _ (aboveI_nodup P m i)
    · exact aboveI_nodup P m i

theorem aboveI_le (P : List (List Nat)) (V : HV P) (m : Nat) : ∀ i x, x ∈ aboveI P m i → x ≤ m
  | 0, x, h => by simp [aboveI] at h; omega
  | i + 1, x, h => by
    rw [aboveI_succ] at h; unfold aboveStep at h
    split at h
    · rcases (mem_addNew _ _ _).mp h with h | h
      · exact aboveI_le P V m i x h
      · have := V.lt _ _ h; omega
    · exact aboveI_le P V m i x h

theorem self_above (P : List (List Nat)) (m : Nat) : ∀ i, m ∈ aboveI P m i
  | 0 => by simp [aboveI]
  | i + 1 => by
    rw [aboveI_succ]; unfold aboveStep
    split
    · exact (mem_addNew _ _ _).mpr (.inl (self_above P m i))
    · exact self_above P m i

theorem above_le {P : List (List Nat)} (V : HV P) {m x : Nat} (h : x ∈ above P m) : x ≤ m := aboveI_le P V m _ x h
theorem br_self (P : List (List Nat)) (m : Nat) : br P m m = true := decide_eq_true (self_above P m _)

theorem len_le_of_sub : ∀ {l r : List Nat}, l.Nodup → (∀ x ∈ l, x ∈ r) → l.length ≤ r.length
  | [], r, _, _ => Nat.zero_le _
  | a :: l, r, h, s => by
    have h' := List.nodup_cons.mp h
    have ha : a ∈ r := s a List.mem_cons_self
    have ih := len_le_of_sub (l := l) (r := r.erase a) h'.2 fun x hx => by
      have hxa : x ≠ a := fun e => h'.1 (e ▸ hx)
      exact (List.mem_erase_of_ne hxa).mpr (s x (List.mem_cons_of_mem _ hx))
    rw [List.length_erase_of_mem ha] at ih
    have : 0 < r.length := List.length_pos_of_mem ha
    simp only [List.length_cons]; omega
theorem aboveI_length {P : List (List Nat)} (V : HV P) (m i : Nat) : (aboveI P m i).length ≤ m + 1 := by
  have h1 := aboveI_nodup P m i
  have h2 := aboveI_le P V m i
  have := len_le_of_sub (r := List.range (m + 1)) h1 fun x hx => List.mem_range.mpr (by have := h2 x hx; omega)
  simpa using this

theorem mem_anc {P : List (List Nat)} (V : HV P) {m x : Nat} : x ∈ anc P m ↔ br P x m = true := by
  unfold anc
  rw [List.mem_filter, List.mem_range]
  constructor
  · exact fun h => h.2
  · intro h
    refine ⟨?_, h⟩
    have := above_le V (of_decide_eq_true h)
    omega

/-- two ascending lists with the same members are one -/
theorem sorted_ext : ∀ {l r : List Nat}, l.Pairwise (· < ·) → r.Pairwise (· < ·) → (∀ x, x ∈ l ↔ x ∈ r) → l = r
  | [], [], _, _, _ => rfl
  | [], b :: r, _, _, h => by have := (h b).mpr (List.mem_cons_self); simp at this
  | a :: l, [], _, _, h => by have := (h a).mp (List.mem_cons_self); simp at this
  | a :: l, b :: r, hl, hr, h => by
    have hl' := List.pairwise_cons.mp hl
    have hr' := List.pairwise_cons.mp hr
    have e : a = b := by
      have h1 := (h a).mp List.mem_cons_self
      have h2 := (h b).mpr List.mem_cons_self
      rcases List.mem_cons.mp h1 with e | h1
      · exact e
      · rcases List.mem_cons.mp h2 with e | h2
        · exact e.symm
        · have := hr'.1 _ h1; have := hl'.1 _ h2; omega
    subst e
    congr 1
    refine sorted_ext hl'.2 hr'.2 fun x => ?_
    constructor
    · intro hx
      rcases List.mem_cons.mp ((h x).mp (List.mem_cons_of_mem _ hx)) with e | q
      · have := hl'.1 _ hx; omega
      · exact q
    · intro hx
      rcases List.mem_cons.mp ((h x).mpr (List.mem_cons_of_mem _ hx)) with e | q
      · have := hr'.1 _ hx; omega
      · exact q

theorem range_sorted (n : Nat) : (List.range n).Pairwise (· < ·) := List.pairwise_lt_range
theorem anc_sorted (P : List (List Nat)) (m : Nat) : (anc P m).Pairwise (· < ·) := (range_sorted _).filter _

theorem lt_of_le_nodup : ∀ {l : List Nat}, l.Pairwise (· ≤ ·) → l.Nodup → l.Pairwise (· < ·)
  | [], _, _ => .nil
  | a :: l, h, n => by
    have h' := List.pairwise_cons.mp h
    have n' := List.nodup_cons.mp n
    refine List.pairwise_cons.mpr ⟨fun x hx => ?_, lt_of_le_nodup h'.2 n'.2⟩
    have h1 := h'.1 x hx
    have : a ≠ x := fun e => n'.1 (e ▸ hx)
    omega

/-- what sorting gives -/
theorem anc_of_perm {P : List (List Nat)} (V : HV P) {m : Nat} {l : List Nat} (p : l.Perm (above P m)) (s : l.Pairwise (· ≤ ·)) : l = anc P m := by
  refine sorted_ext (lt_of_le_nodup s (p.nodup_iff.mpr (aboveI_nodup P m _))) (anc_sorted P m) fun x => ?_
  rw [mem_anc V, p.mem_iff]
  unfold br; rw [decide_eq_true_iff]

theorem anc_length_le {P : List (List Nat)} (m : Nat) : (anc P m).length ≤ m + 1 := by
  have := List.length_filter_le (fun c => br P c m) (List.range (m + 1))
  simpa [anc] using this

end FbM

namespace FbM
/-! ### classes -/
def testable (n : Nat) (S : List Nat) : List Nat := (List.range n).filter fun m => decide (m ∉ S)
def mark (P : List (List Nat)) (T : List Nat) (c : Nat) : List Bool := T.map fun m => br P c m
def clsStep (mk : Nat → List Bool) (st : List (List Bool) × List (List Nat)) (c : Nat) : List (List Bool) × List (List Nat) :=
  if mk c ∈ st.1 then (st.1, st.2.set (st.1.idxOf (mk c)) (st.2.getD (st.1.idxOf (mk c)) [] ++ [c])) else (st.1 ++ [mk c], st.2 ++ [[c]])
def clsI (mk : Nat → List Bool) (i : Nat) : List (List Bool) × List (List Nat) := (List.range i).foldl (clsStep mk) ([], [])
theorem clsI_succ (mk : Nat → List Bool) (i : Nat) : clsI mk (i + 1) = clsStep mk (clsI mk i) i := by
  unfold clsI
  rw [List.range_succ, List.foldl_append]; rfl
def cls (P : List (List Nat)) (S : List Nat) : List (List Nat) := (clsI (mark P (testable P.length S)) P.length).2

/-- what stands in the tables behind i candidates -/
structure ClsInv (mk : Nat → List Bool) (i : Nat) (st : List (List Bool) × List (List Nat)) : Prop where
  len : st.1.length = st.2.length
  nd : st.1.Nodup
  row : ∀ j (h : j < st.1.length), st.2[j]? = some ((List.range i).filter fun c => decide (mk c = st.1[j]))
  mem : ∀ c, c < i → mk c ∈ st.1
  ne : ∀ r ∈ st.2, r ≠ []

theorem clsInv (mk : Nat → List Bool) : ∀ i, ClsInv mk i (clsI mk i)
  | 0 => ⟨rfl, List.nodup_nil, fun j h => by simp [clsI] at h, fun c h => by omega, fun r h => by simp [clsI] at h⟩
  | i + 1 => by
    have I := clsInv mk i
    rw [clsI_succ]
    unfold clsStep
    by_cases hm : mk i ∈ (clsI mk i).1
    · rw [if_pos hm]
      have hj : (clsI mk i).1.idxOf (mk i) < (clsI mk i).1.length := List.idxOf_lt_length_of_mem hm
      have hg : (clsI mk i).1[(clsI mk i).1.idxOf (mk i)] = mk i := List.getElem_idxOf hj
      refine ⟨by simp [I.len], I.nd, fun j h => ?_, fun c hc => ?_, fun r hr => ?_⟩
      · show ((clsI mk i).2.set _ _)[j]? = _
        by_cases e : (clsI mk i).1.idxOf (mk i) = j
        · subst e
          rw [List.getElem?_set_self (by rw [← I.len]; exact hj), List.getD_eq_getElem?_getD, I.row _ hj, List.range_succ, List.filter_append]
          simp [hg]
        · rw [List.getElem?_set_ne e, I.row j h, List.range_succ, List.filter_append]
          have : ¬ mk i = (clsI mk i).1[j] := fun q => by
            have h1 : (clsI mk i).1[(clsI mk i).1.idxOf (mk i)] = (clsI mk i).1[j] := hg.trans q
            exact e ((List.getElem_inj I.nd).mp h1)
          simp [this]
      · by_cases e : c = i
        · subst e; exact hm
        · exact I.mem c (by omega)
      · rcases List.mem_or_eq_of_mem_set hr with h | h
        · exact I.ne r h
        · subst h; simp
    · rw [if_neg hm]
      refine ⟨by simp [I.len], ?_, fun j h => ?_, fun c hc => ?_, fun r hr => ?_⟩
      · show ((clsI mk i).1 ++ [mk i]).Nodup
        rw [List.nodup_append]
        refine ⟨I.nd, by simp, fun a ha b hb => ?_⟩
        simp at hb; subst hb; intro e; subst e; exact hm ha
      · show ((clsI mk i).2 ++ [[i]])[j]? = _
        have h' : j < (clsI mk i).1.length + 1 := by simpa using h
        by_cases e : j < (clsI mk i).1.length
        · rw [List.getElem?_append_left (by rw [← I.len]; exact e), I.row j e, List.range_succ, List.filter_append]
          have hg : ((clsI mk i).1 ++ [mk i])[j] = (clsI mk i).1[j] := List.getElem_append_left e
          have : ¬ mk i = (clsI mk i).1[j] := fun q => hm (q ▸ List.getElem_mem e)
          simp [hg, this]
        · have e' : j = (clsI mk i).1.length := by omega
          subst e'
          rw [List.getElem?_append_right (by rw [← I.len]; exact Nat.le_refl _)]
          have hg : ((clsI mk i).1 ++ [mk i])[(clsI mk i).1.length]'(by simp) = mk i := by simp
          have hz : (List.range i).filter (fun c => decide (mk c = mk i)) = [] := by
            rw [List.filter_eq_nil_iff]
            intro c hc
            have := I.mem c (List.mem_range.mp hc)
            simp only [decide_eq_true_eq]
            intro q
            exact hm (q ▸ this)
          simp only [hg]
          rw [List.range_succ, List.filter_append, hz, ← I.len]
          simp
      · by_cases e : c = i
        · subst e; simp
        · exact List.mem_append_left _ (I.mem c (by omega))
      · rcases List.mem_append.mp hr with h | h
        · exact I.ne r h
        · simp at h; subst h; simp

section
variable {P : List (List Nat)} {S : List Nat}
abbrev mk (P : List (List Nat)) (S : List Nat) : Nat → List Bool := mark P (testable P.length S)
abbrev marks (P : List (List Nat)) (S : List Nat) : List (List Bool) := (clsI (mk P S) P.length).1
theorem cls_inv (P : List (List Nat)) (S : List Nat) : ClsInv (mk P S) P.length (marks P S, cls P S) := clsInv _ _
theorem cls_len : (marks P S).length = (cls P S).length := (cls_inv P S).len
theorem cls_row {j : Nat} (h : j < (marks P S).length) : (cls P S)[j]? = some ((List.range P.length).filter fun c => decide (mk P S c = (marks P S)[j])) := (cls_inv P S).row j h
theorem head_of {j : Nat} {r : List Nat} (h : (cls P S)[j]? = some r) : ∃ c t, r = c :: t := by
  cases r with
  | nil => exact absurd rfl ((cls_inv P S).ne _ (List.mem_of_getElem? h))
  | cons c t => exact ⟨c, t, rfl⟩
/-- the members of a row have the mark -/
theorem mem_cls {j c : Nat} {r : List Nat} (h : (cls P S)[j]? = some r) (hc : c ∈ r) : c < P.length ∧ (marks P S)[j]? = some (mk P S c) := by
  have hj : j < (marks P S).length := by
    rw [cls_len]; exact (List.getElem?_eq_some_iff.mp h).1
  rw [cls_row hj] at h
  have h := Option.some.inj h
  subst h
  rw [List.mem_filter, List.mem_range, decide_eq_true_iff] at hc
  exact ⟨hc.1, by rw [List.getElem?_eq_getElem hj, hc.2]⟩
theorem in_cls {j c : Nat} {r : List Nat} (h : (cls P S)[j]? = some r) (hc : c < P.length) (hm : (marks P S)[j]? = some (mk P S c)) : c ∈ r := by
  obtain ⟨hj, e⟩ := List.getElem?_eq_some_iff.mp hm
  rw [cls_row hj] at h
  have h := Option.some.inj h
  subst h
  rw [List.mem_filter, List.mem_range, decide_eq_true_iff]
  exact ⟨hc, e.symm⟩
/-- each candidate has a class -/
theorem has_cls {c : Nat} (hc : c < P.length) : ∃ (j : Nat) (r : List Nat), (cls P S)[j]? = some r ∧ c ∈ r := by
  have hm := (cls_inv P S).mem c hc
  obtain ⟨j, hj, e⟩ := List.getElem_of_mem hm
  have hl : j < (marks P S).length := hj
  refine ⟨j, _, cls_row hl, ?_⟩
  rw [List.mem_filter, List.mem_range, decide_eq_true_iff]
  exact ⟨hc, e.symm⟩
theorem marks_inj {i j : Nat} {m : List Bool} (h1 : (marks P S)[i]? = some m) (h2 : (marks P S)[j]? = some m) : i = j := by
  obtain ⟨a, e1⟩ := List.getElem?_eq_some_iff.mp h1
  obtain ⟨b, e2⟩ := List.getElem?_eq_some_iff.mp h2
  exact (List.getElem_inj (cls_inv P S).nd).mp (e1.trans e2.symm)
theorem cls_one {i j c : Nat} {r s : List Nat} (h1 : (cls P S)[i]? = some r) (h2 : (cls P S)[j]? = some s) (a : c ∈ r) (b : c ∈ s) : i = j :=
  marks_inj (mem_cls h1 a).2 (mem_cls h2 b).2
theorem cls_pos (V : HV P) : 1 ≤ (cls P S).length := by
  obtain ⟨j, r, h, _⟩ := has_cls (P := P) (S := S) (c := 0) (by have := V.pos; omega)
  have := (List.getElem?_eq_some_iff.mp h).1
  omega
theorem cls_le : (cls P S).length ≤ P.length := by
  -- the heads are unlike candidates
  have h1 : ((cls P S).map fun r => r.headD 0).Nodup := by
    refine List.pairwise_iff_getElem.mpr fun i j hi hj hij => ?_
    rw [List.length_map] at hj
    intro e
    rw [List.getElem_map, List.getElem_map] at e
    have gi : (cls P S)[i]? = some (cls P S)[i] := List.getElem?_eq_getElem (by omega)
    have gj : (cls P S)[j]? = some (cls P S)[j] := List.getElem?_eq_getElem hj
    obtain ⟨c, t, e1⟩ := head_of gi
    obtain ⟨d, u, e2⟩ := head_of gj
    rw [e1, e2] at e
    rw [e1] at gi; rw [e2] at gj
    have e : c = d := e
    subst e
    have := cls_one gi gj List.mem_cons_self List.mem_cons_self
    omega
  have h2 := len_le_of_sub (r := List.range P.length) h1 fun x hx => by
    obtain ⟨r, hr, e⟩ := List.mem_map.mp hx
    obtain ⟨j, hj⟩ := List.getElem?_of_mem hr
    obtain ⟨c, t, e1⟩ := head_of hj
    subst e1
    have e : c = x := e
    subst e
    exact List.mem_range.mpr (mem_cls hj List.mem_cons_self).1
  simpa using h2
/-- a make that can be tested has all of a class or none -/
theorem br_alike {j c d m : Nat} {r : List Nat} (h : (cls P S)[j]? = some r) (hc : c ∈ r) (hd : d ∈ r) (hm : m ∈ testable P.length S) : br P c m = br P d m := by
  have e : mk P S c = mk P S d := Option.some.inj ((mem_cls h hc).2.symm.trans (mem_cls h hd).2)
  have := List.map_inj_left.mp e
  exact this m hm
theorem mem_testable {n m : Nat} : m ∈ testable n S ↔ m < n ∧ m ∉ S := by
  unfold testable
  rw [List.mem_filter, List.mem_range, decide_eq_true_iff]
/-- unlike classes are parted by a make -/
theorem br_apart {i j c d : Nat} {r s : List Nat} (h1 : (cls P S)[i]? = some r) (h2 : (cls P S)[j]? = some s) (hc : c ∈ r) (hd : d ∈ s) (hij : i ≠ j) : ∃ m ∈ testable P.length S, br P c m ≠ br P d m := by
  apply Classical.byContradiction
  intro no
  have e : mk P S c = mk P S d := List.map_inj_left.mpr fun m hm => Classical.byContradiction fun q => no ⟨m, hm, q⟩
  have a := (mem_cls h1 hc).2
  rw [e] at a
  exact hij (marks_inj a (mem_cls h2 hd).2)
end

/-! ### the rows of the tests -/
def hd (F : List (List Nat)) (k : Nat) : Nat := (F.getD k []).headD 0
def rowBy (P F : List (List Nat)) (m : Nat) : List Nat := (List.range F.length).filter fun k => br P (hd F k) m
def testStep (rw : Nat → List Nat) (N : Nat) (st : List (List Nat) × List Nat) (m : Nat) : List (List Nat) × List Nat :=
  if 0 < (rw m).length ∧ (rw m).length < N ∧ rw m ∉ st.1 then (st.1 ++ [rw m], st.2 ++ [m]) else st
def testsI (rw : Nat → List Nat) (N : Nat) (T : List Nat) (i : Nat) : List (List Nat) × List Nat := (T.take i).foldl (testStep rw N) ([], [])
def tests (P : List (List Nat)) (S : List Nat) : List Nat := (testsI (rowBy P (cls P S)) (cls P S).length (testable P.length S) (testable P.length S).length).2
def rowsOf (P : List (List Nat)) (S : List Nat) : List (Nat × List Nat) := (tests P S).map fun m => (m, rowBy P (cls P S) m)
theorem testsI_succ (rw : Nat → List Nat) (N : Nat) (T : List Nat) (i : Nat) {m : Nat} (h : T[i]? = some m) : testsI rw N T (i + 1) = testStep rw N (testsI rw N T i) m := by
  unfold testsI
  rw [List.take_add_one, List.foldl_append, h]; rfl
structure TestsInv (rw : Nat → List Nat) (N : Nat) (T : List Nat) (st : List (List Nat) × List Nat) : Prop where
  rows : st.1 = st.2.map rw
  good : ∀ m ∈ st.2, m ∈ T ∧ 0 < (rw m).length ∧ (rw m).length < N
  all : ∀ m ∈ T, 0 < (rw m).length → (rw m).length < N → rw m ∈ st.1
theorem testsInv (rw : Nat → List Nat) (N : Nat) (T : List Nat) : ∀ i, TestsInv rw N (T.take i) (testsI rw N T i)
  | 0 => ⟨rfl, fun m h => by simp [testsI] at h, fun m h => by simp at h⟩
  | i + 1 => by
    have I := testsInv rw N T i
    cases h : T[i]? with
    | none =>
      have e : T.take (i + 1) = T.take i := by rw [List.take_add_one, h]; simp
      unfold testsI
      rw [e]
      exact I
    | some m =>
      have e : T.take (i + 1) = T.take i ++ [m] := by rw [List.take_add_one, h]; rfl
      rw [testsI_succ rw N T i h, e]
      unfold testStep
      split
      · rename_i c
        refine ⟨by simp [I.rows], fun m' hm' => ?_, fun m' hm' h1 h2 => ?_⟩
        · rcases List.mem_append.mp hm' with q | q
          · have := I.good m' q; exact ⟨List.mem_append_left _ this.1, this.2⟩
          · simp at q; subst q; exact ⟨by simp, c.1, c.2.1⟩
        · rcases List.mem_append.mp hm' with q | q
          · exact List.mem_append_left _ (I.all m' q h1 h2)
          · simp at q; subst q; simp
      · rename_i c
        refine ⟨I.rows, fun m' hm' => ?_, fun m' hm' h1 h2 => ?_⟩
        · have := I.good m' hm'; exact ⟨List.mem_append_left _ this.1, this.2⟩
        · rcases List.mem_append.mp hm' with q | q
          · exact I.all m' q h1 h2
          · simp at q; subst q
            exact Classical.byContradiction fun no => c ⟨h1, h2, no⟩
theorem tests_inv (P : List (List Nat)) (S : List Nat) : TestsInv (rowBy P (cls P S)) (cls P S).length (testable P.length S) (testsI (rowBy P (cls P S)) (cls P S).length (testable P.length S) (testable P.length S).length) := by
  have := testsInv (rowBy P (cls P S)) (cls P S).length (testable P.length S) (testable P.length S).length
  rwa [List.take_length] at this
end FbM

namespace FbM
/-! ### the game: states, tests, the fewest tests -/
def low (s : List Int) (row : List Nat) : List Int := (List.range s.length).map fun k => max (-1) (s.getD k 0 - (if k ∈ row then 1 else 0))
def notIn (N : Nat) (row : List Nat) : List Nat := (List.range N).filter fun k => decide (k ∉ row)
def sB (s : List Int) (row : List Nat) : List Int := low s (notIn s.length row)
def sW (s : List Int) (row : List Nat) : List Int := low s row
def ones (s : List Int) : List Nat := (List.range s.length).filter fun k => decide (0 ≤ s.getD k 0)
def inRow (s : List Int) (row : List Nat) : List Nat := (ones s).filter fun k => decide (k ∈ row)
def isUse (s : List Int) (row : List Nat) : Bool := decide (0 < (inRow s row).length) && decide ((inRow s row).length < (ones s).length)
def lives (s : List Int) : Nat := (s.map fun x => (x + 1).toNat).sum
def upd (best most : Int) : Int := if best < 0 ∨ most < best then most else best
def valStep (v : List Int → Int) (s : List Int) (best : Int) (r : Nat × List Nat) : Int := if isUse s r.2 = true then upd best (1 + max (v (sB s r.2)) (v (sW s r.2))) else best
def valI (v : List Int → Int) (rows : List (Nat × List Nat)) (s : List Int) (i : Nat) : Int := (rows.take i).foldl (valStep v s) (-1)
def valF (rows : List (Nat × List Nat)) : Nat → List Int → Int
  | 0, _ => 0
  | f + 1, s => if (ones s).length ≤ 1 then 0 else valI (valF rows f) rows s rows.length
def value (rows : List (Nat × List Nat)) (s : List Int) : Int := valF rows (lives s) s
/-- the test that needs the fewest behind it -/
def bestStep (v : List Int → Int) (s : List Int) (b : Option (Int × Nat × List Nat)) (r : Nat × List Nat) : Option (Int × Nat × List Nat) :=
  if isUse s r.2 = true then
    match b with
    | none => some (max (v (sB s r.2)) (v (sW s r.2)), r.1, r.2)
    | some x => if max (v (sB s r.2)) (v (sW s r.2)) < x.1 then some (max (v (sB s r.2)) (v (sW s r.2)), r.1, r.2) else some x
  else b
def bestI (v : List Int → Int) (rows : List (Nat × List Nat)) (s : List Int) (i : Nat) : Option (Int × Nat × List Nat) := (rows.take i).foldl (bestStep v s) none
def bestRow (rows : List (Nat × List Nat)) (s : List Int) : Option (Int × Nat × List Nat) := bestI (value rows) rows s rows.length
inductive Tree where
  | nobody
  | found (i : Nat)
  | ask (m : Nat) (b w : Tree)
def treeF (rows : List (Nat × List Nat)) : Nat → List Int → Tree
  | 0, _ => .nobody
  | f + 1, s => match ones s with
    | [] => .nobody
    | [i] => .found i
    | _ => match bestRow rows s with
      | none => .nobody
      | some (_, m, row) => .ask m (treeF rows f (sB s row)) (treeF rows f (sW s row))
def tree (rows : List (Nat × List Nat)) (s : List Int) : Tree := treeF rows (lives s + 1) s

theorem low_len (s : List Int) (row : List Nat) : (low s row).length = s.length := by simp [low]
theorem sB_len (s : List Int) (row : List Nat) : (sB s row).length = s.length := low_len _ _
theorem sW_len (s : List Int) (row : List Nat) : (sW s row).length = s.length := low_len _ _
theorem low_get {s : List Int} {row : List Nat} {k : Nat} (h : k < s.length) : (low s row).getD k 0 = max (-1) (s.getD k 0 - (if k ∈ row then 1 else 0)) := by
  rw [List.getD_eq_getElem?_getD]
  unfold low
  rw [List.getElem?_map, List.getElem?_range h]; rfl
theorem mem_ones {s : List Int} {k : Nat} : k ∈ ones s ↔ k < s.length ∧ 0 ≤ s.getD k 0 := by
  unfold ones
  rw [List.mem_filter, List.mem_range, decide_eq_true_iff]
theorem mem_notIn {N k : Nat} {row : List Nat} : k ∈ notIn N row ↔ k < N ∧ k ∉ row := by
  unfold notIn
  rw [List.mem_filter, List.mem_range, decide_eq_true_iff]
theorem mem_inRow {s : List Int} {row : List Nat} {k : Nat} : k ∈ inRow s row ↔ k ∈ ones s ∧ k ∈ row := by
  unfold inRow
  rw [List.mem_filter, decide_eq_true_iff]
theorem ones_nodup (s : List Int) : (ones s).Nodup := List.nodup_range.filter _
theorem inRow_nodup (s : List Int) (row : List Nat) : (inRow s row).Nodup := (ones_nodup s).filter _

/-- sums that fall -/
theorem sum_le : ∀ {l r : List Nat}, l.length = r.length → (∀ (i : Nat) (a b : Nat), l[i]? = some a → r[i]? = some b → a ≤ b) → l.sum ≤ r.sum
  | [], [], _, _ => Nat.le_refl _
  | a :: l, b :: r, h, k => by
    have ih := sum_le (l := l) (r := r) (by simpa using h) fun i x y hx hy => k (i + 1) x y (by simpa using hx) (by simpa using hy)
    have h0 := k 0 a b rfl rfl
    rw [List.sum_cons, List.sum_cons]; omega
  | [], _ :: _, h, _ => by simp at h
  | _ :: _, [], h, _ => by simp at h
theorem sum_lt : ∀ {l r : List Nat} {j : Nat}, l.length = r.length → (∀ (i : Nat) (a b : Nat), l[i]? = some a → r[i]? = some b → a ≤ b) → (∃ a b, l[j]? = some a ∧ r[j]? = some b ∧ a < b) → l.sum < r.sum
  | [], [], _, _, _, ⟨a, b, h, _⟩ => by simp at h
  | a :: l, b :: r, 0, h, k, ⟨x, y, h1, h2, h3⟩ => by
    have ih := sum_le (l := l) (r := r) (by simpa using h) fun i x y hx hy => k (i + 1) x y (by simpa using hx) (by simpa using hy)
    simp at h1 h2
    rw [List.sum_cons, List.sum_cons]; omega
  | a :: l, b :: r, j + 1, h, k, ⟨x, y, h1, h2, h3⟩ => by
    have ih := sum_lt (l := l) (r := r) (j := j) (by simpa using h) (fun i x y hx hy => k (i + 1) x y (by simpa using hx) (by simpa using hy)) ⟨x, y, by simpa using h1, by simpa using h2, h3⟩
    have h0 := k 0 a b rfl rfl
    rw [List.sum_cons, List.sum_cons]; omega
  | [], _ :: _, _, h, _, _ => by simp at h
  | _ :: _, [], _, h, _, _ => by simp at h
theorem lives_get {s : List Int} {i : Nat} {a : Nat} (h : (s.map fun x => (x + 1).toNat)[i]? = some a) : i < s.length ∧ a = (s.getD i 0 + 1).toNat := by
  rw [List.getElem?_map] at h
  cases e : s[i]? with
  | none => rw [e] at h; cases h
  | some x =>
    rw [e] at h
    refine ⟨(List.getElem?_eq_some_iff.mp e).1, ?_⟩
    rw [List.getD_eq_getElem?_getD, e]
    exact (Option.some.inj h).symm
theorem lives_low_le {s : List Int} {row : List Nat} (hs : ∀ x ∈ s, -1 ≤ x) : lives (low s row) ≤ lives s := by
  unfold lives
  refine sum_le (by simp [low_len]) fun i a b ha hb => ?_
  obtain ⟨_, rfl⟩ := lives_get ha
  obtain ⟨hi, rfl⟩ := lives_get hb
  rw [low_get hi]
  split <;> omega
theorem lives_low_lt {s : List Int} {row : List Nat} {k : Nat} (hk : k ∈ ones s) (hr : k ∈ row) : lives (low s row) < lives s := by
  obtain ⟨h1, h2⟩ := mem_ones.mp hk
  have gl : ∀ i, i < s.length → ((low s row).map fun x => (x + 1).toNat)[i]? = some ((low s row).getD i 0 + 1).toNat := fun i hi => by
    rw [List.getElem?_map, List.getElem?_eq_getElem (by rw [low_len]; exact hi), List.getD_eq_getElem?_getD, List.getElem?_eq_getElem (by rw [low_len]; exact hi)]; rfl
  have gs : ∀ i, i < s.length → (s.map fun x => (x + 1).toNat)[i]? = some (s.getD i 0 + 1).toNat := fun i hi => by
    rw [List.getElem?_map, List.getElem?_eq_getElem hi, List.getD_eq_getElem?_getD, List.getElem?_eq_getElem hi]; rfl
  unfold lives
  refine sum_lt (j := k) (by simp [low_len]) (fun i a b ha hb => ?_) ⟨_, _, gl k h1, gs k h1, ?_⟩
  · obtain ⟨_, rfl⟩ := lives_get ha
    obtain ⟨hi, rfl⟩ := lives_get hb
    rw [low_get hi]
    split <;> omega
  · rw [low_get h1, if_pos hr]
    omega
/-- a useful test costs a life, whatever the answer -/
theorem use_lt {s : List Int} {row : List Nat} (h : isUse s row = true) : lives (sB s row) < lives s ∧ lives (sW s row) < lives s := by
  unfold isUse at h
  rw [Bool.and_eq_true, decide_eq_true_iff, decide_eq_true_iff] at h
  constructor
  · -- some class that is in is not in the row
    have : ∃ k ∈ ones s, k ∉ row := Classical.byContradiction fun no => by
      have : (ones s).length ≤ (inRow s row).length := len_le_of_sub (ones_nodup s) fun x hx => mem_inRow.mpr ⟨hx, Classical.byContradiction fun q => no ⟨x, hx, q⟩⟩
      omega
    obtain ⟨k, h1, h2⟩ := this
    exact lives_low_lt h1 (mem_notIn.mpr ⟨(mem_ones.mp h1).1, h2⟩)
  · have : ∃ k, k ∈ inRow s row := List.exists_mem_of_length_pos h.1
    obtain ⟨k, hk⟩ := this
    obtain ⟨h1, h2⟩ := mem_inRow.mp hk
    exact lives_low_lt h1 h2
theorem lives_pos {s : List Int} (h : 1 ≤ (ones s).length) : 1 ≤ lives s := by
  obtain ⟨k, hk⟩ := List.exists_mem_of_length_pos (l := ones s) (by omega)
  have := lives_low_lt (row := [k]) hk (by simp)
  omega

theorem valI_congr {v w : List Int → Int} {s : List Int} : ∀ (rs : List (Nat × List Nat)) (b : Int), (∀ r ∈ rs, isUse s r.2 = true → v (sB s r.2) = w (sB s r.2) ∧ v (sW s r.2) = w (sW s r.2)) → rs.foldl (valStep v s) b = rs.foldl (valStep w s) b
  | [], _, _ => rfl
  | r :: rs, b, h => by
    rw [List.foldl_cons, List.foldl_cons]
    have e : valStep v s b r = valStep w s b r := by
      unfold valStep
      by_cases u : isUse s r.2 = true
      · rw [if_pos u, if_pos u, (h r List.mem_cons_self u).1, (h r List.mem_cons_self u).2]
      · rw [if_neg u, if_neg u]
    rw [e]
    exact valI_congr rs _ fun r' hr' => h r' (List.mem_cons_of_mem _ hr')
/-- enough fuel is enough -/
theorem valF_eq (rows : List (Nat × List Nat)) : ∀ (n : Nat) (s : List Int) (f g : Nat), lives s ≤ n → lives s ≤ f → lives s ≤ g → valF rows f s = valF rows g s
  | n, s, 0, 0, _, _, _ => rfl
  | n, s, 0, g + 1, _, hf, _ => by
    have : ¬ 1 ≤ (ones s).length := fun h => by have := lives_pos h; omega
    show 0 = if (ones s).length ≤ 1 then 0 else _
    rw [if_pos (by omega)]
  | n, s, f + 1, 0, _, _, hg => by
    have : ¬ 1 ≤ (ones s).length := fun h => by have := lives_pos h; omega
    show (if (ones s).length ≤ 1 then 0 else _) = (0 : Int)
    rw [if_pos (by omega)]
  | 0, s, f + 1, g + 1, hn, _, _ => by
    have : ¬ 1 ≤ (ones s).length := fun h => by have := lives_pos h; omega
    show (if (ones s).length ≤ 1 then 0 else _) = (if (ones s).length ≤ 1 then 0 else _)
    rw [if_pos (by omega), if_pos (by omega)]
  | n + 1, s, f + 1, g + 1, hn, hf, hg => by
    show (if (ones s).length ≤ 1 then 0 else valI (valF rows f) rows s rows.length) = (if (ones s).length ≤ 1 then 0 else valI (valF rows g) rows s rows.length)
    by_cases h : (ones s).length ≤ 1
    · rw [if_pos h, if_pos h]
    · rw [if_neg h, if_neg h]
      exact valI_congr _ _ fun r _ u => by
        have := use_lt u
        exact ⟨valF_eq rows n _ f g (by omega) (by omega) (by omega), valF_eq rows n _ f g (by omega) (by omega) (by omega)⟩
theorem value_eq (rows : List (Nat × List Nat)) (s : List Int) : value rows s = if (ones s).length ≤ 1 then 0 else valI (value rows) rows s rows.length := by
  unfold value
  cases e : lives s with
  | zero =>
    have : ¬ 1 ≤ (ones s).length := fun h => by have := lives_pos h; omega
    rw [if_pos (by omega)]; rfl
  | succ f =>
    show (if (ones s).length ≤ 1 then 0 else valI (valF rows f) rows s rows.length) = _
    by_cases h : (ones s).length ≤ 1
    · rw [if_pos h, if_pos h]
    · rw [if_neg h, if_neg h]
      exact valI_congr _ _ fun r _ u => by
        have := use_lt u
        exact ⟨valF_eq rows f _ _ _ (by omega) (by omega) (by omega), valF_eq rows f _ _ _ (by omega) (by omega) (by omega)⟩
theorem value_done {rows : List (Nat × List Nat)} {s : List Int} (h : (ones s).length ≤ 1) : value rows s = 0 := by rw [value_eq, if_pos h]

/-- the least of what is met -/
theorem foldl_upd (s : List Int) (v : List Int → Int) (hv : ∀ t, -1 ≤ v t) : ∀ (rs : List (Nat × List Nat)) (b : Int), -1 ≤ b →
    -1 ≤ rs.foldl (valStep v s) b ∧
    ((∀ r ∈ rs, isUse s r.2 = true → rs.foldl (valStep v s) b ≤ 1 + max (v (sB s r.2)) (v (sW s r.2)))) ∧
    (0 ≤ b → rs.foldl (valStep v s) b ≤ b) ∧
    (rs.foldl (valStep v s) b = b ∨ ∃ r ∈ rs, isUse s r.2 = true ∧ rs.foldl (valStep v s) b = 1 + max (v (sB s r.2)) (v (sW s r.2))) ∧
    ((∃ r ∈ rs, isUse s r.2 = true) → 0 ≤ rs.foldl (valStep v s) b)
  | [], b, hb => ⟨hb, by simp, fun _ => Int.le_refl _, .inl rfl, by simp⟩
  | r :: rs, b, hb => by
    rw [List.foldl_cons]
    by_cases u : isUse s r.2 = true
    · have hm : 0 ≤ 1 + max (v (sB s r.2)) (v (sW s r.2)) := by
        have := hv (sB s r.2); omega
      have e : valStep v s b r = upd b (1 + max (v (sB s r.2)) (v (sW s r.2))) := if_pos u
      have hu0 : 0 ≤ valStep v s b r := by rw [e]; unfold upd; split <;> omega
      obtain ⟨i1, i2, i3, i4, i5⟩ := foldl_upd s v hv rs (valStep v s b r) (by omega)
      have i3 := i3 hu0
      have hle : valStep v s b r ≤ 1 + max (v (sB s r.2)) (v (sW s r.2)) := by rw [e]; unfold upd; split <;> omega
      refine ⟨i1, fun r' hr' u' => ?_, fun h0 => ?_, ?_, fun _ => ?_⟩
      · rcases List.mem_cons.mp hr' with rfl | hr'
        · omega
        · exact i2 r' hr' u'
      · have : valStep v s b r ≤ b := by rw [e]; unfold upd; split <;> omega
        omega
      · rcases i4 with i4 | ⟨r', h1, h2, h3⟩
        · rw [i4, e]
          unfold upd
          split
          · exact .inr ⟨r, List.mem_cons_self, u, rfl⟩
          · exact .inl rfl
        · exact .inr ⟨r', List.mem_cons_of_mem _ h1, h2, h3⟩
      · rcases i4 with i4 | ⟨r', h1, h2, h3⟩
        · rw [i4]; exact hu0
        · rw [h3]
          have := hv (sB s r'.2); omega
    · have e : valStep v s b r = b := if_neg u
      rw [e]
      obtain ⟨i1, i2, i3, i4, i5⟩ := foldl_upd s v hv rs b hb
      refine ⟨i1, fun r' hr' u' => ?_, i3, ?_, ?_⟩
      · rcases List.mem_cons.mp hr' with rfl | hr'
        · exact absurd u' u
        · exact i2 r' hr' u'
      · rcases i4 with i4 | ⟨r', h1, h2, h3⟩
        · exact .inl i4
        · exact .inr ⟨r', List.mem_cons_of_mem _ h1, h2, h3⟩
      · rintro ⟨r', h1, h2⟩
        rcases List.mem_cons.mp h1 with rfl | h1
        · exact absurd h2 u
        · exact i5 ⟨r', h1, h2⟩
theorem value_ge (rows : List (Nat × List Nat)) : ∀ (n : Nat) (s : List Int), lives s ≤ n → -1 ≤ value rows s := by
  intro n
  induction n with
  | zero =>
    intro s h
    rw [value_done (by
      have : ¬ 1 ≤ (ones s).length := fun h => by have := lives_pos h; omega
      omega)]
    omega
  | succ n ih =>
    intro s h
    rw [value_eq]
    split
    · omega
    · -- the rows that are met have less lives: replace the others
      have e : valI (value rows) rows s rows.length = valI (fun t => if lives t ≤ n then value rows t else 0) rows s rows.length :=
        valI_congr _ _ fun r _ u => by
          have := use_lt u
          rw [if_pos (by omega), if_pos (by omega)]
          exact ⟨rfl, rfl⟩
      rw [e]
      refine (foldl_upd s _ (fun t => ?_) _ _ (by omega)).1
      show -1 ≤ if lives t ≤ n then value rows t else 0
      split
      · exact ih t (by omega)
      · omega
theorem value_ge' (rows : List (Nat × List Nat)) (s : List Int) : -1 ≤ value rows s := value_ge rows _ s (Nat.le_refl _)
theorem value_le_use {rows : List (Nat × List Nat)} {s : List Int} (h : 2 ≤ (ones s).length) {r : Nat × List Nat} (hr : r ∈ rows) (u : isUse s r.2 = true) : value rows s ≤ 1 + max (value rows (sB s r.2)) (value rows (sW s r.2)) := by
  rw [value_eq, if_neg (by omega)]
  unfold valI
  rw [List.take_length]
  exact (foldl_upd s _ (value_ge' rows) rows (-1) (by omega)).2.1 r hr u

/-- tests part all classes -/
structure Parts (rows : List (Nat × List Nat)) (N : Nat) : Prop where
  sep : ∀ i j, i < N → j < N → i ≠ j → ∃ r ∈ rows, (i ∈ r.2 ∧ j ∉ r.2) ∨ (i ∉ r.2 ∧ j ∈ r.2)
theorem parts_use {rows : List (Nat × List Nat)} {N : Nat} (p : Parts rows N) {s : List Int} (hs : s.length = N) (h : 2 ≤ (ones s).length) : ∃ r ∈ rows, isUse s r.2 = true := by
  have hnd := ones_nodup s
  match e : ones s, hnd, h with
  | a :: b :: t, hnd, h =>
    have ha : a ∈ ones s := by rw [e]; simp
    have hb : b ∈ ones s := by rw [e]; simp
    have hab : a ≠ b := fun q => by
      rw [q] at hnd
      simp at hnd
    obtain ⟨r, hr, q⟩ := p.sep a b (by rw [← hs]; exact (mem_ones.mp ha).1) (by rw [← hs]; exact (mem_ones.mp hb).1) hab
    refine ⟨r, hr, ?_⟩
    unfold isUse
    rw [Bool.and_eq_true, decide_eq_true_iff, decide_eq_true_iff]
    have key : ∀ x y, x ∈ ones s → y ∈ ones s → x ∈ r.2 → y ∉ r.2 → 0 < (inRow s r.2).length ∧ (inRow s r.2).length < (ones s).length := fun x y hx hy h1 h2 => by
      refine ⟨List.length_pos_of_mem (mem_inRow.mpr ⟨hx, h1⟩), ?_⟩
      have := len_le_of_sub (l := y :: inRow s r.2) (r := ones s) (List.nodup_cons.mpr ⟨fun q => h2 (mem_inRow.mp q).2, inRow_nodup s r.2⟩) fun z hz => by
        rcases List.mem_cons.mp hz with rfl | hz
        · exact hy
        · exact (mem_inRow.mp hz).1
      simp only [List.length_cons] at this
      omega
    rcases q with ⟨h1, h2⟩ | ⟨h1, h2⟩
    · exact key a b ha hb h1 h2
    · exact key b a hb ha h2 h1
theorem value_use {rows : List (Nat × List Nat)} {N : Nat} (p : Parts rows N) {s : List Int} (hs : s.length = N) (h : 2 ≤ (ones s).length) : 0 ≤ value rows s ∧ ∃ r ∈ rows, isUse s r.2 = true ∧ value rows s = 1 + max (value rows (sB s r.2)) (value rows (sW s r.2)) := by
  obtain ⟨r0, hr0, u0⟩ := parts_use p hs h
  have e : value rows s = rows.foldl (valStep (value rows) s) (-1) := by
    rw [value_eq, if_neg (by omega)]
    unfold valI
    rw [List.take_length]
  rw [e]
  obtain ⟨_, _, _, i4, i5⟩ := foldl_upd s _ (value_ge' rows) rows (-1) (by omega)
  have i5 := i5 ⟨r0, hr0, u0⟩
  refine ⟨i5, ?_⟩
  rcases i4 with i4 | ⟨r, h1, h2, h3⟩
  · omega
  · exact ⟨r, h1, h2, h3⟩
theorem value_nonneg {rows : List (Nat × List Nat)} {N : Nat} (p : Parts rows N) {s : List Int} (hs : s.length = N) : 0 ≤ value rows s := by
  by_cases h : 2 ≤ (ones s).length
  · exact (value_use p hs h).1
  · rw [value_done (by omega)]; exact Int.le_refl _
theorem value_pos {rows : List (Nat × List Nat)} {N : Nat} (p : Parts rows N) {s : List Int} (hs : s.length = N) (h : 2 ≤ (ones s).length) : 1 ≤ value rows s := by
  obtain ⟨_, r, hr, u, e⟩ := value_use p hs h
  have h1 := value_nonneg p (s := sB s r.2) (by rw [sB_len]; exact hs)
  omega
theorem value_le_lives {rows : List (Nat × List Nat)} {N : Nat} (p : Parts rows N) : ∀ (n : Nat) (s : List Int), s.length = N → lives s ≤ n → value rows s ≤ lives s := by
  intro n
  induction n with
  | zero =>
    intro s _ h
    rw [value_done (by
      have : ¬ 1 ≤ (ones s).length := fun h => by have := lives_pos h; omega
      omega)]
    omega
  | succ n ih =>
    intro s hs h
    by_cases h2 : 2 ≤ (ones s).length
    · obtain ⟨_, r, hr, u, e⟩ := value_use p hs h2
      have := use_lt u
      have h3 := ih (sB s r.2) (by rw [sB_len]; exact hs) (by omega)
      have h4 := ih (sW s r.2) (by rw [sW_len]; exact hs) (by omega)
      omega
    · rw [value_done (by omega)]; omega
/-- a test that is not useful leaves the state behind one of the answers -/
theorem value_drop {rows : List (Nat × List Nat)} {N : Nat} {s : List Int} (hs : s.length = N) (hb : ∀ x ∈ s, -1 ≤ x) {row : List Nat} (hr : 0 < row.length → row.length < N → ∃ m, (m, row) ∈ rows) (hn : row.Nodup) (hlt : ∀ k ∈ row, k < N) (h : 2 ≤ (ones s).length) :
    value rows s ≤ 1 + max (value rows (sB s row)) (value rows (sW s row)) := by
  by_cases u : isUse s row = true
  · have u' := u
    unfold isUse at u'
    rw [Bool.and_eq_true, decide_eq_true_iff, decide_eq_true_iff] at u'
    have h1 : 0 < row.length := by
      obtain ⟨k, hk⟩ := List.exists_mem_of_length_pos u'.1
      exact List.length_pos_of_mem (mem_inRow.mp hk).2
    have h2 : row.length < N := by
      have : ∃ k ∈ ones s, k ∉ row := Classical.byContradiction fun no => by
        have : (ones s).length ≤ (inRow s row).length := len_le_of_sub (ones_nodup s) fun x hx => mem_inRow.mpr ⟨hx, Classical.byContradiction fun q => no ⟨x, hx, q⟩⟩
        omega
      obtain ⟨k, hk, hk2⟩ := this
      have := len_le_of_sub (l := k :: row) (r := List.range N) (List.nodup_cons.mpr ⟨hk2, hn⟩) fun z hz => by
        rcases List.mem_cons.mp hz with rfl | hz
        · exact List.mem_range.mpr (by rw [← hs]; exact (mem_ones.mp hk).1)
        · exact List.mem_range.mpr (hlt z hz)
      rw [List.length_range] at this
      simp only [List.length_cons] at this
      omega
    obtain ⟨m, hm⟩ := hr h1 h2
    exact value_le_use (r := (m, row)) h hm u
  · -- none or all of those that are in are in the row
    have key : ∀ row' : List Nat, (∀ k ∈ ones s, k ∉ row') → low s row' = s := fun row' hk => by
      apply List.ext_getElem?
      intro i
      by_cases hi : i < s.length
      · have e1 : (low s row')[i]? = some ((low s row').getD i 0) := by
          rw [List.getD_eq_getElem?_getD, List.getElem?_eq_getElem (by rw [low_len]; exact hi)]; rfl
        have e2 : s[i]? = some (s.getD i 0) := by
          rw [List.getD_eq_getElem?_getD, List.getElem?_eq_getElem hi]; rfl
        rw [e1, e2, low_get hi]
        have hx : -1 ≤ s.getD i 0 := by
          have := hb s[i] (List.getElem_mem hi)
          rw [List.getD_eq_getElem?_getD, List.getElem?_eq_getElem hi]; exact this
        congr 1
        by_cases h0 : 0 ≤ s.getD i 0
        · rw [if_neg (hk i (mem_ones.mpr ⟨hi, h0⟩))]; omega
        · split <;> omega
      · rw [List.getElem?_eq_none (by rw [low_len]; omega), List.getElem?_eq_none (by omega)]
    by_cases h0 : 0 < (inRow s row).length
    · -- all are in the row: the answer broken changes nothing
      have hall : ∀ k ∈ ones s, k ∈ row := fun k hk => Classical.byContradiction fun q => by
        have := len_le_of_sub (l := k :: inRow s row) (r := ones s) (List.nodup_cons.mpr ⟨fun z => q (mem_inRow.mp z).2, inRow_nodup s row⟩) fun z hz => by
          rcases List.mem_cons.mp hz with rfl | hz
          · exact hk
          · exact (mem_inRow.mp hz).1
        simp only [List.length_cons] at this
        apply u
        unfold isUse
        rw [Bool.and_eq_true, decide_eq_true_iff, decide_eq_true_iff]
        exact ⟨h0, by omega⟩
      have e : sB s row = s := key _ fun k hk q => (mem_notIn.mp q).2 (hall k hk)
      rw [e]
      have := value_ge' rows s
      omega
    · have e : sW s row = s := key _ fun k hk q => h0 (List.length_pos_of_mem (mem_inRow.mpr ⟨hk, q⟩))
      rw [e]
      omega
end FbM

namespace FbM
/-! ### the best test, the tree -/
theorem bestI_succ {v : List Int → Int} {rows : List (Nat × List Nat)} {s : List Int} {i : Nat} {r : Nat × List Nat} (h : rows[i]? = some r) : bestI v rows s (i + 1) = bestStep v s (bestI v rows s i) r := by
  unfold bestI
  rw [List.take_add_one, List.foldl_append, h]; rfl
/-- what is kept is the least so far -/
structure BestOk (v : List Int → Int) (s : List Int) (rs : List (Nat × List Nat)) (b : Option (Int × Nat × List Nat)) : Prop where
  none : b = none → ∀ r ∈ rs, isUse s r.2 = false
  some : ∀ x m row, b = some (x, m, row) → (m, row) ∈ rs ∧ isUse s row = true ∧ x = max (v (sB s row)) (v (sW s row)) ∧ ∀ r ∈ rs, isUse s r.2 = true → x ≤ max (v (sB s r.2)) (v (sW s r.2))
theorem bestOk (v : List Int → Int) (rows : List (Nat × List Nat)) (s : List Int) : ∀ i, BestOk v s (rows.take i) (bestI v rows s i)
  | 0 => ⟨fun _ r h => by simp at h, fun x m row h => by simp [bestI] at h⟩
  | i + 1 => by
    have I := bestOk v rows s i
    cases h : rows[i]? with
    | none =>
      have e1 : rows.take (i + 1) = rows.take i := by rw [List.take_add_one, h]; simp
      have e2 : bestI v rows s (i + 1) = bestI v rows s i := by unfold bestI; rw [e1]
      rw [e1, e2]; exact I
    | some r =>
      have e1 : rows.take (i + 1) = rows.take i ++ [r] := by rw [List.take_add_one, h]; rfl
      rw [bestI_succ h, e1]
      unfold bestStep
      by_cases u : isUse s r.2 = true
      · rw [if_pos u]
        cases hb : bestI v rows s i with
        | none =>
          refine ⟨(fun z => nomatch z), fun x m row z => ?_⟩
          have z := Option.some.inj z
          have e : x = max (v (sB s r.2)) (v (sW s r.2)) ∧ m = r.1 ∧ row = r.2 := by
            simp only [Prod.mk.injEq] at z
            exact ⟨z.1.symm, z.2.1.symm, z.2.2.symm⟩
          obtain ⟨rfl, rfl, rfl⟩ := e
          refine ⟨by simp, u, rfl, fun r' hr' u' => ?_⟩
          rcases List.mem_append.mp hr' with q | q
          · have := I.none hb r' q
            rw [u'] at this; cases this
          · simp at q; subst q; exact Int.le_refl _
        | some y =>
          obtain ⟨y0, ym, yr⟩ := y
          obtain ⟨h1, h2, h3, h4⟩ := I.some y0 ym yr hb
          show BestOk v s _ (if max (v (sB s r.2)) (v (sW s r.2)) < y0 then _ else _)
          by_cases hlt : max (v (sB s r.2)) (v (sW s r.2)) < y0
          · rw [if_pos hlt]
            refine ⟨(fun z => nomatch z), fun x m row z => ?_⟩
            have z := Option.some.inj z
            have e : x = max (v (sB s r.2)) (v (sW s r.2)) ∧ m = r.1 ∧ row = r.2 := by
              simp only [Prod.mk.injEq] at z
              exact ⟨z.1.symm, z.2.1.symm, z.2.2.symm⟩
            obtain ⟨rfl, rfl, rfl⟩ := e
            refine ⟨by simp, u, rfl, fun r' hr' u' => ?_⟩
            rcases List.mem_append.mp hr' with q | q
            · have := h4 r' q u'; omega
            · simp at q; subst q; exact Int.le_refl _
          · rw [if_neg hlt]
            refine ⟨(fun z => nomatch z), fun x m row z => ?_⟩
            have z := Option.some.inj z
            have e : x = y0 ∧ m = ym ∧ row = yr := by
              simp only [Prod.mk.injEq] at z
              exact ⟨z.1.symm, z.2.1.symm, z.2.2.symm⟩
            obtain ⟨rfl, rfl, rfl⟩ := e
            refine ⟨List.mem_append_left _ h1, h2, h3, fun r' hr' u' => ?_⟩
            rcases List.mem_append.mp hr' with q | q
            · exact h4 r' q u'
            · simp at q; subst q; omega
      · rw [if_neg u]
        refine ⟨fun z r' hr' => ?_, fun x m row z => ?_⟩
        · rcases List.mem_append.mp hr' with q | q
          · exact I.none z r' q
          · simp at q; subst q
            cases hq : isUse s r'.2 with
            | true => exact absurd hq u
            | false => rfl
        · obtain ⟨h1, h2, h3, h4⟩ := I.some x m row z
          refine ⟨List.mem_append_left _ h1, h2, h3, fun r' hr' u' => ?_⟩
          rcases List.mem_append.mp hr' with q | q
          · exact h4 r' q u'
          · simp at q; subst q; exact absurd u' u
theorem bestRow_ok (rows : List (Nat × List Nat)) (s : List Int) : BestOk (value rows) s rows (bestRow rows s) := by
  have := bestOk (value rows) rows s rows.length
  rwa [List.take_length] at this
theorem bestRow_some {rows : List (Nat × List Nat)} {N : Nat} (p : Parts rows N) {s : List Int} (hs : s.length = N) (h : 2 ≤ (ones s).length) : ∃ x m row, bestRow rows s = some (x, m, row) ∧ (m, row) ∈ rows ∧ isUse s row = true ∧ value rows s = 1 + max (value rows (sB s row)) (value rows (sW s row)) := by
  have B := bestRow_ok rows s
  obtain ⟨_, r, hr, u, e⟩ := value_use p hs h
  cases hb : bestRow rows s with
  | none =>
    have := B.none hb r hr
    rw [u] at this; cases this
  | some y =>
    obtain ⟨x, m, row⟩ := y
    obtain ⟨h1, h2, h3, h4⟩ := B.some x m row hb
    refine ⟨x, m, row, rfl, h1, h2, ?_⟩
    have a := h4 r hr u
    have b := value_le_use h h1 h2
    show value rows s = 1 + max (value rows (sB s row)) (value rows (sW s row))
    have b : value rows s ≤ 1 + max (value rows (sB s row)) (value rows (sW s row)) := b
    omega
theorem treeF_eq (rows : List (Nat × List Nat)) : ∀ (n : Nat) (s : List Int) (f g : Nat), lives s ≤ n → lives s < f → lives s < g → treeF rows f s = treeF rows g s
  | n, s, 0, _, _, hf, _ => by omega
  | n, s, _ + 1, 0, _, _, hg => by omega
  | n, s, f + 1, g + 1, hn, hf, hg => by
    unfold treeF
    split
    · rfl
    · rfl
    · rename_i h1 h2
      have B := bestRow_ok rows s
      cases hb : bestRow rows s with
      | none => rfl
      | some y =>
        obtain ⟨x, m, row⟩ := y
        obtain ⟨_, u, _⟩ := B.some x m row hb
        have lt := use_lt u
        match n, hn with
        | 0, hn => omega
        | n + 1, hn =>
          show Tree.ask m _ _ = Tree.ask m _ _
          rw [treeF_eq rows n (sB s row) f g (by omega) (by omega) (by omega), treeF_eq rows n (sW s row) f g (by omega) (by omega) (by omega)]
theorem treeF_succ (rows : List (Nat × List Nat)) (f : Nat) (s : List Int) : treeF rows (f + 1) s = (match ones s with
    | [] => .nobody
    | [i] => .found i
    | _ => match bestRow rows s with
      | none => .nobody
      | some (_, m, row) => .ask m (treeF rows f (sB s row)) (treeF rows f (sW s row))) := rfl
theorem tree_none {rows : List (Nat × List Nat)} {s : List Int} (h : ones s = []) : tree rows s = .nobody := by
  unfold tree treeF
  rw [h]
theorem tree_one {rows : List (Nat × List Nat)} {s : List Int} {i : Nat} (h : ones s = [i]) : tree rows s = .found i := by
  unfold tree treeF
  rw [h]
theorem tree_ask {rows : List (Nat × List Nat)} {s : List Int} {x : Int} {m : Nat} {row : List Nat} (h : 2 ≤ (ones s).length) (hb : bestRow rows s = some (x, m, row)) : tree rows s = .ask m (tree rows (sB s row)) (tree rows (sW s row)) := by
  have u := ((bestRow_ok rows s).some x m row hb).2.1
  have lt := use_lt u
  have e : tree rows s = .ask m (treeF rows (lives s) (sB s row)) (treeF rows (lives s) (sW s row)) := by
    unfold tree
    rw [treeF_succ, hb]
    split
    · rename_i q; rw [q] at h; simp at h
    · rename_i q; rw [q] at h; simp at h
    · rfl
  rw [e]
  unfold tree
  rw [treeF_eq rows _ (sB s row) (lives s) (lives (sB s row) + 1) (Nat.le_refl _) (by omega) (by omega), treeF_eq rows _ (sW s row) (lives s) (lives (sW s row) + 1) (Nat.le_refl _) (by omega) (by omega)]
/-- the tests of a history part its classes -/
theorem rows_parts {P : List (List Nat)} {S : List Nat} : Parts (rowsOf P S) (cls P S).length := ⟨fun i j hi hj hij => by
  have gi : (cls P S)[i]? = some (cls P S)[i] := List.getElem?_eq_getElem hi
  have gj : (cls P S)[j]? = some (cls P S)[j] := List.getElem?_eq_getElem hj
  obtain ⟨c, t, e1⟩ := head_of gi
  obtain ⟨d, u, e2⟩ := head_of gj
  rw [e1] at gi; rw [e2] at gj
  obtain ⟨m, hm, hne⟩ := br_apart gi gj List.mem_cons_self List.mem_cons_self hij
  have hc : hd (cls P S) i = c := by unfold hd; rw [List.getD_eq_getElem?_getD, gi]; rfl
  have hd' : hd (cls P S) j = d := by unfold hd; rw [List.getD_eq_getElem?_getD, gj]; rfl
  have mem : ∀ k, k < (cls P S).length → (k ∈ rowBy P (cls P S) m ↔ br P (hd (cls P S) k) m = true) := fun k hk => by
    unfold rowBy
    rw [List.mem_filter, List.mem_range]
    exact ⟨fun h => h.2, fun h => ⟨hk, h⟩⟩
  have q : (i ∈ rowBy P (cls P S) m ∧ j ∉ rowBy P (cls P S) m) ∨ (i ∉ rowBy P (cls P S) m ∧ j ∈ rowBy P (cls P S) m) := by
    rw [mem i hi, mem j hj, hc, hd']
    cases h1 : br P c m <;> cases h2 : br P d m
    · rw [h1, h2] at hne; exact absurd rfl hne
    · exact .inr ⟨by simp, rfl⟩
    · exact .inl ⟨rfl, by simp⟩
    · rw [h1, h2] at hne; exact absurd rfl hne
  have len : 0 < (rowBy P (cls P S) m).length ∧ (rowBy P (cls P S) m).length < (cls P S).length := by
    have nd : (rowBy P (cls P S) m).Nodup := List.nodup_range.filter _
    have sub : ∀ x ∈ rowBy P (cls P S) m, x < (cls P S).length := fun x hx => List.mem_range.mp (List.mem_filter.mp hx).1
    have key : ∀ a b, a < (cls P S).length → b < (cls P S).length → a ∈ rowBy P (cls P S) m → b ∉ rowBy P (cls P S) m → 0 < (rowBy P (cls P S) m).length ∧ (rowBy P (cls P S) m).length < (cls P S).length := fun a b ha hb h1 h2 => by
      refine ⟨List.length_pos_of_mem h1, ?_⟩
      have := len_le_of_sub (l := b :: rowBy P (cls P S) m) (r := List.range (cls P S).length) (List.nodup_cons.mpr ⟨h2, nd⟩) fun x hx => by
        rcases List.mem_cons.mp hx with rfl | hx
        · exact List.mem_range.mpr hb
        · exact List.mem_range.mpr (sub x hx)
      rw [List.length_range] at this
      simp only [List.length_cons] at this
      omega
    rcases q with ⟨h1, h2⟩ | ⟨h1, h2⟩
    · exact key i j hi hj h1 h2
    · exact key j i hj hi h2 h1
  have I := tests_inv P S
  have h1 := I.all m hm len.1 len.2
  rw [I.rows] at h1
  obtain ⟨m', hm', e⟩ := List.mem_map.mp h1
  refine ⟨(m', rowBy P (cls P S) m'), List.mem_map.mpr ⟨m', hm', rfl⟩, ?_⟩
  show (i ∈ rowBy P (cls P S) m' ∧ j ∉ rowBy P (cls P S) m') ∨ (i ∉ rowBy P (cls P S) m' ∧ j ∈ rowBy P (cls P S) m')
  rw [e]; exact q⟩
theorem rows_good {P : List (List Nat)} {S : List Nat} {m : Nat} {row : List Nat} (h : (m, row) ∈ rowsOf P S) : m ∈ testable P.length S ∧ row = rowBy P (cls P S) m := by
  obtain ⟨m', hm, e⟩ := List.mem_map.mp h
  cases e
  exact ⟨((tests_inv P S).good m hm).1, rfl⟩
theorem rows_all {P : List (List Nat)} {S : List Nat} {m : Nat} (hm : m ∈ testable P.length S) (h1 : 0 < (rowBy P (cls P S) m).length) (h2 : (rowBy P (cls P S) m).length < (cls P S).length) : ∃ m', (m', rowBy P (cls P S) m) ∈ rowsOf P S := by
  have I := tests_inv P S
  have h := I.all m hm h1 h2
  rw [I.rows] at h
  obtain ⟨m', hm', e⟩ := List.mem_map.mp h
  exact ⟨m', List.mem_map.mpr ⟨m', hm', by rw [e]⟩⟩
end FbM
namespace FbM
/-! ### answers -/
def bad (P : List (List Nat)) (a : Bool × Nat) (c : Nat) : Bool := br P c a.2 != a.1
def contr (P : List (List Nat)) (A : List (Bool × Nat)) (c : Nat) : Nat := (A.filter fun a => bad P a c).length
def canBe (P : List (List Nat)) (A : List (Bool × Nat)) (k : Nat) : List Nat := (List.range P.length).filter fun c => decide (contr P A c ≤ k)
def cntJ (P : List (List Nat)) (A : List (Bool × Nat)) (i : Nat) (a : Bool × Nat) (j c : Nat) : Nat := contr P (A.take i) c + (if c < j ∧ bad P a c = true then 1 else 0)
theorem contr_succ {P : List (List Nat)} {A : List (Bool × Nat)} {i : Nat} {a : Bool × Nat} (h : A[i]? = some a) (c : Nat) : contr P (A.take (i + 1)) c = contr P (A.take i) c + (if bad P a c = true then 1 else 0) := by
  unfold contr
  rw [List.take_add_one, h, List.filter_append, List.length_append]
  congr 1
  show ([a].filter fun a => bad P a c).length = _
  by_cases q : bad P a c = true <;> simp [q]
theorem contr_snoc {P : List (List Nat)} {A : List (Bool × Nat)} {a : Bool × Nat} (c : Nat) : contr P (A ++ [a]) c = contr P A c + (if bad P a c = true then 1 else 0) := by
  unfold contr
  rw [List.filter_append, List.length_append]
  congr 1
  by_cases q : bad P a c = true <;> simp [q]
theorem contr_le {P : List (List Nat)} {A : List (Bool × Nat)} (c : Nat) : contr P A c ≤ A.length := List.length_filter_le _ _
theorem mem_canBe {P : List (List Nat)} {A : List (Bool × Nat)} {k c : Nat} : c ∈ canBe P A k ↔ c < P.length ∧ contr P A c ≤ k := by
  unfold canBe
  rw [List.mem_filter, List.mem_range, decide_eq_true_iff]
structure HL (P : List (List Nat)) : Prop extends HV P where
  four : ∀ k, (P.getD k []).length ≤ 4
  whole : (anc P (P.length - 1)).length = P.length
end FbM
namespace FbM
/-! ### the answerer -/
def wk (rows : List (Nat × List Nat)) (s : List Int) (row : List Nat) : Bool :=
  decide (value rows (sB s row) < value rows (sW s row)) || (decide (value rows (sW s row) = value rows (sB s row)) && decide (2 * (inRow s row).length < (ones s).length))
def aStep (P : List (List Nat)) (S : List Nat) (s : List Int) (m : Nat) : Bool × List Int :=
  if wk (rowsOf P S) s (rowBy P (cls P S) m) = true then (false, sW s (rowBy P (cls P S) m)) else (true, sB s (rowBy P (cls P S) m))
end FbM
namespace FbM
/-! ### the script's digits, draws -/
def cell (ns : List Int) (k : Nat) : Int := ns.getD k 0
def pos1 (c : Int) : Int := if c < 0 then 1 - 2 * c else c
def bigI (c : Int) : Nat → List Int × Int
  | 0 => ([], c)
  | i + 1 => let r := bigI c i; if 0 < r.2 then (r.1 ++ [r.2 % 1000], r.2 / 1000) else r
def seedI (s : Int) : Nat → List Int × Int
  | 0 => ([], s)
  | i + 1 => let r := seedI s i; let t := (r.2 * 16807 + 7 * (i : Int) + 1) % 2147483647; (r.1 ++ [t / 997 % 1000], t)
def digOf (c : Int) (k : Nat) : List Int := if 1000000000000000000 ≤ c then (bigI c 60).1 else (seedI ((c * 48271 + (k : Int) * 69621 + 11) % 2147483647) 12).1
def digI (ns : List Int) : Nat → List Int
  | 0 => []
  | k + 1 => digI ns k ++ digOf (pos1 (cell ns k)) k
theorem bigI_len (c : Int) : ∀ i, (bigI c i).1.length ≤ i
  | 0 => Nat.le_refl _
  | i + 1 => by
    have h := bigI_len c i
    show (if 0 < (bigI c i).2 then ((bigI c i).1 ++ [(bigI c i).2 % 1000], (bigI c i).2 / 1000) else bigI c i).1.length ≤ i + 1
    split
    · rw [List.length_append]; simp; omega
    · omega
theorem seedI_len (c : Int) : ∀ i, (seedI c i).1.length ≤ i
  | 0 => Nat.le_refl _
  | i + 1 => by
    have h := seedI_len c i
    show ((seedI c i).1 ++ [_]).length ≤ i + 1
    rw [List.length_append]; simp; omega
theorem digOf_len (c : Int) (k : Nat) : (digOf c k).length ≤ 60 := by
  unfold digOf
  split
  · exact bigI_len _ _
  · have := seedI_len ((c * 48271 + (k : Int) * 69621 + 11) % 2147483647) 12; omega
theorem digI_len (ns : List Int) : ∀ k, (digI ns k).length ≤ 60 * k
  | 0 => Nat.le_refl _
  | k + 1 => by
    have h := digI_len ns k
    have := digOf_len (pos1 (cell ns k)) k
    show (digI ns k ++ _).length ≤ _
    rw [List.length_append]; omega
def dr (ds : List Int) (n many : Nat) : Nat := if n < ds.length then (ds.getD n 0 % (many : Int)).toNat else 0
theorem dr_lt {ds : List Int} {n many : Nat} (h : 0 < many) : dr ds n many < many := by
  unfold dr
  split
  · have := Int.emod_nonneg (ds.getD n 0) (show (many : Int) ≠ 0 by omega)
    have := Int.emod_lt_of_pos (ds.getD n 0) (show (0 : Int) < many by omega)
    omega
  · exact h
def pickM (ds : List Int) (n : Nat) (ms : List Nat) : Nat := ms.getD (dr ds n 900 % ms.length) 0
theorem pickM_mem {ds : List Int} {n : Nat} {ms : List Nat} (h : ms ≠ []) : pickM ds n ms ∈ ms := by
  have hl : 0 < ms.length := List.length_pos_iff.mpr h
  have := Nat.mod_lt (dr ds n 900) hl
  unfold pickM
  rw [List.getD_eq_getElem?_getD, List.getElem?_eq_getElem this]
  exact List.getElem_mem this
end FbM
namespace FbM
/-! ### the history that the law draws -/
def two (a b : Nat) : List Nat := if a < b then [a, b] else if b < a then [b, a] else [a]
def parM (ds : List Int) (n k : Nat) (ends : List Nat) : List Nat × Nat :=
  if 2 < ends.length then ((ends.drop (dr ds n (ends.length - 1))).take 2, n + 1) else if dr ds n 6 = 0 then ([], n + 1) else (two (dr ds (n + 1) k) (dr ds (n + 2) k), n + 3)
def hRow (ds : List Int) (many : Nat) (st : List (List Nat) × List Nat × Nat) (k : Nat) : List Nat × Nat := if k = many - 1 then (st.2.1, st.2.2) else if 0 < k then parM ds st.2.2 k st.2.1 else ([], st.2.2)
def hStep (ds : List Int) (many : Nat) (st : List (List Nat) × List Nat × Nat) (k : Nat) : List (List Nat) × List Nat × Nat :=
  (st.1 ++ [(hRow ds many st k).1], st.2.1.filter (fun e => decide (e ∉ (hRow ds many st k).1)) ++ [k], (hRow ds many st k).2)
def hI (ds : List Int) (n many : Nat) : Nat → List (List Nat) × List Nat × Nat
  | 0 => ([], [], n)
  | k + 1 => hStep ds many (hI ds n many k) k
inductive Rch (P : List (List Nat)) : Nat → Nat → Prop
  | refl (j : Nat) : Rch P j j
  | step {j p e : Nat} : p ∈ P.getD e [] → Rch P j p → Rch P j e
theorem getD_in {P : List (List Nat)} {e p : Nat} (h : p ∈ P.getD e []) : e < P.length := by
  rw [List.getD_eq_getElem?_getD] at h
  cases q : P[e]? with
  | none => rw [q] at h; cases h
  | some r => exact (List.getElem?_eq_some_iff.mp q).1
theorem getD_app {P : List (List Nat)} {r : List Nat} {e : Nat} (h : e < P.length) : (P ++ [r]).getD e [] = P.getD e [] := by
  rw [List.getD_eq_getElem?_getD, List.getD_eq_getElem?_getD, List.getElem?_append_left h]
theorem getD_last {P : List (List Nat)} {r : List Nat} : (P ++ [r]).getD P.length [] = r := by
  rw [List.getD_eq_getElem?_getD, List.getElem?_append_right (Nat.le_refl _), Nat.sub_self]; rfl
theorem Rch.mono {P : List (List Nat)} {r : List Nat} {j e : Nat} (h : Rch P j e) : Rch (P ++ [r]) j e := by
  induction h with
  | refl => exact .refl _
  | step hp _ ih => exact .step (by rw [getD_app (getD_in hp)]; exact hp) ih
theorem above_inv {P : List (List Nat)} (V : HV P) {m : Nat} : ∀ i, i ≤ m + 1 → ∀ x, x ∈ aboveI P m i → m < x + i → ∀ p ∈ P.getD x [], p ∈ aboveI P m i := by
  intro i
  induction i with
  | zero =>
    intro _ x hx hlt
    have := aboveI_le P V m 0 x hx
    omega
  | succ i ih =>
    intro hi x hx hlt p hp
    rw [aboveI_succ] at hx ⊢
    unfold aboveStep at hx ⊢
    by_cases hk : m - i ∈ aboveI P m i
    · rw [if_pos hk] at hx ⊢
      rw [mem_addNew] at hx ⊢
      rcases hx with hx | hx
      · by_cases e : x = m - i
        · subst e; exact .inr hp
        · have := aboveI_le P V m i x hx
          exact .inl (ih (by omega) x hx (by omega) p hp)
      · have := V.lt _ _ hx
        omega
    · rw [if_neg hk] at hx ⊢
      have e : x ≠ m - i := fun e => hk (e ▸ hx)
      have := aboveI_le P V m i x hx
      exact ih (by omega) x hx (by omega) p hp
theorem above_closed {P : List (List Nat)} (V : HV P) {m x p : Nat} (h : x ∈ above P m) (hp : p ∈ P.getD x []) : p ∈ above P m := by
  have := above_le V h
  exact above_inv V (m + 1) (Nat.le_refl _) x h (by omega) p hp
theorem Rch.br {P : List (List Nat)} (V : HV P) {j m : Nat} (h : Rch P j m) : br P j m = true := by
  have key : ∀ {j e : Nat}, Rch P j e → e ∈ above P m → j ∈ above P m := by
    intro j e h
    induction h with
    | refl => exact fun h => h
    | step hp _ ih => exact fun he => ih (above_closed V he hp)
  exact decide_eq_true (key h (self_above P m _))
structure HI (st : List (List Nat) × List Nat × Nat) (k : Nat) : Prop where
  len : st.1.length = k
  sorted : ∀ j, (st.1.getD j []).Pairwise (· < ·)
  lt : ∀ j p, p ∈ st.1.getD j [] → p < j
  four : ∀ j, (st.1.getD j []).length ≤ 4
  es : st.2.1.Pairwise (· < ·)
  el : ∀ e ∈ st.2.1, e < k
  e3 : st.2.1.length ≤ 3
  rch : ∀ j, j < k → ∃ e ∈ st.2.1, Rch st.1 j e
theorem two_ok {a b k : Nat} (ha : a < k) (hb : b < k) : (two a b).Pairwise (· < ·) ∧ (∀ p ∈ two a b, p < k) ∧ (two a b).length ≤ 2 := by
  unfold two
  split
  · refine ⟨by simp; assumption, fun p hp => ?_, by simp⟩
    simp at hp; omega
  · split
    · refine ⟨by simp; assumption, fun p hp => ?_, by simp⟩
      simp at hp; omega
    · refine ⟨by simp, fun p hp => ?_, by simp⟩
      simp at hp; omega
theorem parM_ok {ds : List Int} {n k : Nat} {ends : List Nat} (hk : 0 < k) (es : ends.Pairwise (· < ·)) (el : ∀ e ∈ ends, e < k) : (parM ds n k ends).1.Pairwise (· < ·) ∧ (∀ p ∈ (parM ds n k ends).1, p < k) ∧ (parM ds n k ends).1.length ≤ 2 ∧ (2 < ends.length → ∃ at_, at_ + 1 < ends.length ∧ (parM ds n k ends).1 = (ends.drop at_).take 2) := by
  unfold parM
  by_cases h : 2 < ends.length
  · rw [if_pos h]
    refine ⟨(es.drop).take, fun p hp => el p (List.mem_of_mem_drop (List.mem_of_mem_take hp)), by rw [List.length_take]; omega, fun _ => ⟨dr ds n (ends.length - 1), ?_, rfl⟩⟩
    have := dr_lt (ds := ds) (n := n) (many := ends.length - 1) (by omega)
    omega
  · rw [if_neg h]
    by_cases h2 : dr ds n 6 = 0
    · rw [if_pos h2]
      exact ⟨.nil, fun p hp => (by cases hp), Nat.zero_le _, fun z => absurd z h⟩
    · rw [if_neg h2]
      obtain ⟨a, b, c⟩ := two_ok (dr_lt (ds := ds) (n := n + 1) hk) (dr_lt (ds := ds) (n := n + 2) hk)
      exact ⟨a, b, c, fun z => absurd z h⟩
theorem nodup_of_sorted {l : List Nat} (h : l.Pairwise (· < ·)) : l.Nodup := h.imp fun h => by omega
theorem hRow_ok {ds : List Int} {many : Nat} {st : List (List Nat) × List Nat × Nat} {k : Nat} (I : HI st k) : (hRow ds many st k).1.Pairwise (· < ·) ∧ (∀ p ∈ (hRow ds many st k).1, p < k) ∧ (hRow ds many st k).1.length ≤ 3 ∧ (st.2.1.filter (fun e => decide (e ∉ (hRow ds many st k).1))).length ≤ 2 := by
  have hf : ∀ l : List Nat, (st.2.1.filter (fun e => decide (e ∉ l))).length ≤ st.2.1.length := fun l => List.length_filter_le _ _
  unfold hRow
  split
  · refine ⟨I.es, I.el, I.e3, ?_⟩
    have : st.2.1.filter (fun e => decide (e ∉ st.2.1)) = [] := List.filter_eq_nil_iff.mpr fun e he => by simp [he]
    rw [this]; simp
  · split
    · rename_i hk
      obtain ⟨a, b, c, d⟩ := parM_ok (ds := ds) (n := st.2.2) hk I.es I.el
      refine ⟨a, b, by omega, ?_⟩
      by_cases h : 2 < st.2.1.length
      · obtain ⟨t, ht, e⟩ := d h
        have h3 := I.e3
        have hm : st.2.1[t]'(by omega) ∈ (parM ds st.2.2 k st.2.1).1 := by
          rw [e]
          have : (st.2.1.drop t)[0]? = some (st.2.1[t]'(by omega)) := by rw [List.getElem?_drop]; exact List.getElem?_eq_getElem _
          exact List.mem_of_getElem? (i := 0) (by rw [List.getElem?_take_of_lt (by omega)]; exact this)
        have : (st.2.1.filter (fun e => decide (e ∉ (parM ds st.2.2 k st.2.1).1))).length < st.2.1.length := by
          refine Nat.lt_of_le_of_ne (hf _) fun z => ?_
          have := (List.filter_eq_self.mp (List.filter_sublist.eq_of_length z)) _ (List.getElem_mem (by omega : t < st.2.1.length))
          have := of_decide_eq_true this
          exact this hm
        omega
      · have := hf (parM ds st.2.2 k st.2.1).1
        omega
    · refine ⟨.nil, fun p hp => (by cases hp), Nat.zero_le _, ?_⟩
      rename_i hk
      have : st.2.1 = [] := by
        cases e : st.2.1 with
        | nil => rfl
        | cons x t => have := I.el x (by rw [e]; exact List.mem_cons_self); omega
      rw [this]; simp
theorem hStep_ok {ds : List Int} {many : Nat} {st : List (List Nat) × List Nat × Nat} {k : Nat} (I : HI st k) : HI (hStep ds many st k) (k + 1) := by
  obtain ⟨a, b, c, d⟩ := hRow_ok (ds := ds) (many := many) I
  have hl := I.len
  have gl : ∀ j, (st.1 ++ [(hRow ds many st k).1]).getD j [] = if j = k then (hRow ds many st k).1 else st.1.getD j [] := fun j => by
    by_cases e : j = k
    · subst e; rw [if_pos rfl, ← hl, getD_last]
    · rw [if_neg e]
      by_cases h : j < st.1.length
      · exact getD_app h
      · rw [List.getD_eq_getElem?_getD, List.getD_eq_getElem?_getD, List.getElem?_eq_none (by rw [List.length_append]; simp; omega), List.getElem?_eq_none (by omega)]
  refine ⟨?_, fun j => ?_, fun j p hp => ?_, fun j => ?_, ?_, fun e he => ?_, ?_, fun j hj => ?_⟩
  · show (st.1 ++ [_]).length = k + 1
    rw [List.length_append, hl]; rfl
  · show ((st.1 ++ [_]).getD j []).Pairwise _
    rw [gl]; split
    · exact a
    · exact I.sorted j
  · have hp : p ∈ (st.1 ++ [(hRow ds many st k).1]).getD j [] := hp
    rw [gl] at hp
    split at hp
    · rename_i e; have := b p hp; omega
    · exact I.lt j p hp
  · show ((st.1 ++ [_]).getD j []).length ≤ 4
    rw [gl]; split
    · omega
    · exact I.four j
  · exact List.pairwise_append.mpr ⟨I.es.filter _, List.pairwise_singleton _ _, fun x hx y hy => by
      simp at hy; subst hy; exact I.el x ((List.mem_filter.mp hx).1)⟩
  · rcases List.mem_append.mp he with h | h
    · have := I.el e ((List.mem_filter.mp h).1); omega
    · simp at h; omega
  · show (st.2.1.filter _ ++ [k]).length ≤ 3
    rw [List.length_append]; simp only [List.length_singleton]; omega
  · by_cases e : j = k
    · exact ⟨k, List.mem_append.mpr (.inr (by simp)), e ▸ .refl _⟩
    · obtain ⟨x, hx, r⟩ := I.rch j (by omega)
      by_cases q : x ∈ (hRow ds many st k).1
      · exact ⟨k, List.mem_append.mpr (.inr (by simp)), .step (p := x) (by
          show x ∈ (st.1 ++ [_]).getD k []
          rw [gl, if_pos rfl]; exact q) r.mono⟩
      · exact ⟨x, List.mem_append.mpr (.inl (List.mem_filter.mpr ⟨hx, decide_eq_true q⟩)), r.mono⟩
theorem hI_ok (ds : List Int) (n many : Nat) : ∀ k, HI (hI ds n many k) k
  | 0 => ⟨rfl, fun j => by simp [hI], fun j p hp => by simp [hI] at hp, fun j => by simp [hI], .nil, fun e he => (by cases he), Nat.zero_le _, fun j hj => by omega⟩
  | k + 1 => hStep_ok (hI_ok ds n many k)
theorem hI_last {ds : List Int} {n many : Nat} (h : 1 ≤ many) : (hI ds n many many).2.1 = [many - 1] := by
  obtain ⟨k, rfl⟩ : ∃ k, many = k + 1 := ⟨many - 1, by omega⟩
  show ((hI ds n (k + 1) k).2.1.filter (fun e => decide (e ∉ (hRow ds (k + 1) (hI ds n (k + 1) k) k).1)) ++ [k]) = [k + 1 - 1]
  have e : (hRow ds (k + 1) (hI ds n (k + 1) k) k).1 = (hI ds n (k + 1) k).2.1 := by
    unfold hRow
    rw [if_pos (by omega)]
  rw [e]
  have : (hI ds n (k + 1) k).2.1.filter (fun e => decide (e ∉ (hI ds n (k + 1) k).2.1)) = [] := List.filter_eq_nil_iff.mpr fun e he => by simp [he]
  rw [this]; rfl
theorem hI_HL {ds : List Int} {n many : Nat} (h : 1 ≤ many) (h2 : many ≤ 24) : HL (hI ds n many many).1 := by
  have I := hI_ok ds n many many
  have V : HV (hI ds n many many).1 := ⟨by rw [I.len]; exact h, by rw [I.len]; exact h2, I.sorted, I.lt⟩
  refine ⟨V, I.four, ?_⟩
  have e : (hI ds n many many).1.length - 1 + 1 = (hI ds n many many).1.length := by have := I.len; omega
  unfold anc
  rw [e]
  have : (List.range (hI ds n many many).1.length).filter (fun c => br (hI ds n many many).1 c ((hI ds n many many).1.length - 1)) = List.range (hI ds n many many).1.length := List.filter_eq_self.mpr fun c hc => by
    have hc := List.mem_range.mp hc
    rw [I.len] at hc
    obtain ⟨e, he, r⟩ := I.rch c hc
    rw [hI_last h] at he
    simp at he
    rw [I.len, ← he]
    exact r.br V
  rw [this, List.length_range]
end FbM
namespace FbM
/-! ### what the game's places tell -/
structure SI (P : List (List Nat)) (S : List Nat) (k : Nat) (A : List (Bool × Nat)) (s : List Int) : Prop where
  len : s.length = (cls P S).length
  at_ : ∀ j, j < (cls P S).length → s.getD j 0 = max (-1) ((k : Int) - (contr P A (hd (cls P S) j) : Nat))
  tst : ∀ a ∈ A, a.2 ∈ testable P.length S
theorem si0 {P : List (List Nat)} {S : List Nat} {k : Nat} : SI P S k [] (List.replicate (cls P S).length (k : Int)) := by
  refine ⟨List.length_replicate .., fun j hj => ?_, fun a ha => (by cases ha)⟩
  rw [List.getD_eq_getElem?_getD, List.getElem?_replicate, if_pos hj]
  show (k : Int) = max (-1) ((k : Int) - ((0 : Nat) : Int))
  omega
def aft (P : List (List Nat)) (S : List Nat) (s : List Int) (b : Bool) (m : Nat) : List Int := if b then sB s (rowBy P (cls P S) m) else sW s (rowBy P (cls P S) m)
theorem aft_len {P : List (List Nat)} {S : List Nat} {s : List Int} {b : Bool} {m : Nat} : (aft P S s b m).length = s.length := by
  unfold aft; split
  · exact sB_len _ _
  · exact sW_len _ _
theorem mem_rowBy {P F : List (List Nat)} {m j : Nat} : j ∈ rowBy P F m ↔ j < F.length ∧ br P (hd F j) m = true := by
  unfold rowBy
  rw [List.mem_filter, List.mem_range]
theorem SI.step {P : List (List Nat)} {S : List Nat} {k : Nat} {A : List (Bool × Nat)} {s : List Int} (I : SI P S k A s) {m : Nat} (hm : m ∈ testable P.length S) (b : Bool) : SI P S k (A ++ [(b, m)]) (aft P S s b m) := by
  refine ⟨by rw [aft_len]; exact I.len, fun j hj => ?_, fun a ha => ?_⟩
  · have h0 := I.at_ j hj
    have hjl : j < s.length := by rw [I.len]; exact hj
    rw [contr_snoc]
    have hc := contr_le (P := P) (A := A) (hd (cls P S) j)
    unfold aft
    cases b with
    | true =>
      rw [if_pos rfl]
      unfold sB
      rw [low_get hjl, h0]
      have e : j ∈ notIn s.length (rowBy P (cls P S) m) ↔ bad P (true, m) (hd (cls P S) j) = true := by
        rw [mem_notIn, mem_rowBy]
        unfold bad
        cases br P (hd (cls P S) j) m <;> simp [hjl, hj]
      by_cases q : bad P (true, m) (hd (cls P S) j) = true
      · rw [if_pos (e.mpr q), if_pos q]; omega
      · rw [if_neg (fun z => q (e.mp z)), if_neg q]; omega
    | false =>
      rw [if_neg Bool.false_ne_true]
      unfold sW
      rw [low_get hjl, h0]
      have e : j ∈ rowBy P (cls P S) m ↔ bad P (false, m) (hd (cls P S) j) = true := by
        rw [mem_rowBy]
        unfold bad
        cases br P (hd (cls P S) j) m <;> simp [hj]
      by_cases q : bad P (false, m) (hd (cls P S) j) = true
      · rw [if_pos (e.mpr q), if_pos q]; omega
      · rw [if_neg (fun z => q (e.mp z)), if_neg q]; omega
  · rcases List.mem_append.mp ha with h | h
    · exact I.tst a h
    · simp at h; subst h; exact hm
theorem hd_in {F : List (List Nat)} {j : Nat} {r : List Nat} (h : F[j]? = some r) (hr : r ≠ []) : hd F j ∈ r := by
  unfold hd
  rw [List.getD_eq_getElem?_getD, h]
  cases r with
  | nil => exact absurd rfl hr
  | cons a t => exact List.mem_cons_self
theorem SI.alike {P : List (List Nat)} {S : List Nat} {k : Nat} {A : List (Bool × Nat)} {s : List Int} (I : SI P S k A s) {j c : Nat} {r : List Nat} (h : (cls P S)[j]? = some r) (hc : c ∈ r) : contr P A c = contr P A (hd (cls P S) j) := by
  have hr : hd (cls P S) j ∈ r := hd_in h ((cls_inv P S).ne r (List.mem_of_getElem? h))
  unfold contr
  congr 1
  apply List.filter_congr
  intro a ha
  unfold bad
  rw [br_alike h hc hr (I.tst a ha)]
theorem SI.can {P : List (List Nat)} {S : List Nat} {k : Nat} {A : List (Bool × Nat)} {s : List Int} (I : SI P S k A s) {j c : Nat} {r : List Nat} (h : (cls P S)[j]? = some r) (hc : c ∈ r) : c ∈ canBe P A k ↔ j ∈ ones s := by
  have hj := (List.getElem?_eq_some_iff.mp h).1
  rw [mem_canBe, mem_ones, I.at_ j hj, I.alike h hc, I.len]
  have := (mem_cls h hc).1
  constructor
  · rintro ⟨_, h2⟩; exact ⟨hj, by omega⟩
  · rintro ⟨_, h2⟩; exact ⟨this, by omega⟩
/-! ### the tree walked down, with lies -/
abbrev Play := List Int × List (Bool × Nat)
def fStep (P : List (List Nat)) (S : List Nat) (truth : Nat) (lies : List Nat) (st : Play) : Play :=
  if 2 ≤ (ones st.1).length then
    match bestRow (rowsOf P S) st.1 with
    | none => st
    | some (_, m, _) => (aft P S st.1 (br P truth m != decide (st.2.length ∈ lies)) m, st.2 ++ [(br P truth m != decide (st.2.length ∈ lies), m)])
  else st
def fI (P : List (List Nat)) (S : List Nat) (k truth : Nat) (lies : List Nat) : Nat → Play
  | 0 => (List.replicate (cls P S).length (k : Int), [])
  | i + 1 => fStep P S truth lies (fI P S k truth lies i)
structure FInv (P : List (List Nat)) (S : List Nat) (k truth : Nat) (lies : List Nat) (st : Play) : Prop where
  si : SI P S k st.2 st.1
  lie : contr P st.2 truth = ((List.range st.2.length).filter fun i => decide (i ∈ lies)).length
theorem fStep_ok {P : List (List Nat)} {S : List Nat} {k truth : Nat} {lies : List Nat} {st : Play} (I : FInv P S k truth lies st) : FInv P S k truth lies (fStep P S truth lies st) ∧
    (2 ≤ (ones st.1).length → ∃ x m row, bestRow (rowsOf P S) st.1 = some (x, m, row) ∧ m ∈ testable P.length S ∧ row = rowBy P (cls P S) m ∧ isUse st.1 row = true ∧
      fStep P S truth lies st = (aft P S st.1 (br P truth m != decide (st.2.length ∈ lies)) m, st.2 ++ [(br P truth m != decide (st.2.length ∈ lies), m)]) ∧ value (rowsOf P S) (fStep P S truth lies st).1 + 1 ≤ value (rowsOf P S) st.1) := by
  by_cases h : 2 ≤ (ones st.1).length
  · obtain ⟨x, m, row, hb, hm, hu, hv⟩ := bestRow_some (rows_parts (P := P) (S := S)) I.si.len h
    obtain ⟨ht, hrow⟩ := rows_good hm
    have e : fStep P S truth lies st = (aft P S st.1 (br P truth m != decide (st.2.length ∈ lies)) m, st.2 ++ [(br P truth m != decide (st.2.length ∈ lies), m)]) := by
      unfold fStep
      rw [if_pos h, hb]
    rw [e]
    refine ⟨⟨I.si.step ht _, ?_⟩, fun _ => ⟨x, m, row, hb, ht, hrow, hu, rfl, ?_⟩⟩
    · rw [contr_snoc, I.lie, List.length_append, List.length_singleton, List.range_succ, List.filter_append, List.length_append]
      congr 1
      unfold bad
      cases br P truth m <;> by_cases q : st.2.length ∈ lies <;> simp [q]
    · subst hrow
      unfold aft
      show value (rowsOf P S) (if _ then _ else _) + 1 ≤ _
      rw [hv]
      split <;> omega
  · have e : fStep P S truth lies st = st := by unfold fStep; rw [if_neg h]
    rw [e]
    exact ⟨I, fun z => absurd z h⟩
theorem fI_ok {P : List (List Nat)} {S : List Nat} {k truth : Nat} {lies : List Nat} : ∀ i, FInv P S k truth lies (fI P S k truth lies i)
  | 0 => ⟨si0, rfl⟩
  | i + 1 => (fStep_ok (fI_ok i)).1
theorem fI_val {P : List (List Nat)} {S : List Nat} {k truth : Nat} {lies : List Nat} : ∀ i, 2 ≤ (ones (fI P S k truth lies i).1).length → value (rowsOf P S) (fI P S k truth lies i).1 + i ≤ value (rowsOf P S) (List.replicate (cls P S).length (k : Int))
  | 0, _ => by show value (rowsOf P S) (List.replicate (cls P S).length (k : Int)) + ((0 : Nat) : Int) ≤ _; omega
  | i + 1, h => by
    have F := fStep_ok (fI_ok (P := P) (S := S) (k := k) (truth := truth) (lies := lies) i)
    by_cases q : 2 ≤ (ones (fI P S k truth lies i).1).length
    · obtain ⟨x, m, row, _, _, _, _, _, h2⟩ := F.2 q
      have := fI_val i q
      have h2 : value (rowsOf P S) (fI P S k truth lies (i + 1)).1 + 1 ≤ value (rowsOf P S) (fI P S k truth lies i).1 := h2
      omega
    · exfalso
      have e : fI P S k truth lies (i + 1) = fI P S k truth lies i := by
        show fStep P S truth lies (fI P S k truth lies i) = _
        unfold fStep
        rw [if_neg q]
      rw [e] at h
      exact q h
theorem fI_len {P : List (List Nat)} {S : List Nat} {k truth : Nat} {lies : List Nat} : ∀ i, (fI P S k truth lies i).2.length ≤ i
  | 0 => Nat.le_refl _
  | i + 1 => by
    have := fI_len (P := P) (S := S) (k := k) (truth := truth) (lies := lies) i
    show (fStep P S truth lies (fI P S k truth lies i)).2.length ≤ i + 1
    unfold fStep
    split
    · split
      · omega
      · rw [List.length_append]; simp; omega
    · omega
/-- at the end: one class is left, the truth's -/
theorem fI_end {P : List (List Nat)} {S : List Nat} {k truth : Nat} {lies : List Nat} (ht : truth < P.length) (hl : lies.length ≤ k) {most : Nat} (hm : value (rowsOf P S) (List.replicate (cls P S).length (k : Int)) ≤ (most : Int)) :
    ∃ j r, (cls P S)[j]? = some r ∧ truth ∈ r ∧ ones (fI P S k truth lies most).1 = [j] ∧ truth ∈ canBe P (fI P S k truth lies most).2 k ∧ ∀ c ∈ canBe P (fI P S k truth lies most).2 k, c ∈ r := by
  have I := fI_ok (P := P) (S := S) (k := k) (truth := truth) (lies := lies) most
  obtain ⟨j, r, hj, hr⟩ := has_cls (S := S) ht
  have h1 : (ones (fI P S k truth lies most).1).length ≤ 1 := by
    refine Nat.le_of_not_lt fun z => ?_
    have := fI_val most z
    have := value_pos (rows_parts (P := P) (S := S)) I.si.len z
    omega
  have hc : truth ∈ canBe P (fI P S k truth lies most).2 k := by
    rw [mem_canBe]
    refine ⟨ht, ?_⟩
    rw [I.lie]
    refine Nat.le_trans (len_le_of_sub (r := lies) (List.nodup_range.filter _) fun x hx => ?_) hl
    exact of_decide_eq_true (List.mem_filter.mp hx).2
  have ho : j ∈ ones (fI P S k truth lies most).1 := (I.si.can hj hr).mp hc
  have ho1 : ones (fI P S k truth lies most).1 = [j] := by
    match e : ones (fI P S k truth lies most).1, h1, ho with
    | [x], _, ho => simp at ho; rw [ho]
  refine ⟨j, r, hj, hr, ho1, hc, fun c hcc => ?_⟩
  obtain ⟨i, r', hi, hr'⟩ := has_cls (S := S) (mem_canBe.mp hcc).1
  have := (I.si.can hi hr').mp hcc
  rw [ho1] at this
  simp at this
  subst this
  rw [hj] at hi
  cases hi
  exact hr'
/-! ### held out -/
theorem aStep_eq {P : List (List Nat)} {S : List Nat} {s : List Int} {m : Nat} : (aStep P S s m).2 = aft P S s (aStep P S s m).1 m := by
  unfold aStep aft
  split <;> rfl
theorem aStep_val {P : List (List Nat)} {S : List Nat} {s : List Int} {m : Nat} (hs : s.length = (cls P S).length) (hb : ∀ x ∈ s, -1 ≤ x) (hm : m ∈ testable P.length S) (h : 2 ≤ (ones s).length) : value (rowsOf P S) s ≤ 1 + value (rowsOf P S) (aStep P S s m).2 := by
  have := value_drop (rows := rowsOf P S) hs hb (row := rowBy P (cls P S) m) (fun h1 h2 => rows_all hm h1 h2) (List.nodup_range.filter _) (fun k hk => (mem_rowBy.mp hk).1) h
  have e : value (rowsOf P S) (aStep P S s m).2 = max (value (rowsOf P S) (sB s (rowBy P (cls P S) m))) (value (rowsOf P S) (sW s (rowBy P (cls P S) m))) := by
    unfold aStep
    by_cases q : wk (rowsOf P S) s (rowBy P (cls P S) m) = true
    · rw [if_pos q]
      unfold wk at q
      simp at q
      show value (rowsOf P S) (sW s (rowBy P (cls P S) m)) = _
      omega
    · rw [if_neg q]
      unfold wk at q
      simp at q
      show value (rowsOf P S) (sB s (rowBy P (cls P S) m)) = _
      omega
  omega
def hoI (P : List (List Nat)) (S : List Nat) (k : Nat) (ds : List Int) (n : Nat) : Nat → Play
  | 0 => (List.replicate (cls P S).length (k : Int), [])
  | i + 1 => let st := hoI P S k ds n i; let m := pickM ds (n + i) (testable P.length S); ((aStep P S st.1 m).2, st.2 ++ [((aStep P S st.1 m).1, m)])
theorem hoI_len {P : List (List Nat)} {S : List Nat} {k : Nat} {ds : List Int} {n : Nat} : ∀ i, (hoI P S k ds n i).2.length = i
  | 0 => rfl
  | i + 1 => by
    show ((hoI P S k ds n i).2 ++ [_]).length = i + 1
    rw [List.length_append, hoI_len i]; rfl
theorem hoI_si {P : List (List Nat)} {S : List Nat} {k : Nat} {ds : List Int} {n : Nat} (hne : testable P.length S ≠ []) : ∀ i, SI P S k (hoI P S k ds n i).2 (hoI P S k ds n i).1
  | 0 => si0
  | i + 1 => by
    have := (hoI_si (k := k) (ds := ds) (n := n) hne i).step (pickM_mem (ds := ds) (n := n + i) hne) (aStep P S (hoI P S k ds n i).1 (pickM ds (n + i) (testable P.length S))).1
    rw [← aStep_eq] at this
    exact this
theorem si_ge {P : List (List Nat)} {S : List Nat} {k : Nat} {A : List (Bool × Nat)} {s : List Int} (I : SI P S k A s) : ∀ x ∈ s, -1 ≤ x := fun x hx => by
  obtain ⟨j, hj⟩ := List.getElem?_of_mem hx
  have jl := (List.getElem?_eq_some_iff.mp hj).1
  have := I.at_ j (by rw [← I.len]; exact jl)
  rw [List.getD_eq_getElem?_getD, hj] at this
  have this : x = _ := this
  omega
theorem hoI_val {P : List (List Nat)} {S : List Nat} {k : Nat} {ds : List Int} {n : Nat} (hne : testable P.length S ≠ []) : ∀ i : Nat, (i : Int) + 1 ≤ value (rowsOf P S) (List.replicate (cls P S).length (k : Int)) → value (rowsOf P S) (List.replicate (cls P S).length (k : Int)) ≤ value (rowsOf P S) (hoI P S k ds n i).1 + i
  | 0, _ => by show _ ≤ value (rowsOf P S) (List.replicate (cls P S).length (k : Int)) + ((0 : Nat) : Int); omega
  | i + 1, h => by
    have ih := hoI_val (k := k) (ds := ds) (n := n) hne i (by omega)
    have I := hoI_si (k := k) (ds := ds) (n := n) hne i
    have h2 : 2 ≤ (ones (hoI P S k ds n i).1).length := by
      refine Nat.le_of_not_lt fun z => ?_
      have := value_done (rows := rowsOf P S) (s := (hoI P S k ds n i).1) (by omega)
      omega
    have := aStep_val I.len (si_ge I) (pickM_mem (ds := ds) (n := n + i) hne) h2
    have this : value (rowsOf P S) (hoI P S k ds n i).1 ≤ 1 + value (rowsOf P S) (hoI P S k ds n (i + 1)).1 := this
    omega
theorem hoI_end {P : List (List Nat)} {S : List Nat} {k : Nat} {ds : List Int} {n : Nat} (hne : testable P.length S ≠ []) {many : Nat} (h : value (rowsOf P S) (List.replicate (cls P S).length (k : Int)) = (many : Int) + 1) :
    ∃ (i j : Nat) (r q : List Nat) (a b : Nat), i ≠ j ∧ (cls P S)[i]? = some r ∧ (cls P S)[j]? = some q ∧ a ∈ r ∧ b ∈ q ∧ a ∈ canBe P (hoI P S k ds n many).2 k ∧ b ∈ canBe P (hoI P S k ds n many).2 k := by
  have hv := hoI_val (k := k) (ds := ds) (n := n) hne many (by omega)
  have I := hoI_si (k := k) (ds := ds) (n := n) hne many
  have h2 : 2 ≤ (ones (hoI P S k ds n many).1).length := by
    refine Nat.le_of_not_lt fun z => ?_
    have := value_done (rows := rowsOf P S) (s := (hoI P S k ds n many).1) (by omega)
    omega
  obtain ⟨i, j, hi, hj, hij⟩ : ∃ i j, i ∈ ones (hoI P S k ds n many).1 ∧ j ∈ ones (hoI P S k ds n many).1 ∧ i ≠ j := by
    have hnd := ones_nodup (hoI P S k ds n many).1
    match e : ones (hoI P S k ds n many).1, hnd, h2 with
    | x :: y :: t, hnd, _ =>
      refine ⟨x, y, by simp, by simp, ?_⟩
      have := (List.nodup_cons.mp hnd).1
      exact fun z => this (by simp [z])
  have il := (mem_ones.mp hi).1
  have jl := (mem_ones.mp hj).1
  rw [I.len] at il jl
  have gi := List.getElem?_eq_getElem il
  have gj := List.getElem?_eq_getElem jl
  have ai := hd_in gi ((cls_inv P S).ne _ (List.mem_of_getElem? gi))
  have aj := hd_in gj ((cls_inv P S).ne _ (List.mem_of_getElem? gj))
  exact ⟨i, j, _, _, _, _, hij, gi, gj, ai, aj, (I.can gi ai).mpr hi, (I.can gj aj).mpr hj⟩
theorem lives_rep (k : Nat) : ∀ N : Nat, lives (List.replicate N (k : Int)) = N * (k + 1)
  | 0 => by simp [lives]
  | N + 1 => by
    have := lives_rep k N
    unfold lives at this ⊢
    rw [List.replicate_succ, List.map_cons, List.sum_cons, this, Nat.succ_mul]
    omega
end FbM
namespace Fb
open PySem L2

/-! ### readings straight from the syntax -/
section
variable {X : Cx}
def WE (X : Cx) (e : Expr) : TE := fun σ H Q => ∃ t, PE X e t ∧ t σ H Q
def WT (X : Cx) (e : Expr) : TT := fun σ H Q => ∃ t, PT X e t ∧ t σ H Q
def WW (X : Cx) (e : Expr) : TT := fun σ H Q => ∃ t, PW X e t ∧ t σ H Q
def WA (X : Cx) (es : List Expr) : TA := fun σ H Q => ∃ t, PA X es t ∧ t σ H Q
def WG (X : Cx) (tg : Expr) : TG := fun v σ H Q => ∃ t, PG X tg t ∧ t v σ H Q
def WGs (X : Cx) (tgs : List Expr) : TGs := fun vs σ H Q => ∃ t, PGs X tgs t ∧ t vs σ H Q
def WI (X : Cx) (tg it : Expr) : TI := fun σ H R => ∃ t, PI X tg it t ∧ t σ H R
def WS (X : Cx) (st : Stmt) : TS := fun D σ H => ∃ t, PS X st t ∧ t D σ H
def WB (X : Cx) (sts : List Stmt) : TS := fun D σ H => ∃ t, PSs X sts t ∧ t D σ H
theorem we {e} : PE X e (WE X e) := ⟨fun pins s σ H Q I ⟨t, ht, q⟩ => ht.run pins s σ H Q I q⟩
theorem wt {e} : PT X e (WT X e) := ⟨fun pins s σ H Q I ⟨t, ht, q⟩ => ht.run pins s σ H Q I q⟩
theorem ww {e} : PW X e (WW X e) := ⟨fun wh pins s σ H Q I ⟨t, ht, q⟩ => ht.run wh pins s σ H Q I q⟩
theorem wa {es} : PA X es (WA X es) := ⟨fun pos pins s σ H Q I ⟨t, ht, q⟩ => ht.run pos pins s σ H Q I q⟩
theorem wg {tg} : PG X tg (WG X tg) := ⟨fun pins s σ H v u Q I r ⟨t, ht, q⟩ => ht.run pins s σ H v u Q I r q⟩
theorem wi {tg it} : PI X tg it (WI X tg it) := ⟨fun pins s σ H Q I ⟨t, ht, q⟩ => ht.run pins s σ H Q I q⟩
theorem ws {st} : PS X st (WS X st) := ⟨fun pins s σ H D I ⟨t, ht, q⟩ => ht.run pins s σ H D I q⟩
theorem wb {sts} : PSs X sts (WB X sts) := ⟨fun pins s σ H D I ⟨t, ht, q⟩ => ht.run pins s σ H D I q⟩
theorem wb_cons {st : Stmt} {rest : List Stmt} {t : TS} {D : Ends} {σ : St} {H : Hp} (h : PS X st t) (q : t { D with nx := WB X rest D } σ H) : WB X (st :: rest) D σ H := ⟨_, pss_cons h wb, q⟩
theorem wb_nil {D : Ends} {σ : St} {H : Hp} (q : D.nx σ H) : WB X [] D σ H := ⟨_, pss_nil, q⟩
end

/-! ### data that avoids the objects that change -/
def hide (M : List Addr) (H : Hp) : Hp := fun a => if a ∈ M then none else H a
theorem hide_in {M : List Addr} {H : Hp} {a : Addr} (h : a ∈ M) : hide M H a = none := if_pos h
theorem hide_out {M : List Addr} {H : Hp} {a : Addr} (h : a ∉ M) : hide M H a = H a := if_neg h
theorem hide_some {M : List Addr} {H : Hp} {a : Addr} {o : HO} (h : hide M H a = some o) : a ∉ M ∧ H a = some o := by
  by_cases q : a ∈ M
  · rw [hide_in q] at h; cases h
  · exact ⟨q, by rwa [hide_out q] at h⟩
theorem hide_nil (H : Hp) : hide [] H = H := by funext a; exact hide_out (by simp)
abbrev Keep (M : List Addr) (H H' : Hp) : Prop := Same (hide M H) (hide M H')
theorem keep_of {M : List Addr} {H H' : Hp} (h : ∀ a o, a ∉ M → H a = some o → H' a = some o) : Keep M H H' := fun a o e => by
  obtain ⟨h1, h2⟩ := hide_some e
  rw [hide_out h1]; exact h a o h1 h2
theorem Keep.at {M : List Addr} {H H' : Hp} (k : Keep M H H') {a : Addr} {o : HO} (h : a ∉ M) (e : H a = some o) : H' a = some o := by
  have := k a o (by rw [hide_out h]; exact e)
  rwa [hide_out h] at this
theorem same_keep {M : List Addr} {H H' : Hp} (s : Same H H') : Keep M H H' := keep_of fun a o _ e => s a o e
theorem Keep.refl (M : List Addr) (H : Hp) : Keep M H H := Same.refl _
theorem keep_sub {M M' : List Addr} {H H' : Hp} (k : Keep M H H') (s : ∀ a ∈ M, a ∈ M') : Keep M' H H' := keep_of fun a o h e => k.at (fun q => h (s a q)) e
theorem keep_upd {M : List Addr} {H : Hp} {a : Addr} {o : HO} (h : a ∈ M) : Keep M H (upd H a o) := keep_of fun b u hb e => by
  rw [upd_ne (fun q : b = a => hb (by rw [q]; exact h))]; exact e
theorem same_new {H : Hp} {p : Addr} {o : HO} (h : H p = none) : Same H (upd H p o) := fun b x e => by
  rw [upd_ne (ne_of_none e h)]; exact e

theorem same_rd {H H' : Hp} {a : Addr} {u : HO} (e : Same H H') (h : Rd H a u) : Rd H' a u := by
  rcases h with h | ⟨o, h⟩
  · exact .inl (e _ _ h)
  · exact .inr ⟨o, e _ _ h⟩
theorem same_l {K : PySem.W.Frag} {H H' : Hp} {a : Addr} {xs : List V} (e : Same H H') (h : SqL K H a xs) : SqL K H' a xs := by
  rcases h with h | h
  · exact .inl (same_rd e h)
  · exact .inr h
theorem same_t {K : PySem.W.Frag} {H H' : Hp} {a : Addr} {xs : List V} (e : Same H H') (h : SqT K H a xs) : SqT K H' a xs := by
  rcases h with h | h
  · exact .inl (same_rd e h)
  · exact .inr h
/-! data made at run time: what the value v stands for -/
mutual
inductive Dt (H : Hp) : V → PyData → Prop
  | non : Dt H .non .none
  | bl (b : Bool) : Dt H (.bl b) (.bool b)
  | int (i : Int) : Dt H (.int i) (.int i)
  | str (x : Str) : Dt H (.str x) (.str x)
  | lst {a : Addr} {xs : List V} {ds : List PyData} : H a = some (.lst xs) → DtAll H xs ds → Dt H (.ref a) (.list ds)
  | tup {a : Addr} {xs : List V} {ds : List PyData} : H a = some (.tup xs) → DtAll H xs ds → Dt H (.ref a) (.tuple ds)
inductive DtAll (H : Hp) : List V → List PyData → Prop
  | nil : DtAll H [] []
  | cons {v : V} {vs : List V} {d : PyData} {ds : List PyData} : Dt H v d → DtAll H vs ds → DtAll H (v :: vs) (d :: ds)
end
mutual
theorem dp_same {H H' : Hp} (e : Same H H') : ∀ {v : V} {d : PyData}, Dt H v d → Dt H' v d
  | _, _, .non => .non
  | _, _, .bl b => .bl b
  | _, _, .int i => .int i
  | _, _, .str x => .str x
  | _, _, .lst h a => .lst (e _ _ h) (dpAll_same e a)
  | _, _, .tup h a => .tup (e _ _ h) (dpAll_same e a)
theorem dpAll_same {H H' : Hp} (e : Same H H') : ∀ {vs : List V} {ds : List PyData}, DtAll H vs ds → DtAll H' vs ds
  | _, _, .nil => .nil
  | _, _, .cons h a => .cons (dp_same e h) (dpAll_same e a)
end
mutual
theorem Dt.dp {K : PySem.W.Frag} {H : Hp} : ∀ {v : V} {d : PyData}, Dt H v d → Dp K H v d
  | _, _, .non => .non
  | _, _, .bl b => .bl b
  | _, _, .int i => .int i
  | _, _, .str x => .str x
  | _, _, .lst h a => .lst (.inl (.inl h)) (DtAll.dp a)
  | _, _, .tup h a => .tup (.inl (.inl h)) (DtAll.dp a)
theorem DtAll.dp {K : PySem.W.Frag} {H : Hp} : ∀ {vs : List V} {ds : List PyData}, DtAll H vs ds → DpAll K H vs ds
  | _, _, .nil => .nil
  | _, _, .cons h a => .cons (Dt.dp h) (DtAll.dp a)
end
abbrev Dat (M : List Addr) (H : Hp) (v : V) (d : PyData) : Prop := Dt (hide M H) v d
abbrev DatAll (M : List Addr) (H : Hp) (vs : List V) (ds : List PyData) : Prop := DtAll (hide M H) vs ds
theorem dat_sub {M M' : List Addr} {H : Hp} {v : V} {d : PyData} (h : Dat M H v d) (s : ∀ a ∈ M', a ∈ M) : Dat M' H v d := dp_same (fun a o e => by
  obtain ⟨h1, h2⟩ := hide_some e
  rw [hide_out (fun q => h1 (s a q))]; exact h2) h
theorem datAll_sub {M M' : List Addr} {H : Hp} {vs : List V} {ds : List PyData} (h : DatAll M H vs ds) (s : ∀ a ∈ M', a ∈ M) : DatAll M' H vs ds := dpAll_same (fun a o e => by
  obtain ⟨h1, h2⟩ := hide_some e
  rw [hide_out (fun q => h1 (s a q))]; exact h2) h
theorem dat_full {M : List Addr} {H : Hp} {v : V} {d : PyData} (h : Dat M H v d) : Dt H v d := by
  have := dat_sub (M' := []) h (by simp)
  unfold Dat at this
  rwa [hide_nil] at this
theorem datAll_full {M : List Addr} {H : Hp} {vs : List V} {ds : List PyData} (h : DatAll M H vs ds) : DtAll H vs ds := by
  have := datAll_sub (M' := []) h (by simp)
  unfold DatAll at this
  rwa [hide_nil] at this
theorem DtAll.len {H : Hp} : ∀ {vs : List V} {ds : List PyData}, DtAll H vs ds → vs.length = ds.length
  | _, _, .nil => rfl
  | _, _, .cons _ a => by rw [List.length_cons, List.length_cons, DtAll.len a]
theorem DtAll.get {H : Hp} : ∀ {vs : List V} {ds : List PyData} {i : Nat} {d : PyData}, DtAll H vs ds → ds[i]? = some d → ∃ v, vs[i]? = some v ∧ Dt H v d
  | _, _, i, d, .nil, e => by simp at e
  | _, _, 0, d, .cons h _, e => by
    simp at e; subst e; exact ⟨_, rfl, h⟩
  | _, _, i + 1, d, .cons _ a, e => by
    simp at e
    obtain ⟨v, h1, h2⟩ := DtAll.get a e
    exact ⟨v, by simpa using h1, h2⟩
theorem DtAll.get' {H : Hp} : ∀ {vs : List V} {ds : List PyData} {i : Nat} {v : V}, DtAll H vs ds → vs[i]? = some v → ∃ d, ds[i]? = some d ∧ Dt H v d
  | _, _, i, d, .nil, e => by simp at e
  | _, _, 0, d, .cons h _, e => by
    simp at e; subst e; exact ⟨_, rfl, h⟩
  | _, _, i + 1, d, .cons _ a, e => by
    simp at e
    obtain ⟨v, h1, h2⟩ := DtAll.get' a e
    exact ⟨v, by simpa using h1, h2⟩
theorem DtAll.app {H : Hp} : ∀ {vs ws : List V} {ds es : List PyData}, DtAll H vs ds → DtAll H ws es → DtAll H (vs ++ ws) (ds ++ es)
  | _, _, _, _, .nil, b => b
  | _, _, _, _, .cons h a, b => .cons h (DtAll.app a b)
theorem DtAll.snoc {H : Hp} {vs : List V} {ds : List PyData} {v : V} {d : PyData} (a : DtAll H vs ds) (h : Dt H v d) : DtAll H (vs ++ [v]) (ds ++ [d]) := DtAll.app a (.cons h .nil)
theorem DtAll.set {H : Hp} {v : V} {d : PyData} (q : Dt H v d) : ∀ {vs : List V} {ds : List PyData} (i : Nat), DtAll H vs ds → DtAll H (vs.set i v) (ds.set i d)
  | _, _, _, .nil => .nil
  | _, _, 0, .cons _ a => .cons q a
  | _, _, i + 1, .cons h a => .cons h (DtAll.set q i a)
theorem DtAll.take {H : Hp} : ∀ {vs : List V} {ds : List PyData} (i : Nat), DtAll H vs ds → DtAll H (vs.take i) (ds.take i)
  | _, _, 0, _ => by simp only [List.take_zero]; exact .nil
  | _, _, _ + 1, .nil => .nil
  | _, _, i + 1, .cons h a => .cons h (DtAll.take i a)
theorem DtAll.drop {H : Hp} : ∀ {vs : List V} {ds : List PyData} (i : Nat), DtAll H vs ds → DtAll H (vs.drop i) (ds.drop i)
  | _, _, 0, a => a
  | _, _, _ + 1, .nil => .nil
  | _, _, i + 1, .cons _ a => DtAll.drop i a
theorem DtAll.ints {H : Hp} : ∀ (ns : List Int), DtAll H (ns.map V.int) (ns.map PyData.int)
  | [] => .nil
  | n :: ns => .cons (.int n) (DtAll.ints ns)
theorem DtAll.of_ints {H : Hp} : ∀ {vs : List V} {ns : List Int}, DtAll H vs (ns.map PyData.int) → vs = ns.map V.int
  | _, [], h => by cases h; rfl
  | _, n :: ns, h => by
    cases h with
    | cons h1 h2 =>
      cases h1
      rw [DtAll.of_ints h2]; rfl
theorem DtAll.of_bls {H : Hp} : ∀ {vs : List V} {ns : List Bool}, DtAll H vs (ns.map PyData.bool) → vs = ns.map V.bl
  | _, [], h => by cases h; rfl
  | _, n :: ns, h => by
    cases h with
    | cons h1 h2 =>
      cases h1
      rw [DtAll.of_bls h2]; rfl
theorem DtAll.of_strs {H : Hp} : ∀ {vs : List V} {ns : List Str}, DtAll H vs (ns.map PyData.str) → vs = ns.map V.str
  | _, [], h => by cases h; rfl
  | _, n :: ns, h => by
    cases h with
    | cons h1 h2 =>
      cases h1
      rw [DtAll.of_strs h2]; rfl
/-- scalars need no heap -/
def scl : PyData → Bool
  | .none => true
  | .bool _ => true
  | .int _ => true
  | .str _ => true
  | _ => false
theorem dp_scl {H H' : Hp} {v : V} {d : PyData} (h : Dt H v d) (s : scl d = true) : Dt H' v d := by
  cases h with
  | non => exact .non
  | bl b => exact .bl b
  | int i => exact .int i
  | str x => exact .str x
  | lst _ _ => cases s
  | tup _ _ => cases s

/-! ### the store: what stands in the slots, the lists of one's own, what else is known -/
inductive Bd where
  | d (d : PyData)
  | a (v : V)
abbrev Rho := List (Option Bd)
abbrev Own := List (Addr × List PyData)
def Bnd (M : List Addr) (H : Hp) (v : V) : Bd → Prop
  | .d d => Dat M H v d
  | .a w => v = w
def Pres (L : Own) (H H' : Hp) : Prop := ∀ a o, a ∉ L.map (·.1) → H a = some o → H' a = some o
structure Sto (M : List Addr) (L : Own) (R : Hp → Prop) (ρ : Rho) (σ : St) (H : Hp) : Prop where
  al : ∀ a ∈ M, H a ≠ none
  lm : ∀ p ∈ L, p.1 ∈ M
  nd : (L.map (·.1)).Nodup
  own : ∀ p ∈ L, ∃ vs, H p.1 = some (.lst vs) ∧ DatAll M H vs p.2
  r : ∀ H', Pres L H H' → R H'
  len : σ.length = ρ.length
  b : ∀ (i : Nat) (b : Bd), ρ[i]? = some (some b) → ∃ v, σ[i]? = some (some v) ∧ Bnd M H v b
theorem Bnd.keep {M : List Addr} {H H' : Hp} {v : V} {b : Bd} (h : Bnd M H v b) (k : Keep M H H') : Bnd M H' v b := by
  cases b with
  | d d => exact dp_same k h
  | a w => exact h
theorem pres_refl (L : Own) (H : Hp) : Pres L H H := fun _ _ _ e => e
theorem pres_same {L : Own} {H H' : Hp} (s : Same H H') : Pres L H H' := fun a o _ e => s a o e
section
variable {M : List Addr} {L : Own} {R : Hp → Prop} {ρ : Rho} {σ : St} {H H' : Hp}
theorem Sto.r0 (S : Sto M L R ρ σ H) : R H := S.r H (pres_refl _ _)
theorem Sto.mono (S : Sto M L R ρ σ H) (s : Same H H') : Sto M L R ρ σ H' where
  al := fun a h => by
    cases e : H a with
    | none => exact absurd e (S.al a h)
    | some o => rw [s a o e]; simp
  lm := S.lm
  nd := S.nd
  own := fun p hp => by
    obtain ⟨vs, h1, h2⟩ := S.own p hp
    exact ⟨vs, s _ _ h1, dpAll_same (same_keep s) h2⟩
  r := fun H2 h => S.r H2 fun a o ha e => h a o ha (s a o e)
  len := S.len
  b := fun i b hb => by
    obtain ⟨v, h1, h2⟩ := S.b i b hb
    exact ⟨v, h1, h2.keep (same_keep s)⟩
theorem Sto.set (S : Sto M L R ρ σ H) {i : Nat} {v : V} {b : Bd} (h : Bnd M H v b) : Sto M L R (ρ.set i (some b)) (σ.set i (some v)) H where
  al := S.al
  lm := S.lm
  nd := S.nd
  own := S.own
  r := S.r
  len := by rw [List.length_set, List.length_set]; exact S.len
  b := fun j c hc => by
    by_cases e : i = j
    · subst e
      have hl : i < ρ.length := by
        have := (List.getElem?_eq_some_iff.mp hc).1
        rwa [List.length_set] at this
      rw [List.getElem?_set_self hl] at hc
      cases hc
      exact ⟨v, List.getElem?_set_self (by rw [S.len]; exact hl), h⟩
    · rw [List.getElem?_set_ne e] at hc
      obtain ⟨w, h1, h2⟩ := S.b j c hc
      exact ⟨w, by rw [List.getElem?_set_ne e]; exact h1, h2⟩
/-- fewer slots known -/
theorem Sto.fewer {ρ' : Rho} (S : Sto M L R ρ σ H) (hl : ρ'.length = ρ.length) (h : ∀ (i : Nat) (b : Bd), ρ'[i]? = some (some b) → ρ[i]? = some (some b)) : Sto M L R ρ' σ H :=
  ⟨S.al, S.lm, S.nd, S.own, S.r, by rw [S.len, hl], fun i b hb => S.b i b (h i b hb)⟩
theorem Sto.wk {R' : Hp → Prop} (S : Sto M L R ρ σ H) (h : ∀ H, R H → R' H) : Sto M L R' ρ σ H := ⟨S.al, S.lm, S.nd, S.own, fun H' p => h _ (S.r H' p), S.len, S.b⟩
/-- more is known -/
theorem Sto.plus {R' : Hp → Prop} (S : Sto M L R ρ σ H) (h : ∀ H', Pres L H H' → R' H') : Sto M L (fun H => R H ∧ R' H) ρ σ H := ⟨S.al, S.lm, S.nd, S.own, fun H' p => ⟨S.r H' p, h H' p⟩, S.len, S.b⟩
theorem pres_keep {H H' : Hp} (lm : ∀ p ∈ L, p.1 ∈ M) (p : Pres L H H') : Keep M H H' := keep_of fun a o h e => p a o (fun q => by
  obtain ⟨z, hz, e2⟩ := List.mem_map.mp q
  exact h (e2 ▸ lm z hz)) e
theorem Sto.plusD {v : V} {d : PyData} (S : Sto M L R ρ σ H) (h : Dat M H v d) : Sto M L (fun H => R H ∧ Dat M H v d) ρ σ H := S.plus fun _ p => dp_same (pres_keep S.lm p) h
theorem Sto.datOf (S : Sto M L R ρ σ H) {i : Nat} {d : PyData} (h : ρ[i]? = some (some (.d d))) : ∃ v, σ[i]? = some (some v) ∧ Dat M H v d := S.b i _ h
theorem Sto.valOf (S : Sto M L R ρ σ H) {i : Nat} {v : V} (h : ρ[i]? = some (some (.a v))) : σ[i]? = some (some v) := by
  obtain ⟨w, h1, h2⟩ := S.b i _ h
  cases h2
  exact h1
/-- a list of one's own is changed -/
theorem Sto.mut (S : Sto M L R ρ σ H) {j : Nat} {a : Addr} {ds ds' : List PyData} {vs' : List V} (hj : L[j]? = some (a, ds)) (h : DatAll M H vs' ds') : Sto M (L.set j (a, ds')) R ρ σ (upd H a (.lst vs')) := by
  have haM : a ∈ M := S.lm _ (List.mem_of_getElem? hj)
  have hjl : j < L.length := (List.getElem?_eq_some_iff.mp hj).1
  have ek : (L.set j (a, ds')).map (·.1) = L.map (·.1) := by
    rw [List.map_set]
    apply List.ext_getElem?
    intro i
    by_cases e : j = i
    · subst e
      rw [List.getElem?_set_self (by simpa using hjl), List.getElem?_map, hj]; rfl
    · rw [List.getElem?_set_ne e]
  refine ⟨fun b hb => ?_, fun p hp => ?_, by rw [ek]; exact S.nd, fun p hp => ?_, fun H' p => ?_, S.len, fun i b hb => ?_⟩
  · by_cases e : b = a
    · subst e; rw [upd_same]; simp
    · rw [upd_ne e]; exact S.al b hb
  · have : p.1 ∈ (L.set j (a, ds')).map (·.1) := List.mem_map_of_mem hp
    rw [ek] at this
    obtain ⟨z, hz, e⟩ := List.mem_map.mp this
    rw [← e]; exact S.lm z hz
  · obtain ⟨i, hi⟩ := List.getElem?_of_mem hp
    by_cases e : j = i
    · subst e
      rw [List.getElem?_set_self hjl] at hi
      cases hi
      exact ⟨vs', upd_same, dpAll_same (keep_upd haM) h⟩
    · rw [List.getElem?_set_ne e] at hi
      obtain ⟨ws, h1, h2⟩ := S.own p (List.mem_of_getElem? hi)
      have ne : p.1 ≠ a := fun q => by
        have e1 : (L.map (·.1))[j]? = some a := by rw [List.getElem?_map, hj]; rfl
        have e2 : (L.map (·.1))[i]? = some a := by rw [List.getElem?_map, hi, ← q]; rfl
        obtain ⟨l1, g1⟩ := List.getElem?_eq_some_iff.mp e1
        obtain ⟨l2, g2⟩ := List.getElem?_eq_some_iff.mp e2
        exact e ((List.getElem_inj S.nd).mp (g1.trans g2.symm))
      exact ⟨ws, by rw [upd_ne ne]; exact h1, dpAll_same (keep_upd haM) h2⟩
  · refine S.r H' fun b o hb e => p b o (by rw [ek]; exact hb) ?_
    rw [upd_ne (fun q => hb (by rw [q]; exact List.mem_map_of_mem (f := (·.1)) (List.mem_of_getElem? hj)))]
    exact e
  · obtain ⟨v, h1, h2⟩ := S.b i b hb
    exact ⟨v, h1, h2.keep (keep_upd haM)⟩
/-- a new list becomes one's own -/
theorem Sto.own_new (S : Sto M L R ρ σ H) {a : Addr} {vs : List V} {ds : List PyData} (hn : H a = none) (h : DatAll M H vs ds) : Sto (a :: M) ((a, ds) :: L) R ρ σ (upd H a (.lst vs)) := by
  have nM : a ∉ M := fun q => S.al a q hn
  have kk : Same (hide M H) (hide (a :: M) (upd H a (.lst vs))) := fun b o e => by
    obtain ⟨h1, h2⟩ := hide_some e
    have ne : b ≠ a := ne_of_none h2 hn
    rw [hide_out (by simp [ne, h1]), upd_ne ne]; exact h2
  refine ⟨fun b hb => ?_, fun p hp => ?_, ?_, fun p hp => ?_, fun H' p => ?_, S.len, fun i b hb => ?_⟩
  · rcases List.mem_cons.mp hb with e | hb
    · subst e; rw [upd_same]; simp
    · by_cases e : b = a
      · subst e; rw [upd_same]; simp
      · rw [upd_ne e]; exact S.al b hb
  · rcases List.mem_cons.mp hp with e | hp
    · subst e; exact List.mem_cons_self
    · exact List.mem_cons_of_mem _ (S.lm p hp)
  · rw [List.map_cons]
    refine List.nodup_cons.mpr ⟨fun q => ?_, S.nd⟩
    obtain ⟨p, hp, e⟩ := List.mem_map.mp q
    have e : p.1 = a := e
    exact nM (e ▸ S.lm p hp)
  · rcases List.mem_cons.mp hp with e | hp
    · subst e; exact ⟨vs, upd_same, dpAll_same kk h⟩
    · obtain ⟨ws, h1, h2⟩ := S.own p hp
      have ne : p.1 ≠ a := fun q => nM (q ▸ S.lm p hp)
      exact ⟨ws, by rw [upd_ne ne]; exact h1, dpAll_same kk h2⟩
  · refine S.r H' fun b o hb e => p b o ?_ ?_
    · rw [List.map_cons]
      intro q
      rcases List.mem_cons.mp q with q | q
      · have q : b = a := q
        rw [q, hn] at e; cases e
      · exact hb q
    · rw [upd_ne (ne_of_none e hn)]; exact e
  · obtain ⟨v, h1, h2⟩ := S.b i b hb
    refine ⟨v, h1, ?_⟩
    cases b with
    | d d => exact dp_same kk h2
    | a w => exact h2
end
end Fb
namespace Fb
open PySem L2

/-! ### judgements on data -/
def ED (X : Cx) (M : List Addr) (L : Own) (R : Hp → Prop) (ρ : Rho) (e : Expr) (d : PyData) : Prop :=
  ∀ σ H, Sto M L R ρ σ H → ∀ Q : VK, (∀ v H2, Keep M H H2 → Sto M L R ρ σ H2 → Dat M H2 v d → Q v H2) → WE X e σ H Q
def ET (X : Cx) (M : List Addr) (L : Own) (R : Hp → Prop) (ρ : Rho) (e : Expr) (b : Bool) : Prop :=
  ∀ σ H, Sto M L R ρ σ H → ∀ Q : Bool → Hp → Prop, (∀ H2, Keep M H H2 → Sto M L R ρ σ H2 → Q b H2) → WT X e σ H Q
def EW (X : Cx) (M : List Addr) (L : Own) (R : Hp → Prop) (ρ : Rho) (e : Expr) (b : Bool) : Prop :=
  ∀ σ H, Sto M L R ρ σ H → ∀ Q : Bool → Hp → Prop, (∀ H2, Keep M H H2 → Sto M L R ρ σ H2 → Q b H2) → WW X e σ H Q
def EA (X : Cx) (M : List Addr) (L : Own) (R : Hp → Prop) (ρ : Rho) (es : List Expr) (ds : List PyData) : Prop :=
  ∀ σ H, Sto M L R ρ σ H → ∀ Q : List V → Hp → Prop, (∀ vs H2, Keep M H H2 → Sto M L R ρ σ H2 → DatAll M H2 vs ds → Q vs H2) → WA X es σ H Q
/-- an operation on data -/
def BinD (X : Cx) (f : Value → Value → Sem Value) (M : List Addr) (d1 d2 d : PyData) : Prop :=
  ∃ r : R2, OpR X f r ∧ ∀ x y H, (∀ a ∈ M, H a ≠ none) → Dat M H x d1 → Dat M H y d2 → ∀ Q : VK, (∀ z H2, Same H H2 → Dat M H2 z d → Q z H2) → r x y H Q
def UnD (X : Cx) (f : Value → Sem Value) (d1 d : PyData) : Prop :=
  ∃ r : V → Hp → VK → Prop, UnR X f r ∧ ∀ M x H, (∀ a ∈ M, H a ≠ none) → Dat M H x d1 → ∀ Q : VK, (∀ z H2, Same H H2 → Dat M H2 z d → Q z H2) → r x H Q
def CallD (X : Cx) (f : Value) (M : List Addr) (ds : List PyData) (d : PyData) : Prop :=
  ∃ r : List V → Hp → VK → Prop, CallR X f r ∧ ∀ vs H, (∀ a ∈ M, H a ≠ none) → DatAll M H vs ds → ∀ Q : VK, (∀ z H2, Same H H2 → Dat M H2 z d → Q z H2) → r vs H Q
def IxD (X : Cx) (d1 d2 d : PyData) : Prop :=
  ∃ r : R2, IxR X r ∧ ∀ M x y H, (∀ a ∈ M, H a ≠ none) → Dat M H x d1 → Dat M H y d2 → ∀ Q : VK, (∀ z H2, Same H H2 → Dat M H2 z d → Q z H2) → r x y H Q

section
variable {X : Cx} {M : List Addr} {L : Own} {R : Hp → Prop} {ρ : Rho} {e a b c : Expr} {es : List Expr} {d d' da db dc : PyData} {ds : List PyData} {pos : Pos} {p q : Bool}
theorem ED.cast (h : ED X M L R ρ e d) (q : d = d') : ED X M L R ρ e d' := q ▸ h
theorem ET.cast {p q : Bool} (h : ET X M L R ρ e p) (z : p = q) : ET X M L R ρ e q := z ▸ h
theorem ec_int {i : Int} {j} : ED X M L R ρ (.Constant (.int i) j pos) (.int i) := fun σ H S Q q => ⟨_, pe_int, q _ _ (Keep.refl _ _) S (.int i)⟩
theorem ec_str {x : Str} {j} : ED X M L R ρ (.Constant (.str x) j pos) (.str x) := fun σ H S Q q => ⟨_, pe_str, q _ _ (Keep.refl _ _) S (.str x)⟩
theorem ec_bool {x : Bool} {j} : ED X M L R ρ (.Constant (.bool x) j pos) (.bool x) := fun σ H S Q q => ⟨_, pe_bl, q _ _ (Keep.refl _ _) S (.bl x)⟩
theorem ec_none {j} : ED X M L R ρ (.Constant .none j pos) .none := fun σ H S Q q => ⟨_, pe_non, q _ _ (Keep.refl _ _) S .non⟩
theorem en (i : Nat) {x : Str} {d : PyData} (hN : X.N[i]? = some x := by rfl) (hv : Vis X.env.scope x := by first | exact Or.inl rfl | exact Or.inr (Or.inl rfl) | exact Or.inr (Or.inr rfl)) (hb : ρ[i]? = some (some (.d d)) := by rfl)
    (hd : (x == ("__debug__" : Str)) = false := by decide) (hcd : (x == ("__classdict__" : Str)) = false := by decide) : ED X M L R ρ (.Name x pos) d := fun σ H S Q q => by
  obtain ⟨v, h1, h2⟩ := S.datOf hb
  exact ⟨_, pe_var hN hv hd hcd, v, h1, q v H (Keep.refl _ _) S h2⟩
/-- a module's constant -/
theorem eg {x : Str} {v : V} {u : Value} (hm : X.mg x = some u) (r : RelV v u) (hs : ∀ H, Dt H v d) (hg : Gl X x := by rfl) (hd : (x == ("__debug__" : Str)) = false := by decide) : ED X M L R ρ (.Name x pos) d := fun σ H S Q q =>
  ⟨_, pe_glob hg hm r hd, q v H (Keep.refl _ _) S (hs _)⟩
theorem eg_int {x : Str} {i : Int} (hm : ∃ t, X.mg x = some (.int i t)) (hg : Gl X x := by rfl) (hd : (x == ("__debug__" : Str)) = false := by decide) : ED X M L R ρ (.Name x pos) (.int i) := by
  obtain ⟨t, hm⟩ := hm
  exact eg hm (v := .int i) ⟨t, rfl⟩ (fun _ => .int i) hg hd
theorem eg_str {x : Str} {i : Str} (hm : ∃ t, X.mg x = some (.str i t)) (hg : Gl X x := by rfl) (hd : (x == ("__debug__" : Str)) = false := by decide) : ED X M L R ρ (.Name x pos) (.str i) := by
  obtain ⟨t, hm⟩ := hm
  exact eg hm (v := .str i) ⟨t, rfl⟩ (fun _ => .str i) hg hd
theorem eb {op : Operator} (ha : ED X M L R ρ a da) (hb : ED X M L R ρ b db) (h : BinD X (binaryOp op) M da db d) : ED X M L R ρ (.BinOp a op b pos) d := fun σ H S Q q => by
  obtain ⟨r, ho, hr⟩ := h
  exact ⟨_, pe_op ho we we, ha σ H S _ fun x H1 k1 S1 d1 => hb σ H1 S1 _ fun y H2 k2 S2 d2 => hr x y H2 S2.al (dp_same k2 d1) d2 Q fun z H3 s3 d3 => q z H3 (k1.trans (k2.trans (same_keep s3))) (S2.mono s3) d3⟩
theorem eu {op : UnaryOp} (ha : ED X M L R ρ a da) (h : UnD X (unaryOp op) da d) : ED X M L R ρ (.UnaryOp op a pos) d := fun σ H S Q q => by
  obtain ⟨r, ho, hr⟩ := h
  exact ⟨_, pe_un ho we, ha σ H S _ fun x H1 k1 S1 d1 => hr M x H1 S1.al d1 Q fun z H3 s3 d3 => q z H3 (k1.trans (same_keep s3)) (S1.mono s3) d3⟩
theorem ecmp {op : CmpOp} (ha : ED X M L R ρ a da) (hb : ED X M L R ρ b db) (h : BinD X (compareOp op) M da db d) (hm : behindInMarks op b = false := by first | exact nomark _ | with_unfolding_all rfl) : ED X M L R ρ (.Compare a [op] [b] pos) d := fun σ H S Q q => by
  obtain ⟨r, ho, hr⟩ := h
  exact ⟨_, pe_cmpR ho we we hm, ha σ H S _ fun x H1 k1 S1 d1 => hb σ H1 S1 _ fun y H2 k2 S2 d2 => hr x y H2 S2.al (dp_same k2 d1) d2 Q fun z H3 s3 d3 => q z H3 (k1.trans (k2.trans (same_keep s3))) (S2.mono s3) d3⟩
theorem tcmp {op : CmpOp} (ha : ED X M L R ρ a da) (hb : ED X M L R ρ b db) (h : BinD X (compareOp op) M da db (.bool p)) (hm : behindInMarks op b = false := by first | exact nomark _ | with_unfolding_all rfl) : ET X M L R ρ (.Compare a [op] [b] pos) p := fun σ H S Q q => by
  obtain ⟨r, ho, hr⟩ := h
  refine ⟨_, pt_cmpR ho we we hm, ha σ H S _ fun x H1 k1 S1 d1 => hb σ H1 S1 _ fun y H2 k2 S2 d2 => hr x y H2 S2.al (dp_same k2 d1) d2 _ fun z H3 s3 d3 => ?_⟩
  cases d3
  exact ⟨p, rfl, q H3 (k1.trans (k2.trans (same_keep s3))) (S2.mono s3)⟩
theorem echain {op op' : CmpOp} (ha : ED X M L R ρ a da) (hb : ED X M L R ρ b db) (h : BinD X (compareOp op) M da db (.bool p)) (hc : p = true → ED X M L R ρ c dc) (h' : p = true → BinD X (compareOp op') M db dc (.bool q)) (hp' : ∃ r, OpR X (compareOp op') r) (hm : lastMarks [op, op'] [b, c] = false := by with_unfolding_all rfl) :
    ED X M L R ρ (.Compare a [op, op'] [b, c] pos) (.bool (p && q)) := fun σ H S Q k => by
  obtain ⟨r, ho, hr⟩ := h
  cases p with
  | true =>
    obtain ⟨r', ho', hr'⟩ := h' rfl
    refine ⟨_, pe_chain ho ho' we we we hm, ha σ H S _ fun x H1 k1 S1 d1 => hb σ H1 S1 _ fun y H2 k2 S2 d2 => hr x y H2 S2.al (dp_same k2 d1) d2 _ fun z H3 s3 d3 => ?_⟩
    cases d3
    refine ⟨true, rfl, ?_⟩
    exact iteT (hc rfl σ H3 (S2.mono s3) _ fun z H4 k4 S4 d4 => hr' y z H4 S4.al (dp_same ((same_keep s3).trans k4) d2) d4 Q fun u H5 s5 d5 => k u H5 (k1.trans (k2.trans ((same_keep s3).trans (k4.trans (same_keep s5))))) (S4.mono s5) d5)
  | false =>
    obtain ⟨r', ho'⟩ := hp'
    refine ⟨_, pe_chain ho ho' we we we hm, ha σ H S _ fun x H1 k1 S1 d1 => hb σ H1 S1 _ fun y H2 k2 S2 d2 => hr x y H2 S2.al (dp_same k2 d1) d2 _ fun z H3 s3 d3 => ?_⟩
    cases d3
    exact ⟨false, rfl, iteF (k _ H3 (k1.trans (k2.trans (same_keep s3))) (S2.mono s3) (.bl false))⟩
theorem tchain {op op' : CmpOp} (ha : ED X M L R ρ a da) (hb : ED X M L R ρ b db) (h : BinD X (compareOp op) M da db (.bool p)) (hc : p = true → ED X M L R ρ c dc) (h' : p = true → BinD X (compareOp op') M db dc (.bool q)) (hp' : ∃ r, OpR X (compareOp op') r) (hm : lastMarks [op, op'] [b, c] = false := by with_unfolding_all rfl) :
    ET X M L R ρ (.Compare a [op, op'] [b, c] pos) (p && q) := fun σ H S Q k => by
  obtain ⟨r, ho, hr⟩ := h
  cases p with
  | true =>
    obtain ⟨r', ho', hr'⟩ := h' rfl
    refine ⟨_, pt_chain ho ho' we we we hm, ha σ H S _ fun x H1 k1 S1 d1 => hb σ H1 S1 _ fun y H2 k2 S2 d2 => hr x y H2 S2.al (dp_same k2 d1) d2 _ fun z H3 s3 d3 => ?_⟩
    cases d3
    refine ⟨true, rfl, ?_⟩
    refine iteT (hc rfl σ H3 (S2.mono s3) _ fun z H4 k4 S4 d4 => hr' y z H4 S4.al (dp_same ((same_keep s3).trans k4) d2) d4 _ fun u H5 s5 d5 => ?_)
    cases d5
    exact ⟨q, rfl, k H5 (k1.trans (k2.trans ((same_keep s3).trans (k4.trans (same_keep s5))))) (S4.mono s5)⟩
  | false =>
    obtain ⟨r', ho'⟩ := hp'
    refine ⟨_, pt_chain ho ho' we we we hm, ha σ H S _ fun x H1 k1 S1 d1 => hb σ H1 S1 _ fun y H2 k2 S2 d2 => hr x y H2 S2.al (dp_same k2 d1) d2 _ fun z H3 s3 d3 => ?_⟩
    cases d3
    exact ⟨false, rfl, iteF ⟨false, rfl, k H3 (k1.trans (k2.trans (same_keep s3))) (S2.mono s3)⟩⟩
theorem tval (h : ED X M L R ρ e (.bool p)) (he : ∀ whole, isTrue e X.env whole = (do let v ← whole; standAt e.pos; holding [v] (truthy v)) := by intro _; rfl) : ET X M L R ρ e p := fun σ H S Q q =>
  ⟨_, pt_val we he, h σ H S _ fun v H2 k2 S2 d2 => by
    cases d2
    exact ⟨p, rfl, q H2 k2 S2⟩⟩
theorem tnot (h : ET X M L R ρ e p) : ET X M L R ρ (.UnaryOp .Not e pos) (!p) := fun σ H S Q q => ⟨_, pt_not wt, h σ H S _ fun H2 k2 S2 => q H2 k2 S2⟩
theorem tw (h : EW X M L R ρ e p) : ET X M L R ρ e p := fun σ H S Q q => ⟨_, PW.pt ww, h σ H S _ q⟩
theorem wand1 (h : ET X M L R ρ a p) : EW X M L R ρ (.BoolOp .And [a] pos) p := fun σ H S Q q => ⟨_, pw_and1 wt, h σ H S _ q⟩
theorem wor1 (h : ET X M L R ρ a p) : EW X M L R ρ (.BoolOp .Or [a] pos) p := fun σ H S Q q => ⟨_, pw_or1 wt, h σ H S _ q⟩
theorem wand {rest : List Expr} (h : ET X M L R ρ a p) (h2 : p = true → EW X M L R ρ (.BoolOp .And (b :: rest) pos) q) (hx : ∃ t, PW X (.BoolOp .And (b :: rest) pos) t := by exact ⟨_, ww⟩) : EW X M L R ρ (.BoolOp .And (a :: b :: rest) pos) (p && q) := fun σ H S Q k =>
  ⟨_, pw_and wt ww, h σ H S _ fun H1 k1 S1 => by
    cases p with
    | true => exact iteT (h2 rfl σ H1 S1 _ fun H2 k2 S2 => k H2 (k1.trans k2) S2)
    | false => exact iteF (k H1 k1 S1)⟩
theorem wor {rest : List Expr} (h : ET X M L R ρ a p) (h2 : p = false → EW X M L R ρ (.BoolOp .Or (b :: rest) pos) q) : EW X M L R ρ (.BoolOp .Or (a :: b :: rest) pos) (p || q) := fun σ H S Q k =>
  ⟨_, pw_or wt ww, h σ H S _ fun H1 k1 S1 => by
    cases p with
    | false => exact iteF (h2 rfl σ H1 S1 _ fun H2 k2 S2 => k H2 (k1.trans k2) S2)
    | true => exact iteT (k H1 k1 S1)⟩
theorem eone {op} (h : ED X M L R ρ a d) : ED X M L R ρ (.BoolOp op [a] pos) d := fun σ H S Q q => ⟨_, pe_one we, h σ H S _ q⟩
theorem eand {rest : List Expr} (h : ED X M L R ρ a (.bool p)) (h2 : p = true → ED X M L R ρ (.BoolOp .And (b :: rest) pos) (.bool q)) : ED X M L R ρ (.BoolOp .And (a :: b :: rest) pos) (.bool (p && q)) := fun σ H S Q k =>
  ⟨_, pe_and we we, h σ H S _ fun v H1 k1 S1 d1 => by
    cases d1
    refine ⟨p, rfl, ?_⟩
    cases p with
    | true => exact iteT (h2 rfl σ H1 S1 _ fun u H2 k2 S2 d2 => k u H2 (k1.trans k2) S2 d2)
    | false => exact iteF (k _ H1 k1 S1 (.bl false))⟩
theorem eor {rest : List Expr} (h : ED X M L R ρ a (.bool p)) (h2 : p = false → ED X M L R ρ (.BoolOp .Or (b :: rest) pos) (.bool q)) : ED X M L R ρ (.BoolOp .Or (a :: b :: rest) pos) (.bool (p || q)) := fun σ H S Q k =>
  ⟨_, pe_or we we, h σ H S _ fun v H1 k1 S1 d1 => by
    cases d1
    refine ⟨p, rfl, ?_⟩
    cases p with
    | false => exact iteF (h2 rfl σ H1 S1 _ fun u H2 k2 S2 d2 => k u H2 (k1.trans k2) S2 d2)
    | true => exact iteT (k _ H1 k1 S1 (.bl true))⟩
theorem enot (h : ED X M L R ρ a (.bool p)) : ED X M L R ρ (.UnaryOp .Not a pos) (.bool (!p)) := fun σ H S Q k =>
  ⟨_, pe_not we, h σ H S _ fun v H1 k1 S1 d1 => by
    cases d1
    exact ⟨p, rfl, k _ H1 k1 S1 (.bl _)⟩⟩
theorem eif (hc : ET X M L R ρ c p) (ha : p = true → ED X M L R ρ a d) (hb : p = false → ED X M L R ρ b d) : ED X M L R ρ (.IfExp c a b pos) d := fun σ H S Q k =>
  ⟨_, pe_ifExp wt we we, hc σ H S _ fun H1 k1 S1 => by
    cases p with
    | true => exact iteT (ha rfl σ H1 S1 _ fun u H2 k2 S2 d2 => k u H2 (k1.trans k2) S2 d2)
    | false => exact iteF (hb rfl σ H1 S1 _ fun u H2 k2 S2 d2 => k u H2 (k1.trans k2) S2 d2)⟩
theorem ea_nil : EA X M L R ρ [] [] := fun σ H S Q q => ⟨_, pa_nil, q _ H (Keep.refl _ _) S .nil⟩
theorem ea_cons (h : ED X M L R ρ e d) (h2 : EA X M L R ρ es ds) (hs : starEach (e :: es) X.env = (false, eval e X.env) :: starEach es X.env := by rfl) : EA X M L R ρ (e :: es) (d :: ds) := fun σ H S Q q =>
  ⟨_, pa_cons we wa hs, h σ H S _ fun v H1 k1 S1 d1 => h2 σ H1 S1 _ fun vs H2 k2 S2 d2 => q _ H2 (k1.trans k2) S2 (.cons (dp_same k2 d1) d2)⟩
theorem etup {x1} (h : EA X M L R ρ es ds) (hl : ds.length ≤ 1000 := by simp) : ED X M L R ρ (.Tuple es x1 pos) (.tuple ds) := fun σ H S Q q =>
  ⟨_, pe_tup wa, h σ H S _ fun vs H1 k1 S1 d1 => ⟨by rw [d1.len]; exact Nat.le_of_lt (small1000 hl), fun p np => by
    have pM : p ∉ M := fun z => S1.al p z np
    exact q _ _ (k1.trans (same_keep (same_new np))) (S1.mono (same_new np)) (.tup (by rw [hide_out pM]; exact upd_same) (dpAll_same (same_keep (same_new np)) d1))⟩⟩
theorem elst (h : EA X M L R ρ es ds) (hl : ds.length ≤ 1000 := by simp) : ED X M L R ρ (.List es pos) (.list ds) := fun σ H S Q q =>
  ⟨_, pe_lst wa, h σ H S _ fun vs H1 k1 S1 d1 => ⟨by rw [d1.len]; exact Nat.le_of_lt (small1000 hl), fun p np => by
    have pM : p ∉ M := fun z => S1.al p z np
    exact q _ _ (k1.trans (same_keep (same_new np))) (S1.mono (same_new np)) (.lst (by rw [hide_out pM]; exact upd_same) (dpAll_same (same_keep (same_new np)) d1))⟩⟩
theorem eix (ha : ED X M L R ρ a da) (hb : ED X M L R ρ b db) (h : IxD X da db d) (hs : PlainIx b := by exact fun _ _ => rfl) : ED X M L R ρ (.Subscript a b pos) d := fun σ H S Q q => by
  obtain ⟨r, ho, hr⟩ := h
  exact ⟨_, pe_ix ho we we hs, ha σ H S _ fun x H1 k1 S1 d1 => hb σ H1 S1 _ fun y H2 k2 S2 d2 => hr M x y H2 S2.al (dp_same k2 d1) d2 Q fun z H3 s3 d3 => q z H3 (k1.trans (k2.trans (same_keep s3))) (S2.mono s3) d3⟩
theorem ecallB {id : String} {x : Str} {p0 : Pos} (h : CallD X (.builtin id) M ds d) (hm : X.mg x = none) (ha : EA X M L R ρ (e :: es) ds) (hv : bootBuiltins x = some (.builtin id) := by decide +kernel) (hg : Gl X x := by rfl) (hn : x ≠ "__name__" := by decide) (hdb : (x == ("__debug__" : Str)) = false := by decide)
    (he : starEach (e :: es) X.env = (false, eval e X.env) :: starEach es X.env := by rfl) (hpl : (backTo pos (starEach es X.env)).any (·.1) = false := by rfl) : ED X M L R ρ (.Call (.Name x p0) (e :: es) [] pos) d := fun σ H S Q q => by
  obtain ⟨r, hc, hr⟩ := h
  exact ⟨_, pe_callB hc hg hm hv wa hn hdb he hpl, ha σ H S _ fun vs H1 k1 S1 d1 => hr vs H1 S1.al d1 Q fun z H3 s3 d3 => q z H3 (k1.trans (same_keep s3)) (S1.mono s3) d3⟩
theorem ecallT {T : String} {x : Str} {p0 : Pos} (h : CallD X (.type T) M ds d) (hm : X.mg x = none) (ha : EA X M L R ρ (e :: es) ds) (hv : bootBuiltins x = some (.type T) := by decide +kernel) (hg : Gl X x := by rfl) (hn : x ≠ "__name__" := by decide) (hdb : (x == ("__debug__" : Str)) = false := by decide)
    (he : starEach (e :: es) X.env = (false, eval e X.env) :: starEach es X.env := by rfl) (hpl : (backTo pos (starEach es X.env)).any (·.1) = false := by rfl) : ED X M L R ρ (.Call (.Name x p0) (e :: es) [] pos) d := fun σ H S Q q => by
  obtain ⟨r, hc, hr⟩ := h
  exact ⟨_, pe_callTy hc hg hm hv wa hn hdb he hpl, ha σ H S _ fun vs H1 k1 S1 d1 => hr vs H1 S1.al d1 Q fun z H3 s3 d3 => q z H3 (k1.trans (same_keep s3)) (S1.mono s3) d3⟩
end

/-! ### defs that only make new things: arguments and result are data -/
def spP (dom : List PyData → PyData → Prop) : Sp := fun vs H Q _ => ∃ M ds d, (∀ a ∈ M, H a ≠ none) ∧ DatAll M H vs ds ∧ dom ds d ∧ ∀ v H', Same H H' → Dat M H' v d → Q v H'
/-- a def that may be called by its name -/
structure Cal (P : Program) (w : World) (K : PySem.W.Frag) (mg : Str → Option Value) (base : Heap) (k : Nat) (x : Str) (sp : Sp) : Prop where
  ex : ∃ (f : Addr) (fd : FuncData) (ps : List Str), FnOk P w K mg base CX0 k f fd ps sp ∧ mg x = some (.ref f) ∧ PySem.W.keepIn K (.ref f) = true ∧ Binds K fd ps []
structure Met (P : Program) (w : World) (K : PySem.W.Frag) (mg : Str → Option Value) (base : Heap) (k : Nat) (C : Addr) (m : Str) (sp : Sp) : Prop where
  ex : ∃ (f : Addr) (fd : FuncData) (ps : List Str), Cls K C ∧ Meth K C m f ∧ FnOk P w K mg base CX0 k f fd ps sp ∧ Binds K fd ps []
structure Mak (P : Program) (w : World) (K : PySem.W.Frag) (mg : Str → Option Value) (base : Heap) (k : Nat) (x : Str) (C : Addr) (sp : Sp) : Prop where
  ex : ∃ (f : Addr) (fd : FuncData) (ps : List Str), Mk K C f ∧ FnOk P w K mg base CX0 k f fd ps sp ∧ mg x = some (.ref C) ∧ Binds K fd ps []
section
variable {X : Cx} {M : List Addr} {L : Own} {R : Hp → Prop} {ρ : Rho} {k j : Nat} {C : Addr} {x m : Str} {sp : Sp} {p0 pos apos : Pos} {e o : Expr} {es : List Expr} {ta : TE} {t : TA}
theorem pe_c (c : Cal X.prog X.w X.K X.mg X.base k x sp) (hr : Room j X.A) (hk : k ≤ j) (hg : Gl X x) (ha : PA X (e :: es) t)
    (hdb : (x == ("__debug__" : Str)) = false := by decide) (he : starEach (e :: es) X.env = (false, eval e X.env) :: starEach es X.env := by rfl) (hpl : (backTo pos (starEach es X.env)).any (·.1) = false := by rfl) :
    PE X (.Call (.Name x p0) (e :: es) [] pos) (tCall sp [] E0 t) := by
  obtain ⟨f, fd, ps, F, hm, kp, b⟩ := c.ex
  exact pe_call F (hr.mono hk) hg hm kp b .nil pass0 ha hdb he hpl
theorem pe_mk (c : Mak X.prog X.w X.K X.mg X.base k x C sp) (hr : Room j X.A) (hk : k + 1 ≤ j) (hg : Gl X x) (ha : PA X (e :: es) t)
    (hdb : (x == ("__debug__" : Str)) = false := by decide) (he : starEach (e :: es) X.env = (false, eval e X.env) :: starEach es X.env := by rfl) (hpl : (backTo pos (starEach es X.env)).any (·.1) = false := by rfl) :
    PE X (.Call (.Name x p0) (e :: es) [] pos) (tMake C sp [] E0 t) := by
  obtain ⟨f, fd, ps, M, F, hm, b⟩ := c.ex
  exact pe_make M F (hr.mono hk) hg hm b .nil pass0 ha hdb he hpl
theorem pe_mt {pl : Sem Bool} (c : Met X.prog X.w X.K X.mg X.base k C m sp) (hr : Room j X.A) (hk : k ≤ j) (he : PE X o ta) (ha : PA X (e :: es) t)
    (hst : starEach (e :: es) X.env = (false, eval e X.env) :: starEach es X.env := by rfl) (hpl : (backTo pos (starEach es X.env)).any (·.1) = false := by rfl)
    (ht : eval (.Call (.Attribute o m apos) (e :: es) [] pos) X.env = (do
      let ov ← eval o X.env
      standAt apos.atName
      let (f, first) ← holding [ov] (getMethod ov m pl)
      callWith pos f first (backTo pos (starEach (e :: es) X.env)) (backToKw pos (keywordEach [] X.env))) := by rfl) :
    PE X (.Call (.Attribute o m apos) (e :: es) [] pos) (tMeth C m sp [] E0 ta t) := by
  obtain ⟨f, fd, ps, hc, hm, F, b⟩ := c.ex
  exact pe_meth (pl := pl) he hc hm F (hr.mono hk) b .nil pass0 ha hst hpl ht
theorem pe_mt0 {pl : Sem Bool} (c : Met X.prog X.w X.K X.mg X.base k C m sp) (hr : Room j X.A) (hk : k ≤ j) (he : PE X o ta)
    (ht : eval (.Call (.Attribute o m apos) [] [] pos) X.env = (do
      let ov ← eval o X.env
      standAt apos.atName
      let (f, first) ← holding [ov] (getMethod ov m pl)
      callWith pos f first (backTo pos (starEach [] X.env)) (backToKw pos (keywordEach [] X.env))) := by rfl) :
    PE X (.Call (.Attribute o m apos) [] [] pos) (tMeth C m sp [] E0 ta tNil) := by
  obtain ⟨f, fd, ps, hc, hm, F, b⟩ := c.ex
  exact pe_meth0 (pl := pl) he hc hm F (hr.mono hk) b .nil pass0 ht
/-- a call of such a def -/
theorem ecall {dom : List PyData → PyData → Prop} {ds : List PyData} {d : PyData} (c : Cal X.prog X.w X.K X.mg X.base k x (spP dom)) (hr : Room j X.A) (ha : EA X M L R ρ (e :: es) ds) (hd : dom ds d) (hk : k ≤ j := by decide) (hg : Gl X x := by rfl)
    (hdb : (x == ("__debug__" : Str)) = false := by decide) (he : starEach (e :: es) X.env = (false, eval e X.env) :: starEach es X.env := by rfl) (hpl : (backTo pos (starEach es X.env)).any (·.1) = false := by rfl) :
    ED X M L R ρ (.Call (.Name x p0) (e :: es) [] pos) d := fun σ H S Q q =>
  ⟨_, pe_c c hr hk hg wa hdb he hpl, ha σ H S _ fun vs H1 k1 S1 d1 => ⟨M, ds, d, S1.al, by rw [List.append_nil]; exact d1, hd, fun v H2 s2 d2 => q v H2 (k1.trans (same_keep s2)) (S1.mono s2) d2⟩⟩
end
end Fb
namespace Fb
open PySem L2

abbrev iN (n : Nat) : PyData := .int (n : Int)
abbrev lN (ns : List Nat) : PyData := .list (ns.map iN)
abbrev tN (ns : List Nat) : PyData := .tuple (ns.map iN)
abbrev lI (ns : List Int) : PyData := .list (ns.map PyData.int)
abbrev tI (ns : List Int) : PyData := .tuple (ns.map PyData.int)
theorem iN_map (ns : List Nat) : ns.map iN = (ns.map fun n : Nat => (n : Int)).map PyData.int := by rw [List.map_map]; rfl
theorem lN_eq (ns : List Nat) : lN ns = lI (ns.map fun n : Nat => (n : Int)) := congrArg PyData.list (iN_map ns)
theorem tN_eq (ns : List Nat) : tN ns = tI (ns.map fun n : Nat => (n : Int)) := congrArg PyData.tuple (iN_map ns)

section
variable {X : Cx} {M : List Addr} {k : Nat}
theorem r65 {A : Around} (hr : Room k A) : A.units + 65 < cLine := by have := hr.un; omega
theorem r64 {A : Around} (hr : Room k A) : A.units + 64 < cLine := by have := hr.un; omega
/-! ### operators -/
theorem bd_i {f : Value → Value → Sem Value} {g : Int → Int → V} {G : Int → Int → PyData} {i j : Int} (h : OpR X f (rI0 g)) (hg : ∀ i j H, Dt H (g i j) (G i j)) : BinD X f M (.int i) (.int j) (G i j) :=
  ⟨_, h, fun x y H _ d1 d2 Q q => by cases d1; cases d2; exact ⟨i, j, rfl, rfl, q _ H (Same.refl _) (hg _ _ _)⟩⟩
theorem bd_ic {f : Value → Value → Sem Value} {C : Int → Int → Prop} {g : Int → Int → V} {G : Int → Int → PyData} {i j : Int} (h : OpR X f (rI C g)) (hc : C i j) (hg : ∀ i j H, Dt H (g i j) (G i j)) : BinD X f M (.int i) (.int j) (G i j) :=
  ⟨_, h, fun x y H _ d1 d2 Q q => by cases d1; cases d2; exact ⟨i, j, rfl, rfl, hc, q _ H (Same.refl _) (hg _ _ _)⟩⟩
theorem bd_add {i j : Int} : BinD X (binaryOp .Add) M (.int i) (.int j) (.int (i + j)) := bd_i op_add fun _ _ _ => .int _
theorem bd_sub {i j : Int} : BinD X (binaryOp .Sub) M (.int i) (.int j) (.int (i - j)) := bd_i op_sub fun _ _ _ => .int _
theorem bd_mul {i j : Int} (h : (-(2 ^ 64) < i ∧ i < 2 ^ 64) ∨ (-(2 ^ 64) < j ∧ j < 2 ^ 64)) : BinD X (binaryOp .Mult) M (.int i) (.int j) (.int (i * j)) := bd_ic op_mul h fun _ _ _ => .int _
theorem bd_fdiv {i j : Int} (h : 0 < j ∧ j < 1073741824) : BinD X (binaryOp .FloorDiv) M (.int i) (.int j) (.int (i / j)) := bd_ic op_fdiv h fun _ _ _ => .int _
theorem bd_mod {i j : Int} (h : 0 < j) : BinD X (binaryOp .Mod) M (.int i) (.int j) (.int (i % j)) := bd_ic op_mod h fun _ _ _ => .int _
theorem bd_pow {i j : Int} (h : 0 ≤ j ∧ j ≤ 1000000 ∧ i.natAbs < 2 ^ 64) : BinD X (binaryOp .Pow) M (.int i) (.int j) (.int (i ^ j.toNat)) := bd_ic op_pow h fun _ _ _ => .int _
theorem bd_lt {i j : Int} : BinD X (compareOp .Lt) M (.int i) (.int j) (.bool (decide (i < j))) := bd_i op_lt fun _ _ _ => .bl _
theorem bd_le {i j : Int} : BinD X (compareOp .LtE) M (.int i) (.int j) (.bool (decide (i ≤ j))) := bd_i op_le fun _ _ _ => .bl _
theorem bd_gt {i j : Int} : BinD X (compareOp .Gt) M (.int i) (.int j) (.bool (decide (j < i))) := bd_i op_gt fun _ _ _ => .bl _
theorem bd_ge {i j : Int} : BinD X (compareOp .GtE) M (.int i) (.int j) (.bool (decide (j ≤ i))) := bd_i op_ge fun _ _ _ => .bl _
theorem bd_addS {x y : Str} (h : x.length + y.length ≤ 1000) : BinD X (binaryOp .Add) M (.str x) (.str y) (.str (x ++ y)) :=
  ⟨_, op_add_str, fun _ _ H _ d1 d2 Q q => by cases d1; cases d2; exact ⟨x, y, rfl, rfl, Nat.le_of_lt (small1000 h), q _ H (Same.refl _) (.str _)⟩⟩
theorem bd_eqI {i j : Int} : BinD X (compareOp .Eq) M (.int i) (.int j) (.bool (decide (i = j))) :=
  ⟨_, op_eq, fun _ _ H _ d1 d2 Q q => by
    cases d1; cases d2
    refine ⟨rfl, q _ H (Same.refl _) ?_⟩
    have e : decide (V.int i = V.int j) = decide (i = j) := by by_cases h : i = j <;> simp [h]
    rw [e]; exact .bl _⟩
theorem bd_neI {i j : Int} : BinD X (compareOp .NotEq) M (.int i) (.int j) (.bool (!decide (i = j))) :=
  ⟨_, op_ne, fun _ _ H _ d1 d2 Q q => by
    cases d1; cases d2
    refine ⟨rfl, q _ H (Same.refl _) ?_⟩
    have e : decide (V.int i = V.int j) = decide (i = j) := by by_cases h : i = j <;> simp [h]
    rw [e]; exact .bl _⟩
theorem bd_eqS {i j : Str} : BinD X (compareOp .Eq) M (.str i) (.str j) (.bool (decide (i = j))) :=
  ⟨_, op_eq, fun _ _ H _ d1 d2 Q q => by
    cases d1; cases d2
    refine ⟨rfl, q _ H (Same.refl _) ?_⟩
    have e : decide (V.str i = V.str j) = decide (i = j) := by by_cases h : i = j <;> simp [h]
    rw [e]; exact .bl _⟩
theorem bd_neS {i j : Str} : BinD X (compareOp .NotEq) M (.str i) (.str j) (.bool (!decide (i = j))) :=
  ⟨_, op_ne, fun _ _ H _ d1 d2 Q q => by
    cases d1; cases d2
    refine ⟨rfl, q _ H (Same.refl _) ?_⟩
    have e : decide (V.str i = V.str j) = decide (i = j) := by by_cases h : i = j <;> simp [h]
    rw [e]; exact .bl _⟩
theorem bd_eqB {i j : Bool} : BinD X (compareOp .Eq) M (.bool i) (.bool j) (.bool (decide (i = j))) :=
  ⟨_, op_eq, fun _ _ H _ d1 d2 Q q => by
    cases d1; cases d2
    refine ⟨rfl, q _ H (Same.refl _) ?_⟩
    have e : decide (V.bl i = V.bl j) = decide (i = j) := by by_cases h : i = j <;> simp [h]
    rw [e]; exact .bl _⟩
theorem bd_neB {i j : Bool} : BinD X (compareOp .NotEq) M (.bool i) (.bool j) (.bool (i != j)) :=
  ⟨_, op_ne, fun _ _ H _ d1 d2 Q q => by
    cases d1; cases d2
    refine ⟨rfl, q _ H (Same.refl _) ?_⟩
    have e : (!decide (V.bl i = V.bl j)) = (i != j) := by cases i <;> cases j <;> simp
    rw [e]; exact .bl _⟩
theorem bd_eqD {d e : PyData} (hr : Room k X.A) (h1 : SeqAt.shaped d = true) (h2 : SeqAt.shaped e = true) : BinD X (compareOp .Eq) M d e (.bool (PyData.eqv d e)) :=
  ⟨_, op_eqD (r64 hr), fun _ _ H _ d1 d2 Q q => ⟨d, e, (dat_full d1).dp, (dat_full d2).dp, h1, h2, q _ H (Same.refl _) (.bl _)⟩⟩
theorem bd_neD {d e : PyData} (hr : Room k X.A) (h1 : SeqAt.shaped d = true) (h2 : SeqAt.shaped e = true) : BinD X (compareOp .NotEq) M d e (.bool (!PyData.eqv d e)) :=
  ⟨_, op_neD (r64 hr), fun _ _ H _ d1 d2 Q q => ⟨d, e, (dat_full d1).dp, (dat_full d2).dp, h1, h2, q _ H (Same.refl _) (.bl _)⟩⟩
theorem bd_inD {d : PyData} {es : List PyData} (hr : Room k X.A) (h1 : SeqAt.shaped d = true) (h2 : SeqAt.shaped (.list es) = true) : BinD X (compareOp .In) M d (.list es) (.bool (es.any fun z => PyData.eqv z d)) :=
  ⟨_, op_inD (r65 hr), fun _ _ H _ d1 d2 Q q => ⟨d, es, (dat_full d1).dp, (dat_full d2).dp, h1, h2, q _ H (Same.refl _) (.bl _)⟩⟩
theorem bd_notInD {d : PyData} {es : List PyData} (hr : Room k X.A) (h1 : SeqAt.shaped d = true) (h2 : SeqAt.shaped (.list es) = true) : BinD X (compareOp .NotIn) M d (.list es) (.bool (!es.any fun z => PyData.eqv z d)) :=
  ⟨_, op_notInD (r65 hr), fun _ _ H _ d1 d2 Q q => ⟨d, es, (dat_full d1).dp, (dat_full d2).dp, h1, h2, q _ H (Same.refl _) (.bl _)⟩⟩
theorem inV_ints (c : Int) (ns : List Int) : inV (.int c) (ns.map V.int) = decide (c ∈ ns) := by
  unfold inV
  rw [List.any_map]
  induction ns with
  | nil => rfl
  | cons n ns ih =>
    rw [List.any_cons, ih]
    have e : ((fun y => eqV y (.int c)) ∘ V.int) n = decide (c = n) := by
      show (n == c) = _
      by_cases h : n = c
      · subst h; simp
      · have h' : ¬ c = n := fun q => h q.symm
        simp [h, h']
    rw [e]
    by_cases h : c = n <;> simp [h]
theorem inV_strs (c : Str) (ns : List Str) : inV (.str c) (ns.map V.str) = decide (c ∈ ns) := by
  unfold inV
  rw [List.any_map]
  induction ns with
  | nil => rfl
  | cons n ns ih =>
    rw [List.any_cons, ih]
    have e : ((fun y => eqV y (.str c)) ∘ V.str) n = decide (c = n) := by
      show (n == c) = _
      by_cases h : n = c
      · subst h; simp
      · have h' : ¬ c = n := fun q => h q.symm
        simp [h, h']
    rw [e]
    by_cases h : c = n <;> simp [h]
theorem flat_ints (ns : List Int) : (ns.map V.int).all flatV = true := by rw [List.all_map]; exact List.all_eq_true.mpr fun _ _ => rfl
theorem flat_strs (ns : List Str) : (ns.map V.str).all flatV = true := by rw [List.all_map]; exact List.all_eq_true.mpr fun _ _ => rfl
theorem in_core {op : CmpOp} {neg : Bool} {x : V} {vs : List V} {d s : PyData} {b : Bool} (ho : OpR X (compareOp op) (rIn X.K neg)) (hx : ∀ H v, Dt H v d → v = x) (hs : ∀ H v, Dt H v s → ∃ p, v = .ref p ∧ (SqL X.K H p vs ∨ SqT X.K H p vs)) (fx : flatV x = true) (fs : vs.all flatV = true) (e : inV x vs = b) :
    BinD X (compareOp op) M d s (.bool (if neg then !b else b)) :=
  ⟨_, ho, fun v w H _ d1 d2 Q q => by
    obtain ⟨p, rfl, h⟩ := hs H w (dat_full d2)
    rw [hx _ _ d1]
    exact ⟨p, vs, rfl, h, fx, fs, by rw [e]; exact q _ H (Same.refl _) (.bl _)⟩⟩
theorem is_int {H : Hp} {v : V} {i : Int} (h : Dt H v (.int i)) : v = .int i := by cases h; rfl
theorem is_str {H : Hp} {v : V} {i : Str} (h : Dt H v (.str i)) : v = .str i := by cases h; rfl
theorem sq_list {K : PySem.W.Frag} {H : Hp} {v : V} {ns : List Int} (h : Dt H v (lI ns)) : ∃ p, v = .ref p ∧ (SqL K H p (ns.map V.int) ∨ SqT K H p (ns.map V.int)) := by
  cases h with
  | lst h a => exact ⟨_, rfl, .inl (.inl (.inl (by rw [← a.of_ints]; exact h)))⟩
theorem sq_tup {K : PySem.W.Frag} {H : Hp} {v : V} {ns : List Int} (h : Dt H v (tI ns)) : ∃ p, v = .ref p ∧ (SqL K H p (ns.map V.int) ∨ SqT K H p (ns.map V.int)) := by
  cases h with
  | tup h a => exact ⟨_, rfl, .inr (.inl (.inl (by rw [← a.of_ints]; exact h)))⟩
theorem sq_listS {K : PySem.W.Frag} {H : Hp} {v : V} {ns : List Str} (h : Dt H v (.list (ns.map PyData.str))) : ∃ p, v = .ref p ∧ (SqL K H p (ns.map V.str) ∨ SqT K H p (ns.map V.str)) := by
  cases h with
  | lst h a => exact ⟨_, rfl, .inl (.inl (.inl (by rw [← a.of_strs]; exact h)))⟩
theorem sq_tupS {K : PySem.W.Frag} {H : Hp} {v : V} {ns : List Str} (h : Dt H v (.tuple (ns.map PyData.str))) : ∃ p, v = .ref p ∧ (SqL K H p (ns.map V.str) ∨ SqT K H p (ns.map V.str)) := by
  cases h with
  | tup h a => exact ⟨_, rfl, .inr (.inl (.inl (by rw [← a.of_strs]; exact h)))⟩
theorem bd_inLI {c : Int} {ns : List Int} : BinD X (compareOp .In) M (.int c) (lI ns) (.bool (decide (c ∈ ns))) := in_core op_in_seq (fun _ _ h => is_int h) (fun _ _ h => sq_list h) rfl (flat_ints _) (inV_ints _ _)
theorem bd_inTI {c : Int} {ns : List Int} : BinD X (compareOp .In) M (.int c) (tI ns) (.bool (decide (c ∈ ns))) := in_core op_in_seq (fun _ _ h => is_int h) (fun _ _ h => sq_tup h) rfl (flat_ints _) (inV_ints _ _)
theorem bd_notInLI {c : Int} {ns : List Int} : BinD X (compareOp .NotIn) M (.int c) (lI ns) (.bool (!decide (c ∈ ns))) := in_core op_notIn_seq (fun _ _ h => is_int h) (fun _ _ h => sq_list h) rfl (flat_ints _) (inV_ints _ _)
theorem bd_notInTI {c : Int} {ns : List Int} : BinD X (compareOp .NotIn) M (.int c) (tI ns) (.bool (!decide (c ∈ ns))) := in_core op_notIn_seq (fun _ _ h => is_int h) (fun _ _ h => sq_tup h) rfl (flat_ints _) (inV_ints _ _)
theorem bd_inLS {c : Str} {ns : List Str} : BinD X (compareOp .In) M (.str c) (.list (ns.map PyData.str)) (.bool (decide (c ∈ ns))) := in_core op_in_seq (fun _ _ h => is_str h) (fun _ _ h => sq_listS h) rfl (flat_strs _) (inV_strs _ _)
theorem bd_inTS {c : Str} {ns : List Str} : BinD X (compareOp .In) M (.str c) (.tuple (ns.map PyData.str)) (.bool (decide (c ∈ ns))) := in_core op_in_seq (fun _ _ h => is_str h) (fun _ _ h => sq_tupS h) rfl (flat_strs _) (inV_strs _ _)
theorem bd_notInLS {c : Str} {ns : List Str} : BinD X (compareOp .NotIn) M (.str c) (.list (ns.map PyData.str)) (.bool (!decide (c ∈ ns))) := in_core op_notIn_seq (fun _ _ h => is_str h) (fun _ _ h => sq_listS h) rfl (flat_strs _) (inV_strs _ _)
theorem mem_cast {c : Nat} {ns : List Nat} : decide ((c : Int) ∈ ns.map fun n : Nat => (n : Int)) = decide (c ∈ ns) := by
  apply decide_eq_decide.mpr
  rw [List.mem_map]
  constructor
  · rintro ⟨x, hx, e⟩
    have e : (x : Int) = (c : Int) := e
    have : x = c := by omega
    exact this ▸ hx
  · exact fun h => ⟨c, h, rfl⟩
theorem bd_inLN {c : Nat} {ns : List Nat} : BinD X (compareOp .In) M (iN c) (lN ns) (.bool (decide (c ∈ ns))) := by
  have := bd_inLI (X := X) (M := M) (c := (c : Int)) (ns := ns.map fun n : Nat => (n : Int))
  rw [mem_cast] at this; rw [lN_eq]; exact this
theorem bd_inTN {c : Nat} {ns : List Nat} : BinD X (compareOp .In) M (iN c) (tN ns) (.bool (decide (c ∈ ns))) := by
  have := bd_inTI (X := X) (M := M) (c := (c : Int)) (ns := ns.map fun n : Nat => (n : Int))
  rw [mem_cast] at this; rw [tN_eq]; exact this
theorem bd_notInLN {c : Nat} {ns : List Nat} : BinD X (compareOp .NotIn) M (iN c) (lN ns) (.bool (!decide (c ∈ ns))) := by
  have := bd_notInLI (X := X) (M := M) (c := (c : Int)) (ns := ns.map fun n : Nat => (n : Int))
  rw [mem_cast] at this; rw [lN_eq]; exact this
theorem bd_notInTN {c : Nat} {ns : List Nat} : BinD X (compareOp .NotIn) M (iN c) (tN ns) (.bool (!decide (c ∈ ns))) := by
  have := bd_notInTI (X := X) (M := M) (c := (c : Int)) (ns := ns.map fun n : Nat => (n : Int))
  rw [mem_cast] at this; rw [tN_eq]; exact this
/-- one sign in a text -/
theorem bd_inSign {c : Nat} {z : Str} : BinD X (compareOp .In) M (.str ⟨#[c]⟩) (.str z) (.bool (decide (c ∈ z.cps.toList))) :=
  ⟨_, op_in_sign, fun _ _ H _ d1 d2 Q q => by cases d1; cases d2; exact ⟨c, z, rfl, rfl, q _ H (Same.refl _) (.bl _)⟩⟩
theorem bd_isN {d : PyData} {b : Bool} (h : (match d with | .none => true | _ => false) = b) : BinD X (compareOp .Is) M d .none (.bool b) :=
  ⟨_, op_isN, fun x y H _ d1 d2 Q q => by
    cases d2
    refine ⟨rfl, ?_⟩
    have e : decide (x = V.non) = b := by
      subst h
      cases d1 <;> rfl
    rw [e]
    exact q _ H (Same.refl _) (.bl _)⟩
theorem new_dat {H : Hp} {p : Addr} {o : HO} (al : ∀ a ∈ M, H a ≠ none) (np : H p = none) : hide M (upd H p o) p = some o := by
  rw [hide_out (fun z => al p z np), upd_same]
theorem bd_addL {xs ys : List PyData} (h : xs.length + ys.length ≤ 1000) : BinD X (binaryOp .Add) M (.list xs) (.list ys) (.list (xs ++ ys)) :=
  ⟨_, op_cat, fun _ _ H al d1 d2 Q q => by
    cases d1 with
    | lst e1 a1 =>
      cases d2 with
      | lst e2 a2 =>
        refine ⟨_, _, _, _, rfl, rfl, (hide_some e1).2, (hide_some e2).2, by rw [a1.len, a2.len]; exact Nat.le_of_lt (small1000 h), fun p np => ?_⟩
        exact q _ _ (same_new np) (.lst (new_dat al np) (dpAll_same (same_keep (same_new np)) (a1.app a2)))⟩
theorem bd_addT {xs ys : List PyData} (h : xs.length + ys.length ≤ 1000) : BinD X (binaryOp .Add) M (.tuple xs) (.tuple ys) (.tuple (xs ++ ys)) :=
  ⟨_, op_catA, fun x y H al d1 d2 Q q => by
    cases d1 with
    | @tup a vs _ e1 a1 =>
      cases d2 with
      | @tup b ws _ e2 a2 =>
        refine ⟨a, b, vs, ws, rfl, rfl, .inl (.inl (hide_some e1).2), .inl (.inl (hide_some e2).2), by rw [a1.len, a2.len]; exact Nat.le_of_lt (small1000 h), fun e => ?_, fun ne e => ?_, fun n1 n2 p np => ?_⟩
        · refine q _ H (Same.refl _) ?_
          subst e
          cases a1
          exact .tup e2 a2
        · refine q _ H (Same.refl _) ?_
          subst e
          cases a2
          rw [List.append_nil]
          exact .tup e1 a1
        · exact q _ _ (same_new np) (.tup (new_dat al np) (dpAll_same (same_keep (same_new np)) (a1.app a2)))⟩
theorem DtAll.rep {H : Hp} {vs : List V} {ds : List PyData} (a : DtAll H vs ds) : ∀ n, DtAll H (List.replicate n vs).flatten (List.replicate n ds).flatten
  | 0 => .nil
  | n + 1 => by
    rw [List.replicate_succ, List.replicate_succ, List.flatten_cons, List.flatten_cons]
    exact a.app (DtAll.rep a n)
theorem bd_mulL {xs : List PyData} {n : Int} (h : n < 1000) (h0 : 0 ≤ n) (hl : xs.length ≤ 1000) : BinD X (binaryOp .Mult) M (.list xs) (.int n) (.list (List.replicate n.toNat xs).flatten) :=
  ⟨_, op_rep, fun _ _ H al d1 d2 Q q => by
    cases d1 with
    | lst e1 a1 =>
      cases d2
      refine ⟨_, n, _, rfl, rfl, (hide_some e1).2, by omega, by omega, ?_, fun p np => ?_⟩
      · have h1 : n.toNat ≤ 1000 := by omega
        have := Nat.mul_le_mul hl h1
        rw [a1.len, sizeLine_eq]
        omega
      · exact q _ _ (same_new np) (.lst (new_dat al np) (dpAll_same (same_keep (same_new np)) (DtAll.rep a1 _)))⟩

/-! ### subscripts -/
theorem ix_t {ds : List PyData} {i : Nat} {d : PyData} (h : ds[i]? = some d) : IxD X (.tuple ds) (iN i) d :=
  ⟨_, ix_tup, fun M x y H al d1 d2 Q q => by
    cases d1 with
    | tup e a =>
      cases d2
      obtain ⟨v, h1, h2⟩ := a.get h
      exact ⟨_, _, _, v, rfl, rfl, .inl (.inl (hide_some e).2), atI_nat h1, q _ H (Same.refl _) h2⟩⟩
theorem ix_l {ds : List PyData} {i : Nat} {d : PyData} (h : ds[i]? = some d) : IxD X (.list ds) (iN i) d :=
  ⟨_, ix_list, fun M x y H al d1 d2 Q q => by
    cases d1 with
    | lst e a =>
      cases d2
      obtain ⟨v, h1, h2⟩ := a.get h
      exact ⟨_, _, _, v, rfl, rfl, .inl (.inl (hide_some e).2), atI_nat h1, q _ H (Same.refl _) h2⟩⟩
theorem ix_s {z : Str} {i : Nat} {c : Nat} (h : z.cps.toList[i]? = some c) (hl : z.length ≤ 1000) : IxD X (.str z) (iN i) (.str ⟨#[c]⟩) :=
  ⟨_, ix_str, fun M x y H al d1 d2 Q q => by
    cases d1; cases d2
    exact ⟨z, _, c, rfl, rfl, Nat.le_of_lt (small1000 hl), atI_nat h, q _ H (Same.refl _) (.str _)⟩⟩
theorem ix_tz {ds : List PyData} {i : Int} {j : Nat} {d : PyData} (h : ds[j]? = some d) (e : i = (j : Int)) : IxD X (.tuple ds) (.int i) d := by subst e; exact ix_t h
theorem ix_lz {ds : List PyData} {i : Int} {j : Nat} {d : PyData} (h : ds[j]? = some d) (e : i = (j : Int)) : IxD X (.list ds) (.int i) d := by subst e; exact ix_l h

/-! ### built-in functions -/
theorem cd_lenL {ds : List PyData} : CallD X (.builtin "len") M [.list ds] (.int ds.length) :=
  ⟨_, call_len_seq, fun vs H al a Q q => by
    cases a with
    | cons h a =>
      cases a
      cases h with
      | lst e a => exact ⟨_, _, rfl, .inl (.inl (.inl (hide_some e).2)), q _ H (Same.refl _) (by rw [a.len]; exact .int _)⟩⟩
theorem cd_lenT {ds : List PyData} : CallD X (.builtin "len") M [.tuple ds] (.int ds.length) :=
  ⟨_, call_len_seq, fun vs H al a Q q => by
    cases a with
    | cons h a =>
      cases a
      cases h with
      | tup e a => exact ⟨_, _, rfl, .inr (.inl (.inl (hide_some e).2)), q _ H (Same.refl _) (by rw [a.len]; exact .int _)⟩⟩
theorem cd_lenS {z : Str} (h : z.length ≤ 1000) : CallD X (.builtin "len") M [.str z] (.int z.length) :=
  ⟨_, call_len_str, fun vs H al a Q q => by
    cases a with
    | cons h0 a =>
      cases a
      cases h0
      exact ⟨z, rfl, Nat.le_of_lt (small1000 h), q _ H (Same.refl _) (.int _)⟩⟩
theorem cd_max2 {i j : Int} (hc : X.calm = true) : CallD X (.builtin "max") M [.int i, .int j] (.int (max i j)) :=
  ⟨_, call_max2 hc, fun vs H al a Q q => by
    cases a with
    | cons h1 a => cases a with
      | cons h2 a =>
        cases a; cases h1; cases h2
        refine ⟨i, j, rfl, ?_⟩
        have e : (if j > i then j else i) = max i j := by omega
        rw [e]
        exact q _ H (Same.refl _) (.int _)⟩
theorem cd_min2 {i j : Int} (hc : X.calm = true) : CallD X (.builtin "min") M [.int i, .int j] (.int (min i j)) :=
  ⟨_, call_min2 hc, fun vs H al a Q q => by
    cases a with
    | cons h1 a => cases a with
      | cons h2 a =>
        cases a; cases h1; cases h2
        refine ⟨i, j, rfl, ?_⟩
        have e : (if j < i then j else i) = min i j := by omega
        rw [e]
        exact q _ H (Same.refl _) (.int _)⟩
/-- max([a, b]) -/
theorem cd_maxL2 {i j : Int} (hc : X.calm = true) : CallD X (.builtin "max") M [.list [.int i, .int j]] (.int (max i j)) :=
  ⟨_, cr_max hc, fun vs H al a Q q => by
    cases a with
    | cons h1 a =>
      cases a
      cases h1 with
      | @lst p ws _ e a =>
        have ea : ws = [i, j].map V.int := DtAll.of_ints (ns := [i, j]) a
        subst ea
        refine ⟨p, [i, j], rfl, .inl (.inl (hide_some e).2), Nat.zero_lt_succ _, fun m hm hle => ?_⟩
        have e : m = max i j := by
          have h1 := hle i (by simp)
          have h2 := hle j (by simp)
          simp at hm
          omega
        rw [e]
        exact q _ H (Same.refl _) (.int _)⟩
theorem cd_intB {b : Bool} : CallD X (.type "int") M [.bool b] (.int (if b then 1 else 0)) :=
  ⟨_, call_int1, fun vs H al a Q q => by
    cases a with
    | cons h1 a => cases a; cases h1; exact .inr ⟨b, rfl, q _ H (Same.refl _) (.int _)⟩⟩
theorem cd_intI {i : Int} : CallD X (.type "int") M [.int i] (.int i) :=
  ⟨_, call_int1, fun vs H al a Q q => by
    cases a with
    | cons h1 a => cases a; cases h1; exact .inl ⟨i, rfl, q _ H (Same.refl _) (.int _)⟩⟩
theorem cd_tupL {ds : List PyData} : CallD X (.type "tuple") M [.list ds] (.tuple ds) :=
  ⟨_, call_tuple_of, fun vs H al a Q q => by
    cases a with
    | cons h1 a =>
      cases a
      cases h1 with
      | lst e a => exact ⟨_, _, rfl, .inl ⟨.inl (.inl (hide_some e).2), fun l nl => q _ _ (same_new nl) (.tup (new_dat al nl) (dpAll_same (same_keep (same_new nl)) a))⟩⟩⟩
theorem cd_all {bs : List Bool} (hc : X.calm = true) : CallD X (.builtin "all") M [.list (bs.map PyData.bool)] (.bool (bs.all id)) :=
  ⟨_, cr_all hc, fun vs H al a Q q => by
    cases a with
    | cons h1 a =>
      cases a
      cases h1 with
      | lst e a => exact ⟨_, bs, rfl, .inl (.inl (by rw [← a.of_bls]; exact (hide_some e).2)), q _ H (Same.refl _) (.bl _)⟩⟩
/-- sorted(xs): which list it is, is told by what a sorted one must be -/
theorem cd_sorted {ns ms : List Int} (hl : ns.length < 64) (hm : ∀ l : List Int, l.Perm ns → l.Pairwise (· ≤ ·) → l = ms) : CallD X (.builtin "sorted") M [lI ns] (lI ms) :=
  ⟨_, cr_sorted, fun vs H al a Q q => by
    cases a with
    | cons h1 a =>
      cases a
      cases h1 with
      | lst e a =>
        refine ⟨_, ns, rfl, .inl (.inl (by rw [← a.of_ints]; exact (hide_some e).2)), hl, fun l p hp hs np => ?_⟩
        rw [hm l hp hs]
        exact q _ _ (same_new np) (.lst (new_dat al np) (DtAll.ints ms))⟩
/-- max of a tuple of ints -/
theorem depth_ints : ∀ ns : List Int, PyData.depthAll (ns.map PyData.int) ≤ 1
  | [] => Nat.zero_le _
  | n :: ns => by
    rw [List.map_cons]
    unfold PyData.depthAll
    have := depth_ints ns
    have e : PyData.depth (.int n) ≤ 1 := by unfold PyData.depth; decide
    omega
theorem alike_ints (ns : List Int) : PySem.W.AlikeAll (ns.map PyData.int) := by
  refine ⟨fun x hx y hy => ?_, fun x hx e => ?_⟩
  · obtain ⟨i, _, rfl⟩ := List.mem_map.mp hx
    obtain ⟨j, _, rfl⟩ := List.mem_map.mp hy
    rfl
  · obtain ⟨i, _, rfl⟩ := List.mem_map.mp hx
    cases e
theorem cd_maxT {x : Int} {xs : List Int} (hc : X.calm = true) (hr : Room k X.A) : CallD X (.builtin "max") M [tI (x :: xs)] (.int (xs.foldl max x)) := by
  refine ⟨fun vs H Q => ∃ p, vs = [.ref p] ∧ SqT X.K H p ((x :: xs).map V.int) ∧ Q (.int (xs.foldl max x)) H, ?_, fun vs H al a Q q => ?_⟩
  · intro pins s σ H vs us Q I r h
    obtain ⟨p, rfl, hT, q⟩ := h
    obtain ⟨its, rv, pl, hz⟩ := I.tuple hT
    rw [Vals.ref1 r]
    have hd : DpAll X.K H ((x :: xs).map V.int) ((x :: xs).map PyData.int) := (DtAll.ints (x :: xs)).dp
    obtain ⟨as, ra⟩ := Dp.readsAll I _ _ its hd rv
    have dep := depth_ints (x :: xs)
    refine PySem.W.max_tuple_data (x := PyData.int x) (xs := xs.map PyData.int) (I.ok.hd hc) pl ra (alike_ints (x :: xs)) (by have := hr.un; rw [List.map_cons] at dep; omega) fun i v h' tk bs hv rd hk => ?_
    rw [PySem.W.maxD_ints] at rd
    cases rd
    exact ⟨V.int _, H, I.kept hk, ⟨_, rfl⟩, q⟩
  · cases a with
    | cons h1 a =>
      cases a
      cases h1 with
      | tup e a => exact ⟨_, rfl, .inl (.inl (by rw [← a.of_ints]; exact (hide_some e).2)), q _ H (Same.refl _) (.int _)⟩
end
end Fb
namespace Fb
open PySem L2

/-! ### what is walked -/
structure ItD (M : List Addr) (J : It) (xs : List PyData) (G : Hp → Prop) : Prop where
  go : ∀ i H, i < xs.length → G H → J.go i H
  yld : ∀ (i : Nat) H v H' x, xs[i]? = some x → G H → J.yld i H v H' → H' = H ∧ Dat M H v x
  stop : ∀ i H, xs.length ≤ i → G H → J.stop i H
  keep : ∀ H H', Keep M H H' → G H → G H'
def EI (X : Cx) (M : List Addr) (L : Own) (R : Hp → Prop) (ρ : Rho) (tg it : Expr) (xs : List PyData) : Prop :=
  ∀ σ H, Sto M L R ρ σ H → ∀ Q : It → Hp → Prop, (∀ J H1 G, Keep M H H1 → Sto M L R ρ σ H1 → ItD M J xs G → G H1 → (∀ D, H1 D = none → ∃ G', ItD (D :: M) J xs G' ∧ G' (upd H1 D (.lst []))) → Q J H1) → WI X tg it σ H Q
theorem new_keep {M : List Addr} {H : Hp} {D : Addr} {o : HO} (h : H D = none) : Same (hide M H) (hide (D :: M) (upd H D o)) := fun b u e => by
  obtain ⟨h1, h2⟩ := hide_some e
  have ne : b ≠ D := ne_of_none h2 h
  rw [hide_out (by simp [ne, h1]), upd_ne ne]; exact h2
theorem itd_list {K : PySem.W.Frag} {M : List Addr} {a : Addr} {xs : List PyData} : ItD M (Itl K a) xs (fun H => Dat M H (.ref a) (.list xs)) where
  go := fun i H h g => by
    cases g with
    | @lst _ vs _ e al =>
      have : i < vs.length := by rw [al.len]; exact h
      exact ⟨vs, vs[i], .inl (.inl (hide_some e).2), List.getElem?_eq_getElem this⟩
  yld := fun i H v H' x hx g y => by
    obtain ⟨e1, y⟩ := y
    cases g with
    | @lst _ vs _ e al =>
      have := y vs (.inl (.inl (hide_some e).2))
      obtain ⟨d, h1, h2⟩ := al.get' this
      rw [hx] at h1
      cases h1
      exact ⟨e1, h2⟩
  stop := fun i H h g => by
    cases g with
    | @lst _ vs _ e al => exact ⟨vs, .inl (.inl (hide_some e).2), by rw [al.len]; exact h⟩
  keep := fun H H' k g => dp_same k g
theorem itd_tup {K : PySem.W.Frag} {M : List Addr} {a : Addr} {xs : List PyData} : ItD M (Itt K a) xs (fun H => Dat M H (.ref a) (.tuple xs)) where
  go := fun i H h g => by
    cases g with
    | @tup _ vs _ e al =>
      have : i < vs.length := by rw [al.len]; exact h
      exact ⟨vs, vs[i], .inl (.inl (hide_some e).2), List.getElem?_eq_getElem this⟩
  yld := fun i H v H' x hx g y => by
    obtain ⟨e1, y⟩ := y
    cases g with
    | @tup _ vs _ e al =>
      have := y vs (.inl (.inl (hide_some e).2))
      obtain ⟨d, h1, h2⟩ := al.get' this
      rw [hx] at h1
      cases h1
      exact ⟨e1, h2⟩
  stop := fun i H h g => by
    cases g with
    | @tup _ vs _ e al => exact ⟨vs, .inl (.inl (hide_some e).2), by rw [al.len]; exact h⟩
  keep := fun H H' k g => dp_same k g
theorem rangeN_get {n i : Nat} {x : PyData} (h : ((List.range n).map iN)[i]? = some x) : i < n ∧ x = iN i := by
  rw [List.getElem?_map] at h
  cases e : (List.range n)[i]? with
  | none => rw [e] at h; cases h
  | some j =>
    rw [e] at h
    obtain ⟨h1, h2⟩ := List.getElem?_eq_some_iff.mp e
    rw [List.getElem_range] at h2
    rw [List.length_range] at h1
    subst h2
    exact ⟨h1, (Option.some.inj h).symm⟩
theorem itd_range {M : List Addr} {n : Nat} : ItD M (Itr 0 n) ((List.range n).map iN) (fun _ => True) where
  go := fun i H h _ => by
    show i < n
    simpa using h
  yld := fun i H v H' x hx _ y => by
    obtain ⟨_, rfl⟩ := rangeN_get hx
    obtain ⟨e1, rfl⟩ := y
    refine ⟨e1, ?_⟩
    have : ((0 : Int) + (i : Int)) = (i : Int) := Int.zero_add _
    rw [this]
    exact .int _
  stop := fun i H h _ => by
    show n ≤ i
    simpa using h
  keep := fun _ _ _ _ => trivial
/-- m, m - 1, .., 0 -/
theorem itd_down {M : List Addr} {m : Nat} : ItD M (Itc (m : Int) (-1) (m + 1)) ((List.range (m + 1)).map fun i => iN (m - i)) (fun _ => True) where
  go := fun i H h _ => by
    show i < m + 1
    simpa using h
  yld := fun i H v H' x hx _ y => by
    rw [List.getElem?_map] at hx
    cases e : (List.range (m + 1))[i]? with
    | none => rw [e] at hx; cases hx
    | some j =>
      rw [e] at hx
      obtain ⟨h1, h2⟩ := List.getElem?_eq_some_iff.mp e
      rw [List.getElem_range] at h2
      rw [List.length_range] at h1
      subst h2
      have hx := (Option.some.inj hx).symm
      subst hx
      obtain ⟨e1, rfl⟩ := y
      refine ⟨e1, ?_⟩
      have : ((m : Int) + ((i : Nat) : Int) * (-1)) = ((m - i : Nat) : Int) := by omega
      rw [this]
      exact .int _
  stop := fun i H h _ => by
    show m + 1 ≤ i
    simpa using h
  keep := fun _ _ _ _ => trivial
theorem itd_str {M : List Addr} {z : Str} : ItD M (Its z) (z.cps.toList.map fun c => PyData.str ⟨#[c]⟩) (fun _ => True) where
  go := fun i H h _ => by
    show i < z.cps.size
    simpa using h
  yld := fun i H v H' x hx _ y => by
    obtain ⟨e1, c, hc, rfl⟩ := y
    refine ⟨e1, ?_⟩
    rw [List.getElem?_map, Array.getElem?_toList, hc] at hx
    cases hx
    exact .str _
  stop := fun i H h _ => by
    show z.cps.size ≤ i
    simpa using h
  keep := fun _ _ _ _ => trivial
section
variable {X : Cx} {M : List Addr} {L : Own} {R : Hp → Prop} {ρ : Rho} {e a b c tg it elt : Expr} {es : List Expr} {d d' da db dc : PyData} {ds xs : List PyData} {pos p0 : Pos} {p q : Bool}
theorem ei_list (h : ED X M L R ρ it (.list xs)) : EI X M L R ρ tg it xs := fun σ H S Q q =>
  ⟨_, pi_list we, h σ H S _ fun v H1 k1 S1 d1 => by
    cases v with
    | ref a =>
      have d0 := d1
      cases d0 with
      | @lst _ vs _ e al =>
        refine ⟨a, rfl, ⟨vs, .inl (.inl (hide_some e).2)⟩, q _ H1 _ k1 S1 itd_list d1 fun D hD => ⟨_, itd_list, dp_same (new_keep hD) d1⟩⟩
    | _ => cases d1⟩
theorem ei_tup (h : ED X M L R ρ it (.tuple xs)) : EI X M L R ρ tg it xs := fun σ H S Q q =>
  ⟨_, pi_tup we, h σ H S _ fun v H1 k1 S1 d1 => by
    cases v with
    | ref a =>
      have d0 := d1
      cases d0 with
      | @tup _ vs _ e al =>
        refine ⟨a, rfl, ⟨vs, .inl (.inl (hide_some e).2)⟩, q _ H1 _ k1 S1 itd_tup d1 fun D hD => ⟨_, itd_tup, dp_same (new_keep hD) d1⟩⟩
    | _ => cases d1⟩
theorem ei_str {z : Str} (h : ED X M L R ρ it (.str z)) : EI X M L R ρ tg it (z.cps.toList.map fun c => PyData.str ⟨#[c]⟩) := fun σ H S Q q =>
  ⟨_, pi_str we, h σ H S _ fun v H1 k1 S1 d1 => by
    cases d1
    exact ⟨z, rfl, q _ H1 _ k1 S1 itd_str trivial fun D hD => ⟨_, itd_str, trivial⟩⟩⟩
theorem ei_range {n : Nat} (h : ED X M L R ρ a (iN n)) (hm : X.mg "range" = none) (hn : n ≤ 100000) (hg : Gl X "range" := by rfl) (hs : starEach [a] X.env = [(false, eval a X.env)] := by rfl) : EI X M L R ρ tg (.Call (.Name "range" p0) [a] [] pos) ((List.range n).map iN) := fun σ H S Q q =>
  ⟨_, pi_range1 hg hm (pa_cons we pa_nil hs) hs, h σ H S _ fun v H1 k1 S1 d1 => by
    cases d1
    exact ⟨_, rfl, by omega, by omega, q _ H1 _ k1 S1 (by rw [Int.toNat_natCast]; exact itd_range) trivial fun D hD => ⟨_, by rw [Int.toNat_natCast]; exact itd_range, trivial⟩⟩⟩
theorem ei_down {m : Nat} (ha : ED X M L R ρ a (iN m)) (hb : ED X M L R ρ b (.int (-1))) (hc : ED X M L R ρ c (.int (-1))) (hm : X.mg "range" = none) (hn : m ≤ 100000) (hg : Gl X "range" := by rfl)
    (hs : starEach [a, b, c] X.env = (false, eval a X.env) :: starEach [b, c] X.env := by rfl) (hs2 : starEach [b, c] X.env = (false, eval b X.env) :: starEach [c] X.env := by rfl) (hs3 : starEach [c] X.env = (false, eval c X.env) :: starEach [] X.env := by rfl) (hpl : (backTo pos (starEach [b, c] X.env)).any (·.1) = false := by rfl) :
    EI X M L R ρ tg (.Call (.Name "range" p0) [a, b, c] [] pos) ((List.range (m + 1)).map fun i => iN (m - i)) := fun σ H S Q q =>
  ⟨_, pi_range3 hg hm (pa_cons we (pa_cons we (pa_cons we pa_nil hs3) hs2) hs) hs hpl, ha σ H S _ fun v H1 k1 S1 d1 => hb σ H1 S1 _ fun w H2 k2 S2 d2 => hc σ H2 S2 _ fun u H3 k3 S3 d3 => by
    cases d1; cases d2; cases d3
    have e : ((m : Int) - (-1)).toNat = m + 1 := by omega
    have rg : RgC (m : Int) (-1) (-1) (m + 1) := by
      have := RgC.neg (i := (m : Int)) (j := -1) (by omega) (by omega) (by omega) (by omega)
      rw [e] at this
      exact this
    exact ⟨_, _, _, m + 1, rfl, rg, q _ H3 _ (k1.trans (k2.trans k3)) S3 itd_down trivial fun D hD => ⟨_, itd_down, trivial⟩⟩⟩
end

/-! ### targets -/
def EG (X : Cx) (M : List Addr) (L : Own) (R : Hp → Prop) (ρ : Rho) (tg : Expr) (x : PyData) (ρ' : Rho) (js : List Nat) : Prop :=
  ∀ σ H v, Sto M L R ρ σ H → Dat M H v x → ∀ Q : St → Hp → Prop, (∀ σ', Sto M L R ρ' σ' H → (∀ i, i ∉ js → σ'[i]? = σ[i]?) → σ'.length = σ.length → Q σ' H) → WG X tg v σ H Q
def EGs (X : Cx) (M : List Addr) (L : Own) (R : Hp → Prop) (ρ : Rho) (tgs : List Expr) (xs : List PyData) (ρ' : Rho) (js : List Nat) : Prop :=
  ∀ σ H vs, Sto M L R ρ σ H → DatAll M H vs xs → ∀ Q : St → Hp → Prop, (∀ σ', Sto M L R ρ' σ' H → (∀ i, i ∉ js → σ'[i]? = σ[i]?) → σ'.length = σ.length → Q σ' H) → WGs X tgs vs σ H Q
section
variable {X : Cx} {M : List Addr} {L : Own} {R : Hp → Prop} {ρ ρ1 ρ2 : Rho} {tg : Expr} {tgs : List Expr} {x d : PyData} {xs : List PyData} {pos : Pos} {js ks : List Nat}
theorem eg_name (i : Nat) {y : Str} (hN : X.N.Nodup) (hi : X.N[i]? = some y := by rfl) (hx : Loc X.env.scope y := by first | exact Or.inl rfl | exact Or.inr rfl) (hf : X.fn y = true ∨ X.env.scope.names.lookup y = some .local := by first | exact .inl rfl | exact .inr rfl) :
    EG X M L R ρ (.Name y pos) x (ρ.set i (some (.d x))) [i] := fun σ H v S dv Q q =>
  ⟨_, pg_name hN hi hx hf, q _ (S.set (b := .d x) dv) (fun j hj => List.getElem?_set_ne (fun e => hj (by simp [e]))) (by rw [List.length_set])⟩
theorem egs_nil : EGs X M L R ρ [] [] ρ [] := fun σ H vs S dv Q q => by
  cases dv
  exact ⟨_, pgs_nil, rfl, q σ S (fun _ _ => rfl) rfl⟩
theorem egs_cons (h1 : EG X M L R ρ tg x ρ1 js) (h2 : EGs X M L R ρ1 tgs xs ρ2 ks) (hs : (assignEach (tg :: tgs) X.env).map (·.2) = assign tg X.env :: (assignEach tgs X.env).map (·.2) := by rfl) : EGs X M L R ρ (tg :: tgs) (x :: xs) ρ2 (js ++ ks) := fun σ H vs S dv Q q => by
  cases dv with
  | cons d1 d2 =>
    have h2' : PGs X tgs (WGs X tgs) := ⟨fun pins s σ H vs us Q I r ⟨t, ht, q⟩ => ht.run pins s σ H vs us Q I r q⟩
    exact ⟨_, pgs_cons wg h2' hs, _, _, rfl, h1 σ H _ S d1 _ fun σ' S' f' l' => h2 σ' H _ S' d2 _ fun σ'' S'' f'' l'' => q σ'' S'' (fun i hi => by
      rw [List.mem_append, not_or] at hi
      rw [f'' i hi.2, f' i hi.1]) (l''.trans l')⟩
theorem eg_tup {k : Nat} {n : Nat} (hc : X.calm = true) (h : EGs X M L R ρ tgs xs ρ1 js) (hn : (assignEach tgs X.env).length = n := by rfl) (hl : xs.length = n := by rfl) (hst : (assignEach tgs X.env).findIdx? (·.1) = none := by rfl) :
    EG X M L R ρ (.Tuple tgs k pos) (.tuple xs) ρ1 js := fun σ H v S dv Q q => by
  have h' : PGs X tgs (WGs X tgs) := ⟨fun pins s σ H vs us Q I r ⟨t, ht, q⟩ => ht.run pins s σ H vs us Q I r q⟩
  cases dv with
  | @tup a vs _ e al => exact ⟨_, pg_tup hc h' hn hst, a, vs, rfl, .inl (.inl (hide_some e).2), by rw [al.len, hl], h σ H vs S al Q q⟩
/-- from a list -/
theorem eg_unl {k : Nat} {n : Nat} (hc : X.calm = true) (h : EGs X M L R ρ tgs xs ρ1 js) (hn : (assignEach tgs X.env).length = n := by rfl) (hl : xs.length = n := by rfl) (hst : (assignEach tgs X.env).findIdx? (·.1) = none := by rfl) :
    EG X M L R ρ (.Tuple tgs k pos) (.list xs) ρ1 js := fun σ H v S dv Q q => by
  have h' : PGs X tgs (WGs X tgs) := ⟨fun pins s σ H vs us Q I r ⟨t, ht, q⟩ => ht.run pins s σ H vs us Q I r q⟩
  cases dv with
  | @lst a vs _ e al => exact ⟨_, pg_unl hc h' hn hst, a, vs, rfl, .inl (.inl (hide_some e).2), by rw [al.len, hl], h σ H vs S al Q q⟩
end

/-! ### comprehensions -/
def WTs (X : Cx) (es : List Expr) : TT := fun σ H Q => ∃ t, PTs X es t ∧ t σ H Q
theorem wts {X : Cx} {es : List Expr} : PTs X es (WTs X es) := ⟨fun pins s σ H Q I ⟨t, ht, q⟩ => ht.run pins s σ H Q I q⟩
def ETs (X : Cx) (M : List Addr) (L : Own) (R : Hp → Prop) (ρ : Rho) (es : List Expr) (b : Bool) : Prop :=
  ∀ σ H, Sto M L R ρ σ H → ∀ Q : Bool → Hp → Prop, (∀ H2, Keep M H H2 → Sto M L R ρ σ H2 → Q b H2) → WTs X es σ H Q
theorem ets_nil {X : Cx} {M L R ρ} : ETs X M L R ρ [] true := fun σ H S Q q => ⟨_, pts_nil, q H (Keep.refl _ _) S⟩
theorem ets_one {X : Cx} {M L R ρ} {c : Expr} {b : Bool} (h : ET X M L R ρ c b) : ETs X M L R ρ [c] b := fun σ H S Q q => ⟨_, pts_one wt, h σ H S _ q⟩
def wipeR (ρ : Rho) : List Nat → Rho
  | [] => ρ
  | v :: vs => (wipeR ρ vs).set v none
theorem wipeR_len (ρ : Rho) : ∀ vs, (wipeR ρ vs).length = ρ.length
  | [] => rfl
  | v :: vs => by unfold wipeR; rw [List.length_set, wipeR_len ρ vs]
theorem wipe_get (σ : St) : ∀ (vs : List Nat) (i : Nat), (wipe σ vs)[i]? = if i ∈ vs then (σ[i]?).map (fun _ => none) else σ[i]?
  | [], i => by simp [wipe]
  | v :: vs, i => by
    unfold wipe
    by_cases e : v = i
    · subst e
      by_cases hl : v < σ.length
      · rw [List.getElem?_set_self (by rw [wipe_length]; exact hl), if_pos List.mem_cons_self, List.getElem?_eq_getElem hl]; rfl
      · rw [List.getElem?_eq_none (by rw [List.length_set, wipe_length]; omega), if_pos List.mem_cons_self, List.getElem?_eq_none (by omega)]; rfl
    · rw [List.getElem?_set_ne e, wipe_get σ vs i]
      have : i ≠ v := fun q => e q.symm
      simp [this]
theorem wipeR_get (ρ : Rho) : ∀ (vs : List Nat) (i : Nat) (b : Bd), (wipeR ρ vs)[i]? = some (some b) → i ∉ vs ∧ ρ[i]? = some (some b)
  | [], i, b, h => ⟨by simp, h⟩
  | v :: vs, i, b, h => by
    unfold wipeR at h
    by_cases e : v = i
    · subst e
      by_cases hl : v < ρ.length
      · rw [List.getElem?_set_self (by rw [wipeR_len]; exact hl)] at h; cases h
      · rw [List.getElem?_eq_none (by rw [List.length_set, wipeR_len]; omega)] at h; cases h
    · rw [List.getElem?_set_ne e] at h
      obtain ⟨h1, h2⟩ := wipeR_get ρ vs i b h
      have : i ≠ v := fun q => e q.symm
      exact ⟨by simp [this, h1], h2⟩
theorem Sto.wiped {M L R ρ σ H} (S : Sto M L R ρ σ H) (vs : List Nat) : Sto M L R (wipeR ρ vs) (wipe σ vs) H :=
  ⟨S.al, S.lm, S.nd, S.own, S.r, by rw [wipe_length, wipeR_len, S.len], fun i b hb => by
    obtain ⟨h1, h2⟩ := wipeR_get ρ vs i b hb
    obtain ⟨v, h3, h4⟩ := S.b i b h2
    exact ⟨v, by rw [wipe_get, if_neg h1]; exact h3, h4⟩⟩
theorem wipe_same {σ σ' : St} {vs : List Nat} (hl : σ'.length = σ.length) (h : ∀ i, i ∉ vs → σ'[i]? = (wipe σ vs)[i]?) : wipe σ' vs = wipe σ vs := by
  apply List.ext_getElem?
  intro i
  rw [wipe_get]
  by_cases e : i ∈ vs
  · rw [if_pos e, wipe_get, if_pos e]
    by_cases q : i < σ.length
    · rw [List.getElem?_eq_getElem q, List.getElem?_eq_getElem (by omega)]; rfl
    · rw [List.getElem?_eq_none (by omega), List.getElem?_eq_none (by omega)]
  · rw [if_neg e]
    exact h i e
section
variable {X : Cx} {M : List Addr} {L : Own} {R : Hp → Prop} {ρ : Rho}
/-- what the parts of a comprehension do with an item -/
structure LcOk (X : Cx) (M : List Addr) (L : Own) (R : Hp → Prop) (ρ : Rho) (scope : Scope) (tg elt : Expr) (ifs : List Expr) (vs js : List Nat) {α : Type} (l : List α) (enc : α → PyData) (ρ2 : α → Rho) (f : α → Bool) (g : α → PyData) : Prop where
  tg : ∀ (s : Shared) (H : Hp) (C : Addr) (cl : List (Str × Addr)) (fp : List Addr) (D : Addr) (acc : List PyData) (x : α), x ∈ l → EG (X.blk s H scope (compEnvC scope cl C X.env) fp) (D :: M) ((D, acc) :: L) R (wipeR ρ vs) tg (enc x) (ρ2 x) js
  ifs : ∀ (s : Shared) (H : Hp) (C : Addr) (cl : List (Str × Addr)) (fp : List Addr) (D : Addr) (acc : List PyData) (x : α), x ∈ l → ETs (X.blk s H scope (compEnvC scope cl C X.env) fp) (D :: M) ((D, acc) :: L) R (ρ2 x) ifs (f x)
  elt : ∀ (s : Shared) (H : Hp) (C : Addr) (cl : List (Str × Addr)) (fp : List Addr) (D : Addr) (acc : List PyData) (x : α), x ∈ l → f x = true → ED (X.blk s H scope (compEnvC scope cl C X.env) fp) (D :: M) ((D, acc) :: L) R (ρ2 x) elt (g x)
abbrev gAll (X : Cx) (scope : Scope) (tg : Expr) : TG := fun v σ' H' Q' => ∀ (s : Shared) (H : Hp) (C : Addr) (cl : List (Str × Addr)) (fp : List Addr), WG (X.blk s H scope (compEnvC scope cl C X.env) fp) tg v σ' H' Q'
abbrev tAll (X : Cx) (scope : Scope) (ifs : List Expr) : TT := fun σ' H' Q' => ∀ (s : Shared) (H : Hp) (C : Addr) (cl : List (Str × Addr)) (fp : List Addr), WTs (X.blk s H scope (compEnvC scope cl C X.env) fp) ifs σ' H' Q'
abbrev eAll (X : Cx) (scope : Scope) (elt : Expr) : TE := fun σ' H' Q' => ∀ (s : Shared) (H : Hp) (C : Addr) (cl : List (Str × Addr)) (fp : List Addr), WE (X.blk s H scope (compEnvC scope cl C X.env) fp) elt σ' H' Q'
theorem Sto.anyRho {M : List Addr} {L : Own} {R : Hp → Prop} {ρ ρ' : Rho} {σ σ' : St} {H H' : Hp} (S : Sto M L R ρ σ H) (S' : Sto M L R ρ' σ' H') (k : Keep M H H') : Sto M L R ρ σ H' :=
  ⟨S'.al, S.lm, S.nd, S'.own, S'.r, S.len, fun i b hb => by
    obtain ⟨v, h1, h2⟩ := S.b i b hb
    exact ⟨v, h1, h2.keep k⟩⟩
/-- the reading of a comprehension -/
theorem lc_read {α : Type} {tg it elt : Expr} {ifs : List Expr} {scope : Scope} {vs js : List Nat} {l : List α} {enc : α → PyData} {ρ2 : α → Rho} {f : α → Bool} {g : α → PyData}
    (hi : EI X M L R ρ tg it (l.map enc)) (hz : l.length ≤ 100000) (hjs : ∀ j ∈ js, j ∈ vs) (ok : LcOk X M L R ρ scope tg elt ifs vs js l enc ρ2 f g)
    {σ : St} {H : Hp} (S : Sto M L R ρ σ H) {Q : VK} (q : ∀ v H2, Keep M H H2 → Sto M L R ρ σ H2 → Dat M H2 v (.list ((l.filter f).map g)) → Q v H2) :
    tLc (WI X tg it) (gAll X scope tg) (tAll X scope ifs) (eAll X scope elt) vs σ H Q := by
  refine hi σ H S _ fun J H1 G k1 S1 I1 g1 more D hD => ?_
  obtain ⟨G', I', g'⟩ := more D hD
  have sD : Same H1 (upd H1 D (.lst [])) := same_new hD
  have DM : D ∉ M := fun z => S1.al D z hD
  -- the word: what stands behind i turns
  refine ⟨fun i m H' => m = l.length - i ∧ i ≤ l.length ∧ Keep M H1 H' ∧ Sto (D :: M) ((D, ((l.take i).filter f).map g) :: L) R (wipeR ρ vs) (wipe σ vs) H' ∧ G' H', ⟨l.length, by simp, Nat.zero_le _, same_keep sD, (S1.wiped vs).own_new hD .nil, g'⟩, ?_⟩
  rintro i m H' ⟨rfl, hil, kk, SS, gg⟩
  by_cases hlt : i < l.length
  · right
    refine ⟨I'.go i H' (by simpa using hlt) gg, fun H'' => i + 1 ≤ l.length ∧ Keep M H1 H'' ∧ Sto (D :: M) ((D, ((l.take (i + 1)).filter f).map g) :: L) R (wipeR ρ vs) (wipe σ vs) H'' ∧ G' H'', fun H'' h => ⟨l.length - (i + 1), by omega, rfl, h⟩, fun x H2 y => ?_⟩
    have hx : (l.map enc)[i]? = some (enc l[i]) := by rw [List.getElem?_map, List.getElem?_eq_getElem hlt]; rfl
    have hm : l[i] ∈ l := List.getElem_mem hlt
    obtain ⟨e2, dx⟩ := I'.yld i H' x H2 _ hx gg y
    subst e2
    have tk : l.take (i + 1) = l.take i ++ [l[i]] := by rw [List.take_add_one, List.getElem?_eq_getElem hlt]; rfl
    intro s H0 C cl fp
    refine ok.tg s H0 C cl fp D _ l[i] hm _ _ x SS dx _ fun σ' S' f' l' => ⟨wipe_same (by rw [l', wipe_length]) fun j hj => f' j fun z => hj (hjs j z), fun s H0 C cl fp => ?_⟩
    refine ok.ifs s H0 C cl fp D _ l[i] hm σ' _ S' _ fun H3 k3 S3 => ?_
    -- D's own list lies apart: what M keeps
    have kM : ∀ {H5 : Hp} {o5 : HO}, Keep (D :: M) H2 H5 → H5 D = some o5 → Keep M H1 H5 := fun {H5 o5} k5 h5 => keep_of fun a o ha e => by
      have ne : a ≠ D := ne_of_none e hD
      exact k5.at (by simp [ne, ha]) (kk.at ha e)
    cases hf : f l[i] with
    | true =>
      refine iteT fun s H0 C cl fp => ?_
      refine ok.elt s H0 C cl fp D _ l[i] hm hf σ' H3 S3 _ fun v H4 k4 S4 d4 => ?_
      obtain ⟨ws, hw, da⟩ := S4.own _ List.mem_cons_self
      refine ⟨ws, hw, ?_, hlt, ?_, ?_, ?_⟩
      · rw [da.len, List.length_map]
        have := List.length_filter_le f (l.take i)
        rw [List.length_take] at this
        exact Nat.lt_of_le_of_lt (Nat.le_trans this (Nat.min_le_left _ _)) (Nat.lt_of_lt_of_le (by omega : i < 100000) (by decide))
      · have k5 := kM (k3.trans k4) hw
        exact keep_of fun a o ha e => by
          rw [upd_ne (ne_of_none e hD)]
          exact k5.at ha e
      · have S5 : Sto (D :: M) ((D, ((l.take i).filter f).map g) :: L) R (wipeR ρ vs) (wipe σ vs) H4 := SS.anyRho S4 (k3.trans k4)
        have := S5.mut (j := 0) (ds' := ((l.take (i + 1)).filter f).map g) (vs' := ws ++ [v]) rfl (by
          rw [tk, List.filter_append, List.map_append]
          have e : List.filter f [l[i]] = [l[i]] := by simp [hf]
          rw [e]
          exact da.snoc d4)
        exact this
      · exact I'.keep _ _ (keep_upd List.mem_cons_self) (I'.keep _ _ (k3.trans k4) gg)
    | false =>
      refine iteF ?_
      obtain ⟨ws, hw, da⟩ := S3.own _ List.mem_cons_self
      refine ⟨hlt, kM k3 hw, ?_, I'.keep _ _ k3 gg⟩
      have S5 : Sto (D :: M) ((D, ((l.take i).filter f).map g) :: L) R (wipeR ρ vs) (wipe σ vs) H3 := SS.anyRho S3 k3
      have e : ((l.take (i + 1)).filter f).map g = ((l.take i).filter f).map g := by
        rw [tk, List.filter_append]
        have e : List.filter f [l[i]] = [] := by simp [hf]
        rw [e, List.append_nil]
      rw [e]
      exact S5
  · left
    have e : i = l.length := by omega
    subst e
    refine ⟨I'.stop _ H' (by simp) gg, ?_⟩
    rw [List.take_length] at SS
    obtain ⟨ws, hw, da⟩ := SS.own _ List.mem_cons_self
    refine q _ _ (k1.trans kk) ⟨fun a ha => SS.al a (List.mem_cons_of_mem _ ha), S1.lm, S1.nd, fun p hp => ?_, fun H5 p5 => SS.r H5 fun a o ha e => p5 a o (fun z => ha (by rw [List.map_cons]; exact List.mem_cons_of_mem _ z)) e, S1.len, fun i b hb => ?_⟩ (.lst (by rw [hide_out DM]; exact hw) (datAll_sub da fun a ha => List.mem_cons_of_mem _ ha))
    · obtain ⟨vs', h1, h2⟩ := SS.own p (List.mem_cons_of_mem _ hp)
      exact ⟨vs', h1, datAll_sub h2 fun a ha => List.mem_cons_of_mem _ ha⟩
    · obtain ⟨v, h1, h2⟩ := S1.b i b hb
      exact ⟨v, h1, h2.keep kk⟩
theorem elc {α : Type} {tg it elt : Expr} {ifs : List Expr} {scope : Scope} {js : List Nat} {l : List α} {enc : α → PyData} {ρ2 : α → Rho} {f : α → Bool} {g : α → PyData} {pos : Pos} (own : List (Str × Nat))
    (hc : X.calm = true) (hN : X.N.Nodup) (bk : BlkOk X.N X.env.scope scope own) (hi : EI X M L R ρ tg it (l.map enc)) (hz : l.length ≤ 100000) (ok : LcOk X M L R ρ scope tg elt ifs (own.map (·.2)) js l enc ρ2 f g) (hjs : ∀ j ∈ js, j ∈ own.map (·.2) := by decide)
    (hs : ∀ x, foldedSetIterable it X.env x = pure x := by intro _; rfl) : ED X M L R ρ (.ListComp elt [⟨tg, it, ifs, 0⟩] scope pos) (.list ((l.filter f).map g)) := fun σ H S Q q =>
  ⟨_, pe_lc hc hN wi bk (g := gAll X scope tg) (tt := tAll X scope ifs) (te := eAll X scope elt)
    (fun s H C cl fp => ⟨fun pins s1 σ H1 v u Q I r h => (wg (X := X.blk s H scope (compEnvC scope cl C X.env) fp)).run pins s1 σ H1 v u Q I r (h s H C cl fp)⟩)
    (fun s H C cl fp => ⟨fun pins s1 σ H1 Q I h => (wts (X := X.blk s H scope (compEnvC scope cl C X.env) fp)).run pins s1 σ H1 Q I (h s H C cl fp)⟩)
    (fun s H C cl fp => ⟨fun pins s1 σ H1 Q I h => (we (X := X.blk s H scope (compEnvC scope cl C X.env) fp)).run pins s1 σ H1 Q I (h s H C cl fp)⟩) hs, lc_read hi hz hjs ok S q⟩
end

/-! ### blocks -/
/-- D, but going on with q -/
def to (D : Ends) (q : St → Hp → Prop) : Ends := { D with nx := q }
/-- within a loop: the word of the next turn, what comes behind a break -/
def turn (D : Ends) (q : St → Hp → Prop) (b : St → Hp → Prop) : Ends := { D with nx := q, ct := q, bk := b }
def Go (X : Cx) (sts : List Stmt) (D : Ends) (M : List Addr) (L : Own) (R : Hp → Prop) (ρ : Rho) : Prop := ∀ σ H, Sto M L R ρ σ H → WB X sts D σ H
/-- what is wanted at a def's end -/
structure Out (M : List Addr) (R : Hp → Prop) (d : PyData) (D : Ends) : Prop where
  rt : ∀ v H, R H → Dat M H v d → D.rt v H
  nx : d = .none → ∀ σ H, R H → D.nx σ H
section
variable {X : Cx} {M : List Addr} {L : Own} {R : Hp → Prop} {ρ : Rho} {e c : Expr} {es : List Expr} {sts rest s1 s2 : List Stmt} {d : PyData} {ds : List PyData} {D : Ends} {pos p0 : Pos} {b : Bool}
theorem go_nil (h : ∀ σ H, Sto M L R ρ σ H → D.nx σ H) : Go X [] D M L R ρ := fun σ H S => wb_nil (h σ H S)
/-- the block's end, going on with what follows -/
theorem go_end (h : Go X rest D M L R ρ) : Go X [] (to D (WB X rest D)) M L R ρ := fun σ H S => wb_nil (h σ H S)
theorem go_ret (h : ED X M L R ρ e d) (k : ∀ v H, R H → Dat M H v d → D.rt v H) : Go X (.Return (some e) pos :: rest) D M L R ρ := fun σ H S =>
  wb_cons (ps_ret we) (h σ H S _ fun v H2 _ S2 d2 => k v H2 S2.r0 d2)
theorem go_set (i : Nat) {x : Str} (hN : X.N.Nodup) (h : ED X M L R ρ e d) (k : Go X rest D M L R (ρ.set i (some (.d d)))) (hi : X.N[i]? = some x := by rfl) (hx : Loc X.env.scope x := by first | exact Or.inl rfl | exact Or.inr rfl)
    (hs : swapsWith e (some (.Name x p0)) pos.line X.env = pure false := by rfl) (hf : X.fn x = true ∨ X.env.scope.names.lookup x = some .local := by first | exact .inl rfl | exact .inr rfl) : Go X (.Assign [.Name x p0] e pos :: rest) D M L R ρ := fun σ H S =>
  wb_cons (ps_set hN hi hx we hs hf) (h σ H S _ fun v H2 _ S2 d2 => k _ H2 (S2.set (b := .d d) d2))
theorem go_expr (h : ED X M L R ρ e d) (k : Go X rest D M L R ρ) (hs : swapsWith e none pos.line X.env = pure false := by rfl) : Go X (.Expr e pos :: rest) D M L R ρ := fun σ H S =>
  wb_cons (ps_expr we hs) (h σ H S _ fun v H2 _ S2 d2 => k _ H2 S2)
theorem go_if (h : ET X M L R ρ c b) (h1 : b = true → Go X s1 (to D (WB X rest D)) M L R ρ) (h2 : b = false → Go X s2 (to D (WB X rest D)) M L R ρ) : Go X (.If c s1 s2 pos :: rest) D M L R ρ := fun σ H S =>
  wb_cons (ps_if wt wb wb) (h σ H S _ fun H2 _ S2 => by
    cases b with
    | true => exact iteT (h1 rfl σ H2 S2)
    | false => exact iteF (h2 rfl σ H2 S2))
theorem go_ifT (h : ET X M L R ρ c true) (h1 : Go X s1 (to D (WB X rest D)) M L R ρ) : Go X (.If c s1 s2 pos :: rest) D M L R ρ := go_if h (fun _ => h1) fun z => nomatch z
theorem go_ifF (h : ET X M L R ρ c false) (h2 : Go X s2 (to D (WB X rest D)) M L R ρ) : Go X (.If c s1 s2 pos :: rest) D M L R ρ := go_if h (fun z => nomatch z) fun _ => h2
/-- an if that only raises, not taken -/
theorem go_skip (h : ET X M L R ρ c false) (k : Go X rest D M L R ρ) : Go X (.If c s1 [] pos :: rest) D M L R ρ := go_ifF h (go_end k)
/-- x = [..]: a list of one's own -/
theorem go_new (i : Nat) {x : Str} {lp : Pos} (hN : X.N.Nodup) (h : EA X M L R ρ es ds) (k : ∀ a, Go X rest D (a :: M) ((a, ds) :: L) R (ρ.set i (some (.a (.ref a))))) (hl : ds.length ≤ 1000 := by simp) (hi : X.N[i]? = some x := by rfl) (hx : Loc X.env.scope x := by first | exact Or.inl rfl | exact Or.inr rfl)
    (hs : swapsWith (.List es lp) (some (.Name x p0)) pos.line X.env = pure false := by rfl) (hf : X.fn x = true ∨ X.env.scope.names.lookup x = some .local := by first | exact .inl rfl | exact .inr rfl) : Go X (.Assign [.Name x p0] (.List es lp) pos :: rest) D M L R ρ := fun σ H S =>
  wb_cons (ps_set hN hi hx (pe_lst wa) hs hf) (h σ H S _ fun vs H2 _ S2 d2 => ⟨by rw [d2.len]; exact Nat.le_of_lt (small1000 hl), fun a na => k a _ _ ((S2.own_new na d2).set (b := .a (.ref a)) rfl)⟩)
/-- x.append(e) -/
theorem go_app (i j : Nat) {x : Str} {a : Addr} {apos cpos : Pos} (h : ED X M L R ρ e d) (k : Go X rest D M (L.set j (a, ds ++ [d])) R ρ) (hb : ρ[i]? = some (some (.a (.ref a))) := by rfl) (hL : L[j]? = some (a, ds) := by rfl) (hl : ds.length < 100000) (hN : X.N[i]? = some x := by rfl)
    (hv : Vis X.env.scope x := by first | exact Or.inl rfl | exact Or.inr (Or.inl rfl) | exact Or.inr (Or.inr rfl)) (hd : (x == ("__debug__" : Str)) = false := by decide) (hcd : (x == ("__classdict__" : Str)) = false := by decide)
    (hs : swapsWith (.Call (.Attribute (.Name x p0) "append" apos) [e] [] cpos) none pos.line X.env = pure false := by rfl)
    (hbase : attributeBase (.Name x p0) "append" X.env (eval (.Name x p0) X.env) = eval (.Name x p0) X.env := by rfl)
    (hfew : ((backTo cpos (starEach [e] X.env)).all (fun x => !x.1) && (backToKw cpos (keywordEach [] X.env)).all (fun x => x.1.isSome) && decide ([e].length + ([] : List Keyword).length + (if ([] : List Keyword).isEmpty then 0 else 1) < 30)) = true := by rfl)
    (hline : (apos.endLine == cpos.line) = true := by rfl) (hst : starEach [e] X.env = (false, eval e X.env) :: starEach [] X.env := by rfl) (hplain : (backTo cpos (starEach [] X.env)).any (·.1) = false := by rfl) :
    Go X (.Expr (.Call (.Attribute (.Name x p0) "append" apos) [e] [] cpos) pos :: rest) D M L R ρ := fun σ H S => by
  obtain ⟨ws, hw, _⟩ := S.own _ (List.mem_of_getElem? hL)
  refine wb_cons (ps_expr (pe_bm PySem.F.plainAttrs_list PySem.F.slot_list_append PySem.F.type_list_append mt_append (pe_var hN hv hd hcd) (pa_cons we pa_nil hst) hbase hfew hline hst hplain) hs) ?_
  refine ⟨.ref a, S.valOf hb, .inl ⟨rfl, ws, SqL.of hw⟩, h σ H S _ fun v H2 k2 S2 d2 => ?_⟩
  obtain ⟨us, hu, du⟩ := S2.own _ (List.mem_of_getElem? hL)
  refine ⟨a, us, v, rfl, rfl, hu, by rw [du.len]; exact Nat.lt_of_lt_of_le hl (by decide), ?_⟩
  exact k _ _ (S2.mut hL (du.snoc d2))
end
end Fb
namespace Fb
open PySem L2
section
variable {X : Cx} {M : List Addr} {L : Own} {R : Hp → Prop} {ρ : Rho} {e c a b tg it : Expr} {es : List Expr} {body sts rest s1 s2 : List Stmt} {d da db : PyData} {ds : List PyData} {D : Ends} {pos p0 : Pos}
/-! ### lists of one's own in expressions -/
theorem own_view {σ : St} {H : Hp} (S : Sto M L R ρ σ H) {j : Nat} {l : Addr} (hL : L[j]? = some (l, ds)) : Dt H (.ref l) (.list ds) := by
  obtain ⟨vs, h1, h2⟩ := S.own _ (List.mem_of_getElem? hL)
  exact .lst h1 (datAll_full h2)
/-- e op x, x a list of one's own; the answer needs no heap -/
theorem ecmp_own (i j : Nat) {op : CmpOp} {x : Str} {l : Addr} (ha : ED X M L R ρ a da) (h : BinD X (compareOp op) [] da (.list ds) d) (hsc : scl d = true) (hb : ρ[i]? = some (some (.a (.ref l))) := by rfl) (hL : L[j]? = some (l, ds) := by rfl) (hN : X.N[i]? = some x := by rfl)
    (hv : Vis X.env.scope x := by first | exact Or.inl rfl | exact Or.inr (Or.inl rfl) | exact Or.inr (Or.inr rfl)) (hd : (x == ("__debug__" : Str)) = false := by decide) (hcd : (x == ("__classdict__" : Str)) = false := by decide)
    (hm : behindInMarks op (.Name x p0) = false := by first | exact nomark _ | with_unfolding_all rfl) : ED X M L R ρ (.Compare a [op] [.Name x p0] pos) d := fun σ H S Q q => by
  obtain ⟨r, ho, hr⟩ := h
  refine ⟨_, pe_cmpR ho we (pe_var hN hv hd hcd) hm, ha σ H S _ fun v H1 k1 S1 d1 => ⟨.ref l, S1.valOf hb, ?_⟩⟩
  refine hr v (.ref l) H1 (by simp) (dat_sub d1 (by simp)) (by show Dt (hide [] H1) _ _; rw [hide_nil]; exact own_view S1 hL) Q fun z H3 s3 d3 => q z H3 (k1.trans (same_keep s3)) (S1.mono s3) (dp_scl d3 hsc)
theorem tcmp_own (i j : Nat) {op : CmpOp} {x : Str} {l : Addr} {p : Bool} (ha : ED X M L R ρ a da) (h : BinD X (compareOp op) [] da (.list ds) (.bool p)) (hb : ρ[i]? = some (some (.a (.ref l))) := by rfl) (hL : L[j]? = some (l, ds) := by rfl) (hN : X.N[i]? = some x := by rfl)
    (hv : Vis X.env.scope x := by first | exact Or.inl rfl | exact Or.inr (Or.inl rfl) | exact Or.inr (Or.inr rfl)) (hd : (x == ("__debug__" : Str)) = false := by decide) (hcd : (x == ("__classdict__" : Str)) = false := by decide)
    (hm : behindInMarks op (.Name x p0) = false := by first | exact nomark _ | with_unfolding_all rfl) : ET X M L R ρ (.Compare a [op] [.Name x p0] pos) p := fun σ H S Q q => by
  obtain ⟨r, ho, hr⟩ := h
  refine ⟨_, pt_cmpR ho we (pe_var hN hv hd hcd) hm, ha σ H S _ fun v H1 k1 S1 d1 => ⟨.ref l, S1.valOf hb, ?_⟩⟩
  refine hr v (.ref l) H1 (by simp) (dat_sub d1 (by simp)) (by show Dt (hide [] H1) _ _; rw [hide_nil]; exact own_view S1 hL) _ fun z H3 s3 d3 => ?_
  cases d3
  exact ⟨p, rfl, q H3 (k1.trans (same_keep s3)) (S1.mono s3)⟩
/-- f(x), x a list of one's own, f a built-in function or type: what it makes of the items -/
theorem ecallB_own (i j : Nat) {id : String} {f x : Str} {l : Addr} {p1 : Pos} (h : ∀ H, (∀ a ∈ M, H a ≠ none) → (∃ vs, H l = some (.lst vs) ∧ DatAll M H vs ds) → ∃ r, CallR X (.builtin id) r ∧ ∀ Q : VK, (∀ z H2, Same H H2 → Dat M H2 z d → Q z H2) → r [.ref l] H Q)
    (hm : X.mg f = none) (hb : ρ[i]? = some (some (.a (.ref l))) := by rfl) (hL : L[j]? = some (l, ds) := by rfl) (hv' : bootBuiltins f = some (.builtin id) := by decide +kernel) (hN : X.N[i]? = some x := by rfl)
    (hv : Vis X.env.scope x := by first | exact Or.inl rfl | exact Or.inr (Or.inl rfl) | exact Or.inr (Or.inr rfl)) (hd : (x == ("__debug__" : Str)) = false := by decide) (hcd : (x == ("__classdict__" : Str)) = false := by decide)
    (hg : Gl X f := by rfl) (hn : f ≠ "__name__" := by decide) (hdb : (f == ("__debug__" : Str)) = false := by decide)
    (he : starEach [.Name x p1] X.env = (false, eval (.Name x p1) X.env) :: starEach [] X.env := by rfl) (hpl : (backTo pos (starEach [] X.env)).any (·.1) = false := by rfl) : ED X M L R ρ (.Call (.Name f p0) [.Name x p1] [] pos) d := fun σ H S Q q => by
  obtain ⟨r, hc, hr⟩ := h H S.al (S.own _ (List.mem_of_getElem? hL))
  exact ⟨_, pe_callB hc hg hm hv' (pa_cons (pe_var hN hv hd hcd) pa_nil he) hn hdb he hpl, .ref l, S.valOf hb, hr Q fun z H3 s3 d3 => q z H3 (same_keep s3) (S.mono s3) d3⟩
theorem ecallT_own (i j : Nat) {T : String} {f x : Str} {l : Addr} {p1 : Pos} (h : ∀ H, (∀ a ∈ M, H a ≠ none) → (∃ vs, H l = some (.lst vs) ∧ DatAll M H vs ds) → ∃ r, CallR X (.type T) r ∧ ∀ Q : VK, (∀ z H2, Same H H2 → Dat M H2 z d → Q z H2) → r [.ref l] H Q)
    (hm : X.mg f = none) (hb : ρ[i]? = some (some (.a (.ref l))) := by rfl) (hL : L[j]? = some (l, ds) := by rfl) (hv' : bootBuiltins f = some (.type T) := by decide +kernel) (hN : X.N[i]? = some x := by rfl)
    (hv : Vis X.env.scope x := by first | exact Or.inl rfl | exact Or.inr (Or.inl rfl) | exact Or.inr (Or.inr rfl)) (hd : (x == ("__debug__" : Str)) = false := by decide) (hcd : (x == ("__classdict__" : Str)) = false := by decide)
    (hg : Gl X f := by rfl) (hn : f ≠ "__name__" := by decide) (hdb : (f == ("__debug__" : Str)) = false := by decide)
    (he : starEach [.Name x p1] X.env = (false, eval (.Name x p1) X.env) :: starEach [] X.env := by rfl) (hpl : (backTo pos (starEach [] X.env)).any (·.1) = false := by rfl) : ED X M L R ρ (.Call (.Name f p0) [.Name x p1] [] pos) d := fun σ H S Q q => by
  obtain ⟨r, hc, hr⟩ := h H S.al (S.own _ (List.mem_of_getElem? hL))
  exact ⟨_, pe_callTy hc hg hm hv' (pa_cons (pe_var hN hv hd hcd) pa_nil he) hn hdb he hpl, .ref l, S.valOf hb, hr Q fun z H3 s3 d3 => q z H3 (same_keep s3) (S.mono s3) d3⟩
/-- a list of one's own handed in where only its items count -/
theorem own_len {l : Addr} : ∀ H : Hp, (∀ a ∈ M, H a ≠ none) → (∃ vs, H l = some (.lst vs) ∧ DatAll M H vs ds) → ∃ r, CallR X (.builtin "len") r ∧ ∀ Q : VK, (∀ z H2, Same H H2 → Dat M H2 z (.int ds.length) → Q z H2) → r [.ref l] H Q := fun H al ⟨vs, h1, h2⟩ =>
  ⟨_, call_len_seq, fun Q q => ⟨l, vs, rfl, .inl (SqL.of h1), q _ H (Same.refl _) (by rw [h2.len]; exact .int _)⟩⟩
theorem own_tup {l : Addr} : ∀ H : Hp, (∀ a ∈ M, H a ≠ none) → (∃ vs, H l = some (.lst vs) ∧ DatAll M H vs ds) → ∃ r, CallR X (.type "tuple") r ∧ ∀ Q : VK, (∀ z H2, Same H H2 → Dat M H2 z (.tuple ds) → Q z H2) → r [.ref l] H Q := fun H al ⟨vs, h1, h2⟩ =>
  ⟨_, call_tuple_of, fun Q q => ⟨l, vs, rfl, .inl ⟨SqL.of h1, fun p np => q _ _ (same_new np) (.tup (new_dat al np) (dpAll_same (same_keep (same_new np)) h2))⟩⟩⟩
theorem own_sorted {l : Addr} {ns ms : List Int} (hl : ns.length < 64) (hm : ∀ l : List Int, l.Perm ns → l.Pairwise (· ≤ ·) → l = ms) : ∀ H : Hp, (∀ a ∈ M, H a ≠ none) → (∃ vs, H l = some (.lst vs) ∧ DatAll M H vs (ns.map PyData.int)) →
    ∃ r, CallR X (.builtin "sorted") r ∧ ∀ Q : VK, (∀ z H2, Same H H2 → Dat M H2 z (lI ms) → Q z H2) → r [.ref l] H Q := fun H al ⟨vs, h1, h2⟩ =>
  ⟨_, cr_sorted, fun Q q => ⟨l, ns, rfl, SqL.of (by rw [← h2.of_ints]; exact h1), hl, fun z p hp hs np => by
    rw [hm z hp hs]
    exact q _ _ (same_new np) (.lst (new_dat al np) (DtAll.ints ms))⟩⟩
/-- x[i], x a list of one's own -/
theorem eix_own (i j : Nat) {x : Str} {l : Addr} {k : Nat} (hk : ED X M L R ρ b (iN k)) (h : ds[k]? = some d) (hb : ρ[i]? = some (some (.a (.ref l))) := by rfl) (hL : L[j]? = some (l, ds) := by rfl) (hN : X.N[i]? = some x := by rfl)
    (hv : Vis X.env.scope x := by first | exact Or.inl rfl | exact Or.inr (Or.inl rfl) | exact Or.inr (Or.inr rfl)) (hd : (x == ("__debug__" : Str)) = false := by decide) (hcd : (x == ("__classdict__" : Str)) = false := by decide) (hs : PlainIx b := by exact fun _ _ => rfl) :
    ED X M L R ρ (.Subscript (.Name x p0) b pos) d := fun σ H S Q q => by
  refine ⟨_, pe_ix ix_list (pe_var hN hv hd hcd) we hs, .ref l, S.valOf hb, hk σ H S _ fun y H2 k2 S2 d2 => ?_⟩
  cases d2
  obtain ⟨vs, h1, h2⟩ := S2.own _ (List.mem_of_getElem? hL)
  obtain ⟨v, g1, g2⟩ := h2.get h
  exact ⟨_, _, _, v, rfl, rfl, SqL.of h1, atI_nat g1, q v H2 k2 S2 g2⟩
/-- x[k] = e, x a list of one's own -/
theorem go_put (i j : Nat) {x : Str} {l : Addr} {k : Nat} {tp : Pos} (h : ED X M L R ρ e d) (hk : ED X M L R ρ b (iN k)) (hlt : k < ds.length) (g : Go X rest D M (L.set j (l, ds.set k d)) R ρ) (hb : ρ[i]? = some (some (.a (.ref l))) := by rfl) (hL : L[j]? = some (l, ds) := by rfl) (hN : X.N[i]? = some x := by rfl)
    (hv : Vis X.env.scope x := by first | exact Or.inl rfl | exact Or.inr (Or.inl rfl) | exact Or.inr (Or.inr rfl)) (hd : (x == ("__debug__" : Str)) = false := by decide) (hcd : (x == ("__classdict__" : Str)) = false := by decide)
    (hs : swapsWithSole [.Subscript (.Name x p0) b tp] e pos.line X.env = pure false := by rfl) (hw : swappedStores [.Subscript (.Name x p0) b tp] e X.env = pure none := by rfl) (h1 : (assignEach [.Subscript (.Name x p0) b tp] X.env).map (·.2) = [assign (.Subscript (.Name x p0) b tp) X.env] := by rfl)
    (ha : ∀ v, assign (.Subscript (.Name x p0) b tp) X.env v = (do
      let ov ← holding [v] (eval (.Name x p0) X.env)
      let iv ← holding [v, ov] (eval b X.env)
      standAt tp
      holding [v, ov, iv] (setItem ov iv v)
      release [v, ov, iv] []) := by intro _; rfl) :
    Go X (.Assign [.Subscript (.Name x p0) b tp] e pos :: rest) D M L R ρ := fun σ H S => by
  refine wb_cons (ps_asg we (pg_sub (pe_var hN hv hd hcd) we set_list ha) hs hw h1) ?_
  refine h σ H S _ fun v H2 k2 S2 d2 => ⟨.ref l, S2.valOf hb, hk σ H2 S2 _ fun y H3 k3 S3 d3 => ?_⟩
  cases d3
  obtain ⟨vs, h1, h2⟩ := S3.own _ (List.mem_of_getElem? hL)
  have hlt' : k < vs.length := by rw [h2.len]; exact hlt
  refine ⟨l, vs, _, k, rfl, rfl, h1, ?_, g _ _ (S3.mut hL (DtAll.set (dp_same k3 d2) k h2))⟩
  unfold ixN
  rw [if_pos (by omega), if_pos (by omega)]
  simp

/-! ### loops -/
theorem go_for {α : Type} {l : List α} {enc : α → PyData} (ρi : Nat → Rho) (Li : Nat → Own) (ρ2 : Nat → α → Rho) {js : List Nat} (hp : PassesOwn (model X.prog X.w) X.A X.env X.xe) (hc : X.calm = true)
    (hi : EI X M L R ρ tg it (l.map enc)) (h0 : ∀ σ H, Sto M L R ρ σ H → Sto M (Li 0) R (ρi 0) σ H)
    (hg : ∀ (G : Hp → Prop) i x, l[i]? = some x → EG X M (Li i) (fun H => R H ∧ G H) (ρi i) tg (enc x) (ρ2 i x) js)
    (hs : ∀ G : Hp → Prop, (∀ H H', Keep M H H' → G H → G H') → ∀ i x, l[i]? = some x →
      Go X body (turn D (fun σ H => Sto M (Li (i + 1)) (fun H => R H ∧ G H) (ρi (i + 1)) σ H) (WB X rest D)) M (Li i) (fun H => R H ∧ G H) (ρ2 i x))
    (hd : Go X rest D M (Li l.length) R (ρi l.length)) (hsi : ∀ x, foldedSetIterable it X.env x = pure x := by intro _; rfl) : Go X (.For tg it body [] pos :: rest) D M L R ρ := fun σ H S => by
  refine wb_cons (ps_for hp hc wi wg wb hsi) ?_
  refine hi σ H S _ fun J H1 G k1 S1 I1 g1 _ => ?_
  refine ⟨fun i m σ' H' => m = l.length - i ∧ i ≤ l.length ∧ Sto M (Li i) (fun H => R H ∧ G H) (ρi i) σ' H', ⟨l.length, by simp, Nat.zero_le _, ?_⟩, ?_⟩
  · have S0 := h0 σ H1 S1
    exact S0.plus fun H' p => I1.keep _ _ (pres_keep S0.lm p) g1
  rintro i m σ' H' ⟨rfl, hil, SS⟩
  by_cases hlt : i < l.length
  · right
    have gg := SS.r0.2
    have hx : l[i]? = some l[i] := List.getElem?_eq_getElem hlt
    have hx' : (l.map enc)[i]? = some (enc l[i]) := by rw [List.getElem?_map, hx]; rfl
    refine ⟨I1.go i H' (by simpa using hlt) gg, fun σ2 H2 => Sto M (Li (i + 1)) (fun H => R H ∧ G H) (ρi (i + 1)) σ2 H2, fun σ2 H2 h => ⟨l.length - (i + 1), by omega, rfl, hlt, h⟩, fun x H2 y => ?_⟩
    obtain ⟨e2, dx⟩ := I1.yld i H' x H2 _ hx' gg y
    subst e2
    exact hg G i _ hx σ' H2 x SS dx _ fun σ3 S3 _ _ => hs G I1.keep i _ hx σ3 H2 S3
  · left
    have e : i = l.length := by omega
    subst e
    exact ⟨I1.stop _ H' (by simp) SS.r0.2, hd σ' H' (SS.wk fun _ h => h.1)⟩
/-- a turn's end -/
theorem go_turn {L' : Own} {ρ' : Rho} {R' : Hp → Prop} (hL : L' = L) (hl : ρ'.length = ρ.length) (h : ∀ (i : Nat) (b : Bd), ρ'[i]? = some (some b) → ρ[i]? = some (some b)) : ∀ σ H, Sto M L R ρ σ H → Sto M L' R ρ' σ H := fun σ H S => by
  subst hL
  exact S.fewer hl h
/-- rho' knows less -/
def lessR : Rho → Rho → Prop
  | [], [] => True
  | none :: r, _ :: s => lessR r s
  | some b :: r, c :: s => c = some b ∧ lessR r s
  | _, _ => False
theorem lessR_len : ∀ {r s : Rho}, lessR r s → r.length = s.length
  | [], [], _ => rfl
  | none :: r, _ :: s, h => by
    rw [List.length_cons, List.length_cons, lessR_len (r := r) (s := s) h]
  | some b :: r, c :: s, h => by
    rw [List.length_cons, List.length_cons, lessR_len (r := r) (s := s) h.2]
  | [], _ :: _, h => by cases h
  | none :: _, [], h => by cases h
  | some _ :: _, [], h => by cases h
theorem lessR_get : ∀ {r s : Rho}, lessR r s → ∀ (i : Nat) (b : Bd), r[i]? = some (some b) → s[i]? = some (some b)
  | [], [], _, i, b, h => by simp at h
  | none :: r, _ :: s, h, 0, b, g => by simp at g
  | none :: r, _ :: s, h, i + 1, b, g => by
    simp only [List.getElem?_cons_succ] at g ⊢
    exact lessR_get (r := r) (s := s) h i b g
  | some b' :: r, c :: s, h, 0, b, g => by
    simp only [List.getElem?_cons_zero, Option.some.injEq] at g ⊢
    rw [h.1, g]
  | some b' :: r, c :: s, h, i + 1, b, g => by
    simp only [List.getElem?_cons_succ] at g ⊢
    exact lessR_get (r := r) (s := s) h.2 i b g
  | [], _ :: _, h, _, _, _ => by cases h
  | none :: _, [], h, _, _, _ => by cases h
  | some _ :: _, [], h, _, _, _ => by cases h
theorem Sto.less {ρ' : Rho} {σ : St} {H : Hp} (S : Sto M L R ρ σ H) (h : lessR ρ' ρ) : Sto M L R ρ' σ H := S.fewer (lessR_len h) (lessR_get h)
end

theorem Out.rt1 {M : List Addr} {R : Hp → Prop} {d : PyData} {D : Ends} {a : Addr} (O : Out M R d D) : ∀ v H, R H → Dat (a :: M) H v d → D.rt v H := fun v H r h => O.rt v H r (dat_sub h fun _ q => List.mem_cons_of_mem _ q)
theorem Out.rt2 {M : List Addr} {R : Hp → Prop} {d : PyData} {D : Ends} {a b : Addr} (O : Out M R d D) : ∀ v H, R H → Dat (a :: b :: M) H v d → D.rt v H := fun v H r h => O.rt v H r (dat_sub h fun _ q => List.mem_cons_of_mem _ (List.mem_cons_of_mem _ q))
/-! ### defs -/
section
variable {P : Program} {w : World} {K : PySem.W.Frag} {mg : Str → Option Value} {base : Heap}
theorem fun_of {x qual : Str} {st : Stmt} {f : Addr} {fd : FuncData} (F : FunD K x qual (defArgs st) (defBody st) (defScope st) [] [] f fd) : Fun K x qual st f fd := by
  obtain ⟨⟨oc, od, dV, kV, doc, pm, an, cdv, ct, osl, e, lk, hc, hD, hK⟩, kp⟩ := F
  rcases hD with ⟨_, rfl⟩ | ⟨ne, _⟩
  · exact ⟨⟨oc, od, kV, doc, pm, an, cdv, ct, osl, e, lk, hc⟩, kp⟩
  · exact absurd rfl ne
/-- a def's facts: where it stands, how its arguments bind -/
structure Df (K : PySem.W.Frag) (mg : Str → Option Value) (x q : Str) (st : Stmt) (ps N : List Str) (f : Addr) : Prop where
  f : ∃ fd, Fun K x q st f fd ∧ Binds K fd ps []
  sc : FnScope N ps (defScope st)
abbrev cx (P : Program) (w : World) (K : PySem.W.Frag) (mg : Str → Option Value) (base : Heap) (N : List Str) (q : Str) (st : Stmt) (f : Addr) (cdv : Value) (A : Around) (outer : List Env) (s : Shared) (H : Hp) (E : XK) : Cx := (cxOf CX0 P w K mg base N q (defScope st) f cdv A outer s H E).nox
theorem df_ok {x q : Str} {st : Stmt} {ps N : List Str} {f : Addr} {k : Nat} {sp : Sp} (F : Df K mg x q st ps N f) (len : ∀ vs H Q E, sp vs H Q E → vs.length = ps.length)
    (h : ∀ (cdv : Value) (A : Around) (outer : List Env) (s : Shared) (H : Hp) (vs : List V) (Q : VK) (E : XK), Room k (A.deeper (PyProof.Rows.envOfC q (defScope st) s.heap.objs.size f cdv)) → sp vs H Q E →
      WB (cx P w K mg base N q st f cdv A outer s H E) (defBody st) { nx := fun _ H' => Q .non H', rt := Q } (L2.start N vs) H) : ∃ fd, FnOk P w K mg base CX0 (k + 1) f fd ps sp ∧ PySem.W.keepIn K (.ref f) = true ∧ Binds K fd ps [] := by
  obtain ⟨fd, g, b⟩ := F.f
  exact ⟨fd, g.ok F.sc len fun cdv A outer s H vs Q E hr hsp => h cdv A outer s H vs Q E hr hsp, g.kp, b⟩
theorem cal_of {g x q : Str} {st : Stmt} {ps N : List Str} {f : Addr} {k : Nat} {sp : Sp} (F : Df K mg x q st ps N f) (hm : mg g = some (.ref f)) (len : ∀ vs H Q E, sp vs H Q E → vs.length = ps.length)
    (h : ∀ (cdv : Value) (A : Around) (outer : List Env) (s : Shared) (H : Hp) (vs : List V) (Q : VK) (E : XK), Room k (A.deeper (PyProof.Rows.envOfC q (defScope st) s.heap.objs.size f cdv)) → sp vs H Q E →
      WB (cx P w K mg base N q st f cdv A outer s H E) (defBody st) { nx := fun _ H' => Q .non H', rt := Q } (L2.start N vs) H) : Cal P w K mg base (k + 1) g sp := by
  obtain ⟨fd, h1, h2, h3⟩ := df_ok (P := P) (w := w) (base := base) F len h
  exact ⟨f, fd, ps, h1, hm, h2, h3⟩
theorem met_of {x q m : Str} {C : Addr} {st : Stmt} {ps N : List Str} {f : Addr} {k : Nat} {sp : Sp} (c : Cls K C) (hm : Meth K C m f) (F : Df K mg x q st ps N f) (len : ∀ vs H Q E, sp vs H Q E → vs.length = ps.length)
    (h : ∀ (cdv : Value) (A : Around) (outer : List Env) (s : Shared) (H : Hp) (vs : List V) (Q : VK) (E : XK), Room k (A.deeper (PyProof.Rows.envOfC q (defScope st) s.heap.objs.size f cdv)) → sp vs H Q E →
      WB (cx P w K mg base N q st f cdv A outer s H E) (defBody st) { nx := fun _ H' => Q .non H', rt := Q } (L2.start N vs) H) : Met P w K mg base (k + 1) C m sp := by
  obtain ⟨fd, h1, h2, h3⟩ := df_ok (P := P) (w := w) (base := base) F len h
  exact ⟨f, fd, ps, c, hm, h1, h3⟩
theorem mak_of {x q g : Str} {C : Addr} {st : Stmt} {ps N : List Str} {f : Addr} {k : Nat} {sp : Sp} (M : Mk K C f) (hm : mg g = some (.ref C)) (F : Df K mg x q st ps N f) (len : ∀ vs H Q E, sp vs H Q E → vs.length = ps.length)
    (h : ∀ (cdv : Value) (A : Around) (outer : List Env) (s : Shared) (H : Hp) (vs : List V) (Q : VK) (E : XK), Room k (A.deeper (PyProof.Rows.envOfC q (defScope st) s.heap.objs.size f cdv)) → sp vs H Q E →
      WB (cx P w K mg base N q st f cdv A outer s H E) (defBody st) { nx := fun _ H' => Q .non H', rt := Q } (L2.start N vs) H) : Mak P w K mg base (k + 1) g C sp := by
  obtain ⟨fd, h1, h2, h3⟩ := df_ok (P := P) (w := w) (base := base) F len h
  exact ⟨f, fd, ps, M, h1, hm, h3⟩
/-- the slots at the entry -/
def rho0 (n : Nat) (ds : List PyData) : Rho := ds.map (fun d => some (Bd.d d)) ++ List.replicate (n - ds.length) none
theorem sto0 {M : List Addr} {R : Hp → Prop} {N : List Str} {vs : List V} {ds : List PyData} {H : Hp} (al : ∀ a ∈ M, H a ≠ none) (a : DatAll M H vs ds) (r : ∀ H', Same H H' → R H') : Sto M [] R (rho0 N.length ds) (L2.start N vs) H where
  al := al
  lm := fun _ h => by cases h
  nd := List.nodup_nil
  own := fun _ h => by cases h
  r := fun H' p => r H' fun b o e => p b o (by simp) e
  len := by
    unfold L2.start rho0
    rw [List.length_append, List.length_append, List.length_map, List.length_map, List.length_replicate, List.length_replicate, a.len]
  b := fun i b hb => by
    unfold rho0 at hb
    by_cases hi : i < ds.length
    · rw [List.getElem?_append_left (by simpa using hi), List.getElem?_map] at hb
      cases e : ds[i]? with
      | none => rw [e] at hb; cases hb
      | some d =>
        rw [e] at hb
        cases hb
        obtain ⟨v, h1, h2⟩ := a.get e
        refine ⟨v, ?_, h2⟩
        unfold L2.start
        have hv : i < vs.length := by rw [a.len]; exact hi
        rw [List.getElem?_append_left (by simpa using hv), List.getElem?_map, h1]; rfl
    · rw [List.getElem?_append_right (by simpa using hi), List.getElem?_replicate] at hb
      split at hb <;> cases hb
/-- a def that only makes new things -/
theorem pure_of {g x q : Str} {st : Stmt} {ps N : List Str} {f : Addr} {k : Nat} {dom : List PyData → PyData → Prop} (F : Df K mg x q st ps N f) (hm : mg g = some (.ref f)) (len : ∀ ds d, dom ds d → ds.length = ps.length)
    (h : ∀ (cdv : Value) (A : Around) (outer : List Env) (s : Shared) (H : Hp) (E : XK), Room k (A.deeper (PyProof.Rows.envOfC q (defScope st) s.heap.objs.size f cdv)) → ∀ (M : List Addr) (R : Hp → Prop) (ds : List PyData) (d : PyData) (D : Ends), dom ds d → Out M R d D →
      Go (cx P w K mg base N q st f cdv A outer s H E) (defBody st) D M [] R (rho0 N.length ds)) : Cal P w K mg base (k + 1) g (spP dom) := by
  refine cal_of F hm (fun vs H Q E ⟨M, ds, d, _, a, hd, _⟩ => by rw [a.len]; exact len ds d hd) fun cdv A outer s H vs Q E hr ⟨M, ds, d, al, a, hd, q⟩ => ?_
  refine h cdv A outer s H E hr M (fun H' => Same H H') ds d _ hd ⟨fun v H' r dv => q v H' r dv, fun e σ H' r => ?_⟩ _ _ (sto0 al a fun _ s => s)
  subst e
  exact q _ _ r .non
end
end Fb
namespace Fb
open PySem L2
section
variable {X : Cx} {M : List Addr} {L : Own} {R : Hp → Prop} {ρ : Rho} {e c a b it elt : Expr} {es : List Expr} {d da db : PyData} {ds : List PyData} {pos p0 p1 : Pos}
theorem elenT {n : Nat} (hm : X.mg "len" = none) (h : ED X M L R ρ e (.tuple ds)) (hn : ds.length = n := by simp) (hg : Gl X "len" := by rfl)
    (he : starEach [e] X.env = (false, eval e X.env) :: starEach [] X.env := by rfl) (hpl : (backTo pos (starEach [] X.env)).any (·.1) = false := by rfl) : ED X M L R ρ (.Call (.Name "len" p0) [e] [] pos) (iN n) := by
  subst hn
  exact ecallB cd_lenT hm (ea_cons h ea_nil he) PySem.boot_len hg (by decide) (by decide) he hpl
theorem elenL {n : Nat} (hm : X.mg "len" = none) (h : ED X M L R ρ e (.list ds)) (hn : ds.length = n := by simp) (hg : Gl X "len" := by rfl)
    (he : starEach [e] X.env = (false, eval e X.env) :: starEach [] X.env := by rfl) (hpl : (backTo pos (starEach [] X.env)).any (·.1) = false := by rfl) : ED X M L R ρ (.Call (.Name "len" p0) [e] [] pos) (iN n) := by
  subst hn
  exact ecallB cd_lenL hm (ea_cons h ea_nil he) PySem.boot_len hg (by decide) (by decide) he hpl
theorem etupL (hm : X.mg "tuple" = none) (h : ED X M L R ρ e (.list ds)) (hg : Gl X "tuple" := by rfl)
    (he : starEach [e] X.env = (false, eval e X.env) :: starEach [] X.env := by rfl) (hpl : (backTo pos (starEach [] X.env)).any (·.1) = false := by rfl) : ED X M L R ρ (.Call (.Name "tuple" p0) [e] [] pos) (.tuple ds) :=
  ecallT cd_tupL hm (ea_cons h ea_nil he) (by decide +kernel) hg (by decide) (by decide) he hpl
theorem eintB {p : Bool} (hm : X.mg "int" = none) (h : ED X M L R ρ e (.bool p)) (hg : Gl X "int" := by rfl)
    (he : starEach [e] X.env = (false, eval e X.env) :: starEach [] X.env := by rfl) (hpl : (backTo pos (starEach [] X.env)).any (·.1) = false := by rfl) : ED X M L R ρ (.Call (.Name "int" p0) [e] [] pos) (.int (if p then 1 else 0)) :=
  ecallT cd_intB hm (ea_cons h ea_nil he) (by decide +kernel) hg (by decide) (by decide) he hpl
theorem eintI {i : Int} (hm : X.mg "int" = none) (h : ED X M L R ρ e (.int i)) (hg : Gl X "int" := by rfl)
    (he : starEach [e] X.env = (false, eval e X.env) :: starEach [] X.env := by rfl) (hpl : (backTo pos (starEach [] X.env)).any (·.1) = false := by rfl) : ED X M L R ρ (.Call (.Name "int" p0) [e] [] pos) (.int i) :=
  ecallT cd_intI hm (ea_cons h ea_nil he) (by decide +kernel) hg (by decide) (by decide) he hpl
theorem eneg {i : Int} (h : ED X M L R ρ e (.int i)) : ED X M L R ρ (.UnaryOp .USub e pos) (.int (-i)) := eu h ⟨_, un_neg, fun M x H al d1 Q q => by cases d1; exact ⟨i, rfl, q _ H (Same.refl _) (.int _)⟩⟩
/-- the types that isinstance is asked for -/
def tyOf : PyData → String
  | .none => "NoneType"
  | .bool _ => "bool"
  | .int _ => "int"
  | .str _ => "str"
  | .list _ => "list"
  | .tuple _ => "tuple"
  | .dict _ => "dict"
theorem tyx_of {H : Hp} {v : V} {d : PyData} (h : Dt H v d) (hd : scl d = true ∨ (∃ ds, d = .tuple ds) ∨ (∃ ds, d = .list ds)) (hn : d ≠ .none) : TyX X.K H v (.type (tyOf d)) := by
  cases h with
  | non => exact absurd rfl hn
  | bl b => exact .base (.bl b)
  | int i => exact .base (.int i)
  | str x => exact .base (.str x)
  | lst e a => exact .base (.lst e)
  | tup e a => exact .base (.tup e)
/-- isinstance(e, T) -/
theorem eisi {T : Str} {t : String} {p : Bool} (hm : X.mg "isinstance" = none) (hT : X.mg T = none) (h : ED X M L R ρ e d) (hk : PySem.W.kitOne X.K (.type (tyOf d)) (.type t) = some p) (hn : d ≠ .none := by exact fun z => nomatch z) (hv : bootBuiltins T = some (.type t) := by decide +kernel) (hgT : Gl X T := by rfl) (hg : Gl X "isinstance" := by rfl)
    (hnT : T ≠ "__name__" := by decide) (hdb : (T == ("__debug__" : Str)) = false := by decide)
    (he : starEach [e, .Name T p1] X.env = (false, eval e X.env) :: starEach [.Name T p1] X.env := by rfl) (he2 : starEach [.Name T p1] X.env = (false, eval (.Name T p1) X.env) :: starEach [] X.env := by rfl) (hpl : (backTo pos (starEach [.Name T p1] X.env)).any (·.1) = false := by rfl) :
    ED X M L R ρ (.Call (.Name "isinstance" p0) [e, .Name T p1] [] pos) (.bool p) := fun σ H S Q q =>
  ⟨_, pe_callB call_isi hg hm (by decide +kernel) (pa_cons we (pa_cons (pe_bltn (v := .ty t) hgT hT hv rfl hnT hdb) pa_nil he2) he) (by decide) (by decide) he hpl, h σ H S _ fun v H1 k1 S1 d1 =>
    ⟨v, .ty t, .type (tyOf d), .type t, p, rfl, .ty t, tyx_of (dat_full d1) (by cases d1 <;> first | exact .inl rfl | exact .inr (.inl ⟨_, rfl⟩) | exact .inr (.inr ⟨_, rfl⟩)) hn, hk, q _ H1 k1 S1 (.bl p)⟩⟩

/-! ### comprehensions over one name -/
theorem elc1 (j : Nat) {y : Str} {yp : Pos} {ifs : List Expr} {scope : Scope} {α : Type} {l : List α} {enc : α → PyData} {N : List Str} {sc : Scope} (f : α → Bool) (g : α → PyData) (hN : X.N.Nodup) (bk : blkC N sc scope [(y, j)] = true) (hi : EI X M L R ρ (.Name y yp) it (l.map enc))
    (hif : ∀ (s : Shared) (H : Hp) (C : Addr) (cl : List (Str × Addr)) (fp : List Addr) (D : Addr) (acc : List PyData) (x : α), x ∈ l → ETs (X.blk s H scope (compEnvC scope cl C X.env) fp) (D :: M) ((D, acc) :: L) R ((wipeR ρ [j]).set j (some (.d (enc x)))) ifs (f x))
    (helt : ∀ (s : Shared) (H : Hp) (C : Addr) (cl : List (Str × Addr)) (fp : List Addr) (D : Addr) (acc : List PyData) (x : α), x ∈ l → f x = true → ED (X.blk s H scope (compEnvC scope cl C X.env) fp) (D :: M) ((D, acc) :: L) R ((wipeR ρ [j]).set j (some (.d (enc x)))) elt (g x))
    (hz : l.length ≤ 100000) (eN : N = X.N := by rfl) (eS : sc = X.env.scope := by rfl) (hc : X.calm = true := by rfl) (hNi : X.N[j]? = some y := by rfl)
    (hloc : ∀ (C : Addr) (cl : List (Str × Addr)), (compEnvC scope cl C X.env).scope.names.lookup y = some .local := by intros; rfl)
    (hs : ∀ x, foldedSetIterable it X.env x = pure x := by intro _; rfl) : ED X M L R ρ (.ListComp elt [⟨.Name y yp, it, ifs, 0⟩] scope pos) (.list ((l.filter f).map g)) := by
  subst eN eS
  exact elc [(y, j)] hc hN (blkOk_by bk) hi hz ⟨fun s H C cl fp D acc x hx => eg_name j hN hNi (.inl (hloc C cl)) (.inr (hloc C cl)), hif, helt⟩ (by simp) hs
theorem elcM (j : Nat) {y : Str} {yp : Pos} {scope : Scope} {α : Type} {l : List α} {enc : α → PyData} {N : List Str} {sc : Scope} (g : α → PyData) (hN : X.N.Nodup) (bk : blkC N sc scope [(y, j)] = true) (hi : EI X M L R ρ (.Name y yp) it (l.map enc))
    (helt : ∀ (s : Shared) (H : Hp) (C : Addr) (cl : List (Str × Addr)) (fp : List Addr) (D : Addr) (acc : List PyData) (x : α), x ∈ l → ED (X.blk s H scope (compEnvC scope cl C X.env) fp) (D :: M) ((D, acc) :: L) R ((wipeR ρ [j]).set j (some (.d (enc x)))) elt (g x))
    (hz : l.length ≤ 100000) (eN : N = X.N := by rfl) (eS : sc = X.env.scope := by rfl) (hc : X.calm = true := by rfl) (hNi : X.N[j]? = some y := by rfl)
    (hloc : ∀ (C : Addr) (cl : List (Str × Addr)), (compEnvC scope cl C X.env).scope.names.lookup y = some .local := by intros; rfl)
    (hs : ∀ x, foldedSetIterable it X.env x = pure x := by intro _; rfl) : ED X M L R ρ (.ListComp elt [⟨.Name y yp, it, [], 0⟩] scope pos) (.list (l.map g)) := by
  have := elc1 (X := X) (M := M) (L := L) (R := R) (ρ := ρ) (elt := elt) (pos := pos) j (ifs := []) (fun _ => true) g hN bk hi (fun _ _ _ _ _ _ _ _ _ => ets_nil) (fun s H C cl fp D acc x hx _ => helt s H C cl fp D acc x hx) hz eN eS hc hNi hloc hs
  have e : l.filter (fun _ => true) = l := List.filter_eq_self.mpr fun _ _ => rfl
  rwa [e] at this
/-- y = [..] by a comprehension over one name -/
theorem go_setLc {ifs : List Expr} {scope : Scope} {rest : List Stmt} {D : Ends} {spos : Pos} {α : Type} {l : List α} {enc : α → PyData} {N : List Str} {sc : Scope} (i j : Nat) {y z : Str} {yp zp : Pos} (f : α → Bool) (g : α → PyData) (hN : X.N.Nodup) (bk : blkC N sc scope [(y, j)] = true) (hi : EI X M L R ρ (.Name y yp) it (l.map enc))
    (hif : ∀ (s : Shared) (H : Hp) (C : Addr) (cl : List (Str × Addr)) (fp : List Addr) (D : Addr) (acc : List PyData) (x : α), x ∈ l → ETs (X.blk s H scope (compEnvC scope cl C X.env) fp) (D :: M) ((D, acc) :: L) R ((wipeR ρ [j]).set j (some (.d (enc x)))) ifs (f x))
    (helt : ∀ (s : Shared) (H : Hp) (C : Addr) (cl : List (Str × Addr)) (fp : List Addr) (D : Addr) (acc : List PyData) (x : α), x ∈ l → f x = true → ED (X.blk s H scope (compEnvC scope cl C X.env) fp) (D :: M) ((D, acc) :: L) R ((wipeR ρ [j]).set j (some (.d (enc x)))) elt (g x))
    (hz : l.length ≤ 100000) (k : Go X rest D M L R (ρ.set i (some (.d (.list ((l.filter f).map g))))))
    (eN : N = X.N := by rfl) (eS : sc = X.env.scope := by rfl) (hc : X.calm = true := by rfl) (hNi : X.N[j]? = some y := by rfl) (hNz : X.N[i]? = some z := by rfl) (hzl : X.env.scope.names.lookup z = some .local := by rfl)
    (hloc : ∀ (C : Addr) (cl : List (Str × Addr)), (compEnvC scope cl C X.env).scope.names.lookup y = some .local := by intros; rfl)
    (hsw : swapsWith (.ListComp elt [⟨.Name y yp, it, ifs, 0⟩] scope pos) (some (.Name z zp)) spos.line X.env = pure true := by exact sw_true rfl rfl rfl (by decide +kernel))
    (hs : ∀ x, foldedSetIterable it X.env x = pure x := by intro _; rfl) : Go X (.Assign [.Name z zp] (.ListComp elt [⟨.Name y yp, it, ifs, 0⟩] scope pos) spos :: rest) D M L R ρ := by
  subst eN eS
  intro σ H S
  refine wb_cons (ps_setLc hc hN hNz hzl hsw wi (blkOk_by bk) (g := gAll X scope (.Name y yp)) (tt := tAll X scope ifs) (te := eAll X scope elt)
    (fun s H C cl fp => ⟨fun pins s1 σ H1 v u Q I r h => (wg (X := X.blk s H scope (compEnvC scope cl C X.env) fp)).run pins s1 σ H1 v u Q I r (h s H C cl fp)⟩)
    (fun s H C cl fp => ⟨fun pins s1 σ H1 Q I h => (wts (X := X.blk s H scope (compEnvC scope cl C X.env) fp)).run pins s1 σ H1 Q I (h s H C cl fp)⟩)
    (fun s H C cl fp => ⟨fun pins s1 σ H1 Q I h => (we (X := X.blk s H scope (compEnvC scope cl C X.env) fp)).run pins s1 σ H1 Q I (h s H C cl fp)⟩) hs) ?_
  refine lc_read (js := [j]) (ρ2 := fun x => (wipeR ρ [j]).set j (some (.d (enc x)))) hi hz (by simp) ⟨fun s H C cl fp D acc x hx => eg_name j hN hNi (.inl (hloc C cl)) (.inr (hloc C cl)), hif, helt⟩ S fun v H2 k2 S2 d2 => ?_
  exact k _ _ (S2.set (b := .d _) d2)
end
end Fb
namespace Fb
open PySem L2
section
variable {X : Cx} {M : List Addr} {L : Own} {R : Hp → Prop} {ρ : Rho} {e c a b o it elt : Expr} {es : List Expr} {d da db z : PyData} {ds : List PyData} {pos p0 p1 apos cpos : Pos}
theorem go_setLcM {scope : Scope} {rest : List Stmt} {D : Ends} {spos : Pos} {α : Type} {l : List α} {enc : α → PyData} {N : List Str} {sc : Scope} (i j : Nat) {y z : Str} {yp zp : Pos} (g : α → PyData) (hN : X.N.Nodup) (bk : blkC N sc scope [(y, j)] = true) (hi : EI X M L R ρ (.Name y yp) it (l.map enc))
    (helt : ∀ (s : Shared) (H : Hp) (C : Addr) (cl : List (Str × Addr)) (fp : List Addr) (D : Addr) (acc : List PyData) (x : α), x ∈ l → ED (X.blk s H scope (compEnvC scope cl C X.env) fp) (D :: M) ((D, acc) :: L) R ((wipeR ρ [j]).set j (some (.d (enc x)))) elt (g x))
    (hz : l.length ≤ 100000) (hd : PyData.list (l.map g) = d) (k : Go X rest D M L R (ρ.set i (some (.d d))))
    (eN : N = X.N := by rfl) (eS : sc = X.env.scope := by rfl) (hc : X.calm = true := by rfl) (hNi : X.N[j]? = some y := by rfl) (hNz : X.N[i]? = some z := by rfl) (hzl : X.env.scope.names.lookup z = some .local := by rfl)
    (hloc : ∀ (C : Addr) (cl : List (Str × Addr)), (compEnvC scope cl C X.env).scope.names.lookup y = some .local := by intros; rfl)
    (hsw : swapsWith (.ListComp elt [⟨.Name y yp, it, [], 0⟩] scope pos) (some (.Name z zp)) spos.line X.env = pure true := by exact sw_true rfl rfl rfl (by decide +kernel))
    (hs : ∀ x, foldedSetIterable it X.env x = pure x := by intro _; rfl) : Go X (.Assign [.Name z zp] (.ListComp elt [⟨.Name y yp, it, [], 0⟩] scope pos) spos :: rest) D M L R ρ := by
  subst hd
  have e : l.filter (fun _ => true) = l := List.filter_eq_self.mpr fun _ _ => rfl
  refine go_setLc i j (fun _ => true) g hN bk hi (fun _ _ _ _ _ _ _ _ _ => ets_nil) (fun s H C cl fp D acc x hx _ => helt s H C cl fp D acc x hx) hz ?_ eN eS hc hNi hNz hzl hloc hsw hs
  rw [e]
  exact k
/-- x.index(e), x a list of one's own -/
theorem eindex_own {kr : Nat} (i j : Nat) {x : Str} {l : Addr} {n : Nat} (hr : Room kr X.A) (h : ED X M L R ρ a d) (s1 : SeqAt.shaped (.list ds) = true) (s2 : SeqAt.shaped d = true) (hn : ds[n]? = some z) (he : PyData.eqv z d = true) (hf : ∀ (m : Nat) (z' : PyData), m < n → ds[m]? = some z' → PyData.eqv z' d = false)
    (hb : ρ[i]? = some (some (.a (.ref l))) := by rfl) (hL : L[j]? = some (l, ds) := by rfl) (hN : X.N[i]? = some x := by rfl)
    (hv : Vis X.env.scope x := by first | exact Or.inl rfl | exact Or.inr (Or.inl rfl) | exact Or.inr (Or.inr rfl)) (hd : (x == ("__debug__" : Str)) = false := by decide) (hcd : (x == ("__classdict__" : Str)) = false := by decide)
    (hbase : attributeBase (.Name x p0) "index" X.env (eval (.Name x p0) X.env) = eval (.Name x p0) X.env := by rfl)
    (hfew : ((backTo cpos (starEach [a] X.env)).all (fun x => !x.1) && (backToKw cpos (keywordEach [] X.env)).all (fun x => x.1.isSome) && decide ([a].length + ([] : List Keyword).length + (if ([] : List Keyword).isEmpty then 0 else 1) < 30)) = true := by rfl)
    (hline : (apos.endLine == cpos.line) = true := by rfl) (hst : starEach [a] X.env = (false, eval a X.env) :: starEach [] X.env := by rfl) (hplain : (backTo cpos (starEach [] X.env)).any (·.1) = false := by rfl) :
    ED X M L R ρ (.Call (.Attribute (.Name x p0) "index" apos) [a] [] cpos) (iN n) := fun σ H S Q q => by
  obtain ⟨ws, hw, _⟩ := S.own _ (List.mem_of_getElem? hL)
  refine ⟨_, pe_bm PySem.F.plainAttrs_list PySem.F.slot_list_index PySem.F.type_list_index (mt_indexD (r65 hr)) (pe_var hN hv hd hcd) (pa_cons we pa_nil hst) hbase hfew hline hst hplain, .ref l, S.valOf hb, .inl ⟨rfl, ws, SqL.of hw⟩, h σ H S _ fun v H2 k2 S2 d2 => ?_⟩
  exact ⟨l, v, d, ds, n, z, rfl, rfl, (own_view S2 hL).dp, (dat_full d2).dp, s1, s2, hn, he, hf, q _ H2 k2 S2 (.int _)⟩
theorem eindex {kr : Nat} {n : Nat} (hr : Room kr X.A) (ho : ED X M L R ρ o (.list ds)) (h : ED X M L R ρ a d) (s1 : SeqAt.shaped (.list ds) = true) (s2 : SeqAt.shaped d = true) (hn : ds[n]? = some z) (he : PyData.eqv z d = true) (hf : ∀ (m : Nat) (z' : PyData), m < n → ds[m]? = some z' → PyData.eqv z' d = false)
    (hbase : attributeBase o "index" X.env (eval o X.env) = eval o X.env := by rfl)
    (hfew : ((backTo cpos (starEach [a] X.env)).all (fun x => !x.1) && (backToKw cpos (keywordEach [] X.env)).all (fun x => x.1.isSome) && decide ([a].length + ([] : List Keyword).length + (if ([] : List Keyword).isEmpty then 0 else 1) < 30)) = true := by rfl)
    (hline : (apos.endLine == cpos.line) = true := by rfl) (hst : starEach [a] X.env = (false, eval a X.env) :: starEach [] X.env := by rfl) (hplain : (backTo cpos (starEach [] X.env)).any (·.1) = false := by rfl) :
    ED X M L R ρ (.Call (.Attribute o "index" apos) [a] [] cpos) (iN n) := fun σ H S Q q => by
  refine ⟨_, pe_bm PySem.F.plainAttrs_list PySem.F.slot_list_index PySem.F.type_list_index (mt_indexD (r65 hr)) we (pa_cons we pa_nil hst) hbase hfew hline hst hplain, ho σ H S _ fun u H1 k1 S1 d1 => ?_⟩
  have d0 := d1
  cases d0 with
  | @lst l ws _ e al =>
    refine ⟨.inl ⟨rfl, ws, SqL.of (hide_some e).2⟩, h σ H1 S1 _ fun v H2 k2 S2 d2 => ?_⟩
    exact ⟨l, v, d, ds, n, z, rfl, rfl, (dat_full (dp_same k2 d1)).dp, (dat_full d2).dp, s1, s2, hn, he, hf, q _ H2 (k1.trans k2) S2 (.int _)⟩
theorem ei_listC {tg : Expr} {α : Type} {l : List α} {enc : α → PyData} {xs : List PyData} (h : ED X M L R ρ it (.list xs)) (e : xs = l.map enc) : EI X M L R ρ tg it (l.map enc) := by subst e; exact ei_list h
theorem ei_tupC {tg : Expr} {α : Type} {l : List α} {enc : α → PyData} {xs : List PyData} (h : ED X M L R ρ it (.tuple xs)) (e : xs = l.map enc) : EI X M L R ρ tg it (l.map enc) := by subst e; exact ei_tup h
end

/-! ### data compared -/
abbrev lB (b : List Bool) : PyData := .list (b.map PyData.bool)
abbrev llB (bs : List (List Bool)) : PyData := .list (bs.map lB)
theorem eqvAll_inj {α : Type} [DecidableEq α] (f : α → PyData) (h : ∀ a b, PyData.eqv (f a) (f b) = decide (a = b)) : ∀ (l r : List α), PyData.eqvAll (l.map f) (r.map f) = decide (l = r)
  | [], [] => rfl
  | [], b :: r => rfl
  | a :: l, [] => rfl
  | a :: l, b :: r => by
    rw [List.map_cons, List.map_cons]
    show (PyData.eqv (f a) (f b) && PyData.eqvAll (l.map f) (r.map f)) = _
    rw [h, eqvAll_inj f h l r]
    by_cases e1 : a = b <;> by_cases e2 : l = r <;> simp [e1, e2]
theorem eqv_lB (l r : List Bool) : PyData.eqv (lB l) (lB r) = decide (l = r) := by
  show PyData.eqvAll _ _ = _
  exact eqvAll_inj PyData.bool (fun a b => by cases a <;> cases b <;> rfl) l r
theorem eqv_iN (a b : Nat) : PyData.eqv (iN a) (iN b) = decide (a = b) := by
  show ((a : Int) == (b : Int)) = _
  by_cases h : a = b
  · subst h; simp
  · have : ¬ (a : Int) = (b : Int) := by omega
    simp [h, this]
theorem eqv_lN (l r : List Nat) : PyData.eqv (lN l) (lN r) = decide (l = r) := eqvAll_inj iN eqv_iN l r
theorem eqv_tN (l r : List Nat) : PyData.eqv (tN l) (tN r) = decide (l = r) := eqvAll_inj iN eqv_iN l r
theorem eqv_str (a b : Str) : PyData.eqv (.str a) (.str b) = decide (a = b) := by
  show (a == b) = _
  by_cases h : a = b
  · subst h; simp
  · simp [h]
theorem any_eqv {α : Type} [DecidableEq α] (f : α → PyData) (h : ∀ a b, PyData.eqv (f a) (f b) = decide (a = b)) (x : α) : ∀ l : List α, ((l.map f).any fun z => PyData.eqv z (f x)) = decide (x ∈ l)
  | [] => rfl
  | a :: l => by
    rw [List.map_cons, List.any_cons, h, any_eqv f h x l]
    by_cases e : a = x
    · subst e; simp
    · have e' : ¬ x = a := fun q => e q.symm
      simp [e, e']
/-- data of a shape, at most n deep -/
def Sh (n : Nat) (d : PyData) : Prop := PyData.canLay0 d = true ∧ PyData.depth d ≤ n
def ShAll (n : Nat) (ds : List PyData) : Prop := PyData.canLayAll0 ds = true ∧ PyData.depthAll ds ≤ n
theorem Sh.shaped {n : Nat} {d : PyData} (h : Sh n d) (hn : n ≤ 64 := by decide) : SeqAt.shaped d = true := by
  unfold SeqAt.shaped
  rw [h.1, Bool.true_and]
  exact decide_eq_true (by have := h.2; omega)
theorem sh_int {n : Nat} {i : Int} : Sh n (.int i) := ⟨rfl, Nat.zero_le _⟩
theorem sh_bool {n : Nat} {i : Bool} : Sh n (.bool i) := ⟨rfl, Nat.zero_le _⟩
theorem sh_str {n : Nat} {x : Str} (h : PyData.strOk x = true) : Sh n (.str x) := ⟨h, Nat.zero_le _⟩
theorem shAll_nil {n : Nat} : ShAll n [] := ⟨rfl, Nat.zero_le _⟩
theorem shAll_cons {n : Nat} {d : PyData} {ds : List PyData} (h : Sh n d) (a : ShAll n ds) : ShAll n (d :: ds) := ⟨by
  show (PyData.canLay0 d && PyData.canLayAll0 ds) = true
  rw [h.1, a.1]; rfl, by
  show max (PyData.depth d) (PyData.depthAll ds) ≤ n
  have := h.2; have := a.2; omega⟩
theorem shAll_map {α : Type} {n : Nat} {f : α → PyData} : ∀ {l : List α}, (∀ a ∈ l, Sh n (f a)) → ShAll n (l.map f)
  | [], _ => shAll_nil
  | a :: l, h => shAll_cons (h a List.mem_cons_self) (shAll_map fun b hb => h b (List.mem_cons_of_mem _ hb))
theorem sh_list {n : Nat} {ds : List PyData} (h : ShAll n ds) : Sh (n + 1) (.list ds) := ⟨h.1, by
  show PyData.depthAll ds + 1 ≤ n + 1
  have := h.2; omega⟩
theorem sh_tup {n : Nat} {ds : List PyData} (h : ShAll n ds) : Sh (n + 1) (.tuple ds) := ⟨h.1, by
  show PyData.depthAll ds + 1 ≤ n + 1
  have := h.2; omega⟩
theorem sh_lB (b : List Bool) : Sh 1 (lB b) := sh_list (shAll_map fun _ _ => sh_bool)
theorem sh_llB (b : List (List Bool)) : Sh 2 (llB b) := sh_list (shAll_map fun b _ => sh_lB b)
theorem sh_lN (b : List Nat) : Sh 1 (lN b) := sh_list (shAll_map fun _ _ => sh_int)
theorem sh_tN (b : List Nat) : Sh 1 (tN b) := sh_tup (shAll_map fun _ _ => sh_int)
section
variable {X : Cx} {M : List Addr} {k : Nat}
theorem BinD.castB {f : Value → Value → Sem Value} {d1 d2 : PyData} {p q : Bool} (h : BinD X f M d1 d2 (.bool p)) (e : p = q) : BinD X f M d1 d2 (.bool q) := e ▸ h
theorem bd_in_llB {b : List Bool} {bs : List (List Bool)} (hr : Room k X.A) : BinD X (compareOp .In) M (lB b) (llB bs) (.bool (decide (b ∈ bs))) := by
  have := bd_inD (M := M) hr (sh_lB b).shaped (sh_llB bs).shaped
  rw [any_eqv lB eqv_lB] at this
  exact this.castB (decide_eq_decide.mpr Iff.rfl)
theorem bd_notIn_llN {b : List Nat} {bs : List (List Nat)} (hr : Room k X.A) : BinD X (compareOp .NotIn) M (lN b) (.list (bs.map lN)) (.bool (!decide (b ∈ bs))) := by
  have := bd_notInD (M := M) (es := bs.map lN) hr (sh_lN b).shaped (Sh.shaped (n := 2) (d := .list (bs.map lN)) (sh_list (shAll_map fun b _ => sh_lN b)))
  rw [any_eqv lN eqv_lN] at this
  exact this.castB (congrArg (fun b => !b) (decide_eq_decide.mpr Iff.rfl))
end
end Fb
namespace Fb
open PySem L2
/-! ### the text by places -/
def top (i : Nat) : Stmt := PySem.Challenge.pw_firstbreak_k11_whole_found_in_the_fewest.main.body.getD i (.Pass ⟨0, 0, 0, 0⟩)
abbrev s_is_index : Stmt := top 11
abbrev s_is_name : Stmt := top 12
abbrev s_has_shape : Stmt := top 13
abbrev s_are_parents : Stmt := top 14
abbrev s_check_ends : Stmt := top 15
abbrev s_check_last : Stmt := top 16
abbrev s_check_history : Stmt := top 17
abbrev s_ancestors : Stmt := top 18
abbrev s_testable : Stmt := top 20
abbrev s_classes : Stmt := top 21
abbrev s_broken_by : Stmt := top 22
abbrev s_tests : Stmt := top 23
abbrev s_start : Stmt := top 25
abbrev s_lowered : Stmt := top 26
abbrev s_against_row : Stmt := top 27
abbrev s_check_size : Stmt := top 30
abbrev s_rows_of : Stmt := top 31
abbrev s_ones_in : Stmt := top 32
abbrev s_is_useful : Stmt := top 33
abbrev s_both_after : Stmt := top 34
abbrev s_value : Stmt := top 35
abbrev s_fewest_from : Stmt := top 36
abbrev s_fewest : Stmt := top 37
abbrev s_contradictions : Stmt := top 41
abbrev s_can_be : Stmt := top 42
abbrev s_is_integer : Stmt := top 53
abbrev s_is_shaped : Stmt := top 54
abbrev s_best_row : Stmt := top 58
abbrev s_tree_of : Stmt := top 59
abbrev s_best_tree : Stmt := top 60
abbrev s_law_cell : Stmt := top 62
abbrev s_law_digits : Stmt := top 63
abbrev s_law_draw : Stmt := top 64
abbrev s_law_pick : Stmt := top 65
abbrev s_law_parents : Stmt := top 66
abbrev s_law_history : Stmt := top 67
abbrev s_law_above : Stmt := top 68
abbrev s_law_breaks : Stmt := top 69
abbrev s_law_skips : Stmt := top 70
abbrev s_law_classes : Stmt := top 71
abbrev s_law_name : Stmt := top 72
abbrev s_law_new_desk : Stmt := top 73
abbrev s_law_home : Stmt := top 74
abbrev s_law_found : Stmt := top 75
abbrev s_law_held_out : Stmt := top 76
abbrev s_law : Stmt := top 77
abbrev s_Answerer_init : Stmt := inClass (top 39) 0
abbrev s_Answerer_test : Stmt := inClass (top 39) 4
abbrev s_Desk_init : Stmt := inClass (top 55) 0
abbrev s_Desk_answers : Stmt := inClass (top 55) 4
abbrev s_Desk_make_of : Stmt := inClass (top 55) 7
abbrev s_Desk_come : Stmt := inClass (top 55) 8
abbrev s_Desk_turn : Stmt := inClass (top 55) 10
abbrev s_Desk_do : Stmt := inClass (top 55) 11
abbrev s_Desk_left : Stmt := inClass (top 55) 13
abbrev s_Desk_can_be : Stmt := inClass (top 55) 14
abbrev s_Desk_state : Stmt := inClass (top 55) 15
/-! ### what the top has left -/
structure Txt (K : PySem.W.Frag) (mg : Str → Option Value) : Prop where
  f_is_index : ∃ fd, FunD K "is_index" "is_index" (defArgs s_is_index) (defBody s_is_index) (defScope s_is_index) [] [] (He.ga K "is_index") fd
  g_is_index : mg "is_index" = some (.ref (He.ga K "is_index"))
  f_is_name : ∃ fd, FunD K "is_name" "is_name" (defArgs s_is_name) (defBody s_is_name) (defScope s_is_name) [] [] (He.ga K "is_name") fd
  g_is_name : mg "is_name" = some (.ref (He.ga K "is_name"))
  f_has_shape : ∃ fd, FunD K "has_shape" "has_shape" (defArgs s_has_shape) (defBody s_has_shape) (defScope s_has_shape) [] [] (He.ga K "has_shape") fd
  g_has_shape : mg "has_shape" = some (.ref (He.ga K "has_shape"))
  f_are_parents : ∃ fd, FunD K "are_parents" "are_parents" (defArgs s_are_parents) (defBody s_are_parents) (defScope s_are_parents) [] [] (He.ga K "are_parents") fd
  g_are_parents : mg "are_parents" = some (.ref (He.ga K "are_parents"))
  f_check_ends : ∃ fd, FunD K "check_ends" "check_ends" (defArgs s_check_ends) (defBody s_check_ends) (defScope s_check_ends) [] [] (He.ga K "check_ends") fd
  g_check_ends : mg "check_ends" = some (.ref (He.ga K "check_ends"))
  f_check_last : ∃ fd, FunD K "check_last" "check_last" (defArgs s_check_last) (defBody s_check_last) (defScope s_check_last) [] [] (He.ga K "check_last") fd
  g_check_last : mg "check_last" = some (.ref (He.ga K "check_last"))
  f_check_history : ∃ fd, FunD K "check_history" "check_history" (defArgs s_check_history) (defBody s_check_history) (defScope s_check_history) [] [] (He.ga K "check_history") fd
  g_check_history : mg "check_history" = some (.ref (He.ga K "check_history"))
  f_ancestors : ∃ fd, FunD K "ancestors" "ancestors" (defArgs s_ancestors) (defBody s_ancestors) (defScope s_ancestors) [] [] (He.ga K "ancestors") fd
  g_ancestors : mg "ancestors" = some (.ref (He.ga K "ancestors"))
  f_testable : ∃ fd, FunD K "testable" "testable" (defArgs s_testable) (defBody s_testable) (defScope s_testable) [] [] (He.ga K "testable") fd
  g_testable : mg "testable" = some (.ref (He.ga K "testable"))
  f_classes : ∃ fd, FunD K "classes" "classes" (defArgs s_classes) (defBody s_classes) (defScope s_classes) [] [] (He.ga K "classes") fd
  g_classes : mg "classes" = some (.ref (He.ga K "classes"))
  f_broken_by : ∃ fd, FunD K "broken_by" "broken_by" (defArgs s_broken_by) (defBody s_broken_by) (defScope s_broken_by) [] [] (He.ga K "broken_by") fd
  g_broken_by : mg "broken_by" = some (.ref (He.ga K "broken_by"))
  f_tests : ∃ fd, FunD K "tests" "tests" (defArgs s_tests) (defBody s_tests) (defScope s_tests) [] [] (He.ga K "tests") fd
  g_tests : mg "tests" = some (.ref (He.ga K "tests"))
  f_start : ∃ fd, FunD K "start" "start" (defArgs s_start) (defBody s_start) (defScope s_start) [] [] (He.ga K "start") fd
  g_start : mg "start" = some (.ref (He.ga K "start"))
  f_lowered : ∃ fd, FunD K "lowered" "lowered" (defArgs s_lowered) (defBody s_lowered) (defScope s_lowered) [] [] (He.ga K "lowered") fd
  g_lowered : mg "lowered" = some (.ref (He.ga K "lowered"))
  f_against_row : ∃ fd, FunD K "against_row" "against_row" (defArgs s_against_row) (defBody s_against_row) (defScope s_against_row) [] [] (He.ga K "against_row") fd
  g_against_row : mg "against_row" = some (.ref (He.ga K "against_row"))
  f_check_size : ∃ fd, FunD K "check_size" "check_size" (defArgs s_check_size) (defBody s_check_size) (defScope s_check_size) [] [] (He.ga K "check_size") fd
  g_check_size : mg "check_size" = some (.ref (He.ga K "check_size"))
  f_rows_of : ∃ fd, FunD K "rows_of" "rows_of" (defArgs s_rows_of) (defBody s_rows_of) (defScope s_rows_of) [] [] (He.ga K "rows_of") fd
  g_rows_of : mg "rows_of" = some (.ref (He.ga K "rows_of"))
  f_ones_in : ∃ fd, FunD K "ones_in" "ones_in" (defArgs s_ones_in) (defBody s_ones_in) (defScope s_ones_in) [] [] (He.ga K "ones_in") fd
  g_ones_in : mg "ones_in" = some (.ref (He.ga K "ones_in"))
  f_is_useful : ∃ fd, FunD K "is_useful" "is_useful" (defArgs s_is_useful) (defBody s_is_useful) (defScope s_is_useful) [] [] (He.ga K "is_useful") fd
  g_is_useful : mg "is_useful" = some (.ref (He.ga K "is_useful"))
  f_both_after : ∃ fd, FunD K "both_after" "both_after" (defArgs s_both_after) (defBody s_both_after) (defScope s_both_after) [] [] (He.ga K "both_after") fd
  g_both_after : mg "both_after" = some (.ref (He.ga K "both_after"))
  f_value : ∃ fd, FunD K "value" "value" (defArgs s_value) (defBody s_value) (defScope s_value) [] [] (He.ga K "value") fd
  g_value : mg "value" = some (.ref (He.ga K "value"))
  f_fewest_from : ∃ fd, FunD K "fewest_from" "fewest_from" (defArgs s_fewest_from) (defBody s_fewest_from) (defScope s_fewest_from) [] [] (He.ga K "fewest_from") fd
  g_fewest_from : mg "fewest_from" = some (.ref (He.ga K "fewest_from"))
  f_fewest : ∃ fd, FunD K "fewest" "fewest" (defArgs s_fewest) (defBody s_fewest) (defScope s_fewest) [] [] (He.ga K "fewest") fd
  g_fewest : mg "fewest" = some (.ref (He.ga K "fewest"))
  f_contradictions : ∃ fd, FunD K "contradictions" "contradictions" (defArgs s_contradictions) (defBody s_contradictions) (defScope s_contradictions) [] [] (He.ga K "contradictions") fd
  g_contradictions : mg "contradictions" = some (.ref (He.ga K "contradictions"))
  f_can_be : ∃ fd, FunD K "can_be" "can_be" (defArgs s_can_be) (defBody s_can_be) (defScope s_can_be) [] [] (He.ga K "can_be_answers") fd
  g_can_be : mg "can_be_answers" = some (.ref (He.ga K "can_be_answers"))
  f_is_integer : ∃ fd, FunD K "is_integer" "is_integer" (defArgs s_is_integer) (defBody s_is_integer) (defScope s_is_integer) [] [] (He.ga K "is_integer") fd
  g_is_integer : mg "is_integer" = some (.ref (He.ga K "is_integer"))
  f_is_shaped : ∃ fd, FunD K "is_shaped" "is_shaped" (defArgs s_is_shaped) (defBody s_is_shaped) (defScope s_is_shaped) [] [] (He.ga K "is_shaped") fd
  g_is_shaped : mg "is_shaped" = some (.ref (He.ga K "is_shaped"))
  f_best_row : ∃ fd, FunD K "best_row" "best_row" (defArgs s_best_row) (defBody s_best_row) (defScope s_best_row) [] [] (He.ga K "best_row") fd
  g_best_row : mg "best_row" = some (.ref (He.ga K "best_row"))
  f_tree_of : ∃ fd, FunD K "tree_of" "tree_of" (defArgs s_tree_of) (defBody s_tree_of) (defScope s_tree_of) [] [] (He.ga K "tree_of") fd
  g_tree_of : mg "tree_of" = some (.ref (He.ga K "tree_of"))
  f_best_tree : ∃ fd, FunD K "best_tree" "best_tree" (defArgs s_best_tree) (defBody s_best_tree) (defScope s_best_tree) [] [] (He.ga K "best_tree") fd
  g_best_tree : mg "best_tree" = some (.ref (He.ga K "best_tree"))
  f_law_cell : ∃ fd, FunD K "_law_cell" "_law_cell" (defArgs s_law_cell) (defBody s_law_cell) (defScope s_law_cell) [] [] (He.ga K "_law_cell") fd
  g_law_cell : mg "_law_cell" = some (.ref (He.ga K "_law_cell"))
  f_law_digits : ∃ fd, FunD K "_law_digits" "_law_digits" (defArgs s_law_digits) (defBody s_law_digits) (defScope s_law_digits) [] [] (He.ga K "_law_digits") fd
  g_law_digits : mg "_law_digits" = some (.ref (He.ga K "_law_digits"))
  f_law_draw : ∃ fd, FunD K "_law_draw" "_law_draw" (defArgs s_law_draw) (defBody s_law_draw) (defScope s_law_draw) [] [] (He.ga K "_law_draw") fd
  g_law_draw : mg "_law_draw" = some (.ref (He.ga K "_law_draw"))
  f_law_pick : ∃ fd, FunD K "_law_pick" "_law_pick" (defArgs s_law_pick) (defBody s_law_pick) (defScope s_law_pick) [] [] (He.ga K "_law_pick") fd
  g_law_pick : mg "_law_pick" = some (.ref (He.ga K "_law_pick"))
  f_law_parents : ∃ fd, FunD K "_law_parents" "_law_parents" (defArgs s_law_parents) (defBody s_law_parents) (defScope s_law_parents) [] [] (He.ga K "_law_parents") fd
  g_law_parents : mg "_law_parents" = some (.ref (He.ga K "_law_parents"))
  f_law_history : ∃ fd, FunD K "_law_history" "_law_history" (defArgs s_law_history) (defBody s_law_history) (defScope s_law_history) [] [] (He.ga K "_law_history") fd
  g_law_history : mg "_law_history" = some (.ref (He.ga K "_law_history"))
  f_law_above : ∃ fd, FunD K "_law_above" "_law_above" (defArgs s_law_above) (defBody s_law_above) (defScope s_law_above) [] [] (He.ga K "_law_above") fd
  g_law_above : mg "_law_above" = some (.ref (He.ga K "_law_above"))
  f_law_breaks : ∃ fd, FunD K "_law_breaks" "_law_breaks" (defArgs s_law_breaks) (defBody s_law_breaks) (defScope s_law_breaks) [] [] (He.ga K "_law_breaks") fd
  g_law_breaks : mg "_law_breaks" = some (.ref (He.ga K "_law_breaks"))
  f_law_skips : ∃ fd, FunD K "_law_skips" "_law_skips" (defArgs s_law_skips) (defBody s_law_skips) (defScope s_law_skips) [] [] (He.ga K "_law_skips") fd
  g_law_skips : mg "_law_skips" = some (.ref (He.ga K "_law_skips"))
  f_law_classes : ∃ fd, FunD K "_law_classes" "_law_classes" (defArgs s_law_classes) (defBody s_law_classes) (defScope s_law_classes) [] [] (He.ga K "_law_classes") fd
  g_law_classes : mg "_law_classes" = some (.ref (He.ga K "_law_classes"))
  f_law_name : ∃ fd, FunD K "_law_name" "_law_name" (defArgs s_law_name) (defBody s_law_name) (defScope s_law_name) [] [] (He.ga K "_law_name") fd
  g_law_name : mg "_law_name" = some (.ref (He.ga K "_law_name"))
  f_law_new_desk : ∃ fd, FunD K "_law_new_desk" "_law_new_desk" (defArgs s_law_new_desk) (defBody s_law_new_desk) (defScope s_law_new_desk) [] [] (He.ga K "_law_new_desk") fd
  g_law_new_desk : mg "_law_new_desk" = some (.ref (He.ga K "_law_new_desk"))
  f_law_home : ∃ fd, FunD K "_law_home" "_law_home" (defArgs s_law_home) (defBody s_law_home) (defScope s_law_home) [] [] (He.ga K "_law_home") fd
  g_law_home : mg "_law_home" = some (.ref (He.ga K "_law_home"))
  f_law_found : ∃ fd, FunD K "_law_found" "_law_found" (defArgs s_law_found) (defBody s_law_found) (defScope s_law_found) [] [] (He.ga K "_law_found") fd
  g_law_found : mg "_law_found" = some (.ref (He.ga K "_law_found"))
  f_law_held_out : ∃ fd, FunD K "_law_held_out" "_law_held_out" (defArgs s_law_held_out) (defBody s_law_held_out) (defScope s_law_held_out) [] [] (He.ga K "_law_held_out") fd
  g_law_held_out : mg "_law_held_out" = some (.ref (He.ga K "_law_held_out"))
  f_law : ∃ fd, FunD K "law" "law" (defArgs s_law) (defBody s_law) (defScope s_law) [] [] (He.ga K "law") fd
  g_law : mg "law" = some (.ref (He.ga K "law"))
  f_Answerer_init : ∃ fd, FunD K "__init__" "Answerer.__init__" (defArgs s_Answerer_init) (defBody s_Answerer_init) (defScope s_Answerer_init) [] [] (He.ma K (He.ga K "Answerer") "__init__") fd
  f_Answerer_test : ∃ fd, FunD K "test" "Answerer.test" (defArgs s_Answerer_test) (defBody s_Answerer_test) (defScope s_Answerer_test) [] [] (He.ma K (He.ga K "Answerer") "test") fd
  f_Desk_init : ∃ fd, FunD K "__init__" "Desk.__init__" (defArgs s_Desk_init) (defBody s_Desk_init) (defScope s_Desk_init) [] [] (He.ma K (He.ga K "Desk") "__init__") fd
  f_Desk_answers : ∃ fd, FunD K "answers" "Desk.answers" (defArgs s_Desk_answers) (defBody s_Desk_answers) (defScope s_Desk_answers) [] [] (He.ma K (He.ga K "Desk") "answers") fd
  f_Desk_make_of : ∃ fd, FunD K "make_of" "Desk.make_of" (defArgs s_Desk_make_of) (defBody s_Desk_make_of) (defScope s_Desk_make_of) [] [] (He.ma K (He.ga K "Desk") "make_of") fd
  f_Desk_come : ∃ fd, FunD K "come" "Desk.come" (defArgs s_Desk_come) (defBody s_Desk_come) (defScope s_Desk_come) [] [] (He.ma K (He.ga K "Desk") "come") fd
  f_Desk_turn : ∃ fd, FunD K "turn" "Desk.turn" (defArgs s_Desk_turn) (defBody s_Desk_turn) (defScope s_Desk_turn) [] [] (He.ma K (He.ga K "Desk") "turn") fd
  f_Desk_do : ∃ fd, FunD K "do" "Desk.do" (defArgs s_Desk_do) (defBody s_Desk_do) (defScope s_Desk_do) [] [] (He.ma K (He.ga K "Desk") "do") fd
  f_Desk_left : ∃ fd, FunD K "left" "Desk.left" (defArgs s_Desk_left) (defBody s_Desk_left) (defScope s_Desk_left) [] [] (He.ma K (He.ga K "Desk") "left") fd
  f_Desk_can_be : ∃ fd, FunD K "can_be" "Desk.can_be" (defArgs s_Desk_can_be) (defBody s_Desk_can_be) (defScope s_Desk_can_be) [] [] (He.ma K (He.ga K "Desk") "can_be") fd
  f_Desk_state : ∃ fd, FunD K "state" "Desk.state" (defArgs s_Desk_state) (defBody s_Desk_state) (defScope s_Desk_state) [] [] (He.ma K (He.ga K "Desk") "state") fd
  g_Answerer : mg "Answerer" = some (.ref (He.ga K "Answerer"))
  c_Answerer : Cls K (He.ga K "Answerer")
  k_Answerer : Mk K (He.ga K "Answerer") (He.ma K (He.ga K "Answerer") "__init__")
  g_Desk : mg "Desk" = some (.ref (He.ga K "Desk"))
  c_Desk : Cls K (He.ga K "Desk")
  k_Desk : Mk K (He.ga K "Desk") (He.ma K (He.ga K "Desk") "__init__")
  g_RULES : mg "RULES" = some (.ref (He.ga K "RULES"))
  rules : ∀ H, SqT K H (He.ga K "RULES") [.str "all", .str "two", .str "one"]
  z_len : mg "len" = none
  z_isinstance : mg "isinstance" = none
  z_range : mg "range" = none
  z_all : mg "all" = none
  z_max : mg "max" = none
  z_min : mg "min" = none
  z_sorted : mg "sorted" = none
  z_tuple : mg "tuple" = none
  z_int : mg "int" = none
  z_set : mg "set" = none
  z_str : mg "str" = none
  z_bool : mg "bool" = none
  i_MOST_MAKES : ∃ t, mg "MOST_MAKES" = some (.int 24 t)
  i_MOST_PARENTS : ∃ t, mg "MOST_PARENTS" = some (.int 4 t)
  i_MOST_STATES : ∃ t, mg "MOST_STATES" = some (.int 20000 t)
  i_MOST_ANSWERS : ∃ t, mg "MOST_ANSWERS" = some (.int 200 t)
  i_MOST_DEEDS : ∃ t, mg "MOST_DEEDS" = some (.int 2000 t)
  i_MOST_DEPTH : ∃ t, mg "MOST_DEPTH" = some (.int 14 t)
  i_LETTERS : ∃ t, mg "LETTERS" = some (.str "abcdefghijklmnopqrstuvwxyz" t)
  n_Answerer_history : NoAttr K (He.ga K "Answerer") "history"
  n_Answerer_skipped : NoAttr K (He.ga K "Answerer") "skipped"
  n_Answerer_found : NoAttr K (He.ga K "Answerer") "found"
  n_Answerer_rows : NoAttr K (He.ga K "Answerer") "rows"
  n_Answerer_known : NoAttr K (He.ga K "Answerer") "known"
  n_Answerer_states : NoAttr K (He.ga K "Answerer") "states"
  n_Answerer_told : NoAttr K (He.ga K "Answerer") "told"
  n_Desk_known : NoAttr K (He.ga K "Desk") "known"
  n_Desk_names : NoAttr K (He.ga K "Desk") "names"
  n_Desk_rows : NoAttr K (He.ga K "Desk") "rows"
  n_Desk_away : NoAttr K (He.ga K "Desk") "away"
  n_Desk_number : NoAttr K (He.ga K "Desk") "number"
  n_Desk_deeds : NoAttr K (He.ga K "Desk") "deeds"
  m_Answerer_test : Meth K (He.ga K "Answerer") "test" (He.ma K (He.ga K "Answerer") "test")
  m_Desk_answers : Meth K (He.ga K "Desk") "answers" (He.ma K (He.ga K "Desk") "answers")
  m_Desk_make_of : Meth K (He.ga K "Desk") "make_of" (He.ma K (He.ga K "Desk") "make_of")
  m_Desk_come : Meth K (He.ga K "Desk") "come" (He.ma K (He.ga K "Desk") "come")
  m_Desk_turn : Meth K (He.ga K "Desk") "turn" (He.ma K (He.ga K "Desk") "turn")
  m_Desk_do : Meth K (He.ga K "Desk") "do" (He.ma K (He.ga K "Desk") "do")
  m_Desk_left : Meth K (He.ga K "Desk") "left" (He.ma K (He.ga K "Desk") "left")
  m_Desk_can_be : Meth K (He.ga K "Desk") "can_be" (He.ma K (He.ga K "Desk") "can_be")
  m_Desk_state : Meth K (He.ga K "Desk") "state" (He.ma K (He.ga K "Desk") "state")
/-! ### each def: its slots, how its arguments bind -/
abbrev N_is_index : List Str := ["thing"]
theorem sc_is_index : FnScope N_is_index ["thing"] (defScope s_is_index) := ⟨rfl, rfl, rfl, by decide +kernel, rfl, by decide +kernel, by decide +kernel⟩
theorem df_is_index {K : PySem.W.Frag} {mg : Str → Option Value} (T : Txt K mg) : Df K mg "is_index" "is_index" s_is_index ["thing"] N_is_index (He.ga K "is_index") := by
  obtain ⟨fd, F⟩ := T.f_is_index
  exact ⟨⟨fd, fun_of F, (fun_of F).binds fun _ _ _ _ _ _ us hl => match us, hl with | [_], _ => rfl⟩, sc_is_index⟩
abbrev N_is_name : List Str := ["word", "sign"]
theorem sc_is_name : FnScope N_is_name ["word"] (defScope s_is_name) := ⟨rfl, rfl, rfl, by decide +kernel, rfl, by decide +kernel, by decide +kernel⟩
theorem df_is_name {K : PySem.W.Frag} {mg : Str → Option Value} (T : Txt K mg) : Df K mg "is_name" "is_name" s_is_name ["word"] N_is_name (He.ga K "is_name") := by
  obtain ⟨fd, F⟩ := T.f_is_name
  exact ⟨⟨fd, fun_of F, (fun_of F).binds fun _ _ _ _ _ _ us hl => match us, hl with | [_], _ => rfl⟩, sc_is_name⟩
abbrev N_has_shape : List Str := ["thing", "make", "parent"]
theorem sc_has_shape : FnScope N_has_shape ["thing"] (defScope s_has_shape) := ⟨rfl, rfl, rfl, by decide +kernel, rfl, by decide +kernel, by decide +kernel⟩
theorem df_has_shape {K : PySem.W.Frag} {mg : Str → Option Value} (T : Txt K mg) : Df K mg "has_shape" "has_shape" s_has_shape ["thing"] N_has_shape (He.ga K "has_shape") := by
  obtain ⟨fd, F⟩ := T.f_has_shape
  exact ⟨⟨fd, fun_of F, (fun_of F).binds fun _ _ _ _ _ _ us hl => match us, hl with | [_], _ => rfl⟩, sc_has_shape⟩
abbrev N_are_parents : List Str := ["parents", "place", "k"]
theorem sc_are_parents : FnScope N_are_parents ["parents", "place"] (defScope s_are_parents) := ⟨rfl, rfl, rfl, by decide +kernel, rfl, by decide +kernel, by decide +kernel⟩
theorem df_are_parents {K : PySem.W.Frag} {mg : Str → Option Value} (T : Txt K mg) : Df K mg "are_parents" "are_parents" s_are_parents ["parents", "place"] N_are_parents (He.ga K "are_parents") := by
  obtain ⟨fd, F⟩ := T.f_are_parents
  exact ⟨⟨fd, fun_of F, (fun_of F).binds fun _ _ _ _ _ _ us hl => match us, hl with | [_, _], _ => rfl⟩, sc_are_parents⟩
abbrev N_check_ends : List Str := ["makes"]
theorem sc_check_ends : FnScope N_check_ends ["makes"] (defScope s_check_ends) := ⟨rfl, rfl, rfl, by decide +kernel, rfl, by decide +kernel, by decide +kernel⟩
theorem df_check_ends {K : PySem.W.Frag} {mg : Str → Option Value} (T : Txt K mg) : Df K mg "check_ends" "check_ends" s_check_ends ["makes"] N_check_ends (He.ga K "check_ends") := by
  obtain ⟨fd, F⟩ := T.f_check_ends
  exact ⟨⟨fd, fun_of F, (fun_of F).binds fun _ _ _ _ _ _ us hl => match us, hl with | [_], _ => rfl⟩, sc_check_ends⟩
abbrev N_check_last : List Str := ["makes"]
theorem sc_check_last : FnScope N_check_last ["makes"] (defScope s_check_last) := ⟨rfl, rfl, rfl, by decide +kernel, rfl, by decide +kernel, by decide +kernel⟩
theorem df_check_last {K : PySem.W.Frag} {mg : Str → Option Value} (T : Txt K mg) : Df K mg "check_last" "check_last" s_check_last ["makes"] N_check_last (He.ga K "check_last") := by
  obtain ⟨fd, F⟩ := T.f_check_last
  exact ⟨⟨fd, fun_of F, (fun_of F).binds fun _ _ _ _ _ _ us hl => match us, hl with | [_], _ => rfl⟩, sc_check_last⟩
abbrev N_check_history : List Str := ["thing", "names", "place", "name", "parents"]
theorem sc_check_history : FnScope N_check_history ["thing"] (defScope s_check_history) := ⟨rfl, rfl, rfl, by decide +kernel, rfl, by decide +kernel, by decide +kernel⟩
theorem df_check_history {K : PySem.W.Frag} {mg : Str → Option Value} (T : Txt K mg) : Df K mg "check_history" "check_history" s_check_history ["thing"] N_check_history (He.ga K "check_history") := by
  obtain ⟨fd, F⟩ := T.f_check_history
  exact ⟨⟨fd, fun_of F, (fun_of F).binds fun _ _ _ _ _ _ us hl => match us, hl with | [_], _ => rfl⟩, sc_check_history⟩
abbrev N_ancestors : List Str := ["history", "m", "found", "k", "parent"]
theorem sc_ancestors : FnScope N_ancestors ["history", "m"] (defScope s_ancestors) := ⟨rfl, rfl, rfl, by decide +kernel, rfl, by decide +kernel, by decide +kernel⟩
theorem df_ancestors {K : PySem.W.Frag} {mg : Str → Option Value} (T : Txt K mg) : Df K mg "ancestors" "ancestors" s_ancestors ["history", "m"] N_ancestors (He.ga K "ancestors") := by
  obtain ⟨fd, F⟩ := T.f_ancestors
  exact ⟨⟨fd, fun_of F, (fun_of F).binds fun _ _ _ _ _ _ us hl => match us, hl with | [_, _], _ => rfl⟩, sc_ancestors⟩
abbrev N_testable : List Str := ["history", "skipped", "m"]
theorem sc_testable : FnScope N_testable ["history", "skipped"] (defScope s_testable) := ⟨rfl, rfl, rfl, by decide +kernel, rfl, by decide +kernel, by decide +kernel⟩
theorem df_testable {K : PySem.W.Frag} {mg : Str → Option Value} (T : Txt K mg) : Df K mg "testable" "testable" s_testable ["history", "skipped"] N_testable (He.ga K "testable") := by
  obtain ⟨fd, F⟩ := T.f_testable
  exact ⟨⟨fd, fun_of F, (fun_of F).binds fun _ _ _ _ _ _ us hl => match us, hl with | [_, _], _ => rfl⟩, sc_testable⟩
abbrev N_classes : List Str := ["history", "skipped", "m", "rows", "marks", "found", "c", "row", "mark", "at"]
theorem sc_classes : FnScope N_classes ["history", "skipped"] (defScope s_classes) := ⟨rfl, rfl, rfl, by decide +kernel, rfl, by decide +kernel, by decide +kernel⟩
theorem df_classes {K : PySem.W.Frag} {mg : Str → Option Value} (T : Txt K mg) : Df K mg "classes" "classes" s_classes ["history", "skipped"] N_classes (He.ga K "classes") := by
  obtain ⟨fd, F⟩ := T.f_classes
  exact ⟨⟨fd, fun_of F, (fun_of F).binds fun _ _ _ _ _ _ us hl => match us, hl with | [_, _], _ => rfl⟩, sc_classes⟩
abbrev N_broken_by : List Str := ["history", "found", "m", "row", "k"]
theorem sc_broken_by : FnScope N_broken_by ["history", "found", "m"] (defScope s_broken_by) := ⟨rfl, rfl, rfl, by decide +kernel, rfl, by decide +kernel, by decide +kernel⟩
theorem df_broken_by {K : PySem.W.Frag} {mg : Str → Option Value} (T : Txt K mg) : Df K mg "broken_by" "broken_by" s_broken_by ["history", "found", "m"] N_broken_by (He.ga K "broken_by") := by
  obtain ⟨fd, F⟩ := T.f_broken_by
  exact ⟨⟨fd, fun_of F, (fun_of F).binds fun _ _ _ _ _ _ us hl => match us, hl with | [_, _, _], _ => rfl⟩, sc_broken_by⟩
abbrev N_tests : List Str := ["history", "skipped", "found", "rows", "makes", "m", "row"]
theorem sc_tests : FnScope N_tests ["history", "skipped"] (defScope s_tests) := ⟨rfl, rfl, rfl, by decide +kernel, rfl, by decide +kernel, by decide +kernel⟩
theorem df_tests {K : PySem.W.Frag} {mg : Str → Option Value} (T : Txt K mg) : Df K mg "tests" "tests" s_tests ["history", "skipped"] N_tests (He.ga K "tests") := by
  obtain ⟨fd, F⟩ := T.f_tests
  exact ⟨⟨fd, fun_of F, (fun_of F).binds fun _ _ _ _ _ _ us hl => match us, hl with | [_, _], _ => rfl⟩, sc_tests⟩
abbrev N_start : List Str := ["history", "skipped", "k"]
theorem sc_start : FnScope N_start ["history", "skipped", "k"] (defScope s_start) := ⟨rfl, rfl, rfl, by decide +kernel, rfl, by decide +kernel, by decide +kernel⟩
theorem df_start {K : PySem.W.Frag} {mg : Str → Option Value} (T : Txt K mg) : Df K mg "start" "start" s_start ["history", "skipped", "k"] N_start (He.ga K "start") := by
  obtain ⟨fd, F⟩ := T.f_start
  exact ⟨⟨fd, fun_of F, (fun_of F).binds fun _ _ _ _ _ _ us hl => match us, hl with | [_, _, _], _ => rfl⟩, sc_start⟩
abbrev N_lowered : List Str := ["state", "row", "k"]
theorem sc_lowered : FnScope N_lowered ["state", "row"] (defScope s_lowered) := ⟨rfl, rfl, rfl, by decide +kernel, rfl, by decide +kernel, by decide +kernel⟩
theorem df_lowered {K : PySem.W.Frag} {mg : Str → Option Value} (T : Txt K mg) : Df K mg "lowered" "lowered" s_lowered ["state", "row"] N_lowered (He.ga K "lowered") := by
  obtain ⟨fd, F⟩ := T.f_lowered
  exact ⟨⟨fd, fun_of F, (fun_of F).binds fun _ _ _ _ _ _ us hl => match us, hl with | [_, _], _ => rfl⟩, sc_lowered⟩
abbrev N_against_row : List Str := ["many", "row", "word", "k"]
theorem sc_against_row : FnScope N_against_row ["many", "row", "word"] (defScope s_against_row) := ⟨rfl, rfl, rfl, by decide +kernel, rfl, by decide +kernel, by decide +kernel⟩
theorem df_against_row {K : PySem.W.Frag} {mg : Str → Option Value} (T : Txt K mg) : Df K mg "against_row" "against_row" s_against_row ["many", "row", "word"] N_against_row (He.ga K "against_row") := by
  obtain ⟨fd, F⟩ := T.f_against_row
  exact ⟨⟨fd, fun_of F, (fun_of F).binds fun _ _ _ _ _ _ us hl => match us, hl with | [_, _, _], _ => rfl⟩, sc_against_row⟩
abbrev N_check_size : List Str := ["state", "many", "k"]
theorem sc_check_size : FnScope N_check_size ["state"] (defScope s_check_size) := ⟨rfl, rfl, rfl, by decide +kernel, rfl, by decide +kernel, by decide +kernel⟩
theorem df_check_size {K : PySem.W.Frag} {mg : Str → Option Value} (T : Txt K mg) : Df K mg "check_size" "check_size" s_check_size ["state"] N_check_size (He.ga K "check_size") := by
  obtain ⟨fd, F⟩ := T.f_check_size
  exact ⟨⟨fd, fun_of F, (fun_of F).binds fun _ _ _ _ _ _ us hl => match us, hl with | [_], _ => rfl⟩, sc_check_size⟩
abbrev N_rows_of : List Str := ["history", "skipped", "found", "m"]
theorem sc_rows_of : FnScope N_rows_of ["history", "skipped"] (defScope s_rows_of) := ⟨rfl, rfl, rfl, by decide +kernel, rfl, by decide +kernel, by decide +kernel⟩
theorem df_rows_of {K : PySem.W.Frag} {mg : Str → Option Value} (T : Txt K mg) : Df K mg "rows_of" "rows_of" s_rows_of ["history", "skipped"] N_rows_of (He.ga K "rows_of") := by
  obtain ⟨fd, F⟩ := T.f_rows_of
  exact ⟨⟨fd, fun_of F, (fun_of F).binds fun _ _ _ _ _ _ us hl => match us, hl with | [_, _], _ => rfl⟩, sc_rows_of⟩
abbrev N_ones_in : List Str := ["state", "k"]
theorem sc_ones_in : FnScope N_ones_in ["state"] (defScope s_ones_in) := ⟨rfl, rfl, rfl, by decide +kernel, rfl, by decide +kernel, by decide +kernel⟩
theorem df_ones_in {K : PySem.W.Frag} {mg : Str → Option Value} (T : Txt K mg) : Df K mg "ones_in" "ones_in" s_ones_in ["state"] N_ones_in (He.ga K "ones_in") := by
  obtain ⟨fd, F⟩ := T.f_ones_in
  exact ⟨⟨fd, fun_of F, (fun_of F).binds fun _ _ _ _ _ _ us hl => match us, hl with | [_], _ => rfl⟩, sc_ones_in⟩
abbrev N_is_useful : List Str := ["state", "row", "inside", "k", "many"]
theorem sc_is_useful : FnScope N_is_useful ["state", "row"] (defScope s_is_useful) := ⟨rfl, rfl, rfl, by decide +kernel, rfl, by decide +kernel, by decide +kernel⟩
theorem df_is_useful {K : PySem.W.Frag} {mg : Str → Option Value} (T : Txt K mg) : Df K mg "is_useful" "is_useful" s_is_useful ["state", "row"] N_is_useful (He.ga K "is_useful") := by
  obtain ⟨fd, F⟩ := T.f_is_useful
  exact ⟨⟨fd, fun_of F, (fun_of F).binds fun _ _ _ _ _ _ us hl => match us, hl with | [_, _], _ => rfl⟩, sc_is_useful⟩
abbrev N_both_after : List Str := ["state", "row", "many"]
theorem sc_both_after : FnScope N_both_after ["state", "row"] (defScope s_both_after) := ⟨rfl, rfl, rfl, by decide +kernel, rfl, by decide +kernel, by decide +kernel⟩
theorem df_both_after {K : PySem.W.Frag} {mg : Str → Option Value} (T : Txt K mg) : Df K mg "both_after" "both_after" s_both_after ["state", "row"] N_both_after (He.ga K "both_after") := by
  obtain ⟨fd, F⟩ := T.f_both_after
  exact ⟨⟨fd, fun_of F, (fun_of F).binds fun _ _ _ _ _ _ us hl => match us, hl with | [_, _], _ => rfl⟩, sc_both_after⟩
abbrev N_value : List Str := ["rows", "state", "known", "best", "m", "row", "other", "most"]
theorem sc_value : FnScope N_value ["rows", "state", "known"] (defScope s_value) := ⟨rfl, rfl, rfl, by decide +kernel, rfl, by decide +kernel, by decide +kernel⟩
theorem df_value {K : PySem.W.Frag} {mg : Str → Option Value} (T : Txt K mg) : Df K mg "value" "value" s_value ["rows", "state", "known"] N_value (He.ga K "value") := by
  obtain ⟨fd, F⟩ := T.f_value
  exact ⟨⟨fd, fun_of F, (fun_of F).binds fun _ _ _ _ _ _ us hl => match us, hl with | [_, _, _], _ => rfl⟩, sc_value⟩
abbrev N_fewest_from : List Str := ["history", "skipped", "state"]
theorem sc_fewest_from : FnScope N_fewest_from ["history", "skipped", "state"] (defScope s_fewest_from) := ⟨rfl, rfl, rfl, by decide +kernel, rfl, by decide +kernel, by decide +kernel⟩
theorem df_fewest_from {K : PySem.W.Frag} {mg : Str → Option Value} (T : Txt K mg) : Df K mg "fewest_from" "fewest_from" s_fewest_from ["history", "skipped", "state"] N_fewest_from (He.ga K "fewest_from") := by
  obtain ⟨fd, F⟩ := T.f_fewest_from
  exact ⟨⟨fd, fun_of F, (fun_of F).binds fun _ _ _ _ _ _ us hl => match us, hl with | [_, _, _], _ => rfl⟩, sc_fewest_from⟩
abbrev N_fewest : List Str := ["history", "skipped", "k"]
theorem sc_fewest : FnScope N_fewest ["history", "skipped", "k"] (defScope s_fewest) := ⟨rfl, rfl, rfl, by decide +kernel, rfl, by decide +kernel, by decide +kernel⟩
theorem df_fewest {K : PySem.W.Frag} {mg : Str → Option Value} (T : Txt K mg) : Df K mg "fewest" "fewest" s_fewest ["history", "skipped", "k"] N_fewest (He.ga K "fewest") := by
  obtain ⟨fd, F⟩ := T.f_fewest
  exact ⟨⟨fd, fun_of F, (fun_of F).binds fun _ _ _ _ _ _ us hl => match us, hl with | [_, _, _], _ => rfl⟩, sc_fewest⟩
abbrev N_contradictions : List Str := ["history", "answers", "counts", "word", "m", "row", "c"]
theorem sc_contradictions : FnScope N_contradictions ["history", "answers"] (defScope s_contradictions) := ⟨rfl, rfl, rfl, by decide +kernel, rfl, by decide +kernel, by decide +kernel⟩
theorem df_contradictions {K : PySem.W.Frag} {mg : Str → Option Value} (T : Txt K mg) : Df K mg "contradictions" "contradictions" s_contradictions ["history", "answers"] N_contradictions (He.ga K "contradictions") := by
  obtain ⟨fd, F⟩ := T.f_contradictions
  exact ⟨⟨fd, fun_of F, (fun_of F).binds fun _ _ _ _ _ _ us hl => match us, hl with | [_, _], _ => rfl⟩, sc_contradictions⟩
abbrev N_can_be : List Str := ["history", "answers", "k", "counts", "c"]
theorem sc_can_be : FnScope N_can_be ["history", "answers", "k"] (defScope s_can_be) := ⟨rfl, rfl, rfl, by decide +kernel, rfl, by decide +kernel, by decide +kernel⟩
theorem df_can_be {K : PySem.W.Frag} {mg : Str → Option Value} (T : Txt K mg) : Df K mg "can_be" "can_be" s_can_be ["history", "answers", "k"] N_can_be (He.ga K "can_be_answers") := by
  obtain ⟨fd, F⟩ := T.f_can_be
  exact ⟨⟨fd, fun_of F, (fun_of F).binds fun _ _ _ _ _ _ us hl => match us, hl with | [_, _, _], _ => rfl⟩, sc_can_be⟩
abbrev N_is_integer : List Str := ["thing"]
theorem sc_is_integer : FnScope N_is_integer ["thing"] (defScope s_is_integer) := ⟨rfl, rfl, rfl, by decide +kernel, rfl, by decide +kernel, by decide +kernel⟩
theorem df_is_integer {K : PySem.W.Frag} {mg : Str → Option Value} (T : Txt K mg) : Df K mg "is_integer" "is_integer" s_is_integer ["thing"] N_is_integer (He.ga K "is_integer") := by
  obtain ⟨fd, F⟩ := T.f_is_integer
  exact ⟨⟨fd, fun_of F, (fun_of F).binds fun _ _ _ _ _ _ us hl => match us, hl with | [_], _ => rfl⟩, sc_is_integer⟩
abbrev N_is_shaped : List Str := ["deed"]
theorem sc_is_shaped : FnScope N_is_shaped ["deed"] (defScope s_is_shaped) := ⟨rfl, rfl, rfl, by decide +kernel, rfl, by decide +kernel, by decide +kernel⟩
theorem df_is_shaped {K : PySem.W.Frag} {mg : Str → Option Value} (T : Txt K mg) : Df K mg "is_shaped" "is_shaped" s_is_shaped ["deed"] N_is_shaped (He.ga K "is_shaped") := by
  obtain ⟨fd, F⟩ := T.f_is_shaped
  exact ⟨⟨fd, fun_of F, (fun_of F).binds fun _ _ _ _ _ _ us hl => match us, hl with | [_], _ => rfl⟩, sc_is_shaped⟩
abbrev N_best_row : List Str := ["rows", "state", "known", "best", "m", "row", "other", "most"]
theorem sc_best_row : FnScope N_best_row ["rows", "state", "known"] (defScope s_best_row) := ⟨rfl, rfl, rfl, by decide +kernel, rfl, by decide +kernel, by decide +kernel⟩
theorem df_best_row {K : PySem.W.Frag} {mg : Str → Option Value} (T : Txt K mg) : Df K mg "best_row" "best_row" s_best_row ["rows", "state", "known"] N_best_row (He.ga K "best_row") := by
  obtain ⟨fd, F⟩ := T.f_best_row
  exact ⟨⟨fd, fun_of F, (fun_of F).binds fun _ _ _ _ _ _ us hl => match us, hl with | [_, _, _], _ => rfl⟩, sc_best_row⟩
abbrev N_tree_of : List Str := ["rows", "state", "known", "inside", "best", "other", "parts"]
theorem sc_tree_of : FnScope N_tree_of ["rows", "state", "known"] (defScope s_tree_of) := ⟨rfl, rfl, rfl, by decide +kernel, rfl, by decide +kernel, by decide +kernel⟩
theorem df_tree_of {K : PySem.W.Frag} {mg : Str → Option Value} (T : Txt K mg) : Df K mg "tree_of" "tree_of" s_tree_of ["rows", "state", "known"] N_tree_of (He.ga K "tree_of") := by
  obtain ⟨fd, F⟩ := T.f_tree_of
  exact ⟨⟨fd, fun_of F, (fun_of F).binds fun _ _ _ _ _ _ us hl => match us, hl with | [_, _, _], _ => rfl⟩, sc_tree_of⟩
abbrev N_best_tree : List Str := ["history", "skipped", "state", "rows", "known"]
theorem sc_best_tree : FnScope N_best_tree ["history", "skipped", "state"] (defScope s_best_tree) := ⟨rfl, rfl, rfl, by decide +kernel, rfl, by decide +kernel, by decide +kernel⟩
theorem df_best_tree {K : PySem.W.Frag} {mg : Str → Option Value} (T : Txt K mg) : Df K mg "best_tree" "best_tree" s_best_tree ["history", "skipped", "state"] N_best_tree (He.ga K "best_tree") := by
  obtain ⟨fd, F⟩ := T.f_best_tree
  exact ⟨⟨fd, fun_of F, (fun_of F).binds fun _ _ _ _ _ _ us hl => match us, hl with | [_, _, _], _ => rfl⟩, sc_best_tree⟩
abbrev N_law_cell : List Str := ["_law_script", "_law_k"]
theorem sc_law_cell : FnScope N_law_cell ["_law_script", "_law_k"] (defScope s_law_cell) := ⟨rfl, rfl, rfl, by decide +kernel, rfl, by decide +kernel, by decide +kernel⟩
theorem df_law_cell {K : PySem.W.Frag} {mg : Str → Option Value} (T : Txt K mg) : Df K mg "_law_cell" "_law_cell" s_law_cell ["_law_script", "_law_k"] N_law_cell (He.ga K "_law_cell") := by
  obtain ⟨fd, F⟩ := T.f_law_cell
  exact ⟨⟨fd, fun_of F, (fun_of F).binds fun _ _ _ _ _ _ us hl => match us, hl with | [_, _], _ => rfl⟩, sc_law_cell⟩
abbrev N_law_digits : List Str := ["_law_script", "_law_first", "_law_last", "_law_digits_here", "_law_k", "_law_cell_here", "_law_turn", "_law_seed"]
theorem sc_law_digits : FnScope N_law_digits ["_law_script", "_law_first", "_law_last"] (defScope s_law_digits) := ⟨rfl, rfl, rfl, by decide +kernel, rfl, by decide +kernel, by decide +kernel⟩
theorem df_law_digits {K : PySem.W.Frag} {mg : Str → Option Value} (T : Txt K mg) : Df K mg "_law_digits" "_law_digits" s_law_digits ["_law_script", "_law_first", "_law_last"] N_law_digits (He.ga K "_law_digits") := by
  obtain ⟨fd, F⟩ := T.f_law_digits
  exact ⟨⟨fd, fun_of F, (fun_of F).binds fun _ _ _ _ _ _ us hl => match us, hl with | [_, _, _], _ => rfl⟩, sc_law_digits⟩
abbrev N_law_draw : List Str := ["_law_box", "_law_many", "_law_at"]
theorem sc_law_draw : FnScope N_law_draw ["_law_box", "_law_many"] (defScope s_law_draw) := ⟨rfl, rfl, rfl, by decide +kernel, rfl, by decide +kernel, by decide +kernel⟩
theorem df_law_draw {K : PySem.W.Frag} {mg : Str → Option Value} (T : Txt K mg) : Df K mg "_law_draw" "_law_draw" s_law_draw ["_law_box", "_law_many"] N_law_draw (He.ga K "_law_draw") := by
  obtain ⟨fd, F⟩ := T.f_law_draw
  exact ⟨⟨fd, fun_of F, (fun_of F).binds fun _ _ _ _ _ _ us hl => match us, hl with | [_, _], _ => rfl⟩, sc_law_draw⟩
abbrev N_law_pick : List Str := ["_law_box", "_law_things"]
theorem sc_law_pick : FnScope N_law_pick ["_law_box", "_law_things"] (defScope s_law_pick) := ⟨rfl, rfl, rfl, by decide +kernel, rfl, by decide +kernel, by decide +kernel⟩
theorem df_law_pick {K : PySem.W.Frag} {mg : Str → Option Value} (T : Txt K mg) : Df K mg "_law_pick" "_law_pick" s_law_pick ["_law_box", "_law_things"] N_law_pick (He.ga K "_law_pick") := by
  obtain ⟨fd, F⟩ := T.f_law_pick
  exact ⟨⟨fd, fun_of F, (fun_of F).binds fun _ _ _ _ _ _ us hl => match us, hl with | [_, _], _ => rfl⟩, sc_law_pick⟩
abbrev N_law_parents : List Str := ["_law_box", "_law_k", "_law_ends", "_law_at", "_law_one", "_law_other"]
theorem sc_law_parents : FnScope N_law_parents ["_law_box", "_law_k", "_law_ends"] (defScope s_law_parents) := ⟨rfl, rfl, rfl, by decide +kernel, rfl, by decide +kernel, by decide +kernel⟩
theorem df_law_parents {K : PySem.W.Frag} {mg : Str → Option Value} (T : Txt K mg) : Df K mg "_law_parents" "_law_parents" s_law_parents ["_law_box", "_law_k", "_law_ends"] N_law_parents (He.ga K "_law_parents") := by
  obtain ⟨fd, F⟩ := T.f_law_parents
  exact ⟨⟨fd, fun_of F, (fun_of F).binds fun _ _ _ _ _ _ us hl => match us, hl with | [_, _, _], _ => rfl⟩, sc_law_parents⟩
abbrev N_law_history : List Str := ["_law_box", "_law_most", "_law_many", "_law_makes", "_law_ends", "_law_k", "_law_parents_here", "_law_end"]
theorem sc_law_history : FnScope N_law_history ["_law_box", "_law_most"] (defScope s_law_history) := ⟨rfl, rfl, rfl, by decide +kernel, rfl, by decide +kernel, by decide +kernel⟩
theorem df_law_history {K : PySem.W.Frag} {mg : Str → Option Value} (T : Txt K mg) : Df K mg "_law_history" "_law_history" s_law_history ["_law_box", "_law_most"] N_law_history (He.ga K "_law_history") := by
  obtain ⟨fd, F⟩ := T.f_law_history
  exact ⟨⟨fd, fun_of F, (fun_of F).binds fun _ _ _ _ _ _ us hl => match us, hl with | [_, _], _ => rfl⟩, sc_law_history⟩
abbrev N_law_above : List Str := ["_law_history_here", "_law_make", "_law_found_here", "_law_k", "_law_parent"]
theorem sc_law_above : FnScope N_law_above ["_law_history_here", "_law_make"] (defScope s_law_above) := ⟨rfl, rfl, rfl, by decide +kernel, rfl, by decide +kernel, by decide +kernel⟩
theorem df_law_above {K : PySem.W.Frag} {mg : Str → Option Value} (T : Txt K mg) : Df K mg "_law_above" "_law_above" s_law_above ["_law_history_here", "_law_make"] N_law_above (He.ga K "_law_above") := by
  obtain ⟨fd, F⟩ := T.f_law_above
  exact ⟨⟨fd, fun_of F, (fun_of F).binds fun _ _ _ _ _ _ us hl => match us, hl with | [_, _], _ => rfl⟩, sc_law_above⟩
abbrev N_law_breaks : List Str := ["_law_history_here", "_law_candidate", "_law_make"]
theorem sc_law_breaks : FnScope N_law_breaks ["_law_history_here", "_law_candidate", "_law_make"] (defScope s_law_breaks) := ⟨rfl, rfl, rfl, by decide +kernel, rfl, by decide +kernel, by decide +kernel⟩
theorem df_law_breaks {K : PySem.W.Frag} {mg : Str → Option Value} (T : Txt K mg) : Df K mg "_law_breaks" "_law_breaks" s_law_breaks ["_law_history_here", "_law_candidate", "_law_make"] N_law_breaks (He.ga K "_law_breaks") := by
  obtain ⟨fd, F⟩ := T.f_law_breaks
  exact ⟨⟨fd, fun_of F, (fun_of F).binds fun _ _ _ _ _ _ us hl => match us, hl with | [_, _, _], _ => rfl⟩, sc_law_breaks⟩
abbrev N_law_skips : List Str := ["_law_box", "_law_history_here", "_law_make"]
theorem sc_law_skips : FnScope N_law_skips ["_law_box", "_law_history_here"] (defScope s_law_skips) := ⟨rfl, rfl, rfl, by decide +kernel, rfl, by decide +kernel, by decide +kernel⟩
theorem df_law_skips {K : PySem.W.Frag} {mg : Str → Option Value} (T : Txt K mg) : Df K mg "_law_skips" "_law_skips" s_law_skips ["_law_box", "_law_history_here"] N_law_skips (He.ga K "_law_skips") := by
  obtain ⟨fd, F⟩ := T.f_law_skips
  exact ⟨⟨fd, fun_of F, (fun_of F).binds fun _ _ _ _ _ _ us hl => match us, hl with | [_, _], _ => rfl⟩, sc_law_skips⟩
abbrev N_law_classes : List Str := ["_law_history_here", "_law_skipped", "_law_rows", "_law_one", "_law_make", "_law_row", "_law_part", "_law_homes"]
theorem sc_law_classes : FnScope N_law_classes ["_law_history_here", "_law_skipped"] (defScope s_law_classes) := ⟨rfl, rfl, rfl, by decide +kernel, rfl, by decide +kernel, by decide +kernel⟩
theorem df_law_classes {K : PySem.W.Frag} {mg : Str → Option Value} (T : Txt K mg) : Df K mg "_law_classes" "_law_classes" s_law_classes ["_law_history_here", "_law_skipped"] N_law_classes (He.ga K "_law_classes") := by
  obtain ⟨fd, F⟩ := T.f_law_classes
  exact ⟨⟨fd, fun_of F, (fun_of F).binds fun _ _ _ _ _ _ us hl => match us, hl with | [_, _], _ => rfl⟩, sc_law_classes⟩
abbrev N_law_name : List Str := ["_law_history_here", "_law_make"]
theorem sc_law_name : FnScope N_law_name ["_law_history_here", "_law_make"] (defScope s_law_name) := ⟨rfl, rfl, rfl, by decide +kernel, rfl, by decide +kernel, by decide +kernel⟩
theorem df_law_name {K : PySem.W.Frag} {mg : Str → Option Value} (T : Txt K mg) : Df K mg "_law_name" "_law_name" s_law_name ["_law_history_here", "_law_make"] N_law_name (He.ga K "_law_name") := by
  obtain ⟨fd, F⟩ := T.f_law_name
  exact ⟨⟨fd, fun_of F, (fun_of F).binds fun _ _ _ _ _ _ us hl => match us, hl with | [_, _], _ => rfl⟩, sc_law_name⟩
abbrev N_law_new_desk : List Str := ["_law_history_here", "_law_skipped", "_law_k", "_law_desk", "_law_make"]
theorem sc_law_new_desk : FnScope N_law_new_desk ["_law_history_here", "_law_skipped", "_law_k"] (defScope s_law_new_desk) := ⟨rfl, rfl, rfl, by decide +kernel, rfl, by decide +kernel, by decide +kernel⟩
theorem df_law_new_desk {K : PySem.W.Frag} {mg : Str → Option Value} (T : Txt K mg) : Df K mg "_law_new_desk" "_law_new_desk" s_law_new_desk ["_law_history_here", "_law_skipped", "_law_k"] N_law_new_desk (He.ga K "_law_new_desk") := by
  obtain ⟨fd, F⟩ := T.f_law_new_desk
  exact ⟨⟨fd, fun_of F, (fun_of F).binds fun _ _ _ _ _ _ us hl => match us, hl with | [_, _, _], _ => rfl⟩, sc_law_new_desk⟩
abbrev N_law_home : List Str := ["_law_history_here", "_law_skipped", "_law_one", "_law_row"]
theorem sc_law_home : FnScope N_law_home ["_law_history_here", "_law_skipped", "_law_one"] (defScope s_law_home) := ⟨rfl, rfl, rfl, by decide +kernel, rfl, by decide +kernel, by decide +kernel⟩
theorem df_law_home {K : PySem.W.Frag} {mg : Str → Option Value} (T : Txt K mg) : Df K mg "_law_home" "_law_home" s_law_home ["_law_history_here", "_law_skipped", "_law_one"] N_law_home (He.ga K "_law_home") := by
  obtain ⟨fd, F⟩ := T.f_law_home
  exact ⟨⟨fd, fun_of F, (fun_of F).binds fun _ _ _ _ _ _ us hl => match us, hl with | [_, _, _], _ => rfl⟩, sc_law_home⟩
abbrev N_law_found : List Str := ["_law_history_here", "_law_skipped", "_law_k", "_law_truth", "_law_lies", "_law_most", "_law_desk", "_law_place", "_law_asked", "_law_turn", "_law_broken", "_law_one", "_law_home_here", "_law_told", "_law_name_here"]
theorem sc_law_found : FnScope N_law_found ["_law_history_here", "_law_skipped", "_law_k", "_law_truth", "_law_lies", "_law_most"] (defScope s_law_found) := ⟨rfl, rfl, rfl, by decide +kernel, rfl, by decide +kernel, by decide +kernel⟩
theorem df_law_found {K : PySem.W.Frag} {mg : Str → Option Value} (T : Txt K mg) : Df K mg "_law_found" "_law_found" s_law_found ["_law_history_here", "_law_skipped", "_law_k", "_law_truth", "_law_lies", "_law_most"] N_law_found (He.ga K "_law_found") := by
  obtain ⟨fd, F⟩ := T.f_law_found
  exact ⟨⟨fd, fun_of F, (fun_of F).binds fun _ _ _ _ _ _ us hl => match us, hl with | [_, _, _, _, _, _], _ => rfl⟩, sc_law_found⟩
abbrev N_law_held_out : List Str := ["_law_box", "_law_history_here", "_law_skipped", "_law_k", "_law_many", "_law_make", "_law_makes", "_law_answerer", "_law_desk", "_law_answers", "_law_turn", "_law_left", "_law_one", "_law_kind", "_law_homes", "_law_home_here"]
theorem sc_law_held_out : FnScope N_law_held_out ["_law_box", "_law_history_here", "_law_skipped", "_law_k", "_law_many"] (defScope s_law_held_out) := ⟨rfl, rfl, rfl, by decide +kernel, rfl, by decide +kernel, by decide +kernel⟩
theorem df_law_held_out {K : PySem.W.Frag} {mg : Str → Option Value} (T : Txt K mg) : Df K mg "_law_held_out" "_law_held_out" s_law_held_out ["_law_box", "_law_history_here", "_law_skipped", "_law_k", "_law_many"] N_law_held_out (He.ga K "_law_held_out") := by
  obtain ⟨fd, F⟩ := T.f_law_held_out
  exact ⟨⟨fd, fun_of F, (fun_of F).binds fun _ _ _ _ _ _ us hl => match us, hl with | [_, _, _, _, _], _ => rfl⟩, sc_law_held_out⟩
abbrev N_law : List Str := ["_law_script", "_law_box", "_law_history_here", "_law_skipped", "_law_k", "_law_most", "_law_turn", "_law_truth", "_law_lie", "_law_lies"]
theorem sc_law : FnScope N_law ["_law_script"] (defScope s_law) := ⟨rfl, rfl, rfl, by decide +kernel, rfl, by decide +kernel, by decide +kernel⟩
theorem df_law {K : PySem.W.Frag} {mg : Str → Option Value} (T : Txt K mg) : Df K mg "law" "law" s_law ["_law_script"] N_law (He.ga K "law") := by
  obtain ⟨fd, F⟩ := T.f_law
  exact ⟨⟨fd, fun_of F, (fun_of F).binds fun _ _ _ _ _ _ us hl => match us, hl with | [_], _ => rfl⟩, sc_law⟩
abbrev N_Answerer_init : List Str := ["self", "history", "skipped", "state"]
theorem sc_Answerer_init : FnScope N_Answerer_init ["self", "history", "skipped", "state"] (defScope s_Answerer_init) := ⟨rfl, rfl, rfl, by decide +kernel, rfl, by decide +kernel, by decide +kernel⟩
theorem df_Answerer_init {K : PySem.W.Frag} {mg : Str → Option Value} (T : Txt K mg) : Df K mg "__init__" "Answerer.__init__" s_Answerer_init ["self", "history", "skipped", "state"] N_Answerer_init (He.ma K (He.ga K "Answerer") "__init__") := by
  obtain ⟨fd, F⟩ := T.f_Answerer_init
  exact ⟨⟨fd, fun_of F, (fun_of F).binds fun _ _ _ _ _ _ us hl => match us, hl with | [_, _, _, _], _ => rfl⟩, sc_Answerer_init⟩
abbrev N_Answerer_test : List Str := ["self", "m", "state", "row", "parts", "part", "broken", "works", "inside", "k", "few", "word"]
theorem sc_Answerer_test : FnScope N_Answerer_test ["self", "m"] (defScope s_Answerer_test) := ⟨rfl, rfl, rfl, by decide +kernel, rfl, by decide +kernel, by decide +kernel⟩
theorem df_Answerer_test {K : PySem.W.Frag} {mg : Str → Option Value} (T : Txt K mg) : Df K mg "test" "Answerer.test" s_Answerer_test ["self", "m"] N_Answerer_test (He.ma K (He.ga K "Answerer") "test") := by
  obtain ⟨fd, F⟩ := T.f_Answerer_test
  exact ⟨⟨fd, fun_of F, (fun_of F).binds fun _ _ _ _ _ _ us hl => match us, hl with | [_, _], _ => rfl⟩, sc_Answerer_test⟩
abbrev N_Desk_init : List Str := ["self", "history", "k", "rule", "make"]
theorem sc_Desk_init : FnScope N_Desk_init ["self", "history", "k", "rule"] (defScope s_Desk_init) := ⟨rfl, rfl, rfl, by decide +kernel, rfl, by decide +kernel, by decide +kernel⟩
theorem df_Desk_init {K : PySem.W.Frag} {mg : Str → Option Value} (T : Txt K mg) : Df K mg "__init__" "Desk.__init__" s_Desk_init ["self", "history", "k", "rule"] N_Desk_init (He.ma K (He.ga K "Desk") "__init__") := by
  obtain ⟨fd, F⟩ := T.f_Desk_init
  exact ⟨⟨fd, fun_of F, (fun_of F).binds fun _ _ _ _ _ _ us hl => match us, hl with | [_, _, _, _], _ => rfl⟩, sc_Desk_init⟩
abbrev N_Desk_answers : List Str := ["self", "number", "kind", "make"]
theorem sc_Desk_answers : FnScope N_Desk_answers ["self"] (defScope s_Desk_answers) := ⟨rfl, rfl, rfl, by decide +kernel, rfl, by decide +kernel, by decide +kernel⟩
theorem df_Desk_answers {K : PySem.W.Frag} {mg : Str → Option Value} (T : Txt K mg) : Df K mg "answers" "Desk.answers" s_Desk_answers ["self"] N_Desk_answers (He.ma K (He.ga K "Desk") "answers") := by
  obtain ⟨fd, F⟩ := T.f_Desk_answers
  exact ⟨⟨fd, fun_of F, (fun_of F).binds fun _ _ _ _ _ _ us hl => match us, hl with | [_], _ => rfl⟩, sc_Desk_answers⟩
abbrev N_Desk_make_of : List Str := ["self", "name"]
theorem sc_Desk_make_of : FnScope N_Desk_make_of ["self", "name"] (defScope s_Desk_make_of) := ⟨rfl, rfl, rfl, by decide +kernel, rfl, by decide +kernel, by decide +kernel⟩
theorem df_Desk_make_of {K : PySem.W.Frag} {mg : Str → Option Value} (T : Txt K mg) : Df K mg "make_of" "Desk.make_of" s_Desk_make_of ["self", "name"] N_Desk_make_of (He.ma K (He.ga K "Desk") "make_of") := by
  obtain ⟨fd, F⟩ := T.f_Desk_make_of
  exact ⟨⟨fd, fun_of F, (fun_of F).binds fun _ _ _ _ _ _ us hl => match us, hl with | [_, _], _ => rfl⟩, sc_Desk_make_of⟩
abbrev N_Desk_come : List Str := ["self", "kind", "name", "make"]
theorem sc_Desk_come : FnScope N_Desk_come ["self", "kind", "name"] (defScope s_Desk_come) := ⟨rfl, rfl, rfl, by decide +kernel, rfl, by decide +kernel, by decide +kernel⟩
theorem df_Desk_come {K : PySem.W.Frag} {mg : Str → Option Value} (T : Txt K mg) : Df K mg "come" "Desk.come" s_Desk_come ["self", "kind", "name"] N_Desk_come (He.ma K (He.ga K "Desk") "come") := by
  obtain ⟨fd, F⟩ := T.f_Desk_come
  exact ⟨⟨fd, fun_of F, (fun_of F).binds fun _ _ _ _ _ _ us hl => match us, hl with | [_, _, _], _ => rfl⟩, sc_Desk_come⟩
abbrev N_Desk_turn : List Str := ["self", "name", "skips", "make", "other"]
theorem sc_Desk_turn : FnScope N_Desk_turn ["self", "name", "skips"] (defScope s_Desk_turn) := ⟨rfl, rfl, rfl, by decide +kernel, rfl, by decide +kernel, by decide +kernel⟩
theorem df_Desk_turn {K : PySem.W.Frag} {mg : Str → Option Value} (T : Txt K mg) : Df K mg "turn" "Desk.turn" s_Desk_turn ["self", "name", "skips"] N_Desk_turn (He.ma K (He.ga K "Desk") "turn") := by
  obtain ⟨fd, F⟩ := T.f_Desk_turn
  exact ⟨⟨fd, fun_of F, (fun_of F).binds fun _ _ _ _ _ _ us hl => match us, hl with | [_, _, _], _ => rfl⟩, sc_Desk_turn⟩
abbrev N_Desk_do : List Str := ["self", "deed"]
theorem sc_Desk_do : FnScope N_Desk_do ["self", "deed"] (defScope s_Desk_do) := ⟨rfl, rfl, rfl, by decide +kernel, rfl, by decide +kernel, by decide +kernel⟩
theorem df_Desk_do {K : PySem.W.Frag} {mg : Str → Option Value} (T : Txt K mg) : Df K mg "do" "Desk.do" s_Desk_do ["self", "deed"] N_Desk_do (He.ma K (He.ga K "Desk") "do") := by
  obtain ⟨fd, F⟩ := T.f_Desk_do
  exact ⟨⟨fd, fun_of F, (fun_of F).binds fun _ _ _ _ _ _ us hl => match us, hl with | [_, _], _ => rfl⟩, sc_Desk_do⟩
abbrev N_Desk_left : List Str := ["self", "history", "k", "rule"]
theorem sc_Desk_left : FnScope N_Desk_left ["self"] (defScope s_Desk_left) := ⟨rfl, rfl, rfl, by decide +kernel, rfl, by decide +kernel, by decide +kernel⟩
theorem df_Desk_left {K : PySem.W.Frag} {mg : Str → Option Value} (T : Txt K mg) : Df K mg "left" "Desk.left" s_Desk_left ["self"] N_Desk_left (He.ma K (He.ga K "Desk") "left") := by
  obtain ⟨fd, F⟩ := T.f_Desk_left
  exact ⟨⟨fd, fun_of F, (fun_of F).binds fun _ _ _ _ _ _ us hl => match us, hl with | [_], _ => rfl⟩, sc_Desk_left⟩
abbrev N_Desk_can_be : List Str := ["self", "make"]
theorem sc_Desk_can_be : FnScope N_Desk_can_be ["self"] (defScope s_Desk_can_be) := ⟨rfl, rfl, rfl, by decide +kernel, rfl, by decide +kernel, by decide +kernel⟩
theorem df_Desk_can_be {K : PySem.W.Frag} {mg : Str → Option Value} (T : Txt K mg) : Df K mg "can_be" "Desk.can_be" s_Desk_can_be ["self"] N_Desk_can_be (He.ma K (He.ga K "Desk") "can_be") := by
  obtain ⟨fd, F⟩ := T.f_Desk_can_be
  exact ⟨⟨fd, fun_of F, (fun_of F).binds fun _ _ _ _ _ _ us hl => match us, hl with | [_], _ => rfl⟩, sc_Desk_can_be⟩
abbrev N_Desk_state : List Str := ["self", "left", "row", "make"]
theorem sc_Desk_state : FnScope N_Desk_state ["self"] (defScope s_Desk_state) := ⟨rfl, rfl, rfl, by decide +kernel, rfl, by decide +kernel, by decide +kernel⟩
theorem df_Desk_state {K : PySem.W.Frag} {mg : Str → Option Value} (T : Txt K mg) : Df K mg "state" "Desk.state" s_Desk_state ["self"] N_Desk_state (He.ma K (He.ga K "Desk") "state") := by
  obtain ⟨fd, F⟩ := T.f_Desk_state
  exact ⟨⟨fd, fun_of F, (fun_of F).binds fun _ _ _ _ _ _ us hl => match us, hl with | [_], _ => rfl⟩, sc_Desk_state⟩
end Fb
namespace Fb
open PySem L2

/-! ### calls that change objects at C -/
def Fr (C : List Addr) (H H' : Hp) : Prop := ∀ a o, a ∉ C → H a = some o → H' a = some o
theorem Fr.refl (C : List Addr) (H : Hp) : Fr C H H := fun _ _ _ e => e
theorem Fr.trans {C : List Addr} {H H1 H2 : Hp} (a : Fr C H H1) (b : Fr C H1 H2) : Fr C H H2 := fun x o h e => b x o h (a x o h e)
theorem fr_same {C : List Addr} {H H' : Hp} (s : Same H H') : Fr C H H' := fun a o _ e => s a o e
theorem fr_upd {C : List Addr} {H : Hp} {a : Addr} {o : HO} (h : a ∈ C) : Fr C H (upd H a o) := fun b u hb e => by
  rw [upd_ne (fun q : b = a => hb (by rw [q]; exact h))]; exact e
theorem Fr.sub {C C' : List Addr} {H H' : Hp} (f : Fr C H H') (s : ∀ a ∈ C, a ∈ C') : Fr C' H H' := fun a o h e => f a o (fun q => h (s a q)) e
theorem Fr.keep {C M : List Addr} {H H' : Hp} (f : Fr C H H') (s : ∀ a ∈ C, a ∈ M) : Keep M H H' := keep_of fun a o h e => f a o (fun q => h (s a q)) e
/-- R goes with what stands at C -/
def Tr (C : List Addr) (H' : Hp) (R : Hp → Prop) : Prop := ∀ H1 H2, R H1 → (∀ a, a ∉ C → H1 a = H2 a) → (∀ a ∈ C, H2 a = H' a) → R H2
theorem Tr.and {C : List Addr} {H' : Hp} {R R' : Hp → Prop} (a : Tr C H' R) (b : Tr C H' R') : Tr C H' (fun H => R H ∧ R' H) := fun H1 H2 ⟨h1, h2⟩ e f => ⟨a H1 H2 h1 e f, b H1 H2 h2 e f⟩
theorem Tr.keep {C M : List Addr} {H' : Hp} {G : Hp → Prop} (s : ∀ a ∈ C, a ∈ M) (h : ∀ H1 H2, Keep M H1 H2 → G H1 → G H2) : Tr C H' G := fun H1 H2 g e _ => h H1 H2 (keep_of fun a o ha q => by rw [← e a (fun z => ha (s a z))]; exact q) g
section
variable {M C : List Addr} {L : Own} {R : Hp → Prop} {ρ : Rho} {σ : St} {H H' : Hp}
theorem Sto.call (S : Sto M L R ρ σ H) (cm : ∀ a ∈ C, a ∈ M) (cl : ∀ a ∈ C, a ∉ L.map (·.1)) (f : Fr C H H') (al : ∀ a ∈ C, H' a ≠ none) (tr : Tr C H' R) : Sto M L R ρ σ H' where
  al := fun a ha => by
    by_cases h : a ∈ C
    · exact al a h
    · cases e : H a with
      | none => exact absurd e (S.al a ha)
      | some o => rw [f a o h e]; simp
  lm := S.lm
  nd := S.nd
  own := fun p hp => by
    obtain ⟨vs, h1, h2⟩ := S.own p hp
    exact ⟨vs, f _ _ (fun q => cl _ q (List.mem_map_of_mem hp)) h1, dpAll_same (f.keep cm) h2⟩
  r := fun H2 p2 => by
    -- H2 with the old things at C
    have hR : R (fun a => if a ∈ C then H a else H2 a) := S.r _ fun a o ha e => by
      by_cases h : a ∈ C
      · show (if a ∈ C then H a else H2 a) = some o
        rw [if_pos h]; exact e
      · show (if a ∈ C then H a else H2 a) = some o
        rw [if_neg h]
        exact p2 a o ha (f a o h e)
    refine tr _ H2 hR (fun a ha => if_neg ha) fun a ha => ?_
    cases e : H' a with
    | none => exact absurd e (al a ha)
    | some o => exact p2 a o (cl a ha) e
  len := S.len
  b := fun i b hb => by
    obtain ⟨v, h1, h2⟩ := S.b i b hb
    exact ⟨v, h1, h2.keep (f.keep cm)⟩
end

/-! ### the table of what was found of states -/
def StateOk (N b : Nat) (t : List Int) : Prop := t.length = N ∧ ∀ x ∈ t, -1 ≤ x ∧ x ≤ (b : Int)
def allSt (b : Nat) : Nat → List (List Int)
  | 0 => [[]]
  | n + 1 => (allSt b n).flatMap fun t => (List.range (b + 2)).map fun i : Nat => ((i : Int) - 1) :: t
theorem allSt_len (b : Nat) : ∀ n, (allSt b n).length = (b + 2) ^ n
  | 0 => rfl
  | n + 1 => by
    show ((allSt b n).flatMap fun t => (List.range (b + 2)).map fun i : Nat => ((i : Int) - 1) :: t).length = _
    rw [List.length_flatMap]
    have : ((allSt b n).map fun t => ((List.range (b + 2)).map fun i : Nat => ((i : Int) - 1) :: t).length) = List.replicate (allSt b n).length (b + 2) := by
      rw [List.eq_replicate_iff]
      refine ⟨by simp, fun x hx => ?_⟩
      obtain ⟨t, _, rfl⟩ := List.mem_map.mp hx
      simp
    rw [this, List.sum_replicate_nat, allSt_len b n, Nat.pow_succ]
theorem mem_allSt {b : Nat} : ∀ {n : Nat} {t : List Int}, StateOk n b t → t ∈ allSt b n
  | 0, t, ⟨h, _⟩ => by
    have : t = [] := List.eq_nil_of_length_eq_zero h
    subst this
    simp [allSt]
  | n + 1, [], ⟨h, _⟩ => by simp at h
  | n + 1, x :: t, ⟨h, k⟩ => by
    show _ ∈ (allSt b n).flatMap _
    rw [List.mem_flatMap]
    refine ⟨t, mem_allSt ⟨by simpa using h, fun y hy => k y (List.mem_cons_of_mem _ hy)⟩, ?_⟩
    rw [List.mem_map]
    have := k x List.mem_cons_self
    refine ⟨(x + 1).toNat, List.mem_range.mpr (by omega), ?_⟩
    congr 1
    omega
abbrev keyS (t : List Int) : List Key := t.map Sum.inl
theorem keyS_inj {t u : List Int} (h : keyS t = keyS u) : t = u := by
  have : (t.map (Sum.inl : Int → Key)) = u.map Sum.inl := h
  exact (List.map_inj_right (fun a b e => Sum.inl.inj e)).mp this
theorem keyS_kV (t : List Int) : (keyS t).map kV = t.map V.int := by rw [List.map_map]; rfl
structure Memo (rows : List (Nat × List Nat)) (N b : Nat) (kvs : List (List Key × V)) : Prop where
  nd : (kvs.map (·.1)).Nodup
  ok : ∀ p ∈ kvs, ∃ t, StateOk N b t ∧ p.1 = keyS t ∧ p.2 = .int (FbM.value rows t)
theorem pigeon {α : Type} [DecidableEq α] : ∀ {l r : List α}, l.Nodup → (∀ x ∈ l, x ∈ r) → l.length ≤ r.length := by
  intro l
  induction l with
  | nil => intro r _ _; exact Nat.zero_le _
  | cons a l ih =>
    intro r hn s
    have h' := List.nodup_cons.mp hn
    have ha : a ∈ r := s a List.mem_cons_self
    have i := ih (r := r.erase a) h'.2 fun x hx => by
      have hxa : x ≠ a := fun e => h'.1 (e ▸ hx)
      exact (List.mem_erase_of_ne hxa).mpr (s x (List.mem_cons_of_mem _ hx))
    rw [List.length_erase_of_mem ha] at i
    have : 0 < r.length := List.length_pos_of_mem ha
    simp only [List.length_cons]; omega
theorem Memo.len {rows : List (Nat × List Nat)} {N b : Nat} {kvs : List (List Key × V)} (h : Memo rows N b kvs) : kvs.length ≤ (b + 2) ^ N := by
  have := pigeon (r := (allSt b N).map keyS) h.nd fun x hx => by
    obtain ⟨p, hp, rfl⟩ := List.mem_map.mp hx
    obtain ⟨t, h1, h2, _⟩ := h.ok p hp
    rw [h2]
    exact List.mem_map_of_mem (mem_allSt h1)
  rw [List.length_map, List.length_map, allSt_len] at this
  exact this
theorem memo_nil {rows : List (Nat × List Nat)} {N b : Nat} : Memo rows N b [] := ⟨List.nodup_nil, fun _ h => by cases h⟩
theorem mem_of_valV {κ : Type} [DecidableEq κ] {kvs : List (κ × V)} {k : κ} {v : V} (h : valV kvs k = some v) : (k, v) ∈ kvs := by
  unfold valV at h
  cases e : kvs.find? fun kv => decide (kv.1 = k) with
  | none => rw [e] at h; cases h
  | some p =>
    rw [e] at h
    have h1 := List.find?_some e
    have h2 := List.mem_of_find?_eq_some e
    have h1 : p.1 = k := of_decide_eq_true h1
    have h3 : p.2 = v := Option.some.inj h
    rw [← h1, ← h3]; exact h2
theorem Memo.get {rows : List (Nat × List Nat)} {N b : Nat} {kvs : List (List Key × V)} (h : Memo rows N b kvs) {t : List Int} {v : V} (e : valV kvs (keyS t) = some v) : v = .int (FbM.value rows t) := by
  obtain ⟨u, _, h2, h3⟩ := h.ok _ (mem_of_valV e)
  rw [keyS_inj h2]; exact h3
theorem Memo.put {rows : List (Nat × List Nat)} {N b : Nat} {kvs : List (List Key × V)} (h : Memo rows N b kvs) {t : List Int} (ht : StateOk N b t) : Memo rows N b (putK kvs (keyS t) (.int (FbM.value rows t))) ∧ valV (putK kvs (keyS t) (.int (FbM.value rows t))) (keyS t) = some (.int (FbM.value rows t)) := by
  constructor
  · cases e : valV kvs (keyS t) with
    | none =>
      refine ⟨nd_putK _ h.nd e, fun p hp => ?_⟩
      rw [putK_new _ e] at hp
      rcases List.mem_append.mp hp with q | q
      · exact h.ok p q
      · simp at q; subst q; exact ⟨t, ht, rfl, rfl⟩
    | some v =>
      have a : (kvs.any fun kv => decide (kv.1 = keyS t)) = true := by rw [valV_any, e]; rfl
      unfold putK
      rw [if_pos a]
      refine ⟨?_, fun p hp => ?_⟩
      · have : (kvs.map fun kv => if kv.1 = keyS t then (kv.1, V.int (FbM.value rows t)) else kv).map (·.1) = kvs.map (·.1) := by
          rw [List.map_map]
          apply List.map_congr_left
          intro kv _
          show (if kv.1 = keyS t then (kv.1, V.int (FbM.value rows t)) else kv).1 = kv.1
          split <;> rfl
        rw [this]; exact h.nd
      · obtain ⟨kv, hkv, rfl⟩ := List.mem_map.mp hp
        by_cases q : kv.1 = keyS t
        · rw [if_pos q]; exact ⟨t, ht, q, rfl⟩
        · rw [if_neg q]; exact h.ok kv hkv
  · rw [valV_put, if_pos rfl]
/-- the table stands at kd -/
def Kd (rows : List (Nat × List Nat)) (N b : Nat) (kd : Addr) (H : Hp) : Prop := ∃ kvs, H kd = some (.dT kvs) ∧ Memo rows N b kvs
theorem Kd.at {rows : List (Nat × List Nat)} {N b : Nat} {kd : Addr} {H H' : Hp} (h : Kd rows N b kd H) (e : H' kd = H kd) : Kd rows N b kd H' := by
  obtain ⟨kvs, h1, h2⟩ := h
  exact ⟨kvs, e.trans h1, h2⟩
theorem Kd.some {rows : List (Nat × List Nat)} {N b : Nat} {kd : Addr} {H : Hp} (h : Kd rows N b kd H) : H kd ≠ none := by
  obtain ⟨kvs, h1, _⟩ := h
  rw [h1]; simp
theorem tr_kd {rows : List (Nat × List Nat)} {N b : Nat} {kd : Addr} {H' : Hp} (h : Kd rows N b kd H') : Tr [kd] H' (Kd rows N b kd) := fun H1 H2 _ _ f => h.at (f kd (by simp))
theorem tr_fr {C : List Addr} {H0 H' : Hp} : Tr C H' (Fr C H0) := fun H1 H2 h e _ a o ha q => by
  rw [← e a ha]; exact h a o ha q
end Fb
namespace Fb
open PySem PySem.Spec PyProof.Rows L2
/-! t * 1 is t itself -/
theorem tuple_mul1W (l : Addr) (items : Array Value) (n : Nat) (dd : Option Addr) (sl : Array (Option Value)) (u : Tok) :
    Meets (Builtin.«tuple.__mul__» ⟨[.ref l, .int 1 u], []⟩) (fun _ R s => s.heap.get? l = some { cls := .type "tuple", dict := dd, data := .seq items n, slots := sl } ∧
      R (.ok (.ret (Value.ref l))) s) :=
  .of_wp fun prog w A R s h => by
    obtain ⟨hp, g, d, tk, os⟩ := s
    obtain ⟨hl, h⟩ := h
    have f1 := AutoSeq1.idx_int
    have c0 : (decide ((1 : Int) < -(2 ^ 63)) || decide ((1 : Int) ≥ 2 ^ 63)) = false := by decide
    have c1 : (items.isEmpty || (1 : Int) == 1) = true := by simp
    wp_walk using wpAny_loadPart' hl
    repeat (first
      | (refine wpAny_ite_false (decide_eq_false (by rw [c0]; exact Bool.false_ne_true)) ?_; wp_walk using wpAny_loadPart' hl)
      | (refine wpAny_ite_true (decide_eq_true (by rw [c1])) ?_; wp_walk using wpAny_loadPart' hl))
    exact ⟨_, rfl, h⟩
section
variable {X : Cx} {M : List Addr}
theorem op_repT1 : OpR X (binaryOp .Mult) (fun x y H Q => ∃ l xs, x = .ref l ∧ y = .int 1 ∧ SqT X.K H l xs ∧ Q (.ref l) H) := by
  intro pins s σ H x y v u Q I rx ry h
  obtain ⟨l, xs, rfl, rfl, hT, q⟩ := h
  cases rx
  obtain ⟨t, rfl⟩ := ry
  obtain ⟨its, r, ⟨⟨cls, dd, data, sl⟩, ho, hc, n, hd⟩, hs⟩ := I.tuple hT
  simp only at hc hd
  subst hc hd
  refine wpAny_binaryOp_repeat_ref (T := "tuple") (U := "int") (by decide) ⟨_, ho, rfl⟩ (fun s' => typeIs_int s' 1 t) noFill_tuple_mul F.fills_int_mul F.slot_int_rmul repeat_tuple F.slot_int_index.lookup
    (call_meets F.slot_int_rmul (typeIs_int s 1 t) F.entry_int_rmul (F.args_int_rmul_2 _ _) (int_rmul_tuple 1 t l its.toArray n dd sl)
      ⟨ho, rfl, ⟨_, ho, rfl⟩, call_meets F.slot_tuple_mul ⟨_, ho, rfl⟩ F.entry_tuple_mul (F.args_tuple_mul_2 _ _) (tuple_mul1W l its.toArray n dd sl t) ⟨ho, ?_⟩⟩)
  exact ⟨.ref l, H, I, rfl, q⟩
theorem bd_mulT {xs : List PyData} {n : Nat} (h1 : 1 ≤ n) (h2 : n ≤ 1000) (hne : xs ≠ []) (hl : xs.length ≤ 1000) : BinD X (binaryOp .Mult) M (.tuple xs) (iN n) (.tuple (List.replicate n xs).flatten) := by
  by_cases e : n = 1
  · subst e
    refine ⟨_, op_repT1, fun x y H al d1 d2 Q q => ?_⟩
    cases d1 with
    | tup e1 a1 =>
      cases d2
      refine ⟨_, _, rfl, rfl, .inl (.inl (hide_some e1).2), q _ H (Same.refl _) ?_⟩
      have e : (List.replicate 1 xs).flatten = xs := by simp
      rw [e]
      exact .tup e1 a1
  · refine ⟨_, op_repT, fun x y H al d1 d2 Q q => ?_⟩
    cases d1 with
    | @tup a vs _ e1 a1 =>
      cases d2
      refine ⟨_, (n : Int), vs, rfl, rfl, .inl (.inl (hide_some e1).2), fun z => ?_, by omega, by omega, by rw [a1.len]; exact hl, fun p np => ?_⟩
      · subst z
        cases a1
        exact hne rfl
      · rw [Int.toNat_natCast]
        exact q _ _ (same_new np) (.tup (new_dat al np) (dpAll_same (same_keep (same_new np)) (DtAll.rep a1 _)))
end
end Fb
namespace Fb
open PySem L2
/-! ### how things are laid out -/
def nameS (k : Nat) : Str := ⟨#[118, 97 + k]⟩
abbrev makeD (P : List (List Nat)) (k : Nat) : PyData := .tuple [.str (nameS k), tN (P.getD k [])]
abbrev makesD (P : List (List Nat)) : PyData := .tuple ((List.range P.length).map (makeD P))
abbrev histD (P : List (List Nat)) : PyData := .tuple [.str "history", makesD P]
section
variable {Pg : Program} {w : World} {K : PySem.W.Frag} {mg : Str → Option Value} {base : Heap}
def dTestable (ds : List PyData) (d : PyData) : Prop := ∃ (P : List (List Nat)) (S : List Nat), P.length ≤ 24 ∧ ds = [histD P, tN S] ∧ d = lN (FbM.testable P.length S)
theorem ok_testable (T : Txt K mg) : Cal Pg w K mg base 1 "testable" (spP dTestable) := by
  refine pure_of (df_testable T) T.g_testable (fun ds d ⟨_, _, _, e, _⟩ => by rw [e]; rfl) fun cdv A outer s H E hr M R ds d D hd O => ?_
  obtain ⟨P, S, hP, rfl, rfl⟩ := hd
  refine go_ret (elc1 2 (l := List.range P.length) (enc := iN) (N := N_testable) (sc := defScope s_testable) (fun m => decide (m ∉ S)) iN sc_testable.nd (by decide +kernel)
    (ei_range (elenT T.z_len (eix (en 0) ec_int (ix_t (i := 1) rfl))) T.z_range (by omega))
    (fun _ _ _ _ _ _ _ m _ => ets_one (ET.cast (tcmp (en 2) (en 1) bd_notInTN) (by simp))) (fun _ _ _ _ _ _ _ m _ _ => en 2) (by simp; omega)) O.rt
end
end Fb
namespace Fb
open PySem L2
theorem makes_get {P : List (List Nat)} {k : Nat} (h : k < P.length) : ((List.range P.length).map (makeD P))[k]? = some (makeD P k) := by
  rw [List.getElem?_map, List.getElem?_range h]; rfl
theorem range_get {n i x : Nat} (h : (List.range n)[i]? = some x) : i = x ∧ x < n := by
  obtain ⟨h1, h2⟩ := List.getElem?_eq_some_iff.mp h
  rw [List.getElem_range] at h2
  rw [List.length_range] at h1
  omega
theorem perm_cast {l : List Int} {ns : List Nat} (p : l.Perm (ns.map fun n : Nat => (n : Int))) : ∃ ms : List Nat, l = ms.map (fun n : Nat => (n : Int)) ∧ ms.Perm ns := by
  refine ⟨l.map Int.toNat, ?_, ?_⟩
  · rw [List.map_map]
    have : ∀ x ∈ l, ((fun n : Nat => (n : Int)) ∘ Int.toNat) x = id x := fun x hx => by
      obtain ⟨n, _, rfl⟩ := List.mem_map.mp (p.mem_iff.mp hx)
      simp
    rw [List.map_congr_left this, List.map_id]
  · have := p.map Int.toNat
    rw [List.map_map] at this
    have e : ns.map (Int.toNat ∘ fun n : Nat => (n : Int)) = ns := by
      have : ∀ x ∈ ns, (Int.toNat ∘ fun n : Nat => (n : Int)) x = id x := fun x _ => by simp
      rw [List.map_congr_left this, List.map_id]
    rwa [e] at this
theorem pw_cast {ms : List Nat} (h : (ms.map fun n : Nat => (n : Int)).Pairwise (· ≤ ·)) : ms.Pairwise (· ≤ ·) := by
  rw [List.pairwise_map] at h
  exact h.imp fun h => by omega
section
variable {Pg : Program} {w : World} {K : PySem.W.Frag} {mg : Str → Option Value} {base : Heap}
def dAnc (ds : List PyData) (d : PyData) : Prop := ∃ (P : List (List Nat)) (m : Nat), FbM.HV P ∧ m < P.length ∧ ds = [histD P, iN m] ∧ d = tN (FbM.anc P m)
theorem ok_ancestors (T : Txt K mg) : Cal Pg w K mg base 1 "ancestors" (spP dAnc) := by
  refine pure_of (df_ancestors T) T.g_ancestors (fun ds d ⟨_, _, _, _, e, _⟩ => by rw [e]; rfl) fun cdv A outer s H E hr M R ds d D hd O => ?_
  obtain ⟨P, m, hV, hm, rfl, rfl⟩ := hd
  have hP := hV.le
  refine go_new 2 sc_ancestors.nd (ea_cons (en 1) ea_nil) (fun a => ?_)
  refine go_for (l := List.range (m + 1)) (enc := fun i => iN (m - i)) (fun _ => [some (.d (histD P)), some (.d (iN m)), some (.a (.ref a)), none, none]) (fun i => [(a, (FbM.aboveI P m i).map iN)])
    (fun _ x => [some (.d (histD P)), some (.d (iN m)), some (.a (.ref a)), some (.d (iN (m - x))), none]) (js := [3]) PassesOwn.never rfl
    (ei_down (en 1) (eneg ec_int) (eneg ec_int) T.z_range (by omega)) (fun σ H S => S) (fun G i x _ => eg_name 3 sc_ancestors.nd) (fun G hG i x hx => ?_) ?_
  · obtain ⟨rfl, hx⟩ := range_get hx
    refine go_if (tcmp_own 2 0 (en 3) bd_inLN) (fun hb => ?_) (fun hb => ?_)
    · have hb := of_decide_eq_true hb
      refine go_for (l := P.getD (m - i) []) (enc := iN) (fun _ => [some (.d (histD P)), some (.d (iN m)), some (.a (.ref a)), some (.d (iN (m - i))), none]) (fun t => [(a, (FbM.addNew (FbM.aboveI P m i) ((P.getD (m - i) []).take t)).map iN)])
        (fun _ y => [some (.d (histD P)), some (.d (iN m)), some (.a (.ref a)), some (.d (iN (m - i))), some (.d (iN y))]) (js := [4]) PassesOwn.never rfl
        (ei_tup (eix (eix (eix (en 0) ec_int (ix_t (i := 1) rfl)) (en 3) (ix_t (makes_get (by omega)))) ec_int (ix_t (i := 1) rfl))) (fun σ H S => S) (fun G i x _ => eg_name 4 sc_ancestors.nd) (fun G' hG' t y hy => ?_) ?_
      · have e : FbM.addNew (FbM.aboveI P m i) ((P.getD (m - i) []).take (t + 1)) = (if y ∈ FbM.addNew (FbM.aboveI P m i) ((P.getD (m - i) []).take t) then FbM.addNew (FbM.aboveI P m i) ((P.getD (m - i) []).take t) else FbM.addNew (FbM.aboveI P m i) ((P.getD (m - i) []).take t) ++ [y]) := by
          rw [List.take_add_one, hy]
          unfold FbM.addNew
          rw [List.foldl_append]; rfl
        have hlen : (FbM.addNew (FbM.aboveI P m i) ((P.getD (m - i) []).take t)).length < 100 := by
          have h1 := FbM.nodup_addNew ((P.getD (m - i) []).take t) _ (FbM.aboveI_nodup P m i)
          have h2 := FbM.len_le_of_sub (r := List.range (m + 1)) h1 fun x hx => by
            rcases (FbM.mem_addNew _ _ _).mp hx with h | h
            · exact List.mem_range.mpr (by have := FbM.aboveI_le P hV m i x h; omega)
            · exact List.mem_range.mpr (by have := hV.lt _ _ (List.mem_of_mem_take h); omega)
          rw [List.length_range] at h2
          omega
        refine go_if (tcmp_own 2 0 (en 4) bd_notInLN) (fun hb => ?_) (fun hb => ?_)
        · have hb : y ∉ FbM.addNew (FbM.aboveI P m i) ((P.getD (m - i) []).take t) := by simpa using hb
          refine go_app 2 0 (en 4) (go_end (go_nil fun σ H S => ?_)) (hl := by rw [List.length_map]; omega)
          rw [if_neg hb] at e
          rw [e, List.map_append]
          exact S.less ⟨rfl, rfl, rfl, rfl, trivial⟩
        · have hb : y ∈ FbM.addNew (FbM.aboveI P m i) ((P.getD (m - i) []).take t) := by simpa using hb
          refine go_end (go_nil fun σ H S => ?_)
          rw [if_pos hb] at e
          rw [e]
          exact S.less ⟨rfl, rfl, rfl, rfl, trivial⟩
      · refine go_end (go_nil fun σ H S => ?_)
        rw [List.take_length] at S
        rw [FbM.aboveI_succ]
        unfold FbM.aboveStep
        rw [if_pos hb]
        exact S.less ⟨rfl, rfl, rfl, trivial⟩
    · have hb := of_decide_eq_false hb
      refine go_end (go_nil fun σ H S => ?_)
      rw [FbM.aboveI_succ]
      unfold FbM.aboveStep
      rw [if_neg hb]
      exact S.less ⟨rfl, rfl, rfl, trivial⟩
  · rw [List.length_range]
    refine go_ret (etupL T.z_tuple (ED.cast (ecallB_own 2 0 (own_sorted (ns := (FbM.above P m).map fun n : Nat => (n : Int)) (ms := (FbM.anc P m).map fun n : Nat => (n : Int)) ?_ fun l hp hs => ?_) T.z_sorted (hL := ?_)) (lN_eq _).symm)) O.rt1
    · rw [List.length_map]
      have := FbM.aboveI_length hV m (m + 1)
      unfold FbM.above
      omega
    · obtain ⟨ms, rfl, hp'⟩ := perm_cast hp
      rw [FbM.anc_of_perm hV hp' (pw_cast hs)]
    · rw [← iN_map]; rfl
end
end Fb
namespace Fb
open PySem L2
open FbM (HV anc br testable)
theorem br_anc {P : List (List Nat)} (V : HV P) (c m : Nat) : decide (c ∈ anc P m) = br P c m := by
  cases h : br P c m with
  | true => exact decide_eq_true ((FbM.mem_anc V).mpr h)
  | false => exact decide_eq_false fun q => by rw [(FbM.mem_anc V).mp q] at h; cases h
theorem clsI_len (mk : Nat → List Bool) : ∀ i, (FbM.clsI mk i).2.length ≤ i
  | 0 => Nat.le_refl _
  | i + 1 => by
    rw [FbM.clsI_succ]
    have := clsI_len mk i
    unfold FbM.clsStep
    split
    · rw [List.length_set]; omega
    · rw [List.length_append]; simp; omega
section
variable {Pg : Program} {w : World} {K : PySem.W.Frag} {mg : Str → Option Value} {base : Heap}
def dClasses (ds : List PyData) (d : PyData) : Prop := ∃ (P : List (List Nat)) (S : List Nat), HV P ∧ ds = [histD P, tN S] ∧ d = .tuple ((FbM.cls P S).map tN)
theorem ok_classes (T : Txt K mg) : Cal Pg w K mg base 2 "classes" (spP dClasses) := by
  refine pure_of (df_classes T) T.g_classes (fun ds d ⟨_, _, _, e, _⟩ => by rw [e]; rfl) fun cdv A outer s H E hr M R ds d D hd O => ?_
  obtain ⟨P, S, hV, rfl, rfl⟩ := hd
  have hP := hV.le
  have hT : (testable P.length S).length ≤ 24 := by
    have := List.length_filter_le (fun m => decide (m ∉ S)) (List.range P.length)
    rw [List.length_range] at this
    unfold FbM.testable; omega
  refine go_setLcM 3 2 (l := testable P.length S) (enc := iN) (N := N_classes) (sc := defScope s_classes) (fun m => tN (anc P m)) sc_classes.nd (by decide +kernel)
    (ei_list (ecall (ok_testable T) hr (ea_cons (en 0) (ea_cons (en 1) ea_nil)) ⟨P, S, hP, rfl, rfl⟩))
    (fun _ _ _ _ _ _ _ m hm => ecall (ok_ancestors T) hr (ea_cons (en 0) (ea_cons (en 2) ea_nil)) ⟨P, m, hV, (FbM.mem_testable.mp hm).1, rfl, rfl⟩) (by omega) rfl ?_
  refine go_new 4 sc_classes.nd ea_nil fun a1 => ?_
  refine go_new 5 sc_classes.nd ea_nil fun a2 => ?_
  refine go_for (l := List.range P.length) (enc := iN) (fun _ => [some (.d (histD P)), some (.d (tN S)), none, some (.d (.list ((testable P.length S).map fun m => tN (anc P m)))), some (.a (.ref a1)), some (.a (.ref a2)), none, none, none, none])
    (fun i => [(a2, (FbM.clsI (FbM.mk P S) i).2.map tN), (a1, (FbM.clsI (FbM.mk P S) i).1.map lB)])
    (fun _ c => [some (.d (histD P)), some (.d (tN S)), none, some (.d (.list ((testable P.length S).map fun m => tN (anc P m)))), some (.a (.ref a1)), some (.a (.ref a2)), some (.d (iN c)), none, none, none]) (js := [6]) PassesOwn.never rfl
    (ei_range (elenT T.z_len (eix (en 0) ec_int (ix_t (i := 1) rfl))) T.z_range (by omega)) (fun σ H S => S.less ⟨rfl, rfl, rfl, rfl, rfl, trivial⟩) (fun G i x _ => eg_name 6 sc_classes.nd) (fun G hG i c hc => ?_) ?_
  · obtain ⟨rfl, hi⟩ := range_get hc
    have I := FbM.clsInv (FbM.mk P S) i
    have hlen := clsI_len (FbM.mk P S) i
    have hlen1 : (FbM.clsI (FbM.mk P S) i).1.length = (FbM.clsI (FbM.mk P S) i).2.length := I.len
    refine go_setLcM 8 7 (l := testable P.length S) (enc := fun m => tN (anc P m)) (N := N_classes) (sc := defScope s_classes) (d := lB (FbM.mk P S i)) (fun m => .bool (br P i m)) sc_classes.nd (by decide +kernel)
      (ei_list (en 3)) (fun _ _ _ _ _ _ _ m hm => ED.cast (ecmp (en 6) (en 7) bd_inTN) (by rw [br_anc hV])) (by omega) (by rw [lB, FbM.mk, FbM.mark, List.map_map]; rfl) ?_
    refine go_if (tcmp_own 4 1 (en 8) (bd_in_llB hr)) (fun hb => ?_) (fun hb => ?_)
    · have hb := of_decide_eq_true hb
      have hj : (FbM.clsI (FbM.mk P S) i).1.idxOf (FbM.mk P S i) < (FbM.clsI (FbM.mk P S) i).1.length := List.idxOf_lt_length_of_mem hb
      have hg : (FbM.clsI (FbM.mk P S) i).1[(FbM.clsI (FbM.mk P S) i).1.idxOf (FbM.mk P S i)] = FbM.mk P S i := List.getElem_idxOf hj
      obtain ⟨r, hrow, hrl⟩ : ∃ r : List Nat, (FbM.clsI (FbM.mk P S) i).2[(FbM.clsI (FbM.mk P S) i).1.idxOf (FbM.mk P S i)]? = some r ∧ r.length ≤ i := ⟨_, I.row _ hj, by
        have := List.length_filter_le (fun c => decide (FbM.mk P S c = (FbM.clsI (FbM.mk P S) i).1[(FbM.clsI (FbM.mk P S) i).1.idxOf (FbM.mk P S i)])) (List.range i)
        rw [List.length_range] at this
        exact this⟩
      refine go_set 9 sc_classes.nd (eindex_own (n := (FbM.clsI (FbM.mk P S) i).1.idxOf (FbM.mk P S i)) 4 1 hr (en 8) (sh_llB _).shaped (sh_lB _).shaped (by rw [List.getElem?_map, List.getElem?_eq_getElem hj]; rfl) ?_ ?_) ?_
      · rw [eqv_lB, hg]; simp
      · intro m z hm hz
        rw [List.getElem?_map, List.getElem?_eq_getElem (by omega)] at hz
        have hz := (Option.some.inj hz).symm
        subst hz
        rw [eqv_lB]
        refine decide_eq_false fun q => ?_
        have h1 : (FbM.clsI (FbM.mk P S) i).1[m] = (FbM.clsI (FbM.mk P S) i).1[(FbM.clsI (FbM.mk P S) i).1.idxOf (FbM.mk P S i)] := q.trans hg.symm
        have := (List.getElem_inj I.nd).mp h1
        omega
      · refine go_put 5 0 (k := (FbM.clsI (FbM.mk P S) i).1.idxOf (FbM.mk P S i)) (eb (eix_own (d := tN r) 5 0 (en 9) ?_) (etup (ea_cons (en 6) ea_nil)) (bd_addT ?_)) (en 9) ?_ (go_end (go_nil fun σ H W => ?_))
        · rw [List.getElem?_map, hrow]; rfl
        · rw [List.length_map]
          simp only [List.length_cons, List.length_nil]
          omega
        · rw [List.length_map]; omega
        · rw [FbM.clsI_succ]
          unfold FbM.clsStep
          rw [if_pos hb, List.map_set, List.getD_eq_getElem?_getD, hrow]
          have e : tN ((some r).getD [] ++ [i]) = .tuple (List.map iN r ++ [iN i]) := by
            rw [Option.getD_some, tN, List.map_append]; rfl
          rw [e]
          exact W.less ⟨rfl, rfl, rfl, rfl, rfl, trivial⟩
    · have hb := of_decide_eq_false hb
      refine go_app 4 1 (en 8) (go_app 5 0 (etup (ea_cons (en 6) ea_nil)) (go_end (go_nil fun σ H W => ?_)) (hl := ?_)) (hl := ?_)
      · rw [FbM.clsI_succ]
        unfold FbM.clsStep
        rw [if_neg hb, List.map_append, List.map_append]
        exact W.less ⟨rfl, rfl, rfl, rfl, rfl, trivial⟩
      · rw [List.length_map]; omega
      · rw [List.length_map]; omega
  · rw [List.length_range]
    exact go_ret (ecallT_own 5 0 own_tup T.z_tuple) O.rt2
end
end Fb
namespace Fb
open PySem L2
open FbM (HV anc br testable cls hd rowBy sB sW low notIn ones isUse inRow)
theorem map_get {α : Type} {f : α → PyData} {l : List α} {i : Nat} {x : α} (h : l[i]? = some x) : (l.map f)[i]? = some (f x) := by
  rw [List.getElem?_map, h]; rfl
theorem getD_get {α : Type} {l : List α} {i : Nat} {d : α} (h : i < l.length) : l[i]? = some (l.getD i d) := by
  rw [List.getD_eq_getElem?_getD, List.getElem?_eq_getElem h]; rfl
section
variable {Pg : Program} {w : World} {K : PySem.W.Frag} {mg : Str → Option Value} {base : Heap}
/-! ### broken_by -/
def dBrokenBy (ds : List PyData) (d : PyData) : Prop := ∃ (P F : List (List Nat)) (m : Nat), HV P ∧ m < P.length ∧ F.length ≤ 24 ∧ (∀ r ∈ F, r ≠ []) ∧ ds = [histD P, .tuple (F.map tN), iN m] ∧ d = lN (rowBy P F m)
theorem ok_broken_by (T : Txt K mg) : Cal Pg w K mg base 2 "broken_by" (spP dBrokenBy) := by
  refine pure_of (df_broken_by T) T.g_broken_by (fun ds d ⟨_, _, _, _, _, _, _, e, _⟩ => by rw [e]; rfl) fun cdv A outer s H E hr M R ds d D hd O => ?_
  obtain ⟨P, F, m, hV, hm, hF, hne, rfl, rfl⟩ := hd
  refine go_set 3 sc_broken_by.nd (ecall (ok_ancestors T) hr (ea_cons (en 0) (ea_cons (en 2) ea_nil)) ⟨P, m, hV, hm, rfl, rfl⟩) ?_
  refine go_ret (elc1 4 (l := List.range F.length) (enc := iN) (N := N_broken_by) (sc := defScope s_broken_by) (fun k => br P (FbM.hd F k) m) iN sc_broken_by.nd (by decide +kernel)
    (ei_range (elenT T.z_len (en 1)) T.z_range (by omega)) (fun _ _ _ _ _ _ _ k hk => ?_) (fun _ _ _ _ _ _ _ k _ _ => en 4) (by simp; omega)) O.rt
  have hk := List.mem_range.mp hk
  have hg : F[k]? = some (F.getD k []) := getD_get hk
  have hh : (F.getD k [])[0]? = some (FbM.hd F k) := by
    have := hne (F.getD k []) (List.mem_of_getElem? hg)
    unfold FbM.hd
    cases h : F.getD k [] with
    | nil => exact absurd h this
    | cons a t => rfl
  exact ets_one (ET.cast (tcmp (eix (eix (en 1) (en 4) (ix_t (map_get hg))) ec_int (ix_t (i := 0) (map_get hh))) (en 3) bd_inTN) (br_anc hV _ _))
/-! ### tests -/
theorem cls_ne {P : List (List Nat)} {S : List Nat} : ∀ r ∈ cls P S, r ≠ [] := (FbM.cls_inv P S).ne
def dTests (ds : List PyData) (d : PyData) : Prop := ∃ (P : List (List Nat)) (S : List Nat), HV P ∧ ds = [histD P, tN S] ∧ d = tN (FbM.tests P S)
theorem testsI_len (rw : Nat → List Nat) (N : Nat) (T : List Nat) : ∀ i, (FbM.testsI rw N T i).1.length ≤ i ∧ (FbM.testsI rw N T i).2.length ≤ i
  | 0 => ⟨Nat.le_refl _, Nat.le_refl _⟩
  | i + 1 => by
    have ih := testsI_len rw N T i
    cases h : T[i]? with
    | none =>
      have e : FbM.testsI rw N T (i + 1) = FbM.testsI rw N T i := by
        unfold FbM.testsI
        rw [List.take_add_one, h]; simp
      rw [e]; omega
    | some m =>
      rw [FbM.testsI_succ rw N T i h]
      unfold FbM.testStep
      split
      · simp; omega
      · omega
theorem ok_tests (T : Txt K mg) : Cal Pg w K mg base 3 "tests" (spP dTests) := by
  refine pure_of (df_tests T) T.g_tests (fun ds d ⟨_, _, _, e, _⟩ => by rw [e]; rfl) fun cdv A outer s H E hr M R ds d D hd O => ?_
  obtain ⟨P, S, hV, rfl, rfl⟩ := hd
  have hP := hV.le
  have hC := FbM.cls_le (P := P) (S := S)
  have hT : (testable P.length S).length ≤ 24 := by
    have := List.length_filter_le (fun m => decide (m ∉ S)) (List.range P.length)
    rw [List.length_range] at this
    unfold FbM.testable; omega
  refine go_set 2 sc_tests.nd (ecall (ok_classes T) hr (ea_cons (en 0) (ea_cons (en 1) ea_nil)) ⟨P, S, hV, rfl, rfl⟩) ?_
  refine go_new 3 sc_tests.nd ea_nil fun a1 => ?_
  refine go_new 4 sc_tests.nd ea_nil fun a2 => ?_
  refine go_for (l := testable P.length S) (enc := iN) (fun _ => [some (.d (histD P)), some (.d (tN S)), some (.d (.tuple ((cls P S).map tN))), some (.a (.ref a1)), some (.a (.ref a2)), none, none])
    (fun i => [(a2, (FbM.testsI (rowBy P (cls P S)) (cls P S).length (testable P.length S) i).2.map iN), (a1, (FbM.testsI (rowBy P (cls P S)) (cls P S).length (testable P.length S) i).1.map lN)])
    (fun _ m => [some (.d (histD P)), some (.d (tN S)), some (.d (.tuple ((cls P S).map tN))), some (.a (.ref a1)), some (.a (.ref a2)), some (.d (iN m)), none]) (js := [5]) PassesOwn.never rfl
    (ei_list (ecall (ok_testable T) hr (ea_cons (en 0) (ea_cons (en 1) ea_nil)) ⟨P, S, hP, rfl, rfl⟩)) (fun σ H W => W.less ⟨rfl, rfl, rfl, rfl, rfl, trivial⟩) (fun G i x _ => eg_name 5 sc_tests.nd) (fun G hG i m hm => ?_) ?_
  · have hmT : m ∈ testable P.length S := List.mem_of_getElem? hm
    obtain ⟨hl1, hl2⟩ := testsI_len (rowBy P (cls P S)) (cls P S).length (testable P.length S) i
    have hi : i < (testable P.length S).length := (List.getElem?_eq_some_iff.mp hm).1
    refine go_set 6 sc_tests.nd (ecall (ok_broken_by T) hr (ea_cons (en 0) (ea_cons (en 2) (ea_cons (en 5) ea_nil))) ⟨P, cls P S, m, hV, (FbM.mem_testable.mp hmT).1, by omega, cls_ne, rfl, rfl⟩) ?_
    refine go_if (b := decide (0 < (rowBy P (cls P S) m).length ∧ (rowBy P (cls P S) m).length < (cls P S).length ∧ rowBy P (cls P S) m ∉ (FbM.testsI (rowBy P (cls P S)) (cls P S).length (testable P.length S) i).1))
      (ET.cast (tw (wand (tchain ec_int (elenL (n := (rowBy P (cls P S) m).length) T.z_len (en 6)) bd_lt (fun _ => elenT (n := (cls P S).length) T.z_len (en 2)) (fun _ => bd_lt) ⟨_, op_lt⟩) (fun _ => wand1 (tcmp_own 3 1 (en 6) (bd_notIn_llN hr))))) ?_) (fun hb => ?_) (fun hb => ?_)
    · have e1 : decide ((0 : Int) < (((rowBy P (cls P S) m).length : Nat) : Int)) = decide (0 < (rowBy P (cls P S) m).length) := decide_eq_decide.mpr (by omega)
      have e2 : decide ((((rowBy P (cls P S) m).length : Nat) : Int) < (((cls P S).length : Nat) : Int)) = decide ((rowBy P (cls P S) m).length < (cls P S).length) := decide_eq_decide.mpr (by omega)
      rw [e1, e2, ← decide_not, ← Bool.decide_and, ← Bool.decide_and]
      exact decide_eq_decide.mpr and_assoc
    · have hb := of_decide_eq_true hb
      refine go_app 3 1 (en 6) (go_app 4 0 (en 5) (go_end (go_nil fun σ H W => ?_)) (hl := by rw [List.length_map]; omega)) (hl := by rw [List.length_map]; omega)
      rw [FbM.testsI_succ _ _ _ _ hm]
      unfold FbM.testStep
      rw [if_pos hb, List.map_append, List.map_append]
      exact W.less ⟨rfl, rfl, rfl, rfl, rfl, trivial⟩
    · have hb := of_decide_eq_false hb
      refine go_end (go_nil fun σ H W => ?_)
      rw [FbM.testsI_succ _ _ _ _ hm]
      unfold FbM.testStep
      rw [if_neg hb]
      exact W.less ⟨rfl, rfl, rfl, rfl, rfl, trivial⟩
  · exact go_ret (ecallT_own 4 0 own_tup T.z_tuple) O.rt2
/-! ### start -/
def dStart (ds : List PyData) (d : PyData) : Prop := ∃ (P : List (List Nat)) (S : List Nat) (k : Nat), HV P ∧ ds = [histD P, tN S, iN k] ∧ d = tI (List.replicate (cls P S).length (k : Int))
theorem ok_start (T : Txt K mg) : Cal Pg w K mg base 3 "start" (spP dStart) := by
  refine pure_of (df_start T) T.g_start (fun ds d ⟨_, _, _, _, e, _⟩ => by rw [e]; rfl) fun cdv A outer s H E hr M R ds d D hd O => ?_
  obtain ⟨P, S, k, hV, rfl, rfl⟩ := hd
  have hP := hV.le
  have hC := FbM.cls_le (P := P) (S := S)
  have hC1 := FbM.cls_pos (P := P) (S := S) hV
  refine go_ret (ED.cast (eb (etup (ea_cons (en 2) ea_nil)) (elenT (n := (cls P S).length) T.z_len (ecall (ok_classes T) hr (ea_cons (en 0) (ea_cons (en 1) ea_nil)) ⟨P, S, hV, rfl, rfl⟩)) (bd_mulT hC1 (by omega) (by simp) (by simp))) ?_) O.rt
  show PyData.tuple _ = PyData.tuple _
  congr 1
  rw [List.map_replicate]
  induction (cls P S).length with
  | zero => rfl
  | succ n ih => rw [List.replicate_succ, List.flatten_cons, ih, List.replicate_succ]; rfl
/-! ### lowered, against_row, ones_in, is_useful, both_after -/
def dLowered (ds : List PyData) (d : PyData) : Prop := ∃ (t : List Int) (row : List Nat), t.length ≤ 24 ∧ ds = [tI t, lN row] ∧ d = tI (low t row)
theorem ok_lowered (T : Txt K mg) : Cal Pg w K mg base 1 "lowered" (spP dLowered) := by
  refine pure_of (df_lowered T) T.g_lowered (fun ds d ⟨_, _, _, e, _⟩ => by rw [e]; rfl) fun cdv A outer s H E hr M R ds d D hd O => ?_
  obtain ⟨t, row, ht, rfl, rfl⟩ := hd
  refine go_ret (ED.cast (etupL T.z_tuple (elcM 2 (l := List.range t.length) (enc := iN) (N := N_lowered) (sc := defScope s_lowered) (fun k => .int (max (-1) (t.getD k 0 - (if decide (k ∈ row) = true then 1 else 0)))) sc_lowered.nd (by decide +kernel)
    (ei_range (elenT T.z_len (en 0)) T.z_range (by omega)) (fun _ _ _ _ _ _ _ k hk => ?_) (by simp; omega))) ?_) O.rt
  · have hk := List.mem_range.mp hk
    exact ecallB (id := "max") (cd_max2 rfl) T.z_max (ea_cons (eneg ec_int) (ea_cons (eb (eix (en 0) (en 2) (ix_t (map_get (getD_get hk)))) (eintB T.z_int (ecmp (en 2) (en 1) bd_inLN)) bd_sub) ea_nil))
  · show PyData.tuple _ = PyData.tuple _
    unfold FbM.low
    rw [List.map_map]
    congr 1
    apply List.map_congr_left
    intro k _
    by_cases h : k ∈ row <;> simp [h]
def dAgainst (ds : List PyData) (d : PyData) : Prop := ∃ (N : Nat) (row : List Nat) (b : Bool), N ≤ 24 ∧ ds = [iN N, lN row, .str (if b then "works" else "broken")] ∧ d = lN (if b then row else notIn N row)
theorem works_ne : ¬ (("broken" : Str) = "works") := by decide +kernel
theorem ok_against_row (T : Txt K mg) : Cal Pg w K mg base 1 "against_row" (spP dAgainst) := by
  refine pure_of (df_against_row T) T.g_against_row (fun ds d ⟨_, _, _, _, e, _⟩ => by rw [e]; rfl) fun cdv A outer s H E hr M R ds d D hd O => ?_
  obtain ⟨N, row, b, hN, rfl, rfl⟩ := hd
  refine go_if (b := b) (ET.cast (tcmp (en 2) ec_str bd_eqS) ?_) (fun hb => ?_) (fun hb => ?_)
  · cases b
    · exact decide_eq_false works_ne
    · exact decide_eq_true rfl
  · subst hb
    exact go_ret (en 1) O.rt
  · subst hb
    exact go_end (go_ret (elc1 3 (l := List.range N) (enc := iN) (N := N_against_row) (sc := defScope s_against_row) (fun k => decide (k ∉ row)) iN sc_against_row.nd (by decide +kernel)
      (ei_range (en 0) T.z_range (by omega)) (fun _ _ _ _ _ _ _ k hk => ets_one (ET.cast (tcmp (en 3) (en 1) bd_notInLN) (by simp))) (fun _ _ _ _ _ _ _ k _ _ => en 3) (by simp; omega)) O.rt)
def dOnes (ds : List PyData) (d : PyData) : Prop := ∃ (t : List Int), t.length ≤ 24 ∧ ds = [tI t] ∧ d = lN (ones t)
theorem ok_ones_in (T : Txt K mg) : Cal Pg w K mg base 1 "ones_in" (spP dOnes) := by
  refine pure_of (df_ones_in T) T.g_ones_in (fun ds d ⟨_, _, e, _⟩ => by rw [e]; rfl) fun cdv A outer s H E hr M R ds d D hd O => ?_
  obtain ⟨t, ht, rfl, rfl⟩ := hd
  exact go_ret (elc1 1 (l := List.range t.length) (enc := iN) (N := N_ones_in) (sc := defScope s_ones_in) (fun k => decide (0 ≤ t.getD k 0)) iN sc_ones_in.nd (by decide +kernel)
    (ei_range (elenT T.z_len (en 0)) T.z_range (by omega)) (fun _ _ _ _ _ _ _ k hk => ets_one (tcmp (eix (en 0) (en 1) (ix_t (map_get (getD_get (List.mem_range.mp hk))))) ec_int bd_ge)) (fun _ _ _ _ _ _ _ k _ _ => en 1) (by simp; omega)) O.rt
def dUse (ds : List PyData) (d : PyData) : Prop := ∃ (t : List Int) (row : List Nat), t.length ≤ 24 ∧ ds = [tI t, lN row] ∧ d = .bool (isUse t row)
theorem ones_le (t : List Int) : (ones t).length ≤ t.length := by
  have := List.length_filter_le (fun k => decide (0 ≤ t.getD k 0)) (List.range t.length)
  rw [List.length_range] at this
  exact this
theorem ok_is_useful (T : Txt K mg) : Cal Pg w K mg base 2 "is_useful" (spP dUse) := by
  refine pure_of (df_is_useful T) T.g_is_useful (fun ds d ⟨_, _, _, e, _⟩ => by rw [e]; rfl) fun cdv A outer s H E hr M R ds d D hd O => ?_
  obtain ⟨t, row, ht, rfl, rfl⟩ := hd
  have hl := ones_le t
  refine go_set 2 sc_is_useful.nd (ecall (ok_ones_in T) hr (ea_cons (en 0) ea_nil) ⟨t, ht, rfl, rfl⟩) ?_
  refine go_set 4 sc_is_useful.nd (elenL (n := (inRow t row).length) T.z_len (elc1 3 (l := ones t) (enc := iN) (N := N_is_useful) (sc := defScope s_is_useful) (fun k => decide (k ∈ row)) iN sc_is_useful.nd (by decide +kernel)
    (ei_list (en 2)) (fun _ _ _ _ _ _ _ k hk => ets_one (tcmp (en 3) (en 1) bd_inLN)) (fun _ _ _ _ _ _ _ k _ _ => en 3) (by omega)) (by rw [List.length_map]; rfl)) ?_
  refine go_ret (ED.cast (echain ec_int (en 4) bd_lt (fun _ => elenL (n := (ones t).length) T.z_len (en 2)) (fun _ => bd_lt) ⟨_, op_lt⟩) ?_) O.rt
  unfold FbM.isUse
  congr 2 <;> (apply decide_eq_decide.mpr; omega)
def dBoth (ds : List PyData) (d : PyData) : Prop := ∃ (t : List Int) (row : List Nat), t.length ≤ 24 ∧ ds = [tI t, lN row] ∧ d = .list [tI (sB t row), tI (sW t row)]
theorem ok_both_after (T : Txt K mg) : Cal Pg w K mg base 2 "both_after" (spP dBoth) := by
  refine pure_of (df_both_after T) T.g_both_after (fun ds d ⟨_, _, _, e, _⟩ => by rw [e]; rfl) fun cdv A outer s H E hr M R ds d D hd O => ?_
  obtain ⟨t, row, ht, rfl, rfl⟩ := hd
  refine go_set 2 sc_both_after.nd (elenT (n := t.length) T.z_len (en 0)) ?_
  exact go_ret (elst (ea_cons (ecall (ok_lowered T) hr (ea_cons (en 0) (ea_cons (ecall (ok_against_row T) hr (ea_cons (en 2) (ea_cons (en 1) (ea_cons ec_str ea_nil))) ⟨t.length, row, false, ht, rfl, rfl⟩) ea_nil)) ⟨t, notIn t.length row, ht, rfl, rfl⟩)
    (ea_cons (ecall (ok_lowered T) hr (ea_cons (en 0) (ea_cons (ecall (ok_against_row T) hr (ea_cons (en 2) (ea_cons (en 1) (ea_cons ec_str ea_nil))) ⟨t.length, row, true, ht, rfl, rfl⟩) ea_nil)) ⟨t, row, ht, rfl, rfl⟩) ea_nil))) O.rt
/-! ### rows_of -/
abbrev rowD (r : Nat × List Nat) : PyData := .tuple [iN r.1, lN r.2]
abbrev rowsD (rows : List (Nat × List Nat)) : PyData := .list (rows.map rowD)
def dRows (ds : List PyData) (d : PyData) : Prop := ∃ (P : List (List Nat)) (S : List Nat), HV P ∧ ds = [histD P, tN S] ∧ d = rowsD (FbM.rowsOf P S)
theorem tests_lt {P : List (List Nat)} {S : List Nat} {m : Nat} (h : m ∈ FbM.tests P S) : m < P.length := (FbM.mem_testable.mp ((FbM.tests_inv P S).good m h).1).1
theorem tests_len {P : List (List Nat)} {S : List Nat} : (FbM.tests P S).length ≤ P.length := by
  have := (testsI_len (rowBy P (cls P S)) (cls P S).length (testable P.length S) (testable P.length S).length).2
  have h2 := List.length_filter_le (fun m => decide (m ∉ S)) (List.range P.length)
  rw [List.length_range] at h2
  unfold FbM.tests
  unfold FbM.testable at this ⊢
  omega
theorem ok_rows_of (T : Txt K mg) : Cal Pg w K mg base 4 "rows_of" (spP dRows) := by
  refine pure_of (df_rows_of T) T.g_rows_of (fun ds d ⟨_, _, _, e, _⟩ => by rw [e]; rfl) fun cdv A outer s H E hr M R ds d D hd O => ?_
  obtain ⟨P, S, hV, rfl, rfl⟩ := hd
  have hP := hV.le
  have hC := FbM.cls_le (P := P) (S := S)
  have hl := tests_len (P := P) (S := S)
  refine go_set 2 sc_rows_of.nd (ecall (ok_classes T) hr (ea_cons (en 0) (ea_cons (en 1) ea_nil)) ⟨P, S, hV, rfl, rfl⟩) ?_
  refine go_ret (ED.cast (elcM 3 (l := FbM.tests P S) (enc := iN) (N := N_rows_of) (sc := defScope s_rows_of) (fun m => rowD (m, rowBy P (cls P S) m)) sc_rows_of.nd (by decide +kernel)
    (ei_tup (ecall (ok_tests T) hr (ea_cons (en 0) (ea_cons (en 1) ea_nil)) ⟨P, S, hV, rfl, rfl⟩)) (fun _ _ _ _ _ _ _ m hm => etup (ea_cons (en 3) (ea_cons (ecall (ok_broken_by T) hr (ea_cons (en 0) (ea_cons (en 2) (ea_cons (en 3) ea_nil))) ⟨P, cls P S, m, hV, tests_lt hm, by omega, cls_ne, rfl, rfl⟩) ea_nil))) (by omega)) ?_) O.rt
  unfold FbM.rowsOf
  rw [rowsD, List.map_map]; rfl
end
end Fb
namespace Fb
open PySem L2
open FbM (HV anc br testable cls hd rowBy sB sW low notIn ones isUse inRow lives)
theorem foldl_max_le {c : Int} : ∀ {xs : List Int} {x : Int}, x ≤ c → (∀ y ∈ xs, y ≤ c) → xs.foldl max x ≤ c
  | [], x, h, _ => h
  | y :: ys, x, h, k => foldl_max_le (xs := ys) (x := max x y) (by have := k y List.mem_cons_self; omega) fun z hz => k z (List.mem_cons_of_mem _ hz)
theorem foldl_max_ge : ∀ {xs : List Int} {x y : Int}, y = x ∨ y ∈ xs → y ≤ xs.foldl max x
  | [], x, y, h => by simp at h; simp; omega
  | z :: zs, x, y, h => by
    rw [List.foldl_cons]
    have hx : max x z ≤ zs.foldl max (max x z) := foldl_max_ge (.inl rfl)
    rcases h with h | h
    · omega
    · rcases List.mem_cons.mp h with h | h
      · omega
      · exact foldl_max_ge (.inr h)
/-- the slots at the entry, any -/
theorem stoB {M : List Addr} {R : Hp → Prop} {N : List Str} {vs : List V} {bs : List Bd} {H : Hp} (al : ∀ a ∈ M, H a ≠ none) (hl : vs.length = bs.length) (hb : ∀ (i : Nat) (b : Bd), bs[i]? = some b → ∃ v, vs[i]? = some v ∧ Bnd M H v b) (r : ∀ H', Same H H' → R H') :
    Sto M [] R (bs.map some ++ List.replicate (N.length - bs.length) none) (L2.start N vs) H where
  al := al
  lm := fun _ h => by cases h
  nd := List.nodup_nil
  own := fun _ h => by cases h
  r := fun H' p => r H' fun b o e => p b o (by simp) e
  len := by
    unfold L2.start
    rw [List.length_append, List.length_append, List.length_map, List.length_map, List.length_replicate, List.length_replicate, hl]
  b := fun i b h => by
    by_cases hi : i < bs.length
    · rw [List.getElem?_append_left (by simpa using hi), List.getElem?_map] at h
      cases e : bs[i]? with
      | none => rw [e] at h; cases h
      | some d =>
        rw [e] at h
        cases h
        obtain ⟨v, h1, h2⟩ := hb i _ e
        refine ⟨v, ?_, h2⟩
        unfold L2.start
        have hv : i < vs.length := by rw [hl]; exact hi
        rw [List.getElem?_append_left (by simpa using hv), List.getElem?_map, h1]; rfl
    · rw [List.getElem?_append_right (by simpa using hi), List.getElem?_replicate] at h
      split at h <;> cases h
section
variable {Pg : Program} {w : World} {K : PySem.W.Frag} {mg : Str → Option Value} {base : Heap}
/-! ### check_size -/
def mxT (t : List Int) : Int := match t ++ [0] with
  | [] => 0
  | x :: xs => xs.foldl max x
theorem mxT_le {N b : Nat} {t : List Int} (h : StateOk N b t) : 0 ≤ mxT t ∧ mxT t ≤ (b : Int) := by
  unfold mxT
  cases t with
  | nil => exact ⟨Int.le_refl _, by show (0 : Int) ≤ b; omega⟩
  | cons x xs =>
    show 0 ≤ (xs ++ [0]).foldl max x ∧ (xs ++ [0]).foldl max x ≤ (b : Int)
    refine ⟨foldl_max_ge (.inr (by simp)), foldl_max_le (h.2 x List.mem_cons_self).2 fun y hy => ?_⟩
    rcases List.mem_append.mp hy with q | q
    · exact (h.2 y (List.mem_cons_of_mem _ q)).2
    · simp at q; omega
theorem mxT_ed {X : Cx} {M : List Addr} {k : Nat} (t : List Int) (hc : X.calm = true) (hr : Room k X.A) : CallD X (.builtin "max") M [.tuple (t.map PyData.int ++ [.int 0])] (.int (mxT t)) := by
  unfold mxT
  cases t with
  | nil => exact cd_maxT (x := 0) (xs := []) hc hr
  | cons x xs =>
    have := cd_maxT (X := X) (M := M) (x := x) (xs := xs ++ [0]) hc hr
    have e : (x :: (xs ++ [0])).map PyData.int = (x :: xs).map PyData.int ++ [.int 0] := by simp
    rw [tI, e] at this
    exact this
def dSize (ds : List PyData) (d : PyData) : Prop := ∃ (N b : Nat) (t : List Int), StateOk N b t ∧ (b + 2) ^ N ≤ 20000 ∧ N ≤ 24 ∧ ds = [tI t] ∧ d = .none
theorem ok_check_size (T : Txt K mg) : Cal Pg w K mg base 1 "check_size" (spP dSize) := by
  refine pure_of (df_check_size T) T.g_check_size (fun ds d ⟨_, _, _, _, _, _, e, _⟩ => by rw [e]; rfl) fun cdv A outer s H E hr M R ds d D hd O => ?_
  obtain ⟨N, b, t, hs, hb, hN, rfl, rfl⟩ := hd
  have ⟨m0, m1⟩ := mxT_le hs
  have hl : t.length = N := hs.1
  have hq : ∀ i, i ≤ N → (mxT t + 2).toNat ^ i ≤ 20000 := fun i hi => by
    have h1 : (mxT t + 2).toNat ^ i ≤ (b + 2) ^ i := Nat.pow_le_pow_left (by omega) i
    have h2 : (b + 2) ^ i ≤ (b + 2) ^ N := Nat.pow_le_pow_right (by omega) hi
    omega
  refine go_set 1 sc_check_size.nd ec_int ?_
  refine go_for (l := List.range t.length) (enc := iN) (fun i => [some (.d (tI t)), some (.d (iN ((mxT t + 2).toNat ^ i))), none]) (fun _ => [])
    (fun i k => [some (.d (tI t)), some (.d (iN ((mxT t + 2).toNat ^ i))), some (.d (iN k))]) (js := [2]) PassesOwn.never rfl
    (ei_range (elenT T.z_len (en 0)) T.z_range (by omega)) (fun σ H W => W.less ⟨rfl, rfl, trivial⟩) (fun G i x _ => eg_name 2 sc_check_size.nd) (fun G hG i k hk => ?_) ?_
  · obtain ⟨rfl, hi⟩ := range_get hk
    have h1 := hq i (by omega)
    refine go_set 1 sc_check_size.nd (eb (en 1) (eb (ecallB (mxT_ed t rfl hr) T.z_max (ea_cons (eb (en 0) (etup (ea_cons ec_int ea_nil)) (bd_addT (by simp; omega))) ea_nil)) ec_int bd_add) (bd_mul (.inl ⟨by omega, by omega⟩))) (go_nil fun σ H W => W.less ⟨rfl, ?_, trivial⟩)
    have e : (((mxT t + 2).toNat ^ i : Nat) : Int) * (mxT t + 2) = (((mxT t + 2).toNat ^ (i + 1) : Nat) : Int) := by
      rw [Nat.pow_succ, Int.natCast_mul, Int.toNat_of_nonneg (by omega)]
    rw [e]
  · refine go_skip (ET.cast (tcmp (en 1) (eg_int T.i_MOST_STATES) bd_gt) (decide_eq_false ?_)) (go_nil fun σ H W => O.nx rfl σ H W.r0)
    have := hq (List.range t.length).length (by rw [List.length_range]; omega)
    omega
/-! ### value -/
def spVal (n : Nat) : Sp := fun vs H Q _ => ∃ M rows N b t v0 v1 kd, (∀ a ∈ M, H a ≠ none) ∧ kd ∈ M ∧ vs = [v0, v1, .ref kd] ∧ Dat M H v0 (rowsD rows) ∧ Dat M H v1 (tI t) ∧ Kd rows N b kd H ∧ (b + 2) ^ N ≤ 20000 ∧ N ≤ 24 ∧ rows.length ≤ 24 ∧ StateOk N b t ∧ lives t ≤ n ∧
  ∀ H', Fr [kd] H H' → Kd rows N b kd H' → Q (.int (FbM.value rows t)) H'
theorem kd_notin {M : List Addr} {L : Own} {R : Hp → Prop} {ρ : Rho} {σ : St} {H : Hp} {rows : List (Nat × List Nat)} {N b : Nat} {kd : Addr} (S : Sto M L R ρ σ H) (k : Kd rows N b kd H) : ∀ a ∈ [kd], a ∉ L.map (·.1) := fun a ha q => by
  simp at ha; subst ha
  obtain ⟨p, hp, e⟩ := List.mem_map.mp q
  obtain ⟨vs, h1, _⟩ := S.own p hp
  obtain ⟨kvs, h2, _⟩ := k
  have e : p.1 = a := e
  rw [e, h2] at h1
  cases h1
theorem ecall_val {X : Cx} {M : List Addr} {L : Own} {R : Hp → Prop} {ρ : Rho} {e0 e1 : Expr} {pos p0 p1 : Pos} {y : Str} {k j n : Nat} {rows : List (Nat × List Nat)} {N b : Nat} {u : List Int} {kd : Addr} (i : Nat) (c : Cal X.prog X.w X.K X.mg X.base k "value" (spVal n)) (hr : Room j X.A) (hk : k ≤ j)
    (h0 : ED X M L R ρ e0 (rowsD rows)) (h1 : ED X M L R ρ e1 (tI u)) (hkM : kd ∈ M) (hb1 : (b + 2) ^ N ≤ 20000) (hN : N ≤ 24) (hrl : rows.length ≤ 24) (hu : StateOk N b u) (hn : lives u ≤ n) (hR : ∀ H, R H → Kd rows N b kd H) (tr : ∀ H', Kd rows N b kd H' → Tr [kd] H' R)
    (hb : ρ[i]? = some (some (.a (.ref kd))) := by rfl) (hNi : X.N[i]? = some y := by rfl) (hv : Vis X.env.scope y := by first | exact Or.inl rfl | exact Or.inr (Or.inl rfl) | exact Or.inr (Or.inr rfl)) (hd : (y == ("__debug__" : Str)) = false := by decide) (hcd : (y == ("__classdict__" : Str)) = false := by decide)
    (hg : Gl X "value" := by rfl) (he : starEach [e0, e1, .Name y p1] X.env = (false, eval e0 X.env) :: starEach [e1, .Name y p1] X.env := by rfl) (he2 : starEach [e1, .Name y p1] X.env = (false, eval e1 X.env) :: starEach [.Name y p1] X.env := by rfl) (he3 : starEach [.Name y p1] X.env = (false, eval (.Name y p1) X.env) :: starEach [] X.env := by rfl)
    (hpl : (backTo pos (starEach [e1, .Name y p1] X.env)).any (·.1) = false := by rfl) : ED X M L R ρ (.Call (.Name "value" p0) [e0, e1, .Name y p1] [] pos) (.int (FbM.value rows u)) := fun σ H S Q q =>
  ⟨_, pe_c c hr hk hg (pa_cons we (pa_cons we (pa_cons (pe_var hNi hv hd hcd) pa_nil he3) he2) he) (by decide) he hpl, h0 σ H S _ fun v0 H1 k1 S1 d1 => h1 σ H1 S1 _ fun v1 H2 k2 S2 d2 => ⟨.ref kd, S2.valOf hb,
    ⟨M, rows, N, b, u, v0, v1, kd, S2.al, hkM, rfl, dp_same k2 d1, d2, hR _ S2.r0, hb1, hN, hrl, hu, hn, fun H' f k' => by
      have S3 := S2.call (C := [kd]) (H' := H') (by simpa using hkM) (kd_notin S2 (hR _ S2.r0)) f (by simpa using k'.some) (tr H' k')
      exact q _ H' (k1.trans (k2.trans (f.keep (by simpa using hkM)))) S3 (.int _)⟩⟩⟩
theorem low_ok {N b : Nat} {t : List Int} {row : List Nat} (h : StateOk N b t) : StateOk N b (low t row) := by
  refine ⟨by rw [FbM.low_len]; exact h.1, fun x hx => ?_⟩
  unfold FbM.low at hx
  obtain ⟨k, hk, rfl⟩ := List.mem_map.mp hx
  have hk := List.mem_range.mp hk
  have := h.2 (t.getD k 0) (by rw [List.getD_eq_getElem?_getD, List.getElem?_eq_getElem hk]; exact List.getElem_mem hk)
  split <;> omega
theorem sB_ok {N b : Nat} {t : List Int} {row : List Nat} (h : StateOk N b t) : StateOk N b (sB t row) := low_ok h
theorem sW_ok {N b : Nat} {t : List Int} {row : List Nat} (h : StateOk N b t) : StateOk N b (sW t row) := low_ok h
theorem fr_tr {kd : Addr} {H0 : Hp} {rows : List (Nat × List Nat)} {N b : Nat} : ∀ H', Kd rows N b kd H' → Tr [kd] H' (fun H => Kd rows N b kd H ∧ Fr [kd] H0 H) := fun _ h => (tr_kd h).and tr_fr
theorem valI_succ {v : List Int → Int} {rows : List (Nat × List Nat)} {t : List Int} {i : Nat} {r : Nat × List Nat} (h : rows[i]? = some r) : FbM.valI v rows t (i + 1) = FbM.valStep v t (FbM.valI v rows t i) r := by
  unfold FbM.valI
  rw [List.take_add_one, List.foldl_append, h]; rfl
/-- the table asked, stored to, read -/
theorem go_memo_if {X : Cx} {M : List Addr} {L : Own} {R : Hp → Prop} {ρ : Rho} {body rest : List Stmt} {D : Ends} {pos p0 p1 p2 : Pos} {x y : Str} {kr N b : Nat} {rows : List (Nat × List Nat)} {t : List Int} {kd : Addr} (i j : Nat) (hr : Room kr X.A) (hR : ∀ H, R H → Kd rows N b kd H)
    (h1 : Go X body (to D (WB X rest D)) M L R ρ) (h2 : ∀ σ H, Sto M L R ρ σ H → (∀ kvs, H kd = some (.dT kvs) → valV kvs (keyS t) = some (.int (FbM.value rows t))) → WB X rest D σ H)
    (hs : ρ[i]? = some (some (.d (tI t))) := by rfl) (hk : ρ[j]? = some (some (.a (.ref kd))) := by rfl) (hNx : X.N[i]? = some x := by rfl) (hNy : X.N[j]? = some y := by rfl)
    (hvx : Vis X.env.scope x := by first | exact Or.inl rfl | exact Or.inr (Or.inl rfl) | exact Or.inr (Or.inr rfl)) (hvy : Vis X.env.scope y := by first | exact Or.inl rfl | exact Or.inr (Or.inl rfl) | exact Or.inr (Or.inr rfl))
    (hdx : (x == ("__debug__" : Str)) = false := by decide) (hcx : (x == ("__classdict__" : Str)) = false := by decide) (hdy : (y == ("__debug__" : Str)) = false := by decide) (hcy : (y == ("__classdict__" : Str)) = false := by decide)
    (hm : behindInMarks .NotIn (.Name y p1) = false := by first | exact nomark _ | with_unfolding_all rfl) : Go X (.If (.Compare (.Name x p0) [.NotIn] [.Name y p1] p2) body [] pos :: rest) D M L R ρ := fun σ H S => by
  obtain ⟨v, e1, dv⟩ := S.datOf hs
  have e2 := S.valOf hk
  obtain ⟨kvs, h3, h4⟩ := hR H S.r0
  refine wb_cons (ps_if (pt_cmp (pc_dnotin (hu_of hr) (pe_var hNx hvx hdx hcx) (pe_var hNy hvy hdy hcy)) hm) wb wb) ?_
  cases dv with
  | @tup p vs _ e al =>
    refine ⟨_, e1, _, e2, kd, _, rfl, DGet.t (b := p) (k := keyS t) h3 (by rw [keyS_kV, ← al.of_ints]; exact (hide_some e).2), _, rfl, ?_⟩
    cases q : valV kvs (keyS t) with
    | some u =>
      refine iteF ?_
      have hu := h4.get q
      subst hu
      exact wb_nil (h2 σ H S fun kvs' h => by rw [h3] at h; cases h; exact q)
    | none => exact iteT (h1 σ H S)
theorem go_memo_put {X : Cx} {M : List Addr} {L : Own} {R : Hp → Prop} {ρ : Rho} {rest : List Stmt} {D : Ends} {pos p0 p1 p2 p3 : Pos} {x y z : Str} {kr N b : Nat} {rows : List (Nat × List Nat)} {t : List Int} {kd : Addr} (i j l : Nat) (hr : Room kr X.A) (hR : ∀ H, R H → Kd rows N b kd H) (tr : ∀ H', Kd rows N b kd H' → Tr [kd] H' R)
    (hkM : kd ∈ M) (hb : (b + 2) ^ N ≤ 20000) (ht : StateOk N b t) (h2 : ∀ σ H, Sto M L R ρ σ H → (∀ kvs, H kd = some (.dT kvs) → valV kvs (keyS t) = some (.int (FbM.value rows t))) → WB X rest D σ H)
    (hs : ρ[i]? = some (some (.d (tI t))) := by rfl) (hk : ρ[j]? = some (some (.a (.ref kd))) := by rfl) (hb : ρ[l]? = some (some (.d (.int (FbM.value rows t)))) := by rfl) (hNx : X.N[i]? = some x := by rfl) (hNy : X.N[j]? = some y := by rfl) (hNz : X.N[l]? = some z := by rfl)
    (hvx : Vis X.env.scope x := by first | exact Or.inl rfl | exact Or.inr (Or.inl rfl) | exact Or.inr (Or.inr rfl)) (hvy : Vis X.env.scope y := by first | exact Or.inl rfl | exact Or.inr (Or.inl rfl) | exact Or.inr (Or.inr rfl)) (hvz : Vis X.env.scope z := by first | exact Or.inl rfl | exact Or.inr (Or.inl rfl) | exact Or.inr (Or.inr rfl))
    (hdx : (x == ("__debug__" : Str)) = false := by decide) (hcx : (x == ("__classdict__" : Str)) = false := by decide) (hdy : (y == ("__debug__" : Str)) = false := by decide) (hcy : (y == ("__classdict__" : Str)) = false := by decide) (hdz : (z == ("__debug__" : Str)) = false := by decide) (hcz : (z == ("__classdict__" : Str)) = false := by decide)
    (hsw : swapsWith (.Name z p0) (some (.Subscript (.Name y p1) (.Name x p2) p3)) pos.line X.env = pure false := by rfl) : Go X (.Assign [.Subscript (.Name y p1) (.Name x p2) p3] (.Name z p0) pos :: rest) D M L R ρ := fun σ H S => by
  rename_i hb0
  obtain ⟨v, e1, dv⟩ := S.datOf hs
  obtain ⟨u, e3, du⟩ := S.datOf hb
  have e2 := S.valOf hk
  have hK := hR H S.r0
  obtain ⟨kvs, h3, h4⟩ := hK
  refine wb_cons (ps_dput (hu_of hr) (pe_var hNy hvy hdy hcy) (pe_var hNx hvx hdx hcx) (pe_var hNz hvz hdz hcz) hsw) ?_
  cases du
  cases dv with
  | @tup p vs _ e al =>
    have hlen := h4.len
    refine ⟨_, e3, _, e2, _, e1, kd, _, rfl, DPut.t (b := p) (k := keyS t) h3 (by rw [keyS_kV, ← al.of_ints]; exact (hide_some e).2) (Nat.lt_of_le_of_lt (Nat.le_trans hlen hb0) (by decide)), ?_⟩
    obtain ⟨m1, m2⟩ := h4.put ht
    have k' : Kd rows N b kd (upd H kd (.dT (putK kvs (keyS t) (.int (FbM.value rows t))))) := ⟨_, upd_same, m1⟩
    refine h2 σ _ (S.call (C := [kd]) (by simpa using hkM) (kd_notin S (hR H S.r0)) (fr_upd (by simp)) (by simpa using k'.some) (tr _ k')) fun kvs' h => ?_
    rw [upd_same] at h
    cases h
    exact m2
theorem memo_ret {X : Cx} {M : List Addr} {L : Own} {R : Hp → Prop} {ρ : Rho} {rest : List Stmt} {D : Ends} {pos p1 p2 p3 : Pos} {x y : Str} {kr N b : Nat} {rows : List (Nat × List Nat)} {t : List Int} {kd : Addr} (i j : Nat) (hr : Room kr X.A) (hR : ∀ H, R H → Kd rows N b kd H)
    (hD : ∀ H, R H → D.rt (.int (FbM.value rows t)) H) (hs : ρ[i]? = some (some (.d (tI t)))) (hk : ρ[j]? = some (some (.a (.ref kd)))) (hNx : X.N[i]? = some x := by rfl) (hNy : X.N[j]? = some y := by rfl)
    (hvx : Vis X.env.scope x := by first | exact Or.inl rfl | exact Or.inr (Or.inl rfl) | exact Or.inr (Or.inr rfl)) (hvy : Vis X.env.scope y := by first | exact Or.inl rfl | exact Or.inr (Or.inl rfl) | exact Or.inr (Or.inr rfl))
    (hdx : (x == ("__debug__" : Str)) = false := by decide) (hcx : (x == ("__classdict__" : Str)) = false := by decide) (hdy : (y == ("__debug__" : Str)) = false := by decide) (hcy : (y == ("__classdict__" : Str)) = false := by decide) :
    ∀ σ H, Sto M L R ρ σ H → (∀ kvs, H kd = some (.dT kvs) → valV kvs (keyS t) = some (.int (FbM.value rows t))) → WB X (.Return (some (.Subscript (.Name y p1) (.Name x p2) p3)) pos :: rest) D σ H := fun σ H S hv => by
  obtain ⟨v, e1, dv⟩ := S.datOf hs
  have e2 := S.valOf hk
  obtain ⟨kvs, h3, h4⟩ := hR H S.r0
  refine wb_cons (ps_ret (pe_dget (hu_of hr) (pe_var hNy hvy hdy hcy) (pe_var hNx hvx hdx hcx) (fun _ _ => rfl))) ?_
  cases dv with
  | @tup p vs _ e al =>
    refine ⟨_, e2, _, e1, kd, _, rfl, ?_, hD H S.r0⟩
    have := DGet.t (b := p) (k := keyS t) h3 (by rw [keyS_kV, ← al.of_ints]; exact (hide_some e).2)
    rw [hv kvs h3] at this
    exact this
theorem memo_end {X : Cx} {rest : List Stmt} {D : Ends} {S P : L2.St → Hp → Prop} (h : ∀ σ H, S σ H → P σ H → WB X rest D σ H) : ∀ σ H, S σ H → P σ H → WB X [] (to D (WB X rest D)) σ H := fun σ H a b => wb_nil (h σ H a b)
theorem value_step (T : Txt K mg) (n : Nat) (ih : ∀ m, n = m + 1 → Cal Pg w K mg base (m + 3) "value" (spVal m)) : Cal Pg w K mg base (n + 3) "value" (spVal n) := by
  refine cal_of (df_value T) T.g_value (fun vs H Q E h => ?_) fun cdv A outer s H vs Q E hr h => ?_
  · obtain ⟨M, rows, N, b, t, v0, v1, kd, _, _, rfl, _⟩ := h
    rfl
  obtain ⟨M, rows, N, b, t, v0, v1, kd, al, hkM, rfl, d0, d1, hk, hb, hN, hrl, ht, hn, q⟩ := h
  have ht1 : t.length = N := ht.1
  have S0 : Sto M [] (fun H' => Kd rows N b kd H' ∧ Fr [kd] H H') ([.d (rowsD rows), .d (tI t), .a (.ref kd)].map some ++ List.replicate 5 none) (L2.start N_value [v0, v1, .ref kd]) H := by
    refine stoB (N := N_value) (bs := [.d (rowsD rows), .d (tI t), .a (.ref kd)]) al rfl (fun i c hc => ?_) fun H' s' => ⟨hk.at ?_, fr_same s'⟩
    · match i, hc with
      | 0, hc => cases hc; exact ⟨v0, rfl, d0⟩
      | 1, hc => cases hc; exact ⟨v1, rfl, d1⟩
      | 2, hc => cases hc; exact ⟨_, rfl, rfl⟩
    · obtain ⟨kvs, h1, _⟩ := hk
      rw [h1]; exact s' _ _ h1
  refine (?_ : Go _ _ _ M [] (fun H' => Kd rows N b kd H' ∧ Fr [kd] H H') [some (.d (rowsD rows)), some (.d (tI t)), some (.a (.ref kd)), none, none, none, none, none]) _ _ S0
  refine go_if (tcmp (elenL (n := (ones t).length) T.z_len (ecall (ok_ones_in T) hr (ea_cons (en 1) ea_nil) ⟨t, by omega, rfl, rfl⟩ (hk := by omega))) ec_int bd_le) (fun h1 => ?_) (fun h1 => ?_)
  · have h1 := of_decide_eq_true h1
    refine go_ret ec_int fun v H' r dv => ?_
    cases dv
    have e := FbM.value_done (rows := rows) (s := t) (by omega)
    have := q H' r.2 r.1
    rw [e] at this
    exact this
  have h1 : ¬ (ones t).length ≤ 1 := by have := of_decide_eq_false h1; omega
  have hpos : 1 ≤ lives t := FbM.lives_pos (by omega)
  obtain ⟨m, rfl⟩ : ∃ m, n = m + 1 := ⟨n - 1, by omega⟩
  have ih := ih m rfl
  refine go_end ?_
  have hq : ∀ H', (Kd rows N b kd H' ∧ Fr [kd] H H') → Q (.int (FbM.value rows t)) H' := fun H' r => q H' r.2 r.1
  refine go_memo_if (t := t) 1 2 hr (fun _ r => r.1) ?_ (memo_ret 1 2 hr (fun _ r => r.1) hq rfl rfl)
  refine go_set 3 sc_value.nd (eneg ec_int) ?_
  refine go_for (l := rows) (enc := rowD) (fun i => [some (.d (rowsD rows)), some (.d (tI t)), some (.a (.ref kd)), some (.d (.int (FbM.valI (FbM.value rows) rows t i))), none, none, none, none]) (fun _ => [])
    (fun i r => [some (.d (rowsD rows)), some (.d (tI t)), some (.a (.ref kd)), some (.d (.int (FbM.valI (FbM.value rows) rows t i))), some (.d (iN r.1)), some (.d (lN r.2)), none, none]) PassesOwn.never rfl
    (ei_list (en 0)) (fun σ H W => W.less ⟨rfl, rfl, rfl, rfl, trivial⟩) (fun G i r _ => eg_tup rfl (egs_cons (eg_name 4 sc_value.nd) (egs_cons (eg_name 5 sc_value.nd) egs_nil))) (fun G hG i r hi => ?_) ?_
  · refine go_if (tval (ecall (ok_is_useful T) hr (ea_cons (en 1) (ea_cons (en 5) ea_nil)) ⟨t, r.2, by omega, rfl, rfl⟩ (hk := by omega))) (fun hu => ?_) (fun hu => ?_)
    · have hlt := FbM.use_lt hu
      refine go_set 7 sc_value.nd (eb ec_int (ecallB (cd_maxL2 (i := FbM.value rows (sB t r.2)) (j := FbM.value rows (sW t r.2)) rfl) T.z_max (ea_cons (elcM 6 (l := [sB t r.2, sW t r.2]) (enc := tI) (N := N_value) (sc := defScope s_value) (fun u => .int (FbM.value rows u)) sc_value.nd (by decide +kernel)
        (ei_list (ecall (ok_both_after T) hr (ea_cons (en 1) (ea_cons (en 5) ea_nil)) ⟨t, r.2, by omega, rfl, rfl⟩ (hk := by omega))) (fun _ _ _ _ _ _ _ u hm => ?_) (by simp)) ea_nil)) bd_add) ?_
      · have hu2 : StateOk N b u ∧ lives u ≤ m := by
          rcases List.mem_cons.mp hm with e | hm
          · subst e; exact ⟨sB_ok ht, by omega⟩
          · rcases List.mem_cons.mp hm with e | hm
            · subst e; exact ⟨sW_ok ht, by omega⟩
            · cases hm
        exact ecall_val 2 ih hr (by omega) (en 0) (en 6) (List.mem_cons_of_mem _ hkM) hb hN hrl hu2.1 hu2.2 (fun _ r => r.1.1) (fun H' k' => (fr_tr H' k').and (Tr.keep (by simpa using hkM) hG))
      · refine go_if (b := decide (FbM.valI (FbM.value rows) rows t i < 0 ∨ 1 + max (FbM.value rows (sB t r.2)) (FbM.value rows (sW t r.2)) < FbM.valI (FbM.value rows) rows t i)) (ET.cast (tw (wor (tcmp (en 3) ec_int bd_lt) (fun _ => wor1 (tcmp (en 7) (en 3) bd_lt)))) (by rw [← Bool.decide_or])) (fun hc => ?_) (fun hc => ?_)
        · have hc := of_decide_eq_true hc
          refine go_set 3 sc_value.nd (en 7) (go_end (go_end (go_nil fun σ H W => ?_)))
          rw [valI_succ hi]
          unfold FbM.valStep FbM.upd
          rw [if_pos hu, if_pos hc]
          exact W.less ⟨rfl, rfl, rfl, rfl, trivial⟩
        · have hc := of_decide_eq_false hc
          refine go_end (go_end (go_nil fun σ H W => ?_))
          rw [valI_succ hi]
          unfold FbM.valStep FbM.upd
          rw [if_pos hu, if_neg hc]
          exact W.less ⟨rfl, rfl, rfl, rfl, trivial⟩
    · refine go_end (go_nil fun σ H W => ?_)
      rw [valI_succ hi]
      unfold FbM.valStep
      rw [if_neg (by rw [hu]; exact Bool.false_ne_true)]
      exact W.less ⟨rfl, rfl, rfl, rfl, trivial⟩
  · have e : FbM.valI (FbM.value rows) rows t rows.length = FbM.value rows t := by
      rw [FbM.value_eq rows t, if_neg h1]
    rw [e]
    exact go_memo_put (t := t) 1 2 3 hr (fun _ r => r.1) fr_tr hkM hb ht (memo_end (memo_ret 1 2 hr (fun _ r => r.1) hq rfl rfl))
theorem ok_value (T : Txt K mg) : ∀ n, Cal Pg w K mg base (n + 3) "value" (spVal n) := by
  intro n
  induction n with
  | zero => exact value_step T 0 fun m h => by cases h
  | succ n ih => exact value_step T (n + 1) fun m h => by cases h; exact ih
end
end Fb
namespace Fb
open PySem L2
open FbM (HV anc br testable cls hd rowBy sB sW low notIn ones isUse inRow lives Parts bestRow tree)
abbrev Rows := List (Nat × List Nat)
/-- a def over a table of states, handing back data -/
def spM (n : Nat) (pre : Rows → Nat → Prop) (f : Rows → List Int → PyData) : Sp := fun vs H Q _ => ∃ M rows N b t v0 v1 kd, (∀ a ∈ M, H a ≠ none) ∧ kd ∈ M ∧ vs = [v0, v1, .ref kd] ∧ Dat M H v0 (rowsD rows) ∧ Dat M H v1 (tI t) ∧ Kd rows N b kd H ∧ (b + 2) ^ N ≤ 20000 ∧ N ≤ 24 ∧ rows.length ≤ 24 ∧ StateOk N b t ∧ lives t ≤ n ∧ pre rows N ∧
  ∀ v H', Fr [kd] H H' → Kd rows N b kd H' → Dat M H' v (f rows t) → Q v H'
theorem ecall_m {X : Cx} {M : List Addr} {L : Own} {R : Hp → Prop} {ρ : Rho} {e0 e1 : Expr} {pos p0 p1 : Pos} {x y : Str} {k j n : Nat} {rows : Rows} {N b : Nat} {u : List Int} {kd : Addr} {pre : Rows → Nat → Prop} {f : Rows → List Int → PyData} {d : PyData} (i : Nat) (c : Cal X.prog X.w X.K X.mg X.base k x (spM n pre f)) (hr : Room j X.A) (hk : k ≤ j)
    (h0 : ED X M L R ρ e0 (rowsD rows)) (h1 : ED X M L R ρ e1 (tI u)) (hkM : kd ∈ M) (hb1 : (b + 2) ^ N ≤ 20000) (hN : N ≤ 24) (hrl : rows.length ≤ 24) (hu : StateOk N b u) (hn : lives u ≤ n) (hpre : pre rows N) (hR : ∀ H, R H → Kd rows N b kd H) (tr : ∀ H', Kd rows N b kd H' → Tr [kd] H' R)
    (hb : ρ[i]? = some (some (.a (.ref kd))) := by rfl) (hNi : X.N[i]? = some y := by rfl) (hv : Vis X.env.scope y := by first | exact Or.inl rfl | exact Or.inr (Or.inl rfl) | exact Or.inr (Or.inr rfl)) (hd : (y == ("__debug__" : Str)) = false := by decide) (hcd : (y == ("__classdict__" : Str)) = false := by decide)
    (hg : Gl X x := by rfl) (hdx : (x == ("__debug__" : Str)) = false := by decide) (he : starEach [e0, e1, .Name y p1] X.env = (false, eval e0 X.env) :: starEach [e1, .Name y p1] X.env := by rfl) (he2 : starEach [e1, .Name y p1] X.env = (false, eval e1 X.env) :: starEach [.Name y p1] X.env := by rfl) (he3 : starEach [.Name y p1] X.env = (false, eval (.Name y p1) X.env) :: starEach [] X.env := by rfl)
    (hpl : (backTo pos (starEach [e1, .Name y p1] X.env)).any (·.1) = false := by rfl) (hf : f rows u = d := by rfl) : ED X M L R ρ (.Call (.Name x p0) [e0, e1, .Name y p1] [] pos) d := fun σ H S Q q => by
  subst hf
  exact
  ⟨_, pe_c c hr hk hg (pa_cons we (pa_cons we (pa_cons (pe_var hNi hv hd hcd) pa_nil he3) he2) he) hdx he hpl, h0 σ H S _ fun v0 H1 k1 S1 d1 => h1 σ H1 S1 _ fun v1 H2 k2 S2 d2 => ⟨.ref kd, S2.valOf hb,
    ⟨M, rows, N, b, u, v0, v1, kd, S2.al, hkM, rfl, dp_same k2 d1, d2, hR _ S2.r0, hb1, hN, hrl, hu, hn, hpre, fun v H' f k' dv => by
      have S3 := S2.call (C := [kd]) (H' := H') (by simpa using hkM) (kd_notin S2 (hR _ S2.r0)) f (by simpa using k'.some) (tr H' k')
      exact q _ H' (k1.trans (k2.trans (f.keep (by simpa using hkM)))) S3 dv⟩⟩⟩
section
variable {Pg : Program} {w : World} {K : PySem.W.Frag} {mg : Str → Option Value} {base : Heap}
/-- a def over a table, by its body -/
theorem calM_of {g x q : Str} {st : Stmt} {ps N : List Str} {f : Addr} {k n : Nat} {pre : Rows → Nat → Prop} {res : Rows → List Int → PyData} (F : Df K mg x q st ps N f) (hm : mg g = some (.ref f)) (hps : ps.length = 3)
    (h : ∀ (cdv : Value) (A : Around) (outer : List Env) (s : Shared) (H : Hp) (E : XK), Room k (A.deeper (PyProof.Rows.envOfC q (defScope st) s.heap.objs.size f cdv)) → ∀ (M : List Addr) (rows : Rows) (N' b : Nat) (t : List Int) (kd : Addr) (D : Ends), kd ∈ M → (b + 2) ^ N' ≤ 20000 → N' ≤ 24 → rows.length ≤ 24 → StateOk N' b t → lives t ≤ n → pre rows N' →
      (∀ v H', (Kd rows N' b kd H' ∧ Fr [kd] H H') → Dat M H' v (res rows t) → D.rt v H') →
      Go (cx Pg w K mg base N q st f cdv A outer s H E) (defBody st) D M [] (fun H' => Kd rows N' b kd H' ∧ Fr [kd] H H') ([.d (rowsD rows), .d (tI t), .a (.ref kd)].map some ++ List.replicate (N.length - 3) none)) : Cal Pg w K mg base (k + 1) g (spM n pre res) := by
  refine cal_of F hm (fun vs H Q E h => ?_) fun cdv A outer s H vs Q E hr h' => ?_
  · obtain ⟨M, rows, N, b, t, v0, v1, kd, _, _, rfl, _⟩ := h
    exact hps.symm
  obtain ⟨M, rows, N', b, t, v0, v1, kd, al, hkM, rfl, d0, d1, hk, hb, hN, hrl, ht, hn, hpre, q⟩ := h'
  refine h cdv A outer s H E hr M rows N' b t kd _ hkM hb hN hrl ht hn hpre (fun v H' r dv => q v H' r.2 r.1 dv) _ _ (stoB (bs := [.d (rowsD rows), .d (tI t), .a (.ref kd)]) al rfl (fun i c hc => ?_) fun H' s' => ⟨hk.at ?_, fr_same s'⟩)
  · match i, hc with
    | 0, hc => cases hc; exact ⟨v0, rfl, d0⟩
    | 1, hc => cases hc; exact ⟨v1, rfl, d1⟩
    | 2, hc => cases hc; exact ⟨_, rfl, rfl⟩
  · obtain ⟨kvs, h1, _⟩ := hk
    rw [h1]; exact s' _ _ h1
/-! ### best_row -/
def bestD : Option (Int × Nat × List Nat) → PyData
  | none => .none
  | some (x, m, row) => .tuple [.int x, iN m, lN row]
theorem ok_best_row (T : Txt K mg) (n : Nat) : Cal Pg w K mg base (n + 3) "best_row" (spM n (fun _ _ => True) fun rows t => bestD (bestRow rows t)) := by
  refine calM_of (df_best_row T) T.g_best_row rfl fun cdv A outer s H E hr M rows N b t kd D hkM hb hN hrl ht hn _ q => ?_
  have ht1 : t.length = N := ht.1
  refine go_set 3 sc_best_row.nd ec_none ?_
  refine go_for (l := rows) (enc := rowD) (fun i => [some (.d (rowsD rows)), some (.d (tI t)), some (.a (.ref kd)), some (.d (bestD (FbM.bestI (FbM.value rows) rows t i))), none, none, none, none]) (fun _ => [])
    (fun i r => [some (.d (rowsD rows)), some (.d (tI t)), some (.a (.ref kd)), some (.d (bestD (FbM.bestI (FbM.value rows) rows t i))), some (.d (iN r.1)), some (.d (lN r.2)), none, none]) PassesOwn.never rfl
    (ei_list (en 0)) (fun σ H W => W.less ⟨rfl, rfl, rfl, rfl, trivial⟩) (fun G i r _ => eg_tup rfl (egs_cons (eg_name 4 sc_best_row.nd) (egs_cons (eg_name 5 sc_best_row.nd) egs_nil))) (fun G hG i r hi => ?_) ?_
  · refine go_if (tval (ecall (ok_is_useful T) hr (ea_cons (en 1) (ea_cons (en 5) ea_nil)) ⟨t, r.2, by omega, rfl, rfl⟩ (hk := by omega))) (fun hu => ?_) (fun hu => ?_)
    · have hlt := FbM.use_lt hu
      obtain ⟨m, rfl⟩ : ∃ m, n = m + 1 := ⟨n - 1, by omega⟩
      refine go_set 7 sc_best_row.nd (ecallB (cd_maxL2 (i := FbM.value rows (sB t r.2)) (j := FbM.value rows (sW t r.2)) rfl) T.z_max (ea_cons (elcM 6 (l := [sB t r.2, sW t r.2]) (enc := tI) (N := N_best_row) (sc := defScope s_best_row) (fun u => .int (FbM.value rows u)) sc_best_row.nd (by decide +kernel)
        (ei_list (ecall (ok_both_after T) hr (ea_cons (en 1) (ea_cons (en 5) ea_nil)) ⟨t, r.2, by omega, rfl, rfl⟩ (hk := by omega))) (fun _ _ _ _ _ _ _ u hm => ?_) (by simp)) ea_nil)) ?_
      · have hu2 : StateOk N b u ∧ lives u ≤ m := by
          rcases List.mem_cons.mp hm with e | hm
          · subst e; exact ⟨sB_ok ht, by omega⟩
          · rcases List.mem_cons.mp hm with e | hm
            · subst e; exact ⟨sW_ok ht, by omega⟩
            · cases hm
        exact ecall_val 2 (ok_value T m) hr (by omega) (en 0) (en 6) (List.mem_cons_of_mem _ hkM) hb hN hrl hu2.1 hu2.2 (fun _ r => r.1.1) (fun H' k' => (fr_tr H' k').and (Tr.keep (by simpa using hkM) hG))
      · have e := FbM.bestI_succ (v := FbM.value rows) (s := t) hi
        unfold FbM.bestStep at e
        rw [if_pos hu] at e
        cases hbi : FbM.bestI (FbM.value rows) rows t i with
        | none =>
          rw [hbi] at e
          refine go_ifT (tw (wor (p := true) (q := false) (tcmp (en 3) ec_none (bd_isN rfl)) (fun h => nomatch h))) ?_
          refine go_set 3 sc_best_row.nd (etup (ea_cons (en 7) (ea_cons (en 4) (ea_cons (en 5) ea_nil)))) (go_end (go_end (go_nil fun σ H W => ?_)))
          rw [e]
          exact W.less ⟨rfl, rfl, rfl, rfl, trivial⟩
        | some y =>
          obtain ⟨y0, ym, yr⟩ := y
          rw [hbi] at e
          refine go_if (b := decide (max (FbM.value rows (sB t r.2)) (FbM.value rows (sW t r.2)) < y0)) (ET.cast (tw (wor (p := false) (tcmp (en 3) ec_none (bd_isN rfl)) (fun h => wor1 (tcmp (en 7) (eix (en 3) ec_int (ix_t (i := 0) rfl)) bd_lt)))) (Bool.false_or _)) (fun hc => ?_) (fun hc => ?_)
          · have hc := of_decide_eq_true hc
            refine go_set 3 sc_best_row.nd (etup (ea_cons (en 7) (ea_cons (en 4) (ea_cons (en 5) ea_nil)))) (go_end (go_end (go_nil fun σ H W => ?_)))
            have e : FbM.bestI (FbM.value rows) rows t (i + 1) = if max (FbM.value rows (sB t r.2)) (FbM.value rows (sW t r.2)) < y0 then some (max (FbM.value rows (sB t r.2)) (FbM.value rows (sW t r.2)), r.1, r.2) else some (y0, ym, yr) := e
            rw [e, if_pos hc]
            exact W.less ⟨rfl, rfl, rfl, rfl, trivial⟩
          · have hc := of_decide_eq_false hc
            refine go_end (go_end (go_nil fun σ H W => ?_))
            have e : FbM.bestI (FbM.value rows) rows t (i + 1) = if max (FbM.value rows (sB t r.2)) (FbM.value rows (sW t r.2)) < y0 then some (max (FbM.value rows (sB t r.2)) (FbM.value rows (sW t r.2)), r.1, r.2) else some (y0, ym, yr) := e
            rw [e, if_neg hc]
            exact W.less ⟨rfl, rfl, rfl, rfl, trivial⟩
    · refine go_end (go_nil fun σ H W => ?_)
      rw [FbM.bestI_succ hi]
      unfold FbM.bestStep
      rw [if_neg (by rw [hu]; exact Bool.false_ne_true)]
      exact W.less ⟨rfl, rfl, rfl, rfl, trivial⟩
  · exact go_ret (en 3) q
/-! ### tree_of -/
def treeD : FbM.Tree → PyData
  | .nobody => .tuple [.str "nobody"]
  | .found i => .tuple [.str "found", iN i]
  | .ask m b w => .tuple [.str "ask", iN m, treeD b, treeD w]
theorem tree_step (T : Txt K mg) (n : Nat) (ih : ∀ m, n = m + 1 → Cal Pg w K mg base (m + 4) "tree_of" (spM m Parts fun rows t => treeD (tree rows t))) : Cal Pg w K mg base (n + 4) "tree_of" (spM n Parts fun rows t => treeD (tree rows t)) := by
  refine calM_of (df_tree_of T) T.g_tree_of rfl fun cdv A outer s H E hr M rows N b t kd D hkM hb hN hrl ht hn hp q => ?_
  have ht1 : t.length = N := ht.1
  refine go_set 3 sc_tree_of.nd (ecall (ok_ones_in T) hr (ea_cons (en 1) ea_nil) ⟨t, by omega, rfl, rfl⟩ (hk := by omega)) ?_
  refine go_if (b := decide (ones t = [])) (ET.cast (tcmp (en 3) (elst ea_nil) (bd_eqD hr (sh_lN _).shaped (sh_lN []).shaped)) (eqv_lN (ones t) [])) (fun h0 => ?_) (fun h0 => ?_)
  · have h0 := of_decide_eq_true h0
    exact go_ret (ED.cast (etup (ea_cons ec_str ea_nil)) (by rw [FbM.tree_none h0]; rfl)) q
  have h0 := of_decide_eq_false h0
  refine go_end (go_if (tcmp (elenL (n := (ones t).length) T.z_len (en 3)) ec_int bd_eqI) (fun h1 => ?_) (fun h1 => ?_))
  · have h1 : (ones t).length = 1 := by have := of_decide_eq_true h1; omega
    obtain ⟨i, hi⟩ : ∃ i, ones t = [i] := List.length_eq_one_iff.mp h1
    exact go_ret (ED.cast (etup (ea_cons ec_str (ea_cons (eix (en 3) ec_int (ix_l (i := 0) (d := iN i) (by rw [hi]; rfl))) ea_nil))) (by rw [FbM.tree_one hi]; rfl)) q
  have h1 : 2 ≤ (ones t).length := by
    have := of_decide_eq_false h1
    have : (ones t).length ≠ 0 := fun z => h0 (List.eq_nil_of_length_eq_zero z)
    omega
  have hpos : 1 ≤ lives t := FbM.lives_pos (by omega)
  obtain ⟨m, rfl⟩ : ∃ m, n = m + 1 := ⟨n - 1, by omega⟩
  obtain ⟨x, mk, row, hbr, hmem, hu, _⟩ := FbM.bestRow_some hp ht1 h1
  have hlt := FbM.use_lt hu
  refine go_end (go_set 4 sc_tree_of.nd (d := .tuple [.int x, iN mk, lN row]) (ecall_m 2 (ok_best_row T (m + 1)) hr (by omega) (en 0) (en 1) hkM hb hN hrl ht hn trivial (fun _ r => r.1) fr_tr (hf := by rw [hbr]; rfl)) ?_)
  refine go_setLcM 6 5 (l := [sB t row, sW t row]) (enc := tI) (N := N_tree_of) (sc := defScope s_tree_of) (d := .list [treeD (tree rows (sB t row)), treeD (tree rows (sW t row))]) (fun u => treeD (tree rows u)) sc_tree_of.nd (by decide +kernel)
    (ei_list (ecall (ok_both_after T) hr (ea_cons (en 1) (ea_cons (eix (en 4) ec_int (ix_t (i := 2) rfl)) ea_nil)) ⟨t, row, by omega, rfl, rfl⟩ (hk := by omega))) (fun _ _ _ _ _ _ _ u hm => ?_) (by simp) rfl ?_
  · have hu2 : StateOk N b u ∧ lives u ≤ m := by
      rcases List.mem_cons.mp hm with e | hm
      · subst e; exact ⟨sB_ok ht, by omega⟩
      · rcases List.mem_cons.mp hm with e | hm
        · subst e; exact ⟨sW_ok ht, by omega⟩
        · cases hm
    exact ecall_m 2 (ih m rfl) hr (by omega) (en 0) (en 5) (List.mem_cons_of_mem _ hkM) hb hN hrl hu2.1 hu2.2 hp (fun _ r => r.1) fr_tr
  · exact go_ret (ED.cast (etup (ea_cons ec_str (ea_cons (eix (en 4) ec_int (ix_t (i := 1) rfl)) (ea_cons (eix (en 6) ec_int (ix_l (i := 0) rfl)) (ea_cons (eix (en 6) ec_int (ix_l (i := 1) rfl)) ea_nil))))) (by rw [FbM.tree_ask h1 hbr]; rfl)) q
theorem ok_tree_of (T : Txt K mg) : ∀ n, Cal Pg w K mg base (n + 4) "tree_of" (spM n Parts fun rows t => treeD (tree rows t)) := by
  intro n
  induction n with
  | zero => exact tree_step T 0 fun m h => by cases h
  | succ n ih => exact tree_step T (n + 1) fun m h => by cases h; exact ih
end
end Fb
namespace Fb
open PySem L2
open FbM (HV anc br testable cls hd rowBy sB sW low notIn ones isUse inRow lives Parts bestRow tree)
/-- a new object that is not a list of one's own -/
theorem Sto.obj_new {M : List Addr} {L : Own} {R P : Hp → Prop} {ρ : Rho} {σ : St} {H : Hp} (S : Sto M L R ρ σ H) {a : Addr} {o : HO} (hn : H a = none) (hP : ∀ H', H' a = some o → P H') : Sto (a :: M) L (fun H' => P H' ∧ Fr (a :: L.map (·.1)) H H') ρ σ (upd H a o) := by
  have nM : a ∉ M := fun q => S.al a q hn
  have nL : a ∉ L.map (·.1) := fun q => by
    obtain ⟨p, hp, e⟩ := List.mem_map.mp q
    have e : p.1 = a := e
    exact nM (e ▸ S.lm p hp)
  have kk : Same (hide M H) (hide (a :: M) (upd H a o)) := new_keep hn
  refine ⟨fun b hb => ?_, fun p hp => List.mem_cons_of_mem _ (S.lm p hp), S.nd, fun p hp => ?_, fun H' p => ?_, S.len, fun i b hb => ?_⟩
  · rcases List.mem_cons.mp hb with e | hb
    · subst e; rw [upd_same]; simp
    · by_cases e : b = a
      · subst e; rw [upd_same]; simp
      · rw [upd_ne e]; exact S.al b hb
  · obtain ⟨ws, h1, h2⟩ := S.own p hp
    have ne : p.1 ≠ a := fun q => nM (q ▸ S.lm p hp)
    exact ⟨ws, by rw [upd_ne ne]; exact h1, dpAll_same kk h2⟩
  · exact ⟨hP H' (p a o nL upd_same), fun b u hb e => p b u (fun q => hb (List.mem_cons_of_mem _ q)) (by rw [upd_ne (fun q => hb (by rw [q]; exact List.mem_cons_self))]; exact e)⟩
  · obtain ⟨v, h1, h2⟩ := S.b i b hb
    refine ⟨v, h1, ?_⟩
    cases b with
    | d d => exact dp_same kk h2
    | a w => exact h2
theorem fr_r {M : List Addr} {L : Own} {R : Hp → Prop} {ρ : Rho} {σ : St} {H H' : Hp} (S : Sto M L R ρ σ H) {a : Addr} (hn : H a = none) (f : Fr (a :: L.map (·.1)) H H') : R H' := S.r H' fun b o hb e => f b o (fun q => by
  rcases List.mem_cons.mp q with q | q
  · rw [q, hn] at e; cases e
  · exact hb q) e
/-- x = {} : a new table -/
theorem go_newdict {X : Cx} {M : List Addr} {L : Own} {R : Hp → Prop} {ρ : Rho} {rest : List Stmt} {D : Ends} {pos p0 dp : Pos} {rows : Rows} {N b : Nat} (i : Nat) {x : Str} (hN : X.N.Nodup)
    (k : ∀ kd (R' : Hp → Prop), (∀ H', R' H' → R H' ∧ Kd rows N b kd H') → (∀ H', Kd rows N b kd H' → Tr [kd] H' R') → Go X rest D (kd :: M) L R' (ρ.set i (some (.a (.ref kd)))))
    (hi : X.N[i]? = some x := by rfl) (hx : Loc X.env.scope x := by first | exact Or.inl rfl | exact Or.inr rfl)
    (hs : swapsWith (.Dict [] [] dp) (some (.Name x p0)) pos.line X.env = pure false := by rfl) (hf : X.fn x = true ∨ X.env.scope.names.lookup x = some .local := by first | exact .inl rfl | exact .inr rfl) : Go X (.Assign [.Name x p0] (.Dict [] [] dp) pos :: rest) D M L R ρ := fun σ H S =>
  wb_cons (ps_set hN hi hx pe_dnewT hs hf) (fun kd np => by
    refine k kd (fun H' => Kd rows N b kd H' ∧ Fr (kd :: L.map (·.1)) H H') (fun H' h => ⟨fr_r S np h.2, h.1⟩) (fun H' h => (tr_kd h).and fun H1 H2 f e _ c o hc q => ?_) _ _ ((S.obj_new np (P := Kd rows N b kd) fun H' e => ⟨_, e, memo_nil⟩).set (b := .a (.ref kd)) rfl)
    rw [← e c (fun z => hc (by simp at z; rw [z]; exact List.mem_cons_self))]
    exact f c o hc q)
theorem evalue_new {X : Cx} {M : List Addr} {L : Own} {R : Hp → Prop} {ρ : Rho} {e0 e1 : Expr} {pos p0 p1 : Pos} {k j n : Nat} {rows : Rows} {N b : Nat} {u : List Int} (c : Cal X.prog X.w X.K X.mg X.base k "value" (spVal n)) (hr : Room j X.A) (hk : k ≤ j)
    (h0 : ED X M L R ρ e0 (rowsD rows)) (h1 : ED X M L R ρ e1 (tI u)) (hb1 : (b + 2) ^ N ≤ 20000) (hN : N ≤ 24) (hrl : rows.length ≤ 24) (hu : StateOk N b u) (hn : lives u ≤ n)
    (hg : Gl X "value" := by rfl) (he : starEach [e0, e1, .Dict [] [] p1] X.env = (false, eval e0 X.env) :: starEach [e1, .Dict [] [] p1] X.env := by rfl) (he2 : starEach [e1, .Dict [] [] p1] X.env = (false, eval e1 X.env) :: starEach [.Dict [] [] p1] X.env := by rfl) (he3 : starEach [.Dict [] [] p1] X.env = (false, eval (.Dict [] [] p1) X.env) :: starEach [] X.env := by rfl)
    (hpl : (backTo pos (starEach [e1, .Dict [] [] p1] X.env)).any (·.1) = false := by rfl) : ED X M L R ρ (.Call (.Name "value" p0) [e0, e1, .Dict [] [] p1] [] pos) (.int (FbM.value rows u)) := fun σ H S Q q =>
  ⟨_, pe_c c hr hk hg (pa_cons we (pa_cons we (pa_cons pe_dnewT pa_nil he3) he2) he) (by decide) he hpl, h0 σ H S _ fun v0 H1 k1 S1 d1 => h1 σ H1 S1 _ fun v1 H2 k2 S2 d2 => fun kd np => by
    refine ⟨kd :: M, rows, N, b, u, v0, v1, kd, fun a ha => ?_, List.mem_cons_self, rfl, dp_same (new_keep np) (dp_same k2 d1), dp_same (new_keep np) d2, ⟨_, upd_same, memo_nil⟩, hb1, hN, hrl, hu, hn, fun H' f k' => ?_⟩
    · rcases List.mem_cons.mp ha with q | q
      · subst q; rw [upd_same]; simp
      · have ne : a ≠ kd := fun z => S2.al a q (z ▸ np)
        rw [upd_ne ne]; exact S2.al a q
    · have sm : Same H2 H' := fun a o e => f a o (by simpa using ne_of_none e np) (by rw [upd_ne (ne_of_none e np)]; exact e)
      exact q _ H' (k1.trans (k2.trans (same_keep sm))) (S2.mono sm) (.int _)⟩
theorem rows_len {P : List (List Nat)} {S : List Nat} : (FbM.rowsOf P S).length ≤ P.length := by
  unfold FbM.rowsOf
  rw [List.length_map]; exact tests_len
/-- a state that the game may begin with -/
structure Beg (P : List (List Nat)) (S : List Nat) (t : List Int) (b : Nat) : Prop where
  ok : StateOk (cls P S).length b t
  few : (b + 2) ^ (cls P S).length ≤ 20000
  lives : lives t ≤ 12
section
variable {Pg : Program} {w : World} {K : PySem.W.Frag} {mg : Str → Option Value} {base : Heap}
def dFrom (ds : List PyData) (d : PyData) : Prop := ∃ (P : List (List Nat)) (S : List Nat) (t : List Int) (b : Nat), HV P ∧ Beg P S t b ∧ ds = [histD P, tN S, tI t] ∧ d = .int (FbM.value (FbM.rowsOf P S) t)
theorem ok_fewest_from (T : Txt K mg) : Cal Pg w K mg base 16 "fewest_from" (spP dFrom) := by
  refine pure_of (df_fewest_from T) T.g_fewest_from (fun ds d ⟨_, _, _, _, _, _, e, _⟩ => by rw [e]; rfl) fun cdv A outer s H E hr M R ds d D hd O => ?_
  obtain ⟨P, S, t, b, hV, hB, rfl, rfl⟩ := hd
  have hP := hV.le
  have hC := FbM.cls_le (P := P) (S := S)
  have hl := rows_len (P := P) (S := S)
  refine go_expr (ecall (ok_check_size T) hr (ea_cons (en 2) ea_nil) ⟨_, b, t, hB.ok, hB.few, by omega, rfl, rfl⟩) ?_
  exact go_ret (evalue_new (ok_value T 12) hr (by decide) (ecall (ok_rows_of T) hr (ea_cons (en 0) (ea_cons (en 1) ea_nil)) ⟨P, S, hV, rfl, rfl⟩) (en 2) hB.few (by omega) (by omega) hB.ok hB.lives) O.rt
def dFewest (ds : List PyData) (d : PyData) : Prop := ∃ (P : List (List Nat)) (S : List Nat) (k : Nat), HV P ∧ Beg P S (List.replicate (cls P S).length (k : Int)) k ∧ ds = [histD P, tN S, iN k] ∧ d = .int (FbM.value (FbM.rowsOf P S) (List.replicate (cls P S).length (k : Int)))
theorem ok_fewest (T : Txt K mg) : Cal Pg w K mg base 17 "fewest" (spP dFewest) := by
  refine pure_of (df_fewest T) T.g_fewest (fun ds d ⟨_, _, _, _, _, e, _⟩ => by rw [e]; rfl) fun cdv A outer s H E hr M R ds d D hd O => ?_
  obtain ⟨P, S, k, hV, hB, rfl, rfl⟩ := hd
  exact go_ret (ecall (ok_fewest_from T) hr (ea_cons (en 0) (ea_cons (en 1) (ea_cons (ecall (ok_start T) hr (ea_cons (en 0) (ea_cons (en 1) (ea_cons (en 2) ea_nil))) ⟨P, S, k, hV, rfl, rfl⟩) ea_nil))) ⟨P, S, _, k, hV, hB, rfl, rfl⟩) O.rt
def dBest (ds : List PyData) (d : PyData) : Prop := ∃ (P : List (List Nat)) (S : List Nat) (t : List Int) (b : Nat), HV P ∧ Beg P S t b ∧ ds = [histD P, tN S, tI t] ∧ d = treeD (tree (FbM.rowsOf P S) t)
theorem ok_best_tree (T : Txt K mg) : Cal Pg w K mg base 17 "best_tree" (spP dBest) := by
  refine pure_of (df_best_tree T) T.g_best_tree (fun ds d ⟨_, _, _, _, _, _, e, _⟩ => by rw [e]; rfl) fun cdv A outer s H E hr M R ds d D hd O => ?_
  obtain ⟨P, S, t, b, hV, hB, rfl, rfl⟩ := hd
  have hP := hV.le
  have hC := FbM.cls_le (P := P) (S := S)
  have hl := rows_len (P := P) (S := S)
  have hp : Parts (FbM.rowsOf P S) (cls P S).length := FbM.rows_parts
  have hv := FbM.value_le_lives hp _ t hB.ok.1 (Nat.le_refl _)
  have hL := hB.lives
  refine go_expr (ecall (ok_check_size T) hr (ea_cons (en 2) ea_nil) ⟨_, b, t, hB.ok, hB.few, by omega, rfl, rfl⟩) ?_
  refine go_set 3 sc_best_tree.nd (ecall (ok_rows_of T) hr (ea_cons (en 0) (ea_cons (en 1) ea_nil)) ⟨P, S, hV, rfl, rfl⟩) ?_
  refine go_newdict (rows := FbM.rowsOf P S) (N := (cls P S).length) (b := b) 4 sc_best_tree.nd (fun kd R' hR tr => ?_)
  refine go_skip (ET.cast (tcmp (ecall_val 4 (ok_value T 12) hr (by decide) (en 3) (en 2) List.mem_cons_self hB.few (by omega) (by omega) hB.ok hB.lives (fun H' r => (hR H' r).2) tr) (eg_int T.i_MOST_DEPTH) bd_gt) (decide_eq_false (by omega))) ?_
  exact go_ret (ecall_m 4 (ok_tree_of T 12) hr (by decide) (en 3) (en 2) List.mem_cons_self hB.few (by omega) (by omega) hB.ok hB.lives hp (fun H' r => (hR H' r).2) tr) fun v H' r dv => O.rt v H' (hR H' r).1 (dat_sub dv fun a ha => List.mem_cons_of_mem _ ha)
end
end Fb
namespace Fb
open PySem L2
open FbM (HV HL anc br contr canBe bad cntJ)
section
variable {X : Cx} {M : List Addr} {L : Own} {R : Hp → Prop} {ρ ρ' : Rho} {e tg : Expr} {d d1 : PyData} {es : List Expr} {ds : List PyData} {rest : List Stmt} {D : Ends} {pos : Pos} {js : List Nat}
/-- targets = e -/
theorem go_asg (h : ED X M L R ρ e d) (g : EG X M L R ρ tg d ρ' js) (k : Go X rest D M L R ρ') (hs : swapsWithSole [tg] e pos.line X.env = pure false := by rfl) (hw : swappedStores [tg] e X.env = pure none := by rfl)
    (h1 : (assignEach [tg] X.env).map (·.2) = [assign tg X.env] := by rfl) : Go X (.Assign [tg] e pos :: rest) D M L R ρ := fun σ H S =>
  wb_cons (ps_asg we wg hs hw h1) (h σ H S _ fun v H2 _ S2 d2 => g σ H2 v S2 d2 _ fun σ' S' _ _ => k σ' H2 S')
/-- x = [e] * n: a list of one's own -/
theorem go_newrep (i : Nat) {x : Str} {lp p0 ap : Pos} {n : Nat} {e1 : Expr} (hN : X.N.Nodup) (h1 : ED X M L R ρ e d1) (h2 : ED X M L R ρ e1 (iN n)) (hn : n < 1000)
    (k : ∀ a, Go X rest D (a :: M) ((a, List.replicate n d1) :: L) R (ρ.set i (some (.a (.ref a))))) (hi : X.N[i]? = some x := by rfl) (hx : Loc X.env.scope x := by first | exact Or.inl rfl | exact Or.inr rfl)
    (hst : starEach [e] X.env = (false, eval e X.env) :: starEach [] X.env := by rfl)
    (hs : swapsWith (.BinOp (.List [e] lp) .Mult e1 ap) (some (.Name x p0)) pos.line X.env = pure false := by rfl) (hf : X.fn x = true ∨ X.env.scope.names.lookup x = some .local := by first | exact .inl rfl | exact .inr rfl) :
    Go X (.Assign [.Name x p0] (.BinOp (.List [e] lp) .Mult e1 ap) pos :: rest) D M L R ρ := fun σ H S =>
  wb_cons (ps_set hN hi hx (pe_op op_rep we we) hs hf) (elst (ea_cons h1 ea_nil hst) (by simp) σ H S _ fun v H1 k1 S1 e1 => h2 σ H1 S1 _ fun w H2 k2 S2 e2 => by
    have f1 := dp_same k2 e1
    cases e2
    cases f1 with
    | @lst p vs _ g a =>
      refine ⟨p, (n : Int), vs, rfl, rfl, (hide_some g).2, by omega, by omega, ?_, fun l nl => ?_⟩
      · rw [a.len, sizeLine_eq]; simp; omega
      · have S3 := (S2.own_new nl (DtAll.rep a n)).set (i := i) (b := .a (.ref l)) rfl
        have e : (List.replicate n [d1]).flatten = List.replicate n d1 := by
          rw [List.flatten_replicate_singleton]
        rw [e] at S3
        rw [Int.toNat_natCast]
        exact k l _ _ S3)
end
/-! ### contradictions, can_be -/
abbrev wordS (b : Bool) : Str := if b then "broken" else "works"
abbrev ansD (a : Bool × Nat) : PyData := .tuple [.str (wordS a.1), iN a.2]
abbrev ansT (A : List (Bool × Nat)) : PyData := .tuple (A.map ansD)
theorem word_eq (b : Bool) : decide (wordS b = "broken") = b := by
  cases b
  · exact decide_eq_false fun h => works_ne h.symm
  · exact decide_eq_true rfl
theorem cl_get {f : Nat → PyData} {n i : Nat} (h : i < n) : ((List.range n).map f)[i]? = some (f i) := by
  rw [List.getElem?_map, List.getElem?_range h]; rfl
theorem cl_set {f g : Nat → PyData} {n j : Nat} {x : PyData} (h : ∀ c, c < n → g c = if c = j then x else f c) : ((List.range n).map f).set j x = (List.range n).map g := by
  apply List.ext_getElem?
  intro i
  by_cases hi : i < n
  · rw [List.getElem?_map, List.getElem?_range hi]
    by_cases e : j = i
    · subst e
      rw [List.getElem?_set_self (by simpa using hi)]
      show some x = some (g j)
      rw [h j hi, if_pos rfl]
    · rw [List.getElem?_set_ne e, List.getElem?_map, List.getElem?_range hi]
      show some (f i) = some (g i)
      rw [h i hi, if_neg (fun z => e z.symm)]
  · rw [List.getElem?_eq_none (by simp; omega), List.getElem?_eq_none (by simp; omega)]
section
variable {Pg : Program} {w : World} {K : PySem.W.Frag} {mg : Str → Option Value} {base : Heap}
def dContr (ds : List PyData) (d : PyData) : Prop := ∃ (P : List (List Nat)) (A : List (Bool × Nat)), HV P ∧ (∀ a ∈ A, a.2 < P.length) ∧ A.length ≤ 1000 ∧ ds = [histD P, ansT A] ∧ d = .tuple ((List.range P.length).map fun c => iN (contr P A c))
theorem ok_contradictions (T : Txt K mg) : Cal Pg w K mg base 2 "contradictions" (spP dContr) := by
  refine pure_of (df_contradictions T) T.g_contradictions (fun ds d ⟨_, _, _, _, _, e, _⟩ => by rw [e]; rfl) fun cdv A outer s H E hr M R ds d D hd O => ?_
  obtain ⟨P, As, hV, hA, hL, rfl, rfl⟩ := hd
  have hP := hV.le
  refine go_newrep (n := P.length) 2 sc_contradictions.nd ec_int (elenT T.z_len (eix (en 0) ec_int (ix_t (i := 1) rfl))) (by omega) fun a => ?_
  refine go_for (l := As) (enc := ansD) (fun _ => [some (.d (histD P)), some (.d (ansT As)), some (.a (.ref a)), none, none, none, none])
    (fun i => [(a, (List.range P.length).map fun c => iN (contr P (As.take i) c))])
    (fun _ x => [some (.d (histD P)), some (.d (ansT As)), some (.a (.ref a)), some (.d (.str (wordS x.1))), some (.d (iN x.2)), none, none]) PassesOwn.never rfl
    (ei_tup (en 1)) (fun σ H W => ?_) (fun G i r _ => eg_tup rfl (egs_cons (eg_name 3 sc_contradictions.nd) (egs_cons (eg_name 4 sc_contradictions.nd) egs_nil))) (fun G hG i x hx => ?_) ?_
  · have e : List.replicate P.length (PyData.int 0) = (List.range P.length).map fun c => iN (contr P (As.take 0) c) := by
      symm
      rw [List.eq_replicate_iff]
      refine ⟨by simp, fun y hy => ?_⟩
      obtain ⟨c, _, rfl⟩ := List.mem_map.mp hy
      rfl
    rw [e] at W
    exact W.less ⟨rfl, rfl, rfl, trivial⟩
  · have hm : x.2 < P.length := hA x (List.mem_of_getElem? hx)
    have hi : i < As.length := (List.getElem?_eq_some_iff.mp hx).1
    refine go_set 5 sc_contradictions.nd (ecall (ok_ancestors T) hr (ea_cons (en 0) (ea_cons (en 4) ea_nil)) ⟨P, x.2, hV, hm, rfl, rfl⟩) ?_
    refine go_for (l := List.range P.length) (enc := iN) (fun _ => [some (.d (histD P)), some (.d (ansT As)), some (.a (.ref a)), some (.d (.str (wordS x.1))), some (.d (iN x.2)), some (.d (tN (anc P x.2))), none])
      (fun j => [(a, (List.range P.length).map fun c => iN (cntJ P As i x j c))])
      (fun _ c => [some (.d (histD P)), some (.d (ansT As)), some (.a (.ref a)), some (.d (.str (wordS x.1))), some (.d (iN x.2)), some (.d (tN (anc P x.2))), some (.d (iN c))]) (js := [6]) PassesOwn.never rfl
      (ei_range (ecallB_own 2 0 own_len T.z_len |>.cast (by rw [List.length_map, List.length_range])) T.z_range (by omega)) (fun σ H W => ?_) (fun G i x _ => eg_name 6 sc_contradictions.nd) (fun G' hG' j c hc => ?_) ?_
    · have e : (fun c => iN (contr P (As.take i) c)) = fun c => iN (cntJ P As i x 0 c) := by
        funext c
        unfold FbM.cntJ
        simp
      rw [e] at W
      exact W.less ⟨rfl, rfl, rfl, rfl, rfl, rfl, trivial⟩
    · obtain ⟨rfl, hj⟩ := range_get hc
      have hcj : FbM.cntJ P As i x j j = contr P (As.take i) j := by
        unfold FbM.cntJ
        simp
      refine go_if (b := bad P x j) (ET.cast (tcmp (ecmp (en 6) (en 5) bd_inTN) (ecmp (en 3) ec_str bd_eqS) bd_neB) (by rw [br_anc hV, word_eq]; rfl)) (fun hb => ?_) (fun hb => ?_)
      · refine go_put 2 0 (k := j) (ds := (List.range P.length).map fun c => iN (cntJ P As i x j c)) (eb (eix_own 2 0 (en 6) (cl_get (f := fun c => iN (cntJ P As i x j c)) hj)) ec_int bd_add) (en 6) (by rw [List.length_map, List.length_range]; exact hj) (go_end (go_nil fun σ H W => ?_))
        have e : ((List.range P.length).map fun c => iN (cntJ P As i x j c)).set j (.int (((cntJ P As i x j j : Nat) : Int) + 1)) = (List.range P.length).map fun c => iN (cntJ P As i x (j + 1) c) := cl_set fun c _ => by
          by_cases q : c = j
          · subst q
            rw [if_pos rfl]
            show PyData.int _ = PyData.int _
            rw [hcj]
            have e2 : FbM.cntJ P As i x (c + 1) c = contr P (As.take i) c + 1 := by
              unfold FbM.cntJ
              rw [if_pos ⟨by omega, hb⟩]
            rw [e2]
            rfl
          · rw [if_neg q]
            have : FbM.cntJ P As i x (j + 1) c = FbM.cntJ P As i x j c := by
              unfold FbM.cntJ
              have : c < j + 1 ↔ c < j := by omega
              simp [this]
            rw [this]
        rw [e] at W
        exact W.less ⟨rfl, rfl, rfl, rfl, rfl, rfl, trivial⟩
      · refine go_end (go_nil fun σ H W => ?_)
        have e : (fun c => iN (cntJ P As i x j c)) = fun c => iN (cntJ P As i x (j + 1) c) := by
          funext c
          have : FbM.cntJ P As i x (j + 1) c = FbM.cntJ P As i x j c := by
            unfold FbM.cntJ
            by_cases q : c = j
            · subst q
              rw [hb]; simp
            · have : c < j + 1 ↔ c < j := by omega
              simp [this]
          rw [this]
        rw [e] at W
        exact W.less ⟨rfl, rfl, rfl, rfl, rfl, rfl, trivial⟩
    · refine go_nil fun σ H W => ?_
      have e : ((List.range P.length).map fun c => iN (cntJ P As i x (List.range P.length).length c)) = (List.range P.length).map fun c => iN (contr P (As.take (i + 1)) c) := by
        apply List.map_congr_left
        intro c hc
        rw [FbM.contr_succ hx, List.length_range]
        unfold FbM.cntJ
        have := List.mem_range.mp hc
        by_cases q : bad P x c = true <;> simp [q, this]
      rw [e] at W
      exact W.less ⟨rfl, rfl, rfl, trivial⟩
  · refine go_ret (ED.cast (ecallT_own 2 0 own_tup T.z_tuple) (by rw [List.take_length])) O.rt1
def dCan (ds : List PyData) (d : PyData) : Prop := ∃ (P : List (List Nat)) (A : List (Bool × Nat)) (k : Nat), HV P ∧ (∀ a ∈ A, a.2 < P.length) ∧ A.length ≤ 1000 ∧ ds = [histD P, ansT A, iN k] ∧ d = tN (canBe P A k)
theorem ok_can_be (T : Txt K mg) : Cal Pg w K mg base 3 "can_be_answers" (spP dCan) := by
  refine pure_of (df_can_be T) T.g_can_be (fun ds d ⟨_, _, _, _, _, _, e, _⟩ => by rw [e]; rfl) fun cdv A outer s H E hr M R ds d D hd O => ?_
  obtain ⟨P, As, k, hV, hA, hL, rfl, rfl⟩ := hd
  have hP := hV.le
  refine go_set 3 sc_can_be.nd (ecall (ok_contradictions T) hr (ea_cons (en 0) (ea_cons (en 1) ea_nil)) ⟨P, As, hV, hA, hL, rfl, rfl⟩) ?_
  exact go_ret (etupL T.z_tuple (elc1 4 (l := List.range P.length) (enc := iN) (N := N_can_be) (sc := defScope s_can_be) (fun c => decide (contr P As c ≤ k)) iN sc_can_be.nd (by decide +kernel)
    (ei_range (elenT T.z_len (en 3)) T.z_range (by omega)) (fun _ _ _ _ _ _ _ c hc => ets_one (ET.cast (tcmp (eix (en 3) (en 4) (ix_t (cl_get (List.mem_range.mp hc)))) (en 2) bd_le) (decide_eq_decide.mpr (by omega)))) (fun _ _ _ _ _ _ _ c _ _ => en 4) (by simp; omega))) O.rt
end
end Fb
namespace Fb
open PySem L2
open FbM (HV HL anc br)
theorem letters_in : ∀ k < 24, (97 + k) ∈ ("abcdefghijklmnopqrstuvwxyz" : Str).cps.toList := by decide +kernel
theorem letter_v : 118 ∈ ("abcdefghijklmnopqrstuvwxyz" : Str).cps.toList := by decide +kernel
theorem nameS_inj {a b : Nat} (h : nameS a = nameS b) : a = b := by
  unfold nameS at h
  injection h with h
  have := congrArg Array.toList h
  simp at this
  omega
section
variable {X : Cx} {M : List Addr} {L : Own} {R : Hp → Prop} {ρ : Rho} {e a b : Expr} {rest : List Expr} {pos : Pos} {p q : Bool}
theorem wor00 (h : ET X M L R ρ a false) (h2 : EW X M L R ρ (.BoolOp .Or (b :: rest) pos) false) : EW X M L R ρ (.BoolOp .Or (a :: b :: rest) pos) false := wor (p := false) (q := false) h fun _ => h2
end
section
variable {Pg : Program} {w : World} {K : PySem.W.Frag} {mg : Str → Option Value} {base : Heap}
def dIsInt (ds : List PyData) (d : PyData) : Prop := ∃ i : Int, ds = [.int i] ∧ d = .bool true
theorem ok_is_index (T : Txt K mg) : Cal Pg w K mg base 1 "is_index" (spP dIsInt) := by
  refine pure_of (df_is_index T) T.g_is_index (fun ds d ⟨_, e, _⟩ => by rw [e]; rfl) fun cdv A outer s H E hr M R ds d D hd O => ?_
  obtain ⟨i, rfl, rfl⟩ := hd
  exact go_ret (eand (p := true) (q := true) (eisi (t := "int") T.z_isinstance T.z_int (en 0) (kit_ty (a := "int") (b := "int") (r := true) (by decide))) fun _ => eone (enot (p := false) (eisi (t := "bool") T.z_isinstance T.z_bool (en 0) (kit_ty (a := "int") (b := "bool") (r := false) (by decide))))) O.rt
theorem ok_is_integer (T : Txt K mg) : Cal Pg w K mg base 1 "is_integer" (spP dIsInt) := by
  refine pure_of (df_is_integer T) T.g_is_integer (fun ds d ⟨_, e, _⟩ => by rw [e]; rfl) fun cdv A outer s H E hr M R ds d D hd O => ?_
  obtain ⟨i, rfl, rfl⟩ := hd
  exact go_ret (eand (p := true) (q := true) (eisi (t := "int") T.z_isinstance T.z_int (en 0) (kit_ty (a := "int") (b := "int") (r := true) (by decide))) fun _ => eone (enot (p := false) (eisi (t := "bool") T.z_isinstance T.z_bool (en 0) (kit_ty (a := "int") (b := "bool") (r := false) (by decide))))) O.rt
def dIsName (ds : List PyData) (d : PyData) : Prop := ∃ k : Nat, k < 24 ∧ ds = [.str (nameS k)] ∧ d = .bool true
theorem ok_is_name (T : Txt K mg) : Cal Pg w K mg base 1 "is_name" (spP dIsName) := by
  refine pure_of (df_is_name T) T.g_is_name (fun ds d ⟨_, _, e, _⟩ => by rw [e]; rfl) fun cdv A outer s H E hr M R ds d D hd O => ?_
  obtain ⟨k, hk, rfl, rfl⟩ := hd
  refine go_ret (eand (p := true) (q := true) (echain (p := true) (q := true) ec_int (ecallB (cd_lenS (z := nameS k) (by show 2 ≤ 1000; decide)) T.z_len (ea_cons (en 0) ea_nil)) (bd_le (i := 1) (j := 2)) (fun _ => ec_int) (fun _ => bd_le (i := 2) (j := 8)) ⟨_, op_le⟩) fun _ => eone
    (ecallB (cd_all (bs := [true, true]) rfl) T.z_all (ea_cons (elcM 1 (l := [118, 97 + k]) (enc := fun c => PyData.str ⟨#[c]⟩) (N := N_is_name) (sc := defScope s_is_name) (fun c => .bool true) sc_is_name.nd (by decide +kernel)
      (ei_str (z := nameS k) (en 0)) (fun _ _ _ _ _ _ _ c hc => ED.cast (ecmp (en 1) (eg_str T.i_LETTERS) bd_inSign) ?_) (by simp)) ea_nil))) O.rt
  congr 1
  refine decide_eq_true ?_
  rcases List.mem_cons.mp hc with e | hc
  · subst e; exact letter_v
  · rcases List.mem_cons.mp hc with e | hc
    · subst e; exact letters_in k hk
    · cases hc
/-! ### has_shape -/
def dHas (ds : List PyData) (d : PyData) : Prop := ∃ P : List (List Nat), P.length ≤ 24 ∧ (∀ k, (P.getD k []).length ≤ 1000) ∧ ds = [histD P] ∧ d = .bool true
theorem ok_has_shape (T : Txt K mg) : Cal Pg w K mg base 2 "has_shape" (spP dHas) := by
  refine pure_of (df_has_shape T) T.g_has_shape (fun ds d ⟨_, _, _, e, _⟩ => by rw [e]; rfl) fun cdv A outer s H E hr M R ds d D hd O => ?_
  obtain ⟨P, hP, h4, rfl, rfl⟩ := hd
  refine go_skip (tw (wor00 (tnot (p := true) (tval (eisi (t := "tuple") T.z_isinstance T.z_tuple (en 0) (kit_ty (a := "tuple") (b := "tuple") (r := true) (by decide))))) (wor1 (tcmp (elenT (n := 2) T.z_len (en 0)) ec_int (bd_neI (i := 2) (j := 2)))))) ?_
  refine go_skip (tw (wor00 (tnot (p := true) (tval (eisi (t := "str") T.z_isinstance T.z_str (eix (en 0) ec_int (ix_t (i := 0) rfl)) (kit_ty (a := "str") (b := "str") (r := true) (by decide)))))
    (wor00 (ET.cast (tcmp (eix (en 0) ec_int (ix_t (i := 0) rfl)) ec_str bd_neS) (by simp)) (wor1 (tnot (p := true) (tval (eisi (t := "tuple") T.z_isinstance T.z_tuple (eix (en 0) ec_int (ix_t (i := 1) rfl)) (kit_ty (a := "tuple") (b := "tuple") (r := true) (by decide))))))))) ?_
  refine go_for (l := List.range P.length) (enc := makeD P) (fun _ => [some (.d (histD P)), none, none]) (fun _ => [])
    (fun _ k => [some (.d (histD P)), some (.d (makeD P k)), none]) (js := [1]) PassesOwn.never rfl
    (ei_tup (eix (en 0) ec_int (ix_t (i := 1) rfl))) (fun σ H W => W.less ⟨rfl, trivial⟩) (fun G i x _ => eg_name 1 sc_has_shape.nd) (fun G hG i k hk => ?_) ?_
  · refine go_skip (tw (wor00 (tnot (p := true) (tval (eisi (t := "tuple") T.z_isinstance T.z_tuple (en 1) (kit_ty (a := "tuple") (b := "tuple") (r := true) (by decide)))))
      (wor00 (tcmp (elenT (n := 2) T.z_len (en 1)) ec_int (bd_neI (i := 2) (j := 2))) (wor1 (tnot (p := true) (tval (eisi (t := "str") T.z_isinstance T.z_str (eix (en 1) ec_int (ix_t (i := 0) rfl)) (kit_ty (a := "str") (b := "str") (r := true) (by decide))))))))) ?_
    refine go_skip (tw (wor00 (tnot (p := true) (tval (eisi (t := "tuple") T.z_isinstance T.z_tuple (eix (en 1) ec_int (ix_t (i := 1) rfl)) (kit_ty (a := "tuple") (b := "tuple") (r := true) (by decide)))))
      (wor1 (tnot (p := true) (tval (ED.cast (ecallB (cd_all (bs := (P.getD k []).map fun _ => true) rfl) T.z_all (ea_cons (ED.cast (elcM 2 (l := P.getD k []) (enc := iN) (N := N_has_shape) (sc := defScope s_has_shape) (fun c => .bool true) sc_has_shape.nd (by decide +kernel)
        (ei_tup (eix (en 1) ec_int (ix_t (i := 1) rfl))) (fun _ _ _ _ _ _ _ c hc => ecall (ok_is_index T) hr (ea_cons (en 2) ea_nil) ⟨_, rfl, rfl⟩) (by have := h4 k; omega)) (by rw [List.map_map]; rfl)) ea_nil)) (by simp))))))) ?_
    exact go_nil fun σ H W => W.less ⟨rfl, trivial⟩
  · exact go_ret ec_bool O.rt
end
end Fb
namespace Fb
open PySem L2
open FbM (HV HL anc br)
theorem pw_get {r : List Nat} (h : r.Pairwise (· < ·)) {i j a b : Nat} (hi : r[i]? = some a) (hj : r[j]? = some b) (hij : i < j) : a < b := by
  obtain ⟨l1, e1⟩ := List.getElem?_eq_some_iff.mp hi
  obtain ⟨l2, e2⟩ := List.getElem?_eq_some_iff.mp hj
  have := List.pairwise_iff_getElem.mp h i j l1 l2 hij
  omega
section
variable {Pg : Program} {w : World} {K : PySem.W.Frag} {mg : Str → Option Value} {base : Heap}
def dAre (ds : List PyData) (d : PyData) : Prop := ∃ (r : List Nat) (n : Nat), r.length ≤ 4 ∧ r.Pairwise (· < ·) ∧ (∀ x ∈ r, x < n) ∧ ds = [tN r, iN n] ∧ d = .bool true
theorem ok_are_parents (T : Txt K mg) : Cal Pg w K mg base 1 "are_parents" (spP dAre) := by
  refine pure_of (df_are_parents T) T.g_are_parents (fun ds d ⟨_, _, _, _, _, e, _⟩ => by rw [e]; rfl) fun cdv A outer s H E hr M R ds d D hd O => ?_
  obtain ⟨r, n, h4, hs, hl, rfl, rfl⟩ := hd
  refine go_skip (ET.cast (tcmp (elenT (n := r.length) T.z_len (en 0)) (eg_int T.i_MOST_PARENTS) bd_gt) (decide_eq_false (by omega))) ?_
  refine go_for (l := List.range r.length) (enc := iN) (fun _ => [some (.d (tN r)), some (.d (iN n)), none]) (fun _ => [])
    (fun _ k => [some (.d (tN r)), some (.d (iN n)), some (.d (iN k))]) (js := [2]) PassesOwn.never rfl
    (ei_range (elenT (n := r.length) T.z_len (en 0)) T.z_range (by omega)) (fun σ H W => W.less ⟨rfl, rfl, trivial⟩) (fun G i x _ => eg_name 2 sc_are_parents.nd) (fun G hG i k hk => ?_) ?_
  · obtain ⟨rfl, hi⟩ := range_get hk
    have hg : r[i]? = some r[i] := List.getElem?_eq_getElem hi
    have hx : r[i] < n := hl _ (List.getElem_mem hi)
    refine go_skip (tw (wor00 (tnot (p := true) (ET.cast (tchain ec_int (eix (en 0) (en 2) (ix_t (map_get hg))) bd_le (fun _ => en 1) (fun _ => bd_lt) ⟨_, op_lt⟩) (by
      rw [decide_eq_true (by omega : (0 : Int) ≤ ((r[i] : Nat) : Int)), decide_eq_true (by omega : ((r[i] : Nat) : Int) < (n : Int))]; rfl)))
      (wor1 (ET.cast (tw (wand (p := decide (0 < i)) (q := false) (ET.cast (tcmp (en 2) ec_int bd_gt) (decide_eq_decide.mpr (by omega))) (fun h0 => wand1 ?_))) (by simp))))) ?_
    · have h0 := of_decide_eq_true h0
      have hg' : r[i - 1]? = some r[i - 1] := List.getElem?_eq_getElem (by omega)
      have := pw_get hs hg' hg (by omega)
      exact ET.cast (tcmp (eix (en 0) (eb (en 2) ec_int bd_sub) (ix_tz (map_get hg') (by omega))) (eix (en 0) (en 2) (ix_t (map_get hg))) bd_ge) (decide_eq_false (by omega))
    · exact go_nil fun σ H W => W.less ⟨rfl, rfl, trivial⟩
  · exact go_ret ec_bool O.rt
def dEnds (ds : List PyData) (d : PyData) : Prop := ∃ P : List (List Nat), 1 ≤ P.length ∧ P.length ≤ 24 ∧ ds = [makesD P] ∧ d = .none
theorem ok_check_ends (T : Txt K mg) : Cal Pg w K mg base 1 "check_ends" (spP dEnds) := by
  refine pure_of (df_check_ends T) T.g_check_ends (fun ds d ⟨_, _, _, e, _⟩ => by rw [e]; rfl) fun cdv A outer s H E hr M R ds d D hd O => ?_
  obtain ⟨P, h1, h2, rfl, rfl⟩ := hd
  refine go_skip (ET.cast (tcmp (elenT (n := P.length) T.z_len (en 0)) ec_int bd_eqI) (decide_eq_false (by omega))) ?_
  refine go_skip (ET.cast (tcmp (elenT (n := P.length) T.z_len (en 0)) (eg_int T.i_MOST_MAKES) bd_gt) (decide_eq_false (by omega))) ?_
  exact go_nil fun σ H W => O.nx rfl σ H W.r0
def dLast (ds : List PyData) (d : PyData) : Prop := ∃ P : List (List Nat), HL P ∧ ds = [makesD P] ∧ d = .none
theorem ok_check_last (T : Txt K mg) : Cal Pg w K mg base 2 "check_last" (spP dLast) := by
  refine pure_of (df_check_last T) T.g_check_last (fun ds d ⟨_, _, e, _⟩ => by rw [e]; rfl) fun cdv A outer s H E hr M R ds d D hd O => ?_
  obtain ⟨P, hL, rfl, rfl⟩ := hd
  have h1 := hL.pos
  refine go_skip (ET.cast (tcmp (elenT (n := (anc P (P.length - 1)).length) T.z_len (ecall (ok_ancestors T) hr (ea_cons (etup (ea_cons ec_str (ea_cons (en 0) ea_nil))) (ea_cons (ED.cast (eb (elenT (n := P.length) T.z_len (en 0)) ec_int bd_sub) (d' := iN (P.length - 1)) (by congr 1; omega)) ea_nil)) ⟨P, P.length - 1, hL.toHV, by omega, rfl, rfl⟩)) (elenT (n := P.length) T.z_len (en 0)) bd_neI) (by rw [hL.whole]; simp)) ?_
  exact go_nil fun σ H W => O.nx rfl σ H W.r0
def dCheck (ds : List PyData) (d : PyData) : Prop := ∃ P : List (List Nat), HL P ∧ ds = [histD P] ∧ d = .none
theorem ok_check_history (T : Txt K mg) : Cal Pg w K mg base 3 "check_history" (spP dCheck) := by
  refine pure_of (df_check_history T) T.g_check_history (fun ds d ⟨_, _, e, _⟩ => by rw [e]; rfl) fun cdv A outer s H E hr M R ds d D hd O => ?_
  obtain ⟨P, hL, rfl, rfl⟩ := hd
  have h1 := hL.pos
  have h2 := hL.le
  refine go_skip (tnot (p := true) (tval (ecall (ok_has_shape T) hr (ea_cons (en 0) ea_nil) ⟨P, hL.le, fun k => by have := hL.four k; omega, rfl, rfl⟩))) ?_
  refine go_expr (ecall (ok_check_ends T) hr (ea_cons (eix (en 0) ec_int (ix_t (i := 1) rfl)) ea_nil) ⟨P, h1, h2, rfl, rfl⟩) ?_
  refine go_new 1 sc_check_history.nd ea_nil fun a => ?_
  refine go_for (l := List.range P.length) (enc := iN) (fun _ => [some (.d (histD P)), some (.a (.ref a)), none, none, none]) (fun i => [(a, ((List.range i).map nameS).map PyData.str)])
    (fun _ k => [some (.d (histD P)), some (.a (.ref a)), some (.d (iN k)), none, none]) (js := [2]) PassesOwn.never rfl
    (ei_range (elenT (n := P.length) T.z_len (eix (en 0) ec_int (ix_t (i := 1) rfl))) T.z_range (by omega)) (fun σ H W => W.less ⟨rfl, rfl, trivial⟩) (fun G i x _ => eg_name 2 sc_check_history.nd) (fun G hG i k hk => ?_) ?_
  · obtain ⟨rfl, hi⟩ := range_get hk
    refine go_asg (d := makeD P i) (eix (eix (en 0) ec_int (ix_t (i := 1) rfl)) (en 2) (ix_t (makes_get hi))) (eg_tup rfl (egs_cons (eg_name 3 sc_check_history.nd) (egs_cons (eg_name 4 sc_check_history.nd) egs_nil))) ?_
    refine go_skip (tnot (p := true) (tval (ecall (ok_is_name T) hr (ea_cons (en 3) ea_nil) ⟨i, by omega, rfl, rfl⟩))) ?_
    refine go_skip (ET.cast (tcmp_own 1 0 (en 3) bd_inLS) (decide_eq_false fun q => ?_)) ?_
    · obtain ⟨j, hj, e⟩ := List.mem_map.mp q
      have := nameS_inj e
      have := List.mem_range.mp hj
      omega
    refine go_skip (tnot (p := true) (tval (ecall (ok_are_parents T) hr (ea_cons (en 4) (ea_cons (en 2) ea_nil)) ⟨P.getD i [], i, hL.four i, hL.sorted i, fun x hx => hL.lt i x hx, rfl, rfl⟩))) ?_
    refine go_app 1 0 (en 3) (go_nil fun σ H W => ?_) (hl := by simp; omega)
    have e : ((List.range i).map nameS).map PyData.str ++ [.str (nameS i)] = ((List.range (i + 1)).map nameS).map PyData.str := by
      rw [List.range_succ, List.map_append, List.map_append]; rfl
    rw [← e]
    exact W.less ⟨rfl, rfl, trivial⟩
  · refine go_expr (ecall (ok_check_last T) hr (ea_cons (eix (en 0) ec_int (ix_t (i := 1) rfl)) ea_nil) ⟨P, hL, rfl, rfl⟩) ?_
    exact go_nil fun σ H W => O.nx rfl σ H W.r0
/-! ### is_shaped -/
inductive Deed where
  | ans (b : Bool) (m : Nat)
  | skip (m : Nat)
def deedD : Deed → PyData
  | .ans b m => .tuple [.str "answer", .str (wordS b), .str (nameS m)]
  | .skip m => .tuple [.str "skip", .str (nameS m)]
theorem skip_ne : ¬ (("skip" : Str) = "answer") := by decide +kernel
theorem skip_ne2 : ¬ (("skip" : Str) = "take") := by decide +kernel
def dShaped (ds : List PyData) (d : PyData) : Prop := ∃ a : Deed, ds = [deedD a] ∧ d = .bool true
theorem ok_is_shaped (T : Txt K mg) : Cal Pg w K mg base 2 "is_shaped" (spP dShaped) := by
  refine pure_of (df_is_shaped T) T.g_is_shaped (fun ds d ⟨_, e, _⟩ => by rw [e]; rfl) fun cdv A outer s H E hr M R ds d D hd O => ?_
  obtain ⟨a, rfl, rfl⟩ := hd
  cases a with
  | ans b m =>
    refine go_skip (tw (wor00 (tnot (p := true) (tval (eisi (t := "tuple") T.z_isinstance T.z_tuple (en 0) (kit_ty (a := "tuple") (b := "tuple") (r := true) (by decide)))))
      (wor00 (tcmp (elenT (n := 3) T.z_len (en 0)) ec_int (bd_eqI (i := 3) (j := 0))) (wor1 (tnot (p := true) (tval (eisi (t := "str") T.z_isinstance T.z_str (eix (en 0) ec_int (ix_t (i := 0) rfl)) (kit_ty (a := "str") (b := "str") (r := true) (by decide))))))))) ?_
    refine go_ifT (ET.cast (tcmp (eix (en 0) ec_int (ix_t (i := 0) rfl)) ec_str bd_eqS) (decide_eq_true rfl)) ?_
    refine go_ret (eand (p := true) (q := true) (ecmp (elenT (n := 3) T.z_len (en 0)) ec_int (bd_eqI (i := 3) (j := 3))) fun _ => eand (p := true) (q := true) (ED.cast (ecmp (eix (en 0) ec_int (ix_t (i := 1) rfl)) (etup (ea_cons ec_str (ea_cons ec_str ea_nil))) (bd_inTS (ns := ["broken", "works"]))) ?_) fun _ => eone (eisi (t := "str") T.z_isinstance T.z_str (eix (en 0) ec_int (ix_t (i := 2) rfl)) (kit_ty (a := "str") (b := "str") (r := true) (by decide)))) O.rt
    congr 1
    refine decide_eq_true ?_
    cases b <;> simp [wordS]
  | skip m =>
    refine go_skip (tw (wor00 (tnot (p := true) (tval (eisi (t := "tuple") T.z_isinstance T.z_tuple (en 0) (kit_ty (a := "tuple") (b := "tuple") (r := true) (by decide)))))
      (wor00 (tcmp (elenT (n := 2) T.z_len (en 0)) ec_int (bd_eqI (i := 2) (j := 0))) (wor1 (tnot (p := true) (tval (eisi (t := "str") T.z_isinstance T.z_str (eix (en 0) ec_int (ix_t (i := 0) rfl)) (kit_ty (a := "str") (b := "str") (r := true) (by decide))))))))) ?_
    refine go_skip (ET.cast (tcmp (eix (en 0) ec_int (ix_t (i := 0) rfl)) ec_str bd_eqS) (decide_eq_false skip_ne)) ?_
    refine go_skip (ET.cast (tcmp (eix (en 0) ec_int (ix_t (i := 0) rfl)) ec_str bd_eqS) (decide_eq_false skip_ne2)) ?_
    refine go_ret (eand (p := true) (q := true) (ED.cast (ecmp (eix (en 0) ec_int (ix_t (i := 0) rfl)) (etup (ea_cons ec_str (ea_cons ec_str ea_nil))) (bd_inTS (ns := ["skip", "unskip"]))) (by simp)) fun _ => eand (p := true) (q := true) (ecmp (elenT (n := 2) T.z_len (en 0)) ec_int (bd_eqI (i := 2) (j := 2))) fun _ => eone (eisi (t := "str") T.z_isinstance T.z_str (eix (en 0) ec_int (ix_t (i := 1) rfl)) (kit_ty (a := "str") (b := "str") (r := true) (by decide)))) O.rt
end
end Fb
namespace Fb
open PySem L2
/-! ### objects -/
inductive Fds (M : List Addr) (H : Hp) : List (Str × V) → List (Str × Bd) → Prop
  | nil : Fds M H [] []
  | cons {n : Str} {v : V} {b : Bd} {fs : List (Str × V)} {fd : List (Str × Bd)} : Bnd M H v b → Fds M H fs fd → Fds M H ((n, v) :: fs) ((n, b) :: fd)
abbrev Flds := List (Str × Bd)
def putB (f : Str) (v : Bd) : Flds → Flds
  | [] => [(f, v)]
  | (g, x) :: r => if g = f then (g, v) :: r else (g, x) :: putB f v r
theorem Fds.same {M M' : List Addr} {H H' : Hp} (k : Same (hide M H) (hide M' H')) : ∀ {fs fd}, Fds M H fs fd → Fds M' H' fs fd
  | _, _, .nil => .nil
  | _, _, .cons (b := b) h t => .cons (by cases b with | d d => exact dp_same k h | a w => exact h) (Fds.same k t)
theorem Fds.len {M : List Addr} {H : Hp} : ∀ {fs fd}, Fds M H fs fd → fs.length = fd.length
  | _, _, .nil => rfl
  | _, _, .cons _ t => by rw [List.length_cons, List.length_cons, Fds.len t]
theorem Fds.get {M : List Addr} {H : Hp} {f : Str} {b : Bd} : ∀ {fs fd}, Fds M H fs fd → fd.lookup f = some b → ∃ v, fs.lookup f = some v ∧ Bnd M H v b
  | _, _, .nil, e => by cases e
  | _, _, .cons (n := n) (v := v) (b := b') h t, e => by
    rw [List.lookup_cons] at e ⊢
    cases q : (f == n) with
    | true =>
      rw [q] at e
      cases e
      exact ⟨v, rfl, h⟩
    | false =>
      rw [q] at e
      exact Fds.get t e
theorem Fds.no {M : List Addr} {H : Hp} {f : Str} : ∀ {fs fd}, Fds M H fs fd → fd.lookup f = none → fs.lookup f = none
  | _, _, .nil, e => rfl
  | _, _, .cons (n := n) (v := v) (b := b') h t, e => by
    rw [List.lookup_cons] at e ⊢
    cases q : (f == n) with
    | true => rw [q] at e; cases e
    | false =>
      rw [q] at e
      exact Fds.no t e
theorem Fds.put {M : List Addr} {H : Hp} {f : Str} {v : V} {b : Bd} (q : Bnd M H v b) : ∀ {fs fd}, Fds M H fs fd → Fds M H (putF f v fs) (putB f b fd)
  | _, _, .nil => .cons q .nil
  | _, _, .cons (n := n) h t => by
    unfold putF putB
    by_cases e : n = f
    · rw [if_pos e, if_pos e]; exact .cons q t
    · rw [if_neg e, if_neg e]; exact .cons h (Fds.put q t)
/-- x is an instance of C with these fields -/
def Obj (M : List Addr) (C x : Addr) (fd : Flds) (H : Hp) : Prop := ∃ dx fs, H x = some (.ins C dx fs) ∧ Fds M H fs fd
theorem Obj.some {M : List Addr} {C x : Addr} {fd : Flds} {H : Hp} (h : Obj M C x fd H) : H x ≠ none := by
  obtain ⟨dx, fs, e, _⟩ := h
  rw [e]; simp
theorem Obj.keep {M : List Addr} {C x : Addr} {fd : Flds} {H H' : Hp} (h : Obj M C x fd H) (e : H' x = H x) (k : Keep M H H') : Obj M C x fd H' := by
  obtain ⟨dx, fs, e1, f⟩ := h
  exact ⟨dx, fs, e.trans e1, f.same k⟩
theorem obj_notin {M : List Addr} {L : Own} {R : Hp → Prop} {ρ : Rho} {σ : St} {H : Hp} {C x : Addr} {fd : Flds} (S : Sto M L R ρ σ H) (h : Obj M C x fd H) : ∀ a ∈ [x], a ∉ L.map (·.1) := fun a ha q => by
  simp at ha; subst ha
  obtain ⟨p, hp, e⟩ := List.mem_map.mp q
  obtain ⟨vs, h1, _⟩ := S.own p hp
  obtain ⟨dx, fs, h2, _⟩ := h
  have e : p.1 = a := e
  rw [e, h2] at h1
  cases h1
/-! ### what is known goes over -/
def TrK (C M : List Addr) (H' : Hp) (R R' : Hp → Prop) : Prop := ∀ H1 H2, R H1 → (∀ a, a ∉ C → H1 a = H2 a) → (∀ a ∈ C, H2 a = H' a) → Keep M H' H2 → R' H2
theorem TrK.and {C M : List Addr} {H' : Hp} {R R' G G' : Hp → Prop} (a : TrK C M H' R R') (b : TrK C M H' G G') : TrK C M H' (fun H => R H ∧ G H) (fun H => R' H ∧ G' H) := fun H1 H2 h e f k => ⟨a H1 H2 h.1 e f k, b H1 H2 h.2 e f k⟩
theorem Tr.k {C M : List Addr} {H' : Hp} {R : Hp → Prop} (t : Tr C H' R) : TrK C M H' R R := fun H1 H2 h e f _ => t H1 H2 h e f
theorem trk_obj {C M : List Addr} {D x : Addr} {fd : Flds} {H' : Hp} {R : Hp → Prop} (hx : x ∈ C) (h : Obj M D x fd H') : TrK C M H' R (Obj M D x fd) := fun H1 H2 _ _ f k => h.keep (f x hx) k
/-- an object that is not changed -/
theorem trk_obj0 {C M : List Addr} {D x : Addr} {fd : Flds} {H' : Hp} (hx : x ∉ C) (s : ∀ a ∈ C, a ∈ M) : TrK C M H' (Obj M D x fd) (Obj M D x fd) := fun H1 H2 h e _ _ => h.keep (e x hx).symm (keep_of fun a o ha q => by rw [← e a (fun z => ha (s a z))]; exact q)
theorem Sto.callR {M C : List Addr} {L : Own} {R R' : Hp → Prop} {ρ : Rho} {σ : St} {H H' : Hp} (S : Sto M L R ρ σ H) (cm : ∀ a ∈ C, a ∈ M) (cl : ∀ a ∈ C, a ∉ L.map (·.1)) (f : Fr C H H') (al : ∀ a ∈ C, H' a ≠ none) (tr : TrK C M H' R R') : Sto M L R' ρ σ H' where
  al := fun a ha => by
    by_cases h : a ∈ C
    · exact al a h
    · cases e : H a with
      | none => exact absurd e (S.al a ha)
      | some o => rw [f a o h e]; simp
  lm := S.lm
  nd := S.nd
  own := fun p hp => by
    obtain ⟨vs, h1, h2⟩ := S.own p hp
    exact ⟨vs, f _ _ (fun q => cl _ q (List.mem_map_of_mem hp)) h1, dpAll_same (f.keep cm) h2⟩
  r := fun H2 p2 => by
    have hR : R (fun a => if a ∈ C then H a else H2 a) := S.r _ fun a o ha e => by
      by_cases h : a ∈ C
      · show (if a ∈ C then H a else H2 a) = some o
        rw [if_pos h]; exact e
      · show (if a ∈ C then H a else H2 a) = some o
        rw [if_neg h]
        exact p2 a o ha (f a o h e)
    refine tr _ H2 hR (fun a ha => if_neg ha) (fun a ha => ?_) (pres_keep S.lm p2)
    cases e : H' a with
    | none => exact absurd e (al a ha)
    | some o => exact p2 a o (cl a ha) e
  len := S.len
  b := fun i b hb => by
    obtain ⟨v, h1, h2⟩ := S.b i b hb
    exact ⟨v, h1, h2.keep (f.keep cm)⟩
/-- a thing is born at x -/
def Lf (x : Addr) (R R' : Hp → Prop) : Prop := ∀ H1 H2, R H1 → H1 x = none → (∀ b, b ≠ x → H2 b = H1 b) → R' H2
theorem Lf.and {x : Addr} {R R' G G' : Hp → Prop} (a : Lf x R R') (b : Lf x G G') : Lf x (fun H => R H ∧ G H) (fun H => R' H ∧ G' H) := fun H1 H2 h n e => ⟨a H1 H2 h.1 n e, b H1 H2 h.2 n e⟩
theorem lf_fr {x : Addr} {C : List Addr} {H0 : Hp} : Lf x (Fr C H0) (Fr C H0) := fun H1 H2 h n e b o hb q => by
  have := h b o hb q
  rw [e b (ne_of_none this n)]; exact this
theorem lf_same {x : Addr} {M : List Addr} {H1 H2 : Hp} (n : H1 x = none) (e : ∀ b, b ≠ x → H2 b = H1 b) : Same (hide M H1) (hide (x :: M) H2) := fun b o q => by
  obtain ⟨h1, h2⟩ := hide_some q
  have ne : b ≠ x := ne_of_none h2 n
  rw [hide_out (by simp [ne, h1]), e b ne]; exact h2
theorem lf_obj {x y C : Addr} {M : List Addr} {fd : Flds} : Lf x (Obj M C y fd) (Obj (x :: M) C y fd) := fun H1 H2 h n e => by
  obtain ⟨dx, fs, e1, f⟩ := h
  exact ⟨dx, fs, by rw [e y (ne_of_none e1 n)]; exact e1, f.same (lf_same n e)⟩
theorem Sto.born {M : List Addr} {L : Own} {R R' : Hp → Prop} {ρ : Rho} {σ : St} {H H' : Hp} {x : Addr} (S : Sto M L R ρ σ H) (hx : H x = none) (hx' : H' x ≠ none) (f : Fr [x] H H')
    (lift : ∀ H1 H2, R H1 → H1 x = none → (∀ b, b ≠ x → H2 b = H1 b) → Pres L H' H2 → R' H2) : Sto (x :: M) L R' ρ σ H' := by
  have nM : x ∉ M := fun q => S.al x q hx
  have kk : Same (hide M H) (hide (x :: M) H') := fun b o q => by
    obtain ⟨h1, h2⟩ := hide_some q
    have ne : b ≠ x := ne_of_none h2 hx
    rw [hide_out (by simp [ne, h1])]
    exact f b o (by simpa using ne) h2
  refine ⟨fun b hb => ?_, fun p hp => List.mem_cons_of_mem _ (S.lm p hp), S.nd, fun p hp => ?_, fun H2 p => ?_, S.len, fun i b hb => ?_⟩
  · rcases List.mem_cons.mp hb with e | hb
    · rw [e]; exact hx'
    · have h1 := S.al b hb
      cases q : H b with
      | none => exact absurd q h1
      | some o =>
        rw [f b o (by simpa using ne_of_none q hx) q]; simp
  · obtain ⟨ws, h1, h2⟩ := S.own p hp
    exact ⟨ws, f _ _ (by simpa using ne_of_none h1 hx) h1, dpAll_same kk h2⟩
  · refine lift (fun b => if b = x then none else H2 b) H2 (S.r _ fun b o hb e => ?_) (if_pos rfl) (fun b hb => (if_neg hb).symm) p
    have ne := ne_of_none e hx
    show (if b = x then none else H2 b) = some o
    rw [if_neg ne]
    exact p b o hb (f b o (by simpa using ne) e)
  · obtain ⟨v, h1, h2⟩ := S.b i b hb
    refine ⟨v, h1, ?_⟩
    cases b with
    | d d => exact dp_same kk h2
    | a w => exact h2
/-- .. as a list of one's own -/
theorem Sto.own_newL {M : List Addr} {L : Own} {R R' : Hp → Prop} {ρ : Rho} {σ : St} {H : Hp} (S : Sto M L R ρ σ H) {a : Addr} {vs : List V} {ds : List PyData} (hn : H a = none) (h : DatAll M H vs ds) (lift : Lf a R R') : Sto (a :: M) ((a, ds) :: L) R' ρ σ (upd H a (.lst vs)) := by
  have S1 := S.own_new hn h
  refine ⟨S1.al, S1.lm, S1.nd, S1.own, fun H2 p => ?_, S1.len, S1.b⟩
  refine lift (fun b => if b = a then none else H2 b) H2 (S.r _ fun b o hb e => ?_) (if_pos rfl) (fun b hb => (if_neg hb).symm)
  have ne := ne_of_none e hn
  show (if b = a then none else H2 b) = some o
  rw [if_neg ne]
  refine p b o (fun q => ?_) (by rw [upd_ne ne]; exact e)
  rcases List.mem_cons.mp q with q | q
  · exact ne q
  · exact hb q

/-! ### judgements that change what is known -/
def EDx (X : Cx) (M : List Addr) (L : Own) (R R' : Hp → Prop) (ρ : Rho) (e : Expr) (d : PyData) : Prop :=
  ∀ σ H, Sto M L R ρ σ H → ∀ Q : VK, (∀ v H2, Keep M H H2 → Sto M L R' ρ σ H2 → Dat M H2 v d → Q v H2) → WE X e σ H Q
def EAx (X : Cx) (M : List Addr) (L : Own) (R R' : Hp → Prop) (ρ : Rho) (es : List Expr) (ds : List PyData) : Prop :=
  ∀ σ H, Sto M L R ρ σ H → ∀ Q : List V → Hp → Prop, (∀ vs H2, Keep M H H2 → Sto M L R' ρ σ H2 → DatAll M H2 vs ds → Q vs H2) → WA X es σ H Q
section
variable {X : Cx} {M : List Addr} {L : Own} {R R1 R2 : Hp → Prop} {ρ : Rho} {e a b c : Expr} {es : List Expr} {d da db : PyData} {ds : List PyData} {pos p0 : Pos} {sts rest s1 s2 : List Stmt} {D : Ends}
theorem ED.x (h : ED X M L R ρ e d) : EDx X M L R R ρ e d := h
theorem EDx.cast {d' : PyData} (h : EDx X M L R R1 ρ e d) (q : d = d') : EDx X M L R R1 ρ e d' := q ▸ h
theorem xb {op : Operator} (ha : EDx X M L R R1 ρ a da) (hb : EDx X M L R1 R2 ρ b db) (h : BinD X (binaryOp op) M da db d) : EDx X M L R R2 ρ (.BinOp a op b pos) d := fun σ H S Q q => by
  obtain ⟨r, ho, hr⟩ := h
  exact ⟨_, pe_op ho we we, ha σ H S _ fun x H1 k1 S1 d1 => hb σ H1 S1 _ fun y H2 k2 S2 d2 => hr x y H2 S2.al (dp_same k2 d1) d2 Q fun z H3 s3 d3 => q z H3 (k1.trans (k2.trans (same_keep s3))) (S2.mono s3) d3⟩
theorem xix (ha : EDx X M L R R1 ρ a da) (hb : EDx X M L R1 R2 ρ b db) (h : IxD X da db d) (hs : PlainIx b := by exact fun _ _ => rfl) : EDx X M L R R2 ρ (.Subscript a b pos) d := fun σ H S Q q => by
  obtain ⟨r, ho, hr⟩ := h
  exact ⟨_, pe_ix ho we we hs, ha σ H S _ fun x H1 k1 S1 d1 => hb σ H1 S1 _ fun y H2 k2 S2 d2 => hr M x y H2 S2.al (dp_same k2 d1) d2 Q fun z H3 s3 d3 => q z H3 (k1.trans (k2.trans (same_keep s3))) (S2.mono s3) d3⟩
theorem xa_nil : EAx X M L R R ρ [] [] := fun σ H S Q q => ⟨_, pa_nil, q _ H (Keep.refl _ _) S .nil⟩
theorem xa_cons (h : EDx X M L R R1 ρ e d) (h2 : EAx X M L R1 R2 ρ es ds) (hs : starEach (e :: es) X.env = (false, eval e X.env) :: starEach es X.env := by rfl) : EAx X M L R R2 ρ (e :: es) (d :: ds) := fun σ H S Q q =>
  ⟨_, pa_cons we wa hs, h σ H S _ fun v H1 k1 S1 d1 => h2 σ H1 S1 _ fun vs H2 k2 S2 d2 => q _ H2 (k1.trans k2) S2 (.cons (dp_same k2 d1) d2)⟩
theorem xtup {x1} (h : EAx X M L R R1 ρ es ds) (hl : ds.length ≤ 1000 := by simp) : EDx X M L R R1 ρ (.Tuple es x1 pos) (.tuple ds) := fun σ H S Q q =>
  ⟨_, pe_tup wa, h σ H S _ fun vs H1 k1 S1 d1 => ⟨by rw [d1.len]; exact Nat.le_of_lt (small1000 hl), fun p np => by
    have pM : p ∉ M := fun z => S1.al p z np
    exact q _ _ (k1.trans (same_keep (same_new np))) (S1.mono (same_new np)) (.tup (by rw [hide_out pM]; exact upd_same) (dpAll_same (same_keep (same_new np)) d1))⟩⟩
theorem xintI {i : Int} (hm : X.mg "int" = none) (h : EDx X M L R R1 ρ e (.int i)) (hg : Gl X "int" := by rfl)
    (he : starEach [e] X.env = (false, eval e X.env) :: starEach [] X.env := by rfl) (hpl : (backTo pos (starEach [] X.env)).any (·.1) = false := by rfl) : EDx X M L R R1 ρ (.Call (.Name "int" p0) [e] [] pos) (.int i) := fun σ H S Q q => by
  obtain ⟨r, hc, hr⟩ := cd_intI (X := X) (M := M) (i := i)
  exact ⟨_, pe_callTy hc hg hm (by decide +kernel) wa (by decide) (by decide) he hpl, xa_cons h xa_nil he σ H S _ fun vs H1 k1 S1 d1 => hr vs H1 S1.al d1 Q fun z H3 s3 d3 => q z H3 (k1.trans (same_keep s3)) (S1.mono s3) d3⟩
/-- the tests -/
def ETx (X : Cx) (M : List Addr) (L : Own) (R R' : Hp → Prop) (ρ : Rho) (e : Expr) (b : Bool) : Prop :=
  ∀ σ H, Sto M L R ρ σ H → ∀ Q : Bool → Hp → Prop, (∀ H2, Keep M H H2 → Sto M L R' ρ σ H2 → Q b H2) → WT X e σ H Q
theorem xcmp {p : Bool} {op : CmpOp} (ha : EDx X M L R R1 ρ a da) (hb : EDx X M L R1 R2 ρ b db) (h : BinD X (compareOp op) M da db (.bool p)) (hm : behindInMarks op b = false := by first | exact nomark _ | with_unfolding_all rfl) : ETx X M L R R2 ρ (.Compare a [op] [b] pos) p := fun σ H S Q q => by
  obtain ⟨r, ho, hr⟩ := h
  refine ⟨_, pt_cmpR ho we we hm, ha σ H S _ fun x H1 k1 S1 d1 => hb σ H1 S1 _ fun y H2 k2 S2 d2 => hr x y H2 S2.al (dp_same k2 d1) d2 _ fun z H3 s3 d3 => ?_⟩
  cases d3
  exact ⟨p, rfl, q H3 (k1.trans (k2.trans (same_keep s3))) (S2.mono s3)⟩
theorem ETx.cast {p q : Bool} (h : ETx X M L R R1 ρ e p) (z : p = q) : ETx X M L R R1 ρ e q := z ▸ h
theorem xgo_if {b : Bool} (h : ETx X M L R R1 ρ c b) (h1 : b = true → Go X s1 (to D (WB X rest D)) M L R1 ρ) (h2 : b = false → Go X s2 (to D (WB X rest D)) M L R1 ρ) : Go X (.If c s1 s2 pos :: rest) D M L R ρ := fun σ H S =>
  wb_cons (ps_if wt wb wb) (h σ H S _ fun H2 _ S2 => by
    cases b with
    | true => exact iteT (h1 rfl σ H2 S2)
    | false => exact iteF (h2 rfl σ H2 S2))
theorem xgo_set (i : Nat) {x : Str} (hN : X.N.Nodup) (h : EDx X M L R R1 ρ e d) (k : Go X rest D M L R1 (ρ.set i (some (.d d)))) (hi : X.N[i]? = some x := by rfl) (hx : Loc X.env.scope x := by first | exact Or.inl rfl | exact Or.inr rfl)
    (hs : swapsWith e (some (.Name x p0)) pos.line X.env = pure false := by rfl) (hf : X.fn x = true ∨ X.env.scope.names.lookup x = some .local := by first | exact .inl rfl | exact .inr rfl) : Go X (.Assign [.Name x p0] e pos :: rest) D M L R ρ := fun σ H S =>
  wb_cons (ps_set hN hi hx we hs hf) (h σ H S _ fun v H2 _ S2 d2 => k _ H2 (S2.set (b := .d d) d2))
theorem xgo_expr (h : EDx X M L R R1 ρ e d) (k : Go X rest D M L R1 ρ) (hs : swapsWith e none pos.line X.env = pure false := by rfl) : Go X (.Expr e pos :: rest) D M L R ρ := fun σ H S =>
  wb_cons (ps_expr we hs) (h σ H S _ fun v H2 _ S2 d2 => k _ H2 S2)
theorem xgo_ret (h : EDx X M L R R1 ρ e d) (k : ∀ v H, R1 H → Dat M H v d → D.rt v H) : Go X (.Return (some e) pos :: rest) D M L R ρ := fun σ H S =>
  wb_cons (ps_ret we) (h σ H S _ fun v H2 _ S2 d2 => k v H2 S2.r0 d2)

/-! ### fields -/
theorem efld (i : Nat) {x : Addr} {C : Addr} {fd : Flds} {y f : Str} {d : PyData} (c : Cls X.K C) (n : NoAttr X.K C f) (hR : ∀ H, R H → Obj M C x fd H) (hl : fd.lookup f = some (.d d) := by rfl) (hb : ρ[i]? = some (some (.a (.ref x))) := by rfl) (hN : X.N[i]? = some y := by rfl)
    (hv : Vis X.env.scope y := by first | exact Or.inl rfl | exact Or.inr (Or.inl rfl) | exact Or.inr (Or.inr rfl)) (hd : (y == ("__debug__" : Str)) = false := by decide) (hcd : (y == ("__classdict__" : Str)) = false := by decide)
    (hbs : attributeBase (.Name y p0) f X.env (eval (.Name y p0) X.env) = eval (.Name y p0) X.env := by rfl) : ED X M L R ρ (.Attribute (.Name y p0) f pos) d := fun σ H S Q q => by
  obtain ⟨dx, fs, h1, h2⟩ := hR H S.r0
  obtain ⟨v, h3, h4⟩ := h2.get hl
  exact ⟨_, pe_fld (pe_var hN hv hd hcd) hbs, .ref x, S.valOf hb, x, C, dx, fs, v, rfl, h1, c, n, h3, q v H (Keep.refl _ _) S h4⟩
/-- self.f = e -/
theorem go_fld (i : Nat) {x : Addr} {C : Addr} {fd : Flds} {y f : Str} {d : PyData} {apos : Pos} (c : Cls X.K C) (n : NoAttr X.K C f) (hxM : x ∈ M) (h : ED X M L R ρ e d) (hR : ∀ H, R H → Obj M C x fd H) (tr : ∀ H', Obj M C x (putB f (.d d) fd) H' → TrK [x] M H' R R1) (hlen : fd.length < 1000)
    (k : Go X rest D M L R1 ρ) (hb : ρ[i]? = some (some (.a (.ref x))) := by rfl) (hN : X.N[i]? = some y := by rfl)
    (hv : Vis X.env.scope y := by first | exact Or.inl rfl | exact Or.inr (Or.inl rfl) | exact Or.inr (Or.inr rfl)) (hd : (y == ("__debug__" : Str)) = false := by decide) (hcd : (y == ("__classdict__" : Str)) = false := by decide)
    (hs : swapsWith e (some (.Attribute (.Name y p0) f apos)) pos.line X.env = pure false := by rfl) : Go X (.Assign [.Attribute (.Name y p0) f apos] e pos :: rest) D M L R ρ := fun σ H S =>
  wb_cons (ps_fld (pe_var hN hv hd hcd) we hs) (h σ H S _ fun v H2 k2 S2 d2 => by
    have ho := hR H2 S2.r0
    have ho' := ho
    obtain ⟨dx, fs, h1, h2⟩ := ho
    have kk : Keep M H2 (upd H2 x (.ins C dx (putF f v fs))) := keep_upd hxM
    have o' : Obj M C x (putB f (.d d) fd) (upd H2 x (.ins C dx (putF f v fs))) := ⟨dx, _, upd_same, (h2.put (b := .d d) d2).same kk⟩
    exact ⟨.ref x, S2.valOf hb, x, C, dx, fs, rfl, h1, c, n, by rw [h2.len]; exact hlen, k σ _ (S2.callR (C := [x]) (by simpa using hxM) (obj_notin S2 ho') (fr_upd (by simp)) (by simpa using o'.some) (tr _ o'))⟩)
end

/-! ### methods -/
def spO (C : Addr) (dom : Flds → List PyData → Flds → PyData → Prop) : Sp := fun vs H Q _ => ∃ M x ws fd ds fd' d, (∀ a ∈ M, H a ≠ none) ∧ x ∈ M ∧ vs = .ref x :: ws ∧ Obj M C x fd H ∧ DatAll M H ws ds ∧ dom fd ds fd' d ∧ ∀ v H', Fr [x] H H' → Obj M C x fd' H' → Dat M H' v d → Q v H'
section
variable {X : Cx} {M : List Addr} {L : Own} {R R0 R1 : Hp → Prop} {ρ : Rho} {e : Expr} {es : List Expr} {d : PyData} {ds : List PyData} {pos p0 apos : Pos} {k j : Nat} {C x : Addr} {m y : Str} {dom : Flds → List PyData → Flds → PyData → Prop} {fd fd' : Flds} {pl : Sem Bool}
theorem emeth (i : Nat) (c : Met X.prog X.w X.K X.mg X.base k C m (spO C dom)) (hr : Room j X.A) (hk : k ≤ j) (hxM : x ∈ M) (ha : EAx X M L R0 R ρ (e :: es) ds) (hd : dom fd ds fd' d) (hR0 : ∀ H, R0 H → Obj M C x fd H) (hR : ∀ H, R H → Obj M C x fd H) (hl : fd.lookup m = none) (tr : ∀ H', Obj M C x fd' H' → TrK [x] M H' R R1)
    (hb : ρ[i]? = some (some (.a (.ref x))) := by rfl) (hN : X.N[i]? = some y := by rfl)
    (hv : Vis X.env.scope y := by first | exact Or.inl rfl | exact Or.inr (Or.inl rfl) | exact Or.inr (Or.inr rfl)) (hdb : (y == ("__debug__" : Str)) = false := by decide) (hcd : (y == ("__classdict__" : Str)) = false := by decide)
    (hst : starEach (e :: es) X.env = (false, eval e X.env) :: starEach es X.env := by rfl) (hpl : (backTo pos (starEach es X.env)).any (·.1) = false := by rfl)
    (ht : eval (.Call (.Attribute (.Name y p0) m apos) (e :: es) [] pos) X.env = (do
      let ov ← eval (.Name y p0) X.env
      standAt apos.atName
      let (f, first) ← holding [ov] (getMethod ov m pl)
      callWith pos f first (backTo pos (starEach (e :: es) X.env)) (backToKw pos (keywordEach [] X.env))) := by rfl) : EDx X M L R0 R1 ρ (.Call (.Attribute (.Name y p0) m apos) (e :: es) [] pos) d := fun σ H S Q q => by
  obtain ⟨dx, fs, h1, h2⟩ := hR0 H S.r0
  refine ⟨_, pe_mt (pl := pl) c hr hk (pe_var hN hv hdb hcd) wa hst hpl ht, .ref x, S.valOf hb, x, dx, fs, rfl, h1, h2.no hl, ha σ H S _ fun vs H1 k1 S1 d1 => ?_⟩
  have o1 := hR H1 S1.r0
  refine ⟨M, x, vs, fd, ds, fd', d, S1.al, hxM, by rw [List.append_nil], o1, d1, hd, fun v H' f o' dv => ?_⟩
  exact q v H' (k1.trans (f.keep (by simpa using hxM))) (S1.callR (C := [x]) (by simpa using hxM) (obj_notin S1 o1) f (by simpa using o'.some) (tr _ o')) dv
theorem emeth0 (i : Nat) (c : Met X.prog X.w X.K X.mg X.base k C m (spO C dom)) (hr : Room j X.A) (hk : k ≤ j) (hxM : x ∈ M) (hd : dom fd [] fd' d) (hR : ∀ H, R H → Obj M C x fd H) (hl : fd.lookup m = none) (tr : ∀ H', Obj M C x fd' H' → TrK [x] M H' R R1)
    (hb : ρ[i]? = some (some (.a (.ref x))) := by rfl) (hN : X.N[i]? = some y := by rfl)
    (hv : Vis X.env.scope y := by first | exact Or.inl rfl | exact Or.inr (Or.inl rfl) | exact Or.inr (Or.inr rfl)) (hdb : (y == ("__debug__" : Str)) = false := by decide) (hcd : (y == ("__classdict__" : Str)) = false := by decide)
    (ht : eval (.Call (.Attribute (.Name y p0) m apos) [] [] pos) X.env = (do
      let ov ← eval (.Name y p0) X.env
      standAt apos.atName
      let (f, first) ← holding [ov] (getMethod ov m pl)
      callWith pos f first (backTo pos (starEach [] X.env)) (backToKw pos (keywordEach [] X.env))) := by rfl) : EDx X M L R R1 ρ (.Call (.Attribute (.Name y p0) m apos) [] [] pos) d := fun σ H S Q q => by
  have o1 := hR H S.r0
  have o2 := o1
  obtain ⟨dx, fs, h1, h2⟩ := o2
  refine ⟨_, pe_mt0 (pl := pl) c hr hk (pe_var hN hv hdb hcd) ht, .ref x, S.valOf hb, x, dx, fs, rfl, h1, h2.no hl, ?_⟩
  refine ⟨M, x, [], fd, [], fd', d, S.al, hxM, rfl, o1, .nil, hd, fun v H' f o' dv => ?_⟩
  exact q v H' (f.keep (by simpa using hxM)) (S.callR (C := [x]) (by simpa using hxM) (obj_notin S o1) f (by simpa using o'.some) (tr _ o')) dv
/-- x = C(..) -/
theorem go_make (i : Nat) {g z : Str} {rest : List Stmt} {D : Ends} {spos zp : Pos} (c : Mak X.prog X.w X.K X.mg X.base k g C (spO C dom)) (hr : Room j X.A) (hk : k + 1 ≤ j) (hN : X.N.Nodup) (ha : EA X M L R ρ (e :: es) ds) (hd : dom [] ds fd' .none)
    (kk : ∀ x, x ∉ M → ∃ R1, (∀ H1 H2, R H1 → H1 x = none → (∀ b, b ≠ x → H2 b = H1 b) → Obj (x :: M) C x fd' H2 → R1 H2) ∧ Go X rest D (x :: M) L R1 (ρ.set i (some (.a (.ref x)))))
    (hi : X.N[i]? = some z := by rfl) (hx : Loc X.env.scope z := by first | exact Or.inl rfl | exact Or.inr rfl) (hg : Gl X g := by rfl)
    (hdb : (g == ("__debug__" : Str)) = false := by decide) (he : starEach (e :: es) X.env = (false, eval e X.env) :: starEach es X.env := by rfl) (hpl : (backTo pos (starEach es X.env)).any (·.1) = false := by rfl)
    (hs : swapsWith (.Call (.Name g p0) (e :: es) [] pos) (some (.Name z zp)) spos.line X.env = pure false := by rfl) (hf : X.fn z = true ∨ X.env.scope.names.lookup z = some .local := by first | exact .inl rfl | exact .inr rfl) :
    Go X (.Assign [.Name z zp] (.Call (.Name g p0) (e :: es) [] pos) spos :: rest) D M L R ρ := fun σ H S =>
  wb_cons (ps_set hN hi hx (pe_mk c hr hk hg wa hdb he hpl) hs hf) (ha σ H S _ fun vs H1 k1 S1 d1 => fun x dx hxn hdn hne => by
    have xM : x ∉ M := fun q => S1.al x q hxn
    obtain ⟨R1, lift, kg⟩ := kk x xM
    have s1 : ∀ a o, a ≠ x → H1 a = some o → (upd (upd H1 dx (.own x)) x (.ins C dx [])) a = some o := fun a o ha e => by
      rw [upd_ne ha, upd_ne (ne_of_none e hdn)]; exact e
    have ks : Same (hide M H1) (hide (x :: M) (upd (upd H1 dx (.own x)) x (.ins C dx []))) := fun b o q => by
      obtain ⟨h1, h2⟩ := hide_some q
      have ne := ne_of_none h2 hxn
      rw [hide_out (by simp [ne, h1])]
      exact s1 b o ne h2
    refine ⟨x :: M, x, vs, [], ds, fd', .none, fun a ha => ?_, List.mem_cons_self, by rw [List.append_nil], ⟨dx, [], upd_same, .nil⟩, dpAll_same ks d1, hd, fun v H' f o' dv => ?_⟩
    · rcases List.mem_cons.mp ha with q | q
      · subst q; rw [upd_same]; simp
      · cases q2 : H1 a with
        | none => exact absurd q2 (S1.al a q)
        | some o => rw [s1 a o (ne_of_none q2 hxn) q2]; simp
    · cases dv
      refine ⟨rfl, kg _ _ ((S1.born hxn o'.some (H' := H') (fun a o ha e => f a o ha (s1 a o (by simpa using ha) e)) fun H3 H4 r n e p => lift H3 H4 r n e ?_).set (b := .a (.ref x)) rfl)⟩
      have nL := obj_notin (S1.born (R' := fun _ => True) hxn o'.some (H' := H') (fun a o ha e => f a o ha (s1 a o (by simpa using ha) e)) fun _ _ _ _ _ _ => trivial) o' x (by simp)
      obtain ⟨dx', fs', h1, h2⟩ := o'
      refine ⟨dx', fs', p x _ nL h1, h2.same (pres_keep (fun q hq => List.mem_cons_of_mem _ (S1.lm q hq)) p)⟩)
end
section
variable {Pg : Program} {w : World} {K : PySem.W.Frag} {mg : Str → Option Value} {base : Heap}
theorem obj_sto {M : List Addr} {C x : Addr} {N : List Str} {ws : List V} {ds : List PyData} {fd : Flds} {H : Hp} (al : ∀ a ∈ M, H a ≠ none) (o : Obj M C x fd H) (a : DatAll M H ws ds) : Sto M [] (fun H' => Obj M C x fd H' ∧ Fr [x] H H') ((Bd.a (.ref x) :: ds.map Bd.d).map some ++ List.replicate (N.length - (Bd.a (.ref x) :: ds.map Bd.d).length) none) (L2.start N (.ref x :: ws)) H :=
  stoB al (by rw [List.length_cons, List.length_cons, List.length_map, a.len]) (fun i c hc => by
    cases i with
    | zero => cases hc; exact ⟨.ref x, rfl, rfl⟩
    | succ i =>
      rw [List.getElem?_cons_succ, List.getElem?_map] at hc
      cases e : ds[i]? with
      | none => rw [e] at hc; cases hc
      | some d =>
        rw [e] at hc; cases hc
        obtain ⟨v, h1, h2⟩ := a.get e
        exact ⟨v, by rw [List.getElem?_cons_succ]; exact h1, h2⟩) fun H' s => ⟨o.keep (by
      obtain ⟨dx, fs, e, _⟩ := o
      rw [e]; exact s _ _ e) (same_keep s), fr_same s⟩
/-- a method by its body -/
theorem metO_of {m q : Str} {C : Addr} {st : Stmt} {ps N : List Str} {f : Addr} {k : Nat} {dom : Flds → List PyData → Flds → PyData → Prop} (c : Cls K C) (hm : Meth K C m f) (F : Df K mg m q st ps N f) (len : ∀ fd ds fd' d, dom fd ds fd' d → ds.length + 1 = ps.length)
    (h : ∀ (cdv : Value) (A : Around) (outer : List Env) (s : Shared) (H : Hp) (E : XK), Room k (A.deeper (PyProof.Rows.envOfC q (defScope st) s.heap.objs.size f cdv)) → ∀ (M : List Addr) (x : Addr) (fd : Flds) (ds : List PyData) (fd' : Flds) (d : PyData) (D : Ends), dom fd ds fd' d → x ∈ M →
      (∀ v H', (Obj M C x fd' H' ∧ Fr [x] H H') → Dat M H' v d → D.rt v H') → (d = .none → ∀ σ H', (Obj M C x fd' H' ∧ Fr [x] H H') → D.nx σ H') →
      Go (cx Pg w K mg base N q st f cdv A outer s H E) (defBody st) D M [] (fun H' => Obj M C x fd H' ∧ Fr [x] H H') ((Bd.a (.ref x) :: ds.map Bd.d).map some ++ List.replicate (N.length - (Bd.a (.ref x) :: ds.map Bd.d).length) none)) : Met Pg w K mg base (k + 1) C m (spO C dom) := by
  refine met_of c hm F (fun vs H Q E hh => ?_) fun cdv A outer s H vs Q E hr hh => ?_
  · obtain ⟨M, x, ws, fd, ds, fd', d, al, hx, rfl, o, a, hd, q⟩ := hh
    rw [List.length_cons, a.len]; exact len _ _ _ _ hd
  · obtain ⟨M, x, ws, fd, ds, fd', d, al, hx, rfl, o, a, hd, q⟩ := hh
    refine h cdv A outer s H E hr M x fd ds fd' d _ hd hx (fun v H' r dv => q v H' r.2 r.1 dv) (fun e σ H' r => ?_) _ _ (obj_sto al o a)
    subst e
    exact q _ H' r.2 r.1 .non
theorem makO_of {g q : Str} {C : Addr} {st : Stmt} {ps N : List Str} {f : Addr} {k : Nat} {dom : Flds → List PyData → Flds → PyData → Prop} (M0 : Mk K C f) (hm : mg g = some (.ref C)) (F : Df K mg "__init__" q st ps N f) (len : ∀ fd ds fd' d, dom fd ds fd' d → ds.length + 1 = ps.length)
    (h : ∀ (cdv : Value) (A : Around) (outer : List Env) (s : Shared) (H : Hp) (E : XK), Room k (A.deeper (PyProof.Rows.envOfC q (defScope st) s.heap.objs.size f cdv)) → ∀ (M : List Addr) (x : Addr) (fd : Flds) (ds : List PyData) (fd' : Flds) (d : PyData) (D : Ends), dom fd ds fd' d → x ∈ M →
      (∀ v H', (Obj M C x fd' H' ∧ Fr [x] H H') → Dat M H' v d → D.rt v H') → (d = .none → ∀ σ H', (Obj M C x fd' H' ∧ Fr [x] H H') → D.nx σ H') →
      Go (cx Pg w K mg base N q st f cdv A outer s H E) (defBody st) D M [] (fun H' => Obj M C x fd H' ∧ Fr [x] H H') ((Bd.a (.ref x) :: ds.map Bd.d).map some ++ List.replicate (N.length - (Bd.a (.ref x) :: ds.map Bd.d).length) none)) : Mak Pg w K mg base (k + 1) g C (spO C dom) := by
  refine mak_of M0 hm F (fun vs H Q E hh => ?_) fun cdv A outer s H vs Q E hr hh => ?_
  · obtain ⟨M, x, ws, fd, ds, fd', d, al, hx, rfl, o, a, hd, q⟩ := hh
    rw [List.length_cons, a.len]; exact len _ _ _ _ hd
  · obtain ⟨M, x, ws, fd, ds, fd', d, al, hx, rfl, o, a, hd, q⟩ := hh
    refine h cdv A outer s H E hr M x fd ds fd' d _ hd hx (fun v H' r dv => q v H' r.2 r.1 dv) (fun e σ H' r => ?_) _ _ (obj_sto al o a)
    subst e
    exact q _ H' r.2 r.1 .non
theorem trk_self {M : List Addr} {C x : Addr} {fd fd' : Flds} {H0 : Hp} : ∀ H', Obj M C x fd' H' → TrK [x] M H' (fun H => Obj M C x fd H ∧ Fr [x] H0 H) (fun H => Obj M C x fd' H ∧ Fr [x] H0 H) := fun H' o => (trk_obj (by simp) o).and tr_fr.k
end
end Fb
namespace Fb
open PySem L2
open FbM (HV HL anc br contr canBe bad cls)
section
variable {X : Cx} {M : List Addr} {L : Own} {R : Hp → Prop} {ρ : Rho} {e c a b tg it : Expr} {body sts rest s1 s2 : List Stmt} {d da db : PyData} {ds : List PyData} {D : Ends} {pos p0 p1 apos : Pos}
theorem EDx.ed (h : EDx X M L R R ρ e d) : ED X M L R ρ e d := h
theorem go_forR {α : Type} {l : List α} {enc : α → PyData} (Ri : Nat → Hp → Prop) (ρi : Nat → Rho) (Li : Nat → Own) (ρ2 : Nat → α → Rho) {js : List Nat} (hp : PassesOwn (model X.prog X.w) X.A X.env X.xe) (hc : X.calm = true)
    (hi : EI X M L R ρ tg it (l.map enc)) (h0 : ∀ σ H, Sto M L R ρ σ H → Sto M (Li 0) (Ri 0) (ρi 0) σ H)
    (hg : ∀ (G : Hp → Prop) i x, l[i]? = some x → EG X M (Li i) (fun H => Ri i H ∧ G H) (ρi i) tg (enc x) (ρ2 i x) js)
    (hs : ∀ G : Hp → Prop, (∀ H H', Keep M H H' → G H → G H') → ∀ i x, l[i]? = some x →
      Go X body (turn D (fun σ H => Sto M (Li (i + 1)) (fun H => Ri (i + 1) H ∧ G H) (ρi (i + 1)) σ H) (WB X rest D)) M (Li i) (fun H => Ri i H ∧ G H) (ρ2 i x))
    (hd : Go X rest D M (Li l.length) (Ri l.length) (ρi l.length)) (hsi : ∀ x, foldedSetIterable it X.env x = pure x := by intro _; rfl) : Go X (.For tg it body [] pos :: rest) D M L R ρ := fun σ H S => by
  refine wb_cons (ps_for hp hc wi wg wb hsi) ?_
  refine hi σ H S _ fun J H1 G k1 S1 I1 g1 _ => ?_
  refine ⟨fun i m σ' H' => m = l.length - i ∧ i ≤ l.length ∧ Sto M (Li i) (fun H => Ri i H ∧ G H) (ρi i) σ' H', ⟨l.length, by simp, Nat.zero_le _, ?_⟩, ?_⟩
  · have S0 := h0 σ H1 S1
    exact S0.plus fun H' p => I1.keep _ _ (pres_keep S0.lm p) g1
  rintro i m σ' H' ⟨rfl, hil, SS⟩
  by_cases hlt : i < l.length
  · right
    have gg := SS.r0.2
    have hx : l[i]? = some l[i] := List.getElem?_eq_getElem hlt
    have hx' : (l.map enc)[i]? = some (enc l[i]) := by rw [List.getElem?_map, hx]; rfl
    refine ⟨I1.go i H' (by simpa using hlt) gg, fun σ2 H2 => Sto M (Li (i + 1)) (fun H => Ri (i + 1) H ∧ G H) (ρi (i + 1)) σ2 H2, fun σ2 H2 h => ⟨l.length - (i + 1), by omega, rfl, hlt, h⟩, fun x H2 y => ?_⟩
    obtain ⟨e2, dx⟩ := I1.yld i H' x H2 _ hx' gg y
    subst e2
    exact hg G i _ hx σ' H2 x SS dx _ fun σ3 S3 _ _ => hs G I1.keep i _ hx σ3 H2 S3
  · left
    have e : i = l.length := by omega
    subst e
    exact ⟨I1.stop _ H' (by simp) SS.r0.2, hd σ' H' (SS.wk fun _ h => h.1)⟩
theorem elcN {α : Type} {elt : Expr} {ifs : List Expr} {scope : Scope} {js : List Nat} {l : List α} {enc : α → PyData} {ρ2 : α → Rho} {f : α → Bool} {g : α → PyData} {N : List Str} {sc : Scope} (own : List (Str × Nat))
    (hN : X.N.Nodup) (bk : blkC N sc scope own = true) (hi : EI X M L R ρ tg it (l.map enc)) (hz : l.length ≤ 100000) (ok : LcOk X M L R ρ scope tg elt ifs (own.map (·.2)) js l enc ρ2 f g) (hjs : ∀ j ∈ js, j ∈ own.map (·.2) := by decide)
    (eN : N = X.N := by rfl) (eS : sc = X.env.scope := by rfl) (hc : X.calm = true := by rfl) (hs : ∀ x, foldedSetIterable it X.env x = pure x := by intro _; rfl) : ED X M L R ρ (.ListComp elt [⟨tg, it, ifs, 0⟩] scope pos) (.list ((l.filter f).map g)) := by
  subst eN eS
  exact elc own hc hN (blkOk_by bk) hi hz ok hjs hs
/-- a pure fact that is known -/
theorem go_know {P : Prop} (h : ∀ H, R H → P) (k : P → Go X sts D M L R ρ) : Go X sts D M L R ρ := fun σ H S => k (h H S.r0) σ H S
theorem efix_str (i j : Nat) {x : Addr} {C : Addr} {fd : Flds} {y z f : Str} {k : Nat} {s : Str} {M0 : List Addr} {xs : List PyData} (c : Cls X.K C) (n : NoAttr X.K C f) (hR : ∀ H, R H → Obj M0 C x fd H) (hl : fd.lookup f = some (.d (.list xs))) (hx : xs[k]? = some (.str s)) (hb : ρ[i]? = some (some (.a (.ref x))) := by rfl) (hj : ρ[j]? = some (some (.d (iN k))) := by rfl) (hN : X.N[i]? = some y := by rfl) (hNj : X.N[j]? = some z := by rfl)
    (hv : Vis X.env.scope y := by first | exact Or.inl rfl | exact Or.inr (Or.inl rfl) | exact Or.inr (Or.inr rfl)) (hd : (y == ("__debug__" : Str)) = false := by decide) (hcd : (y == ("__classdict__" : Str)) = false := by decide)
    (hvz : Vis X.env.scope z := by first | exact Or.inl rfl | exact Or.inr (Or.inl rfl) | exact Or.inr (Or.inr rfl)) (hdz : (z == ("__debug__" : Str)) = false := by decide) (hcz : (z == ("__classdict__" : Str)) = false := by decide)
    (hbs : attributeBase (.Name y p0) f X.env (eval (.Name y p0) X.env) = eval (.Name y p0) X.env := by rfl) (hs : PlainIx (.Name z p1) := by exact fun _ _ => rfl) : ED X M L R ρ (.Subscript (.Attribute (.Name y p0) f apos) (.Name z p1) pos) (.str s) := fun σ H S Q q => by
  obtain ⟨dx, fs, h1, h2⟩ := hR H S.r0
  obtain ⟨v, h3, h4⟩ := h2.get hl
  obtain ⟨w, h5, h6⟩ := S.datOf hj
  refine ⟨_, pe_ix ix_list (pe_fld (pe_var hN hv hd hcd) hbs) (pe_var hNj hvz hdz hcz) hs, .ref x, S.valOf hb, x, C, dx, fs, v, rfl, h1, c, n, h3, w, h5, ?_⟩
  cases h6
  have h4 : Dt _ _ _ := h4
  cases h4 with
  | lst e a =>
    obtain ⟨u, g1, g2⟩ := a.get hx
    exact ⟨_, _, _, u, rfl, rfl, SqL.of (hide_some e).2, atI_nat g1, q u H (Keep.refl _ _) S (dp_scl g2 rfl)⟩
end
/-! ### the desk -/
def numD (p : (Bool × Nat) × Nat) : PyData := .tuple [iN p.2, .str (wordS p.1.1), iN p.1.2]
abbrev rowsT (A : List (Bool × Nat)) : PyData := .tuple (A.zipIdx.map numD)
abbrev namesD (n : Nat) : PyData := .list (((List.range n).map nameS).map PyData.str)
abbrev knownD (P : List (List Nat)) (k : Nat) : PyData := .tuple [histD P, iN k, .str "all"]
abbrev deskF (P : List (List Nat)) (k : Nat) (A : List (Bool × Nat)) (S : List Nat) (dd : List Deed) : Flds :=
  [("known", .d (knownD P k)), ("names", .d (namesD P.length)), ("rows", .d (rowsT A)), ("away", .d (tN S)), ("number", .d (iN A.length)), ("deeds", .d (.tuple (dd.map deedD)))]
/-- a desk's good state -/
structure Dsk (P : List (List Nat)) (A : List (Bool × Nat)) (S : List Nat) (dd : List Deed) : Prop where
  hl : HL P
  an : ∀ a ∈ A, a.2 < P.length
  al : A.length ≤ 100
  sl : S.length ≤ 24
  dl : dd.length ≤ 500
theorem name_ok : ∀ k < 24, PyData.strOk (nameS k) = true := by decide +kernel
section
variable {Pg : Program} {w : World} {K : PySem.W.Frag} {mg : Str → Option Value} {base : Heap}
abbrev DK (K : PySem.W.Frag) : Addr := He.ga K "Desk"
def dAnswers (fd : Flds) (ds : List PyData) (fd' : Flds) (d : PyData) : Prop := ∃ P k A S dd, Dsk P A S dd ∧ fd = deskF P k A S dd ∧ ds = [] ∧ fd' = fd ∧ d = ansT A
theorem ok_answers (T : Txt K mg) : Met Pg w K mg base 1 (DK K) "answers" (spO (DK K) dAnswers) := by
  refine metO_of T.c_Desk T.m_Desk_answers (df_Desk_answers T) (fun fd ds fd' d ⟨_, _, _, _, _, _, _, e, _⟩ => by rw [e]; rfl) fun cdv A outer s H E hr M x fd ds fd' d D hd hxM qr qn => ?_
  obtain ⟨P, k, As, S, dd, hD, rfl, rfl, rfl, rfl⟩ := hd
  have hal := hD.al
  refine go_ret (etupL T.z_tuple (ED.cast (elcN (N := N_Desk_answers) (sc := defScope s_Desk_answers) (l := As.zipIdx) (enc := numD) (f := fun _ => true) (g := fun p => ansD p.1) (ρ2 := fun p => [some (.a (.ref x)), some (.d (iN p.2)), some (.d (.str (wordS p.1.1))), some (.d (iN p.1.2))]) [("number", 1), ("kind", 2), ("make", 3)] sc_Desk_answers.nd (by decide +kernel)
    (ei_tup (efld 0 T.c_Desk T.n_Desk_rows (fun _ r => r.1))) (by rw [List.length_zipIdx]; omega) ⟨fun s H C cl fp D acc p hp => eg_tup rfl (egs_cons (eg_name 1 sc_Desk_answers.nd) (egs_cons (eg_name 2 sc_Desk_answers.nd) (egs_cons (eg_name 3 sc_Desk_answers.nd) egs_nil))), fun _ _ _ _ _ _ _ p _ => ets_nil, fun _ _ _ _ _ _ _ p _ _ => etup (ea_cons (en 2) (ea_cons (en 3) ea_nil))⟩ (hjs := by simp)) ?_)) qr
  have e : As.zipIdx.filter (fun _ => true) = As.zipIdx := List.filter_eq_self.mpr fun _ _ => rfl
  rw [e]
  have e2 : (As.zipIdx.map fun p => ansD p.1) = (As.zipIdx.map Prod.fst).map ansD := by rw [List.map_map]; rfl
  rw [e2, List.zipIdx_map_fst]
/-! ### make_of -/
theorem names_get {n m : Nat} (h : m < n) : ((List.range n).map nameS)[m]? = some (nameS m) := by
  rw [List.getElem?_map, List.getElem?_range h]; rfl
theorem name_in {n m : Nat} : nameS m ∈ (List.range n).map nameS ↔ m < n := by
  rw [List.mem_map]
  constructor
  · rintro ⟨j, hj, e⟩
    have := nameS_inj e
    have := List.mem_range.mp hj
    omega
  · exact fun h => ⟨m, List.mem_range.mpr h, rfl⟩
theorem sh_names {n : Nat} (h : n ≤ 24) : Sh 1 (namesD n) := sh_list (by
  rw [List.map_map]
  exact shAll_map fun j hj => sh_str (name_ok j (by have := List.mem_range.mp hj; omega)))
def dMakeOf (fd : Flds) (ds : List PyData) (fd' : Flds) (d : PyData) : Prop := ∃ P k A S dd m, Dsk P A S dd ∧ m < P.length ∧ fd = deskF P k A S dd ∧ ds = [.str (nameS m)] ∧ fd' = fd ∧ d = iN m
theorem ok_make_of (T : Txt K mg) : Met Pg w K mg base 1 (DK K) "make_of" (spO (DK K) dMakeOf) := by
  refine metO_of T.c_Desk T.m_Desk_make_of (df_Desk_make_of T) (fun fd ds fd' d ⟨_, _, _, _, _, _, _, _, _, e, _⟩ => by rw [e]; rfl) fun cdv A outer s H E hr M x fd ds fd' d D hd hxM qr qn => ?_
  obtain ⟨P, k, As, S, dd, m, hD, hm, rfl, rfl, rfl, rfl⟩ := hd
  have hP := hD.hl.le
  refine go_skip (ET.cast (tcmp (en 1) (efld 0 T.c_Desk T.n_Desk_names (fun _ r => r.1)) (bd_notInLS (ns := (List.range P.length).map nameS))) ?_) ?_
  · rw [decide_eq_true (name_in.mpr hm)]; rfl
  · refine go_ret (eindex (ds := ((List.range P.length).map nameS).map PyData.str) (z := .str (nameS m)) hr (efld 0 T.c_Desk T.n_Desk_names (fun _ r => r.1)) (en 1) (sh_names hP).shaped (Sh.shaped (n := 0) (sh_str (name_ok m (by omega)))) (map_get (names_get hm)) (by rw [eqv_str]; simp) fun j z hj hz => ?_) qr
    rw [List.getElem?_map, names_get (by omega)] at hz
    have hz := (Option.some.inj hz).symm
    subst hz
    rw [eqv_str]
    exact decide_eq_false fun q => by have := nameS_inj q; omega
/-! ### come -/
def dCome (fd : Flds) (ds : List PyData) (fd' : Flds) (d : PyData) : Prop := ∃ P k A S dd b m, Dsk P A S dd ∧ A.length < 100 ∧ m < P.length ∧ m ∉ S ∧ fd = deskF P k A S dd ∧ ds = [.str (wordS b), .str (nameS m)] ∧ fd' = deskF P k (A ++ [(b, m)]) S dd ∧ d = .none
theorem ok_come (T : Txt K mg) : Met Pg w K mg base 2 (DK K) "come" (spO (DK K) dCome) := by
  refine metO_of T.c_Desk T.m_Desk_come (df_Desk_come T) (fun fd ds fd' d ⟨_, _, _, _, _, _, _, _, _, _, _, _, e, _⟩ => by rw [e]; rfl) fun cdv A outer s H E hr M x fd ds fd' d D hd hxM qr qn => ?_
  obtain ⟨P, k, As, S, dd, b, m, hD, hA, hm, hS, rfl, rfl, rfl, rfl⟩ := hd
  have hP := hD.hl.le
  refine xgo_set 3 sc_Desk_come.nd (emeth 0 (ok_make_of T) hr (by decide) hxM (ea_cons (en 2) ea_nil) ⟨P, k, As, S, dd, m, hD, hm, rfl, rfl, rfl, rfl⟩ (fun _ r => r.1) (fun _ r => r.1) rfl trk_self) ?_
  refine go_skip (tw (wor00 (ET.cast (tcmp (en 3) (efld 0 T.c_Desk T.n_Desk_away (fun _ r => r.1)) bd_inTN) (decide_eq_false hS)) (wor1 (ET.cast (tcmp (elenT (n := As.length) T.z_len (efld 0 T.c_Desk T.n_Desk_rows (fun _ r => r.1)) (by simp)) (eg_int T.i_MOST_ANSWERS) bd_ge) (decide_eq_false (by omega)))))) ?_
  refine go_fld 0 T.c_Desk T.n_Desk_rows hxM (eb (efld 0 T.c_Desk T.n_Desk_rows (fun _ r => r.1)) (etup (ea_cons (etup (ea_cons (efld 0 T.c_Desk T.n_Desk_number (fun _ r => r.1)) (ea_cons (en 1) (ea_cons (en 3) ea_nil)))) ea_nil)) (bd_addT (by simp; omega))) (fun _ r => r.1) trk_self (by show 6 < 1000; decide) ?_
  refine go_fld 0 T.c_Desk T.n_Desk_number hxM (eb (efld 0 T.c_Desk T.n_Desk_number (fun _ r => r.1)) ec_int bd_add) (fun _ r => r.1) trk_self (by show 6 < 1000; decide) ?_
  refine go_nil fun σ H' W => qn rfl σ H' ?_
  have r := W.r0
  have e1 : PyData.tuple (As.zipIdx.map numD ++ [.tuple [iN As.length, .str (wordS b), iN m]]) = rowsT (As ++ [(b, m)]) := by
    rw [rowsT, List.zipIdx_append, List.map_append, Nat.zero_add]; rfl
  have e2 : PyData.int ((As.length : Nat) + 1) = iN (As ++ [(b, m)]).length := by
    rw [iN, List.length_append]; rfl
  have e : deskF P k (As ++ [(b, m)]) S dd = putB "number" (.d (.int ((As.length : Nat) + 1))) (putB "rows" (.d (.tuple (As.zipIdx.map numD ++ [.tuple [iN As.length, .str (wordS b), iN m]]))) (deskF P k As S dd)) := by
    rw [e1, e2]; rfl
  rw [e]
  exact r
end
end Fb
namespace Fb
open PySem L2
open FbM (HV HL anc br contr canBe bad cls)
theorem Sto.lw {M : List Addr} {L : Own} {R R' : Hp → Prop} {ρ ρ' : Rho} {σ : St} {H : Hp} (S : Sto M L R ρ σ H) (h : lessR ρ' ρ) (k : ∀ H, R H → R' H) : Sto M L R' ρ' σ H := (S.less h).wk k
theorem sorted_perm {ns : List Nat} (hs : ns.Pairwise (· < ·)) : ∀ l : List Int, l.Perm (ns.map fun n : Nat => (n : Int)) → l.Pairwise (· ≤ ·) → l = ns.map fun n : Nat => (n : Int) := fun l p q => by
  obtain ⟨ms, rfl, hp⟩ := perm_cast p
  have h1 := pw_cast q
  have hn : ns.Nodup := hs.imp fun h => by omega
  have h2 := FbM.lt_of_le_nodup h1 (hp.nodup_iff.mpr hn)
  rw [FbM.sorted_ext h2 hs fun x => hp.mem_iff]
theorem works_take : ¬ (("answer" : Str) = "take") := by decide +kernel
section
variable {X : Cx} {M : List Addr} {L : Own} {R : Hp → Prop} {ρ : Rho} {e : Expr} {pos p0 : Pos}
/-- e not in RULES, for one of them -/
theorem t_rules {s : Str} (hm : X.mg "RULES" = some (.ref (He.ga X.K "RULES"))) (T : ∀ H, SqT X.K H (He.ga X.K "RULES") [.str "all", .str "two", .str "one"]) (h : ED X M L R ρ e (.str s)) (hs : s ∈ (["all", "two", "one"] : List Str)) (hg : Gl X "RULES" := by rfl)
    (hm2 : behindInMarks .NotIn (.Name "RULES" p0) = false := by with_unfolding_all rfl) : ET X M L R ρ (.Compare e [.NotIn] [.Name "RULES" p0] pos) false := fun σ H S Q q =>
  ⟨_, pt_cmpR op_notIn_seq we (pe_glob (v := .ref (He.ga X.K "RULES")) hg hm rfl (by decide)) hm2, h σ H S _ fun v H1 k1 S1 d1 => by
    cases d1
    refine ⟨_, [.str "all", .str "two", .str "one"], rfl, .inr (T H1), rfl, rfl, ?_⟩
    have e : inV (.str s) [.str "all", .str "two", .str "one"] = true := by
      have := inV_strs s ["all", "two", "one"]
      rw [decide_eq_true hs] at this
      exact this
    rw [e]
    exact ⟨false, rfl, q H1 k1 S1⟩⟩
end
section
variable {Pg : Program} {w : World} {K : PySem.W.Frag} {mg : Str → Option Value} {base : Heap}
/-! ### turn -/
def dTurn (fd : Flds) (ds : List PyData) (fd' : Flds) (d : PyData) : Prop := ∃ P k A S dd m, Dsk P A S dd ∧ m < P.length ∧ S.Pairwise (· < ·) ∧ (∀ x ∈ S, x < m) ∧ fd = deskF P k A S dd ∧ ds = [.str (nameS m), .bool true] ∧ fd' = deskF P k A (S ++ [m]) dd ∧ d = .none
theorem ok_turn (T : Txt K mg) : Met Pg w K mg base 2 (DK K) "turn" (spO (DK K) dTurn) := by
  refine metO_of T.c_Desk T.m_Desk_turn (df_Desk_turn T) (fun fd ds fd' d ⟨_, _, _, _, _, _, _, _, _, _, _, e, _⟩ => by rw [e]; rfl) fun cdv A outer s H E hr M x fd ds fd' d D hd hxM qr qn => ?_
  obtain ⟨P, k, As, S, dd, m, hD, hm, hS, hlt, rfl, rfl, rfl, rfl⟩ := hd
  have hP := hD.hl.le
  have hsl := hD.sl
  have hn : m ∉ S := fun q => by have := hlt m q; omega
  have hS' : (S ++ [m]).Pairwise (· < ·) := List.pairwise_append.mpr ⟨hS, List.pairwise_singleton _ _, fun a ha b hb => by simp at hb; subst hb; exact hlt a ha⟩
  refine xgo_set 3 sc_Desk_turn.nd (emeth 0 (ok_make_of T) hr (by decide) hxM (ea_cons (en 1) ea_nil) ⟨P, k, As, S, dd, m, hD, hm, rfl, rfl, rfl, rfl⟩ (fun _ r => r.1) (fun _ r => r.1) rfl trk_self) ?_
  refine go_skip (ET.cast (tcmp (ecmp (en 3) (efld 0 T.c_Desk T.n_Desk_away (fun _ r => r.1)) bd_inTN) (en 2) bd_eqB) (by rw [decide_eq_false hn]; rfl)) ?_
  refine go_fld 0 T.c_Desk T.n_Desk_away hxM (d := tN (S ++ [m])) (etupL T.z_tuple (ED.cast (ecallB (cd_sorted (ns := (S ++ [m]).map fun n : Nat => (n : Int)) (ms := (S ++ [m]).map fun n : Nat => (n : Int)) (by simp; omega) (sorted_perm hS')) T.z_sorted (ea_cons (ED.cast (eb (elc1 4 (l := S) (enc := iN) (N := N_Desk_turn) (sc := defScope s_Desk_turn) (fun o => decide (o ≠ m)) iN sc_Desk_turn.nd (by decide +kernel)
    (ei_tup (efld 0 T.c_Desk T.n_Desk_away (fun _ r => r.1))) (fun _ _ _ _ _ _ _ o ho => ets_one (ET.cast (tcmp (en 4) (en 3) bd_neI) ?_)) (fun _ _ _ _ _ _ _ o _ _ => en 4) (by omega))
      (eb (elst (ea_cons (en 3) ea_nil)) (eintB T.z_int (en 2)) (bd_mulL (by decide) (by decide) (by simp))) (bd_addL ?_)) ?_) ea_nil)) (lN_eq _).symm)) (fun _ r => r.1) trk_self (by show 6 < 1000; decide) ?_
  · show (!decide ((o : Int) = (m : Int))) = decide (o ≠ m)
    rw [← decide_not]
    exact decide_eq_decide.mpr (by omega)
  · have := List.length_filter_le (fun o => decide (o ≠ m)) S
    rw [List.length_map]
    have e : (List.replicate (if true = true then (1 : Int) else 0).toNat [iN m]).flatten.length = 1 := rfl
    rw [e]; omega
  · rw [← lN_eq, lN, List.map_append]
    congr 1
    have : S.filter (fun o => decide (o ≠ m)) = S := List.filter_eq_self.mpr fun o ho => by
      have := hlt o ho
      exact decide_eq_true (by omega)
    rw [this]; rfl
  · exact go_nil fun σ H' W => qn rfl σ H' W.r0
/-! ### do -/
def stepD (P : List (List Nat)) (k : Nat) (A : List (Bool × Nat)) (S : List Nat) (dd : List Deed) : Deed → Flds
  | .ans b m => deskF P k (A ++ [(b, m)]) S (dd ++ [.ans b m])
  | .skip m => deskF P k A (S ++ [m]) (dd ++ [.skip m])
def okD (P : List (List Nat)) (A : List (Bool × Nat)) (S : List Nat) : Deed → Prop
  | .ans b m => A.length < 100 ∧ m < P.length ∧ m ∉ S
  | .skip m => m < P.length ∧ S.Pairwise (· < ·) ∧ ∀ x ∈ S, x < m
def dDo (fd : Flds) (ds : List PyData) (fd' : Flds) (d : PyData) : Prop := ∃ P k A S dd a, Dsk P A S dd ∧ okD P A S a ∧ fd = deskF P k A S dd ∧ ds = [deedD a] ∧ fd' = stepD P k A S dd a ∧ d = .none
theorem ok_do (T : Txt K mg) : Met Pg w K mg base 3 (DK K) "do" (spO (DK K) dDo) := by
  refine metO_of T.c_Desk T.m_Desk_do (df_Desk_do T) (fun fd ds fd' d ⟨_, _, _, _, _, _, _, _, _, e, _⟩ => by rw [e]; rfl) fun cdv A outer s H E hr M x fd ds fd' d D hd hxM qr qn => ?_
  obtain ⟨P, k, As, S, dd, a, hD, ha, rfl, rfl, rfl, rfl⟩ := hd
  have hdl := hD.dl
  refine go_skip (tnot (p := true) (tval (ecall (ok_is_shaped T) hr (ea_cons (en 1) ea_nil) ⟨a, rfl, rfl⟩))) ?_
  refine go_skip (ET.cast (tcmp (elenT (n := dd.length) T.z_len (efld 0 T.c_Desk T.n_Desk_deeds (fun _ r => r.1)) (by simp)) (eg_int T.i_MOST_DEEDS) bd_ge) (decide_eq_false (by omega))) ?_
  cases a with
  | ans b m =>
    refine go_ifT (ET.cast (tcmp (eix (en 1) ec_int (ix_t (i := 0) rfl)) ec_str bd_eqS) (decide_eq_true rfl)) ?_
    refine xgo_expr (emeth 0 (ok_come T) hr (by decide) hxM (ea_cons (eix (en 1) ec_int (ix_t (i := 1) rfl)) (ea_cons (eix (en 1) ec_int (ix_t (i := 2) rfl)) ea_nil)) ⟨P, k, As, S, dd, b, m, hD, ha.1, ha.2.1, ha.2.2, rfl, rfl, rfl, rfl⟩ (fun _ r => r.1) (fun _ r => r.1) rfl trk_self) (go_end ?_)
    refine go_fld 0 T.c_Desk T.n_Desk_deeds hxM (d := .tuple ((dd ++ [Deed.ans b m]).map deedD)) (ED.cast (eb (efld 0 T.c_Desk T.n_Desk_deeds (fun _ r => r.1)) (etup (ea_cons (en 1) ea_nil)) (bd_addT (by simp; omega))) (by rw [List.map_append]; rfl)) (fun _ r => r.1) trk_self (by show 6 < 1000; decide) ?_
    exact go_nil fun σ H' W => qn rfl σ H' W.r0
  | skip m =>
    refine go_ifF (ET.cast (tcmp (eix (en 1) ec_int (ix_t (i := 0) rfl)) ec_str bd_eqS) (decide_eq_false skip_ne)) ?_
    refine go_ifF (ET.cast (tcmp (eix (en 1) ec_int (ix_t (i := 0) rfl)) ec_str bd_eqS) (decide_eq_false skip_ne2)) ?_
    refine xgo_expr (emeth 0 (ok_turn T) hr (by decide) hxM (ea_cons (eix (en 1) ec_int (ix_t (i := 1) rfl)) (ea_cons (ED.cast (ecmp (eix (en 1) ec_int (ix_t (i := 0) rfl)) ec_str bd_eqS) (by rw [decide_eq_true rfl])) ea_nil)) ⟨P, k, As, S, dd, m, hD, ha.1, ha.2.1, ha.2.2, rfl, rfl, rfl, rfl⟩ (fun _ r => r.1) (fun _ r => r.1) rfl trk_self) (go_end (go_end ?_))
    refine go_fld 0 T.c_Desk T.n_Desk_deeds hxM (d := .tuple ((dd ++ [Deed.skip m]).map deedD)) (ED.cast (eb (efld 0 T.c_Desk T.n_Desk_deeds (fun _ r => r.1)) (etup (ea_cons (en 1) ea_nil)) (bd_addT (by simp; omega))) (by rw [List.map_append]; rfl)) (fun _ r => r.1) trk_self (by show 6 < 1000; decide) ?_
    exact go_nil fun σ H' W => qn rfl σ H' W.r0
/-! ### left, can_be, state -/
def dLeft (fd : Flds) (ds : List PyData) (fd' : Flds) (d : PyData) : Prop := ∃ P k A S dd, Dsk P A S dd ∧ fd = deskF P k A S dd ∧ ds = [] ∧ fd' = fd ∧ d = tN (canBe P A k)
theorem ok_left (T : Txt K mg) : Met Pg w K mg base 4 (DK K) "left" (spO (DK K) dLeft) := by
  refine metO_of T.c_Desk T.m_Desk_left (df_Desk_left T) (fun fd ds fd' d ⟨_, _, _, _, _, _, _, e, _⟩ => by rw [e]; rfl) fun cdv A outer s H E hr M x fd ds fd' d D hd hxM qr qn => ?_
  obtain ⟨P, k, As, S, dd, hD, rfl, rfl, rfl, rfl⟩ := hd
  have hal := hD.al
  refine go_asg (efld 0 T.c_Desk T.n_Desk_known (fun _ r => r.1)) (eg_tup rfl (egs_cons (eg_name 1 sc_Desk_left.nd) (egs_cons (eg_name 2 sc_Desk_left.nd) (egs_cons (eg_name 3 sc_Desk_left.nd) egs_nil)))) ?_
  refine go_ifT (ET.cast (tcmp (en 3) ec_str bd_eqS) (decide_eq_true rfl)) ?_
  exact go_ret (ecall (ok_can_be T) hr (ea_cons (en 1) (ea_cons (emeth0 0 (ok_answers T) hr (by decide) hxM ⟨P, k, As, S, dd, hD, rfl, rfl, rfl, rfl⟩ (fun _ r => r.1) rfl trk_self).ed (ea_cons (en 2) ea_nil))) ⟨P, As, k, hD.hl.toHV, hD.an, by omega, rfl, rfl⟩) qr
def dCanBe (fd : Flds) (ds : List PyData) (fd' : Flds) (d : PyData) : Prop := ∃ P k A S dd, Dsk P A S dd ∧ fd = deskF P k A S dd ∧ ds = [] ∧ fd' = fd ∧ d = .tuple ((canBe P A k).map fun m => .str (nameS m))
theorem ok_desk_can_be (T : Txt K mg) : Met Pg w K mg base 5 (DK K) "can_be" (spO (DK K) dCanBe) := by
  refine metO_of T.c_Desk T.m_Desk_can_be (df_Desk_can_be T) (fun fd ds fd' d ⟨_, _, _, _, _, _, _, e, _⟩ => by rw [e]; rfl) fun cdv A outer s H E hr M x fd ds fd' d D hd hxM qr qn => ?_
  obtain ⟨P, k, As, S, dd, hD, rfl, rfl, rfl, rfl⟩ := hd
  have hP := hD.hl.le
  have hl : (canBe P As k).length ≤ P.length := by
    have := List.length_filter_le (fun c => decide (contr P As c ≤ k)) (List.range P.length)
    rw [List.length_range] at this
    exact this
  exact go_ret (etupL T.z_tuple (elcM 1 (l := canBe P As k) (enc := iN) (N := N_Desk_can_be) (sc := defScope s_Desk_can_be) (fun m => .str (nameS m)) sc_Desk_can_be.nd (by decide +kernel)
    (ei_tup (emeth0 0 (ok_left T) hr (by decide) hxM ⟨P, k, As, S, dd, hD, rfl, rfl, rfl, rfl⟩ (fun _ r => r.1) rfl trk_self).ed) (fun _ _ _ _ _ _ _ m hm => efix_str 0 1 T.c_Desk T.n_Desk_names (fun _ r => r.1) rfl (map_get (names_get (FbM.mem_canBe.mp hm).1))) (by omega))) qr
/-- what the desk tells -/
def stateS (P : List (List Nat)) (A : List (Bool × Nat)) (S : List Nat) (k : Nat) : Str :=
  if canBe P A k = [] then "clash" else if ∃ r ∈ cls P S, ∀ m ∈ canBe P A k, m ∈ r then "certain" else "open"
def dState (fd : Flds) (ds : List PyData) (fd' : Flds) (d : PyData) : Prop := ∃ P k A S dd, Dsk P A S dd ∧ fd = deskF P k A S dd ∧ ds = [] ∧ fd' = fd ∧ d = .str (stateS P A S k)
theorem ok_desk_state (T : Txt K mg) : Met Pg w K mg base 5 (DK K) "state" (spO (DK K) dState) := by
  refine metO_of T.c_Desk T.m_Desk_state (df_Desk_state T) (fun fd ds fd' d ⟨_, _, _, _, _, _, _, e, _⟩ => by rw [e]; rfl) fun cdv A outer s H E hr M x fd ds fd' d D hd hxM qr qn => ?_
  obtain ⟨P, k, As, S, dd, hD, rfl, rfl, rfl, rfl⟩ := hd
  have hP := hD.hl.le
  have hV := hD.hl.toHV
  refine xgo_set 1 sc_Desk_state.nd (emeth0 0 (ok_left T) hr (by decide) hxM ⟨P, k, As, S, dd, hD, rfl, rfl, rfl, rfl⟩ (fun _ r => r.1) rfl trk_self) ?_
  refine go_if (b := decide (canBe P As k = [])) (ET.cast (tcmp (en 1) (etup ea_nil) (bd_eqD hr (sh_tN _).shaped (sh_tN []).shaped)) (eqv_tN (canBe P As k) [])) (fun h0 => ?_) (fun h0 => ?_)
  · have h0 := of_decide_eq_true h0
    exact go_ret (ED.cast ec_str (by unfold stateS; rw [if_pos h0])) qr
  have h0 := of_decide_eq_false h0
  obtain ⟨l0, lt, hl⟩ : ∃ l0 lt, canBe P As k = l0 :: lt := by
    cases h : canBe P As k with
    | nil => exact absurd h h0
    | cons a t => exact ⟨a, t, rfl⟩
  have hl0 : l0 < P.length := (FbM.mem_canBe.mp (by rw [hl]; exact List.mem_cons_self)).1
  refine go_end (go_forR (l := cls P S) (enc := tN) (fun i H' => (Obj M (DK K) x (deskF P k As S dd) H' ∧ Fr [x] H H') ∧ ∀ j < i, ∀ r, (cls P S)[j]? = some r → l0 ∉ r) (fun _ => [some (.a (.ref x)), some (.d (tN (canBe P As k))), none, none]) (fun _ => [])
    (fun _ r => [some (.a (.ref x)), some (.d (tN (canBe P As k))), some (.d (tN r)), none]) (js := [2]) PassesOwn.never rfl
    (ei_tup (ecall (ok_classes T) hr (ea_cons (eix (efld 0 T.c_Desk T.n_Desk_known (fun _ r => r.1)) ec_int (ix_t (i := 0) rfl)) (ea_cons (efld 0 T.c_Desk T.n_Desk_away (fun _ r => r.1)) ea_nil)) ⟨P, S, hV, rfl, rfl⟩)) (fun σ H' W => W.lw ⟨rfl, rfl, trivial⟩ fun H2 r => ⟨r, fun j hj => by omega⟩) (fun G i r _ => eg_name 2 sc_Desk_state.nd) (fun G hG i r hi => ?_) ?_)
  · refine go_if (tcmp (eix (en 1) ec_int (ix_t (i := 0) (map_get (by rw [hl]; rfl)))) (en 2) bd_inTN) (fun hb => ?_) (fun hb => ?_)
    · have hb := of_decide_eq_true hb
      have hcl : (canBe P As k).length ≤ 24 := by
        have := List.length_filter_le (fun c => decide (contr P As c ≤ k)) (List.range P.length)
        rw [List.length_range] at this
        have h3 : (canBe P As k).length ≤ P.length := this
        omega
      have e : decide (((canBe P As k).filter fun m => decide (m ∉ r)).length = 0) = decide (∃ r ∈ cls P S, ∀ m ∈ canBe P As k, m ∈ r) := by
        apply decide_eq_decide.mpr
        constructor
        · intro z
          have z := List.eq_nil_of_length_eq_zero z
          refine ⟨r, List.mem_of_getElem? hi, fun m hm => ?_⟩
          have := (List.filter_eq_nil_iff.mp z) m hm
          simpa using this
        · rintro ⟨r', hr', ha⟩
          obtain ⟨j, hj⟩ := List.getElem?_of_mem hr'
          have e := FbM.cls_one hj hi (ha l0 (by rw [hl]; exact List.mem_cons_self)) hb
          subst e
          rw [hi] at hj
          cases hj
          have : (canBe P As k).filter (fun m => decide (m ∉ r)) = [] := List.filter_eq_nil_iff.mpr fun m hm => by
            simp [ha m hm]
          rw [this]; rfl
      refine go_ret (ED.cast (eif (p := decide (∃ r ∈ cls P S, ∀ m ∈ canBe P As k, m ∈ r)) (d := .str (if (∃ r ∈ cls P S, ∀ m ∈ canBe P As k, m ∈ r) then "certain" else "open")) (ET.cast (tcmp (elenL (n := ((canBe P As k).filter fun m => decide (m ∉ r)).length) T.z_len (elc1 3 (l := canBe P As k) (enc := iN) (N := N_Desk_state) (sc := defScope s_Desk_state) (fun m => decide (m ∉ r)) iN sc_Desk_state.nd (by decide +kernel)
        (ei_tup (en 1)) (fun _ _ _ _ _ _ _ m hm => ets_one (ET.cast (tcmp (en 3) (en 2) bd_notInTN) (by simp))) (fun _ _ _ _ _ _ _ m _ _ => en 3) (by omega))) ec_int bd_eqI) ?_) (fun hc => ED.cast ec_str (by rw [if_pos (of_decide_eq_true hc)])) (fun hc => ED.cast ec_str (by rw [if_neg (of_decide_eq_false hc)]))) (by unfold stateS; rw [if_neg h0])) fun v H' r2 dv => qr v H' r2.1.1 dv
      rw [← e]
      exact decide_eq_decide.mpr (by omega)
    · have hb := of_decide_eq_false hb
      refine go_end (go_nil fun σ H' W => W.lw ⟨rfl, rfl, trivial⟩ fun H2 r2 => ⟨⟨r2.1.1, fun j hj r' hr' => ?_⟩, r2.2⟩)
      by_cases q : j = i
      · subst q
        rw [hi] at hr'
        cases hr'
        exact hb
      · exact r2.1.2 j (by omega) r' hr'
  · refine go_know (fun _ r => r.2) fun hno => ?_
    obtain ⟨j, r, h1, h2⟩ := FbM.has_cls (S := S) hl0
    exact absurd h2 (hno j (List.getElem?_eq_some_iff.mp h1).1 r h1)
/-! ### __init__ -/
def dDeskInit (fd : Flds) (ds : List PyData) (fd' : Flds) (d : PyData) : Prop := ∃ P k, HL P ∧ k ≤ 20 ∧ fd = [] ∧ ds = [histD P, iN k, .str "all"] ∧ fd' = deskF P k [] [] [] ∧ d = .none
theorem ok_Desk (T : Txt K mg) : Mak Pg w K mg base 4 "Desk" (DK K) (spO (DK K) dDeskInit) := by
  refine makO_of T.k_Desk T.g_Desk (df_Desk_init T) (fun fd ds fd' d ⟨_, _, _, _, _, e, _⟩ => by rw [e]; rfl) fun cdv A outer s H E hr M x fd ds fd' d D hd hxM qr qn => ?_
  obtain ⟨P, k, hL, hk, rfl, rfl, rfl, rfl⟩ := hd
  have hP := hL.le
  refine go_expr (ecall (ok_check_history T) hr (ea_cons (en 1) ea_nil) ⟨P, hL, rfl, rfl⟩) ?_
  refine go_skip (tw (wor00 (tnot (p := true) (tval (ecall (ok_is_integer T) hr (ea_cons (en 2) ea_nil) ⟨_, rfl, rfl⟩))) (wor00 (tnot (p := true) (ET.cast (tchain ec_int (en 2) bd_le (fun _ => ec_int) (fun _ => bd_le) ⟨_, op_le⟩) ?_))
    (wor00 (tnot (p := true) (tval (eisi (t := "str") T.z_isinstance T.z_str (en 3) (kit_ty (a := "str") (b := "str") (r := true) (by decide))))) (wor1 (t_rules T.g_RULES T.rules (en 3) (by simp))))))) ?_
  · rw [decide_eq_true (by omega : (0 : Int) ≤ (k : Int)), decide_eq_true (by omega : ((k : Nat) : Int) ≤ 20)]; rfl
  refine go_fld 0 T.c_Desk T.n_Desk_known hxM (etup (ea_cons (en 1) (ea_cons (en 2) (ea_cons (en 3) ea_nil)))) (fun _ r => r.1) trk_self (by show 0 < 1000; decide) ?_
  refine go_fld 0 T.c_Desk T.n_Desk_names hxM (d := namesD P.length) (ED.cast (elcM 4 (l := List.range P.length) (enc := makeD P) (N := N_Desk_init) (sc := defScope s_Desk_init) (fun j => .str (nameS j)) sc_Desk_init.nd (by decide +kernel)
    (ei_tup (eix (en 1) ec_int (ix_t (i := 1) rfl))) (fun _ _ _ _ _ _ _ j hj => eix (en 4) ec_int (ix_t (i := 0) rfl)) (by simp; omega)) (by rw [namesD, List.map_map]; rfl)) (fun _ r => r.1) trk_self (by show 1 < 1000; decide) ?_
  refine go_fld 0 T.c_Desk T.n_Desk_rows hxM (etup ea_nil) (fun _ r => r.1) trk_self (by show 2 < 1000; decide) ?_
  refine go_fld 0 T.c_Desk T.n_Desk_away hxM (etup ea_nil) (fun _ r => r.1) trk_self (by show 3 < 1000; decide) ?_
  refine go_fld 0 T.c_Desk T.n_Desk_number hxM ec_int (fun _ r => r.1) trk_self (by show 4 < 1000; decide) ?_
  refine go_fld 0 T.c_Desk T.n_Desk_deeds hxM (etup ea_nil) (fun _ r => r.1) trk_self (by show 5 < 1000; decide) ?_
  exact go_nil fun σ H' W => qn rfl σ H' W.r0
end
end Fb
namespace Fb
open PySem L2
open FbM (HV HL anc br contr canBe bad cls rowBy ones inRow lives sB sW rowsOf aStep wk)
/-- a list at p -/
def LstAt (M : List Addr) (p : Addr) (ds : List PyData) (H : Hp) : Prop := ∃ vs, H p = some (.lst vs) ∧ DatAll M H vs ds
theorem LstAt.keep {M : List Addr} {p : Addr} {ds : List PyData} {H H' : Hp} (h : LstAt M p ds H) (e : H' p = H p) (k : Keep M H H') : LstAt M p ds H' := by
  obtain ⟨vs, h1, h2⟩ := h
  exact ⟨vs, e.trans h1, dpAll_same k h2⟩
theorem keep_off {C M : List Addr} {H1 H2 : Hp} (s : ∀ a ∈ C, a ∈ M) (e : ∀ a, a ∉ C → H1 a = H2 a) : Keep M H1 H2 := keep_of fun a o ha q => by rw [← e a (fun z => ha (s a z))]; exact q
theorem tr_lst0 {C M : List Addr} {p : Addr} {ds : List PyData} {H' : Hp} (hp : p ∉ C) (s : ∀ a ∈ C, a ∈ M) : Tr C H' (LstAt M p ds) := fun H1 H2 h e _ => h.keep (e p hp).symm (keep_off s e)
theorem tr_obj0 {C M : List Addr} {D x : Addr} {fd : Flds} {H' : Hp} (hx : x ∉ C) (s : ∀ a ∈ C, a ∈ M) : Tr C H' (Obj M D x fd) := fun H1 H2 h e _ => h.keep (e x hx).symm (keep_off s e)
theorem tr_kd0 {C : List Addr} {rows : Rows} {N b : Nat} {kd : Addr} {H' : Hp} (hx : kd ∉ C) : Tr C H' (Kd rows N b kd) := fun H1 H2 h e _ => h.at (e kd hx).symm
theorem tr_frS {C C' : List Addr} {H0 H' : Hp} (s : ∀ a ∈ C, a ∈ C') : Tr C H' (Fr C' H0) := fun H1 H2 h e _ a o ha q => by
  rw [← e a (fun z => ha (s a z))]; exact h a o ha q
theorem trk_lst {C M : List Addr} {p : Addr} {ds : List PyData} {H' : Hp} {R : Hp → Prop} (hx : p ∈ C) (h : LstAt M p ds H') : TrK C M H' R (LstAt M p ds) := fun H1 H2 _ _ f k => h.keep (f p hx) k
theorem lf_lst {x p : Addr} {M : List Addr} {ds : List PyData} : Lf x (LstAt M p ds) (LstAt (x :: M) p ds) := fun H1 H2 h n e => by
  obtain ⟨vs, e1, f⟩ := h
  exact ⟨vs, by rw [e p (ne_of_none e1 n)]; exact e1, dpAll_same (lf_same n e) f⟩
theorem lf_kd {x kd : Addr} {rows : Rows} {N b : Nat} : Lf x (Kd rows N b kd) (Kd rows N b kd) := fun H1 H2 h n e => by
  obtain ⟨kvs, e1, f⟩ := h
  exact ⟨kvs, by rw [e kd (ne_of_none e1 n)]; exact e1, f⟩
theorem LstAt.some {M : List Addr} {p : Addr} {ds : List PyData} {H : Hp} (h : LstAt M p ds H) : H p ≠ none := by
  obtain ⟨vs, e, _⟩ := h
  rw [e]; simp
section
variable {X : Cx} {M : List Addr} {L : Own} {R R1 : Hp → Prop} {ρ : Rho} {e : Expr} {es : List Expr} {d : PyData} {ds : List PyData} {rest : List Stmt} {D : Ends} {pos p0 apos apos2 cpos : Pos}
/-- self.f = {} -/
theorem go_fld_dict (i : Nat) {x C : Addr} {fd : Flds} {y f : Str} {dp : Pos} {Rn : Addr → Hp → Prop} (c : Cls X.K C) (n : NoAttr X.K C f) (hxM : x ∈ M) (hR : ∀ H, R H → Obj M C x fd H) (hlen : fd.length < 1000)
    (lift : ∀ p, p ∉ M → p ∉ L.map (·.1) → ∀ H1 H2, R H1 → H1 p = none → H2 p = some (.dT []) → (∀ b, b ≠ p → b ≠ x → H2 b = H1 b) → Obj (p :: M) C x (putB f (.a (.ref p)) fd) H2 → Rn p H2)
    (k : ∀ p, p ∉ M → Go X rest D (p :: M) L (Rn p) ρ) (hb : ρ[i]? = some (some (.a (.ref x))) := by rfl) (hN : X.N[i]? = some y := by rfl)
    (hv : Vis X.env.scope y := by first | exact Or.inl rfl | exact Or.inr (Or.inl rfl) | exact Or.inr (Or.inr rfl)) (hd : (y == ("__debug__" : Str)) = false := by decide) (hcd : (y == ("__classdict__" : Str)) = false := by decide)
    (hs : swapsWith (.Dict [] [] dp) (some (.Attribute (.Name y p0) f apos)) pos.line X.env = pure false := by rfl) : Go X (.Assign [.Attribute (.Name y p0) f apos] (.Dict [] [] dp) pos :: rest) D M L R ρ := fun σ H S =>
  wb_cons (ps_fld (pe_var hN hv hd hcd) pe_dnewT hs) (fun p np => by
    have pM : p ∉ M := fun q => S.al p q np
    have ho := hR H S.r0
    have hx : x ≠ p := fun q => pM (q ▸ hxM)
    have pL : p ∉ L.map (·.1) := fun q => by
      obtain ⟨z, hz, e⟩ := List.mem_map.mp q
      have e : z.1 = p := e
      exact pM (e ▸ S.lm z hz)
    obtain ⟨dx, fs, h1, h2⟩ := ho
    have S1 : Sto (p :: M) L (fun H2 => ∃ H1, R H1 ∧ H1 p = none ∧ H2 p = some (.dT []) ∧ ∀ b, b ≠ p → H2 b = H1 b) ρ σ (upd H p (.dT [])) := S.born np (by rw [upd_same]; simp) (fr_upd (by simp)) fun H1 H2 r n e p2 => ⟨H1, r, n, p2 p _ pL upd_same, e⟩
    have o2 : Obj (p :: M) C x fd (upd H p (.dT [])) := lf_obj H _ ⟨dx, fs, h1, h2⟩ np fun b hb => upd_ne hb
    refine ⟨.ref x, S.valOf hb, x, C, dx, fs, rfl, by rw [upd_ne hx]; exact h1, c, n, by rw [h2.len]; exact hlen, ?_⟩
    have kk : Keep (p :: M) (upd H p (.dT [])) (upd (upd H p (.dT [])) x (.ins C dx (putF f (.ref p) fs))) := keep_upd (List.mem_cons_of_mem _ hxM)
    have f2 : Fds (p :: M) (upd H p (.dT [])) fs fd := h2.same (lf_same np fun b hb => upd_ne hb)
    have o' : Obj (p :: M) C x (putB f (.a (.ref p)) fd) (upd (upd H p (.dT [])) x (.ins C dx (putF f (.ref p) fs))) := ⟨dx, _, upd_same, (f2.put (b := .a (.ref p)) rfl).same kk⟩
    refine k p pM σ _ (S1.callR (C := [x]) (by simpa using .inr hxM) (obj_notin S1 o2) (fr_upd (by simp)) (by simpa using o'.some) fun Ha Hb ⟨H1, r, n1, e1, e2⟩ g1 g2 kb => lift p pM pL H1 Hb r n1 ?_ (fun b hb1 hb2 => ?_) (o'.keep (g2 x (by simp)) kb))
    · rw [← g1 p (by simpa using fun z : p = x => hx z.symm)]; exact e1
    · rw [← g1 b (by simpa using hb2)]; exact e2 b hb1)
/-- self.f = [..] -/
theorem go_fld_list (i : Nat) {x C : Addr} {fd : Flds} {y f : Str} {lp : Pos} {Rn : Addr → Hp → Prop} (c : Cls X.K C) (n : NoAttr X.K C f) (hxM : x ∈ M) (ha : EA X M L R ρ es ds) (hdl : ds.length ≤ 1000) (hR : ∀ H, R H → Obj M C x fd H) (hlen : fd.length < 1000)
    (lift : ∀ p, p ∉ M → p ∉ L.map (·.1) → ∀ H1 H2, R H1 → H1 p = none → LstAt (p :: M) p ds H2 → (∀ b, b ≠ p → b ≠ x → H2 b = H1 b) → Obj (p :: M) C x (putB f (.a (.ref p)) fd) H2 → Rn p H2)
    (k : ∀ p, p ∉ M → Go X rest D (p :: M) L (Rn p) ρ) (hb : ρ[i]? = some (some (.a (.ref x))) := by rfl) (hN : X.N[i]? = some y := by rfl)
    (hv : Vis X.env.scope y := by first | exact Or.inl rfl | exact Or.inr (Or.inl rfl) | exact Or.inr (Or.inr rfl)) (hd : (y == ("__debug__" : Str)) = false := by decide) (hcd : (y == ("__classdict__" : Str)) = false := by decide)
    (hs : swapsWith (.List es lp) (some (.Attribute (.Name y p0) f apos)) pos.line X.env = pure false := by rfl) : Go X (.Assign [.Attribute (.Name y p0) f apos] (.List es lp) pos :: rest) D M L R ρ := fun σ H S =>
  wb_cons (ps_fld (pe_var hN hv hd hcd) (pe_lst wa) hs) (ha σ H S _ fun vs H0 k0 S0 d0 => ⟨by rw [d0.len]; exact Nat.le_of_lt (small1000 hdl), fun p np => by
    have pM : p ∉ M := fun q => S0.al p q np
    have ho := hR H0 S0.r0
    have hx : x ≠ p := fun q => pM (q ▸ hxM)
    have pL : p ∉ L.map (·.1) := fun q => by
      obtain ⟨z, hz, e⟩ := List.mem_map.mp q
      have e : z.1 = p := e
      exact pM (e ▸ S0.lm z hz)
    obtain ⟨dx, fs, h1, h2⟩ := ho
    have l1 : LstAt (p :: M) p ds (upd H0 p (.lst vs)) := ⟨vs, upd_same, dpAll_same (lf_same np fun b hb => upd_ne hb) d0⟩
    have S1 : Sto (p :: M) L (fun H2 => ∃ H1, R H1 ∧ H1 p = none ∧ LstAt (p :: M) p ds H2 ∧ ∀ b, b ≠ p → H2 b = H1 b) ρ σ (upd H0 p (.lst vs)) := S0.born np (by rw [upd_same]; simp) (fr_upd (by simp)) fun H1 H2 r n e p2 => ⟨H1, r, n, l1.keep (by
      rw [p2 p _ pL upd_same, upd_same]) (pres_keep (fun q hq => List.mem_cons_of_mem _ (S0.lm q hq)) p2), e⟩
    have o2 : Obj (p :: M) C x fd (upd H0 p (.lst vs)) := lf_obj H0 _ ⟨dx, fs, h1, h2⟩ np fun b hb => upd_ne hb
    refine ⟨.ref x, S0.valOf hb, x, C, dx, fs, rfl, by rw [upd_ne hx]; exact h1, c, n, by rw [h2.len]; exact hlen, ?_⟩
    have kk : Keep (p :: M) (upd H0 p (.lst vs)) (upd (upd H0 p (.lst vs)) x (.ins C dx (putF f (.ref p) fs))) := keep_upd (List.mem_cons_of_mem _ hxM)
    have f2 : Fds (p :: M) (upd H0 p (.lst vs)) fs fd := h2.same (lf_same np fun b hb => upd_ne hb)
    have o' : Obj (p :: M) C x (putB f (.a (.ref p)) fd) (upd (upd H0 p (.lst vs)) x (.ins C dx (putF f (.ref p) fs))) := ⟨dx, _, upd_same, (f2.put (b := .a (.ref p)) rfl).same kk⟩
    refine k p pM σ _ (S1.callR (C := [x]) (by simpa using .inr hxM) (obj_notin S1 o2) (fr_upd (by simp)) (by simpa using o'.some) fun Ha Hb ⟨H1, r, n1, e1, e2⟩ g1 g2 kb => lift p pM pL H1 Hb r n1 (e1.keep (g1 p (by simpa using fun z : p = x => hx z.symm)).symm (keep_off (by simpa using .inr hxM) g1)) (fun b hb1 hb2 => ?_) (o'.keep (g2 x (by simp)) kb))
    rw [← g1 b (by simpa using hb2)]; exact e2 b hb1⟩)
end
/-! ### the answerer -/
abbrev AK (K : PySem.W.Frag) : Addr := He.ga K "Answerer"
abbrev ansF (P : List (List Nat)) (S : List Nat) (kd st tl : Addr) : Flds :=
  [("history", .d (histD P)), ("skipped", .d (tN S)), ("found", .d (.tuple ((cls P S).map tN))), ("rows", .d (rowsD (rowsOf P S))), ("known", .a (.ref kd)), ("states", .a (.ref st)), ("told", .a (.ref tl))]
structure Atb (M : List Addr) (C x kd st tl : Addr) (P : List (List Nat)) (S : List Nat) (b n : Nat) (s : List Int) (H : Hp) : Prop where
  o : Obj M C x (ansF P S kd st tl) H
  k : Kd (rowsOf P S) (cls P S).length b kd H
  st : ∃ ss : List PyData, ss.length ≤ n ∧ LstAt M st (ss ++ [tI s]) H
  tl : ∃ ts : List PyData, ts.length ≤ n ∧ LstAt M tl ts H
def spAns (C : Addr) : Sp := fun vs H Q _ => ∃ M x ws P S t b, (∀ a ∈ M, H a ≠ none) ∧ x ∈ M ∧ vs = .ref x :: ws ∧ Obj M C x [] H ∧ DatAll M H ws [histD P, tN S, tI t] ∧ HV P ∧ Beg P S t b ∧
  ∀ kd st tl H', H kd = none → H st = none → H tl = none → kd ≠ st → kd ≠ tl → st ≠ tl → Fr [x] H H' → Atb (tl :: st :: kd :: M) C x kd st tl P S b 0 t H' → Q .non H'
theorem fr_new {x p : Addr} {H0 H1 H2 : Hp} (f : Fr [x] H0 H1) (n : H1 p = none) (e : ∀ b, b ≠ p → b ≠ x → H2 b = H1 b) : Fr [x] H0 H2 := fun a o ha q => by
  have h1 := f a o ha q
  rw [e a (ne_of_none h1 n) (by simpa using ha)]; exact h1
theorem fr_none {x p : Addr} {H0 H1 : Hp} (f : Fr [x] H0 H1) (n : H1 p = none) (h : p ≠ x) : H0 p = none := by
  cases e : H0 p with
  | none => rfl
  | some o => rw [f p o (by simpa using h) e] at n; cases n
section
variable {Pg : Program} {w : World} {K : PySem.W.Frag} {mg : Str → Option Value} {base : Heap}
theorem ok_Answerer (T : Txt K mg) : Mak Pg w K mg base 5 "Answerer" (AK K) (spAns (AK K)) := by
  refine mak_of T.k_Answerer T.g_Answerer (df_Answerer_init T) (fun vs H Q E h => ?_) fun cdv A outer s H vs Q E hr h => ?_
  · obtain ⟨M, x, ws, P, S, t, b, _, _, rfl, _, a, _⟩ := h
    rw [List.length_cons, a.len]; rfl
  obtain ⟨M, x, ws, P, S, t, b, al, hxM, rfl, o, a, hV, hB, q⟩ := h
  have hP := hV.le
  have hC := FbM.cls_le (P := P) (S := S)
  refine (?_ : Go _ _ _ M [] (fun H' => Obj M (AK K) x [] H' ∧ Fr [x] H H') [some (.a (.ref x)), some (.d (histD P)), some (.d (tN S)), some (.d (tI t))]) _ _ (obj_sto (N := N_Answerer_init) al o a)
  refine go_expr (ecall (ok_check_size T) hr (ea_cons (en 3) ea_nil) ⟨_, b, t, hB.ok, hB.few, by omega, rfl, rfl⟩) ?_
  refine go_fld 0 T.c_Answerer T.n_Answerer_history hxM (en 1) (fun _ r => r.1) trk_self (by show 0 < 1000; decide) ?_
  refine go_fld 0 T.c_Answerer T.n_Answerer_skipped hxM (en 2) (fun _ r => r.1) trk_self (by show 1 < 1000; decide) ?_
  refine go_fld 0 T.c_Answerer T.n_Answerer_found hxM (ecall (ok_classes T) hr (ea_cons (en 1) (ea_cons (en 2) ea_nil)) ⟨P, S, hV, rfl, rfl⟩) (fun _ r => r.1) trk_self (by show 2 < 1000; decide) ?_
  refine go_fld 0 T.c_Answerer T.n_Answerer_rows hxM (ecall (ok_rows_of T) hr (ea_cons (en 1) (ea_cons (en 2) ea_nil)) ⟨P, S, hV, rfl, rfl⟩) (fun _ r => r.1) trk_self (by show 3 < 1000; decide) ?_
  refine go_fld_dict 0 (Rn := fun p H2 => Obj (p :: M) (AK K) x [("history", .d (histD P)), ("skipped", .d (tN S)), ("found", .d (.tuple ((cls P S).map tN))), ("rows", .d (rowsD (rowsOf P S))), ("known", .a (.ref p))] H2 ∧ H2 p = some (.dT []) ∧ Fr [x] H H2 ∧ H p = none) T.c_Answerer T.n_Answerer_known hxM (fun _ r => r.1) (by show 4 < 1000; decide)
    (fun p pM _ H1 H2 r n e1 e2 o2 => ⟨o2, e1, fr_new r.2 n e2, fr_none r.2 n fun z => pM (z ▸ hxM)⟩) fun kd kM => ?_
  refine go_fld_list 0 (Rn := fun p H2 => Obj (p :: kd :: M) (AK K) x [("history", .d (histD P)), ("skipped", .d (tN S)), ("found", .d (.tuple ((cls P S).map tN))), ("rows", .d (rowsD (rowsOf P S))), ("known", .a (.ref kd)), ("states", .a (.ref p))] H2 ∧ (H2 kd = some (.dT []) ∧ LstAt (p :: kd :: M) p [tI t] H2) ∧ Fr [x] H H2 ∧ H kd = none ∧ H p = none) T.c_Answerer T.n_Answerer_states (List.mem_cons_of_mem _ hxM) (ea_cons (en 3) ea_nil) (by simp) (fun _ r => r.1) (by show 5 < 1000; decide)
    (fun p pM _ H1 H2 r n e1 e2 o2 => ⟨o2, ⟨by
      rw [e2 kd (fun z => pM (by rw [z]; exact List.mem_cons_self)) (fun z => kM (z ▸ hxM))]; exact r.2.1, e1⟩, fr_new r.2.2.1 n e2, r.2.2.2, fr_none r.2.2.1 n fun z => pM (z ▸ List.mem_cons_of_mem _ hxM)⟩) fun st sM => ?_
  refine go_fld_list 0 (Rn := fun p H2 => Obj (p :: st :: kd :: M) (AK K) x (ansF P S kd st p) H2 ∧ (H2 kd = some (.dT []) ∧ LstAt (p :: st :: kd :: M) st [tI t] H2 ∧ LstAt (p :: st :: kd :: M) p [] H2) ∧ Fr [x] H H2 ∧ H kd = none ∧ H st = none ∧ H p = none) T.c_Answerer T.n_Answerer_told (List.mem_cons_of_mem _ (List.mem_cons_of_mem _ hxM)) ea_nil (by simp) (fun _ r => r.1) (by show 6 < 1000; decide)
    (fun p pM _ H1 H2 r n e1 e2 o2 => ⟨o2, ⟨by
      rw [e2 kd (fun z => pM (by rw [z]; exact List.mem_cons_of_mem _ List.mem_cons_self)) (fun z => kM (z ▸ hxM))]; exact r.2.1.1, ?_, e1⟩, fr_new r.2.2.1 n e2, r.2.2.2.1, r.2.2.2.2, fr_none r.2.2.1 n fun z => pM (z ▸ List.mem_cons_of_mem _ (List.mem_cons_of_mem _ hxM))⟩) fun tl tM => ?_
  · have h1 : LstAt (st :: kd :: M) st [tI t] H1 := r.2.1.2
    have hsx : st ≠ x := fun z => sM (by rw [z]; exact List.mem_cons_of_mem _ hxM)
    have hsp : st ≠ p := fun z => pM (by rw [← z]; exact List.mem_cons_self)
    obtain ⟨vs, g1, g2⟩ := h1
    refine ⟨vs, by rw [e2 st hsp hsx]; exact g1, dpAll_same (fun b o q => ?_) g2⟩
    obtain ⟨q1, q2⟩ := hide_some q
    have ne := ne_of_none q2 n
    have nx : b ≠ x := fun z => q1 (by rw [z]; exact List.mem_cons_of_mem _ (List.mem_cons_of_mem _ hxM))
    rw [hide_out (by simp only [List.mem_cons, not_or] at q1 ⊢; exact ⟨ne, q1⟩), e2 b ne nx]; exact q2
  · refine go_nil fun σ H' W => ?_
    obtain ⟨r1, ⟨r2, r3, r4⟩, r5, r6, r7, r8⟩ := W.r0
    exact q kd st tl H' r6 r7 r8 (fun z => sM (by rw [← z]; exact List.mem_cons_self)) (fun z => tM (by rw [← z]; exact List.mem_cons_of_mem _ List.mem_cons_self)) (fun z => tM (by rw [← z]; exact List.mem_cons_self)) r5
      ⟨r1, ⟨[], r2, memo_nil⟩, ⟨[], Nat.le_refl _, r3⟩, ⟨[], Nat.le_refl _, r4⟩⟩
end
end Fb
namespace Fb
open PySem L2
open FbM (HV HL anc br contr canBe bad cls rowBy ones inRow lives sB sW rowsOf aStep wk testable)
section
variable {X : Cx} {M : List Addr} {L : Own} {R R1 : Hp → Prop} {ρ : Rho} {e : Expr} {es : List Expr} {d : PyData} {ds : List PyData} {rest : List Stmt} {D : Ends} {pos p0 p1 p2 apos apos2 cpos : Pos}
/-- self.f[-1] -/
theorem elast (i : Nat) {x C p : Addr} {fd : Flds} {y f : Str} {nj} {mp cp : Pos} {M0 : List Addr} (c : Cls X.K C) (n : NoAttr X.K C f) (hM : M0 = M) (hR : ∀ H, R H → Obj M0 C x fd H) (hl : fd.lookup f = some (.a (.ref p))) (hS : ∀ H, R H → ∃ ss, LstAt M0 p (ss ++ [d]) H) (hb : ρ[i]? = some (some (.a (.ref x))) := by rfl) (hN : X.N[i]? = some y := by rfl)
    (hv : Vis X.env.scope y := by first | exact Or.inl rfl | exact Or.inr (Or.inl rfl) | exact Or.inr (Or.inr rfl)) (hd : (y == ("__debug__" : Str)) = false := by decide) (hcd : (y == ("__classdict__" : Str)) = false := by decide)
    (hbs : attributeBase (.Name y p0) f X.env (eval (.Name y p0) X.env) = eval (.Name y p0) X.env := by rfl) (hs : PlainIx (.UnaryOp .USub (.Constant (.int 1) nj cp) mp) := by exact fun _ _ => rfl) : ED X M L R ρ (.Subscript (.Attribute (.Name y p0) f apos) (.UnaryOp .USub (.Constant (.int 1) nj cp) mp) pos) d := fun σ H S Q q => by
  subst hM
  have r := S.r0
  obtain ⟨dx, fs, h1, h2⟩ := hR H r
  obtain ⟨v, h3, h4⟩ := h2.get hl
  cases h4
  obtain ⟨ss, vs, h5, h6⟩ := hS H r
  refine ⟨_, pe_ix ix_list (pe_fld (pe_var hN hv hd hcd) hbs) (pe_un un_neg pe_int) hs, .ref x, S.valOf hb, x, C, dx, fs, _, rfl, h1, c, n, h3, ?_⟩
  have hlen := h6.len
  rw [List.length_append, List.length_singleton] at hlen
  obtain ⟨w, g1, g2⟩ := h6.get (i := ss.length) (d := d) (by rw [List.getElem?_append_right (Nat.le_refl _), Nat.sub_self]; rfl)
  have hi : atI vs (-1) = some w := by
    have hw : vs.length - 1 = ss.length := by omega
    unfold atI
    have e : ixN vs.length (-1) = some ss.length := by
      unfold ixN
      rw [if_neg (by omega), if_pos (by omega)]
      congr 1; omega
    rw [e]; exact g1
  exact ⟨1, rfl, p, vs, -1, w, rfl, rfl, SqL.of h5, hi, q w H (Keep.refl _ _) S g2⟩
/-- self.f.append(e) -/
theorem go_fapp (i : Nat) {x C p : Addr} {fd : Flds} {y f : Str} (c : Cls X.K C) (n : NoAttr X.K C f) (h : ED X M L R ρ e d) (hR : ∀ H, R H → Obj M C x fd H) (hl : fd.lookup f = some (.a (.ref p))) (hpM : p ∈ M) (hpL : p ∉ L.map (·.1)) (hS : ∀ H, R H → ∃ ds, LstAt M p ds H ∧ ds.length < 100000)
    (tr : ∀ H1 ds, R H1 → LstAt M p ds H1 → ∀ H', LstAt M p (ds ++ [d]) H' → (∀ b, b ≠ p → H' b = H1 b) → R1 H') (k : Go X rest D M L R1 ρ)
    (hb : ρ[i]? = some (some (.a (.ref x))) := by rfl) (hN : X.N[i]? = some y := by rfl)
    (hv : Vis X.env.scope y := by first | exact Or.inl rfl | exact Or.inr (Or.inl rfl) | exact Or.inr (Or.inr rfl)) (hd : (y == ("__debug__" : Str)) = false := by decide) (hcd : (y == ("__classdict__" : Str)) = false := by decide)
    (hbs : attributeBase (.Name y p0) f X.env (eval (.Name y p0) X.env) = eval (.Name y p0) X.env := by rfl)
    (hs : swapsWith (.Call (.Attribute (.Attribute (.Name y p0) f apos2) "append" apos) [e] [] cpos) none pos.line X.env = pure false := by rfl)
    (hbase : attributeBase (.Attribute (.Name y p0) f apos2) "append" X.env (eval (.Attribute (.Name y p0) f apos2) X.env) = eval (.Attribute (.Name y p0) f apos2) X.env := by rfl)
    (hfew : ((backTo cpos (starEach [e] X.env)).all (fun x => !x.1) && (backToKw cpos (keywordEach [] X.env)).all (fun x => x.1.isSome) && decide ([e].length + ([] : List Keyword).length + (if ([] : List Keyword).isEmpty then 0 else 1) < 30)) = true := by rfl)
    (hline : (apos.endLine == cpos.line) = true := by rfl) (hst : starEach [e] X.env = (false, eval e X.env) :: starEach [] X.env := by rfl) (hplain : (backTo cpos (starEach [] X.env)).any (·.1) = false := by rfl) :
    Go X (.Expr (.Call (.Attribute (.Attribute (.Name y p0) f apos2) "append" apos) [e] [] cpos) pos :: rest) D M L R ρ := fun σ H S => by
  have r := S.r0
  obtain ⟨dx, fs, h1, h2⟩ := hR H r
  obtain ⟨v, h3, h4⟩ := h2.get hl
  cases h4
  obtain ⟨ds0, ⟨vs0, h5, _⟩, _⟩ := hS H r
  refine wb_cons (ps_expr (pe_bm PySem.F.plainAttrs_list PySem.F.slot_list_append PySem.F.type_list_append mt_append (pe_fld (pe_var hN hv hd hcd) hbs) (pa_cons we pa_nil hst) hbase hfew hline hst hplain) hs) ?_
  refine ⟨.ref x, S.valOf hb, x, C, dx, fs, _, rfl, h1, c, n, h3, .inl ⟨rfl, vs0, SqL.of h5⟩, h σ H S _ fun v H2 k2 S2 d2 => ?_⟩
  obtain ⟨ds, l2, hlen⟩ := hS H2 S2.r0
  have l3 := l2
  obtain ⟨vs, g1, g2⟩ := l2
  refine ⟨p, vs, v, rfl, rfl, g1, by rw [g2.len]; exact Nat.lt_of_lt_of_le hlen (by decide), ?_⟩
  have kk : Keep M H2 (upd H2 p (.lst (vs ++ [v]))) := keep_upd hpM
  have l' : LstAt M p (ds ++ [d]) (upd H2 p (.lst (vs ++ [v]))) := ⟨_, upd_same, dpAll_same kk (g2.snoc d2)⟩
  -- what was at p ahead
  have Sq : Sto M L (fun H3 => R H3 ∧ LstAt M p ds H3) ρ σ H2 := S2.plus fun H3 p3 => ⟨vs, p3 p _ hpL g1, dpAll_same (pres_keep S2.lm p3) g2⟩
  refine k σ _ (Sq.callR (C := [p]) (by simpa using hpM) (by simpa using hpL) (fr_upd (by simp)) (fun a ha => by simp at ha; subst ha; rw [upd_same]; simp) fun Ha Hb ⟨ra, la⟩ g1 g2 kb => tr Ha ds ra la Hb (l'.keep (g2 p (by simp)) kb) fun b hb => (g1 b (by simpa using hb)).symm)
/-- value(self.rows, part, self.known) -/
theorem evalue_self (i jx : Nat) {x C kd : Addr} {fd : Flds} {y z f g : Str} {M0 : List Addr} {k j n : Nat} {rows : Rows} {N b : Nat} {u : List Int} (c : Cal X.prog X.w X.K X.mg X.base k "value" (spVal n)) (hr : Room j X.A) (hk : k ≤ j) (cc : Cls X.K C) (nf : NoAttr X.K C f) (ng : NoAttr X.K C g) (sM : ∀ a ∈ M0, a ∈ M)
    (hR : ∀ H, R H → Obj M0 C x fd H) (hlf : fd.lookup f = some (.d (rowsD rows))) (hlg : fd.lookup g = some (.a (.ref kd))) (hkM : kd ∈ M0) (hb1 : (b + 2) ^ N ≤ 20000) (hN : N ≤ 24) (hrl : rows.length ≤ 24) (hu : StateOk N b u) (hn : lives u ≤ n) (hK : ∀ H, R H → Kd rows N b kd H) (tr : ∀ H', Kd rows N b kd H' → Tr [kd] H' R)
    (hb : ρ[i]? = some (some (.a (.ref x))) := by rfl) (hbj : ρ[jx]? = some (some (.d (tI u))) := by rfl) (hNi : X.N[i]? = some y := by rfl) (hNj : X.N[jx]? = some z := by rfl)
    (hv : Vis X.env.scope y := by first | exact Or.inl rfl | exact Or.inr (Or.inl rfl) | exact Or.inr (Or.inr rfl)) (hd : (y == ("__debug__" : Str)) = false := by decide) (hcd : (y == ("__classdict__" : Str)) = false := by decide)
    (hvz : Vis X.env.scope z := by first | exact Or.inl rfl | exact Or.inr (Or.inl rfl) | exact Or.inr (Or.inr rfl)) (hdz : (z == ("__debug__" : Str)) = false := by decide) (hcz : (z == ("__classdict__" : Str)) = false := by decide)
    (hbs : attributeBase (.Name y p0) f X.env (eval (.Name y p0) X.env) = eval (.Name y p0) X.env := by rfl) (hbs2 : attributeBase (.Name y p1) g X.env (eval (.Name y p1) X.env) = eval (.Name y p1) X.env := by rfl)
    (hg : Gl X "value" := by rfl) (he : starEach [.Attribute (.Name y p0) f apos, .Name z p2, .Attribute (.Name y p1) g apos2] X.env = (false, eval (.Attribute (.Name y p0) f apos) X.env) :: starEach [.Name z p2, .Attribute (.Name y p1) g apos2] X.env := by rfl)
    (he2 : starEach [.Name z p2, .Attribute (.Name y p1) g apos2] X.env = (false, eval (.Name z p2) X.env) :: starEach [.Attribute (.Name y p1) g apos2] X.env := by rfl) (he3 : starEach [.Attribute (.Name y p1) g apos2] X.env = (false, eval (.Attribute (.Name y p1) g apos2) X.env) :: starEach [] X.env := by rfl)
    (hpl : (backTo pos (starEach [.Name z p2, .Attribute (.Name y p1) g apos2] X.env)).any (·.1) = false := by rfl) : ED X M L R ρ (.Call (.Name "value" cpos) [.Attribute (.Name y p0) f apos, .Name z p2, .Attribute (.Name y p1) g apos2] [] pos) (.int (FbM.value rows u)) := fun σ H S Q q => by
  have r := S.r0
  obtain ⟨dx, fs, h1, h2⟩ := hR H r
  obtain ⟨v, h3, h4⟩ := h2.get hlf
  obtain ⟨v2, h5, h6⟩ := h2.get hlg
  cases h6
  obtain ⟨w, h7, h8⟩ := S.datOf hbj
  refine ⟨_, pe_c c hr hk hg (pa_cons (pe_fld (pe_var hNi hv hd hcd) hbs) (pa_cons (pe_var hNj hvz hdz hcz) (pa_cons (pe_fld (pe_var hNi hv hd hcd) hbs2) pa_nil he3) he2) he) (by decide) he hpl, .ref x, S.valOf hb, x, C, dx, fs, v, rfl, h1, cc, nf, h3, w, h7, .ref x, S.valOf hb, x, C, dx, fs, _, rfl, h1, cc, ng, h5, ?_⟩
  refine ⟨M0, rows, N, b, u, v, w, kd, fun a ha => S.al a (sM a ha), hkM, rfl, h4, dat_sub h8 sM, hK _ r, hb1, hN, hrl, hu, hn, fun H' f k' => ?_⟩
  have S3 := S.call (C := [kd]) (H' := H') (by simpa using sM kd hkM) (kd_notin S (hK _ r)) f (by simpa using k'.some) (tr H' k')
  exact q _ H' (f.keep (by simpa using sM kd hkM)) S3 (.int _)
end
/-! ### test -/
theorem word_works (b : Bool) : decide (wordS b = "works") = !b := by
  cases b
  · exact decide_eq_true rfl
  · exact decide_eq_false works_ne
theorem Atb.ne {M : List Addr} {C x kd st tl : Addr} {P : List (List Nat)} {S : List Nat} {b n : Nat} {s : List Int} {H : Hp} (h : Atb M C x kd st tl P S b n s H) : x ≠ kd ∧ x ≠ st ∧ x ≠ tl ∧ kd ≠ st ∧ kd ≠ tl := by
  obtain ⟨dx, fs, e1, _⟩ := h.o
  obtain ⟨kvs, e2, _⟩ := h.k
  obtain ⟨ss, _, vs, e3, _⟩ := h.st
  obtain ⟨ts, _, us, e4, _⟩ := h.tl
  refine ⟨fun z => ?_, fun z => ?_, fun z => ?_, fun z => ?_, fun z => ?_⟩
  · rw [z, e2] at e1; cases e1
  · rw [z, e3] at e1; cases e1
  · rw [z, e4] at e1; cases e1
  · rw [z, e3] at e2; cases e2
  · rw [z, e4] at e2; cases e2
theorem Atb.tr {M : List Addr} {C x kd st tl : Addr} {P : List (List Nat)} {S : List Nat} {b n : Nat} {s : List Int} {H' : Hp} (hk : kd ∈ M) (k : Kd (rowsOf P S) (cls P S).length b kd H') : Tr [kd] H' (Atb M C x kd st tl P S b n s) := fun H1 H2 h e f => by
  obtain ⟨n1, n2, n3, n4, n5⟩ := h.ne
  have sM : ∀ a ∈ [kd], a ∈ M := by simpa using hk
  refine ⟨tr_obj0 (by simpa using n1) sM H1 H2 h.o e f, tr_kd k H1 H2 h.k e f, ?_, ?_⟩
  · obtain ⟨ss, l, h1⟩ := h.st
    exact ⟨ss, l, tr_lst0 (by simpa using n4.symm) sM H1 H2 h1 e f⟩
  · obtain ⟨ss, l, h1⟩ := h.tl
    exact ⟨ss, l, tr_lst0 (by simpa using n5.symm) sM H1 H2 h1 e f⟩
def spTest (C : Addr) : Sp := fun vs H Q _ => ∃ M x kd st tl P S b n s m, (∀ a ∈ M, H a ≠ none) ∧ (x ∈ M ∧ kd ∈ M ∧ st ∈ M ∧ tl ∈ M ∧ st ≠ tl) ∧ vs = [.ref x, .int (m : Nat)] ∧ HV P ∧ StateOk (cls P S).length b s ∧ (b + 2) ^ (cls P S).length ≤ 20000 ∧ lives s ≤ 12 ∧ m ∈ testable P.length S ∧ n ≤ 100 ∧ Atb M C x kd st tl P S b n s H ∧
  ∀ H', Fr [kd, st, tl] H H' → Atb M C x kd st tl P S b (n + 1) (aStep P S s m).2 H' → Q (.str (wordS (aStep P S s m).1)) H'
section
variable {Pg : Program} {w : World} {K : PySem.W.Frag} {mg : Str → Option Value} {base : Heap}
theorem wk_eq {rows : Rows} {s : List Int} {row : List Nat} {B W : Int} (hB : FbM.value rows (sB s row) = B) (hW : FbM.value rows (sW s row) = W) : (decide (B < W) || (decide (W = B) && decide (((inRow s row).length : Int) < ((ones s).length : Int) - ((inRow s row).length : Int)))) = wk rows s row := by
  unfold FbM.wk
  rw [hB, hW]
  congr 2
  exact decide_eq_decide.mpr (by omega)
theorem ok_test (T : Txt K mg) : Met Pg w K mg base 16 (AK K) "test" (spTest (AK K)) := by
  refine met_of T.c_Answerer T.m_Answerer_test (df_Answerer_test T) (fun vs H Q E h => ?_) fun cdv A outer s H vs Q E hr h => ?_
  · obtain ⟨M, x, kd, st, tl, P, S, b, n, s, m, _, _, rfl, _⟩ := h
    rfl
  obtain ⟨M, x, kd, st, tl, P, S, b, n, t, m, al, ⟨hxM, hkM, hsM, htM, hst⟩, rfl, hV, ht, hb, hlv, hm, hn, h0, q⟩ := h
  have hP := hV.le
  have hC := FbM.cls_le (P := P) (S := S)
  have hrl := rows_len (P := P) (S := S)
  have ht1 := ht.1
  obtain ⟨n1, n2, n3, n4, n5⟩ := h0.ne
  have hmem := FbM.mem_testable.mp hm
  have kkd : ∀ H', Same H H' → Atb M (AK K) x kd st tl P S b n t H' := fun H' s' => by
    obtain ⟨dx, fs, e1, _⟩ := id h0.o
    obtain ⟨kvs, e2, _⟩ := id h0.k
    refine ⟨h0.o.keep (by rw [e1]; exact s' _ _ e1) (same_keep s'), h0.k.at (by rw [e2]; exact s' _ _ e2), ?_, ?_⟩
    · obtain ⟨ss, l, h1⟩ := h0.st
      obtain ⟨us, e3, _⟩ := id h1
      exact ⟨ss, l, h1.keep (by rw [e3]; exact s' _ _ e3) (same_keep s')⟩
    · obtain ⟨ss, l, h1⟩ := h0.tl
      obtain ⟨us, e3, _⟩ := id h1
      exact ⟨ss, l, h1.keep (by rw [e3]; exact s' _ _ e3) (same_keep s')⟩
  refine (?_ : Go _ _ _ M [] (fun H' => Atb M (AK K) x kd st tl P S b n t H' ∧ Fr [kd, st, tl] H H') [some (.a (.ref x)), some (.d (iN m)), none, none, none, none, none, none, none, none, none, none]) _ _
    (stoB (N := N_Answerer_test) (bs := [.a (.ref x), .d (iN m)]) al rfl (fun i c hc => by
      match i, hc with
      | 0, hc => cases hc; exact ⟨.ref x, rfl, rfl⟩
      | 1, hc => cases hc; exact ⟨.int m, rfl, .int _⟩) fun H' s' => ⟨kkd H' s', fr_same s'⟩)
  have trk : ∀ H', Kd (rowsOf P S) (cls P S).length b kd H' → Tr [kd] H' (fun H' => Atb M (AK K) x kd st tl P S b n t H' ∧ Fr [kd, st, tl] H H') := fun H' k => (Atb.tr hkM k).and (tr_frS (by simp))
  refine go_skip (ET.cast (tcmp (en 1) (efld 0 T.c_Answerer T.n_Answerer_skipped (fun _ r => r.1.o)) bd_inTN) (decide_eq_false hmem.2)) ?_
  refine go_set 2 sc_Answerer_test.nd (d := tI t) (elast 0 T.c_Answerer T.n_Answerer_states rfl (fun _ r => r.1.o) rfl (fun _ r => by obtain ⟨ss, _, h⟩ := r.1.st; exact ⟨ss, h⟩)) ?_
  refine go_set 3 sc_Answerer_test.nd (ecall (ok_broken_by T) hr (ea_cons (efld 0 T.c_Answerer T.n_Answerer_history (fun _ r => r.1.o)) (ea_cons (efld 0 T.c_Answerer T.n_Answerer_found (fun _ r => r.1.o)) (ea_cons (en 1) ea_nil))) ⟨P, cls P S, m, hV, hmem.1, by omega, cls_ne, rfl, rfl⟩) ?_
  refine go_set 4 sc_Answerer_test.nd (ecall (ok_both_after T) hr (ea_cons (en 2) (ea_cons (en 3) ea_nil)) ⟨t, rowBy P (cls P S) m, by omega, rfl, rfl⟩) ?_
  refine go_asg (d := .list [.int (FbM.value (rowsOf P S) (sB t (rowBy P (cls P S) m))), .int (FbM.value (rowsOf P S) (sW t (rowBy P (cls P S) m)))]) (elcM 5 (l := [sB t (rowBy P (cls P S) m), sW t (rowBy P (cls P S) m)]) (enc := tI) (N := N_Answerer_test) (sc := defScope s_Answerer_test) (fun u => .int (FbM.value (rowsOf P S) u)) sc_Answerer_test.nd (by decide +kernel)
    (ei_list (en 4)) (fun _ _ _ _ _ _ _ u hu => ?_) (by simp)) (eg_unl rfl (egs_cons (eg_name 6 sc_Answerer_test.nd) (egs_cons (eg_name 7 sc_Answerer_test.nd) egs_nil))) ?_
  · have hl1 : lives (sB t (rowBy P (cls P S) m)) ≤ 12 ∧ StateOk (cls P S).length b (sB t (rowBy P (cls P S) m)) := ⟨Nat.le_trans (FbM.lives_low_le fun x hx => (ht.2 x hx).1) hlv, sB_ok ht⟩
    have hl2 : lives (sW t (rowBy P (cls P S) m)) ≤ 12 ∧ StateOk (cls P S).length b (sW t (rowBy P (cls P S) m)) := ⟨Nat.le_trans (FbM.lives_low_le fun x hx => (ht.2 x hx).1) hlv, sW_ok ht⟩
    have hu2 : lives u ≤ 12 ∧ StateOk (cls P S).length b u := by
      rcases List.mem_cons.mp hu with e | hu
      · subst e; exact hl1
      · rcases List.mem_cons.mp hu with e | hu
        · subst e; exact hl2
        · cases hu
    exact evalue_self 0 5 (ok_value T 12) hr (by decide) T.c_Answerer T.n_Answerer_rows T.n_Answerer_known (fun a ha => List.mem_cons_of_mem _ ha) (fun _ r => r.1.o) rfl rfl hkM hb (by omega) (by omega) hu2.2 hu2.1 (fun _ r => r.1.k) trk
  refine go_set 8 sc_Answerer_test.nd (ecall (ok_ones_in T) hr (ea_cons (en 2) ea_nil) ⟨t, by omega, rfl, rfl⟩) ?_
  have ho := ones_le t
  refine go_set 10 sc_Answerer_test.nd (elenL (n := (inRow t (rowBy P (cls P S) m)).length) T.z_len (elc1 9 (l := ones t) (enc := iN) (N := N_Answerer_test) (sc := defScope s_Answerer_test) (fun k => decide (k ∈ rowBy P (cls P S) m)) iN sc_Answerer_test.nd (by decide +kernel)
    (ei_list (en 8)) (fun _ _ _ _ _ _ _ k hk => ets_one (tcmp (en 9) (en 3) bd_inLN)) (fun _ _ _ _ _ _ _ k _ _ => en 9) (by omega)) (by rw [List.length_map]; rfl)) ?_
  refine go_set 11 sc_Answerer_test.nd ec_str ?_
  -- the end, for either word
  have tail : ∀ bb : Bool, aStep P S t m = (bb, if bb then sB t (rowBy P (cls P S) m) else sW t (rowBy P (cls P S) m)) → Go (cx Pg w K mg base N_Answerer_test "Answerer.test" s_Answerer_test (He.ma K (He.ga K "Answerer") "test") cdv A outer s H E) ((defBody s_Answerer_test).drop 9) { nx := fun _ H' => Q .non H', rt := Q } M []
      (fun H' => Atb M (AK K) x kd st tl P S b n t H' ∧ Fr [kd, st, tl] H H')
      [some (.a (.ref x)), some (.d (iN m)), none, none, some (.d (.list [tI (sB t (rowBy P (cls P S) m)), tI (sW t (rowBy P (cls P S) m))])), none, none, none, none, none, none, some (.d (.str (wordS bb)))] := fun bb hbb => by
    refine go_fapp (R1 := fun H' => (Atb M (AK K) x kd st tl P S b (n + 1) (aStep P S t m).2 H' ∧ ∃ ts, ts.length ≤ n ∧ LstAt M tl ts H') ∧ Fr [kd, st, tl] H H') (p := st) (d := tI (aStep P S t m).2) 0 T.c_Answerer T.n_Answerer_states (eix (en 4) (eintB (p := !bb) T.z_int (ED.cast (ecmp (en 11) ec_str bd_eqS) (by rw [word_works]))) (by
        rw [hbb]
        cases bb
        · exact ix_l (i := 1) rfl
        · exact ix_l (i := 0) rfl)) (fun _ r => r.1.o) rfl hsM (by simp) (fun _ r => by
        obtain ⟨ss, l, h⟩ := r.1.st
        exact ⟨_, h, by simp; omega⟩) (fun H1 ds r l1 H' l2 e => ?_) ?_
    · have kp : Keep M H1 H' := keep_of fun a o ha z => by rw [e a (fun y => ha (y ▸ hsM))]; exact z
      have ht2 : ∃ ts, ts.length ≤ n ∧ LstAt M tl ts H' := by
        obtain ⟨ts, hl, h⟩ := r.1.tl
        exact ⟨ts, hl, h.keep (e tl hst.symm) kp⟩
      refine ⟨⟨⟨r.1.o.keep (e x n2) kp, r.1.k.at (e kd n4), ?_, ?_⟩, ht2⟩, fun a o ha z => by
        rw [e a (fun y => ha (by rw [y]; simp))]; exact r.2 a o ha z⟩
      · obtain ⟨ss, hl, vs, g1, g2⟩ := r.1.st
        obtain ⟨us, g3, g4⟩ := l1
        rw [g1] at g3
        cases g3
        refine ⟨ds, ?_, l2⟩
        have := g2.len
        have := g4.len
        simp at *
        omega
      · obtain ⟨ts, hl, h⟩ := ht2
        exact ⟨ts, by omega, h⟩
    refine go_fapp (R1 := fun H' => Atb M (AK K) x kd st tl P S b (n + 1) (aStep P S t m).2 H' ∧ Fr [kd, st, tl] H H') (p := tl) 0 T.c_Answerer T.n_Answerer_told (etup (ea_cons (en 11) (ea_cons (en 1) ea_nil))) (fun _ r => r.1.1.o) rfl htM (by simp) (fun _ r => by
        obtain ⟨ss, l, h⟩ := r.1.2
        exact ⟨_, h, by omega⟩) (fun H1 ds r l1 H' l2 e => ?_) ?_
    · have kp : Keep M H1 H' := keep_of fun a o ha z => by rw [e a (fun y => ha (y ▸ htM))]; exact z
      refine ⟨⟨r.1.1.o.keep (e x n3) kp, r.1.1.k.at (e kd n5), ?_, ?_⟩, fun a o ha z => by
        rw [e a (fun y => ha (by rw [y]; simp))]; exact r.2 a o ha z⟩
      · obtain ⟨ss, hl, h⟩ := r.1.1.st
        exact ⟨ss, hl, h.keep (e st hst) kp⟩
      · obtain ⟨ts, hl, vs, g1, g2⟩ := r.1.2
        obtain ⟨us, g3, g4⟩ := l1
        rw [g1] at g3
        cases g3
        refine ⟨_, ?_, l2⟩
        have := g2.len
        have := g4.len
        simp at *
        omega
    · refine go_ret (en 11) fun v H' r dv => ?_
      cases dv
      have := q H' r.2 r.1
      rw [hbb] at this
      exact this
  refine go_if (b := wk (rowsOf P S) t (rowBy P (cls P S) m)) (ET.cast (tw (wor (tcmp (en 7) (en 6) bd_gt) (fun _ => wor1 (tw (wand (tcmp (en 7) (en 6) bd_eqI) (fun _ => wand1 (tcmp (en 10) (eb (elenL (n := (ones t).length) T.z_len (en 8)) (en 10) bd_sub) bd_lt))))))) (wk_eq rfl rfl)) (fun hw => ?_) (fun hw => ?_)
  · refine go_set 11 sc_Answerer_test.nd ec_str (go_end fun σ H' W => tail false ?_ σ H' (W.less ⟨rfl, rfl, rfl, rfl, trivial⟩))
    unfold FbM.aStep
    rw [if_pos hw]; rfl
  · refine go_end fun σ H' W => tail true ?_ σ H' (W.less ⟨rfl, rfl, rfl, rfl, trivial⟩)
    unfold FbM.aStep
    rw [if_neg (by rw [hw]; exact Bool.false_ne_true)]; rfl
end
end Fb
namespace Fb
open PySem L2
open FbM (HV HL anc br cell pos1 bigI seedI digOf digI dr pickM)
section
variable {X : Cx} {M : List Addr} {L : Own} {R R1 : Hp → Prop} {ρ : Rho} {e a b : Expr} {es : List Expr} {d : PyData} {ds : List PyData} {rest : List Stmt} {D : Ends} {pos p0 p1 p2 apos : Pos}
theorem go_newF (i : Nat) {x : Str} {lp : Pos} (hN : X.N.Nodup) (h : EA X M L R ρ es ds) (k : ∀ a, a ∉ M → Go X rest D (a :: M) ((a, ds) :: L) R (ρ.set i (some (.a (.ref a))))) (hl : ds.length ≤ 1000 := by simp) (hi : X.N[i]? = some x := by rfl) (hx : Loc X.env.scope x := by first | exact Or.inl rfl | exact Or.inr rfl)
    (hs : swapsWith (.List es lp) (some (.Name x p0)) pos.line X.env = pure false := by rfl) (hf : X.fn x = true ∨ X.env.scope.names.lookup x = some .local := by first | exact .inl rfl | exact .inr rfl) : Go X (.Assign [.Name x p0] (.List es lp) pos :: rest) D M L R ρ := fun σ H S =>
  wb_cons (ps_set hN hi hx (pe_lst wa) hs hf) (h σ H S _ fun vs H2 _ S2 d2 => ⟨by rw [d2.len]; exact Nat.le_of_lt (small1000 hl), fun a na => k a (fun q => S2.al a q na) _ _ ((S2.own_new na d2).set (b := .a (.ref a)) rfl)⟩)
/-- return x, x a list of one's own -/
theorem go_ret_own (i : Nat) {x : Str} {a : Addr} (aM : a ∉ M) (k : ∀ v H, R H → Dat M H v (.list ds) → D.rt v H) (hb : ρ[i]? = some (some (.a (.ref a))) := by rfl) (hN : X.N[i]? = some x := by rfl)
    (hv : Vis X.env.scope x := by first | exact Or.inl rfl | exact Or.inr (Or.inl rfl) | exact Or.inr (Or.inr rfl)) (hd : (x == ("__debug__" : Str)) = false := by decide) (hcd : (x == ("__classdict__" : Str)) = false := by decide) : Go X (.Return (some (.Name x p0)) pos :: rest) D (a :: M) ((a, ds) :: L) R ρ := fun σ H S => by
  obtain ⟨vs, h1, h2⟩ := S.own _ List.mem_cons_self
  exact wb_cons (ps_ret (pe_var hN hv hd hcd)) ⟨.ref a, S.valOf hb, k _ H S.r0 (.lst (by rw [hide_out aM]; exact h1) (datAll_sub h2 fun b hb => List.mem_cons_of_mem _ hb))⟩
/-! ### the script -/
theorem go_ifJ {c : Expr} {s1 s2 : List Stmt} {q : Bool} {ρ' : Rho} (h : ET X M L R ρ c q) (h1 : q = true → ∀ K : L2.St → Hp → Prop, (∀ σ H, Sto M L R ρ' σ H → K σ H) → Go X s1 (to D K) M L R ρ) (h2 : q = false → ∀ K : L2.St → Hp → Prop, (∀ σ H, Sto M L R ρ' σ H → K σ H) → Go X s2 (to D K) M L R ρ) (k : Go X rest D M L R ρ') :
    Go X (.If c s1 s2 pos :: rest) D M L R ρ := go_if h (fun e => h1 e _ k) fun e => h2 e _ k
theorem elen_scr (i : Nat) {x : Str} {p : Addr} {ns : List Int} (hm : X.mg "len" = none) (hR : ∀ H, R H → SqL X.K H p (ns.map V.int)) (hb : ρ[i]? = some (some (.a (.ref p))) := by rfl) (hN : X.N[i]? = some x := by rfl)
    (hv : Vis X.env.scope x := by first | exact Or.inl rfl | exact Or.inr (Or.inl rfl) | exact Or.inr (Or.inr rfl)) (hd : (x == ("__debug__" : Str)) = false := by decide) (hcd : (x == ("__classdict__" : Str)) = false := by decide) (hg : Gl X "len" := by rfl)
    (he : starEach [.Name x p1] X.env = (false, eval (.Name x p1) X.env) :: starEach [] X.env := by rfl) (hpl : (backTo pos (starEach [] X.env)).any (·.1) = false := by rfl) : ED X M L R ρ (.Call (.Name "len" p0) [.Name x p1] [] pos) (iN ns.length) := fun σ H S Q q =>
  ⟨_, pe_callB call_len_seq hg hm PySem.boot_len (pa_cons (pe_var hN hv hd hcd) pa_nil he) (by decide) (by decide) he hpl, .ref p, S.valOf hb, p, ns.map V.int, rfl, .inl (hR H S.r0), q _ H (Keep.refl _ _) S (by rw [List.length_map]; exact .int _)⟩
theorem eix_scr (i : Nat) {x : Str} {p : Addr} {ns : List Int} {k : Nat} {z : Int} (hR : ∀ H, R H → SqL X.K H p (ns.map V.int)) (hk : ED X M L R ρ b (iN k)) (hz : ns[k]? = some z) (hb : ρ[i]? = some (some (.a (.ref p))) := by rfl) (hN : X.N[i]? = some x := by rfl)
    (hv : Vis X.env.scope x := by first | exact Or.inl rfl | exact Or.inr (Or.inl rfl) | exact Or.inr (Or.inr rfl)) (hd : (x == ("__debug__" : Str)) = false := by decide) (hcd : (x == ("__classdict__" : Str)) = false := by decide) (hs : PlainIx b := by exact fun _ _ => rfl) :
    ED X M L R ρ (.Subscript (.Name x p0) b pos) (.int z) := fun σ H S Q q =>
  ⟨_, pe_ix ix_list (pe_var hN hv hd hcd) we hs, .ref p, S.valOf hb, hk σ H S _ fun y H2 k2 S2 d2 => by
    cases d2
    exact ⟨p, ns.map V.int, k, .int z, rfl, rfl, hR _ S2.r0, atI_nat (by rw [List.getElem?_map, hz]; rfl), q _ H2 k2 S2 (.int z)⟩⟩
def spCell (K : PySem.W.Frag) : Sp := fun vs H Q _ => ∃ (p : Addr) (ns : List Int) (k : Nat), vs = [.ref p, .int (k : Nat)] ∧ SqL K H p (ns.map V.int) ∧ ∀ H', Same H H' → Q (.int (cell ns k)) H'
theorem ecell (i : Nat) {x : Str} {p : Addr} {ns : List Int} {k kk j : Nat} (c : Cal X.prog X.w X.K X.mg X.base kk "_law_cell" (spCell X.K)) (hr : Room j X.A) (hk : kk ≤ j) (hR : ∀ H, R H → SqL X.K H p (ns.map V.int)) (h : ED X M L R ρ b (iN k)) (hb : ρ[i]? = some (some (.a (.ref p))) := by rfl) (hN : X.N[i]? = some x := by rfl)
    (hv : Vis X.env.scope x := by first | exact Or.inl rfl | exact Or.inr (Or.inl rfl) | exact Or.inr (Or.inr rfl)) (hd : (x == ("__debug__" : Str)) = false := by decide) (hcd : (x == ("__classdict__" : Str)) = false := by decide) (hg : Gl X "_law_cell" := by rfl)
    (he : starEach [.Name x p1, b] X.env = (false, eval (.Name x p1) X.env) :: starEach [b] X.env := by rfl) (he2 : starEach [b] X.env = (false, eval b X.env) :: starEach [] X.env := by rfl) (hpl : (backTo pos (starEach [b] X.env)).any (·.1) = false := by rfl) : ED X M L R ρ (.Call (.Name "_law_cell" p0) [.Name x p1, b] [] pos) (.int (cell ns k)) := fun σ H S Q q =>
  ⟨_, pe_c c hr hk hg (pa_cons (pe_var hN hv hd hcd) (pa_cons we pa_nil he2) he) (by decide) he hpl, .ref p, S.valOf hb, h σ H S _ fun y H2 k2 S2 d2 => by
    cases d2
    exact ⟨p, ns, k, rfl, hR _ S2.r0, fun H' s => q _ H' (k2.trans (same_keep s)) (S2.mono s) (.int _)⟩⟩
/-- range(0, n) -/
theorem ei_range2 {tg : Expr} {n : Nat} (ha : ED X M L R ρ a (.int 0)) (h : ED X M L R ρ b (iN n)) (hm : X.mg "range" = none) (hn : n ≤ 100000) (hg : Gl X "range" := by rfl) (hs : starEach [a, b] X.env = [(false, eval a X.env), (false, eval b X.env)] := by rfl) (hs2 : starEach [b] X.env = [(false, eval b X.env)] := by rfl) : EI X M L R ρ tg (.Call (.Name "range" p0) [a, b] [] pos) ((List.range n).map iN) := fun σ H S Q q =>
  ⟨_, pi_range2 hg hm (pa_cons we (pa_cons we pa_nil hs2) (hs.trans (by rw [hs2]))) hs hs2, ha σ H S _ fun v H1 k1 S1 d1 => h σ H1 S1 _ fun w H2 k2 S2 d2 => by
    cases d1
    cases d2
    have e : (((n : Nat) : Int) - 0).toNat = n := by omega
    refine ⟨_, _, rfl, ⟨by omega, by omega, by omega, by omega⟩, ?_⟩
    rw [e]
    exact q _ H2 _ (k1.trans k2) S2 itd_range trivial fun D hD => ⟨_, itd_range, trivial⟩⟩
end
section
variable {Pg : Program} {w : World} {K : PySem.W.Frag} {mg : Str → Option Value} {base : Heap}
theorem ok_law_cell (T : Txt K mg) : Cal Pg w K mg base 1 "_law_cell" (spCell K) := by
  refine cal_of (df_law_cell T) T.g_law_cell (fun vs H Q E ⟨_, _, _, e, _⟩ => by rw [e]; rfl) fun cdv A outer s H vs Q E hr h => ?_
  obtain ⟨p, ns, k, rfl, hS, q⟩ := h
  refine (?_ : Go _ _ _ [] [] (fun H' => SqL K H' p (ns.map V.int) ∧ Same H H') [some (.a (.ref p)), some (.d (iN k))]) _ _
    (stoB (N := N_law_cell) (bs := [.a (.ref p), .d (iN k)]) (by simp) rfl (fun i c hc => by
      match i, hc with
      | 0, hc => cases hc; exact ⟨.ref p, rfl, rfl⟩
      | 1, hc => cases hc; exact ⟨.int k, rfl, .int _⟩) fun H' s' => ⟨same_l s' hS, s'⟩)
  refine go_if (b := decide (k < ns.length)) (ET.cast (tcmp (en 1) (elen_scr 0 T.z_len (fun _ r => r.1)) bd_lt) (decide_eq_decide.mpr (by omega))) (fun h => ?_) (fun h => ?_)
  · have h := of_decide_eq_true h
    refine go_ret (eix_scr 0 (z := ns[k]) (fun _ r => r.1) (en 1) (List.getElem?_eq_getElem h)) fun v H' r dv => ?_
    cases dv
    have := q H' r.2
    have e : cell ns k = ns[k] := by unfold FbM.cell; rw [List.getD_eq_getElem?_getD, List.getElem?_eq_getElem h]; rfl
    rw [e] at this; exact this
  · have h := of_decide_eq_false h
    refine go_end (go_ret ec_int fun v H' r dv => ?_)
    cases dv
    have := q H' r.2
    have e : cell ns k = 0 := by unfold FbM.cell; rw [List.getD_eq_getElem?_getD, List.getElem?_eq_none (by omega)]; rfl
    rw [e] at this; exact this
def spDigits (K : PySem.W.Frag) : Sp := fun vs H Q _ => ∃ (M : List Addr) (p : Addr) (ns : List Int), (∀ a ∈ M, H a ≠ none) ∧ vs = [.ref p, .int 0, .int 63] ∧ SqL K H p (ns.map V.int) ∧ ∀ v H', Same H H' → Dat M H' v (lI (digI ns 63)) → Q v H'
theorem ok_law_digits (T : Txt K mg) : Cal Pg w K mg base 2 "_law_digits" (spDigits K) := by
  refine cal_of (df_law_digits T) T.g_law_digits (fun vs H Q E ⟨_, _, _, _, e, _⟩ => by rw [e]; rfl) fun cdv A outer s H vs Q E hr h => ?_
  obtain ⟨M, p, ns, al, rfl, hS, q⟩ := h
  refine (?_ : Go _ _ _ M [] (fun H' => SqL K H' p (ns.map V.int) ∧ Same H H') [some (.a (.ref p)), some (.d (.int 0)), some (.d (iN 63)), none, none, none, none, none]) _ _
    (stoB (N := N_law_digits) (bs := [.a (.ref p), .d (.int 0), .d (iN 63)]) al rfl (fun i c hc => by
      match i, hc with
      | 0, hc => cases hc; exact ⟨.ref p, rfl, rfl⟩
      | 1, hc => cases hc; exact ⟨.int 0, rfl, .int _⟩
      | 2, hc => cases hc; exact ⟨.int 63, rfl, .int _⟩) fun H' s' => ⟨same_l s' hS, s'⟩)
  refine go_newF 3 sc_law_digits.nd ea_nil fun a aM => ?_
  refine go_for (l := List.range 63) (enc := iN) (fun _ => [some (.a (.ref p)), some (.d (.int 0)), some (.d (iN 63)), some (.a (.ref a)), none, none, none, none]) (fun i => [(a, (digI ns i).map PyData.int)])
    (fun _ k => [some (.a (.ref p)), some (.d (.int 0)), some (.d (iN 63)), some (.a (.ref a)), some (.d (iN k)), none, none, none]) (js := [4]) PassesOwn.never rfl
    (ei_range2 (en 1) (en 2) T.z_range (by decide)) (fun σ H W => W.less ⟨rfl, rfl, rfl, rfl, trivial⟩) (fun G i x _ => eg_name 4 sc_law_digits.nd) (fun G hG k x hx => ?_) ?_
  · obtain ⟨rfl, hk⟩ := range_get hx
    have hdl := FbM.digI_len ns k
    refine go_set 5 sc_law_digits.nd (ecell 0 (ok_law_cell T) hr (by decide) (fun _ r => r.1.1) (en 4)) ?_
    refine go_ifJ (ρ' := [some (.a (.ref p)), some (.d (.int 0)), some (.d (iN 63)), some (.a (.ref a)), some (.d (iN k)), some (.d (.int (pos1 (cell ns k)))), none, none]) (tcmp (en 5) ec_int bd_lt) (fun hc K kk => ?_) (fun hc K kk => ?_) ?_
    · have hc := of_decide_eq_true hc
      have e : pos1 (cell ns k) = 1 - 2 * cell ns k := by unfold FbM.pos1; rw [if_pos hc]
      rw [e] at kk
      exact go_set 5 sc_law_digits.nd (eb ec_int (eb ec_int (en 5) (bd_mul (.inl (by decide)))) bd_sub) (go_nil fun σ H W => kk σ H (W.less ⟨rfl, rfl, rfl, rfl, rfl, rfl, trivial⟩))
    · have hc := of_decide_eq_false hc
      have e : pos1 (cell ns k) = cell ns k := by unfold FbM.pos1; rw [if_neg hc]
      rw [e] at kk
      exact go_nil fun σ H W => kk σ H (W.less ⟨rfl, rfl, rfl, rfl, rfl, rfl, trivial⟩)
    · have hz : 1 = 1 := rfl
      refine go_if (b := decide (1000000000000000000 ≤ pos1 (cell ns k))) (tcmp (en 5) (eb ec_int ec_int (bd_pow (i := 10) (j := 18) (by decide))) bd_ge) (fun hb => ?_) (fun hb => ?_)
      · have hb := of_decide_eq_true hb
        have ed : digOf (pos1 (cell ns k)) k = (bigI (pos1 (cell ns k)) 60).1 := by unfold FbM.digOf; rw [if_pos hb]
        refine go_for (l := List.range 60) (enc := iN) (fun i => [some (.a (.ref p)), some (.d (.int 0)), some (.d (iN 63)), some (.a (.ref a)), some (.d (iN k)), some (.d (.int (bigI (pos1 (cell ns k)) i).2)), none, none]) (fun i => [(a, (digI ns k ++ (bigI (pos1 (cell ns k)) i).1).map PyData.int)])
          (fun i t => [some (.a (.ref p)), some (.d (.int 0)), some (.d (iN 63)), some (.a (.ref a)), some (.d (iN k)), some (.d (.int (bigI (pos1 (cell ns k)) i).2)), some (.d (iN t)), none]) (js := [6]) PassesOwn.never rfl
          (ei_range (n := 60) ec_int T.z_range (by decide)) (fun σ H W => ?_) (fun G i x _ => eg_name 6 sc_law_digits.nd) (fun G' hG' i t ht => ?_) ?_
        · have e : digI ns k ++ (bigI (pos1 (cell ns k)) 0).1 = digI ns k := List.append_nil _
          rw [e]
          exact W.less ⟨rfl, rfl, rfl, rfl, rfl, rfl, trivial⟩
        · obtain ⟨rfl, hi⟩ := range_get ht
          have hbl := FbM.bigI_len (pos1 (cell ns k)) i
          have es : bigI (pos1 (cell ns k)) (i + 1) = if 0 < (bigI (pos1 (cell ns k)) i).2 then ((bigI (pos1 (cell ns k)) i).1 ++ [(bigI (pos1 (cell ns k)) i).2 % 1000], (bigI (pos1 (cell ns k)) i).2 / 1000) else bigI (pos1 (cell ns k)) i := rfl
          refine go_if (tcmp (en 5) ec_int bd_gt) (fun hc => ?_) (fun hc => ?_)
          · have hc := of_decide_eq_true hc
            rw [if_pos hc] at es
            refine go_app 3 0 (eb (eintI T.z_int (en 5)) ec_int (bd_mod (by decide))) (go_set 5 sc_law_digits.nd (eb (en 5) ec_int (bd_fdiv (by decide))) (go_end (go_nil fun σ H W => ?_))) (hl := by rw [List.length_map, List.length_append]; omega)
            rw [es]
            have e : (digI ns k ++ (bigI (pos1 (cell ns k)) i).1).map PyData.int ++ [.int ((bigI (pos1 (cell ns k)) i).2 % 1000)] = (digI ns k ++ ((bigI (pos1 (cell ns k)) i).1 ++ [(bigI (pos1 (cell ns k)) i).2 % 1000])).map PyData.int := by
              rw [← List.append_assoc, List.map_append (l₂ := [_])]; rfl
            rw [← e]
            exact W.less ⟨rfl, rfl, rfl, rfl, rfl, rfl, trivial⟩
          · have hc := of_decide_eq_false hc
            rw [if_neg hc] at es
            refine go_end (go_nil fun σ H W => ?_)
            rw [es]
            exact W.less ⟨rfl, rfl, rfl, rfl, rfl, rfl, trivial⟩
        · refine go_end (go_nil fun σ H W => ?_)
          rw [List.length_range] at W
          have e : digI ns (k + 1) = digI ns k ++ (bigI (pos1 (cell ns k)) 60).1 := by rw [← ed]; rfl
          rw [e]
          exact W.less ⟨rfl, rfl, rfl, rfl, trivial⟩
      · have hb := of_decide_eq_false hb
        have ed : digOf (pos1 (cell ns k)) k = (seedI ((pos1 (cell ns k) * 48271 + (k : Int) * 69621 + 11) % 2147483647) 12).1 := by unfold FbM.digOf; rw [if_neg hb]
        refine go_set 7 sc_law_digits.nd (eb (eintI T.z_int (eb (eb (eb (en 5) ec_int (bd_mul (.inr (by decide)))) (eb (en 4) ec_int (bd_mul (.inr (by decide)))) bd_add) ec_int bd_add)) ec_int (bd_mod (by decide))) ?_
        generalize hs0 : (pos1 (cell ns k) * 48271 + (k : Int) * 69621 + 11) % 2147483647 = s0 at ed ⊢
        refine go_for (l := List.range 12) (enc := iN) (fun i => [some (.a (.ref p)), some (.d (.int 0)), some (.d (iN 63)), some (.a (.ref a)), some (.d (iN k)), none, none, some (.d (.int (seedI s0 i).2))]) (fun i => [(a, (digI ns k ++ (seedI s0 i).1).map PyData.int)])
          (fun i t => [some (.a (.ref p)), some (.d (.int 0)), some (.d (iN 63)), some (.a (.ref a)), some (.d (iN k)), none, some (.d (iN t)), some (.d (.int (seedI s0 i).2))]) (js := [6]) PassesOwn.never rfl
          (ei_range (n := 12) ec_int T.z_range (by decide)) (fun σ H W => ?_) (fun G i x _ => eg_name 6 sc_law_digits.nd) (fun G' hG' i t ht => ?_) ?_
        · have e : digI ns k ++ (seedI s0 0).1 = digI ns k := List.append_nil _
          rw [e]
          exact W.less ⟨rfl, rfl, rfl, rfl, rfl, rfl, trivial⟩
        · obtain ⟨rfl, hi⟩ := range_get ht
          have hbl := FbM.seedI_len s0 i
          refine go_set 7 sc_law_digits.nd (eb (eintI T.z_int (eb (eb (eb (en 7) ec_int (bd_mul (.inr (by decide)))) (eb ec_int (en 6) (bd_mul (.inl (by decide)))) bd_add) ec_int bd_add)) ec_int (bd_mod (by decide))) ?_
          refine go_app 3 0 (eb (eintI T.z_int (eb (en 7) ec_int (bd_fdiv (by decide)))) ec_int (bd_mod (by decide))) (go_nil fun σ H W => ?_) (hl := by rw [List.length_map, List.length_append]; omega)
          have e : (digI ns k ++ (seedI s0 i).1).map PyData.int ++ [.int (((seedI s0 i).2 * 16807 + 7 * (i : Int) + 1) % 2147483647 / 997 % 1000)] = (digI ns k ++ (seedI s0 (i + 1)).1).map PyData.int := by
            show _ = (digI ns k ++ ((seedI s0 i).1 ++ [_])).map PyData.int
            rw [← List.append_assoc, List.map_append (l₂ := [_])]; rfl
          rw [← e]
          exact W.less ⟨rfl, rfl, rfl, rfl, rfl, rfl, trivial⟩
        · refine go_end (go_nil fun σ H W => ?_)
          rw [List.length_range] at W
          have e : digI ns (k + 1) = digI ns k ++ (seedI s0 12).1 := by rw [← ed]; rfl
          rw [e]
          exact W.less ⟨rfl, rfl, rfl, rfl, trivial⟩
  · rw [List.length_range]
    exact go_ret_own 3 aM fun v H' r dv => q v H' r.2 dv
end
end Fb
namespace Fb
open PySem L2
open FbM (HV HL anc br above dr pickM)
/-! ### the box of draws -/
def Box (M : List Addr) (bx : Addr) (v : V) (digs : List Int) (n : Nat) (H : Hp) : Prop := H bx = some (.lst [v, .int (n : Nat)]) ∧ Dat M H v (lI digs) ∧ digs.length ≤ 100000
theorem Box.some {M : List Addr} {bx : Addr} {v : V} {digs : List Int} {n : Nat} {H : Hp} (h : Box M bx v digs n H) : H bx ≠ none := by rw [h.1]; simp
def TrQ (C : List Addr) (H' : Hp) (R R' : Hp → Prop) : Prop := ∀ H1 H2, R H1 → (∀ a, a ∉ C → H1 a = H2 a) → (∀ a ∈ C, H2 a = H' a) → R' H2
theorem TrQ.and {C : List Addr} {H' : Hp} {R R' G G' : Hp → Prop} (a : TrQ C H' R R') (b : TrQ C H' G G') : TrQ C H' (fun H => R H ∧ G H) (fun H => R' H ∧ G' H) := fun H1 H2 h e f => ⟨a H1 H2 h.1 e f, b H1 H2 h.2 e f⟩
theorem TrQ.k {C M : List Addr} {H' : Hp} {R R' : Hp → Prop} (t : TrQ C H' R R') : TrK C M H' R R' := fun H1 H2 h e f _ => t H1 H2 h e f
theorem tr_box {M : List Addr} {bx : Addr} {v : V} {digs : List Int} {n n' : Nat} {H' : Hp} (hb : bx ∈ M) (e : H' bx = some (.lst [v, .int (n' : Nat)])) : TrQ [bx] H' (Box M bx v digs n) (Box M bx v digs n') := fun H1 H2 h a b =>
  ⟨(b bx (by simp)).trans e, dp_same (keep_off (by simpa using hb) a) h.2.1, h.2.2⟩
theorem box_same {M : List Addr} {bx : Addr} {v : V} {digs : List Int} {n : Nat} {H H' : Hp} (h : Box M bx v digs n H) (s : Same H H') : Box M bx v digs n H' := ⟨s _ _ h.1, dp_same (same_keep s) h.2.1, h.2.2⟩
def spB (dom : List Int → Nat → List PyData → Nat → PyData → Prop) : Sp := fun vs H Q _ => ∃ M bx v ws digs n ds n' d, (∀ a ∈ M, H a ≠ none) ∧ bx ∈ M ∧ vs = .ref bx :: ws ∧ Box M bx v digs n H ∧ DatAll M H ws ds ∧ dom digs n ds n' d ∧ ∀ u H', Fr [bx] H H' → H' bx = some (.lst [v, .int (n' : Nat)]) → Dat M H' u d → Q u H'
theorem box_notin {M M0 : List Addr} {L : Own} {R : Hp → Prop} {ρ : Rho} {σ : St} {H : Hp} {bx : Addr} (S : Sto M L R ρ σ H) (hb : bx ∉ L.map (·.1)) : ∀ a ∈ [bx], a ∉ L.map (·.1) := fun a ha => by simp at ha; subst ha; exact hb
section
variable {X : Cx} {M : List Addr} {L : Own} {R R1 : Hp → Prop} {ρ : Rho} {e a b : Expr} {es : List Expr} {d : PyData} {ds : List PyData} {rest : List Stmt} {D : Ends} {pos p0 p1 p2 apos : Pos}
/-- f(box, ..) -/
theorem xbox (i : Nat) {M0 : List Addr} {bx : Addr} {v : V} {digs : List Int} {n n' k j : Nat} {f x : Str} {dom : List Int → Nat → List PyData → Nat → PyData → Prop} (c : Cal X.prog X.w X.K X.mg X.base k f (spB dom)) (hr : Room j X.A) (hk : k ≤ j) (ha : EA X M L R ρ es ds) (hd : dom digs n ds n' d) (sM : ∀ a ∈ M0, a ∈ M) (hbM : bx ∈ M0) (hbL : bx ∉ L.map (·.1)) (hdat : ∀ H v, Dat M0 H v d → Dat M H v d)
    (hR : ∀ H, R H → Box M0 bx v digs n H) (tr : ∀ H', H' bx = some (.lst [v, .int (n' : Nat)]) → TrQ [bx] H' R R1) (hb : ρ[i]? = some (some (.a (.ref bx))) := by rfl) (hN : X.N[i]? = some x := by rfl)
    (hv : Vis X.env.scope x := by first | exact Or.inl rfl | exact Or.inr (Or.inl rfl) | exact Or.inr (Or.inr rfl)) (hdb : (x == ("__debug__" : Str)) = false := by decide) (hcd : (x == ("__classdict__" : Str)) = false := by decide)
    (hg : Gl X f := by rfl) (hdf : (f == ("__debug__" : Str)) = false := by decide) (he : starEach (.Name x p1 :: es) X.env = (false, eval (.Name x p1) X.env) :: starEach es X.env := by rfl) (hpl : (backTo pos (starEach es X.env)).any (·.1) = false := by rfl) :
    EDx X M L R R1 ρ (.Call (.Name f p0) (.Name x p1 :: es) [] pos) d := fun σ H S Q q => by
  refine ⟨_, pe_c c hr hk hg (pa_cons (pe_var hN hv hdb hcd) wa he) hdf he hpl, .ref bx, S.valOf hb, ha σ H S _ fun ws H1 k1 S1 d1 => ?_⟩
  have b1 := hR H1 S1.r0
  refine ⟨M0, bx, v, ws, digs, n, ds, n', d, fun a ha => S1.al a (sM a ha), hbM, by rw [List.append_nil], b1, datAll_sub d1 sM, hd, fun u H' f e du => ?_⟩
  exact q u H' (k1.trans (f.keep (by simpa using sM bx hbM))) (S1.callR (C := [bx]) (by simpa using sM bx hbM) (by simpa using hbL) f (by simp [e]) (tr H' e).k) (hdat _ _ du)
end
section
variable {Pg : Program} {w : World} {K : PySem.W.Frag} {mg : Str → Option Value} {base : Heap}
theorem box_sto {M : List Addr} {bx : Addr} {v : V} {digs : List Int} {n : Nat} {N : List Str} {ws : List V} {ds : List PyData} {H : Hp} (al : ∀ a ∈ M, H a ≠ none) (o : Box M bx v digs n H) (a : DatAll M H ws ds) : Sto M [] (fun H' => Box M bx v digs n H' ∧ Fr [bx] H H') ((Bd.a (.ref bx) :: ds.map Bd.d).map some ++ List.replicate (N.length - (Bd.a (.ref bx) :: ds.map Bd.d).length) none) (L2.start N (.ref bx :: ws)) H :=
  stoB al (by rw [List.length_cons, List.length_cons, List.length_map, a.len]) (fun i c hc => by
    cases i with
    | zero => cases hc; exact ⟨.ref bx, rfl, rfl⟩
    | succ i =>
      rw [List.getElem?_cons_succ, List.getElem?_map] at hc
      cases e : ds[i]? with
      | none => rw [e] at hc; cases hc
      | some d =>
        rw [e] at hc; cases hc
        obtain ⟨v, h1, h2⟩ := a.get e
        exact ⟨v, by rw [List.getElem?_cons_succ]; exact h1, h2⟩) fun H' s => ⟨box_same o s, fr_same s⟩
theorem calB_of {g x q : Str} {st : Stmt} {ps N : List Str} {f : Addr} {k : Nat} {dom : List Int → Nat → List PyData → Nat → PyData → Prop} (F : Df K mg x q st ps N f) (hm : mg g = some (.ref f)) (len : ∀ digs n ds n' d, dom digs n ds n' d → ds.length + 1 = ps.length)
    (h : ∀ (cdv : Value) (A : Around) (outer : List Env) (s : Shared) (H : Hp) (E : XK), Room k (A.deeper (PyProof.Rows.envOfC q (defScope st) s.heap.objs.size f cdv)) → ∀ (M : List Addr) (bx : Addr) (v : V) (digs : List Int) (n : Nat) (ds : List PyData) (n' : Nat) (d : PyData) (D : Ends), dom digs n ds n' d → bx ∈ M → digs.length ≤ 100000 →
      (∀ u H', (Box M bx v digs n' H' ∧ Fr [bx] H H') → Dat M H' u d → D.rt u H') →
      Go (cx Pg w K mg base N q st f cdv A outer s H E) (defBody st) D M [] (fun H' => Box M bx v digs n H' ∧ Fr [bx] H H') ((Bd.a (.ref bx) :: ds.map Bd.d).map some ++ List.replicate (N.length - (Bd.a (.ref bx) :: ds.map Bd.d).length) none)) : Cal Pg w K mg base (k + 1) g (spB dom) := by
  refine cal_of F hm (fun vs H Q E hh => ?_) fun cdv A outer s H vs Q E hr hh => ?_
  · obtain ⟨M, bx, v, ws, digs, n, ds, n', d, al, hx, rfl, o, a, hd, q⟩ := hh
    rw [List.length_cons, a.len]; exact len _ _ _ _ _ hd
  · obtain ⟨M, bx, v, ws, digs, n, ds, n', d, al, hx, rfl, o, a, hd, q⟩ := hh
    exact h cdv A outer s H E hr M bx v digs n ds n' d _ hd hx o.2.2 (fun u H' r dv => q u H' r.2 r.1.1 dv) _ _ (box_sto al o a)
theorem trb_self {M : List Addr} {bx : Addr} {v : V} {digs : List Int} {n n' : Nat} {H0 : Hp} (hb : bx ∈ M) : ∀ H', H' bx = some (.lst [v, .int (n' : Nat)]) → TrQ [bx] H' (fun H => Box M bx v digs n H ∧ Fr [bx] H0 H) (fun H => Box M bx v digs n' H ∧ Fr [bx] H0 H) := fun H' e => (tr_box hb e).and fun H1 H2 h a b => tr_fr H1 H2 h a b
section
variable {X : Cx} {M : List Addr} {L : Own} {R R1 : Hp → Prop} {ρ : Rho} {e a b : Expr} {es : List Expr} {d : PyData} {ds : List PyData} {rest : List Stmt} {D : Ends} {pos p0 p1 p2 apos : Pos}
/-- box[1], box[0] -/
theorem ebox1 (i : Nat) {bx : Addr} {v : V} {digs : List Int} {n : Nat} {x : Str} {nj} {cp : Pos} (hR : ∀ H, R H → Box M bx v digs n H) (hb : ρ[i]? = some (some (.a (.ref bx))) := by rfl) (hN : X.N[i]? = some x := by rfl)
    (hv : Vis X.env.scope x := by first | exact Or.inl rfl | exact Or.inr (Or.inl rfl) | exact Or.inr (Or.inr rfl)) (hdb : (x == ("__debug__" : Str)) = false := by decide) (hcd : (x == ("__classdict__" : Str)) = false := by decide) (hs : PlainIx (.Constant (.int 1) nj cp) := by exact fun _ _ => rfl) :
    ED X M L R ρ (.Subscript (.Name x p0) (.Constant (.int 1) nj cp) pos) (iN n) := fun σ H S Q q =>
  ⟨_, pe_ix ix_list (pe_var hN hv hdb hcd) pe_int hs, .ref bx, S.valOf hb, bx, [v, .int (n : Nat)], 1, .int (n : Nat), rfl, rfl, SqL.of (hR H S.r0).1, rfl, q _ H (Keep.refl _ _) S (.int _)⟩
theorem ebox0 (i : Nat) {bx : Addr} {v : V} {digs : List Int} {n : Nat} {x : Str} {nj} {cp : Pos} (hR : ∀ H, R H → Box M bx v digs n H) (hb : ρ[i]? = some (some (.a (.ref bx))) := by rfl) (hN : X.N[i]? = some x := by rfl)
    (hv : Vis X.env.scope x := by first | exact Or.inl rfl | exact Or.inr (Or.inl rfl) | exact Or.inr (Or.inr rfl)) (hdb : (x == ("__debug__" : Str)) = false := by decide) (hcd : (x == ("__classdict__" : Str)) = false := by decide) (hs : PlainIx (.Constant (.int 0) nj cp) := by exact fun _ _ => rfl) :
    ED X M L R ρ (.Subscript (.Name x p0) (.Constant (.int 0) nj cp) pos) (lI digs) := fun σ H S Q q =>
  ⟨_, pe_ix ix_list (pe_var hN hv hdb hcd) pe_int hs, .ref bx, S.valOf hb, bx, [v, .int (n : Nat)], 0, v, rfl, rfl, SqL.of (hR H S.r0).1, rfl, q _ H (Keep.refl _ _) S (hR H S.r0).2.1⟩
/-- box[1] = e -/
theorem go_boxput (i : Nat) {bx : Addr} {v : V} {digs : List Int} {n n' : Nat} {x : Str} {nj} {cp tp : Pos} (hbM : bx ∈ M) (hbL : bx ∉ L.map (·.1)) (h : ED X M L R ρ e (iN n')) (hR : ∀ H, R H → Box M bx v digs n H) (tr : ∀ H', H' bx = some (.lst [v, .int (n' : Nat)]) → TrQ [bx] H' R R1) (g : Go X rest D M L R1 ρ) (hb : ρ[i]? = some (some (.a (.ref bx))) := by rfl) (hN : X.N[i]? = some x := by rfl)
    (hv : Vis X.env.scope x := by first | exact Or.inl rfl | exact Or.inr (Or.inl rfl) | exact Or.inr (Or.inr rfl)) (hdb : (x == ("__debug__" : Str)) = false := by decide) (hcd : (x == ("__classdict__" : Str)) = false := by decide)
    (hs : swapsWithSole [.Subscript (.Name x p0) (.Constant (.int 1) nj cp) tp] e pos.line X.env = pure false := by rfl) (hw : swappedStores [.Subscript (.Name x p0) (.Constant (.int 1) nj cp) tp] e X.env = pure none := by rfl) (h1 : (assignEach [.Subscript (.Name x p0) (.Constant (.int 1) nj cp) tp] X.env).map (·.2) = [assign (.Subscript (.Name x p0) (.Constant (.int 1) nj cp) tp) X.env] := by rfl)
    (ha : ∀ v, assign (.Subscript (.Name x p0) (.Constant (.int 1) nj cp) tp) X.env v = (do
      let ov ← holding [v] (eval (.Name x p0) X.env)
      let iv ← holding [v, ov] (eval (.Constant (.int 1) nj cp) X.env)
      standAt tp
      holding [v, ov, iv] (setItem ov iv v)
      release [v, ov, iv] []) := by intro _; rfl) :
    Go X (.Assign [.Subscript (.Name x p0) (.Constant (.int 1) nj cp) tp] e pos :: rest) D M L R ρ := fun σ H S => by
  refine wb_cons (ps_asg we (pg_sub (pe_var hN hv hdb hcd) pe_int set_list ha) hs hw h1) ?_
  refine h σ H S _ fun u H2 k2 S2 d2 => ⟨.ref bx, S2.valOf hb, ?_⟩
  cases d2
  have b2 := hR H2 S2.r0
  refine ⟨bx, [v, .int (n : Nat)], 1, 1, rfl, rfl, b2.1, rfl, g _ _ ?_⟩
  exact S2.callR (C := [bx]) (by simpa using hbM) (by simpa using hbL) (fr_upd (by simp)) (by simp [upd_same]) (tr _ upd_same).k
end
/-! ### draw, pick -/
def dDraw (digs : List Int) (n : Nat) (ds : List PyData) (n' : Nat) (d : PyData) : Prop := ∃ many : Nat, 0 < many ∧ ds = [iN many] ∧ n' = n + 1 ∧ d = iN (dr digs n many)
theorem ok_law_draw (T : Txt K mg) : Cal Pg w K mg base 1 "_law_draw" (spB dDraw) := by
  refine calB_of (df_law_draw T) T.g_law_draw (fun digs n ds n' d ⟨_, _, e, _⟩ => by rw [e]; rfl) fun cdv A outer s H E hr M bx v digs n ds n' d D hd hbM hdl q => ?_
  obtain ⟨many, hm, rfl, rfl, rfl⟩ := hd
  refine go_set 2 sc_law_draw.nd (ebox1 0 (fun _ r => r.1)) ?_
  refine go_boxput (n' := n + 1) 0 hbM (by simp) (eb (en 2) ec_int bd_add) (fun _ r => r.1) (trb_self hbM) ?_
  refine go_if (b := decide (n < digs.length)) (ET.cast (tcmp (en 2) (elenL (n := digs.length) T.z_len (ebox0 0 (fun _ r => r.1))) bd_lt) (decide_eq_decide.mpr (by omega))) (fun h => ?_) (fun h => ?_)
  · have h := of_decide_eq_true h
    refine go_ret (ED.cast (eb (eintI (i := digs.getD n 0) T.z_int (eix (ebox0 0 (fun _ r => r.1)) (en 2) (ix_l (by rw [List.getElem?_map, getD_get (d := (0 : Int)) h]; rfl)))) (en 1) (bd_mod (by omega))) ?_) q
    unfold FbM.dr
    rw [if_pos h, iN, Int.toNat_of_nonneg (Int.emod_nonneg _ (by omega))]
  · have h := of_decide_eq_false h
    refine go_end (go_ret (ED.cast ec_int ?_) q)
    unfold FbM.dr
    rw [if_neg h]; rfl
def dPick (digs : List Int) (n : Nat) (ds : List PyData) (n' : Nat) (d : PyData) : Prop := ∃ ms : List Nat, ms ≠ [] ∧ ms.length ≤ 1000 ∧ ds = [lN ms] ∧ n' = n + 1 ∧ d = iN (pickM digs n ms)
theorem ok_law_pick (T : Txt K mg) : Cal Pg w K mg base 2 "_law_pick" (spB dPick) := by
  refine calB_of (df_law_pick T) T.g_law_pick (fun digs n ds n' d ⟨_, _, _, e, _⟩ => by rw [e]; rfl) fun cdv A outer s H E hr M bx v digs n ds n' d D hd hbM hdl q => ?_
  obtain ⟨ms, hne, hl, rfl, rfl, rfl⟩ := hd
  have h0 : 0 < ms.length := List.length_pos_iff.mpr hne
  have hlt := Nat.mod_lt (dr digs n 900) h0
  refine xgo_ret (xix (en 1).x (xb (xintI T.z_int (xbox 0 (ok_law_draw T) hr (by decide) (ea_cons ec_int ea_nil) ⟨900, by decide, rfl, rfl, rfl⟩ (fun _ h => h) hbM (by simp) (fun _ _ h => h) (fun _ r => r.1) (trb_self hbM))) (elenL (n := ms.length) T.z_len (en 1)).x (bd_mod (by omega))) (ix_lz (j := dr digs n 900 % ms.length) (d := iN (pickM digs n ms)) (map_get (getD_get hlt)) (by omega))) q
/-! ### what a make's candidates are -/
def dAbove (ds : List PyData) (d : PyData) : Prop := ∃ (P : List (List Nat)) (m : Nat), HV P ∧ m < P.length ∧ ds = [histD P, iN m] ∧ d = lN (above P m)
theorem ok_law_above (T : Txt K mg) : Cal Pg w K mg base 1 "_law_above" (spP dAbove) := by
  refine pure_of (df_law_above T) T.g_law_above (fun ds d ⟨_, _, _, _, e, _⟩ => by rw [e]; rfl) fun cdv A outer s H E hr M R ds d D hd O => ?_
  obtain ⟨P, m, hV, hm, rfl, rfl⟩ := hd
  have hP := hV.le
  refine go_set 2 sc_law_above.nd (ED.cast (elst (ea_cons (en 1) ea_nil)) (show _ = lN (FbM.aboveI P m 0) from rfl)) ?_
  refine go_for (l := List.range (m + 1)) (enc := fun i => iN (m - i)) (fun i => [some (.d (histD P)), some (.d (iN m)), some (.d (lN (FbM.aboveI P m i))), none, none]) (fun i => [])
    (fun i x => [some (.d (histD P)), some (.d (iN m)), some (.d (lN (FbM.aboveI P m i))), some (.d (iN (m - x))), none]) (js := [3]) PassesOwn.never rfl
    (ei_down (en 1) (eneg ec_int) (eneg ec_int) T.z_range (by omega)) (fun σ H S => S) (fun G i x _ => eg_name 3 sc_law_above.nd) (fun G hG i x hx => ?_) ?_
  · obtain ⟨rfl, hx⟩ := range_get hx
    have hal := FbM.aboveI_length hV m i
    refine go_if (tcmp (en 3) (en 2) bd_inLN) (fun hb => ?_) (fun hb => ?_)
    · have hb := of_decide_eq_true hb
      have hps : (P.getD (m - i) []).length ≤ 24 := by
        have := FbM.len_le_of_sub (l := P.getD (m - i) []) (r := List.range 24) ((hV.sorted (m - i)).imp fun h => by omega) fun x hx => by
          have := hV.lt _ _ hx
          exact List.mem_range.mpr (by omega)
        rwa [List.length_range] at this
      have hfl : ((P.getD (m - i) []).filter fun p => decide (p ∉ FbM.aboveI P m i)).length ≤ 24 := Nat.le_trans (List.length_filter_le _ _) hps
      refine go_set 2 sc_law_above.nd (eb (en 2) (elc1 4 (l := P.getD (m - i) []) (enc := iN) (N := N_law_above) (sc := defScope s_law_above) (fun p => decide (p ∉ FbM.aboveI P m i)) iN sc_law_above.nd (by decide +kernel)
        (ei_tup (eix (eix (eix (en 0) ec_int (ix_t (i := 1) rfl)) (en 3) (ix_t (makes_get (by omega)))) ec_int (ix_t (i := 1) rfl))) (fun _ _ _ _ _ _ _ p hp => ets_one (ET.cast (tcmp (en 4) (en 2) bd_notInLN) (by simp))) (fun _ _ _ _ _ _ _ p _ _ => en 4) (by omega)) (bd_addL (by simp only [List.length_map]; omega))) (go_end (go_nil fun σ H W => ?_))
      have e : PyData.list ((FbM.aboveI P m i).map iN ++ ((P.getD (m - i) []).filter fun p => decide (p ∉ FbM.aboveI P m i)).map iN) = lN (FbM.aboveI P m (i + 1)) := by
        rw [FbM.aboveI_succ]
        unfold FbM.aboveStep
        rw [if_pos hb, FbM.addNew_eq _ _ ((hV.sorted (m - i)).imp fun h => by omega), lN, List.map_append]
      rw [← e]
      exact W.less ⟨rfl, rfl, rfl, trivial⟩
    · have hb := of_decide_eq_false hb
      refine go_end (go_nil fun σ H S => ?_)
      rw [FbM.aboveI_succ]
      unfold FbM.aboveStep
      rw [if_neg hb]
      exact S.less ⟨rfl, rfl, rfl, trivial⟩
  · rw [List.length_range]
    exact go_ret (en 2) O.rt
def dBreaks (ds : List PyData) (d : PyData) : Prop := ∃ (P : List (List Nat)) (c m : Nat), HV P ∧ m < P.length ∧ ds = [histD P, iN c, iN m] ∧ d = .bool (br P c m)
theorem ok_law_breaks (T : Txt K mg) : Cal Pg w K mg base 2 "_law_breaks" (spP dBreaks) := by
  refine pure_of (df_law_breaks T) T.g_law_breaks (fun ds d ⟨_, _, _, _, _, e, _⟩ => by rw [e]; rfl) fun cdv A outer s H E hr M R ds d D hd O => ?_
  obtain ⟨P, c, m, hV, hm, rfl, rfl⟩ := hd
  exact go_ret (ecmp (en 1) (ecall (ok_law_above T) hr (ea_cons (en 0) (ea_cons (en 2) ea_nil)) ⟨P, m, hV, hm, rfl, rfl⟩) bd_inLN) O.rt
def dName (ds : List PyData) (d : PyData) : Prop := ∃ (P : List (List Nat)) (m : Nat), m < P.length ∧ ds = [histD P, iN m] ∧ d = .str (nameS m)
theorem ok_law_name (T : Txt K mg) : Cal Pg w K mg base 1 "_law_name" (spP dName) := by
  refine pure_of (df_law_name T) T.g_law_name (fun ds d ⟨_, _, _, e, _⟩ => by rw [e]; rfl) fun cdv A outer s H E hr M R ds d D hd O => ?_
  obtain ⟨P, m, hm, rfl, rfl⟩ := hd
  exact go_ret (eix (eix (eix (en 0) ec_int (ix_t (i := 1) rfl)) (en 1) (ix_t (makes_get hm))) ec_int (ix_t (i := 0) rfl)) O.rt
end
end Fb
namespace Fb
open PySem L2
open FbM (HV HL anc br above dr pickM)
/-! ### comprehensions that change what is known -/
def ETsx (X : Cx) (M : List Addr) (L : Own) (R R' : Hp → Prop) (ρ : Rho) (es : List Expr) (b : Bool) : Prop :=
  ∀ σ H, Sto M L R ρ σ H → ∀ Q : Bool → Hp → Prop, (∀ H2, Keep M H H2 → Sto M L R' ρ σ H2 → Q b H2) → WTs X es σ H Q
theorem etsx_nil {X : Cx} {M L R ρ} : ETsx X M L R R ρ [] true := fun σ H S Q q => ⟨_, pts_nil, q H (Keep.refl _ _) S⟩
theorem etsx_one {X : Cx} {M L R R' ρ} {c : Expr} {b : Bool} (h : ETx X M L R R' ρ c b) : ETsx X M L R R' ρ [c] b := fun σ H S Q q => ⟨_, pts_one wt, h σ H S _ q⟩
theorem Sto.anyRhoR {M : List Addr} {L : Own} {R R' : Hp → Prop} {ρ ρ' : Rho} {σ σ' : St} {H H' : Hp} (S : Sto M L R ρ σ H) (S' : Sto M L R' ρ' σ' H') (k : Keep M H H') : Sto M L R' ρ σ H' :=
  ⟨S'.al, S.lm, S.nd, S'.own, S'.r, S.len, fun i b hb => by
    obtain ⟨v, h1, h2⟩ := S.b i b hb
    exact ⟨v, h1, h2.keep k⟩⟩
section
variable {X : Cx} {M : List Addr} {L : Own} {R : Hp → Prop} {ρ : Rho}
structure LcOkR (X : Cx) (M : List Addr) (L : Own) (Ri Rm : Nat → Hp → Prop) (ρ : Rho) (scope : Scope) (tg elt : Expr) (ifs : List Expr) (vs js : List Nat) {α : Type} (l : List α) (enc : α → PyData) (ρ2 : α → Rho) (f : α → Bool) (g : α → PyData) : Prop where
  tg : ∀ (s : Shared) (H : Hp) (C : Addr) (cl : List (Str × Addr)) (fp : List Addr) (D : Addr) (acc : List PyData) (i : Nat) (x : α), D ∉ M → l[i]? = some x → EG (X.blk s H scope (compEnvC scope cl C X.env) fp) (D :: M) ((D, acc) :: L) (Ri i) (wipeR ρ vs) tg (enc x) (ρ2 x) js
  ifs : ∀ (s : Shared) (H : Hp) (C : Addr) (cl : List (Str × Addr)) (fp : List Addr) (D : Addr) (acc : List PyData) (i : Nat) (x : α), D ∉ M → l[i]? = some x → ETsx (X.blk s H scope (compEnvC scope cl C X.env) fp) (D :: M) ((D, acc) :: L) (Ri i) (Rm i) (ρ2 x) ifs (f x)
  elt : ∀ (s : Shared) (H : Hp) (C : Addr) (cl : List (Str × Addr)) (fp : List Addr) (D : Addr) (acc : List PyData) (i : Nat) (x : α), D ∉ M → l[i]? = some x → f x = true → EDx (X.blk s H scope (compEnvC scope cl C X.env) fp) (D :: M) ((D, acc) :: L) (Rm i) (Ri (i + 1)) (ρ2 x) elt (g x)
  skip : ∀ (i : Nat) (x : α), l[i]? = some x → f x = false → ∀ H, Rm i H → Ri (i + 1) H
theorem lc_readR {α : Type} {tg it elt : Expr} {ifs : List Expr} {scope : Scope} {vs js : List Nat} {l : List α} {enc : α → PyData} {ρ2 : α → Rho} {f : α → Bool} {g : α → PyData} {Ri Rm : Nat → Hp → Prop}
    (hi : EI X M L R ρ tg it (l.map enc)) (hR0 : ∀ H, R H → Ri 0 H) (hz : l.length ≤ 100000) (hjs : ∀ j ∈ js, j ∈ vs) (ok : LcOkR X M L Ri Rm ρ scope tg elt ifs vs js l enc ρ2 f g)
    {σ : St} {H : Hp} (S : Sto M L R ρ σ H) {Q : VK} (q : ∀ v H2, Keep M H H2 → Sto M L (Ri l.length) ρ σ H2 → Dat M H2 v (.list ((l.filter f).map g)) → Q v H2) :
    tLc (WI X tg it) (gAll X scope tg) (tAll X scope ifs) (eAll X scope elt) vs σ H Q := by
  refine hi σ H S _ fun J H1 G k1 S1 I1 g1 more D hD => ?_
  obtain ⟨G', I', g'⟩ := more D hD
  have sD : Same H1 (upd H1 D (.lst [])) := same_new hD
  have DM : D ∉ M := fun z => S1.al D z hD
  have base : Sto (D :: M) ((D, ((l.take 0).filter f).map g) :: L) (Ri 0) (wipeR ρ vs) (wipe σ vs) (upd H1 D (.lst [])) := ((S1.wiped vs).own_new hD .nil).wk hR0
  refine ⟨fun i m H' => m = l.length - i ∧ i ≤ l.length ∧ Keep M H1 H' ∧ Sto (D :: M) ((D, ((l.take i).filter f).map g) :: L) (Ri i) (wipeR ρ vs) (wipe σ vs) H' ∧ G' H', ⟨l.length, by simp, Nat.zero_le _, same_keep sD, base, g'⟩, ?_⟩
  rintro i m H' ⟨rfl, hil, kk, SS, gg⟩
  by_cases hlt : i < l.length
  · right
    refine ⟨I'.go i H' (by simpa using hlt) gg, fun H'' => i + 1 ≤ l.length ∧ Keep M H1 H'' ∧ Sto (D :: M) ((D, ((l.take (i + 1)).filter f).map g) :: L) (Ri (i + 1)) (wipeR ρ vs) (wipe σ vs) H'' ∧ G' H'', fun H'' h => ⟨l.length - (i + 1), by omega, rfl, h⟩, fun x H2 y => ?_⟩
    have hx : (l.map enc)[i]? = some (enc l[i]) := by rw [List.getElem?_map, List.getElem?_eq_getElem hlt]; rfl
    have hm : l[i]? = some l[i] := List.getElem?_eq_getElem hlt
    obtain ⟨e2, dx⟩ := I'.yld i H' x H2 _ hx gg y
    subst e2
    have tk : l.take (i + 1) = l.take i ++ [l[i]] := by rw [List.take_add_one, List.getElem?_eq_getElem hlt]; rfl
    intro s H0 C cl fp
    refine ok.tg s H0 C cl fp D _ i l[i] DM hm _ _ x SS dx _ fun σ' S' f' l' => ⟨wipe_same (by rw [l', wipe_length]) fun j hj => f' j fun z => hj (hjs j z), fun s H0 C cl fp => ?_⟩
    refine ok.ifs s H0 C cl fp D _ i l[i] DM hm σ' _ S' _ fun H3 k3 S3 => ?_
    have kM : ∀ {H5 : Hp} {o5 : HO}, Keep (D :: M) H2 H5 → H5 D = some o5 → Keep M H1 H5 := fun {H5 o5} k5 h5 => keep_of fun a o ha e => by
      have ne : a ≠ D := ne_of_none e hD
      exact k5.at (by simp [ne, ha]) (kk.at ha e)
    cases hf : f l[i] with
    | true =>
      refine iteT fun s H0 C cl fp => ?_
      refine ok.elt s H0 C cl fp D _ i l[i] DM hm hf σ' H3 S3 _ fun v H4 k4 S4 d4 => ?_
      obtain ⟨ws, hw, da⟩ := S4.own _ List.mem_cons_self
      refine ⟨ws, hw, ?_, hlt, ?_, ?_, ?_⟩
      · rw [da.len, List.length_map]
        have := List.length_filter_le f (l.take i)
        rw [List.length_take] at this
        exact Nat.lt_of_le_of_lt (Nat.le_trans this (Nat.min_le_left _ _)) (Nat.lt_of_lt_of_le (by omega : i < 100000) (by decide))
      · have k5 := kM (k3.trans k4) hw
        exact keep_of fun a o ha e => by
          rw [upd_ne (ne_of_none e hD)]
          exact k5.at ha e
      · have S5 : Sto (D :: M) ((D, ((l.take i).filter f).map g) :: L) (Ri (i + 1)) (wipeR ρ vs) (wipe σ vs) H4 := SS.anyRhoR S4 (k3.trans k4)
        have := S5.mut (j := 0) (ds' := ((l.take (i + 1)).filter f).map g) (vs' := ws ++ [v]) rfl (by
          rw [tk, List.filter_append, List.map_append]
          have e : List.filter f [l[i]] = [l[i]] := by simp [hf]
          rw [e]
          exact da.snoc d4)
        exact this
      · exact I'.keep _ _ (keep_upd List.mem_cons_self) (I'.keep _ _ (k3.trans k4) gg)
    | false =>
      refine iteF ?_
      obtain ⟨ws, hw, da⟩ := S3.own _ List.mem_cons_self
      refine ⟨hlt, kM k3 hw, ?_, I'.keep _ _ k3 gg⟩
      have S5 : Sto (D :: M) ((D, ((l.take i).filter f).map g) :: L) (Ri (i + 1)) (wipeR ρ vs) (wipe σ vs) H3 := (SS.anyRhoR S3 k3).wk (ok.skip i l[i] hm hf)
      have e : ((l.take (i + 1)).filter f).map g = ((l.take i).filter f).map g := by
        rw [tk, List.filter_append]
        have e : List.filter f [l[i]] = [] := by simp [hf]
        rw [e, List.append_nil]
      rw [e]
      exact S5
  · left
    have e : i = l.length := by omega
    subst e
    refine ⟨I'.stop _ H' (by simp) gg, ?_⟩
    rw [List.take_length] at SS
    obtain ⟨ws, hw, da⟩ := SS.own _ List.mem_cons_self
    refine q _ _ (k1.trans kk) ⟨fun a ha => SS.al a (List.mem_cons_of_mem _ ha), S1.lm, S1.nd, fun p hp => ?_, fun H5 p5 => SS.r H5 fun a o ha e => p5 a o (fun z => ha (by rw [List.map_cons]; exact List.mem_cons_of_mem _ z)) e, S1.len, fun i b hb => ?_⟩ (.lst (by rw [hide_out DM]; exact hw) (datAll_sub da fun a ha => List.mem_cons_of_mem _ ha))
    · obtain ⟨vs', h1, h2⟩ := SS.own p (List.mem_cons_of_mem _ hp)
      exact ⟨vs', h1, datAll_sub h2 fun a ha => List.mem_cons_of_mem _ ha⟩
    · obtain ⟨v, h1, h2⟩ := S1.b i b hb
      exact ⟨v, h1, h2.keep kk⟩
/-- over one name -/
theorem elcR (j : Nat) {y : Str} {yp : Pos} {it elt : Expr} {pos : Pos} {ifs : List Expr} {scope : Scope} {α : Type} {l : List α} {enc : α → PyData} {N : List Str} {sc : Scope} (Ri Rm : Nat → Hp → Prop) (f : α → Bool) (g : α → PyData) (hN : X.N.Nodup) (bk : blkC N sc scope [(y, j)] = true) (hi : EI X M L R ρ (.Name y yp) it (l.map enc)) (hR0 : ∀ H, R H → Ri 0 H)
    (hif : ∀ (s : Shared) (H : Hp) (C : Addr) (cl : List (Str × Addr)) (fp : List Addr) (D : Addr) (acc : List PyData) (i : Nat) (x : α), D ∉ M → l[i]? = some x → ETsx (X.blk s H scope (compEnvC scope cl C X.env) fp) (D :: M) ((D, acc) :: L) (Ri i) (Rm i) ((wipeR ρ [j]).set j (some (.d (enc x)))) ifs (f x))
    (helt : ∀ (s : Shared) (H : Hp) (C : Addr) (cl : List (Str × Addr)) (fp : List Addr) (D : Addr) (acc : List PyData) (i : Nat) (x : α), D ∉ M → l[i]? = some x → f x = true → EDx (X.blk s H scope (compEnvC scope cl C X.env) fp) (D :: M) ((D, acc) :: L) (Rm i) (Ri (i + 1)) ((wipeR ρ [j]).set j (some (.d (enc x)))) elt (g x))
    (hsk : ∀ (i : Nat) (x : α), l[i]? = some x → f x = false → ∀ H, Rm i H → Ri (i + 1) H)
    (hz : l.length ≤ 100000) (eN : N = X.N := by rfl) (eS : sc = X.env.scope := by rfl) (hc : X.calm = true := by rfl) (hNi : X.N[j]? = some y := by rfl)
    (hloc : ∀ (C : Addr) (cl : List (Str × Addr)), (compEnvC scope cl C X.env).scope.names.lookup y = some .local := by intros; rfl)
    (hs : ∀ x, foldedSetIterable it X.env x = pure x := by intro _; rfl) : EDx X M L R (Ri l.length) ρ (.ListComp elt [⟨.Name y yp, it, ifs, 0⟩] scope pos) (.list ((l.filter f).map g)) := fun σ H S Q q => by
  subst eN eS
  exact ⟨_, pe_lc hc hN wi (blkOk_by bk) (g := gAll X scope (.Name y yp)) (tt := tAll X scope ifs) (te := eAll X scope elt)
    (fun s H C cl fp => ⟨fun pins s1 σ H1 v u Q I r h => (wg (X := X.blk s H scope (compEnvC scope cl C X.env) fp)).run pins s1 σ H1 v u Q I r (h s H C cl fp)⟩)
    (fun s H C cl fp => ⟨fun pins s1 σ H1 Q I h => (wts (X := X.blk s H scope (compEnvC scope cl C X.env) fp)).run pins s1 σ H1 Q I (h s H C cl fp)⟩)
    (fun s H C cl fp => ⟨fun pins s1 σ H1 Q I h => (we (X := X.blk s H scope (compEnvC scope cl C X.env) fp)).run pins s1 σ H1 Q I (h s H C cl fp)⟩) hs,
    lc_readR (js := [j]) (ρ2 := fun x => (wipeR ρ [j]).set j (some (.d (enc x)))) hi hR0 hz (by simp) ⟨fun s H C cl fp D acc i x _ hx => eg_name j hN hNi (.inl (hloc C cl)) (.inr (hloc C cl)), hif, helt, hsk⟩ S q⟩
/-- y = [..] by such a one -/
theorem go_setLcR (i j : Nat) {y z : Str} {yp zp : Pos} {it elt : Expr} {pos spos : Pos} {ifs : List Expr} {scope : Scope} {rest : List Stmt} {D : Ends} {α : Type} {l : List α} {enc : α → PyData} {N : List Str} {sc : Scope} (Ri Rm : Nat → Hp → Prop) (f : α → Bool) (g : α → PyData) (hN : X.N.Nodup) (bk : blkC N sc scope [(y, j)] = true) (hi : EI X M L R ρ (.Name y yp) it (l.map enc)) (hR0 : ∀ H, R H → Ri 0 H)
    (hif : ∀ (s : Shared) (H : Hp) (C : Addr) (cl : List (Str × Addr)) (fp : List Addr) (D : Addr) (acc : List PyData) (i : Nat) (x : α), D ∉ M → l[i]? = some x → ETsx (X.blk s H scope (compEnvC scope cl C X.env) fp) (D :: M) ((D, acc) :: L) (Ri i) (Rm i) ((wipeR ρ [j]).set j (some (.d (enc x)))) ifs (f x))
    (helt : ∀ (s : Shared) (H : Hp) (C : Addr) (cl : List (Str × Addr)) (fp : List Addr) (D : Addr) (acc : List PyData) (i : Nat) (x : α), D ∉ M → l[i]? = some x → f x = true → EDx (X.blk s H scope (compEnvC scope cl C X.env) fp) (D :: M) ((D, acc) :: L) (Rm i) (Ri (i + 1)) ((wipeR ρ [j]).set j (some (.d (enc x)))) elt (g x))
    (hsk : ∀ (i : Nat) (x : α), l[i]? = some x → f x = false → ∀ H, Rm i H → Ri (i + 1) H)
    (hz : l.length ≤ 100000) (k : Go X rest D M L (Ri l.length) (ρ.set i (some (.d (.list ((l.filter f).map g)))))) (eN : N = X.N := by rfl) (eS : sc = X.env.scope := by rfl) (hc : X.calm = true := by rfl) (hNi : X.N[j]? = some y := by rfl) (hNz : X.N[i]? = some z := by rfl) (hzl : X.env.scope.names.lookup z = some .local := by rfl)
    (hloc : ∀ (C : Addr) (cl : List (Str × Addr)), (compEnvC scope cl C X.env).scope.names.lookup y = some .local := by intros; rfl)
    (hsw : swapsWith (.ListComp elt [⟨.Name y yp, it, ifs, 0⟩] scope pos) (some (.Name z zp)) spos.line X.env = pure true := by exact sw_true rfl rfl rfl (by decide +kernel))
    (hs : ∀ x, foldedSetIterable it X.env x = pure x := by intro _; rfl) : Go X (.Assign [.Name z zp] (.ListComp elt [⟨.Name y yp, it, ifs, 0⟩] scope pos) spos :: rest) D M L R ρ := fun σ H S => by
  subst eN eS
  refine wb_cons (ps_setLc hc hN hNz hzl hsw wi (blkOk_by bk) (g := gAll X scope (.Name y yp)) (tt := tAll X scope ifs) (te := eAll X scope elt)
    (fun s H C cl fp => ⟨fun pins s1 σ H1 v u Q I r h => (wg (X := X.blk s H scope (compEnvC scope cl C X.env) fp)).run pins s1 σ H1 v u Q I r (h s H C cl fp)⟩)
    (fun s H C cl fp => ⟨fun pins s1 σ H1 Q I h => (wts (X := X.blk s H scope (compEnvC scope cl C X.env) fp)).run pins s1 σ H1 Q I (h s H C cl fp)⟩)
    (fun s H C cl fp => ⟨fun pins s1 σ H1 Q I h => (we (X := X.blk s H scope (compEnvC scope cl C X.env) fp)).run pins s1 σ H1 Q I (h s H C cl fp)⟩) hs) ?_
  refine lc_readR (js := [j]) (ρ2 := fun x => (wipeR ρ [j]).set j (some (.d (enc x)))) hi hR0 hz (by simp) ⟨fun s H C cl fp D acc i x _ hx => eg_name j hN hNi (.inl (hloc C cl)) (.inr (hloc C cl)), hif, helt, hsk⟩ S fun v H2 k2 S2 d2 => ?_
  exact k _ _ (S2.set (b := .d _) d2)
end
section
variable {X : Cx} {M : List Addr} {L : Own} {R R1 : Hp → Prop} {ρ : Rho} {e : Expr} {ds : List PyData} {pos p0 : Pos}
theorem xtupL (hm : X.mg "tuple" = none) (h : EDx X M L R R1 ρ e (.list ds)) (hg : Gl X "tuple" := by rfl)
    (he : starEach [e] X.env = (false, eval e X.env) :: starEach [] X.env := by rfl) (hpl : (backTo pos (starEach [] X.env)).any (·.1) = false := by rfl) : EDx X M L R R1 ρ (.Call (.Name "tuple" p0) [e] [] pos) (.tuple ds) := fun σ H S Q q => by
  obtain ⟨r, hc, hr⟩ := cd_tupL (X := X) (M := M) (ds := ds)
  exact ⟨_, pe_callTy hc hg hm (by decide +kernel) wa (by decide) (by decide) he hpl, xa_cons h xa_nil he σ H S _ fun vs H1 k1 S1 d1 => hr vs H1 S1.al d1 Q fun z H3 s3 d3 => q z H3 (k1.trans (same_keep s3)) (S1.mono s3) d3⟩
end
section
variable {Pg : Program} {w : World} {K : PySem.W.Frag} {mg : Str → Option Value} {base : Heap}
/-! ### skips -/
def skipM (digs : List Int) (n m : Nat) : List Nat := (List.range m).filter fun i => decide (dr digs (n + i) 7 = 0)
def dSkips (digs : List Int) (n : Nat) (ds : List PyData) (n' : Nat) (d : PyData) : Prop := ∃ P : List (List Nat), P.length ≤ 24 ∧ ds = [histD P] ∧ n' = n + P.length ∧ d = tN (skipM digs n P.length)
theorem ok_law_skips (T : Txt K mg) : Cal Pg w K mg base 2 "_law_skips" (spB dSkips) := by
  refine calB_of (df_law_skips T) T.g_law_skips (fun digs n ds n' d ⟨_, _, e, _⟩ => by rw [e]; rfl) fun cdv A outer s H E hr M bx v digs n ds n' d D hd hbM hdl q => ?_
  obtain ⟨P, hP, rfl, rfl, rfl⟩ := hd
  have hz : (List.range P.length).length ≤ 100000 := by rw [List.length_range]; omega
  refine xgo_ret (xtupL T.z_tuple (elcR 2 (l := List.range P.length) (enc := iN) (N := N_law_skips) (sc := defScope s_law_skips) (fun i H' => Box M bx v digs (n + i) H' ∧ Fr [bx] H H') (fun i H' => Box M bx v digs (n + i + 1) H' ∧ Fr [bx] H H') (fun i => decide (dr digs (n + i) 7 = 0)) iN sc_law_skips.nd (by decide +kernel)
    (ei_range (elenT (n := P.length) T.z_len (eix (en 1) ec_int (ix_t (i := 1) rfl))) T.z_range (by omega)) (fun _ r => r)
    (fun _ _ _ _ _ D _ i x hD hx => ?_) (fun _ _ _ _ _ D _ i x hD hx _ => (en 2).x) (fun i x _ _ H r => r) hz)) fun u H' r dv => q u H' (by rw [List.length_range] at r; exact r) dv
  obtain ⟨rfl, _⟩ := range_get hx
  exact etsx_one (ETx.cast (xcmp (xbox 0 (ok_law_draw T) hr (by decide) (ea_cons ec_int ea_nil) ⟨7, by decide, rfl, rfl, rfl⟩ (fun _ h => List.mem_cons_of_mem _ h) hbM (by simpa using fun z : bx = D => hD (z ▸ hbM)) (fun _ _ h => dp_scl h rfl) (fun _ r => r.1) (trb_self hbM)) ec_int.x bd_eqI) (decide_eq_decide.mpr (by omega)))
end
end Fb
namespace Fb
open PySem PySem.Spec PyProof.Rows L2
section
variable {P : Program} {w : World} {A : Around} {E : Value → Shared → Prop} {s : Shared}
abbrev em0 (w : World) : PySem.Obj := { cls := .type "set", dict := none, data := .set #[] 0 (.fresh 0 0 (!w.params.followText "set-order")) }
/-- set of a list of ints, its table told -/
theorem set_of_list {l : Addr} {xs : Array Value} (ns : List Int) {Q : Value → Shared → Prop} (free : A.handled = none) (isl : s.heap.IsList l xs) (hin : IntsAre xs.toList ns) (few : ns.length + 1 < scanBound)
    (done : ∀ (g : Heap) (tk c : Nat), SetR w g s.heap.objs.size (fun j => decide (j ∈ ns)) c → c ≤ ns.length → (∀ b o, s.heap.get? b = some o → g.get? b = some o) → Q (.ref s.heap.objs.size) { s with heap := g, toks := tk }) : wpAny (model P w) A (call (.type "set") [.ref l]) Q E s := by
  have size : xs.size = ns.length := by have z := IntsAre.length hin; rwa [Array.length_toList] at z
  obtain ⟨c0, t0, mro⟩ := F.called_set.mro; have made := F.called_set.made; have sub0 := F.called_set.sub
  refine wpAny_call (codeAny_of_tree (?_ : wpAny _ _ (callAny (.type "set") _) _ _ _))
  refine wpAny_pure ⟨Code.quiet_builtin _ (by decide +kernel), (codeAny_builtin F.entry_type_call ?_)⟩
  rw [Around.under_plain (weight_type_call_type "set" [.ref l] []) rfl]; have g1 := F.called_set.notType; have g2 := F.called_set.canCreate; have g3 := F.typeCall_set_1 (.ref l)
  repeat (any_goals (first | assumption | wp_step))
  refine codeAny_mono (code_set_led1 (.ref l) (E := E) (Q₁ := fun y s₁ => y = .ref s.heap.objs.size ∧ s₁ = { s with heap := s.heap.push (em0 w) }) ⟨rfl, rfl⟩) fun r s₁ hr => ?_
  cases r with
  | error e => exact hr
  | ok fl => cases fl with
    | ret y =>
      obtain ⟨rfl, rfl⟩ := hr
      have at0 : (s.heap.push (em0 w)).get? s.heap.objs.size = some (em0 w) := Heap.get?_push_size _ rfl
      have ty0 : Shared.TypeIs { s with heap := s.heap.push (em0 w) } (.ref s.heap.objs.size) "set" := ⟨_, at0, rfl⟩
      have i1 := F.called_set.init.lookup; have i2 := F.called_set.init.bind (.ref s.heap.objs.size)
      repeat (any_goals (first | assumption | wp_step))
      refine codeAny_mono (codeAny_call_builtin (R := wants (fun r s₂ => r = .none ∧ ∃ g tk c, s₂ = { s with heap := g, toks := tk } ∧ SetR w g s.heap.objs.size (fun j => decide (j ∈ ns)) c ∧ c ≤ ns.length ∧ (∀ b o, s.heap.get? b = some o → g.get? b = some o)) E) F.called_set.init.plain F.entry_set_init (check_set_init_1 ty0 ?_)) fun r₂ s₂ hr₂ => ?_
      · obtain ⟨ol, hol, cl, nl, dl⟩ := isl; obtain ⟨oc, od, oda, os⟩ := ol; simp only at cl dl; subst cl dl
        have hol2 : (s.heap.push (em0 w)).get? l = some { cls := .type "list", dict := od, data := .seq xs nl, slots := os } := Heap.get?_push_of_some _ hol
        have q1 := F.sub_list_set; have q2 := F.sub_list_frozenset; have q3 : (Value.type "list" == Value.type "dict") = false := by decide
        have isl1 : (s.heap.push (em0 w)).IsList l xs := ⟨_, hol2, rfl, nl, rfl⟩
        unfold Builtin.«set.__init__» noKeywords Builtin.Frozenset.updateFrom; generalize hy : pyIter = PI; wp_walk; subst hy
        refine wpAny_pyIter_list isl1 (wpAny_bind (wpAny_runValue ?_))
        have lts : l < s.heap.objs.size := Heap.lt_size hol
        have free3 : A.in1.in1.in1.handled = none := by simp [free]
        have sz1 : (s.heap.push (em0 w)).objs.size = s.heap.objs.size + 1 := Heap.size_push ..
        have ne1 : l ≠ (s.heap.push (em0 w)).objs.size := sz1 ▸ Nat.ne_of_lt (Nat.lt_succ_of_lt lts)
        have ne2 : s.heap.objs.size ∉ [(s.heap.push (em0 w)).objs.size, l] := fun z => by
          rcases List.mem_cons.mp z with z | z
          · rw [sz1] at z; exact Nat.ne_of_lt (Nat.lt_succ_self _) z
          · exact Nat.ne_of_gt lts (List.mem_singleton.mp z)
        have val : ∀ (i : Nat) (v : Value), xs[i]? = some v → ∃ k t, ns[i]? = some k ∧ v = .int k t := fun i v hv => by
          have hi : i < ns.length := size ▸ (Array.getElem?_eq_some_iff.mp hv).1
          obtain ⟨t, e⟩ := IntsAre.int_at hin i v (by rw [Array.getElem?_toList]; exact hv)
          exact ⟨ns[i], t, List.getElem?_eq_getElem hi, by rw [e, List.getD_eq_getElem?_getD, List.getElem?_eq_getElem hi]; rfl⟩
        refine set_update_ints ((Walks.list free3 _ l ne1 xs).toS) s.heap.objs.size ne2 ns size few val (xs.size - 0) 0 _ (by omega) (Nat.zero_le _) ⟨⟨_, Heap.get?_push_size _ rfl, rfl, rfl⟩, (isl1.push _)⟩ ?c0 ?c1
        case c0 => exact ⟨0, Nat.le_refl 0, setR_new_at (Heap.get?_push_of_some _ at0)⟩
        case c1 =>
          intro s' c' mv hc hS
          obtain ⟨g, gg, dd, tk, oo⟩ := s'
          have e1 : gg = s.gens := mv.gens; have e2 : dd = s.drawn := mv.drawn; have e3 : oo = s.os := mv.os
          subst e1 e2 e3
          refine (?_ : wpAny _ _ _ _ _ _)
          refine wpAny_pure (?_ : wpAny _ _ (ret Value.none) _ _ _)
          refine wpAny_pure ⟨rfl, g, tk, c', rfl, hS, size ▸ hc, fun b o e => mv.heap b o ?_ (Heap.get?_push_of_some _ (Heap.get?_push_of_some _ e))⟩
          have hb := Heap.lt_size e
          intro z
          rcases List.mem_cons.mp z with z | z
          · exact Nat.ne_of_lt hb z
          · rw [sz1] at z; exact Nat.ne_of_lt (Nat.lt_succ_of_lt hb) (List.mem_singleton.mp z)
      · cases r₂ with
        | error e => exact hr₂
        | ok fl₂ => cases fl₂ with
          | ret r =>
            obtain ⟨rfl, g, tk, c, rfl, k1, k2, k3⟩ := hr₂
            repeat (any_goals (first | assumption | wp_step))
            exact done _ _ _ k1 k2 k3
          | _ => exact hr₂.elim
    | _ => exact hr.elim
end
end Fb
namespace Fb
open PySem PySem.Spec PyProof.Rows L2
section
variable {X : Cx} {M : List Addr} {L : Own} {R : Hp → Prop} {ρ : Rho} {e : Expr} {pos p0 p1 q0 : Pos}
def rSetL (K : PySem.W.Frag) (w : World) : List V → Hp → VK → Prop := fun vs H Q => ∃ (l : Addr) (ns : List Int), vs = [.ref l] ∧ SqL K H l (ns.map V.int) ∧ ns.length < 60 ∧ ∀ (q : Addr) (c : Nat), H q = none → c ≤ ns.length → Q (.ref q) (upd H q (SetO w q (fun j => decide (j ∈ ns)) c))
theorem call_setL (hc : X.calm = true) : CallR X (.type "set") (rSetL X.K X.w) := by
  intro pins s σ H vs us Q I r h
  obtain ⟨l, ns, rfl, hq, h60, q⟩ := h
  rw [Vals.ref1 r]
  obtain ⟨its, rv, pl, hz⟩ := I.list hq
  refine set_of_list ns (I.ok.hd hc) pl.isList (by simpa using rv.ints) (by unfold scanBound; omega) fun g tk c hS hcn k => ?_
  exact ⟨.ref s.heap.objs.size, _, I.laid (t' := tk) k (Nat.le_refl _) (setO_new hS), rfl, q _ c (I.hok.fresh (Nat.le_refl _)) hcn⟩
/-- sorted(set(e)), e a list of ints -/
theorem esortedset {ns : List Int} {ms : List Int} (hc : X.calm = true) (hm : X.mg "sorted" = none) (hm2 : X.mg "set" = none) (h : ED X M L R ρ e (lI ns)) (hl : ns.length < 60) (hms : ∀ l : List Int, l.Pairwise (· < ·) → (∀ k, k ∈ l ↔ k ∈ ns) → l = ms)
    (hg : Gl X "sorted" := by rfl) (hg2 : Gl X "set" := by rfl) (he : starEach [e] X.env = (false, eval e X.env) :: starEach [] X.env := by rfl) (hpl : (backTo q0 (starEach [] X.env)).any (·.1) = false := by rfl)
    (he2 : starEach [.Call (.Name "set" p1) [e] [] q0] X.env = (false, eval (.Call (.Name "set" p1) [e] [] q0) X.env) :: starEach [] X.env := by rfl) (hpl2 : (backTo pos (starEach [] X.env)).any (·.1) = false := by rfl) : ED X M L R ρ (.Call (.Name "sorted" p0) [.Call (.Name "set" p1) [e] [] q0] [] pos) (lI ms) := fun σ H S Q q =>
  ⟨_, pe_callB (cr_sortedSet hc) hg hm (by decide +kernel) (pa_cons (pe_callTy (call_setL hc) hg2 hm2 (by decide +kernel) (pa_cons we pa_nil he) (by decide) (by decide) he hpl) pa_nil he2) (by decide) (by decide) he2 hpl2, h σ H S _ fun v H1 k1 S1 d1 => by
    cases d1 with
    | @lst l vs _ g a =>
      refine ⟨l, ns, rfl, SqL.of (by rw [← a.of_ints]; exact (hide_some g).2), hl, fun b c nb hcn => ⟨b, _, c, rfl, upd_same, by omega, fun zs p h1 h2 h3 np => ?_⟩⟩
      rw [hms zs h1 fun k => (h2 k).trans decide_eq_true_iff]
      have s1 : Same H1 (upd H1 b (SetO X.w b (fun j => decide (j ∈ ns)) c)) := same_new nb
      have s2 : Same (upd H1 b (SetO X.w b (fun j => decide (j ∈ ns)) c)) (upd (upd H1 b (SetO X.w b (fun j => decide (j ∈ ns)) c)) p (.lst (ms.map V.int))) := same_new np
      have pM : p ∉ M := fun z => by
        cases w : H1 p with
        | none => exact S1.al p z w
        | some o => rw [s1 p o w] at np; cases np
      exact q _ _ (k1.trans (same_keep (s1.trans s2))) (S1.mono (s1.trans s2)) (.lst (by rw [hide_out pM]; exact upd_same) (DtAll.ints ms))⟩
end
end Fb
namespace Fb
open PySem L2
open FbM (HV HL anc br above dr pickM parM two hRow hI hStep)
section
variable {X : Cx} {M : List Addr} {L : Own} {R R1 : Hp → Prop} {ρ : Rho} {e a b : Expr} {es : List Expr} {d : PyData} {ds : List PyData} {rest : List Stmt} {D : Ends} {pos p0 p2 : Pos}
/-- e[i:j] of a list -/
theorem eslice {i j : Nat} (h : ED X M L R ρ e (.list ds)) (ha : ED X M L R ρ a (iN i)) (hb : ED X M L R ρ b (iN j)) (hi : i ≤ ds.length) (hj : j ≤ ds.length) : ED X M L R ρ (.Subscript e (.Slice (some a) (some b) none p2) pos) (.list ((ds.drop i).take (j - i))) := fun σ H S Q q =>
  ⟨_, pe_slice sl_list we (po_some we) (po_some we), h σ H S _ fun v H1 k1 S1 d1 => ha σ H1 S1 _ fun x H2 k2 S2 d2 => ⟨(i : Int), by cases d2; rfl, hb σ H2 S2 _ fun y H3 k3 S3 d3 => ⟨(j : Int), by cases d3; rfl, by
    have d1 := dp_same (k2.trans k3) d1
    cases d1 with
    | @lst l vs _ g al =>
      refine ⟨l, vs, rfl, SqL.of (hide_some g).2, fun p np => ?_⟩
      have e : cutV vs (some (i : Int)) (some (j : Int)) = (vs.drop i).take (j - i) := by
        unfold cutV
        rw [HT.sIx_nat, HT.sIx_nat, al.len, Nat.min_eq_left hi, Nat.min_eq_left hj]
      rw [e]
      exact q _ _ (k1.trans (k2.trans (k3.trans (same_keep (same_new np))))) (S3.mono (same_new np)) (.lst (new_dat S3.al np) (dpAll_same (same_keep (same_new np)) ((al.drop i).take (j - i))))⟩⟩⟩
theorem go_ifJR {c : Expr} {s1 s2 : List Stmt} {q : Bool} {ρ' : Rho} {L' : Own} (h : ET X M L R ρ c q) (h1 : q = true → ∀ K : L2.St → Hp → Prop, (∀ σ H, Sto M L' R1 ρ' σ H → K σ H) → Go X s1 (to D K) M L R ρ) (h2 : q = false → ∀ K : L2.St → Hp → Prop, (∀ σ H, Sto M L' R1 ρ' σ H → K σ H) → Go X s2 (to D K) M L R ρ) (k : Go X rest D M L' R1 ρ') :
    Go X (.If c s1 s2 pos :: rest) D M L R ρ := go_if h (fun e => h1 e _ k) fun e => h2 e _ k
theorem go_newL (i : Nat) {x : Str} {lp : Pos} {R' : Addr → Hp → Prop} (hN : X.N.Nodup) (h : EA X M L R ρ es ds) (lift : ∀ a, Lf a R (R' a)) (k : ∀ a, a ∉ M → Go X rest D (a :: M) ((a, ds) :: L) (R' a) (ρ.set i (some (.a (.ref a))))) (hl : ds.length ≤ 1000 := by simp) (hi : X.N[i]? = some x := by rfl) (hx : Loc X.env.scope x := by first | exact Or.inl rfl | exact Or.inr rfl)
    (hs : swapsWith (.List es lp) (some (.Name x p0)) pos.line X.env = pure false := by rfl) (hf : X.fn x = true ∨ X.env.scope.names.lookup x = some .local := by first | exact .inl rfl | exact .inr rfl) : Go X (.Assign [.Name x p0] (.List es lp) pos :: rest) D M L R ρ := fun σ H S =>
  wb_cons (ps_set hN hi hx (pe_lst wa) hs hf) (h σ H S _ fun vs H2 _ S2 d2 => ⟨by rw [d2.len]; exact Nat.le_of_lt (small1000 hl), fun a na => k a (fun q => S2.al a q na) _ _ ((S2.own_newL na d2 (lift a)).set (b := .a (.ref a)) rfl)⟩)
theorem lf_box {a bx : Addr} {v : V} {digs : List Int} {n : Nat} : Lf a (Box M bx v digs n) (Box (a :: M) bx v digs n) := fun H1 H2 h n e => ⟨by rw [e bx (ne_of_none h.1 n)]; exact h.1, dp_same (lf_same n e) h.2.1, h.2.2⟩
theorem box_sub {a bx : Addr} {v : V} {digs : List Int} {n : Nat} {H : Hp} (h : Box (a :: M) bx v digs n H) : Box M bx v digs n H := ⟨h.1, dat_sub h.2.1 fun b hb => List.mem_cons_of_mem _ hb, h.2.2⟩
end
theorem name_cat : ∀ k < 24, ("v" : Str) ++ (⟨#[97 + k]⟩ : Str) = nameS k := by decide +kernel
theorem letter_at : ∀ k < 24, ("abcdefghijklmnopqrstuvwx" : Str).cps.toList[k]? = some (97 + k) := by decide +kernel
section
variable {Pg : Program} {w : World} {K : PySem.W.Frag} {mg : Str → Option Value} {base : Heap}
theorem sorted_two {a b : Nat} : ∀ l : List Int, l.Pairwise (· < ·) → (∀ k, k ∈ l ↔ k ∈ [(a : Int), (b : Int)]) → l = (two a b).map fun n : Nat => (n : Int) := fun l hs hm => by
  have e : l = (l.map Int.toNat).map fun n : Nat => (n : Int) := by
    rw [List.map_map]
    have : ∀ x ∈ l, ((fun n : Nat => (n : Int)) ∘ Int.toNat) x = id x := fun x hx => by
      have := (hm x).mp hx
      simp at this
      rcases this with h | h <;> subst h <;> simp
    rw [List.map_congr_left this, List.map_id]
  rw [e]
  congr 1
  have p1 : (l.map Int.toNat).Pairwise (· < ·) := by
    rw [e] at hs
    rw [List.pairwise_map] at hs
    exact hs.imp fun h => by omega
  have p2 : (two a b).Pairwise (· < ·) := by
    unfold FbM.two
    split
    · simp; assumption
    · split
      · simp; assumption
      · simp
  refine FbM.sorted_ext p1 p2 fun x => ?_
  have h1 : x ∈ l.map Int.toNat ↔ x = a ∨ x = b := by
    constructor
    · intro h
      obtain ⟨y, hy, rfl⟩ := List.mem_map.mp h
      have := (hm y).mp hy
      simp at this
      rcases this with h | h <;> subst h <;> simp
    · rintro (h | h)
      · exact List.mem_map.mpr ⟨(a : Int), (hm _).mpr (by simp), by simp [h]⟩
      · exact List.mem_map.mpr ⟨(b : Int), (hm _).mpr (by simp), by simp [h]⟩
  rw [h1]
  unfold FbM.two
  split
  · simp
  · split
    · simp; exact or_comm
    · have : a = b := by omega
      subst this; simp
def dPar (digs : List Int) (n : Nat) (ds : List PyData) (n' : Nat) (d : PyData) : Prop := ∃ (k : Nat) (es : List Nat), 0 < k ∧ es.length ≤ 10 ∧ ds = [iN k, lN es] ∧ n' = (parM digs n k es).2 ∧ d = tN (parM digs n k es).1
theorem ok_law_parents (T : Txt K mg) : Cal Pg w K mg base 2 "_law_parents" (spB dPar) := by
  refine calB_of (df_law_parents T) T.g_law_parents (fun digs n ds n' d ⟨_, _, _, _, e, _⟩ => by rw [e]; rfl) fun cdv A outer s H E hr M bx v digs n ds n' d D hd hbM hdl q => ?_
  obtain ⟨k, es, hk, hel, rfl, rfl, rfl⟩ := hd
  refine go_if (b := decide (2 < es.length)) (ET.cast (tcmp (elenL (n := es.length) T.z_len (en 2)) ec_int bd_gt) (decide_eq_decide.mpr (by omega))) (fun h => ?_) (fun h => ?_)
  · have h := of_decide_eq_true h
    have e : parM digs n k es = ((es.drop (dr digs n (es.length - 1))).take 2, n + 1) := by unfold FbM.parM; rw [if_pos h]
    rw [e] at q
    have hlt := FbM.dr_lt (ds := digs) (n := n) (many := es.length - 1) (by omega)
    refine xgo_set 3 sc_law_parents.nd (xbox 0 (ok_law_draw T) hr (by decide) (ea_cons (ED.cast (eb (elenL (n := es.length) T.z_len (en 2)) ec_int bd_sub) (d' := iN (es.length - 1)) (by congr 1; omega)) ea_nil) ⟨es.length - 1, by omega, rfl, rfl, rfl⟩ (fun _ h => h) hbM (by simp) (fun _ _ h => h) (fun _ r => r.1) (trb_self hbM)) ?_
    refine go_ret (etupL T.z_tuple (ED.cast (eslice (i := dr digs n (es.length - 1)) (j := dr digs n (es.length - 1) + 2) (en 2) (en 3) (eb (en 3) ec_int bd_add) (by rw [List.length_map]; omega) (by rw [List.length_map]; omega)) (d' := .list (((es.drop (dr digs n (es.length - 1))).take 2).map iN)) (by rw [List.map_take, List.map_drop]; congr 2; omega))) q
  · have h := of_decide_eq_false h
    refine go_end ?_
    refine xgo_if (b := decide (dr digs n 6 = 0)) (ETx.cast (xcmp (xbox 0 (ok_law_draw T) hr (by decide) (ea_cons ec_int ea_nil) ⟨6, by decide, rfl, rfl, rfl⟩ (fun _ h => h) hbM (by simp) (fun _ _ h => h) (fun _ r => r.1) (trb_self hbM)) ec_int.x bd_eqI) (decide_eq_decide.mpr (by omega))) (fun h2 => ?_) (fun h2 => ?_)
    · have h2 := of_decide_eq_true h2
      have e : parM digs n k es = ([], n + 1) := by unfold FbM.parM; rw [if_neg h, if_pos h2]
      rw [e] at q
      exact go_ret (etup ea_nil) q
    · have h2 := of_decide_eq_false h2
      have e : parM digs n k es = (two (dr digs (n + 1) k) (dr digs (n + 2) k), n + 3) := by unfold FbM.parM; rw [if_neg h, if_neg h2]
      rw [e] at q
      refine go_end ?_
      refine xgo_set 4 sc_law_parents.nd (xbox 0 (ok_law_draw T) hr (by decide) (ea_cons (en 1) ea_nil) ⟨k, hk, rfl, rfl, rfl⟩ (fun _ h => h) hbM (by simp) (fun _ _ h => h) (fun _ r => r.1) (trb_self hbM)) ?_
      refine xgo_set 5 sc_law_parents.nd (xbox 0 (ok_law_draw T) hr (by decide) (ea_cons (en 1) ea_nil) ⟨k, hk, rfl, rfl, rfl⟩ (fun _ h => h) hbM (by simp) (fun _ _ h => h) (fun _ r => r.1) (trb_self hbM)) ?_
      exact go_ret (etupL T.z_tuple (ED.cast (esortedset (ns := [(dr digs (n + 1) k : Nat), (dr digs (n + 2) k : Nat)]) rfl T.z_sorted T.z_set (elst (ea_cons (en 4) (ea_cons (en 5) ea_nil))) (by simp) sorted_two) (lN_eq _).symm)) q
/-! ### the history -/
def histM (digs : List Int) (n most : Nat) : List (List Nat) × List Nat × Nat := hI digs (n + 1) (1 + dr digs n most) (1 + dr digs n most)
def dHist (digs : List Int) (n : Nat) (ds : List PyData) (n' : Nat) (d : PyData) : Prop := ∃ most : Nat, 0 < most ∧ most ≤ 24 ∧ ds = [iN most] ∧ n' = (histM digs n most).2.2 ∧ d = histD (histM digs n most).1
theorem ok_law_history (T : Txt K mg) : Cal Pg w K mg base 3 "_law_history" (spB dHist) := by
  refine calB_of (df_law_history T) T.g_law_history (fun digs n ds n' d ⟨_, _, _, e, _⟩ => by rw [e]; rfl) fun cdv A outer s H E hr M bx v digs n ds n' d D hd hbM hdl q => ?_
  obtain ⟨most, h0, h24, rfl, rfl, rfl⟩ := hd
  have hdr := FbM.dr_lt (ds := digs) (n := n) h0
  refine xgo_set 2 sc_law_history.nd (EDx.cast (xb ec_int.x (xbox 0 (ok_law_draw T) hr (by decide) (ea_cons (en 1) ea_nil) ⟨most, h0, rfl, rfl, rfl⟩ (fun _ h => h) hbM (by simp) (fun _ _ h => h) (fun _ r => r.1) (trb_self hbM)) bd_add) (d' := iN (1 + dr digs n most)) (by congr 1)) ?_
  unfold histM at q
  generalize hmy : 1 + dr digs n most = many at q ⊢
  have hm1 : 1 ≤ many := by omega
  have hm2 : many ≤ 24 := by omega
  refine go_newL (R' := fun a H' => Box (a :: M) bx v digs (n + 1) H' ∧ Fr [bx] H H') 3 sc_law_history.nd ea_nil (fun a => lf_box.and lf_fr) fun a aM => ?_
  have hne : bx ∉ [(a, ([] : List PyData))].map (·.1) := by simpa using fun z : bx = a => aM (z ▸ hbM)
  refine go_set 4 sc_law_history.nd (elst ea_nil) ?_
  refine go_forR (l := List.range many) (enc := iN) (fun i H' => Box (a :: M) bx v digs (hI digs (n + 1) many i).2.2 H' ∧ Fr [bx] H H') (fun i => [some (.a (.ref bx)), some (.d (iN most)), some (.d (iN many)), some (.a (.ref a)), some (.d (lN (hI digs (n + 1) many i).2.1)), none, none, none]) (fun i => [(a, (List.range i).map (makeD (hI digs (n + 1) many i).1))])
    (fun i k => [some (.a (.ref bx)), some (.d (iN most)), some (.d (iN many)), some (.a (.ref a)), some (.d (lN (hI digs (n + 1) many i).2.1)), some (.d (iN k)), none, none]) (js := [5]) PassesOwn.never rfl
    (ei_range (en 2) T.z_range (by omega)) (fun σ H' W => W.lw ⟨rfl, rfl, rfl, rfl, rfl, trivial⟩ fun _ r => r) (fun G i x _ => eg_name 5 sc_law_history.nd) (fun G hG k x hx => ?_) ?_
  · obtain ⟨rfl, hk⟩ := range_get hx
    have I := FbM.hI_ok digs (n + 1) many k
    have I' := FbM.hI_ok digs (n + 1) many (k + 1)
    have he3 := I.e3
    have hrow := FbM.hRow_ok (ds := digs) (many := many) I
    have es : hI digs (n + 1) many (k + 1) = hStep digs many (hI digs (n + 1) many k) k := rfl
    refine go_set 6 sc_law_history.nd (etup ea_nil) ?_
    refine go_ifJR (R1 := fun H' => (Box (a :: M) bx v digs (hRow digs many (hI digs (n + 1) many k) k).2 H' ∧ Fr [bx] H H') ∧ G H') (L' := [(a, (List.range k).map (makeD (hI digs (n + 1) many k).1))]) (ρ' := [some (.a (.ref bx)), some (.d (iN most)), some (.d (iN many)), some (.a (.ref a)), some (.d (lN (hI digs (n + 1) many k).2.1)), some (.d (iN k)), some (.d (tN (hRow digs many (hI digs (n + 1) many k) k).1)), none])
      (q := decide (k = many - 1)) (ET.cast (tcmp (en 5) (eb (en 2) ec_int bd_sub) bd_eqI) (decide_eq_decide.mpr (by omega))) (fun hq K kk => ?_) (fun hq K kk => ?_) ?_
    · have hq := of_decide_eq_true hq
      have e : hRow digs many (hI digs (n + 1) many k) k = ((hI digs (n + 1) many k).2.1, (hI digs (n + 1) many k).2.2) := by unfold FbM.hRow; rw [if_pos hq]
      rw [e] at kk
      exact go_set 6 sc_law_history.nd (etupL T.z_tuple (en 4)) (go_nil fun σ H' W => kk σ H' (W.less ⟨rfl, rfl, rfl, rfl, rfl, rfl, rfl, trivial⟩))
    · have hq := of_decide_eq_false hq
      refine go_if (b := decide (0 < k)) (ET.cast (tcmp (en 5) ec_int bd_gt) (decide_eq_decide.mpr (by omega))) (fun hz => ?_) (fun hz => ?_)
      · have hz := of_decide_eq_true hz
        have e : hRow digs many (hI digs (n + 1) many k) k = parM digs (hI digs (n + 1) many k).2.2 k (hI digs (n + 1) many k).2.1 := by unfold FbM.hRow; rw [if_neg hq, if_pos hz]
        rw [e] at kk
        refine xgo_set (R1 := fun H' => (Box (a :: M) bx v digs (parM digs (hI digs (n + 1) many k).2.2 k (hI digs (n + 1) many k).2.1).2 H' ∧ Fr [bx] H H') ∧ G H') 6 sc_law_history.nd (xbox 0 (ok_law_parents T) hr (by decide) (ea_cons (en 5) (ea_cons (en 4) ea_nil)) ⟨k, _, hz, by omega, rfl, rfl, rfl⟩ (fun _ h => h) (List.mem_cons_of_mem _ hbM) hne (fun _ _ h => h) (fun _ r => r.1.1) fun H' e => (trb_self (List.mem_cons_of_mem _ hbM) H' e).and fun H1 H2 g a1 a2 => hG H1 H2 (keep_off (C := [bx]) (by simpa using .inr hbM) a1) g) (go_end (go_nil fun σ H' W => kk σ H' (W.less ⟨rfl, rfl, rfl, rfl, rfl, rfl, rfl, trivial⟩)))
      · have hz := of_decide_eq_false hz
        have e : hRow digs many (hI digs (n + 1) many k) k = ([], (hI digs (n + 1) many k).2.2) := by unfold FbM.hRow; rw [if_neg hq, if_neg hz]
        rw [e] at kk
        exact go_end (go_nil fun σ H' W => kk σ H' (W.less ⟨rfl, rfl, rfl, rfl, rfl, rfl, rfl, trivial⟩))
    · generalize hy : hRow digs many (hI digs (n + 1) many k) k = y at hrow es ⊢
      have hfl : ((hI digs (n + 1) many k).2.1.filter fun x => decide (x ∉ y.1)).length ≤ 2 := hrow.2.2.2
      refine go_set 4 sc_law_history.nd (eb (elc1 7 (l := (hI digs (n + 1) many k).2.1) (enc := iN) (N := N_law_history) (sc := defScope s_law_history) (fun x => decide (x ∉ y.1)) iN sc_law_history.nd (by decide +kernel)
        (ei_list (en 4)) (fun _ _ _ _ _ _ _ x hx => ets_one (ET.cast (tcmp (en 7) (en 6) bd_notInTN) (by simp))) (fun _ _ _ _ _ _ _ x _ _ => en 7) (by omega)) (elst (ea_cons (en 5) ea_nil)) (bd_addL (by simp only [List.length_map, List.length_cons, List.length_nil]; omega))) ?_
      refine go_app 3 0 (d := makeD (hI digs (n + 1) many (k + 1)).1 k) (ED.cast (etup (ea_cons (eb ec_str (eix ec_str (en 5) (ix_s (letter_at k (by omega)) (by decide))) (bd_addS (by show 2 ≤ 1000; decide))) (ea_cons (en 6) ea_nil))) ?_) (go_nil fun σ H' W => ?_) (hl := by simp; omega)
      · rw [name_cat k (by omega), es]
        unfold makeD FbM.hStep
        rw [hy]
        have : ((hI digs (n + 1) many k).1 ++ [y.1]).getD k [] = y.1 := by
          have := FbM.getD_last (P := (hI digs (n + 1) many k).1) (r := y.1)
          rwa [I.len] at this
        rw [this]
      · have e1 : PyData.list (((hI digs (n + 1) many k).2.1.filter fun x => decide (x ∉ y.1)).map iN ++ [iN k]) = lN (hI digs (n + 1) many (k + 1)).2.1 := by
          rw [es]
          unfold FbM.hStep
          rw [hy, lN, List.map_append]; rfl
        have e2 : (List.range k).map (makeD (hI digs (n + 1) many k).1) ++ [makeD (hI digs (n + 1) many (k + 1)).1 k] = (List.range (k + 1)).map (makeD (hI digs (n + 1) many (k + 1)).1) := by
          rw [List.range_succ, List.map_append]
          congr 1
          apply List.map_congr_left
          intro j hj
          have hj := List.mem_range.mp hj
          unfold makeD
          rw [es]
          unfold FbM.hStep
          rw [FbM.getD_app (by rw [I.len]; exact hj)]
        have e3 : y.2 = (hI digs (n + 1) many (k + 1)).2.2 := by
          rw [es]
          unfold FbM.hStep
          rw [hy]
        rw [← e1, ← e2, ← e3]
        exact W.less ⟨rfl, rfl, rfl, rfl, rfl, trivial⟩
  · rw [List.length_range]
    refine go_ret (ED.cast (etup (ea_cons ec_str (ea_cons (ecallT_own 3 0 own_tup T.z_tuple) ea_nil))) (d' := histD (hI digs (n + 1) many many).1) ?_) fun u H' r dv => q u H' ⟨box_sub r.1, r.2⟩ (dat_sub dv fun b hb => List.mem_cons_of_mem _ hb)
    have I := FbM.hI_ok digs (n + 1) many many
    unfold histD makesD
    rw [I.len]
end
end Fb
namespace Fb
open PySem L2
open FbM (HV HL anc br above cls testable)
/-! ### the law's own classes: rows that are changed in place -/
theorem ne_in {a b : Addr} {M : List Addr} (h : a ∉ M) (hb : b ∈ M) : a ≠ b := fun z => h (by rw [z]; exact hb)
structure CRow where
  p : Addr
  q : Addr
  w : Addr
  bs : List Bool
  ms : List Nat
def rowC (r : CRow) : PyData := .list [lB r.bs, lN r.ms]
def CAt (r : CRow) (H : Hp) : Prop := H r.p = some (.lst [.ref r.w, .ref r.q]) ∧ H r.w = some (.lst (r.bs.map V.bl)) ∧ H r.q = some (.lst (r.ms.map fun n : Nat => V.int n))
def RowsAt (a : Addr) (rs : List CRow) (H : Hp) : Prop := H a = some (.lst (rs.map fun r => V.ref r.p)) ∧ ∀ r ∈ rs, CAt r H
theorem CAt.dt {r : CRow} {M : List Addr} {H : Hp} (h : CAt r H) (hp : r.p ∉ M) (hw : r.w ∉ M) (hq : r.q ∉ M) : Dat M H (.ref r.p) (rowC r) := by
  have e1 : DtAll (hide M H) (r.bs.map V.bl) (r.bs.map PyData.bool) := by
    induction r.bs with
    | nil => exact .nil
    | cons b t ih => exact .cons (.bl b) ih
  have e2 : DtAll (hide M H) (r.ms.map fun n : Nat => V.int n) (r.ms.map iN) := by
    induction r.ms with
    | nil => exact .nil
    | cons b t ih => exact .cons (.int _) ih
  exact .lst (by rw [hide_out hp]; exact h.1) (.cons (.lst (by rw [hide_out hw]; exact h.2.1) e1) (.cons (.lst (by rw [hide_out hq]; exact h.2.2) e2) .nil))
theorem rows_dt {M : List Addr} {H : Hp} : ∀ {rs : List CRow}, (∀ r ∈ rs, CAt r H ∧ r.p ∉ M ∧ r.w ∉ M ∧ r.q ∉ M) → DtAll (hide M H) (rs.map fun r => V.ref r.p) (rs.map rowC)
  | [], _ => .nil
  | r :: rs, h => .cons ((h r List.mem_cons_self).1.dt (h r List.mem_cons_self).2.1 (h r List.mem_cons_self).2.2.1 (h r List.mem_cons_self).2.2.2) (rows_dt fun x hx => h x (List.mem_cons_of_mem _ hx))
theorem sh_rowC (r : CRow) : Sh 2 (rowC r) := sh_list (shAll_cons (sh_lB _) (shAll_cons (sh_lN _) shAll_nil))
theorem CAt.same {r : CRow} {H H' : Hp} (h : CAt r H) (s : Same H H') : CAt r H' := ⟨s _ _ h.1, s _ _ h.2.1, s _ _ h.2.2⟩
section
variable {X : Cx} {M : List Addr} {L : Own} {R R1 : Hp → Prop} {ρ : Rho} {e a : Expr} {es : List Expr} {d : PyData} {body rest : List Stmt} {D : Ends} {pos p0 p1 p2 p3 p4 apos cpos : Pos}
/-- for y in range(e), by a word of one's own -/
theorem go_rangeI {n : Nat} (j : Nat) {y : Str} {rp fp : Pos} (I : Nat → L2.St → Hp → Prop) (hp : PassesOwn (model X.prog X.w) X.A X.env X.xe) (hc : X.calm = true) (hN : X.N.Nodup) (h : ED X M L R ρ a (iN n)) (hm : X.mg "range" = none) (hn : n ≤ 100000) (h0 : ∀ σ H, Sto M L R ρ σ H → I 0 σ H)
    (hs : ∀ i, i < n → ∀ σ H, I i σ H → WB X body (turn D (I (i + 1)) (WB X rest D)) (σ.set j (some (.int (i : Nat)))) H) (hd : ∀ σ H, I n σ H → WB X rest D σ H) (hNj : X.N[j]? = some y := by rfl) (hx : Loc X.env.scope y := by first | exact Or.inl rfl | exact Or.inr rfl) (hf : X.fn y = true ∨ X.env.scope.names.lookup y = some .local := by first | exact .inl rfl | exact .inr rfl)
    (hg : Gl X "range" := by rfl) (hst : starEach [a] X.env = [(false, eval a X.env)] := by rfl) (hsi : ∀ x, foldedSetIterable (.Call (.Name "range" fp) [a] [] rp) X.env x = pure x := by intro _; rfl) : Go X (.For (.Name y p0) (.Call (.Name "range" fp) [a] [] rp) body [] pos :: rest) D M L R ρ := fun σ H S => by
  refine wb_cons (ps_for hp hc (pi_range1 hg hm (pa_cons we pa_nil hst) hst) (pg_name hN hNj hx hf) wb hsi) ?_
  refine h σ H S _ fun v H1 k1 S1 d1 => ?_
  cases d1
  refine ⟨_, rfl, by omega, by omega, ?_⟩
  rw [Int.toNat_natCast]
  refine ⟨fun i m σ' H' => m = n - i ∧ i ≤ n ∧ I i σ' H', ⟨n, by simp, Nat.zero_le _, h0 σ H1 S1⟩, ?_⟩
  rintro i m σ' H' ⟨rfl, hi, ii⟩
  by_cases hlt : i < n
  · right
    refine ⟨hlt, fun σ2 H2 => I (i + 1) σ2 H2, fun σ2 H2 h => ⟨n - (i + 1), by omega, rfl, hlt, h⟩, fun x H2 y => ?_⟩
    obtain ⟨rfl, rfl⟩ := y
    have := hs i hlt σ' H2 ii
    have e : ((0 : Int) + (i : Int)) = (i : Int) := Int.zero_add _
    rw [e]
    exact this
  · left
    have e : i = n := by omega
    subst e
    exact ⟨Nat.le_refl _, hd σ' H' ii⟩
/-- homes = [part for part in rows if part[0] == row] -/
theorem go_homes {kr : Nat} (i ia iw j : Nat) {z y ya yw : Str} {zp yp ep ap kp : Pos} {nj} {scope : Scope} {spos : Pos} {N : List Str} {sc : Scope} {rs : List CRow} {al : Addr} {bs : List Bool} (hr : Room kr X.A) (hN : X.N.Nodup) (bk : blkC N sc scope [(y, j)] = true) (hR : ∀ H, R H → RowsAt al rs H) (hlen : rs.length ≤ 1000) (hjl0 : j < ρ.length)
    (k : ∀ hd, hd ∉ M → Go X rest D M [] (fun H => R H ∧ H hd = some (.lst ((rs.filter fun r => decide (r.bs = bs)).map fun r => V.ref r.p))) (ρ.set i (some (.a (.ref hd)))))
    (hia : ρ[ia]? = some (some (.a (.ref al))) := by rfl) (hiw : ρ[iw]? = some (some (.d (lB bs))) := by rfl) (hji : j ≠ iw := by decide) (hNa : X.N[ia]? = some ya := by rfl) (hNw : X.N[iw]? = some yw := by rfl)
    (hva : Vis X.env.scope ya := by first | exact Or.inl rfl | exact Or.inr (Or.inl rfl) | exact Or.inr (Or.inr rfl)) (hda : (ya == ("__debug__" : Str)) = false := by decide) (hca : (ya == ("__classdict__" : Str)) = false := by decide)
    (eN : N = X.N := by rfl) (eS : sc = X.env.scope := by rfl) (hc : X.calm = true := by rfl) (hNi : X.N[j]? = some y := by rfl) (hNz : X.N[i]? = some z := by rfl) (hzl : X.env.scope.names.lookup z = some .local := by rfl)
    (hloc : ∀ (C : Addr) (cl : List (Str × Addr)), (compEnvC scope cl C X.env).scope.names.lookup y = some .local := by intros; rfl)
    (hvw : ∀ (C : Addr) (cl : List (Str × Addr)), Vis (compEnvC scope cl C X.env).scope yw := by intros; first | exact Or.inl rfl | exact Or.inr (Or.inl rfl) | exact Or.inr (Or.inr rfl)) (hdw : (yw == ("__debug__" : Str)) = false := by decide) (hcw : (yw == ("__classdict__" : Str)) = false := by decide)
    (hdy : (y == ("__debug__" : Str)) = false := by decide) (hcy : (y == ("__classdict__" : Str)) = false := by decide)
    (hsw : swapsWith (.ListComp (.Name y ep) [⟨.Name y yp, .Name ya ap, [.Compare (.Subscript (.Name y p1) (.Constant (.int 0) nj kp) p2) [.Eq] [.Name yw p3] p4], 0⟩] scope pos) (some (.Name z zp)) spos.line X.env = pure true := by exact sw_true rfl rfl rfl (by decide +kernel))
    (hs : ∀ x, foldedSetIterable (.Name ya ap) X.env x = pure x := by intro _; rfl) :
    Go X (.Assign [.Name z zp] (.ListComp (.Name y ep) [⟨.Name y yp, .Name ya ap, [.Compare (.Subscript (.Name y p1) (.Constant (.int 0) nj kp) p2) [.Eq] [.Name yw p3] p4], 0⟩] scope pos) spos :: rest) D M [] R ρ := fun σ H S => by
  subst eN eS
  refine wb_cons (ps_setLc hc hN hNz hzl hsw (pi_list (pe_var hNa hva hda hca)) (blkOk_by bk) (g := gName j) (tt := tTest (tOp (rEqD X.K) (tOp (rIxL X.K) (tVar j) (tC (.int 0))) (tVar iw))) (te := tVar j)
    (fun s H C cl fp => pg_name (X := X.blk s H scope (compEnvC scope cl C X.env) fp) hN hNi (.inl (hloc C cl)) (.inr (hloc C cl)))
    (fun s H C cl fp => pts_one (pt_cmpR (X := X.blk s H scope (compEnvC scope cl C X.env) fp) (op_eqD (r64 hr)) (pe_ix ix_list (pe_var hNi (.inl (hloc C cl)) hdy hcy) pe_int (fun _ _ => rfl)) (pe_var hNw (hvw C cl) hdw hcw) (nomark _)))
    (fun s H C cl fp => pe_var (X := X.blk s H scope (compEnvC scope cl C X.env) fp) hNi (.inl (hloc C cl)) hdy hcy) hs) ?_
  have hRA := hR H S.r0
  obtain ⟨vw, hvw1, hvw2⟩ := S.datOf hiw
  refine ⟨.ref al, S.valOf hia, al, rfl, ⟨_, SqL.of hRA.1⟩, fun hd hhd => ?_⟩
  have hdM : hd ∉ M := fun z => S.al hd z hhd
  refine ⟨fun i m H' => m = rs.length - i ∧ i ≤ rs.length ∧ H' hd = some (.lst (((rs.take i).filter fun r => decide (r.bs = bs)).map fun r => V.ref r.p)) ∧ Same H H', ⟨rs.length, by simp, Nat.zero_le _, upd_same, same_new hhd⟩, ?_⟩
  rintro t m H' ⟨rfl, ht, hacc, hsm⟩
  have hal : H' al = some (.lst (rs.map fun r => V.ref r.p)) := hsm _ _ hRA.1
  by_cases hlt : t < rs.length
  · right
    refine ⟨⟨_, .ref rs[t].p, SqL.of hal, by rw [List.getElem?_map, List.getElem?_eq_getElem hlt]; rfl⟩, fun H'' => t + 1 ≤ rs.length ∧ H'' hd = some (.lst (((rs.take (t + 1)).filter fun r => decide (r.bs = bs)).map fun r => V.ref r.p)) ∧ Same H H'', fun H'' h => ⟨rs.length - (t + 1), by omega, rfl, h⟩, fun x H2 y => ?_⟩
    obtain ⟨e1, y2⟩ := y
    subst e1
    have ex := y2 _ (SqL.of hal)
    rw [List.getElem?_map, List.getElem?_eq_getElem hlt] at ex
    have ex := (Option.some.inj ex).symm
    subst ex
    have tk : rs.take (t + 1) = rs.take t ++ [rs[t]] := by rw [List.take_add_one, List.getElem?_eq_getElem hlt]; rfl
    have hC := (hRA.2 rs[t] (List.getElem_mem hlt)).same hsm
    have hjl : j < σ.length := by
      rw [S.len]; exact hjl0
    refine ⟨?_, .ref rs[t].p, ?_, rs[t].p, [.ref rs[t].w, .ref rs[t].q], 0, .ref rs[t].w, rfl, rfl, SqL.of hC.1, rfl, vw, ?_, lB rs[t].bs, lB bs, ?_, (dp_same hsm (dat_full hvw2)).dp, (sh_lB _).shaped, (sh_lB _).shaped, _, rfl, ?_⟩
    · exact wipe_same (by rw [List.length_set, wipe_length]) fun i hi => List.getElem?_set_ne (fun z => hi (by simp [z]))
    · rw [List.getElem?_set_self (by rw [wipe_length]; exact hjl)]
    · rw [List.getElem?_set_ne hji, wipe_get, if_neg (by simpa using fun z => hji z.symm)]
      exact hvw1
    · have e1 : DtAll H2 (rs[t].bs.map V.bl) (rs[t].bs.map PyData.bool) := by
        induction rs[t].bs with
        | nil => exact .nil
        | cons b t ih => exact .cons (.bl b) ih
      exact (Dt.lst hC.2.1 e1).dp
    · rw [eqv_lB]
      by_cases hb : rs[t].bs = bs
      · rw [decide_eq_true hb]
        refine iteT ⟨.ref rs[t].p, ?_, _, hacc, ?_, hlt, ?_, ?_⟩
        · rw [List.getElem?_set_self (by rw [wipe_length]; exact hjl)]
        · rw [List.length_map]
          have := List.length_filter_le (fun r : CRow => decide (r.bs = bs)) (rs.take t)
          rw [List.length_take] at this
          rw [sizeLine_eq]; omega
        · rw [upd_same, tk, List.filter_append, List.map_append]
          have : [rs[t]].filter (fun r => decide (r.bs = bs)) = [rs[t]] := by simp [hb]
          rw [this]; rfl
        · exact fun b o z => by rw [upd_ne (ne_of_none z hhd)]; exact hsm b o z
      · rw [decide_eq_false hb]
        refine iteF ⟨hlt, ?_, hsm⟩
        rw [hacc, tk, List.filter_append]
        have : [rs[t]].filter (fun r => decide (r.bs = bs)) = [] := by simp [hb]
        rw [this, List.append_nil]
  · left
    have e : t = rs.length := by omega
    subst e
    rw [List.take_length] at hacc
    refine ⟨⟨_, SqL.of hal, by rw [List.length_map]; exact Nat.le_refl _⟩, ?_⟩
    refine k hd hdM _ H' (((S.mono hsm).plus fun H3 p => p hd _ (by simp) hacc).set (b := .a (.ref hd)) rfl)
end
section
variable {X : Cx} {M : List Addr} {R R1 : Hp → Prop} {ρ : Rho} {e a : Expr} {s1 s2 rest : List Stmt} {D : Ends} {pos p0 p1 p2 p3 p4 p5 apos cpos : Pos}
/-- if homes == [] -/
theorem Sto.know {σ : L2.St} {H : Hp} {L : Own} (S : Sto M L R ρ σ H) (hL : L = []) (h : ∀ H', Same H H' → R1 H') : Sto M L R1 ρ σ H := by
  subst hL
  exact ⟨S.al, S.lm, S.nd, S.own, fun H' p => h H' fun b o e => p b o (by simp) e, S.len, S.b⟩
theorem RowsAt.same {al : Addr} {rs : List CRow} {H H' : Hp} (h : RowsAt al rs H) (s : Same H H') : RowsAt al rs H' := ⟨s _ _ h.1, fun r hr => (h.2 r hr).same s⟩
theorem go_ifhomes {kr : Nat} (i : Nat) {y : Str} {hd : Addr} {rs : List CRow} (hr : Room kr X.A) (hR : ∀ H, R H → H hd = some (.lst (rs.map fun r => V.ref r.p)) ∧ ∀ r ∈ rs, CAt r H) (h1 : rs = [] → Go X s1 (to D (WB X rest D)) M [] R ρ) (h2 : rs ≠ [] → Go X s2 (to D (WB X rest D)) M [] R ρ)
    (hb : ρ[i]? = some (some (.a (.ref hd))) := by rfl) (hN : X.N[i]? = some y := by rfl) (hv : Vis X.env.scope y := by first | exact Or.inl rfl | exact Or.inr (Or.inl rfl) | exact Or.inr (Or.inr rfl)) (hdb : (y == ("__debug__" : Str)) = false := by decide) (hcd : (y == ("__classdict__" : Str)) = false := by decide) :
    Go X (.If (.Compare (.Name y p0) [.Eq] [.List [] p1] p2) s1 s2 pos :: rest) D M [] R ρ := fun σ H S => by
  obtain ⟨e1, e2⟩ := hR H S.r0
  refine wb_cons (ps_if (pt_cmpR (op_eqD (r64 hr)) (pe_var hN hv hdb hcd) (pe_lst pa_nil) (nomark _)) wb wb) ⟨.ref hd, S.valOf hb, by decide, fun p np => ?_⟩
  have sm : Same H (upd H p (.lst [])) := same_new np
  have d1 : Dt (upd H p (.lst [])) (.ref hd) (.list (rs.map rowC)) := by
    have : DtAll (hide [] (upd H p (.lst []))) (rs.map fun r => V.ref r.p) (rs.map rowC) := rows_dt fun r hr => ⟨(e2 r hr).same sm, by simp, by simp, by simp⟩
    rw [hide_nil] at this
    exact .lst (sm _ _ e1) this
  refine ⟨.list (rs.map rowC), .list [], d1.dp, (Dt.lst upd_same .nil).dp, Sh.shaped (n := 3) (sh_list (shAll_map fun r _ => sh_rowC r)), rfl, _, rfl, ?_⟩
  cases rs with
  | nil => exact iteT (h1 rfl σ _ (S.mono sm))
  | cons r rs => exact iteF (h2 (by simp) σ _ (S.mono sm))
/-- rows.append([row, [one]]) -/
theorem go_rowapp (ia iw io : Nat) {ya yw yo : Str} {al : Addr} {rs : List CRow} {bs : List Bool} {n : Nat} {l1 l2 : Pos} (haM : al ∈ M) (hR : ∀ H, R H → RowsAt al rs H) (hlen : rs.length ≤ 1000) {He : Hp} (hRe : ∀ H, R H → Same He H) (hea : He al = none) (hpw : ∀ r ∈ rs, r.p ∉ M ∧ r.w ∉ M ∧ r.q ≠ al)
    (k : ∀ r : CRow, r.bs = bs → r.ms = [n] → r.q ∉ M → (r.p ∉ r.q :: M ∧ r.w ∉ r.q :: M ∧ r.q ≠ al) → He r.q = none → (∀ x ∈ rs, x.p ≠ r.q ∧ x.w ≠ r.q ∧ x.q ≠ r.q) → Go X rest D (r.q :: M) [] (fun H => RowsAt al (rs ++ [r]) H ∧ Same He H) ρ)
    (hia : ρ[ia]? = some (some (.a (.ref al))) := by rfl) (hiw : ρ[iw]? = some (some (.d (lB bs))) := by rfl) (hio : ρ[io]? = some (some (.d (iN n))) := by rfl) (hNa : X.N[ia]? = some ya := by rfl) (hNw : X.N[iw]? = some yw := by rfl) (hNo : X.N[io]? = some yo := by rfl)
    (hva : Vis X.env.scope ya := by first | exact Or.inl rfl | exact Or.inr (Or.inl rfl) | exact Or.inr (Or.inr rfl)) (hda : (ya == ("__debug__" : Str)) = false := by decide) (hca : (ya == ("__classdict__" : Str)) = false := by decide)
    (hvw : Vis X.env.scope yw := by first | exact Or.inl rfl | exact Or.inr (Or.inl rfl) | exact Or.inr (Or.inr rfl)) (hdw : (yw == ("__debug__" : Str)) = false := by decide) (hcw : (yw == ("__classdict__" : Str)) = false := by decide)
    (hvo : Vis X.env.scope yo := by first | exact Or.inl rfl | exact Or.inr (Or.inl rfl) | exact Or.inr (Or.inr rfl)) (hdo : (yo == ("__debug__" : Str)) = false := by decide) (hco : (yo == ("__classdict__" : Str)) = false := by decide)
    (hs : swapsWith (.Call (.Attribute (.Name ya p0) "append" apos) [.List [.Name yw p1, .List [.Name yo p2] l1] l2] [] cpos) none pos.line X.env = pure false := by rfl)
    (hbase : attributeBase (.Name ya p0) "append" X.env (eval (.Name ya p0) X.env) = eval (.Name ya p0) X.env := by rfl)
    (hfew : ((backTo cpos (starEach [.List [.Name yw p1, .List [.Name yo p2] l1] l2] X.env)).all (fun x => !x.1) && (backToKw cpos (keywordEach [] X.env)).all (fun x => x.1.isSome) && decide ([Expr.List [.Name yw p1, .List [.Name yo p2] l1] l2].length + ([] : List Keyword).length + (if ([] : List Keyword).isEmpty then 0 else 1) < 30)) = true := by rfl)
    (hline : (apos.endLine == cpos.line) = true := by rfl) (hst : starEach [.List [.Name yw p1, .List [.Name yo p2] l1] l2] X.env = (false, eval (.List [.Name yw p1, .List [.Name yo p2] l1] l2) X.env) :: starEach [] X.env := by rfl) (hplain : (backTo cpos (starEach [] X.env)).any (·.1) = false := by rfl)
    (hs1 : starEach [.Name yw p1, .List [.Name yo p2] l1] X.env = (false, eval (.Name yw p1) X.env) :: starEach [.List [.Name yo p2] l1] X.env := by rfl) (hs2 : starEach [.List [.Name yo p2] l1] X.env = (false, eval (.List [.Name yo p2] l1) X.env) :: starEach [] X.env := by rfl) (hs3 : starEach [.Name yo p2] X.env = (false, eval (.Name yo p2) X.env) :: starEach [] X.env := by rfl) :
    Go X (.Expr (.Call (.Attribute (.Name ya p0) "append" apos) [.List [.Name yw p1, .List [.Name yo p2] l1] l2] [] cpos) pos :: rest) D M [] R ρ := fun σ H S => by
  have hRA := hR H S.r0
  obtain ⟨vw, hw1, hw2⟩ := S.datOf hiw
  obtain ⟨vo, ho1, ho2⟩ := S.datOf hio
  cases ho2
  refine wb_cons (ps_expr (pe_bm PySem.F.plainAttrs_list PySem.F.slot_list_append PySem.F.type_list_append mt_append (pe_var hNa hva hda hca) (pa_cons (pe_lst (pa_cons (pe_var hNw hvw hdw hcw) (pa_cons (pe_lst (pa_cons (pe_var hNo hvo hdo hco) pa_nil hs3)) pa_nil hs2) hs1)) pa_nil hst) hbase hfew hline hst hplain) hs) ?_
  refine ⟨.ref al, S.valOf hia, .inl ⟨rfl, _, SqL.of hRA.1⟩, vw, hw1, .int n, ho1, by show 1 ≤ sizeLine; rw [sizeLine_eq]; omega, fun q nq => ⟨by show 2 ≤ sizeLine; rw [sizeLine_eq]; omega, fun p np => ?_⟩⟩
  have hw2 : Dt _ _ _ := hw2
  cases hw2 with
  | @lst w ws _ ew aw =>
    have hwM := (hide_some ew).1
    have hwH := (hide_some ew).2
    have ebs := aw.of_bls
    subst ebs
    have qM : q ∉ M := fun z => S.al q z nq
    have npH : H p = none := by
      cases z : H p with
      | none => rfl
      | some o => rw [upd_ne (ne_of_none z nq), z] at np; cases np
    have pM : p ∉ M := fun z => S.al p z npH
    have hqa : al ≠ q := fun z => qM (z ▸ haM)
    have hpa : al ≠ p := fun z => pM (z ▸ haM)
    have hpq : q ≠ p := fun z => by rw [z, upd_same] at np; cases np
    have hsm1 : Same H (upd H q (.lst [.int (n : Nat)])) := same_new nq
    have hsm2 : Same (upd H q (.lst [.int (n : Nat)])) (upd (upd H q (.lst [.int (n : Nat)])) p (.lst [.ref w, .ref q])) := same_new np
    have hsm := hsm1.trans hsm2
    have hal := hsm _ _ hRA.1
    refine ⟨al, _, .ref p, rfl, rfl, hal, by rw [List.length_map, sizeLine_eq]; omega, ?_⟩
    have S1 : Sto (q :: M) [] (fun _ => True) ρ σ (upd H q (.lst [.int (n : Nat)])) := S.born nq (by rw [upd_same]; simp) (fr_upd (by simp)) fun _ _ _ _ _ _ => trivial
    have S3 := (S1.mono hsm2).callR (C := [al]) (R' := fun _ => True) (H' := upd (upd (upd H q (.lst [.int (n : Nat)])) p (.lst [.ref w, .ref q])) al (.lst ((rs.map fun r => V.ref r.p) ++ [.ref p]))) (by simpa using .inr haM) (by simp) (fr_upd (by simp)) (by simp [upd_same]) fun _ _ _ _ _ _ => trivial
    have hwq : w ≠ q := ne_of_none hwH nq
    refine k ⟨p, q, w, bs, [n]⟩ rfl rfl qM ⟨by simpa using ⟨fun z => hpq z.symm, pM⟩, by simpa using ⟨hwq, hwM⟩, fun z => hqa z.symm⟩ ?_ (fun x hx => ?_) σ _ (S3.know rfl fun H' sm => ⟨RowsAt.same ⟨?_, fun r hr => ?_⟩ sm, fun b o z => sm b o ?_⟩)
    · cases z : He q with
      | none => rfl
      | some o => rw [hRe H S.r0 q o z] at nq; cases nq
    · have c := hRA.2 x hx
      exact ⟨ne_of_none c.1 nq, ne_of_none c.2.1 nq, ne_of_none c.2.2 nq⟩
    · rw [upd_same, List.map_append]; rfl
    · rcases List.mem_append.mp hr with hr | hr
      · have c := (hRA.2 r hr).same hsm
        obtain ⟨n1, n2, n3⟩ := hpw r hr
        exact ⟨by rw [upd_ne (ne_in n1 haM)]; exact c.1, by rw [upd_ne (ne_in n2 haM)]; exact c.2.1, by rw [upd_ne n3]; exact c.2.2⟩
      · simp at hr
        subst hr
        refine ⟨?_, ?_, ?_⟩
        · show upd _ al _ p = _
          rw [upd_ne (fun z => hpa z.symm), upd_same]
        · show upd _ al _ w = _
          have hwa : w ≠ al := fun z => hwM (z ▸ haM)
          rw [upd_ne hwa]; exact hsm _ _ hwH
        · show upd _ al _ q = _
          rw [upd_ne (fun z => hqa z.symm), upd_ne hpq, upd_same]; rfl
    · have h1 := hRe H S.r0 b o z
      rw [upd_ne (fun y => by rw [y, hea] at z; cases z)]
      exact hsm _ _ h1
/-- homes[0][1].append(one) -/
theorem go_homeapp (ih io : Nat) {yh yo : Str} {al hd : Addr} {rs hs : List CRow} {j n : Nat} {r0 : CRow} {n1 n2} {c1 c2 : Pos} (hR : ∀ H, R H → RowsAt al rs H ∧ H hd = some (.lst (hs.map fun r => V.ref r.p))) {He : Hp} (hRe : ∀ H, R H → Same He H) (hpw : ∀ r ∈ rs, r.p ∉ M ∧ r.w ∉ M ∧ r.q ≠ al)
    (h0 : hs[0]? = some r0) (hj : rs[j]? = some r0) (hq : r0.q ∈ M) (hqe : He r0.q = none) (hnd : (rs.map (·.q)).Nodup) (hml : r0.ms.length ≤ 1000)
    (k : Go X rest D M [] (fun H => RowsAt al (rs.set j { r0 with ms := r0.ms ++ [n] }) H ∧ Same He H) ρ)
    (hih : ρ[ih]? = some (some (.a (.ref hd))) := by rfl) (hio : ρ[io]? = some (some (.d (iN n))) := by rfl) (hNh : X.N[ih]? = some yh := by rfl) (hNo : X.N[io]? = some yo := by rfl)
    (hvh : Vis X.env.scope yh := by first | exact Or.inl rfl | exact Or.inr (Or.inl rfl) | exact Or.inr (Or.inr rfl)) (hdh : (yh == ("__debug__" : Str)) = false := by decide) (hch : (yh == ("__classdict__" : Str)) = false := by decide)
    (hvo : Vis X.env.scope yo := by first | exact Or.inl rfl | exact Or.inr (Or.inl rfl) | exact Or.inr (Or.inr rfl)) (hdo : (yo == ("__debug__" : Str)) = false := by decide) (hco : (yo == ("__classdict__" : Str)) = false := by decide)
    (hs : swapsWith (.Call (.Attribute (.Subscript (.Subscript (.Name yh p0) (.Constant (.int 0) n1 c1) p1) (.Constant (.int 1) n2 c2) p2) "append" apos) [.Name yo p3] [] cpos) none pos.line X.env = pure false := by rfl)
    (hbase : attributeBase (.Subscript (.Subscript (.Name yh p0) (.Constant (.int 0) n1 c1) p1) (.Constant (.int 1) n2 c2) p2) "append" X.env (eval (.Subscript (.Subscript (.Name yh p0) (.Constant (.int 0) n1 c1) p1) (.Constant (.int 1) n2 c2) p2) X.env) = eval (.Subscript (.Subscript (.Name yh p0) (.Constant (.int 0) n1 c1) p1) (.Constant (.int 1) n2 c2) p2) X.env := by rfl)
    (hfew : ((backTo cpos (starEach [.Name yo p3] X.env)).all (fun x => !x.1) && (backToKw cpos (keywordEach [] X.env)).all (fun x => x.1.isSome) && decide ([Expr.Name yo p3].length + ([] : List Keyword).length + (if ([] : List Keyword).isEmpty then 0 else 1) < 30)) = true := by rfl)
    (hline : (apos.endLine == cpos.line) = true := by rfl) (hst : starEach [.Name yo p3] X.env = (false, eval (.Name yo p3) X.env) :: starEach [] X.env := by rfl) (hplain : (backTo cpos (starEach [] X.env)).any (·.1) = false := by rfl)
    (hx1 : PlainIx (.Constant (.int 0) n1 c1) := by exact fun _ _ => rfl) (hx2 : PlainIx (.Constant (.int 1) n2 c2) := by exact fun _ _ => rfl) :
    Go X (.Expr (.Call (.Attribute (.Subscript (.Subscript (.Name yh p0) (.Constant (.int 0) n1 c1) p1) (.Constant (.int 1) n2 c2) p2) "append" apos) [.Name yo p3] [] cpos) pos :: rest) D M [] R ρ := fun σ H S => by
  obtain ⟨hRA, hhd⟩ := hR H S.r0
  obtain ⟨vo, ho1, ho2⟩ := S.datOf hio
  cases ho2
  have hr0 : r0 ∈ rs := List.mem_of_getElem? hj
  have c0 := hRA.2 r0 hr0
  have jl : j < rs.length := (List.getElem?_eq_some_iff.mp hj).1
  refine wb_cons (ps_expr (pe_bm PySem.F.plainAttrs_list PySem.F.slot_list_append PySem.F.type_list_append mt_append (pe_ix ix_list (pe_ix ix_list (pe_var hNh hvh hdh hch) pe_int hx1) pe_int hx2) (pa_cons (pe_var hNo hvo hdo hco) pa_nil hst) hbase hfew hline hst hplain) hs) ?_
  refine ⟨.ref hd, S.valOf hih, hd, _, 0, .ref r0.p, rfl, rfl, SqL.of hhd, atI_nat (by rw [List.getElem?_map, h0]; rfl), r0.p, _, 1, .ref r0.q, rfl, rfl, SqL.of c0.1, rfl, .inl ⟨rfl, _, SqL.of c0.2.2⟩, .int (n : Nat), ho1, r0.q, _, .int (n : Nat), rfl, rfl, c0.2.2, by rw [List.length_map, sizeLine_eq]; omega, ?_⟩
  have S3 := S.callR (C := [r0.q]) (R' := fun _ => True) (H' := upd H r0.q (.lst ((r0.ms.map fun n : Nat => V.int n) ++ [.int (n : Nat)]))) (by simpa using hq) (by simp) (fr_upd (by simp)) (by simp [upd_same]) fun _ _ _ _ _ _ => trivial
  refine k σ _ (S3.know rfl fun H' sm => ⟨RowsAt.same ⟨?_, fun r hr => ?_⟩ sm, fun b o z => sm b o ?_⟩)
  · rw [upd_ne (fun z => (hpw r0 hr0).2.2 z.symm), hRA.1, List.map_set]
    congr 2
    apply List.ext_getElem?
    intro i
    by_cases e : j = i
    · subst e
      rw [List.getElem?_set_self (by rw [List.length_map]; exact jl), List.getElem?_map, hj]; rfl
    · rw [List.getElem?_set_ne e]
  · obtain ⟨i, hi⟩ := List.getElem?_of_mem hr
    by_cases e : j = i
    · subst e
      rw [List.getElem?_set_self jl] at hi
      cases hi
      refine ⟨?_, ?_, ?_⟩
      · show upd _ _ _ r0.p = _
        rw [upd_ne (ne_in (hpw r0 hr0).1 hq)]; exact c0.1
      · show upd _ _ _ r0.w = _
        rw [upd_ne (ne_in (hpw r0 hr0).2.1 hq)]; exact c0.2.1
      · show upd _ _ _ r0.q = _
        rw [upd_same, List.map_append]; rfl
    · rw [List.getElem?_set_ne e] at hi
      have hr' : r ∈ rs := List.mem_of_getElem? hi
      have c := hRA.2 r hr'
      have nq : r.q ≠ r0.q := fun z => by
        have e1 : (rs.map (·.q))[j]? = some r0.q := by rw [List.getElem?_map, hj]; rfl
        have e2 : (rs.map (·.q))[i]? = some r0.q := by rw [List.getElem?_map, hi, ← z]; rfl
        obtain ⟨l1, g1⟩ := List.getElem?_eq_some_iff.mp e1
        obtain ⟨l2, g2⟩ := List.getElem?_eq_some_iff.mp e2
        exact e ((List.getElem_inj hnd).mp (g1.trans g2.symm))
      refine ⟨?_, ?_, ?_⟩
      · rw [upd_ne (ne_in (hpw r hr').1 hq)]; exact c.1
      · rw [upd_ne (ne_in (hpw r hr').2.1 hq)]; exact c.2.1
      · rw [upd_ne nq]; exact c.2.2
  · rw [upd_ne (fun y => by rw [y, hqe] at z; cases z)]
    exact hRe H S.r0 b o z
end
end Fb
namespace Fb
open PySem L2
open FbM (HV HL anc br above cls testable)
structure CInv (M M' : List Addr) (al : Addr) (He : Hp) (P : List (List Nat)) (S : List Nat) (rs : List CRow) (i : Nat) : Prop where
  sub : ∀ x ∈ M, x ∈ M'
  am : al ∈ M'
  pw : ∀ r ∈ rs, r.p ∉ M' ∧ r.w ∉ M' ∧ r.q ≠ al
  q : ∀ r ∈ rs, r.q ∈ M' ∧ He r.q = none ∧ r.q ∉ M
  nd : (rs.map (·.q)).Nodup
  bs : rs.map (·.bs) = (FbM.clsI (FbM.mk P S) i).1
  ms : rs.map (·.ms) = (FbM.clsI (FbM.mk P S) i).2
section
variable {Pg : Program} {w : World} {K : PySem.W.Frag} {mg : Str → Option Value} {base : Heap}
def dLawClasses (ds : List PyData) (d : PyData) : Prop := ∃ (P : List (List Nat)) (S : List Nat), HV P ∧ ds = [histD P, tN S] ∧ d = .list ((cls P S).map tN)
theorem ok_law_classes (T : Txt K mg) : Cal Pg w K mg base 3 "_law_classes" (spP dLawClasses) := by
  refine pure_of (df_law_classes T) T.g_law_classes (fun ds d ⟨_, _, _, e, _⟩ => by rw [e]; rfl) fun cdv A outer s H0 E hr M R ds d D hd O => ?_
  obtain ⟨P, S, hV, rfl, rfl⟩ := hd
  have hP := hV.le
  have hT : (testable P.length S).length ≤ 24 := by
    have := List.length_filter_le (fun m => decide (m ∉ S)) (List.range P.length)
    rw [List.length_range] at this
    unfold FbM.testable; omega
  intro σ He W
  have hM : ∀ x ∈ M, He x ≠ none := W.al
  have hRe : ∀ H, Same He H → R H := fun H s => W.r H (pres_same s)
  refine wb_cons (ps_set (i := 2) sc_law_classes.nd rfl (Or.inl rfl) (pe_lst pa_nil) rfl (by first | exact .inl rfl | exact .inr rfl)) ⟨by show 0 ≤ sizeLine; exact Nat.zero_le _, fun al nal => ?_⟩
  have alM : al ∉ M := fun z => hM al z nal
  have W1 : Sto (al :: M) [] (fun _ => True) (rho0 N_law_classes.length [histD P, tN S]) σ (upd He al (.lst [])) := W.born nal (by rw [upd_same]; simp) (fr_upd (by simp)) fun _ _ _ _ _ _ => trivial
  have W2 : Sto (al :: M) [] (fun H => RowsAt al [] H ∧ Same He H) [some (.d (histD P)), some (.d (tN S)), some (.a (.ref al)), none, none, none, none, none] (σ.set 2 (some (.ref al))) (upd He al (.lst [])) :=
    (W1.set (i := 2) (b := .a (.ref al)) rfl).know rfl fun H' sm => ⟨RowsAt.same ⟨upd_same, fun r hr => by cases hr⟩ sm, fun b o z => sm b o (by rw [upd_ne (ne_of_none z nal)]; exact z)⟩
  refine (?_ : Go _ _ _ (al :: M) [] (fun H => RowsAt al [] H ∧ Same He H) [some (.d (histD P)), some (.d (tN S)), some (.a (.ref al)), none, none, none, none, none]) _ _ W2
  refine go_rangeI (n := P.length) 3 (fun i σ H => ∃ M' rs, CInv M M' al He P S rs i ∧ Sto M' [] (fun H => RowsAt al rs H ∧ Same He H) [some (.d (histD P)), some (.d (tN S)), some (.a (.ref al)), none, none, none, none, none] σ H) PassesOwn.never rfl sc_law_classes.nd
    (elenT T.z_len (eix (en 0) ec_int (ix_t (i := 1) rfl))) T.z_range (by omega) (fun σ H W => ⟨al :: M, [], ⟨fun x hx => List.mem_cons_of_mem _ hx, List.mem_cons_self, fun r hr => (by cases hr), fun r hr => (by cases hr), List.nodup_nil, rfl, rfl⟩, W⟩) (fun i hi σ H ⟨M', rs, C, W⟩ => ?_) fun σ H ⟨M', rs, C, W⟩ => ?_
  · have I := FbM.clsInv (FbM.mk P S) i
    have hlen := clsI_len (FbM.mk P S) i
    have hrl : rs.length = (FbM.clsI (FbM.mk P S) i).2.length := by rw [← C.ms, List.length_map]
    have hmsl : ∀ r ∈ rs, r.ms.length ≤ 24 := fun r hr => by
      obtain ⟨j, hj⟩ := List.getElem?_of_mem hr
      have jl := (List.getElem?_eq_some_iff.mp hj).1
      have h1 : j < (FbM.clsI (FbM.mk P S) i).1.length := by rw [I.len]; omega
      have h2 := I.row j h1
      rw [← C.ms, List.getElem?_map, hj] at h2
      have h2 := Option.some.inj h2
      have h3 : r.ms = (List.range i).filter fun c => decide (FbM.mk P S c = (FbM.clsI (FbM.mk P S) i).1[j]) := h2
      have := List.length_filter_le (fun c => decide (FbM.mk P S c = (FbM.clsI (FbM.mk P S) i).1[j])) (List.range i)
      rw [List.length_range] at this
      rw [h3]; omega
    refine (?_ : Go _ _ _ M' [] (fun H => RowsAt al rs H ∧ Same He H) [some (.d (histD P)), some (.d (tN S)), some (.a (.ref al)), some (.d (iN i)), none, none, none, none]) _ _ (W.set (i := 3) (b := .d (iN i)) (.int _))
    refine go_set 5 sc_law_classes.nd (elc1 4 (l := List.range P.length) (enc := iN) (N := N_law_classes) (sc := defScope s_law_classes) (fun m => decide (m ∉ S)) (fun m => .bool (br P i m)) sc_law_classes.nd (by decide +kernel)
      (ei_range (n := P.length) (elenT T.z_len (eix (en 0) ec_int (ix_t (i := 1) rfl))) T.z_range (by omega)) (fun _ _ _ _ _ _ _ m hm => ets_one (ET.cast (tcmp (en 4) (en 1) bd_notInTN) (by simp))) (fun _ _ _ _ _ _ _ m hm _ => ecall (ok_law_breaks T) hr (ea_cons (en 0) (ea_cons (en 3) (ea_cons (en 4) ea_nil))) ⟨P, i, m, hV, List.mem_range.mp hm, rfl, rfl⟩) (by simp; omega)) ?_
    have em : PyData.list (((List.range P.length).filter fun m => decide (m ∉ S)).map fun m => .bool (br P i m)) = lB (FbM.mk P S i) := by
      rw [lB, FbM.mk, FbM.mark, List.map_map]; rfl
    rw [em]
    refine go_homes 7 2 5 6 (N := N_law_classes) (sc := defScope s_law_classes) (rs := rs) (bs := FbM.mk P S i) hr sc_law_classes.nd (by decide +kernel) (fun _ r => r.1) (by omega) (by show 6 < 8; decide) fun hd hdM => ?_
    have hbs : ∀ r ∈ rs.filter (fun r => decide (r.bs = FbM.mk P S i)), r ∈ rs ∧ r.bs = FbM.mk P S i := fun r hr => ⟨(List.mem_filter.mp hr).1, of_decide_eq_true (List.mem_filter.mp hr).2⟩
    refine go_ifhomes 7 hr (fun H r => ⟨r.2, fun x hx => r.1.1.2 x (hbs x hx).1⟩) (fun h0 => ?_) (fun h0 => ?_)
    · -- a new class
      have hno : FbM.mk P S i ∉ (FbM.clsI (FbM.mk P S) i).1 := fun z => by
        rw [← C.bs] at z
        obtain ⟨r, hr, e⟩ := List.mem_map.mp z
        have := List.filter_eq_nil_iff.mp h0 r hr
        simp [e] at this
      refine go_rowapp 2 5 3 (n := i) C.am (fun _ r => r.1.1) (by omega) (fun _ r => r.1.2) nal C.pw fun r e1 e2 qM pw qe ho => go_end (go_nil fun σ H W => ⟨r.q :: M', rs ++ [r], ⟨fun x hx => List.mem_cons_of_mem _ (C.sub x hx), List.mem_cons_of_mem _ C.am, fun x hx => ?_, fun x hx => ?_, ?_, ?_, ?_⟩, W.less ⟨rfl, rfl, rfl, trivial⟩⟩)
      · rcases List.mem_append.mp hx with h | h
        · obtain ⟨a1, a2, a3⟩ := C.pw x h
          obtain ⟨b1, b2, _⟩ := ho x h
          exact ⟨by simpa using ⟨b1, a1⟩, by simpa using ⟨b2, a2⟩, a3⟩
        · simp at h; subst h; exact pw
      · rcases List.mem_append.mp hx with h | h
        · obtain ⟨a1, a2, a3⟩ := C.q x h
          exact ⟨List.mem_cons_of_mem _ a1, a2, a3⟩
        · simp at h; subst h; exact ⟨List.mem_cons_self, qe, fun z => qM (C.sub _ z)⟩
      · rw [List.map_append]
        refine List.nodup_append.mpr ⟨C.nd, by simp, fun a ha b hb => ?_⟩
        simp at hb; subst hb
        obtain ⟨x, hx, rfl⟩ := List.mem_map.mp ha
        exact (ho x hx).2.2
      · rw [FbM.clsI_succ]
        unfold FbM.clsStep
        rw [if_neg hno, List.map_append, C.bs]
        simp [e1]
      · rw [FbM.clsI_succ]
        unfold FbM.clsStep
        rw [if_neg hno, List.map_append, C.ms]
        simp [e2]
    · -- one more of a class
      obtain ⟨r0, hr0⟩ : ∃ r0, (rs.filter fun r => decide (r.bs = FbM.mk P S i))[0]? = some r0 := ⟨_, List.getElem?_eq_getElem (List.length_pos_iff.mpr h0)⟩
      obtain ⟨hin, hb⟩ := hbs r0 (List.mem_of_getElem? hr0)
      obtain ⟨j, hj⟩ := List.getElem?_of_mem hin
      have jl := (List.getElem?_eq_some_iff.mp hj).1
      have hmj : (FbM.clsI (FbM.mk P S) i).1[j]? = some (FbM.mk P S i) := by rw [← C.bs, List.getElem?_map, hj, ← hb]; rfl
      have hmem : FbM.mk P S i ∈ (FbM.clsI (FbM.mk P S) i).1 := List.mem_of_getElem? hmj
      have hidx : (FbM.clsI (FbM.mk P S) i).1.idxOf (FbM.mk P S i) = j := by
        obtain ⟨h1, h2⟩ := List.getElem?_eq_some_iff.mp hmj
        have h3 : (FbM.clsI (FbM.mk P S) i).1.idxOf (FbM.mk P S i) < (FbM.clsI (FbM.mk P S) i).1.length := List.idxOf_lt_length_of_mem hmem
        exact (List.getElem_inj I.nd).mp ((List.getElem_idxOf h3).trans h2.symm)
      refine go_homeapp 7 3 (n := i) (al := al) (rs := rs) (hs := rs.filter fun r => decide (r.bs = FbM.mk P S i)) (fun _ r => ⟨r.1.1, r.2⟩) (fun _ r => r.1.2) C.pw hr0 hj (C.q r0 hin).1 (C.q r0 hin).2.1 C.nd (by have := hmsl r0 hin; omega) (go_end (go_nil fun σ H W => ⟨M', _, ⟨C.sub, C.am, fun x hx => ?_, fun x hx => ?_, ?_, ?_, ?_⟩, W.less ⟨rfl, rfl, rfl, trivial⟩⟩))
      · rcases List.mem_or_eq_of_mem_set hx with h | h
        · exact C.pw x h
        · subst h; exact C.pw r0 hin
      · rcases List.mem_or_eq_of_mem_set hx with h | h
        · exact C.q x h
        · subst h; exact C.q r0 hin
      · rw [List.map_set]
        have : (rs.map (·.q)).set j r0.q = rs.map (·.q) := by
          apply List.ext_getElem?
          intro k
          by_cases e : j = k
          · subst e; rw [List.getElem?_set_self (by rw [List.length_map]; exact jl), List.getElem?_map, hj]; rfl
          · rw [List.getElem?_set_ne e]
        show ((rs.map (·.q)).set j r0.q).Nodup
        rw [this]; exact C.nd
      · rw [FbM.clsI_succ]
        unfold FbM.clsStep
        rw [if_pos hmem, List.map_set]
        show (rs.map (·.bs)).set j r0.bs = _
        rw [C.bs, hb]
        apply List.ext_getElem?
        intro k
        by_cases e : j = k
        · subst e; rw [List.getElem?_set_self (by rw [I.len]; omega), hmj]
        · rw [List.getElem?_set_ne e]
      · rw [FbM.clsI_succ]
        unfold FbM.clsStep
        rw [if_pos hmem, List.map_set, hidx]
        show (rs.map (·.ms)).set j (r0.ms ++ [i]) = _
        rw [C.ms]
        have : (FbM.clsI (FbM.mk P S) i).2.getD j [] = r0.ms := by rw [← C.ms, List.getD_eq_getElem?_getD, List.getElem?_map, hj]; rfl
        rw [this]
  · have hRA := W.r0
    have W' : Sto M [] R [some (.d (histD P)), some (.d (tN S)), some (.d (.list (rs.map rowC))), none, none, none, none, none] σ H := by
      refine ⟨fun x hx => W.al x (C.sub x hx), fun p hp => (by cases hp), List.nodup_nil, fun p hp => (by cases hp), fun H' p => ?_, W.len, fun i b hb => ?_⟩
      · have := W.r H' p
        exact hRe H' this.2
      · match i, hb with
        | 0, hb =>
          cases hb
          obtain ⟨v, h1, h2⟩ := W.datOf (i := 0) rfl
          exact ⟨v, h1, dat_sub h2 C.sub⟩
        | 1, hb =>
          cases hb
          obtain ⟨v, h1, h2⟩ := W.datOf (i := 1) rfl
          exact ⟨v, h1, dat_sub h2 C.sub⟩
        | 2, hb =>
          cases hb
          refine ⟨_, W.valOf (i := 2) rfl, .lst (by rw [hide_out alM]; exact hRA.1.1) (rows_dt fun r hr => ⟨hRA.1.2 r hr, fun z => (C.pw r hr).1 (C.sub _ z), fun z => (C.pw r hr).2.1 (C.sub _ z), (C.q r hr).2.2⟩)⟩
        | 3, hb => cases hb
        | 4, hb => cases hb
        | 5, hb => cases hb
        | 6, hb => cases hb
        | 7, hb => cases hb
        | n + 8, hb => simp at hb
    have hlen := clsI_len (FbM.mk P S) P.length
    have hrl : rs.length = (FbM.clsI (FbM.mk P S) P.length).2.length := by rw [← C.ms, List.length_map]
    refine (go_ret (ED.cast (elcM 6 (l := rs) (enc := rowC) (N := N_law_classes) (sc := defScope s_law_classes) (fun r => tN r.ms) sc_law_classes.nd (by decide +kernel)
      (ei_list (en 2)) (fun _ _ _ _ _ _ _ r hr => etupL T.z_tuple (eix (en 6) ec_int (ix_l (i := 1) rfl))) (by omega)) ?_) O.rt) σ H W'
    have : rs.map (fun r => tN r.ms) = (rs.map (·.ms)).map tN := by rw [List.map_map]; rfl
    rw [this, C.ms]; rfl
end
end Fb
namespace Fb
open PySem L2
open FbM (HV HL anc br above cls testable)
def homeM (P : List (List Nat)) (S : List Nat) (one : Nat) : List Nat := ((cls P S).filter fun r => decide (one ∈ r)).headD []
theorem homeM_get {P : List (List Nat)} {S : List Nat} {one : Nat} (h : one < P.length) : ((cls P S).filter fun r => decide (one ∈ r))[0]? = some (homeM P S one) := by
  obtain ⟨j, r, h1, h2⟩ := FbM.has_cls (S := S) h
  unfold homeM
  cases e : (cls P S).filter fun r => decide (one ∈ r) with
  | nil => exact absurd (List.filter_eq_nil_iff.mp e r (List.mem_of_getElem? h1)) (by simp [h2])
  | cons a t => rfl
theorem homeM_in {P : List (List Nat)} {S : List Nat} {one : Nat} (h : one < P.length) : homeM P S one ∈ cls P S ∧ one ∈ homeM P S one := by
  have := List.mem_filter.mp (List.mem_of_getElem? (homeM_get (S := S) h))
  exact ⟨this.1, of_decide_eq_true this.2⟩
section
variable {X : Cx} {M : List Addr} {L : Own} {R : Hp → Prop} {ρ : Rho} {rest : List Stmt} {D : Ends} {pos p0 : Pos}
/-- return x, a value -/
theorem go_ret_val (i : Nat) {x : Str} {v : V} (k : ∀ H, R H → D.rt v H) (hb : ρ[i]? = some (some (.a v)) := by rfl) (hN : X.N[i]? = some x := by rfl)
    (hv : Vis X.env.scope x := by first | exact Or.inl rfl | exact Or.inr (Or.inl rfl) | exact Or.inr (Or.inr rfl)) (hd : (x == ("__debug__" : Str)) = false := by decide) (hcd : (x == ("__classdict__" : Str)) = false := by decide) : Go X (.Return (some (.Name x p0)) pos :: rest) D M L R ρ := fun σ H S =>
  wb_cons (ps_ret (pe_var hN hv hd hcd)) ⟨v, S.valOf hb, k H S.r0⟩
end
section
variable {Pg : Program} {w : World} {K : PySem.W.Frag} {mg : Str → Option Value} {base : Heap}
def dHome (ds : List PyData) (d : PyData) : Prop := ∃ (P : List (List Nat)) (S : List Nat) (one : Nat), HV P ∧ one < P.length ∧ ds = [histD P, tN S, iN one] ∧ d = tN (homeM P S one)
theorem ok_law_home (T : Txt K mg) : Cal Pg w K mg base 4 "_law_home" (spP dHome) := by
  refine pure_of (df_law_home T) T.g_law_home (fun ds d ⟨_, _, _, _, _, e, _⟩ => by rw [e]; rfl) fun cdv A outer s H E hr M R ds d D hd O => ?_
  obtain ⟨P, S, one, hV, ho, rfl, rfl⟩ := hd
  have hP := hV.le
  have hC := FbM.cls_le (P := P) (S := S)
  exact go_ret (eix (elc1 3 (l := cls P S) (enc := tN) (N := N_law_home) (sc := defScope s_law_home) (fun r => decide (one ∈ r)) tN sc_law_home.nd (by decide +kernel)
    (ei_list (ecall (ok_law_classes T) hr (ea_cons (en 0) (ea_cons (en 1) ea_nil)) ⟨P, S, hV, rfl, rfl⟩)) (fun _ _ _ _ _ _ _ r hr => ets_one (tcmp (en 2) (en 3) bd_inTN)) (fun _ _ _ _ _ _ _ r _ _ => en 3) (by omega)) ec_int (ix_l (i := 0) (map_get (homeM_get ho)))) O.rt
/-! ### a new desk -/
def spNew (C : Addr) : Sp := fun vs H Q _ => ∃ M P S k, (∀ a ∈ M, H a ≠ none) ∧ DatAll M H vs [histD P, tN S, iN k] ∧ HL P ∧ S.Pairwise (· < ·) ∧ (∀ x ∈ S, x < P.length) ∧ k ≤ 20 ∧
  ∀ x H', H x = none → Same H H' → Obj (x :: M) C x (deskF P k [] S (S.map Deed.skip)) H' → Q (.ref x) H'
theorem len_lt {S : List Nat} {n : Nat} (h : S.Pairwise (· < ·)) (hl : ∀ x ∈ S, x < n) : S.length ≤ n := by
  have := FbM.len_le_of_sub (r := List.range n) (FbM.nodup_of_sorted h) fun x hx => List.mem_range.mpr (hl x hx)
  rwa [List.length_range] at this
theorem ok_law_new_desk (T : Txt K mg) : Cal Pg w K mg base 6 "_law_new_desk" (spNew (DK K)) := by
  refine cal_of (df_law_new_desk T) T.g_law_new_desk (fun vs H Q E ⟨_, _, _, _, _, a, _⟩ => by rw [a.len]; rfl) fun cdv A outer s H vs Q E hr h => ?_
  obtain ⟨M, P, S, k, al, a, hL, hS, hSl, hk, q⟩ := h
  have hP := hL.le
  have hsl := len_lt hS hSl
  refine (?_ : Go _ _ _ M [] (fun H' => Same H H') [some (.d (histD P)), some (.d (tN S)), some (.d (iN k)), none, none]) _ _ (sto0 (N := N_law_new_desk) al a fun _ s => s)
  refine go_make 3 (ok_Desk T) hr (by decide) sc_law_new_desk.nd (ea_cons (en 0) (ea_cons (en 2) (ea_cons ec_str ea_nil))) ⟨P, k, hL, hk, rfl, rfl, rfl, rfl⟩ fun x xM => ⟨fun H' => (Obj (x :: M) (DK K) x (deskF P k [] [] []) H' ∧ Fr [x] H H') ∧ H x = none, fun H1 H2 s1 n1 e o => ⟨⟨o, fun b o' hb z => ?_⟩, ?_⟩, ?_⟩
  · have h1 := s1 b o' z
    rw [e b (by simpa using hb)]; exact h1
  · cases z : H x with
    | none => rfl
    | some o' => rw [s1 x o' z] at n1; cases n1
  refine go_forR (l := S) (enc := iN) (fun i H' => (Obj (x :: M) (DK K) x (deskF P k [] (S.take i) ((S.take i).map Deed.skip)) H' ∧ Fr [x] H H') ∧ H x = none) (fun _ => [some (.d (histD P)), some (.d (tN S)), some (.d (iN k)), some (.a (.ref x)), none]) (fun _ => [])
    (fun _ m => [some (.d (histD P)), some (.d (tN S)), some (.d (iN k)), some (.a (.ref x)), some (.d (iN m))]) (js := [4]) PassesOwn.never rfl
    (ei_tup (en 1)) (fun σ H' W => W.lw ⟨rfl, rfl, rfl, rfl, trivial⟩ fun _ r => r) (fun G i x _ => eg_name 4 sc_law_new_desk.nd) (fun G hG i m hm => ?_) ?_
  · have hi := (List.getElem?_eq_some_iff.mp hm).1
    have hmS : m ∈ S := List.mem_of_getElem? hm
    have hlt : ∀ y ∈ S.take i, y < m := fun y hy => by
      obtain ⟨j, hj⟩ := List.getElem?_of_mem hy
      have jl := (List.getElem?_eq_some_iff.mp hj).1
      rw [List.length_take] at jl
      rw [List.getElem?_take_of_lt (by omega)] at hj
      exact pw_get hS hj hm (by omega)
    have tk : S.take (i + 1) = S.take i ++ [m] := by rw [List.take_add_one, hm]; rfl
    have hD : Dsk P [] (S.take i) ((S.take i).map Deed.skip) := ⟨hL, fun a ha => (by cases ha), Nat.zero_le _, by rw [List.length_take]; omega, by rw [List.length_map, List.length_take]; omega⟩
    refine xgo_expr (R1 := fun H' => ((Obj (x :: M) (DK K) x (deskF P k [] (S.take (i + 1)) ((S.take (i + 1)).map Deed.skip)) H' ∧ Fr [x] H H') ∧ H x = none) ∧ G H') (emeth 3 (ok_do T) hr (by decide) List.mem_cons_self (ea_cons (etup (ea_cons ec_str (ea_cons (ecall (ok_law_name T) hr (ea_cons (en 0) (ea_cons (en 4) ea_nil)) ⟨P, m, hSl m hmS, rfl, rfl⟩) ea_nil))) ea_nil) ⟨P, k, [], S.take i, (S.take i).map Deed.skip, .skip m, hD, ⟨hSl m hmS, hS.take, hlt⟩, rfl, rfl, rfl, rfl⟩ (fun _ r => r.1.1.1) (fun _ r => r.1.1.1) rfl fun H' o => ?_) (go_nil fun σ H' W => W.less ⟨rfl, rfl, rfl, rfl, trivial⟩)
    have e : deskF P k [] (S.take (i + 1)) ((S.take (i + 1)).map Deed.skip) = stepD P k [] (S.take i) ((S.take i).map Deed.skip) (.skip m) := by
      unfold stepD
      rw [tk, List.map_append]; rfl
    rw [e]
    exact (((trk_obj (by simp) o).and tr_fr.k).and fun _ _ h _ _ _ => h).and fun H1 H2 g a1 a2 _ => hG H1 H2 (keep_off (C := [x]) (by simp) a1) g
  · rw [List.take_length]
    refine go_ret_val 3 fun H' r => q x H' r.2 (fun b o z => r.1.2 b o (by simpa using ne_of_none z r.2) z) r.1.1
end
end Fb
namespace Fb
open PySem L2
open FbM (HV HL anc br above cls testable contr canBe lives ones sB sW rowsOf tree fI fStep aft)
theorem Tr.q {C : List Addr} {H' : Hp} {R : Hp → Prop} (t : Tr C H' R) : TrQ C H' R R := t
section
variable {X : Cx} {M : List Addr} {L : Own} {R : Hp → Prop} {ρ : Rho} {e0 e1 e2 : Expr} {rest : List Stmt} {D : Ends} {pos p0 : Pos}
/-- x = _law_new_desk(..) -/
theorem go_newdesk (i : Nat) {z : Str} {P : List (List Nat)} {S : List Nat} {k kk j : Nat} {C : Addr} {spos zp : Pos} {R' : Addr → Hp → Prop} (c : Cal X.prog X.w X.K X.mg X.base kk "_law_new_desk" (spNew C)) (hr : Room j X.A) (hk : kk ≤ j) (hN : X.N.Nodup)
    (ha : EA X M L R ρ [e0, e1, e2] [histD P, tN S, iN k]) (hL : HL P) (hS : S.Pairwise (· < ·)) (hSl : ∀ x ∈ S, x < P.length) (hk20 : k ≤ 20)
    (lift : ∀ x, x ∉ M → ∀ H1 H2, R H1 → H1 x = none → (∀ b, b ≠ x → H2 b = H1 b) → Obj (x :: M) C x (deskF P k [] S (S.map Deed.skip)) H2 → R' x H2)
    (g : ∀ x, x ∉ M → Go X rest D (x :: M) L (R' x) (ρ.set i (some (.a (.ref x)))))
    (hi : X.N[i]? = some z := by rfl) (hx : Loc X.env.scope z := by first | exact Or.inl rfl | exact Or.inr rfl) (hg : Gl X "_law_new_desk" := by rfl)
    (he : starEach [e0, e1, e2] X.env = (false, eval e0 X.env) :: starEach [e1, e2] X.env := by rfl) (hpl : (backTo pos (starEach [e1, e2] X.env)).any (·.1) = false := by rfl)
    (hs : swapsWith (.Call (.Name "_law_new_desk" p0) [e0, e1, e2] [] pos) (some (.Name z zp)) spos.line X.env = pure false := by rfl) (hf : X.fn z = true ∨ X.env.scope.names.lookup z = some .local := by first | exact .inl rfl | exact .inr rfl) :
    Go X (.Assign [.Name z zp] (.Call (.Name "_law_new_desk" p0) [e0, e1, e2] [] pos) spos :: rest) D M L R ρ := fun σ H W =>
  wb_cons (ps_set hN hi hx (pe_c c hr hk hg wa (by decide) he hpl) hs hf) (ha σ H W _ fun vs H1 k1 W1 d1 => ⟨M, P, S, k, W1.al, by rw [List.append_nil]; exact d1, hL, hS, hSl, hk20, fun x H' nx sm o => by
    have xM : x ∉ M := fun q => W1.al x q nx
    have xL : x ∉ L.map (·.1) := fun q => by
      obtain ⟨z, hz, e⟩ := List.mem_map.mp q
      have e : z.1 = x := e
      exact xM (e ▸ W1.lm z hz)
    refine g x xM _ _ ((W1.born nx o.some (fr_same sm) fun H2 H3 r n e p => lift x xM H2 H3 r n e ?_).set (b := .a (.ref x)) rfl)
    refine o.keep ?_ (pres_keep (fun q hq => List.mem_cons_of_mem _ (W1.lm q hq)) p)
    obtain ⟨dx, fs, e1, _⟩ := o
    rw [e1]; exact p x _ xL e1⟩)
end
theorem ask_kind : ¬ (("nobody" : Str) = "ask") ∧ ¬ (("found" : Str) = "ask") := by decide +kernel
section
variable {Pg : Program} {w : World} {K : PySem.W.Frag} {mg : Str → Option Value} {base : Heap}
/-- what the law's own parts are asked for -/
structure Dom (P : List (List Nat)) (S : List Nat) (k : Nat) : Prop where
  hl : HL P
  sp : S.Pairwise (· < ·)
  sl : ∀ x ∈ S, x < P.length
  k2 : k ≤ 20
  beg : Beg P S (List.replicate (cls P S).length (k : Int)) k
def deedsOf (S : List Nat) (A : List (Bool × Nat)) : List Deed := S.map Deed.skip ++ A.map fun a => Deed.ans a.1 a.2
theorem Dom.dsk {P : List (List Nat)} {S : List Nat} {k : Nat} (D : Dom P S k) {A : List (Bool × Nat)} (ht : ∀ a ∈ A, a.2 ∈ testable P.length S) (hl : A.length ≤ 100) : Dsk P A S (deedsOf S A) := by
  have h1 := len_lt D.sp D.sl
  have h2 := D.hl.le
  refine ⟨D.hl, fun a ha => (FbM.mem_testable.mp (ht a ha)).1, hl, by omega, ?_⟩
  unfold deedsOf
  rw [List.length_append, List.length_map, List.length_map]; omega
def dFound (ds : List PyData) (d : PyData) : Prop := ∃ (P : List (List Nat)) (S : List Nat) (k truth : Nat) (lies : List Nat) (most : Nat), Dom P S k ∧ truth < P.length ∧ lies.length ≤ k ∧ FbM.value (rowsOf P S) (List.replicate (cls P S).length (k : Int)) = (most : Int) ∧ most ≤ 12 ∧
  ds = [histD P, tN S, iN k, iN truth, lN lies, iN most] ∧ d = .bool true
theorem ok_law_found (T : Txt K mg) : Cal Pg w K mg base 18 "_law_found" (spP dFound) := by
  refine pure_of (df_law_found T) T.g_law_found (fun ds d ⟨_, _, _, _, _, _, _, _, _, _, _, e, _⟩ => by rw [e]; rfl) fun cdv A outer s H0 E hr M R ds d D hd O => ?_
  obtain ⟨P, S, k, truth, lies, most, hDm, ht, hlies, hv, hm12, rfl, rfl⟩ := hd
  have hL := hDm.hl
  have hV := hL.toHV
  have hP := hV.le
  intro σ He W
  have hRe : ∀ H, Same He H → R H := fun H s => W.r H (pres_same s)
  refine (?_ : Go _ _ _ M [] (fun H => Same He H) (rho0 N_law_found.length [histD P, tN S, iN k, iN truth, lN lies, iN most])) σ He (W.know rfl fun H s => s)
  refine go_newdesk 6 (R' := fun x H => (Obj (x :: M) (DK K) x (deskF P k [] S (deedsOf S [])) H ∧ Fr [x] He H) ∧ He x = none) (ok_law_new_desk T) hr (by decide) sc_law_found.nd (ea_cons (en 0) (ea_cons (en 1) (ea_cons (en 2) ea_nil))) hL hDm.sp hDm.sl hDm.k2 (fun x xM H1 H2 s1 n1 e o => ⟨⟨?_, fun b o' hb z => ?_⟩, ?_⟩) fun x xM => ?_
  · unfold deedsOf
    rw [List.map_nil, List.append_nil]; exact o
  · have h1 := s1 b o' z
    rw [e b (by simpa using hb)]; exact h1
  · cases z : He x with
    | none => rfl
    | some o' => rw [s1 x o' z] at n1; cases n1
  refine go_set 7 sc_law_found.nd (ecall (ok_best_tree T) hr (ea_cons (en 0) (ea_cons (en 1) (ea_cons (ecall (ok_start T) hr (ea_cons (en 0) (ea_cons (en 1) (ea_cons (en 2) ea_nil))) ⟨P, S, k, hV, rfl, rfl⟩) ea_nil))) ⟨P, S, _, k, hV, hDm.beg, rfl, rfl⟩) ?_
  refine go_set 8 sc_law_found.nd ec_int ?_
  refine go_forR (l := List.range most) (enc := iN) (fun i H => (Obj (x :: M) (DK K) x (deskF P k (fI P S k truth lies i).2 S (deedsOf S (fI P S k truth lies i).2)) H ∧ Fr [x] He H) ∧ He x = none)
    (fun i => [some (.d (histD P)), some (.d (tN S)), some (.d (iN k)), some (.d (iN truth)), some (.d (lN lies)), some (.d (iN most)), some (.a (.ref x)), some (.d (treeD (tree (rowsOf P S) (fI P S k truth lies i).1))), some (.d (iN (fI P S k truth lies i).2.length)), none, none, none, none, none, none]) (fun _ => [])
    (fun i t => [some (.d (histD P)), some (.d (tN S)), some (.d (iN k)), some (.d (iN truth)), some (.d (lN lies)), some (.d (iN most)), some (.a (.ref x)), some (.d (treeD (tree (rowsOf P S) (fI P S k truth lies i).1))), some (.d (iN (fI P S k truth lies i).2.length)), some (.d (iN t)), none, none, none, none, none]) (js := [9]) PassesOwn.never rfl
    (ei_range (en 5) T.z_range (by omega)) (fun σ H W => W.lw ⟨rfl, rfl, rfl, rfl, rfl, rfl, rfl, rfl, rfl, trivial⟩ fun _ r => r) (fun G i x _ => eg_name 9 sc_law_found.nd) (fun G hG i t hx => ?_) ?_
  · obtain ⟨rfl, hi⟩ := range_get hx
    have I := FbM.fI_ok (P := P) (S := S) (k := k) (truth := truth) (lies := lies) i
    have F := FbM.fStep_ok I
    have hlen := FbM.fI_len (P := P) (S := S) (k := k) (truth := truth) (lies := lies) i
    have es : fI P S k truth lies (i + 1) = fStep P S truth lies (fI P S k truth lies i) := rfl
    generalize hst : fI P S k truth lies i = st at *
    by_cases h2 : 2 ≤ (ones st.1).length
    · obtain ⟨y, m, row, hb, hmt, hrow, hu, he, _⟩ := F.2 h2
      have htr := FbM.tree_ask h2 hb
      have hmem := FbM.mem_testable.mp hmt
      rw [htr]
      generalize hbr : (br P truth m != decide (st.2.length ∈ lies)) = bb at he
      have hDk := hDm.dsk I.si.tst (by omega)
      refine go_ifT (ET.cast (tcmp (eix (en 7) ec_int (ix_t (i := 0) rfl)) ec_str bd_eqS) (decide_eq_true rfl)) ?_
      refine go_set 10 sc_law_found.nd (d := .bool bb) (ED.cast (ecmp (ecall (ok_law_breaks T) hr (ea_cons (en 0) (ea_cons (en 3) (ea_cons (eix (en 7) ec_int (ix_t (i := 1) rfl)) ea_nil))) ⟨P, truth, m, hV, hmem.1, rfl, rfl⟩) (ecmp (en 8) (en 4) bd_inLN) bd_neB) (by rw [hbr])) ?_
      refine xgo_expr (R1 := fun H => ((Obj (x :: M) (DK K) x (deskF P k (st.2 ++ [(bb, m)]) S (deedsOf S (st.2 ++ [(bb, m)]))) H ∧ Fr [x] He H) ∧ He x = none) ∧ G H) (emeth 6 (ok_do T) hr (by decide) List.mem_cons_self (ea_cons (etup (ea_cons ec_str (ea_cons (eix (elst (ea_cons ec_str (ea_cons ec_str ea_nil))) (eintB (p := bb) T.z_int (en 10)) (d := .str (wordS bb)) ?_) (ea_cons (ecall (ok_law_name T) hr (ea_cons (en 0) (ea_cons (eix (en 7) ec_int (ix_t (i := 1) rfl)) ea_nil)) ⟨P, m, hmem.1, rfl, rfl⟩) ea_nil)))) ea_nil)
        ⟨P, k, st.2, S, deedsOf S st.2, .ans bb m, hDk, ⟨by omega, hmem.1, hmem.2⟩, rfl, rfl, rfl, rfl⟩ (fun _ r => r.1.1.1) (fun _ r => r.1.1.1) rfl fun H' o => ?_) ?_
      · cases bb
        · exact ix_l (i := 0) rfl
        · exact ix_l (i := 1) rfl
      · have e : deskF P k (st.2 ++ [(bb, m)]) S (deedsOf S (st.2 ++ [(bb, m)])) = stepD P k st.2 S (deedsOf S st.2) (.ans bb m) := by
          unfold stepD deedsOf
          rw [List.map_append, ← List.append_assoc]; rfl
        rw [e]
        exact (((trk_obj (by simp) o).and tr_fr.k).and fun _ _ h _ _ _ => h).and fun H1 H2 g a1 a2 _ => hG H1 H2 (keep_off (C := [x]) (by simp) a1) g
      · refine go_set 7 sc_law_found.nd (eix (en 7) (eb ec_int (eintB (p := bb) T.z_int (en 10)) bd_sub) (d := treeD (tree (rowsOf P S) (aft P S st.1 bb m))) ?_) (go_set 8 sc_law_found.nd (eb (en 8) ec_int bd_add) (go_end (go_nil fun σ H W => ?_)))
        · unfold FbM.aft
          subst hrow
          cases bb
          · exact ix_t (i := 3) rfl
          · exact ix_t (i := 2) rfl
        · rw [es, he]
          have e : PyData.int ((st.2.length : Int) + 1) = iN (st.2 ++ [(bb, m)]).length := by
            rw [iN, List.length_append]; rfl
          show Sto (x :: M) [] _ [_, _, _, _, _, _, _, _, some (.d (iN (st.2 ++ [(bb, m)]).length)), _, _, _, _, _, _] σ H
          rw [← e]
          exact W.less ⟨rfl, rfl, rfl, rfl, rfl, rfl, rfl, rfl, rfl, trivial⟩
    · have he : fStep P S truth lies st = st := by unfold FbM.fStep; rw [if_neg h2]
      rw [es, he]
      have hk : tree (rowsOf P S) st.1 = .nobody ∨ ∃ i, tree (rowsOf P S) st.1 = .found i := by
        match e : ones st.1, h2 with
        | [], _ => exact .inl (FbM.tree_none e)
        | [x], _ => exact .inr ⟨x, FbM.tree_one e⟩
        | x :: y :: t, h2 => exact absurd (by simp) h2
      rcases hk with hk | ⟨c, hk⟩
      · rw [hk]
        exact go_skip (ET.cast (tcmp (eix (en 7) ec_int (ix_t (i := 0) rfl)) ec_str bd_eqS) (decide_eq_false ask_kind.1)) (go_nil fun σ H W => W.less ⟨rfl, rfl, rfl, rfl, rfl, rfl, rfl, rfl, rfl, trivial⟩)
      · rw [hk]
        exact go_skip (ET.cast (tcmp (eix (en 7) ec_int (ix_t (i := 0) rfl)) ec_str bd_eqS) (decide_eq_false ask_kind.2)) (go_nil fun σ H W => W.less ⟨rfl, rfl, rfl, rfl, rfl, rfl, rfl, rfl, rfl, trivial⟩)
  · rw [List.length_range]
    have I := FbM.fI_ok (P := P) (S := S) (k := k) (truth := truth) (lies := lies) most
    have hlen := FbM.fI_len (P := P) (S := S) (k := k) (truth := truth) (lies := lies) most
    obtain ⟨j, r, hj, hr', hon, htc, hall⟩ := FbM.fI_end (P := P) (S := S) (k := k) ht hlies (most := most) (by rw [hv]; exact Int.le_refl _)
    have hDk := hDm.dsk I.si.tst (by omega)
    have hh := homeM_in (S := S) ht
    have hhr : homeM P S truth = r := by
      obtain ⟨i, hi⟩ := List.getElem?_of_mem hh.1
      have e := FbM.cls_one hi hj hh.2 hr'
      subst e
      rw [hi] at hj
      exact Option.some.inj hj
    generalize hst : fI P S k truth lies most = st at *
    have hcl : (canBe P st.2 k).length ≤ 24 := by
      have := List.length_filter_le (fun c => decide (contr P st.2 c ≤ k)) (List.range P.length)
      rw [List.length_range] at this
      have h3 : (canBe P st.2 k).length ≤ P.length := this
      omega
    have hrl : r.length ≤ 24 := by
      have hnd : r.Nodup := by
        have I2 := FbM.cls_inv P S
        have jl := (List.getElem?_eq_some_iff.mp hj).1
        have := I2.row j (by rw [I2.len]; exact jl)
        rw [hj] at this
        rw [Option.some.inj this]
        exact List.nodup_range.filter _
      have := FbM.len_le_of_sub (r := List.range P.length) hnd fun x hx => List.mem_range.mpr (FbM.mem_cls hj hx).1
      rw [List.length_range] at this
      omega
    rw [FbM.tree_one hon]
    refine go_set 12 sc_law_found.nd (d := .list ((r.map nameS).map PyData.str)) (ED.cast (elcM 11 (l := homeM P S truth) (enc := iN) (N := N_law_found) (sc := defScope s_law_found) (fun m => .str (nameS m)) sc_law_found.nd (by decide +kernel)
      (ei_tup (ecall (ok_law_home T) hr (ea_cons (en 0) (ea_cons (en 1) (ea_cons (en 3) ea_nil))) ⟨P, S, truth, hV, ht, rfl, rfl⟩)) (fun _ _ _ _ _ _ _ m hm => ecall (ok_law_name T) hr (ea_cons (en 0) (ea_cons (en 11) ea_nil)) ⟨P, m, (FbM.mem_cls hj (hhr ▸ hm)).1, rfl, rfl⟩) (by rw [hhr]; omega)) (by rw [hhr, List.map_map]; rfl)) ?_
    refine xgo_set 13 sc_law_found.nd (EDx.cast (emeth0 6 (ok_desk_can_be T) hr (by decide) List.mem_cons_self ⟨P, k, st.2, S, _, hDk, rfl, rfl, rfl, rfl⟩ (fun _ r => r.1.1) rfl fun H' o => ((trk_obj (by simp) o).and tr_fr.k).and fun _ _ h _ _ _ => h) (d' := .tuple (((canBe P st.2 k).map nameS).map PyData.str)) (by rw [List.map_map]; rfl)) ?_
    have hstate : stateS P st.2 S k = "certain" := by
      unfold stateS
      rw [if_neg (fun z => by rw [z] at htc; cases htc), if_pos ⟨r, List.mem_of_getElem? hj, hall⟩]
    refine go_skip (tw (wor00 (ET.cast (tcmp (eix (en 7) ec_int (ix_t (i := 0) rfl)) ec_str bd_eqS) (decide_eq_false ask_kind.2)) (wor1 (ET.cast (tcmp (emeth0 6 (ok_desk_state T) hr (by decide) List.mem_cons_self ⟨P, k, st.2, S, _, hDk, rfl, rfl, rfl, rfl⟩ (fun _ r => r.1.1) rfl fun H' o => ((trk_obj (by simp) o).and tr_fr.k).and fun _ _ h _ _ _ => h).ed ec_str bd_neS) (by rw [hstate, decide_eq_true rfl]; rfl))))) ?_
    have hnil : ((canBe P st.2 k).map nameS).filter (fun z => decide (z ∉ r.map nameS)) = [] := List.filter_eq_nil_iff.mpr fun z hz => by
      obtain ⟨c, hc, rfl⟩ := List.mem_map.mp hz
      have : nameS c ∈ r.map nameS := List.mem_map_of_mem (hall c hc)
      simp only [decide_eq_true_iff]
      exact fun q => q this
    refine go_ret (ED.cast (eand (p := true) (q := true) (ED.cast (ecmp (ecall (ok_law_name T) hr (ea_cons (en 0) (ea_cons (en 3) ea_nil)) ⟨P, truth, ht, rfl, rfl⟩) (en 13) bd_inTS) (by rw [decide_eq_true (List.mem_map_of_mem htc)])) fun _ => eone (ED.cast (ecmp (elc1 14 (l := (canBe P st.2 k).map nameS) (enc := PyData.str) (N := N_law_found) (sc := defScope s_law_found) (fun z => decide (z ∉ r.map nameS)) PyData.str sc_law_found.nd (by decide +kernel)
      (ei_tup (en 13)) (fun _ _ _ _ _ _ _ z hz => ets_one (ET.cast (tcmp (en 14) (en 12) bd_notInLS) decide_not.symm)) (fun _ _ _ _ _ _ _ z _ _ => en 14) (by rw [List.length_map]; omega)) (elst ea_nil) (bd_eqD hr ?_ rfl)) ?_)) rfl) fun v H r2 dv => O.rt v H (hRe H fun b o z => r2.1.2 b o (by simpa using ne_of_none z r2.2) z) (dat_sub dv fun b hb => List.mem_cons_of_mem _ hb)
    · rw [hnil]; rfl
    · rw [hnil]; rfl
end
end Fb
namespace Fb
open PySem L2
open FbM (HV HL anc br above cls testable contr canBe lives ones sB sW rowsOf aStep hoI pickM)
/-! ### several things born at once -/
def LfN (ns : List Addr) (R R' : Hp → Prop) : Prop := ∀ H1 H2, R H1 → (∀ x ∈ ns, H1 x = none) → (∀ b, b ∉ ns → H2 b = H1 b) → R' H2
theorem lfn_same {ns M : List Addr} {H1 H2 : Hp} (n : ∀ x ∈ ns, H1 x = none) (e : ∀ b, b ∉ ns → H2 b = H1 b) : Same (hide M H1) (hide (ns ++ M) H2) := fun b o q => by
  obtain ⟨h1, h2⟩ := hide_some q
  have ne : b ∉ ns := fun z => by rw [n b z] at h2; cases h2
  rw [hide_out (by simp [ne, h1]), e b ne]; exact h2
theorem lfn_box {ns M : List Addr} {bx : Addr} {v : V} {digs : List Int} {n : Nat} : LfN ns (Box M bx v digs n) (Box (ns ++ M) bx v digs n) := fun H1 H2 h nn e => ⟨by rw [e bx (fun z => by have := h.1; rw [nn bx z] at this; cases this)]; exact h.1, dp_same (lfn_same nn e) h.2.1, h.2.2⟩
theorem Sto.bornN {M ns : List Addr} {L : Own} {R R' : Hp → Prop} {ρ : Rho} {σ : L2.St} {H H' : Hp} (S : Sto M L R ρ σ H) (hx : ∀ x ∈ ns, H x = none) (hx' : ∀ x ∈ ns, H' x ≠ none) (f : Fr ns H H')
    (lift : ∀ H1 H2, R H1 → (∀ x ∈ ns, H1 x = none) → (∀ b, b ∉ ns → H2 b = H1 b) → Pres L H' H2 → R' H2) : Sto (ns ++ M) L R' ρ σ H' := by
  have nM : ∀ x ∈ ns, x ∉ M := fun x h q => S.al x q (hx x h)
  have kk : Same (hide M H) (hide (ns ++ M) H') := fun b o q => by
    obtain ⟨h1, h2⟩ := hide_some q
    have ne : b ∉ ns := fun z => by rw [hx b z] at h2; cases h2
    rw [hide_out (by simp [ne, h1])]
    exact f b o ne h2
  refine ⟨fun b hb => ?_, fun p hp => List.mem_append.mpr (.inr (S.lm p hp)), S.nd, fun p hp => ?_, fun H2 p => ?_, S.len, fun i b hb => ?_⟩
  · rcases List.mem_append.mp hb with h | h
    · exact hx' b h
    · have h1 := S.al b h
      cases q : H b with
      | none => exact absurd q h1
      | some o => rw [f b o (fun z => by rw [hx b z] at q; cases q) q]; simp
  · obtain ⟨ws, h1, h2⟩ := S.own p hp
    exact ⟨ws, f _ _ (fun z => by rw [hx _ z] at h1; cases h1) h1, dpAll_same kk h2⟩
  · refine lift (fun b => if b ∈ ns then none else H2 b) H2 (S.r _ fun b o hb e => ?_) (fun x h => if_pos h) (fun b hb => (if_neg hb).symm) p
    have ne : b ∉ ns := fun z => by rw [hx b z] at e; cases e
    show (if b ∈ ns then none else H2 b) = some o
    rw [if_neg ne]
    exact p b o hb (f b o ne e)
  · obtain ⟨v, h1, h2⟩ := S.b i b hb
    refine ⟨v, h1, ?_⟩
    cases b with
    | d d => exact dp_same kk h2
    | a w => exact h2
theorem Atb.same {M : List Addr} {C x kd st tl : Addr} {P : List (List Nat)} {S : List Nat} {b n : Nat} {s : List Int} {H H' : Hp} (h : Atb M C x kd st tl P S b n s H) (sm : Same H H') : Atb M C x kd st tl P S b n s H' := by
  obtain ⟨dx, fs, e1, _⟩ := id h.o
  obtain ⟨kvs, e2, _⟩ := id h.k
  refine ⟨h.o.keep (by rw [e1]; exact sm _ _ e1) (same_keep sm), h.k.at (by rw [e2]; exact sm _ _ e2), ?_, ?_⟩
  · obtain ⟨ss, l, h1⟩ := h.st
    obtain ⟨us, e3, _⟩ := id h1
    exact ⟨ss, l, h1.keep (by rw [e3]; exact sm _ _ e3) (same_keep sm)⟩
  · obtain ⟨ss, l, h1⟩ := h.tl
    obtain ⟨us, e3, _⟩ := id h1
    exact ⟨ss, l, h1.keep (by rw [e3]; exact sm _ _ e3) (same_keep sm)⟩
theorem lf_atb {y : Addr} {M : List Addr} {C x kd st tl : Addr} {P : List (List Nat)} {S : List Nat} {b n : Nat} {s : List Int} : Lf y (Atb M C x kd st tl P S b n s) (Atb (y :: M) C x kd st tl P S b n s) := fun H1 H2 h nn e => by
  refine ⟨lf_obj H1 H2 h.o nn e, lf_kd H1 H2 h.k nn e, ?_, ?_⟩
  · obtain ⟨ss, l, h1⟩ := h.st
    exact ⟨ss, l, lf_lst H1 H2 h1 nn e⟩
  · obtain ⟨ss, l, h1⟩ := h.tl
    exact ⟨ss, l, lf_lst H1 H2 h1 nn e⟩
theorem Atb.sub {M M' : List Addr} {C x kd st tl : Addr} {P : List (List Nat)} {S : List Nat} {b n : Nat} {s : List Int} {H : Hp} (h : Atb M C x kd st tl P S b n s H) (sm : ∀ a ∈ M', a ∈ M) : Atb M' C x kd st tl P S b n s H := by
  have k : Same (hide M H) (hide M' H) := fun a o e => by
    obtain ⟨h1, h2⟩ := hide_some e
    rw [hide_out (fun q => h1 (sm a q))]; exact h2
  refine ⟨?_, h.k, ?_, ?_⟩
  · obtain ⟨dx, fs, e1, f⟩ := h.o
    exact ⟨dx, fs, e1, f.same k⟩
  · obtain ⟨ss, l, us, e, d⟩ := h.st
    exact ⟨ss, l, us, e, dpAll_same k d⟩
  · obtain ⟨ss, l, us, e, d⟩ := h.tl
    exact ⟨ss, l, us, e, dpAll_same k d⟩
theorem Obj.sub {M M' : List Addr} {C x : Addr} {fd : Flds} {H : Hp} (h : Obj M C x fd H) (sm : ∀ a ∈ M', a ∈ M) : Obj M' C x fd H := by
  have k : Same (hide M H) (hide M' H) := fun a o e => by
    obtain ⟨h1, h2⟩ := hide_some e
    rw [hide_out (fun q => h1 (sm a q))]; exact h2
  obtain ⟨dx, fs, e1, f⟩ := h
  exact ⟨dx, fs, e1, f.same k⟩
theorem Box.sub {M M' : List Addr} {bx : Addr} {v : V} {digs : List Int} {n : Nat} {H : Hp} (h : Box M bx v digs n H) (sm : ∀ a ∈ M', a ∈ M) : Box M' bx v digs n H := ⟨h.1, dat_sub h.2.1 sm, h.2.2⟩
section
variable {X : Cx} {M : List Addr} {L : Own} {R R1 : Hp → Prop} {ρ : Rho} {e e0 e1 e2 : Expr} {es : List Expr} {d : PyData} {ds : List PyData} {sts rest : List Stmt} {D : Ends} {pos p0 p1 apos cpos : Pos}
/-- x = Answerer(..) -/
theorem go_makeAns (i : Nat) {g z : Str} {P : List (List Nat)} {S : List Nat} {t : List Int} {b k j : Nat} {C : Addr} {spos zp : Pos} {R' : Addr → Addr → Addr → Addr → Hp → Prop} (c : Mak X.prog X.w X.K X.mg X.base k g C (spAns C)) (hr : Room j X.A) (hk : k + 1 ≤ j) (hN : X.N.Nodup) (ha : EA X M L R ρ (e :: es) [histD P, tN S, tI t]) (hV : HV P) (hB : Beg P S t b)
    (lift : ∀ x kd st tl, (∀ y ∈ [tl, st, kd, x], y ∉ M) → st ≠ tl → ∀ H1 H2, R H1 → (∀ y ∈ [tl, st, kd, x], H1 y = none) → (∀ b, b ∉ [tl, st, kd, x] → H2 b = H1 b) → Atb (tl :: st :: kd :: x :: M) C x kd st tl P S b 0 t H2 → R' x kd st tl H2)
    (kk : ∀ x kd st tl, (∀ y ∈ [tl, st, kd, x], y ∉ M) → st ≠ tl → Go X rest D (tl :: st :: kd :: x :: M) L (R' x kd st tl) (ρ.set i (some (.a (.ref x)))))
    (hi : X.N[i]? = some z := by rfl) (hx : Loc X.env.scope z := by first | exact Or.inl rfl | exact Or.inr rfl) (hg : Gl X g := by rfl)
    (hdb : (g == ("__debug__" : Str)) = false := by decide) (he : starEach (e :: es) X.env = (false, eval e X.env) :: starEach es X.env := by rfl) (hpl : (backTo pos (starEach es X.env)).any (·.1) = false := by rfl)
    (hs : swapsWith (.Call (.Name g p0) (e :: es) [] pos) (some (.Name z zp)) spos.line X.env = pure false := by rfl) (hf : X.fn z = true ∨ X.env.scope.names.lookup z = some .local := by first | exact .inl rfl | exact .inr rfl) :
    Go X (.Assign [.Name z zp] (.Call (.Name g p0) (e :: es) [] pos) spos :: rest) D M L R ρ := fun σ H W =>
  wb_cons (ps_set hN hi hx (pe_mk c hr hk hg wa hdb he hpl) hs hf) (ha σ H W _ fun vs H1 k1 W1 d1 => fun x dx hxn hdn hne => by
    have xM : x ∉ M := fun q => W1.al x q hxn
    have s1 : ∀ a o, a ≠ x → H1 a = some o → (upd (upd H1 dx (.own x)) x (.ins C dx [])) a = some o := fun a o ha e => by
      rw [upd_ne ha, upd_ne (ne_of_none e hdn)]; exact e
    have ks : Same (hide M H1) (hide (x :: M) (upd (upd H1 dx (.own x)) x (.ins C dx []))) := fun b o q => by
      obtain ⟨h1, h2⟩ := hide_some q
      have ne := ne_of_none h2 hxn
      rw [hide_out (by simp [ne, h1])]
      exact s1 b o ne h2
    refine ⟨x :: M, x, vs, P, S, t, b, fun a ha => ?_, List.mem_cons_self, by rw [List.append_nil], ⟨dx, [], upd_same, .nil⟩, dpAll_same ks d1, hV, hB, fun kd st tl H' n1 n2 n3 ne1 ne2 ne3 f A => ?_⟩
    · rcases List.mem_cons.mp ha with q | q
      · subst q; rw [upd_same]; simp
      · cases q2 : H1 a with
        | none => exact absurd q2 (W1.al a q)
        | some o => rw [s1 a o (ne_of_none q2 hxn) q2]; simp
    · have nz : ∀ y, (upd (upd H1 dx (.own x)) x (.ins C dx [])) y = none → H1 y = none ∧ y ≠ x := fun y hy => by
        have hyx : y ≠ x := fun z => by rw [z, upd_same] at hy; cases hy
        refine ⟨?_, hyx⟩
        cases q : H1 y with
        | none => rfl
        | some o => rw [s1 y o hyx q] at hy; cases hy
      have nn : ∀ y ∈ [tl, st, kd, x], H1 y = none := fun y hy => by
        simp at hy
        rcases hy with q | q | q | q <;> subst q
        · exact (nz _ n3).1
        · exact (nz _ n2).1
        · exact (nz _ n1).1
        · exact hxn
      have yM : ∀ y ∈ [tl, st, kd, x], y ∉ M := fun y hy q => W1.al y q (nn y hy)
      have fr : Fr [tl, st, kd, x] H1 H' := fun a o ha e => f a o (by simp at ha ⊢; exact ha.2.2.2) (s1 a o (by simp at ha; exact ha.2.2.2) e)
      refine ⟨rfl, kk x kd st tl yM ne3 _ _ ((W1.bornN (ns := [tl, st, kd, x]) nn (fun y hy => ?_) fr fun H3 H4 r n e p => lift x kd st tl yM ne3 H3 H4 r n e ?_).set (b := .a (.ref x)) rfl)⟩
      · simp at hy
        rcases hy with q | q | q | q <;> subst q
        · obtain ⟨_, _, h⟩ := A.tl; exact h.some
        · obtain ⟨_, _, h⟩ := A.st; exact h.some
        · exact A.k.some
        · exact A.o.some
      · have nL : ∀ y ∈ [tl, st, kd, x], y ∉ L.map (·.1) := fun y hy q => by
          obtain ⟨z, hz, e⟩ := List.mem_map.mp q
          have e : z.1 = y := e
          exact yM y hy (e ▸ W1.lm z hz)
        -- H4 bears H' off the lists
        have pk : Keep (tl :: st :: kd :: x :: M) H' H4 := pres_keep (fun q hq => by
          simp only [List.mem_cons]; exact .inr (.inr (.inr (.inr (W1.lm q hq))))) p
        have at_ : ∀ y ∈ [tl, st, kd, x], H4 y = H' y := fun y hy => by
          cases q : H' y with
          | none =>
            exfalso
            simp at hy
            rcases hy with z | z | z | z <;> subst z
            · obtain ⟨_, _, h⟩ := A.tl; exact h.some q
            · obtain ⟨_, _, h⟩ := A.st; exact h.some q
            · exact A.k.some q
            · exact A.o.some q
          | some o => exact p y o (nL y hy) q
        refine ⟨A.o.keep (at_ x (by simp)) pk, A.k.at (at_ kd (by simp)), ?_, ?_⟩
        · obtain ⟨ss, l, h1⟩ := A.st
          exact ⟨ss, l, h1.keep (at_ st (by simp)) pk⟩
        · obtain ⟨ss, l, h1⟩ := A.tl
          exact ⟨ss, l, h1.keep (at_ tl (by simp)) pk⟩)
/-- answerer.test(make) -/
theorem etest {pl : Sem Bool} (i jm : Nat) {x kd st tl C : Addr} {y ym m : Str} {P : List (List Nat)} {S : List Nat} {b n k j mk : Nat} {s : List Int} (c : Met X.prog X.w X.K X.mg X.base k C m (spTest C)) (hr : Room j X.A) (hk : k ≤ j) (hm : x ∈ M ∧ kd ∈ M ∧ st ∈ M ∧ tl ∈ M ∧ st ≠ tl) (hL : ∀ a ∈ [kd, st, tl], a ∉ L.map (·.1)) (hV : HV P) (hs : StateOk (cls P S).length b s) (hb20 : (b + 2) ^ (cls P S).length ≤ 20000) (hl : lives s ≤ 12) (hmk : mk ∈ testable P.length S) (hn : n ≤ 100)
    (hR : ∀ H, R H → Atb M C x kd st tl P S b n s H) (hno : (ansF P S kd st tl).lookup m = none) (tr : ∀ H', Atb M C x kd st tl P S b (n + 1) (aStep P S s mk).2 H' → TrK [kd, st, tl] M H' R R1)
    (hb : ρ[i]? = some (some (.a (.ref x))) := by rfl) (hbm : ρ[jm]? = some (some (.d (iN mk))) := by rfl) (hN : X.N[i]? = some y := by rfl) (hNm : X.N[jm]? = some ym := by rfl)
    (hv : Vis X.env.scope y := by first | exact Or.inl rfl | exact Or.inr (Or.inl rfl) | exact Or.inr (Or.inr rfl)) (hdb : (y == ("__debug__" : Str)) = false := by decide) (hcd : (y == ("__classdict__" : Str)) = false := by decide)
    (hvm : Vis X.env.scope ym := by first | exact Or.inl rfl | exact Or.inr (Or.inl rfl) | exact Or.inr (Or.inr rfl)) (hdm : (ym == ("__debug__" : Str)) = false := by decide) (hcm : (ym == ("__classdict__" : Str)) = false := by decide)
    (hst : starEach [.Name ym p1] X.env = (false, eval (.Name ym p1) X.env) :: starEach [] X.env := by rfl) (hpl : (backTo pos (starEach [] X.env)).any (·.1) = false := by rfl)
    (ht : eval (.Call (.Attribute (.Name y p0) m apos) [.Name ym p1] [] pos) X.env = (do
      let ov ← eval (.Name y p0) X.env
      standAt apos.atName
      let (f, first) ← holding [ov] (getMethod ov m pl)
      callWith pos f first (backTo pos (starEach [.Name ym p1] X.env)) (backToKw pos (keywordEach [] X.env))) := by rfl) : EDx X M L R R1 ρ (.Call (.Attribute (.Name y p0) m apos) [.Name ym p1] [] pos) (.str (wordS (aStep P S s mk).1)) := fun σ H W Q q => by
  have A := hR H W.r0
  obtain ⟨dx, fs, h1, h2⟩ := id A.o
  obtain ⟨vm, g1, g2⟩ := W.datOf hbm
  cases g2
  refine ⟨_, pe_mt (pl := pl) c hr hk (pe_var hN hv hdb hcd) (pa_cons (pe_var hNm hvm hdm hcm) pa_nil hst) hst hpl ht, .ref x, W.valOf hb, x, dx, fs, rfl, h1, h2.no hno, .int (mk : Nat), g1, ?_⟩
  refine ⟨M, x, kd, st, tl, P, S, b, n, s, mk, W.al, hm, rfl, hV, hs, hb20, hl, hmk, hn, A, fun H' f A' => ?_⟩
  have cm : ∀ a ∈ [kd, st, tl], a ∈ M := fun a ha => by
    simp at ha
    rcases ha with z | z | z <;> subst z
    · exact hm.2.1
    · exact hm.2.2.1
    · exact hm.2.2.2.1
  refine q _ H' (f.keep cm) (W.callR (C := [kd, st, tl]) cm hL f (fun a ha => ?_) (tr H' A')) (.str _)
  simp at ha
  rcases ha with z | z | z <;> subst z
  · exact A'.k.some
  · obtain ⟨_, _, h⟩ := A'.st; exact h.some
  · obtain ⟨_, _, h⟩ := A'.tl; exact h.some
/-- x.append(e), e changes what is known -/
theorem xgo_app (i j : Nat) {x : Str} {a : Addr} (h : EDx X M L R R1 ρ e d) (k : Go X rest D M (L.set j (a, ds ++ [d])) R1 ρ) (hb : ρ[i]? = some (some (.a (.ref a))) := by rfl) (hL : L[j]? = some (a, ds) := by rfl) (hl : ds.length < 100000) (hN : X.N[i]? = some x := by rfl)
    (hv : Vis X.env.scope x := by first | exact Or.inl rfl | exact Or.inr (Or.inl rfl) | exact Or.inr (Or.inr rfl)) (hd : (x == ("__debug__" : Str)) = false := by decide) (hcd : (x == ("__classdict__" : Str)) = false := by decide)
    (hs : swapsWith (.Call (.Attribute (.Name x p0) "append" apos) [e] [] cpos) none pos.line X.env = pure false := by rfl)
    (hbase : attributeBase (.Name x p0) "append" X.env (eval (.Name x p0) X.env) = eval (.Name x p0) X.env := by rfl)
    (hfew : ((backTo cpos (starEach [e] X.env)).all (fun x => !x.1) && (backToKw cpos (keywordEach [] X.env)).all (fun x => x.1.isSome) && decide ([e].length + ([] : List Keyword).length + (if ([] : List Keyword).isEmpty then 0 else 1) < 30)) = true := by rfl)
    (hline : (apos.endLine == cpos.line) = true := by rfl) (hst : starEach [e] X.env = (false, eval e X.env) :: starEach [] X.env := by rfl) (hplain : (backTo cpos (starEach [] X.env)).any (·.1) = false := by rfl) :
    Go X (.Expr (.Call (.Attribute (.Name x p0) "append" apos) [e] [] cpos) pos :: rest) D M L R ρ := fun σ H S => by
  obtain ⟨ws, hw, _⟩ := S.own _ (List.mem_of_getElem? hL)
  refine wb_cons (ps_expr (pe_bm PySem.F.plainAttrs_list PySem.F.slot_list_append PySem.F.type_list_append mt_append (pe_var hN hv hd hcd) (pa_cons we pa_nil hst) hbase hfew hline hst hplain) hs) ?_
  refine ⟨.ref a, S.valOf hb, .inl ⟨rfl, ws, SqL.of hw⟩, h σ H S _ fun v H2 k2 S2 d2 => ?_⟩
  obtain ⟨us, hu, du⟩ := S2.own _ (List.mem_of_getElem? hL)
  exact ⟨a, us, v, rfl, rfl, hu, by rw [du.len]; exact Nat.lt_of_lt_of_le hl (by decide), k _ _ (S2.mut hL (du.snoc d2))⟩
/-- x[-1], x a list of one's own -/
theorem own_last (i j : Nat) {x : Str} {a : Addr} {nj} {mp cp : Pos} (hb : ρ[i]? = some (some (.a (.ref a))) := by rfl) (hL : L[j]? = some (a, ds ++ [d]) := by rfl) (hN : X.N[i]? = some x := by rfl)
    (hv : Vis X.env.scope x := by first | exact Or.inl rfl | exact Or.inr (Or.inl rfl) | exact Or.inr (Or.inr rfl)) (hd : (x == ("__debug__" : Str)) = false := by decide) (hcd : (x == ("__classdict__" : Str)) = false := by decide) (hs : PlainIx (.UnaryOp .USub (.Constant (.int 1) nj cp) mp) := by exact fun _ _ => rfl) :
    ED X M L R ρ (.Subscript (.Name x p0) (.UnaryOp .USub (.Constant (.int 1) nj cp) mp) pos) d := fun σ H S Q q => by
  obtain ⟨vs, h5, h6⟩ := S.own _ (List.mem_of_getElem? hL)
  have hlen := h6.len
  have hlen : vs.length = (ds ++ [d]).length := hlen
  rw [List.length_append, List.length_singleton] at hlen
  obtain ⟨w, g1, g2⟩ := h6.get (i := ds.length) (d := d) (by show (ds ++ [d])[ds.length]? = some d; rw [List.getElem?_append_right (Nat.le_refl _), Nat.sub_self]; rfl)
  have hi : atI vs (-1) = some w := by
    unfold atI
    have e : ixN vs.length (-1) = some ds.length := by
      unfold ixN
      rw [if_neg (by omega), if_pos (by omega)]
      congr 1; omega
    rw [e]; exact g1
  exact ⟨_, pe_ix ix_list (pe_var hN hv hd hcd) (pe_un un_neg pe_int) hs, .ref a, S.valOf hb, 1, rfl, a, vs, -1, w, rfl, rfl, SqL.of h5, hi, q w H (Keep.refl _ _) S g2⟩
/-- a list of one's own that is changed no more -/
theorem go_freeze (i : Nat) {a : Addr} (aM : a ∉ M) (hR : ∀ H, R H → R1 H) (g : Go X sts D M [] R1 (ρ.set i (some (.d (.list ds))))) (hb : ρ[i]? = some (some (.a (.ref a))) := by rfl) : Go X sts D (a :: M) [(a, ds)] R ρ := fun σ H S => by
  obtain ⟨vs, h1, h2⟩ := S.own _ List.mem_cons_self
  have il : i < ρ.length := (List.getElem?_eq_some_iff.mp hb).1
  have dd : Dat M H (.ref a) (.list ds) := .lst (by rw [hide_out aM]; exact h1) (datAll_sub h2 fun b hb => List.mem_cons_of_mem _ hb)
  refine g σ H ⟨fun x hx => S.al x (List.mem_cons_of_mem _ hx), fun p hp => (by cases hp), List.nodup_nil, fun p hp => (by cases hp), fun H' p => hR H' (S.r H' fun b o _ e => p b o (by simp) e), by rw [List.length_set]; exact S.len, fun t b ht => ?_⟩
  by_cases e : i = t
  · subst e
    rw [List.getElem?_set_self il] at ht
    cases ht
    exact ⟨_, S.valOf hb, dd⟩
  · rw [List.getElem?_set_ne e] at ht
    obtain ⟨v, g1, g2⟩ := S.b t b ht
    refine ⟨v, g1, ?_⟩
    cases b with
    | d d => exact dat_sub g2 fun b hb => List.mem_cons_of_mem _ hb
    | a w => exact g2
end
end Fb
namespace Fb
open PySem L2
open FbM (HV HL anc br above cls testable contr canBe lives ones sB sW rowsOf aStep hoI pickM)
theorem tr_atb0 {C0 M : List Addr} {H' : Hp} {C x kd st tl : Addr} {P : List (List Nat)} {S : List Nat} {b n : Nat} {s : List Int} (hx : x ∉ C0) (hk : kd ∉ C0) (hs : st ∉ C0) (ht : tl ∉ C0) (sM : ∀ a ∈ C0, a ∈ M) : Tr C0 H' (Atb M C x kd st tl P S b n s) := fun H1 H2 h e f => by
  refine ⟨tr_obj0 hx sM H1 H2 h.o e f, tr_kd0 hk H1 H2 h.k e f, ?_, ?_⟩
  · obtain ⟨ss, l, h1⟩ := h.st
    exact ⟨ss, l, tr_lst0 hs sM H1 H2 h1 e f⟩
  · obtain ⟨ss, l, h1⟩ := h.tl
    exact ⟨ss, l, tr_lst0 ht sM H1 H2 h1 e f⟩
theorem tr_box0 {C0 M : List Addr} {H' : Hp} {bx : Addr} {v : V} {digs : List Int} {n : Nat} (hb : bx ∉ C0) (sM : ∀ a ∈ C0, a ∈ M) : Tr C0 H' (Box M bx v digs n) := fun H1 H2 h e f => ⟨(e bx hb).symm.trans h.1, dp_same (keep_off sM e) h.2.1, h.2.2⟩
theorem trk_atb {M : List Addr} {H' : Hp} {C x kd st tl : Addr} {P : List (List Nat)} {S : List Nat} {b n n' : Nat} {s s' : List Int} (hx : x ∉ [kd, st, tl]) (sM : ∀ a ∈ [kd, st, tl], a ∈ M) (A : Atb M C x kd st tl P S b n' s' H') : TrK [kd, st, tl] M H' (Atb M C x kd st tl P S b n s) (Atb M C x kd st tl P S b n' s') := fun H1 H2 h e f k => by
  refine ⟨tr_obj0 (H' := H') hx sM H1 H2 h.o e f, A.k.at (f kd (by simp)), ?_, ?_⟩
  · obtain ⟨ss, l, h1⟩ := A.st
    exact ⟨ss, l, h1.keep (f st (by simp)) k⟩
  · obtain ⟨ss, l, h1⟩ := A.tl
    exact ⟨ss, l, h1.keep (f tl (by simp)) k⟩
theorem hoI_ok {P : List (List Nat)} {S : List Nat} {k : Nat} {ds : List Int} {n : Nat} (hB : Beg P S (List.replicate (cls P S).length (k : Int)) k) : ∀ i, StateOk (cls P S).length k (hoI P S k ds n i).1 ∧ lives (hoI P S k ds n i).1 ≤ 12
  | 0 => ⟨hB.ok, hB.lives⟩
  | i + 1 => by
    have ih := hoI_ok (ds := ds) (n := n) hB i
    show StateOk _ k (aStep P S (hoI P S k ds n i).1 (pickM ds (n + i) (testable P.length S))).2 ∧ lives (aStep P S (hoI P S k ds n i).1 (pickM ds (n + i) (testable P.length S))).2 ≤ 12
    unfold FbM.aStep
    split
    · exact ⟨sW_ok ih.1, Nat.le_trans (FbM.lives_low_le fun x hx => (ih.1.2 x hx).1) ih.2⟩
    · exact ⟨sB_ok ih.1, Nat.le_trans (FbM.lives_low_le fun x hx => (ih.1.2 x hx).1) ih.2⟩
theorem test_ne {P : List (List Nat)} {S : List Nat} {k : Nat} (h : 1 ≤ FbM.value (rowsOf P S) (List.replicate (cls P S).length (k : Int))) : testable P.length S ≠ [] := fun z => by
  have h2 : 2 ≤ (ones (List.replicate (cls P S).length (k : Int))).length := by
    refine Nat.le_of_not_lt fun y => ?_
    have := FbM.value_done (rows := rowsOf P S) (s := List.replicate (cls P S).length (k : Int)) (by omega)
    omega
  obtain ⟨_, r, hr, _⟩ := FbM.value_use (FbM.rows_parts (P := P) (S := S)) (List.length_replicate ..) h2
  have := (FbM.rows_good (m := r.1) (row := r.2) hr).1
  rw [z] at this
  cases this
def HR (K : PySem.W.Frag) (M : List Addr) (bx : Addr) (v : V) (digs : List Int) (nn : Nat) (x kd st tl : Addr) (P : List (List Nat)) (S : List Nat) (k n : Nat) (s : List Int) (y : Addr) (A : List (Bool × Nat)) (H0 H : Hp) : Prop :=
  Box M bx v digs nn H ∧ Atb M (AK K) x kd st tl P S k n s H ∧ Obj M (DK K) y (deskF P k A S (deedsOf S A)) H ∧ Fr [bx, x, kd, st, tl, y] H0 H
section
variable {Pg : Program} {w : World} {K : PySem.W.Frag} {mg : Str → Option Value} {base : Heap}
def dHeld (digs : List Int) (n : Nat) (ds : List PyData) (n' : Nat) (d : PyData) : Prop := ∃ (P : List (List Nat)) (S : List Nat) (k many : Nat), Dom P S k ∧ FbM.value (rowsOf P S) (List.replicate (cls P S).length (k : Int)) = (many : Int) + 1 ∧ many ≤ 12 ∧ ds = [histD P, tN S, iN k, iN many] ∧ n' = n + many ∧ d = .bool true
theorem ok_law_held_out (T : Txt K mg) : Cal Pg w K mg base 18 "_law_held_out" (spB dHeld) := by
  refine calB_of (df_law_held_out T) T.g_law_held_out (fun digs n ds n' d ⟨_, _, _, _, _, _, _, e, _⟩ => by rw [e]; rfl) fun cdv A outer s H0 E hr M bx v digs n ds n' d D hd hbM hdl q => ?_
  obtain ⟨P, S, k, many, hDm, hv, hm12, rfl, rfl, rfl⟩ := hd
  have hL := hDm.hl
  have hV := hL.toHV
  have hP := hV.le
  have hne : testable P.length S ≠ [] := test_ne (k := k) (by omega)
  have hT : (testable P.length S).length ≤ 24 := by
    have := List.length_filter_le (fun m => decide (m ∉ S)) (List.range P.length)
    rw [List.length_range] at this
    unfold FbM.testable; omega
  refine go_setLc 6 5 (l := List.range P.length) (enc := iN) (N := N_law_held_out) (sc := defScope s_law_held_out) (fun m => decide (m ∉ S)) iN sc_law_held_out.nd (by decide +kernel)
    (ei_range (n := P.length) (elenT T.z_len (eix (en 1) ec_int (ix_t (i := 1) rfl))) T.z_range (by omega)) (fun _ _ _ _ _ _ _ m hm => ets_one (ET.cast (tcmp (en 5) (en 2) bd_notInTN) (by simp))) (fun _ _ _ _ _ _ _ m hm _ => en 5) (by simp; omega) ?_
  refine go_makeAns (R' := fun x kd st tl H => (Box (tl :: st :: kd :: x :: M) bx v digs n H ∧ Atb (tl :: st :: kd :: x :: M) (AK K) x kd st tl P S k 0 (List.replicate (cls P S).length (k : Int)) H ∧ Fr [bx, x, kd, st, tl] H0 H) ∧ ∀ z ∈ [tl, st, kd, x], H0 z = none) 7 (ok_Answerer T) hr (by decide) sc_law_held_out.nd (ea_cons (en 1) (ea_cons (en 2) (ea_cons (ecall (ok_start T) hr (ea_cons (en 1) (ea_cons (en 2) (ea_cons (en 3) ea_nil))) ⟨P, S, k, hV, rfl, rfl⟩) ea_nil))) hV hDm.beg
    (fun x kd st tl hM hst H1 H2 r nn e At => ⟨⟨lfn_box (ns := [tl, st, kd, x]) H1 H2 r.1 nn e, At, fun b o hb z => ?_⟩, fun z hz => ?_⟩) fun x kd st tl hM hst => ?_
  · have h1 := r.2 b o (by simp at hb ⊢; exact hb.1) z
    rw [e b (by simp at hb ⊢; exact ⟨hb.2.2.2.2, hb.2.2.2.1, hb.2.2.1, hb.2.1⟩)]; exact h1
  · cases y : H0 z with
    | none => rfl
    | some o =>
      have := r.2 z o (by simpa using fun y : z = bx => hM z hz (y ▸ hbM)) y
      rw [nn z hz] at this; cases this
  generalize hM1 : tl :: st :: kd :: x :: M = M1
  have xM1 : x ∈ M1 := by rw [← hM1]; simp
  have kM1 : kd ∈ M1 := by rw [← hM1]; simp
  have sM1 : st ∈ M1 := by rw [← hM1]; simp
  have tM1 : tl ∈ M1 := by rw [← hM1]; simp
  have bM1 : bx ∈ M1 := by rw [← hM1]; simp [hbM]
  have sub1 : ∀ a ∈ M, a ∈ M1 := fun a ha => by rw [← hM1]; simp [ha]
  have nbx : ∀ z ∈ [tl, st, kd, x], z ≠ bx := fun z hz y => hM z hz (y ▸ hbM)
  refine go_newdesk 8 (R' := fun y H => (Box (y :: M1) bx v digs n H ∧ Atb (y :: M1) (AK K) x kd st tl P S k 0 (List.replicate (cls P S).length (k : Int)) H ∧ Obj (y :: M1) (DK K) y (deskF P k [] S (deedsOf S [])) H ∧ Fr [bx, x, kd, st, tl, y] H0 H) ∧ ∀ z ∈ [tl, st, kd, x, y], H0 z = none) (ok_law_new_desk T) hr (by decide) sc_law_held_out.nd (ea_cons (en 1) (ea_cons (en 2) (ea_cons (en 3) ea_nil))) hL hDm.sp hDm.sl hDm.k2
    (fun y yM H1 H2 r nn e o => ⟨⟨lf_box H1 H2 r.1.1 nn e, lf_atb H1 H2 r.1.2.1 nn e, ?_, fun b o' hb z => ?_⟩, fun z hz => ?_⟩) fun y yM => ?_
  · unfold deedsOf
    rw [List.map_nil, List.append_nil]; exact o
  · have h1 := r.1.2.2 b o' (by simp at hb ⊢; exact ⟨hb.1, hb.2.1, hb.2.2.1, hb.2.2.2.1, hb.2.2.2.2.1⟩) z
    rw [e b (by simp at hb; exact hb.2.2.2.2.2)]; exact h1
  · simp at hz
    rcases hz with h | h | h | h | h
    · exact r.2 z (by simp [h])
    · exact r.2 z (by simp [h])
    · exact r.2 z (by simp [h])
    · exact r.2 z (by simp [h])
    · subst h
      cases y' : H0 z with
      | none => rfl
      | some o' =>
        have := r.1.2.2 z o' (by simp; exact ⟨ne_in yM bM1, ne_in yM xM1, ne_in yM kM1, ne_in yM sM1, ne_in yM tM1⟩) y'
        rw [nn] at this; cases this
  refine go_know (fun H r => r.2) fun hnew => ?_
  have bne : ∀ z ∈ [x, kd, st, tl], bx ≠ z := fun z hz h => nbx z (by simp at hz ⊢; rcases hz with h | h | h | h <;> simp [h]) h.symm
  have yne : ∀ z ∈ [bx, x, kd, st, tl], y ≠ z := fun z hz => by
    simp at hz
    rcases hz with h | h | h | h | h <;> subst h
    · exact ne_in yM bM1
    · exact ne_in yM xM1
    · exact ne_in yM kM1
    · exact ne_in yM sM1
    · exact ne_in yM tM1
  refine go_newL (R' := fun a H => HR K (a :: y :: M1) bx v digs n x kd st tl P S k 0 (List.replicate (cls P S).length (k : Int)) y [] H0 H) 9 sc_law_held_out.nd ea_nil (fun a H1 H2 r nn e => ⟨lf_box H1 H2 r.1.1 nn e, lf_atb H1 H2 r.1.2.1 nn e, lf_obj H1 H2 r.1.2.2.1 nn e, lf_fr H1 H2 r.1.2.2.2 nn e⟩) fun a aM => ?_
  have xM3 : x ∈ a :: y :: M1 := by simp [xM1]
  have kM3 : kd ∈ a :: y :: M1 := by simp [kM1]
  have sM3 : st ∈ a :: y :: M1 := by simp [sM1]
  have tM3 : tl ∈ a :: y :: M1 := by simp [tM1]
  have bM3 : bx ∈ a :: y :: M1 := by simp [bM1]
  have yM3 : y ∈ a :: y :: M1 := by simp
  have ane : ∀ z ∈ y :: M1, z ≠ a := fun z hz h => aM (h ▸ hz)
  refine go_forR (l := List.range many) (enc := iN) (fun i H => HR K (a :: y :: M1) bx v digs (n + i) x kd st tl P S k i (hoI P S k digs n i).1 y (hoI P S k digs n i).2 H0 H)
    (fun _ => [some (.a (.ref bx)), some (.d (histD P)), some (.d (tN S)), some (.d (iN k)), some (.d (iN many)), none, some (.d (lN (testable P.length S))), some (.a (.ref x)), some (.a (.ref y)), some (.a (.ref a)), none, none, none, none, none, none]) (fun i => [(a, (hoI P S k digs n i).2.map ansD)])
    (fun _ t => [some (.a (.ref bx)), some (.d (histD P)), some (.d (tN S)), some (.d (iN k)), some (.d (iN many)), none, some (.d (lN (testable P.length S))), some (.a (.ref x)), some (.a (.ref y)), some (.a (.ref a)), some (.d (iN t)), none, none, none, none, none]) (js := [10]) PassesOwn.never rfl
    (ei_range (en 4) T.z_range (by omega)) (fun σ H W => W.lw ⟨rfl, rfl, rfl, rfl, rfl, rfl, rfl, rfl, rfl, trivial⟩ fun _ r => r) (fun G i x _ => eg_name 10 sc_law_held_out.nd) (fun G hG i t hx => ?_) ?_
  · obtain ⟨rfl, hi⟩ := range_get hx
    have hok := hoI_ok (ds := digs) (n := n) hDm.beg i
    have hsi := FbM.hoI_si (k := k) (ds := digs) (n := n) hne i
    have hln := FbM.hoI_len (P := P) (S := S) (k := k) (ds := digs) (n := n) i
    have hmk := FbM.pickM_mem (ds := digs) (n := n + i) hne
    have hmem := FbM.mem_testable.mp hmk
    have es : hoI P S k digs n (i + 1) = ((aStep P S (hoI P S k digs n i).1 (pickM digs (n + i) (testable P.length S))).2, (hoI P S k digs n i).2 ++ [((aStep P S (hoI P S k digs n i).1 (pickM digs (n + i) (testable P.length S))).1, pickM digs (n + i) (testable P.length S))]) := rfl
    rw [es]
    generalize hoI P S k digs n i = zz at *
    generalize hpk : pickM digs (n + i) (testable P.length S) = mk at *
    generalize hbs : aStep P S zz.1 mk = bs at *
    have kG : ∀ C0 : List Addr, (∀ z ∈ C0, z ∈ a :: y :: M1) → ∀ H1 H2, G H1 → (∀ b, b ∉ C0 → H1 b = H2 b) → G H2 := fun C0 hc H1 H2 g e => hG H1 H2 (keep_off hc e) g
    have hDk := hDm.dsk hsi.tst (by omega)
    have c1 : ∀ z ∈ [bx], z ∈ a :: y :: M1 := by simp [bM1]
    have c2 : ∀ z ∈ [kd, st, tl], z ∈ a :: y :: M1 := by simp [kM1, sM1, tM1]
    have c3 : ∀ z ∈ [y], z ∈ a :: y :: M1 := by simp
    refine xgo_set (R1 := fun H => HR K (a :: y :: M1) bx v digs (n + i + 1) x kd st tl P S k i zz.1 y zz.2 H0 H ∧ G H) 5 sc_law_held_out.nd (d := iN mk) (xbox 0 (ok_law_pick T) hr (by decide) (ea_cons (en 6) ea_nil) ⟨testable P.length S, hne, by omega, rfl, rfl, by rw [hpk]⟩ (fun _ h => h) bM3 (by simpa using ane bx (List.mem_cons_of_mem _ bM1)) (fun _ _ h => h) (fun _ r => r.1.1) fun H' e => ?_) ?_
    · refine TrQ.and ?_ fun H1 H2 g e _ => kG [bx] c1 H1 H2 g e
      refine (tr_box bM3 e).and (TrQ.and (tr_atb0 (by simpa using (bne x (by simp)).symm) (by simpa using (bne kd (by simp)).symm) (by simpa using (bne st (by simp)).symm) (by simpa using (bne tl (by simp)).symm) c1).q (TrQ.and (tr_obj0 (by simpa using yne bx (by simp)) c1).q (tr_frS (by simp)).q))
    refine xgo_app (R1 := fun H => HR K (a :: y :: M1) bx v digs (n + i + 1) x kd st tl P S k (i + 1) bs.2 y zz.2 H0 H ∧ G H) (d := ansD (bs.1, mk)) 9 0 (xtup (xa_cons (EDx.cast (etest 7 5 (ok_test T) hr (by decide) ⟨xM3, kM3, sM3, tM3, hst⟩ (fun z hz => by
        simp at hz ⊢
        rcases hz with h | h | h <;> subst h
        · exact ane _ (List.mem_cons_of_mem _ kM1)
        · exact ane _ (List.mem_cons_of_mem _ sM1)
        · exact ane _ (List.mem_cons_of_mem _ tM1)) hV hok.1 hDm.beg.few hok.2 hmk (by omega) (fun _ r => r.1.2.1) rfl fun H' A' => ?_) (by rw [hbs])) (xa_cons (en 5).x xa_nil))) ?_ (hl := by rw [List.length_map]; omega)
    · refine TrK.and ?_ (TrQ.k fun H1 H2 g e _ => kG [kd, st, tl] c2 H1 H2 g e)
      have hxn : x ∉ [kd, st, tl] := by
        obtain ⟨n1, n2, n3, _, _⟩ := A'.ne
        simp; exact ⟨n1, n2, n3⟩
      rw [hbs] at A'
      refine (tr_box0 (by simp; exact ⟨bne kd (by simp), bne st (by simp), bne tl (by simp)⟩) c2).k.and (TrK.and (trk_atb hxn c2 A') (TrK.and (tr_obj0 (by simp; exact ⟨yne kd (by simp), yne st (by simp), yne tl (by simp)⟩) c2).k (tr_frS (by simp)).k))
    have hA : ∀ z ∈ zz.2 ++ [(bs.1, mk)], z.2 ∈ testable P.length S := fun z hz => by
      rcases List.mem_append.mp hz with h | h
      · exact hsi.tst z h
      · simp at h; subst h; exact hmk
    refine xgo_expr (R1 := fun H => HR K (a :: y :: M1) bx v digs (n + i + 1) x kd st tl P S k (i + 1) bs.2 y (zz.2 ++ [(bs.1, mk)]) H0 H ∧ G H) (emeth 8 (ok_do T) hr (by decide) yM3 (ea_cons (etup (ea_cons ec_str (ea_cons (eix (own_last (d := ansD (bs.1, mk)) (ds := zz.2.map ansD) 9 0) ec_int (ix_t (i := 0) rfl)) (ea_cons (ecall (ok_law_name T) hr (ea_cons (en 1) (ea_cons (en 5) ea_nil)) ⟨P, mk, hmem.1, rfl, rfl⟩) ea_nil)))) ea_nil)
        ⟨P, k, zz.2, S, deedsOf S zz.2, .ans bs.1 mk, hDk, ⟨by omega, hmem.1, hmem.2⟩, rfl, rfl, rfl, rfl⟩ (fun _ r => r.1.2.2.1) (fun _ r => r.1.2.2.1) rfl fun H' o => ?_) ?_
    · have e : deskF P k (zz.2 ++ [(bs.1, mk)]) S (deedsOf S (zz.2 ++ [(bs.1, mk)])) = stepD P k zz.2 S (deedsOf S zz.2) (.ans bs.1 mk) := by
        unfold stepD deedsOf
        rw [List.map_append, ← List.append_assoc]; rfl
      refine TrK.and ?_ (TrQ.k fun H1 H2 g e _ => kG [y] c3 H1 H2 g e)
      have yn : ∀ z ∈ [bx, x, kd, st, tl], z ∉ [y] := fun z hz h => yne z hz (List.mem_singleton.mp h).symm
      refine (tr_box0 (yn bx (by simp)) c3).k.and (TrK.and (tr_atb0 (yn x (by simp)) (yn kd (by simp)) (yn st (by simp)) (yn tl (by simp)) c3).k (TrK.and ?_ (tr_frS (by simp)).k))
      rw [e]
      exact trk_obj (by simp) o
    · refine go_nil fun σ H W => ?_
      have e1 : zz.2.map ansD ++ [ansD (bs.1, mk)] = (zz.2 ++ [(bs.1, mk)]).map ansD := by rw [List.map_append]; rfl
      rw [← e1]
      exact W.less ⟨rfl, rfl, rfl, rfl, rfl, rfl, rfl, rfl, rfl, trivial⟩
  · rw [List.length_range]
    have hsi := FbM.hoI_si (k := k) (ds := digs) (n := n) hne many
    have hln := FbM.hoI_len (P := P) (S := S) (k := k) (ds := digs) (n := n) many
    obtain ⟨ci, cj, r, q2, ca, cb, hij, gi, gj, hca, hcb, cca, ccb⟩ := FbM.hoI_end (ds := digs) (n := n) hne hv
    generalize hoI P S k digs n many = zz at *
    have hDk := hDm.dsk hsi.tst (by omega)
    refine go_freeze (R1 := fun H => HR K (y :: M1) bx v digs (n + many) x kd st tl P S k many zz.1 y zz.2 H0 H) 9 aM (fun H r => ⟨r.1.sub fun b hb => List.mem_cons_of_mem _ hb, r.2.1.sub fun b hb => List.mem_cons_of_mem _ hb, r.2.2.1.sub fun b hb => List.mem_cons_of_mem _ hb, r.2.2.2⟩) ?_
    refine go_newL (R' := fun a H => HR K (a :: y :: M1) bx v digs (n + many) x kd st tl P S k many zz.1 y zz.2 H0 H) 11 sc_law_held_out.nd ea_nil (fun a H1 H2 r nn e => ⟨lf_box H1 H2 r.1 nn e, lf_atb H1 H2 r.2.1 nn e, lf_obj H1 H2 r.2.2.1 nn e, lf_fr H1 H2 r.2.2.2 nn e⟩) fun a2 a2M => ?_
    refine go_for (l := List.range P.length) (enc := iN) (fun _ => [some (.a (.ref bx)), some (.d (histD P)), some (.d (tN S)), some (.d (iN k)), some (.d (iN many)), none, none, some (.a (.ref x)), some (.a (.ref y)), some (.d (.list (zz.2.map ansD))), none, some (.a (.ref a2)), none, none, none, none]) (fun i => [(a2, ((List.range i).filter fun c => decide (contr P zz.2 c ≤ k)).map iN)])
      (fun _ c => [some (.a (.ref bx)), some (.d (histD P)), some (.d (tN S)), some (.d (iN k)), some (.d (iN many)), none, none, some (.a (.ref x)), some (.a (.ref y)), some (.d (.list (zz.2.map ansD))), none, some (.a (.ref a2)), some (.d (iN c)), none, none, none]) (js := [12]) PassesOwn.never rfl
      (ei_range (n := P.length) (elenT T.z_len (eix (en 1) ec_int (ix_t (i := 1) rfl))) T.z_range (by omega)) (fun σ H W => W.less ⟨rfl, rfl, rfl, rfl, rfl, rfl, rfl, rfl, rfl, trivial⟩) (fun G i x _ => eg_name 12 sc_law_held_out.nd) (fun G hG c t hc => ?_) ?_
    · obtain ⟨rfl, hcl⟩ := range_get hc
      refine go_if (b := decide (contr P zz.2 c ≤ k)) (ET.cast (tcmp (elenL (n := contr P zz.2 c) T.z_len (elcN (N := N_law_held_out) (sc := defScope s_law_held_out) (l := zz.2) (enc := ansD) (f := fun p => FbM.bad P p c) (g := fun _ => .int 1)
        (ρ2 := fun p => [some (.a (.ref bx)), some (.d (histD P)), some (.d (tN S)), some (.d (iN k)), some (.d (iN many)), some (.d (iN p.2)), none, some (.a (.ref x)), some (.a (.ref y)), some (.d (.list (zz.2.map ansD))), none, some (.a (.ref a2)), some (.d (iN c)), some (.d (.str (wordS p.1))), none, none]) [("_law_kind", 13), ("_law_make", 5)] sc_law_held_out.nd (by decide +kernel)
        (ei_list (en 9)) (by omega) ⟨fun s H C cl fp D acc p hp => eg_tup rfl (egs_cons (eg_name 13 sc_law_held_out.nd) (egs_cons (eg_name 5 sc_law_held_out.nd) egs_nil)), fun _ _ _ _ _ _ _ p hp => ets_one (ET.cast (tcmp (ecmp (en 13) ec_str bd_eqS) (ecall (ok_law_breaks T) hr (ea_cons (en 1) (ea_cons (en 12) (ea_cons (en 5) ea_nil))) ⟨P, c, p.2, hV, (FbM.mem_testable.mp (hsi.tst p hp)).1, rfl, rfl⟩) bd_neB) ?_), fun _ _ _ _ _ _ _ p hp _ => ec_int⟩ (hjs := by simp)) (by rw [List.length_map]; rfl)) (en 3) bd_le) (decide_eq_decide.mpr (by omega))) (fun hb => ?_) (fun hb => ?_)
      · rw [word_eq]
        unfold FbM.bad
        cases p.1 <;> cases br P c p.2 <;> rfl
      · refine go_app 11 0 (en 12) (go_end (go_nil fun σ H W => ?_)) (hl := ?_)
        · have e : (List.range (c + 1)).filter (fun c => decide (contr P zz.2 c ≤ k)) = (List.range c).filter (fun c => decide (contr P zz.2 c ≤ k)) ++ [c] := by
            rw [List.range_succ, List.filter_append]
            simp [of_decide_eq_true hb]
          rw [e, List.map_append]
          exact W.less ⟨rfl, rfl, rfl, rfl, rfl, rfl, rfl, rfl, rfl, trivial⟩
        · rw [List.length_map]
          have := List.length_filter_le (fun c => decide (contr P zz.2 c ≤ k)) (List.range c)
          rw [List.length_range] at this
          omega
      · refine go_end (go_nil fun σ H W => ?_)
        have e : (List.range (c + 1)).filter (fun c => decide (contr P zz.2 c ≤ k)) = (List.range c).filter (fun c => decide (contr P zz.2 c ≤ k)) := by
          rw [List.range_succ, List.filter_append]
          have := of_decide_eq_false hb
          simp [this]
        rw [e]
        exact W.less ⟨rfl, rfl, rfl, rfl, rfl, rfl, rfl, rfl, rfl, trivial⟩
    · rw [List.length_range]
      refine go_freeze (R1 := fun H => HR K (y :: M1) bx v digs (n + many) x kd st tl P S k many zz.1 y zz.2 H0 H) 11 a2M (fun H r => ⟨r.1.sub fun b hb => List.mem_cons_of_mem _ hb, r.2.1.sub fun b hb => List.mem_cons_of_mem _ hb, r.2.2.1.sub fun b hb => List.mem_cons_of_mem _ hb, r.2.2.2⟩) ?_
      have hcl : (canBe P zz.2 k).length ≤ 24 := by
        have := List.length_filter_le (fun c => decide (contr P zz.2 c ≤ k)) (List.range P.length)
        rw [List.length_range] at this
        have h3 : (canBe P zz.2 k).length ≤ P.length := this
        omega
      refine go_set 14 sc_law_held_out.nd (elcM 12 (l := canBe P zz.2 k) (enc := iN) (N := N_law_held_out) (sc := defScope s_law_held_out) (fun one => tN (homeM P S one)) sc_law_held_out.nd (by decide +kernel)
        (ei_list (en 11)) (fun _ _ _ _ _ _ _ one ho => ecall (ok_law_home T) hr (ea_cons (en 1) (ea_cons (en 2) (ea_cons (en 12) ea_nil))) ⟨P, S, one, hV, (FbM.mem_canBe.mp ho).1, rfl, rfl⟩) (by omega)) ?_
      have hhome : ∀ {c jj : Nat} {rr : List Nat}, (cls P S)[jj]? = some rr → c ∈ rr → homeM P S c = rr := fun {c jj rr} hj hc => by
        have hh := homeM_in (S := S) (FbM.mem_cls hj hc).1
        obtain ⟨i, hi⟩ := List.getElem?_of_mem hh.1
        have e := FbM.cls_one hi hj hh.2 hc
        subst e
        rw [hi] at hj
        exact Option.some.inj hj
      have hrq : r ≠ q2 := fun z => hij (FbM.cls_one gi gj hca (z ▸ hca))
      obtain ⟨l0, lt, hl⟩ : ∃ l0 lt, canBe P zz.2 k = l0 :: lt := by
        cases h : canBe P zz.2 k with
        | nil => rw [h] at cca; cases cca
        | cons a t => exact ⟨a, t, rfl⟩
      have hstate : stateS P zz.2 S k = "open" := by
        unfold stateS
        rw [if_neg (by rw [hl]; simp), if_neg]
        rintro ⟨rr, hrr, hall⟩
        obtain ⟨jj, hjj⟩ := List.getElem?_of_mem hrr
        have e1 := FbM.cls_one hjj gi (hall ca cca) hca
        have e2 := FbM.cls_one hjj gj (hall cb ccb) hcb
        exact hij (e1.symm.trans e2)
      have hpos : 0 < (((canBe P zz.2 k).map (homeM P S)).filter fun h => decide (h ≠ homeM P S l0)).length := by
        refine List.length_pos_iff.mpr fun z => ?_
        have z := List.filter_eq_nil_iff.mp z
        have za := z _ (List.mem_map_of_mem cca)
        have zb := z _ (List.mem_map_of_mem ccb)
        rw [hhome gi hca] at za
        rw [hhome gj hcb] at zb
        simp at za zb
        exact hrq (za.trans zb.symm)
      refine go_ret (ED.cast (eand (p := true) (q := true) (ED.cast (ecmp (emeth0 8 (ok_desk_state T) hr (by decide) List.mem_cons_self ⟨P, k, zz.2, S, _, hDk, rfl, rfl, rfl, rfl⟩ (fun _ r => r.2.2.1) rfl fun H' o => ?_).ed ec_str bd_eqS) (by rw [hstate, decide_eq_true rfl])) fun _ => eone (ED.cast (ecmp (elenL (n := (((canBe P zz.2 k).map (homeM P S)).filter fun h => decide (h ≠ homeM P S l0)).length) T.z_len (elc1 15 (l := (canBe P zz.2 k).map (homeM P S)) (enc := tN) (N := N_law_held_out) (sc := defScope s_law_held_out) (fun h => decide (h ≠ homeM P S l0)) tN sc_law_held_out.nd (by decide +kernel)
        (ei_listC (en 14) (by rw [List.map_map]; rfl)) (fun _ _ _ _ _ _ _ h hh => ets_one (ET.cast (tcmp (en 15) (eix (en 14) ec_int (ix_l (i := 0) (d := tN (homeM P S l0)) (by rw [hl]; rfl))) (bd_neD hr (sh_tN _).shaped (sh_tN _).shaped)) (by rw [eqv_tN, decide_not]))) (fun _ _ _ _ _ _ _ h _ _ => en 15) (by rw [List.length_map]; omega)) (by rw [List.length_map])) ec_int bd_gt) (by rw [decide_eq_true (by omega)]))) rfl) fun u H' r dv => q u H' ⟨r.1.sub fun b hb => List.mem_cons_of_mem _ (sub1 b hb), fun b o hb z => r.2.2.2 b o ?_ z⟩ (dat_sub dv fun b hb => List.mem_cons_of_mem _ (sub1 b hb))
      · have yn : ∀ z ∈ [bx, x, kd, st, tl], z ∉ [y] := fun z hz h => yne z hz (List.mem_singleton.mp h).symm
        have c3 : ∀ z ∈ [y], z ∈ y :: M1 := by simp
        exact (tr_box0 (yn bx (by simp)) c3).k.and (TrK.and (tr_atb0 (yn x (by simp)) (yn kd (by simp)) (yn st (by simp)) (yn tl (by simp)) c3).k (TrK.and (trk_obj (by simp) o) (tr_frS (by simp)).k))
      · intro hh
        simp at hb hh
        rcases hh with h | h | h | h | h | h
        · exact hb h
        all_goals (rw [h, hnew _ (by simp)] at z; cases z)
end
end Fb
namespace Fb
open PySem L2
open FbM (HV HL anc br above cls testable contr canBe lives rowsOf dr digI)
section
variable {X : Cx} {M : List Addr} {L : Own} {R R1 R2 : Hp → Prop} {ρ : Rho} {a b : Expr} {es : List Expr} {rest : List Stmt} {D : Ends} {pos p0 p1 p2 : Pos} {p q : Bool}
theorem EDx.wk {e : Expr} {d : PyData} (h : EDx X M L R R1 ρ e d) (k : ∀ H, R1 H → R2 H) : EDx X M L R R2 ρ e d := fun σ H S Q q => h σ H S Q fun v H2 k2 S2 d2 => q v H2 k2 (S2.wk k) d2
theorem xeor {es : List Expr} (h : ED X M L R ρ a (.bool p)) (h0 : ∀ H, R H → R1 H) (h2 : p = false → EDx X M L R R1 ρ (.BoolOp .Or (b :: es) pos) (.bool q)) : EDx X M L R R1 ρ (.BoolOp .Or (a :: b :: es) pos) (.bool (p || q)) := fun σ H S Q k =>
  ⟨_, pe_or we we, h σ H S _ fun v H1 k1 S1 d1 => by
    cases d1
    refine ⟨p, rfl, ?_⟩
    cases p with
    | false => exact iteF (h2 rfl σ H1 S1 _ fun u H2 k2 S2 d2 => k u H2 (k1.trans k2) S2 d2)
    | true => exact iteT (k _ H1 k1 (S1.wk h0) (.bl true))⟩
theorem xeone {op} {d : PyData} (h : EDx X M L R R1 ρ a d) : EDx X M L R R1 ρ (.BoolOp op [a] pos) d := fun σ H S Q q => ⟨_, pe_one we, h σ H S _ q⟩
/-- box = [_law_digits(script, 0, 63), 0] -/
theorem go_newbox (i is : Nat) {x xs : Str} {sp : Addr} {ns : List Int} {lp cp : Pos} {n1 n2 n3} {c1 c2 c3 fp : Pos} {k j : Nat} (c : Cal X.prog X.w X.K X.mg X.base k "_law_digits" (spDigits X.K)) (hr : Room j X.A) (hk : k ≤ j) (hN : X.N.Nodup) (hR : ∀ H, R H → SqL X.K H sp (ns.map V.int))
    (g : ∀ bx v Hb, bx ∉ M → Go X rest D (bx :: M) [] (fun H => Box (bx :: M) bx v (digI ns 63) 0 H ∧ Fr [bx] Hb H) (ρ.set i (some (.a (.ref bx)))))
    (hbs : ρ[is]? = some (some (.a (.ref sp))) := by rfl) (hNs : X.N[is]? = some xs := by rfl) (hvs : Vis X.env.scope xs := by first | exact Or.inl rfl | exact Or.inr (Or.inl rfl) | exact Or.inr (Or.inr rfl)) (hds : (xs == ("__debug__" : Str)) = false := by decide) (hcs : (xs == ("__classdict__" : Str)) = false := by decide)
    (hi : X.N[i]? = some x := by rfl) (hx : Loc X.env.scope x := by first | exact Or.inl rfl | exact Or.inr rfl) (hg : Gl X "_law_digits" := by rfl)
    (hst : starEach [.Name xs p1, .Constant (.int 0) n1 c1, .Constant (.int 63) n2 c2] X.env = (false, eval (.Name xs p1) X.env) :: starEach [.Constant (.int 0) n1 c1, .Constant (.int 63) n2 c2] X.env := by rfl)
    (hst2 : starEach [.Constant (.int 0) n1 c1, .Constant (.int 63) n2 c2] X.env = (false, eval (.Constant (.int 0) n1 c1) X.env) :: starEach [.Constant (.int 63) n2 c2] X.env := by rfl) (hst3 : starEach [.Constant (.int 63) n2 c2] X.env = (false, eval (.Constant (.int 63) n2 c2) X.env) :: starEach [] X.env := by rfl)
    (hpl : (backTo cp (starEach [.Constant (.int 0) n1 c1, .Constant (.int 63) n2 c2] X.env)).any (·.1) = false := by rfl)
    (hl1 : starEach [.Call (.Name "_law_digits" fp) [.Name xs p1, .Constant (.int 0) n1 c1, .Constant (.int 63) n2 c2] [] cp, .Constant (.int 0) n3 c3] X.env = (false, eval (.Call (.Name "_law_digits" fp) [.Name xs p1, .Constant (.int 0) n1 c1, .Constant (.int 63) n2 c2] [] cp) X.env) :: starEach [.Constant (.int 0) n3 c3] X.env := by rfl)
    (hl2 : starEach [.Constant (.int 0) n3 c3] X.env = (false, eval (.Constant (.int 0) n3 c3) X.env) :: starEach [] X.env := by rfl)
    (hs : swapsWith (.List [.Call (.Name "_law_digits" fp) [.Name xs p1, .Constant (.int 0) n1 c1, .Constant (.int 63) n2 c2] [] cp, .Constant (.int 0) n3 c3] lp) (some (.Name x p0)) pos.line X.env = pure false := by rfl) (hf : X.fn x = true ∨ X.env.scope.names.lookup x = some .local := by first | exact .inl rfl | exact .inr rfl) :
    Go X (.Assign [.Name x p0] (.List [.Call (.Name "_law_digits" fp) [.Name xs p1, .Constant (.int 0) n1 c1, .Constant (.int 63) n2 c2] [] cp, .Constant (.int 0) n3 c3] lp) pos :: rest) D M [] R ρ := fun σ H S =>
  wb_cons (ps_set hN hi hx (pe_lst (pa_cons (pe_c c hr hk hg (pa_cons (pe_var hNs hvs hds hcs) (pa_cons pe_int (pa_cons pe_int pa_nil hst3) hst2) hst) (by decide) hst hpl) (pa_cons pe_int pa_nil hl2) hl1)) hs hf) ⟨.ref sp, S.valOf hbs, M, sp, ns, S.al, rfl, hR H S.r0, fun v H' sm dv => ⟨by show 2 ≤ sizeLine; rw [sizeLine_eq]; omega, fun bx nb => by
    have S1 := S.mono sm
    have bM : bx ∉ M := fun z => S1.al bx z nb
    have S2 : Sto (bx :: M) [] (fun _ => True) ρ σ (upd H' bx (.lst [v, .int 0])) := S1.born nb (by rw [upd_same]; simp) (fr_upd (by simp)) fun _ _ _ _ _ _ => trivial
    have dl := FbM.digI_len ns 63
    refine g bx v (upd H' bx (.lst [v, .int 0])) bM _ _ ((S2.set (i := i) (b := .a (.ref bx)) rfl).know rfl fun H2 s2 => ⟨⟨s2 _ _ upd_same, dp_same ((new_keep nb).trans (same_keep s2)) dv, by omega⟩, fr_same s2⟩)⟩⟩
end
def spLaw (K : PySem.W.Frag) : Sp := fun vs H Q _ => ∃ (a : Addr) (ns : List Int), vs = [.ref a] ∧ SqL K H a (ns.map V.int) ∧ ∀ H', Q (.bl true) H'
theorem min_cast (k : Nat) : PyData.int (min ((k : Nat) : Int) 1) = iN (min k 1) := congrArg PyData.int (by omega)
theorem max_cast (k : Nat) : PyData.int (max 1 ((k : Nat) : Int)) = iN (max 1 k) := congrArg PyData.int (by omega)
theorem sub_cast {k : Nat} (h : 1 ≤ k) : PyData.int ((k : Nat) - 1) = iN (k - 1) := congrArg PyData.int (by omega)
theorem pow_le {k N : Nat} (h : (N ≤ 4 ∧ k ≤ 2) ∨ (N ≤ 6 ∧ k ≤ 1)) : (k + 2) ^ N ≤ 20000 ∧ N * (k + 1) ≤ 12 := by
  rcases h with ⟨h1, h2⟩ | ⟨h1, h2⟩
  · constructor
    · exact Nat.le_trans (Nat.pow_le_pow_left (by omega : k + 2 ≤ 4) N) (Nat.le_trans (Nat.pow_le_pow_right (by decide) h1) (by decide))
    · exact Nat.le_trans (Nat.mul_le_mul h1 (by omega : k + 1 ≤ 3)) (by decide)
  · constructor
    · exact Nat.le_trans (Nat.pow_le_pow_left (by omega : k + 2 ≤ 3) N) (Nat.le_trans (Nat.pow_le_pow_right (by decide) h1) (by decide))
    · exact Nat.le_trans (Nat.mul_le_mul h1 (by omega : k + 1 ≤ 2)) (by decide)
section
variable {Pg : Program} {w : World} {K : PySem.W.Frag} {mg : Str → Option Value} {base : Heap}
theorem dom_of {P : List (List Nat)} {S : List Nat} {k : Nat} (hL : HL P) (h6 : P.length ≤ 6) (hS : S.Pairwise (· < ·)) (hSl : ∀ x ∈ S, x < P.length) (hk : k ≤ 2) (hk2 : 4 < (cls P S).length → k ≤ 1) : Dom P S k := by
  have hC := FbM.cls_le (P := P) (S := S)
  obtain ⟨p1, p2⟩ := pow_le (k := k) (N := (cls P S).length) (by
    by_cases h : 4 < (cls P S).length
    · exact .inr ⟨by omega, hk2 h⟩
    · exact .inl ⟨by omega, hk⟩)
  refine ⟨hL, hS, hSl, by omega, ⟨⟨List.length_replicate .., fun x hx => ?_⟩, p1, ?_⟩⟩
  · have := (List.mem_replicate.mp hx).2
    omega
  · rw [FbM.lives_rep]; exact p2
theorem law_body (T : Txt K mg) (cdv : Value) (A : Around) (outer : List Env) (s : Shared) (H : Hp) (vs : List V) (Q : VK) (E : XK) (hr : Room 20 (A.deeper (PyProof.Rows.envOfC "law" (defScope s_law) s.heap.objs.size (He.ga K "law") cdv))) (h : spLaw K vs H Q E) :
    WB (cx Pg w K mg base N_law "law" s_law (He.ga K "law") cdv A outer s H E) (defBody s_law) { nx := fun _ H' => Q .non H', rt := Q } (L2.start N_law vs) H := by
  obtain ⟨sp, ns, rfl, hS, q⟩ := h
  refine (?_ : Go _ _ _ [] [] (fun H' => SqL K H' sp (ns.map V.int)) [some (.a (.ref sp)), none, none, none, none, none, none, none, none, none]) _ _
    (stoB (N := N_law) (bs := [.a (.ref sp)]) (by simp) rfl (fun i c hc => by
      match i, hc with
      | 0, hc => cases hc; exact ⟨.ref sp, rfl, rfl⟩) fun H' s' => same_l s' hS)
  refine go_newbox 1 0 (ok_law_digits T) hr (by decide) sc_law.nd (fun _ r => r) fun bx v Hb _ => ?_
  generalize hdg : digI ns 63 = digs
  have hbM : bx ∈ [bx] := by simp
  -- the history
  refine xgo_set 2 sc_law.nd (xbox 1 (ok_law_history T) hr (by decide) (ea_cons ec_int ea_nil) ⟨6, by decide, by decide, rfl, rfl, rfl⟩ (fun _ h => h) hbM (by simp) (fun _ _ h => h) (fun _ r => r.1) (trb_self hbM)) ?_
  have hmany := FbM.dr_lt (ds := digs) (n := 0) (many := 6) (by decide)
  have hPl : (histM digs 0 6).1.length = 1 + dr digs 0 6 := (FbM.hI_ok digs 1 (1 + dr digs 0 6) (1 + dr digs 0 6)).len
  have hL : HL (histM digs 0 6).1 := FbM.hI_HL (by omega) (by omega)
  generalize histM digs 0 6 = hist at *
  obtain ⟨P, _, n1⟩ := hist
  have hPl : P.length = 1 + dr digs 0 6 := hPl
  have hL : HL P := hL
  have hV := hL.toHV
  have h6 : P.length ≤ 6 := by omega
  -- what is skipped
  refine xgo_set 3 sc_law.nd (xbox 1 (ok_law_skips T) hr (by decide) (ea_cons (en 2) ea_nil) ⟨P, by omega, rfl, rfl, rfl⟩ (fun _ h => h) hbM (by simp) (fun _ _ h => h) (fun _ r => r.1) (trb_self hbM)) ?_
  have hS : (skipM digs n1 P.length).Pairwise (· < ·) := (FbM.range_sorted _).filter _
  have hSl : ∀ x ∈ skipM digs n1 P.length, x < P.length := fun x hx => List.mem_range.mp (List.mem_filter.mp hx).1
  generalize skipM digs n1 P.length = S at *
  -- the lies
  refine xgo_set 4 sc_law.nd (xbox 1 (ok_law_draw T) hr (by decide) (ea_cons ec_int ea_nil) ⟨3, by decide, rfl, rfl, rfl⟩ (fun _ h => h) hbM (by simp) (fun _ _ h => h) (fun _ r => r.1) (trb_self hbM)) ?_
  have hk3 := FbM.dr_lt (ds := digs) (n := n1 + P.length) (many := 3) (by decide)
  generalize dr digs (n1 + P.length) 3 = k0 at *
  have hC := FbM.cls_le (P := P) (S := S)
  refine go_ifJ (ρ' := [some (.a (.ref sp)), some (.a (.ref bx)), some (.d (histD P)), some (.d (tN S)), some (.d (iN (if 4 < (cls P S).length then min k0 1 else k0))), none, none, none, none, none]) (q := decide (4 < (cls P S).length))
    (ET.cast (tcmp (elenL (n := (cls P S).length) T.z_len (ecall (ok_law_classes T) hr (ea_cons (en 2) (ea_cons (en 3) ea_nil)) ⟨P, S, hV, rfl, rfl⟩)) ec_int bd_gt) (decide_eq_decide.mpr (by omega))) (fun hq kk hkk => ?_) (fun hq kk hkk => ?_) ?_
  · have hq := of_decide_eq_true hq
    rw [if_pos hq] at hkk
    exact go_set 4 sc_law.nd (d := iN (min k0 1)) (ED.cast (ecallB (id := "min") (cd_min2 (i := (k0 : Nat)) (j := 1) rfl) T.z_min (ea_cons (en 4) (ea_cons ec_int ea_nil))) (min_cast k0)) (go_nil fun σ H W => hkk σ H (W.less ⟨rfl, rfl, rfl, rfl, rfl, trivial⟩))
  · have hq := of_decide_eq_false hq
    rw [if_neg hq] at hkk
    exact go_nil fun σ H W => hkk σ H (W.less ⟨rfl, rfl, rfl, rfl, rfl, trivial⟩)
  have hD : Dom P S (if 4 < (cls P S).length then min k0 1 else k0) := dom_of hL h6 hS hSl (by split <;> omega) fun h => by rw [if_pos h]; omega
  generalize (if 4 < (cls P S).length then min k0 1 else k0) = k at *
  have hv0 := FbM.value_nonneg (FbM.rows_parts (P := P) (S := S)) (s := List.replicate (cls P S).length (k : Int)) (List.length_replicate ..)
  have hv1 := FbM.value_le_lives (FbM.rows_parts (P := P) (S := S)) _ (List.replicate (cls P S).length (k : Int)) (List.length_replicate ..) (Nat.le_refl _)
  have hlv := hD.beg.lives
  obtain ⟨most, hmost⟩ : ∃ most : Nat, FbM.value (rowsOf P S) (List.replicate (cls P S).length (k : Int)) = (most : Int) := ⟨_, (Int.toNat_of_nonneg hv0).symm⟩
  have hm12 : most ≤ 12 := by omega
  refine go_set 5 sc_law.nd (d := iN most) (ED.cast (ecall (ok_fewest T) hr (ea_cons (en 2) (ea_cons (en 3) (ea_cons (en 4) ea_nil))) ⟨P, S, k, hV, hD.beg, rfl, rfl⟩) (by rw [hmost])) ?_
  -- three times found
  refine go_forR (l := List.range 3) (enc := iN) (fun i H' => Box [bx] bx v digs (n1 + P.length + 1 + i * (1 + k)) H' ∧ Fr [bx] Hb H') (fun _ => [some (.a (.ref sp)), some (.a (.ref bx)), some (.d (histD P)), some (.d (tN S)), some (.d (iN k)), some (.d (iN most)), none, none, none, none]) (fun _ => [])
    (fun _ t => [some (.a (.ref sp)), some (.a (.ref bx)), some (.d (histD P)), some (.d (tN S)), some (.d (iN k)), some (.d (iN most)), some (.d (iN t)), none, none, none]) (js := [6]) PassesOwn.never rfl
    (ei_range (n := 3) ec_int T.z_range (by decide)) (fun σ H W => W.lw ⟨rfl, rfl, rfl, rfl, rfl, rfl, trivial⟩ fun _ r => by rw [Nat.zero_mul, Nat.add_zero]; exact r) (fun G i x _ => eg_name 6 sc_law.nd) (fun G hG i t hx => ?_) ?_
  · obtain ⟨rfl, hi⟩ := range_get hx
    have kG : ∀ H1 H2, G H1 → (∀ b, b ∉ [bx] → H1 b = H2 b) → G H2 := fun H1 H2 g e => hG H1 H2 (keep_off (C := [bx]) (by simp) e) g
    have enn0 : n1 + P.length + 1 + (i + 1) * (1 + k) = n1 + P.length + 1 + i * (1 + k) + (1 + k) := by rw [Nat.succ_mul]; omega
    generalize n1 + P.length + 1 + i * (1 + k) = nn at *
    have ht := FbM.dr_lt (ds := digs) (n := nn) (many := P.length) (by omega)
    refine xgo_set (R1 := fun H' => (Box [bx] bx v digs (nn + 1) H' ∧ Fr [bx] Hb H') ∧ G H') 7 sc_law.nd (xbox 1 (ok_law_draw T) hr (by decide) (ea_cons (elenT (n := P.length) T.z_len (eix (en 2) ec_int (ix_t (i := 1) rfl))) ea_nil) ⟨P.length, by omega, rfl, rfl, rfl⟩ (fun _ h => h) hbM (by simp) (fun _ _ h => h) (fun _ r => r.1.1) fun H' e => (trb_self hbM H' e).and fun H1 H2 g a1 _ => kG H1 H2 g a1) ?_
    refine go_setLcR 9 8 (l := List.range k) (enc := iN) (N := N_law) (sc := defScope s_law) (fun j H' => (Box [bx] bx v digs (nn + 1 + j) H' ∧ Fr [bx] Hb H') ∧ G H') (fun j H' => (Box [bx] bx v digs (nn + 1 + j) H' ∧ Fr [bx] Hb H') ∧ G H') (fun _ => true) (fun j => iN (dr digs (nn + 1 + j) (max 1 most))) sc_law.nd (by decide +kernel)
      (ei_range (n := k) (en 4) T.z_range (by have := hD.k2; omega)) (fun _ r => r) (fun _ _ _ _ _ D _ j x hD' hx => etsx_nil) (fun _ _ _ _ _ D _ j x hD' hx _ => ?_) (fun j x _ z => nomatch z) (by rw [List.length_range]; have := hD.k2; omega) ?_
    · obtain ⟨rfl, _⟩ := range_get hx
      exact xbox 1 (ok_law_draw T) hr (by decide) (ea_cons (ED.cast (ecallB (id := "max") (cd_max2 (i := 1) (j := (most : Nat)) rfl) T.z_max (ea_cons ec_int (ea_cons (en 5) ea_nil))) (max_cast most)) ea_nil) ⟨max 1 most, by omega, rfl, rfl, rfl⟩ (fun _ h => List.mem_cons_of_mem _ h) hbM (by simpa using fun z : bx = D => hD' (by simp [z])) (fun _ _ h => dp_scl h rfl) (fun _ r => r.1.1) fun H' e => (trb_self hbM H' e).and fun H1 H2 g a1 _ => kG H1 H2 g a1
    · have el : PyData.list (((List.range k).filter fun _ => true).map fun j => iN (dr digs (nn + 1 + j) (max 1 most))) = lN ((List.range k).map fun j => dr digs (nn + 1 + j) (max 1 most)) := by
        rw [List.filter_eq_self.mpr fun _ _ => rfl, lN, List.map_map]; rfl
      rw [el, List.length_range]
      refine go_skip (tnot (p := true) (tval (ecall (ok_law_found T) hr (ea_cons (en 2) (ea_cons (en 3) (ea_cons (en 4) (ea_cons (en 7) (ea_cons (en 9) (ea_cons (en 5) ea_nil)))))) ⟨P, S, k, dr digs nn P.length, _, most, hD, ht, by rw [List.length_map, List.length_range]; exact Nat.le_refl _, hmost, hm12, rfl, rfl⟩))) ?_
      refine go_nil fun σ H W => ?_
      rw [enn0]
      exact W.lw ⟨rfl, rfl, rfl, rfl, rfl, rfl, trivial⟩ fun _ r => by rw [← Nat.add_assoc]; exact r
  · refine xgo_ret (R1 := fun _ => True) (d := .bool true) (EDx.cast (xeor (p := decide (most = 0)) (q := true) (ED.cast (ecmp (en 5) ec_int bd_eqI) (congrArg PyData.bool (decide_eq_decide.mpr (by omega)))) (fun _ _ => trivial) (fun h0 => xeone (EDx.wk (xbox 1 (ok_law_held_out T) hr (by decide) (ea_cons (en 2) (ea_cons (en 3) (ea_cons (en 4) (ea_cons (ED.cast (eb (en 5) ec_int bd_sub) (d' := iN (most - 1)) ?_) ea_nil)))) ⟨P, S, k, most - 1, hD, ?_, by omega, rfl, rfl, rfl⟩ (fun _ h => h) hbM (by simp) (fun _ _ h => h) (fun _ r => r.1) (trb_self hbM)) fun _ _ => trivial))) (by rw [Bool.or_true])) fun v H' _ dv => ?_
    · have := of_decide_eq_false h0
      exact sub_cast (by omega)
    · have := of_decide_eq_false h0
      rw [hmost]; omega
    · cases dv
      exact q H'
end
end Fb
set_option maxHeartbeats 0
namespace Fb
open PySem PySem.Spec PyProof.Rows L2
abbrev FnP (K : PySem.W.Frag) (x q : Str) (st : Stmt) (f : Addr) (fd : FuncData) : Prop := FunD K x q (defArgs st) (defBody st) (defScope st) [] [] f fd
def d_is_index : He.DefD := ⟨("is_index", none), "is_index", "is_index", defArgs s_is_index, defBody s_is_index, defScope s_is_index, [], []⟩
def d_is_name : He.DefD := ⟨("is_name", none), "is_name", "is_name", defArgs s_is_name, defBody s_is_name, defScope s_is_name, [], []⟩
def d_has_shape : He.DefD := ⟨("has_shape", none), "has_shape", "has_shape", defArgs s_has_shape, defBody s_has_shape, defScope s_has_shape, [], []⟩
def d_are_parents : He.DefD := ⟨("are_parents", none), "are_parents", "are_parents", defArgs s_are_parents, defBody s_are_parents, defScope s_are_parents, [], []⟩
def d_check_ends : He.DefD := ⟨("check_ends", none), "check_ends", "check_ends", defArgs s_check_ends, defBody s_check_ends, defScope s_check_ends, [], []⟩
def d_check_last : He.DefD := ⟨("check_last", none), "check_last", "check_last", defArgs s_check_last, defBody s_check_last, defScope s_check_last, [], []⟩
def d_check_history : He.DefD := ⟨("check_history", none), "check_history", "check_history", defArgs s_check_history, defBody s_check_history, defScope s_check_history, [], []⟩
def d_ancestors : He.DefD := ⟨("ancestors", none), "ancestors", "ancestors", defArgs s_ancestors, defBody s_ancestors, defScope s_ancestors, [], []⟩
def d_testable : He.DefD := ⟨("testable", none), "testable", "testable", defArgs s_testable, defBody s_testable, defScope s_testable, [], []⟩
def d_classes : He.DefD := ⟨("classes", none), "classes", "classes", defArgs s_classes, defBody s_classes, defScope s_classes, [], []⟩
def d_broken_by : He.DefD := ⟨("broken_by", none), "broken_by", "broken_by", defArgs s_broken_by, defBody s_broken_by, defScope s_broken_by, [], []⟩
def d_tests : He.DefD := ⟨("tests", none), "tests", "tests", defArgs s_tests, defBody s_tests, defScope s_tests, [], []⟩
def d_start : He.DefD := ⟨("start", none), "start", "start", defArgs s_start, defBody s_start, defScope s_start, [], []⟩
def d_lowered : He.DefD := ⟨("lowered", none), "lowered", "lowered", defArgs s_lowered, defBody s_lowered, defScope s_lowered, [], []⟩
def d_against_row : He.DefD := ⟨("against_row", none), "against_row", "against_row", defArgs s_against_row, defBody s_against_row, defScope s_against_row, [], []⟩
def d_check_size : He.DefD := ⟨("check_size", none), "check_size", "check_size", defArgs s_check_size, defBody s_check_size, defScope s_check_size, [], []⟩
def d_rows_of : He.DefD := ⟨("rows_of", none), "rows_of", "rows_of", defArgs s_rows_of, defBody s_rows_of, defScope s_rows_of, [], []⟩
def d_ones_in : He.DefD := ⟨("ones_in", none), "ones_in", "ones_in", defArgs s_ones_in, defBody s_ones_in, defScope s_ones_in, [], []⟩
def d_is_useful : He.DefD := ⟨("is_useful", none), "is_useful", "is_useful", defArgs s_is_useful, defBody s_is_useful, defScope s_is_useful, [], []⟩
def d_both_after : He.DefD := ⟨("both_after", none), "both_after", "both_after", defArgs s_both_after, defBody s_both_after, defScope s_both_after, [], []⟩
def d_value : He.DefD := ⟨("value", none), "value", "value", defArgs s_value, defBody s_value, defScope s_value, [], []⟩
def d_fewest_from : He.DefD := ⟨("fewest_from", none), "fewest_from", "fewest_from", defArgs s_fewest_from, defBody s_fewest_from, defScope s_fewest_from, [], []⟩
def d_fewest : He.DefD := ⟨("fewest", none), "fewest", "fewest", defArgs s_fewest, defBody s_fewest, defScope s_fewest, [], []⟩
def d_contradictions : He.DefD := ⟨("contradictions", none), "contradictions", "contradictions", defArgs s_contradictions, defBody s_contradictions, defScope s_contradictions, [], []⟩
def d_can_be : He.DefD := ⟨("can_be_answers", none), "can_be", "can_be", defArgs s_can_be, defBody s_can_be, defScope s_can_be, [], []⟩
def d_is_integer : He.DefD := ⟨("is_integer", none), "is_integer", "is_integer", defArgs s_is_integer, defBody s_is_integer, defScope s_is_integer, [], []⟩
def d_is_shaped : He.DefD := ⟨("is_shaped", none), "is_shaped", "is_shaped", defArgs s_is_shaped, defBody s_is_shaped, defScope s_is_shaped, [], []⟩
def d_best_row : He.DefD := ⟨("best_row", none), "best_row", "best_row", defArgs s_best_row, defBody s_best_row, defScope s_best_row, [], []⟩
def d_tree_of : He.DefD := ⟨("tree_of", none), "tree_of", "tree_of", defArgs s_tree_of, defBody s_tree_of, defScope s_tree_of, [], []⟩
def d_best_tree : He.DefD := ⟨("best_tree", none), "best_tree", "best_tree", defArgs s_best_tree, defBody s_best_tree, defScope s_best_tree, [], []⟩
def d_law_cell : He.DefD := ⟨("_law_cell", none), "_law_cell", "_law_cell", defArgs s_law_cell, defBody s_law_cell, defScope s_law_cell, [], []⟩
def d_law_digits : He.DefD := ⟨("_law_digits", none), "_law_digits", "_law_digits", defArgs s_law_digits, defBody s_law_digits, defScope s_law_digits, [], []⟩
def d_law_draw : He.DefD := ⟨("_law_draw", none), "_law_draw", "_law_draw", defArgs s_law_draw, defBody s_law_draw, defScope s_law_draw, [], []⟩
def d_law_pick : He.DefD := ⟨("_law_pick", none), "_law_pick", "_law_pick", defArgs s_law_pick, defBody s_law_pick, defScope s_law_pick, [], []⟩
def d_law_parents : He.DefD := ⟨("_law_parents", none), "_law_parents", "_law_parents", defArgs s_law_parents, defBody s_law_parents, defScope s_law_parents, [], []⟩
def d_law_history : He.DefD := ⟨("_law_history", none), "_law_history", "_law_history", defArgs s_law_history, defBody s_law_history, defScope s_law_history, [], []⟩
def d_law_above : He.DefD := ⟨("_law_above", none), "_law_above", "_law_above", defArgs s_law_above, defBody s_law_above, defScope s_law_above, [], []⟩
def d_law_breaks : He.DefD := ⟨("_law_breaks", none), "_law_breaks", "_law_breaks", defArgs s_law_breaks, defBody s_law_breaks, defScope s_law_breaks, [], []⟩
def d_law_skips : He.DefD := ⟨("_law_skips", none), "_law_skips", "_law_skips", defArgs s_law_skips, defBody s_law_skips, defScope s_law_skips, [], []⟩
def d_law_classes : He.DefD := ⟨("_law_classes", none), "_law_classes", "_law_classes", defArgs s_law_classes, defBody s_law_classes, defScope s_law_classes, [], []⟩
def d_law_name : He.DefD := ⟨("_law_name", none), "_law_name", "_law_name", defArgs s_law_name, defBody s_law_name, defScope s_law_name, [], []⟩
def d_law_new_desk : He.DefD := ⟨("_law_new_desk", none), "_law_new_desk", "_law_new_desk", defArgs s_law_new_desk, defBody s_law_new_desk, defScope s_law_new_desk, [], []⟩
def d_law_home : He.DefD := ⟨("_law_home", none), "_law_home", "_law_home", defArgs s_law_home, defBody s_law_home, defScope s_law_home, [], []⟩
def d_law_found : He.DefD := ⟨("_law_found", none), "_law_found", "_law_found", defArgs s_law_found, defBody s_law_found, defScope s_law_found, [], []⟩
def d_law_held_out : He.DefD := ⟨("_law_held_out", none), "_law_held_out", "_law_held_out", defArgs s_law_held_out, defBody s_law_held_out, defScope s_law_held_out, [], []⟩
def d_law : He.DefD := ⟨("law", none), "law", "law", defArgs s_law, defBody s_law, defScope s_law, [], []⟩
def d_Answerer_init : He.DefD := ⟨("Answerer", some "__init__"), "__init__", "Answerer.__init__", defArgs s_Answerer_init, defBody s_Answerer_init, defScope s_Answerer_init, [], []⟩
def d_Answerer_test : He.DefD := ⟨("Answerer", some "test"), "test", "Answerer.test", defArgs s_Answerer_test, defBody s_Answerer_test, defScope s_Answerer_test, [], []⟩
def d_Desk_init : He.DefD := ⟨("Desk", some "__init__"), "__init__", "Desk.__init__", defArgs s_Desk_init, defBody s_Desk_init, defScope s_Desk_init, [], []⟩
def d_Desk_answers : He.DefD := ⟨("Desk", some "answers"), "answers", "Desk.answers", defArgs s_Desk_answers, defBody s_Desk_answers, defScope s_Desk_answers, [], []⟩
def d_Desk_make_of : He.DefD := ⟨("Desk", some "make_of"), "make_of", "Desk.make_of", defArgs s_Desk_make_of, defBody s_Desk_make_of, defScope s_Desk_make_of, [], []⟩
def d_Desk_come : He.DefD := ⟨("Desk", some "come"), "come", "Desk.come", defArgs s_Desk_come, defBody s_Desk_come, defScope s_Desk_come, [], []⟩
def d_Desk_turn : He.DefD := ⟨("Desk", some "turn"), "turn", "Desk.turn", defArgs s_Desk_turn, defBody s_Desk_turn, defScope s_Desk_turn, [], []⟩
def d_Desk_do : He.DefD := ⟨("Desk", some "do"), "do", "Desk.do", defArgs s_Desk_do, defBody s_Desk_do, defScope s_Desk_do, [], []⟩
def d_Desk_left : He.DefD := ⟨("Desk", some "left"), "left", "Desk.left", defArgs s_Desk_left, defBody s_Desk_left, defScope s_Desk_left, [], []⟩
def d_Desk_can_be : He.DefD := ⟨("Desk", some "can_be"), "can_be", "Desk.can_be", defArgs s_Desk_can_be, defBody s_Desk_can_be, defScope s_Desk_can_be, [], []⟩
def d_Desk_state : He.DefD := ⟨("Desk", some "state"), "state", "Desk.state", defArgs s_Desk_state, defBody s_Desk_state, defScope s_Desk_state, [], []⟩
def fn : List He.DefD := [d_is_index, d_is_name, d_has_shape, d_are_parents, d_check_ends, d_check_last, d_check_history, d_ancestors, d_testable, d_classes, d_broken_by, d_tests, d_start, d_lowered, d_against_row, d_check_size, d_rows_of, d_ones_in, d_is_useful, d_both_after, d_value, d_fewest_from, d_fewest, d_contradictions, d_can_be, d_is_integer, d_is_shaped, d_best_row, d_tree_of, d_best_tree, d_law_cell, d_law_digits, d_law_draw, d_law_pick, d_law_parents, d_law_history, d_law_above, d_law_breaks, d_law_skips, d_law_classes, d_law_name, d_law_new_desk, d_law_home, d_law_found, d_law_held_out, d_law, d_Answerer_init, d_Answerer_test, d_Desk_init, d_Desk_answers, d_Desk_make_of, d_Desk_come, d_Desk_turn, d_Desk_do, d_Desk_left, d_Desk_can_be, d_Desk_state]
def fa0 : List He.Fa := [.glo "is_index", .glo "is_name", .glo "has_shape", .glo "are_parents", .glo "check_ends", .glo "check_last", .glo "check_history", .glo "ancestors", .glo "testable", .glo "classes", .glo "broken_by", .glo "tests", .glo "start", .glo "lowered", .glo "against_row", .glo "check_size", .glo "rows_of", .glo "ones_in", .glo "is_useful", .glo "both_after", .glo "value", .glo "fewest_from", .glo "fewest", .glo "contradictions", .glo "can_be_answers", .glo "is_integer", .glo "is_shaped", .glo "best_row", .glo "tree_of", .glo "best_tree"]
def fa1 : List He.Fa := [.glo "_law_cell", .glo "_law_digits", .glo "_law_draw", .glo "_law_pick", .glo "_law_parents", .glo "_law_history", .glo "_law_above", .glo "_law_breaks", .glo "_law_skips", .glo "_law_classes", .glo "_law_name", .glo "_law_new_desk", .glo "_law_home", .glo "_law_found", .glo "_law_held_out", .glo "law", .glo "Answerer", .glo "Desk", .glo "RULES", .free "len", .free "isinstance", .free "range", .free "all", .free "max", .free "min", .free "sorted", .free "tuple", .free "int", .free "set", .free "str"]
def fa2 : List He.Fa := [.free "bool", .int "MOST_MAKES" 24, .int "MOST_PARENTS" 4, .int "MOST_STATES" 20000, .int "MOST_ANSWERS" 200, .int "MOST_DEEDS" 2000, .int "MOST_DEPTH" 14, .str "LETTERS" "abcdefghijklmnopqrstuvwxyz", .cls "Answerer", .mkr "Answerer", .noat "Answerer" "history", .noat "Answerer" "skipped", .noat "Answerer" "found", .noat "Answerer" "rows", .noat "Answerer" "known", .noat "Answerer" "states", .noat "Answerer" "told", .cls "Desk", .mkr "Desk", .noat "Desk" "known", .noat "Desk" "names", .noat "Desk" "rows", .noat "Desk" "away", .noat "Desk" "number", .noat "Desk" "deeds", .meth "Answerer" "test", .meth "Desk" "answers", .meth "Desk" "make_of", .meth "Desk" "come", .meth "Desk" "turn"]
def fa3 : List He.Fa := [.meth "Desk" "do", .meth "Desk" "left", .meth "Desk" "can_be", .meth "Desk" "state"]
def fa : List He.Fa := fa0 ++ fa1 ++ fa2 ++ fa3
def ex (K : PySem.W.Frag) : Bool := He.tupB K "RULES" [.str "all", .str "two", .str "one"]
abbrev R : PySem.W.OpenRow := PySem.W.OpenLaw.row PySem.Challenge.rw_firstbreak_k11_whole_found_in_the_fewest
abbrev hk : PySem.W.Hook := He.hookX 5 fa fn [] [] ex
def ob (s : PySem.W.SharedT) : He.AlX := He.obsX 5 fa fn [] [] ex (HandSHeadRun.getT s)
theorem ob_eq (s : PySem.W.SharedT) : ob s = hk.obs s.abs := He.obsX_eq (HandSHeadRun.getT_eq s)
def loose0 : List PySem.Str := ["_wall", "BreakError", "BadHistory", "BadAnswer", "BadState", "TooGreat", "MOST_MAKES", "MOST_PARENTS", "LETTERS", "is_index", "is_name", "has_shape", "are_parents", "check_ends", "check_last", "check_history", "ancestors", "testable", "classes", "broken_by", "tests", "start", "lowered", "against_row", "MOST_STATES", "check_size", "rows_of", "ones_in", "is_useful", "both_after"]
def loose1 : List PySem.Str := ["value", "fewest_from", "fewest", "Answerer", "contradictions", "can_be", "can_be_answers", "counts_of", "settled", "agrees", "can_be_by_make", "MOST_ANSWERS", "MOST_DEEDS", "RULES", "is_integer", "is_shaped", "Desk", "MOST_DEPTH", "best_row", "tree_of", "best_tree", "_law_cell", "_law_digits", "_law_draw", "_law_pick", "_law_parents", "_law_history", "_law_above", "_law_breaks", "_law_skips"]
def loose2 : List PySem.Str := ["_law_classes", "_law_name", "_law_new_desk", "_law_home", "_law_found", "_law_held_out"]
def loose : List PySem.Str := loose0 ++ loose1 ++ loose2
abbrev qv : Program := PySem.W.view R.prog [77]
theorem run (w : World) : HandSHeadRun.RunEq R qv hk ob 6000 loose w := by
  intro os
  kernel_rfl
end Fb
set_option maxHeartbeats 0
namespace Fb
open PySem PySem.Spec PyProof.Rows L2
theorem txt_of {K : PySem.W.Frag} {h : Heap} {mg : Str → Option Value} {w : World} (X : K.In h) (G : h.Ns mainGlobals mg) (c : He.SaysX fa fn [] [] ex w h K) : Txt K mg := ⟨
  c.t.d.def_ 0 (d := d_is_index) rfl,
  He.glo_ok X G (c.t.d.fact 0 (f := .glo "is_index") rfl),
  c.t.d.def_ 1 (d := d_is_name) rfl,
  He.glo_ok X G (c.t.d.fact 1 (f := .glo "is_name") rfl),
  c.t.d.def_ 2 (d := d_has_shape) rfl,
  He.glo_ok X G (c.t.d.fact 2 (f := .glo "has_shape") rfl),
  c.t.d.def_ 3 (d := d_are_parents) rfl,
  He.glo_ok X G (c.t.d.fact 3 (f := .glo "are_parents") rfl),
  c.t.d.def_ 4 (d := d_check_ends) rfl,
  He.glo_ok X G (c.t.d.fact 4 (f := .glo "check_ends") rfl),
  c.t.d.def_ 5 (d := d_check_last) rfl,
  He.glo_ok X G (c.t.d.fact 5 (f := .glo "check_last") rfl),
  c.t.d.def_ 6 (d := d_check_history) rfl,
  He.glo_ok X G (c.t.d.fact 6 (f := .glo "check_history") rfl),
  c.t.d.def_ 7 (d := d_ancestors) rfl,
  He.glo_ok X G (c.t.d.fact 7 (f := .glo "ancestors") rfl),
  c.t.d.def_ 8 (d := d_testable) rfl,
  He.glo_ok X G (c.t.d.fact 8 (f := .glo "testable") rfl),
  c.t.d.def_ 9 (d := d_classes) rfl,
  He.glo_ok X G (c.t.d.fact 9 (f := .glo "classes") rfl),
  c.t.d.def_ 10 (d := d_broken_by) rfl,
  He.glo_ok X G (c.t.d.fact 10 (f := .glo "broken_by") rfl),
  c.t.d.def_ 11 (d := d_tests) rfl,
  He.glo_ok X G (c.t.d.fact 11 (f := .glo "tests") rfl),
  c.t.d.def_ 12 (d := d_start) rfl,
  He.glo_ok X G (c.t.d.fact 12 (f := .glo "start") rfl),
  c.t.d.def_ 13 (d := d_lowered) rfl,
  He.glo_ok X G (c.t.d.fact 13 (f := .glo "lowered") rfl),
  c.t.d.def_ 14 (d := d_against_row) rfl,
  He.glo_ok X G (c.t.d.fact 14 (f := .glo "against_row") rfl),
  c.t.d.def_ 15 (d := d_check_size) rfl,
  He.glo_ok X G (c.t.d.fact 15 (f := .glo "check_size") rfl),
  c.t.d.def_ 16 (d := d_rows_of) rfl,
  He.glo_ok X G (c.t.d.fact 16 (f := .glo "rows_of") rfl),
  c.t.d.def_ 17 (d := d_ones_in) rfl,
  He.glo_ok X G (c.t.d.fact 17 (f := .glo "ones_in") rfl),
  c.t.d.def_ 18 (d := d_is_useful) rfl,
  He.glo_ok X G (c.t.d.fact 18 (f := .glo "is_useful") rfl),
  c.t.d.def_ 19 (d := d_both_after) rfl,
  He.glo_ok X G (c.t.d.fact 19 (f := .glo "both_after") rfl),
  c.t.d.def_ 20 (d := d_value) rfl,
  He.glo_ok X G (c.t.d.fact 20 (f := .glo "value") rfl),
  c.t.d.def_ 21 (d := d_fewest_from) rfl,
  He.glo_ok X G (c.t.d.fact 21 (f := .glo "fewest_from") rfl),
  c.t.d.def_ 22 (d := d_fewest) rfl,
  He.glo_ok X G (c.t.d.fact 22 (f := .glo "fewest") rfl),
  c.t.d.def_ 23 (d := d_contradictions) rfl,
  He.glo_ok X G (c.t.d.fact 23 (f := .glo "contradictions") rfl),
  c.t.d.def_ 24 (d := d_can_be) rfl,
  He.glo_ok X G (c.t.d.fact 24 (f := .glo "can_be_answers") rfl),
  c.t.d.def_ 25 (d := d_is_integer) rfl,
  He.glo_ok X G (c.t.d.fact 25 (f := .glo "is_integer") rfl),
  c.t.d.def_ 26 (d := d_is_shaped) rfl,
  He.glo_ok X G (c.t.d.fact 26 (f := .glo "is_shaped") rfl),
  c.t.d.def_ 27 (d := d_best_row) rfl,
  He.glo_ok X G (c.t.d.fact 27 (f := .glo "best_row") rfl),
  c.t.d.def_ 28 (d := d_tree_of) rfl,
  He.glo_ok X G (c.t.d.fact 28 (f := .glo "tree_of") rfl),
  c.t.d.def_ 29 (d := d_best_tree) rfl,
  He.glo_ok X G (c.t.d.fact 29 (f := .glo "best_tree") rfl),
  c.t.d.def_ 30 (d := d_law_cell) rfl,
  He.glo_ok X G (c.t.d.fact 30 (f := .glo "_law_cell") rfl),
  c.t.d.def_ 31 (d := d_law_digits) rfl,
  He.glo_ok X G (c.t.d.fact 31 (f := .glo "_law_digits") rfl),
  c.t.d.def_ 32 (d := d_law_draw) rfl,
  He.glo_ok X G (c.t.d.fact 32 (f := .glo "_law_draw") rfl),
  c.t.d.def_ 33 (d := d_law_pick) rfl,
  He.glo_ok X G (c.t.d.fact 33 (f := .glo "_law_pick") rfl),
  c.t.d.def_ 34 (d := d_law_parents) rfl,
  He.glo_ok X G (c.t.d.fact 34 (f := .glo "_law_parents") rfl),
  c.t.d.def_ 35 (d := d_law_history) rfl,
  He.glo_ok X G (c.t.d.fact 35 (f := .glo "_law_history") rfl),
  c.t.d.def_ 36 (d := d_law_above) rfl,
  He.glo_ok X G (c.t.d.fact 36 (f := .glo "_law_above") rfl),
  c.t.d.def_ 37 (d := d_law_breaks) rfl,
  He.glo_ok X G (c.t.d.fact 37 (f := .glo "_law_breaks") rfl),
  c.t.d.def_ 38 (d := d_law_skips) rfl,
  He.glo_ok X G (c.t.d.fact 38 (f := .glo "_law_skips") rfl),
  c.t.d.def_ 39 (d := d_law_classes) rfl,
  He.glo_ok X G (c.t.d.fact 39 (f := .glo "_law_classes") rfl),
  c.t.d.def_ 40 (d := d_law_name) rfl,
  He.glo_ok X G (c.t.d.fact 40 (f := .glo "_law_name") rfl),
  c.t.d.def_ 41 (d := d_law_new_desk) rfl,
  He.glo_ok X G (c.t.d.fact 41 (f := .glo "_law_new_desk") rfl),
  c.t.d.def_ 42 (d := d_law_home) rfl,
  He.glo_ok X G (c.t.d.fact 42 (f := .glo "_law_home") rfl),
  c.t.d.def_ 43 (d := d_law_found) rfl,
  He.glo_ok X G (c.t.d.fact 43 (f := .glo "_law_found") rfl),
  c.t.d.def_ 44 (d := d_law_held_out) rfl,
  He.glo_ok X G (c.t.d.fact 44 (f := .glo "_law_held_out") rfl),
  c.t.d.def_ 45 (d := d_law) rfl,
  He.glo_ok X G (c.t.d.fact 45 (f := .glo "law") rfl),
  c.t.d.def_ 46 (d := d_Answerer_init) rfl,
  c.t.d.def_ 47 (d := d_Answerer_test) rfl,
  c.t.d.def_ 48 (d := d_Desk_init) rfl,
  c.t.d.def_ 49 (d := d_Desk_answers) rfl,
  c.t.d.def_ 50 (d := d_Desk_make_of) rfl,
  c.t.d.def_ 51 (d := d_Desk_come) rfl,
  c.t.d.def_ 52 (d := d_Desk_turn) rfl,
  c.t.d.def_ 53 (d := d_Desk_do) rfl,
  c.t.d.def_ 54 (d := d_Desk_left) rfl,
  c.t.d.def_ 55 (d := d_Desk_can_be) rfl,
  c.t.d.def_ 56 (d := d_Desk_state) rfl,
  He.glo_ok X G (c.t.d.fact 46 (f := .glo "Answerer") rfl),
  He.cls_ok (c.t.d.fact 68 (f := .cls "Answerer") rfl),
  He.mkr_ok (c.t.d.fact 69 (f := .mkr "Answerer") rfl),
  He.glo_ok X G (c.t.d.fact 47 (f := .glo "Desk") rfl),
  He.cls_ok (c.t.d.fact 77 (f := .cls "Desk") rfl),
  He.mkr_ok (c.t.d.fact 78 (f := .mkr "Desk") rfl),
  He.glo_ok X G (c.t.d.fact 48 (f := .glo "RULES") rfl),
  fun H => He.tupB_ok c.more H,
  He.free_ok X G (c.t.d.fact 49 (f := .free "len") rfl),
  He.free_ok X G (c.t.d.fact 50 (f := .free "isinstance") rfl),
  He.free_ok X G (c.t.d.fact 51 (f := .free "range") rfl),
  He.free_ok X G (c.t.d.fact 52 (f := .free "all") rfl),
  He.free_ok X G (c.t.d.fact 53 (f := .free "max") rfl),
  He.free_ok X G (c.t.d.fact 54 (f := .free "min") rfl),
  He.free_ok X G (c.t.d.fact 55 (f := .free "sorted") rfl),
  He.free_ok X G (c.t.d.fact 56 (f := .free "tuple") rfl),
  He.free_ok X G (c.t.d.fact 57 (f := .free "int") rfl),
  He.free_ok X G (c.t.d.fact 58 (f := .free "set") rfl),
  He.free_ok X G (c.t.d.fact 59 (f := .free "str") rfl),
  He.free_ok X G (c.t.d.fact 60 (f := .free "bool") rfl),
  He.int_ok X G (c.t.d.fact 61 (f := .int "MOST_MAKES" 24) rfl),
  He.int_ok X G (c.t.d.fact 62 (f := .int "MOST_PARENTS" 4) rfl),
  He.int_ok X G (c.t.d.fact 63 (f := .int "MOST_STATES" 20000) rfl),
  He.int_ok X G (c.t.d.fact 64 (f := .int "MOST_ANSWERS" 200) rfl),
  He.int_ok X G (c.t.d.fact 65 (f := .int "MOST_DEEDS" 2000) rfl),
  He.int_ok X G (c.t.d.fact 66 (f := .int "MOST_DEPTH" 14) rfl),
  He.str_ok X G (c.t.d.fact 67 (f := .str "LETTERS" "abcdefghijklmnopqrstuvwxyz") rfl),
  He.noat_ok (c.t.d.fact 70 (f := .noat "Answerer" "history") rfl),
  He.noat_ok (c.t.d.fact 71 (f := .noat "Answerer" "skipped") rfl),
  He.noat_ok (c.t.d.fact 72 (f := .noat "Answerer" "found") rfl),
  He.noat_ok (c.t.d.fact 73 (f := .noat "Answerer" "rows") rfl),
  He.noat_ok (c.t.d.fact 74 (f := .noat "Answerer" "known") rfl),
  He.noat_ok (c.t.d.fact 75 (f := .noat "Answerer" "states") rfl),
  He.noat_ok (c.t.d.fact 76 (f := .noat "Answerer" "told") rfl),
  He.noat_ok (c.t.d.fact 79 (f := .noat "Desk" "known") rfl),
  He.noat_ok (c.t.d.fact 80 (f := .noat "Desk" "names") rfl),
  He.noat_ok (c.t.d.fact 81 (f := .noat "Desk" "rows") rfl),
  He.noat_ok (c.t.d.fact 82 (f := .noat "Desk" "away") rfl),
  He.noat_ok (c.t.d.fact 83 (f := .noat "Desk" "number") rfl),
  He.noat_ok (c.t.d.fact 84 (f := .noat "Desk" "deeds") rfl),
  He.meth_ok (c.t.d.fact 85 (f := .meth "Answerer" "test") rfl),
  He.meth_ok (c.t.d.fact 86 (f := .meth "Desk" "answers") rfl),
  He.meth_ok (c.t.d.fact 87 (f := .meth "Desk" "make_of") rfl),
  He.meth_ok (c.t.d.fact 88 (f := .meth "Desk" "come") rfl),
  He.meth_ok (c.t.d.fact 89 (f := .meth "Desk" "turn") rfl),
  He.meth_ok (c.t.d.fact 90 (f := .meth "Desk" "do") rfl),
  He.meth_ok (c.t.d.fact 91 (f := .meth "Desk" "left") rfl),
  He.meth_ok (c.t.d.fact 92 (f := .meth "Desk" "can_be") rfl),
  He.meth_ok (c.t.d.fact 93 (f := .meth "Desk" "state") rfl)⟩
theorem facts {P : Program} {w : World} {K : PySem.W.Frag} {h : Heap} {mg : Str → Option Value} {f : Addr} (X : K.In h) (G : h.Ns mainGlobals mg) (hfa : mg ("law" : Str) = some (.ref f)) (c : He.SaysX fa fn [] [] ex w h K) :
    ∃ fd : FuncData, (∀ (s : Shared) (v : Value), BindsTo s fd ⟨[v], []⟩ [("_law_script", v)]) ∧ ∀ base : Heap, K.In base → base.Ns mainGlobals mg → FnOk P w K mg base CX0 21 f fd ["_law_script"] (spLaw K) := by
  have T := txt_of X G c
  obtain ⟨fd, F⟩ := T.f_law
  have e := hfa.symm.trans T.g_law
  cases e
  have b := FunD.bindsA (ps := ["_law_script"]) F fun _ _ _ _ _ _ us hl => match us, hl with | [_], _ => rfl
  exact ⟨fd, fun s v => b s [v] rfl, fun base _ _ => (fun_of F).ok sc_law (fun vs H Q E ⟨_, _, e, _⟩ => by rw [e]; rfl) fun cdv A outer s H vs Q E hr h => law_body T cdv A outer s H vs Q E hr h⟩
end Fb
open PySem PySem.W PySem.Calls PyProof.Rows
theorem PySem.Challenge.cw_firstbreak_k11_whole_found_in_the_fewest_holds : PySem.Challenge.rw_firstbreak_k11_whole_found_in_the_fewest.Holds := by
  w_on; o_law
  refine HandSHeadRun.head_any (r := OpenLaw.row PySem.Challenge.rw_firstbreak_k11_whole_found_in_the_fewest) (q := view (OpenLaw.row PySem.Challenge.rw_firstbreak_k11_whole_found_in_the_fewest).prog [77]) (H := Fb.hk) (ob := Fb.ob) (M := 6000) (loose := Fb.loose) (d := HandSHeadRun.topDef (OpenLaw.row PySem.Challenge.rw_firstbreak_k11_whole_found_in_the_fewest).prog 77) (kwd := []) Fb.ob_eq
    (by kernel_rfl) (fun s => by kernel_rfl) Fb.run (by kernel_rfl) (by kernel_rfl) (by kernel_rfl) (by rfl) (by first | assumption | decide +kernel) (by decide +kernel) ⟨rfl, rfl, rfl, rfl, rfl, by decide +kernel⟩ ?hw ?hc
  case hw => w_witness2
  case hc =>
    refine L2.walk_ofE (l := PySem.Challenge.rw_firstbreak_k11_whole_found_in_the_fewest) (n := 63) (k := 21) (x := "_law_script") (CX := L2.CX0) rfl (by decide) (by kernel_rfl) ⟨rfl, by decide, by decide⟩ ?F (fun _ _ _ _ z => z)
    intro w mg fa h Y G hmg0
    obtain ⟨K, KX, c⟩ := Y
    have hmg : mg ("law" : PySem.Str) = some (.ref fa) := by
      have e : (HandSHeadRun.topDef (OpenLaw.row PySem.Challenge.rw_firstbreak_k11_whole_found_in_the_fewest).prog 77).name = ("law" : PySem.Str) := by kernel_rfl
      rw [← e]
      exact hmg0
    obtain ⟨fd, hb, hF⟩ := Fb.facts (P := (PySem.Challenge.rw_firstbreak_k11_whole_found_in_the_fewest).prog) (w := w) KX G hmg c
    exact ⟨K, fd, Fb.spLaw K, KX, hb, fun H a ns hl _ hS => ⟨a, ns, rfl, hS, fun _ => rfl⟩, hF⟩
