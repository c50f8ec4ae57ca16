import PyProof.Rows.All
import Wide.All
import OpenK.AllK
import Wide.FinOn
import KE.KStateDown
import Lean
import HandS.ForMost
import HandS.More
import HandS.Head0
import HandS.Head1
import HandS.Head2
import HandS.HeadEnd
import HandS.HeadHook1
import HandS.HeadHook2
import HandS.Defaults
import HandS.WordsExc
import HandS.Wide
import HandS.StrMore
import HandS.Conv
import HandS.DictComp
import HandS.DictTup
import HandS.TupAny
import HandS.Deep
import HandS.Zip
import HandS.Strs
import HandS.SetFor
import HandS.SortInts
import HandS.IsInst
import HandS.Flow
import KE.GoesZip
import KE.GoesMore
import KE.GoesEnum
import HandS.Walk
import KE.OsSetLaws
import HandS.Small
import HandS.Codes
import KE.KDictZip
import KE.KItemsList
import HandS.ListItems
import PySem.Challenge.RW_newsinorder_k54_whole_orders_turned_and
set_option Elab.async false
set_option linter.all false
set_option maxRecDepth 100000
set_option maxHeartbeats 0
/-! The plain law: what an order of rows is, by timetables; and by numbers for the values. -/
namespace K54
/-- from t on one is through by s, by rides rs, all moments between -B and B -/
def Thru (B : Int) (rs : List (Int × Int)) (t s : Int) : Prop := t ≤ -B ∨ B ≤ s ∨ ∃ r ∈ rs, t ≤ r.1 ∧ r.2 ≤ s
def Rides (B : Int) (rs : List (Int × Int)) : Prop := ∀ r ∈ rs, -B ≤ r.1 ∧ r.1 ≤ r.2 ∧ r.2 ≤ B
def fEnd (B : Int) (rs : List (Int × Int)) (t : Int) : Int :=
  if t ≤ -B then -B else (rs.filter fun r => decide (t ≤ r.1)).foldl (fun m r => min m r.2) B
def fBeg (B : Int) (rs : List (Int × Int)) (s : Int) : Int :=
  if B ≤ s then B else (rs.filter fun r => decide (r.2 ≤ s)).foldl (fun m r => max m r.1) (-B)

theorem foldMin_le (f : Int × Int → Int) : ∀ (l : List (Int × Int)) (b s : Int), l.foldl (fun m r => min m (f r)) b ≤ s ↔ b ≤ s ∨ ∃ r ∈ l, f r ≤ s
  | [], b, s => by simp
  | r :: l, b, s => by
    rw [List.foldl_cons, foldMin_le f l]
    constructor
    · rintro (h | ⟨q, hq, h⟩)
      · by_cases e : b ≤ s
        · exact .inl e
        · exact .inr ⟨r, by simp, by omega⟩
      · exact .inr ⟨q, by simp [hq], h⟩
    · rintro (h | ⟨q, hq, h⟩)
      · exact .inl (by omega)
      · rcases List.mem_cons.mp hq with rfl | hq
        · exact .inl (by omega)
        · exact .inr ⟨q, hq, h⟩
theorem le_foldMax (f : Int × Int → Int) : ∀ (l : List (Int × Int)) (b s : Int), s ≤ l.foldl (fun m r => max m (f r)) b ↔ s ≤ b ∨ ∃ r ∈ l, s ≤ f r
  | [], b, s => by simp
  | r :: l, b, s => by
    rw [List.foldl_cons, le_foldMax f l]
    constructor
    · rintro (h | ⟨q, hq, h⟩)
      · by_cases e : s ≤ b
        · exact .inl e
        · exact .inr ⟨r, by simp, by omega⟩
      · exact .inr ⟨q, by simp [hq], h⟩
    · rintro (h | ⟨q, hq, h⟩)
      · exact .inl (by omega)
      · rcases List.mem_cons.mp hq with rfl | hq
        · exact .inl (by omega)
        · exact .inr ⟨q, hq, h⟩
theorem fEnd_le {B : Int} {rs : List (Int × Int)} {t s : Int} (hs : -B ≤ s) : fEnd B rs t ≤ s ↔ Thru B rs t s := by
  unfold fEnd Thru
  by_cases h : t ≤ -B
  · rw [if_pos h]
    exact ⟨fun _ => .inl h, fun _ => hs⟩
  · rw [if_neg h, foldMin_le]
    constructor
    · rintro (e | ⟨r, hr, e⟩)
      · exact .inr (.inl e)
      · obtain ⟨h1, h2⟩ := List.mem_filter.mp hr
        exact .inr (.inr ⟨r, h1, of_decide_eq_true h2, e⟩)
    · rintro (e | e | ⟨r, hr, e1, e2⟩)
      · exact absurd e h
      · exact .inl e
      · exact .inr ⟨r, List.mem_filter.mpr ⟨hr, decide_eq_true e1⟩, e2⟩
theorem le_fBeg {B : Int} {rs : List (Int × Int)} {t s : Int} (ht : t ≤ B) : t ≤ fBeg B rs s ↔ Thru B rs t s := by
  unfold fBeg Thru
  by_cases h : B ≤ s
  · rw [if_pos h]
    exact ⟨fun _ => .inr (.inl h), fun _ => ht⟩
  · rw [if_neg h, le_foldMax]
    constructor
    · rintro (e | ⟨r, hr, e⟩)
      · exact .inl e
      · obtain ⟨h1, h2⟩ := List.mem_filter.mp hr
        exact .inr (.inr ⟨r, h1, e, of_decide_eq_true h2⟩)
    · rintro (e | e | ⟨r, hr, e1, e2⟩)
      · exact .inl e
      · exact absurd e h
      · exact .inr ⟨r, List.mem_filter.mpr ⟨hr, decide_eq_true e2⟩, e1⟩
/-- a moment within the bound -/
def In (B t : Int) : Prop := -B ≤ t ∧ t ≤ B
theorem fEnd_ge {B : Int} {rs : List (Int × Int)} (h : Rides B rs) {t : Int} (ht : In B t) : t ≤ fEnd B rs t := by
  have hB : -B ≤ B := Int.le_trans ht.1 ht.2
  by_cases e : fEnd B rs t ≤ t - 1
  · by_cases e2 : -B ≤ t - 1
    · rcases (fEnd_le e2).mp e with q | q | ⟨r, hr, q1, q2⟩
      · have := ht.1; omega
      · have := ht.2; omega
      · have := (h r hr).2.1; omega
    · have q : t ≤ -B := by omega
      unfold fEnd
      rw [if_pos q]
      exact q
  · omega
theorem fEnd_in {B : Int} {rs : List (Int × Int)} (h : Rides B rs) {t : Int} (ht : In B t) : In B (fEnd B rs t) :=
  ⟨Int.le_trans ht.1 (fEnd_ge h ht), (fEnd_le (Int.le_trans ht.1 ht.2)).mpr (.inr (.inl (Int.le_refl _)))⟩
theorem fBeg_le {B : Int} {rs : List (Int × Int)} (h : Rides B rs) {s : Int} (hs : In B s) : fBeg B rs s ≤ s := by
  by_cases e : s + 1 ≤ fBeg B rs s
  · by_cases e2 : s + 1 ≤ B
    · rcases (le_fBeg e2).mp e with q | q | ⟨r, hr, q1, q2⟩
      · have := hs.1; omega
      · have := hs.2; omega
      · have := (h r hr).2.1; omega
    · have q : B ≤ s := by omega
      unfold fBeg
      rw [if_pos q]
      exact q
  · omega
theorem fBeg_in {B : Int} {rs : List (Int × Int)} (h : Rides B rs) {s : Int} (hs : In B s) : In B (fBeg B rs s) :=
  ⟨(le_fBeg (Int.le_trans hs.1 hs.2)).mpr (.inl (Int.le_refl _)), Int.le_trans (fBeg_le h hs) hs.2⟩
theorem Thru.mono {B : Int} {rs : List (Int × Int)} {t t' s s' : Int} (h : Thru B rs t s) (h1 : t' ≤ t) (h2 : s ≤ s') : Thru B rs t' s' := by
  rcases h with q | q | ⟨r, hr, q1, q2⟩
  · exact .inl (by omega)
  · exact .inr (.inl (by omega))
  · exact .inr (.inr ⟨r, hr, by omega, by omega⟩)

/-! ### steps, by their code points -/
/-- a step forth -/
def isF (c : Nat) : Bool := decide (97 ≤ c)
/-- the small letter of a step -/
def lo (c : Nat) : Nat := if c < 97 then c + 32 else c
def isStp (c : Nat) : Bool := decide ((65 ≤ c ∧ c ≤ 68) ∨ (97 ≤ c ∧ c ≤ 100))
/-- a timetable: rides by the code of a small letter -/
abbrev Tab := Nat → List (Int × Int)
def stepT (B : Int) (T : Tab) (t : Int) (c : Nat) : Int := if isF c then fEnd B (T (lo c)) t else fBeg B (T (lo c)) t
def goT (B : Int) (T : Tab) (t : Int) (row : List Nat) : Int := row.foldl (stepT B T) t
def Good (B : Int) (T : Tab) : Prop := ∀ c, Rides B (T c)
theorem stepT_in {B : Int} {T : Tab} (h : Good B T) {t : Int} (ht : In B t) (c : Nat) : In B (stepT B T t c) := by
  unfold stepT
  split
  · exact fEnd_in (h _) ht
  · exact fBeg_in (h _) ht
theorem goT_in {B : Int} {T : Tab} (h : Good B T) : ∀ (row : List Nat) {t : Int}, In B t → In B (goT B T t row)
  | [], _, ht => ht
  | c :: r, _, ht => goT_in h r (stepT_in h ht c)

/-! ### values of rows, by numbers: value 0 is the begin, the n-th entry (step, value from which it goes on) is value n + 1 -/
def layRow : List Nat → Nat → Nat → List (Nat × Nat)
  | [], _, _ => []
  | c :: r, s, L => (c, s) :: layRow r L (L + 1)
def endRow : List Nat → Nat → Nat → Nat
  | [], s, _ => s
  | _ :: r, _, L => endRow r L (L + 1)
def layRows : List (List Nat) → Nat → List (Nat × Nat)
  | [], _ => []
  | r :: rs, L => layRow r 0 L ++ layRows rs (L + r.length)
def endRows : List (List Nat) → Nat → List Nat
  | [], _ => []
  | r :: rs, L => endRow r 0 L :: endRows rs (L + r.length)
theorem layRow_length : ∀ (r : List Nat) (s L : Nat), (layRow r s L).length = r.length
  | [], _, _ => rfl
  | _ :: r, _, L => by unfold layRow; rw [List.length_cons, layRow_length r, List.length_cons]
/-- the order rule of two steps -/
def rule (c i k d j l : Nat) : Nat × Nat × Nat × Nat :=
  if isF c then (if isF d then (i, j, k, l) else (i, l, k, j)) else (if isF d then (l, i, j, k) else (j, i, l, k))
def Keeps (v : Nat → Int) (q : Nat × Nat × Nat × Nat) : Prop := v q.1 ≤ v q.2.1 → v q.2.2.1 ≤ v q.2.2.2
/-- the numbers keep all rules of the steps -/
def Sat (ls : List (Nat × Nat)) (v : Nat → Int) : Prop :=
  (∀ n c i, ls[n]? = some (c, i) → if isF c then v i ≤ v (n + 1) else v (n + 1) ≤ v i) ∧
  ∀ n c i m d j, ls[n]? = some (c, i) → ls[m]? = some (d, j) → lo c = lo d → Keeps v (rule c i (n + 1) d j (m + 1))
/-- the numbers are those of a timetable -/
def Walks (B : Int) (T : Tab) (v : Nat → Int) (ls : List (Nat × Nat)) (L : Nat) : Prop := ∀ n c i, ls[n]? = some (c, i) → v (L + n) = stepT B T (v i) c
theorem walks_row {B : Int} {T : Tab} {v : Nat → Int} : ∀ (r : List Nat) (s L : Nat), Walks B T v (layRow r s L) L → goT B T (v s) r = v (endRow r s L)
  | [], _, _, _ => rfl
  | c :: r, s, L, h => by
    have h0 := h 0 c s rfl
    rw [Nat.add_zero] at h0
    show goT B T (stepT B T (v s) c) r = v (endRow r L (L + 1))
    rw [← h0]
    refine walks_row r L (L + 1) fun n d i e => ?_
    have := h (n + 1) d i (by unfold layRow; rw [List.getElem?_cons_succ]; exact e)
    rw [← this]
    congr 1
    omega
theorem walks_rows {B : Int} {T : Tab} {v : Nat → Int} : ∀ (rs : List (List Nat)) (L : Nat), Walks B T v (layRows rs L) L → (endRows rs L).map v = rs.map (goT B T (v 0))
  | [], _, _ => rfl
  | r :: rs, L, h => by
    unfold endRows
    rw [List.map_cons, List.map_cons, ← walks_row r 0 L fun n c i e => h n c i (by
      unfold layRows
      rw [List.getElem?_append_left (List.getElem?_eq_some_iff.mp e).1]
      exact e)]
    congr 1
    refine walks_rows rs _ fun n c i e => ?_
    have := h (r.length + n) c i (by
      unfold layRows
      rw [List.getElem?_append_right (by rw [layRow_length]; omega), layRow_length, Nat.add_sub_cancel_left]
      exact e)
    rw [← this]
    congr 1
    omega

/-! ### from a timetable to numbers -/
def trk (B : Int) (T : Tab) : Int → List Nat → List Int
  | _, [] => []
  | t, c :: r => stepT B T t c :: trk B T (stepT B T t c) r
theorem trk_length {B : Int} {T : Tab} : ∀ (r : List Nat) (t : Int), (trk B T t r).length = r.length
  | [], _ => rfl
  | c :: r, t => by unfold trk; rw [List.length_cons, trk_length r, List.length_cons]
theorem walks_trk {B : Int} {T : Tab} {v : Nat → Int} : ∀ (r : List Nat) (s L : Nat) (t : Int), v s = t → (∀ n x, (trk B T t r)[n]? = some x → v (L + n) = x) → Walks B T v (layRow r s L) L
  | [], _, _, _, _, _ => fun n c i e => by cases e
  | c :: r, s, L, t, hs, h => by
    intro n d i e
    cases n with
    | zero =>
      have e' : (c, s) = (d, i) := Option.some.inj e
      cases e'
      have := h 0 _ rfl
      rw [this, hs]
    | succ n =>
      have h0 := h 0 _ rfl
      have ih := walks_trk r L (L + 1) (stepT B T t c) h0 (fun n x e => by
        have := h (n + 1) x (by unfold trk; rw [List.getElem?_cons_succ]; exact e)
        rw [← this]
        congr 1
        omega)
      have := ih n d i (by unfold layRow at e; rw [List.getElem?_cons_succ] at e; exact e)
      rw [← this]
      congr 1
      omega
def valsT (B : Int) (T : Tab) (t : Int) (rs : List (List Nat)) : List Int := t :: rs.flatMap (trk B T t)
theorem walks_vals {B : Int} {T : Tab} {v : Nat → Int} {t : Int} (h0 : v 0 = t) : ∀ (rs : List (List Nat)) (L : Nat), (∀ n x, (rs.flatMap (trk B T t))[n]? = some x → v (L + n) = x) → Walks B T v (layRows rs L) L
  | [], _, _ => fun n c i e => by cases e
  | r :: rs, L, h => by
    intro n c i e
    unfold layRows at e
    by_cases hn : n < r.length
    · rw [List.getElem?_append_left (by rw [layRow_length]; exact hn)] at e
      refine walks_trk r 0 L t h0 (fun n x e => h n x ?_) n c i e
      rw [List.flatMap_cons, List.getElem?_append_left (List.getElem?_eq_some_iff.mp e).1]
      exact e
    · rw [List.getElem?_append_right (by rw [layRow_length]; omega), layRow_length] at e
      have ih := walks_vals h0 rs (L + r.length) (fun n x e => by
        have := h (r.length + n) x (by
          rw [List.flatMap_cons, List.getElem?_append_right (by rw [trk_length]; omega), trk_length, Nat.add_sub_cancel_left]
          exact e)
        rw [← this]
        congr 1
        omega) _ c i e
      rw [← ih]
      congr 1
      omega
/-- a step's end is what one is through by -/
theorem sat_of_walks {B : Int} {T : Tab} {v : Nat → Int} {ls : List (Nat × Nat)} (hT : Good B T) (hv : ∀ k, In B (v k)) (h : Walks B T v ls 1) : Sat ls v := by
  have key : ∀ n c i, ls[n]? = some (c, i) → ∀ x, In B x → if isF c then (v (n + 1) ≤ x ↔ Thru B (T (lo c)) (v i) x) else (x ≤ v (n + 1) ↔ Thru B (T (lo c)) x (v i)) := by
    intro n c i e x hx
    have q := h n c i e
    rw [Nat.add_comm] at q
    rw [q]
    unfold stepT
    split
    · exact fEnd_le hx.1
    · exact le_fBeg hx.2
  refine ⟨fun n c i e => ?_, fun n c i m d j e e' hl => ?_⟩
  · have q := h n c i e
    rw [Nat.add_comm] at q
    rw [q]
    unfold stepT
    split
    · exact fEnd_ge (hT _) (hv i)
    · exact fBeg_le (hT _) (hv i)
  · have k1 := key n c i e
    have k2 := key m d j e'
    unfold rule Keeps
    rw [hl] at k1
    by_cases hc : isF c = true <;> by_cases hd : isF d = true
    all_goals simp only [hc, hd, if_true, if_false, Bool.false_eq_true] at k1 k2 ⊢
    · intro q
      exact (k1 _ (hv _)).mpr (((k2 _ (hv _)).mp (Int.le_refl _)).mono q (Int.le_refl _))
    · intro q
      exact (k1 _ (hv _)).mpr ((k2 _ (hv _)).mp q)
    · intro q
      exact (k1 _ (hv _)).mpr ((k2 _ (hv _)).mp q)
    · intro q
      exact (k1 _ (hv _)).mpr (((k2 _ (hv _)).mp (Int.le_refl _)).mono (Int.le_refl _) q)
theorem sat_of_table {B : Int} {T : Tab} {t : Int} (hT : Good B T) (ht : In B t) (rs : List (List Nat)) : ∃ v : Nat → Int, v 0 = t ∧ Sat (layRows rs 1) v ∧ (endRows rs 1).map v = rs.map (goT B T t) := by
  refine ⟨fun k => (valsT B T t rs).getD k t, rfl, ?_, ?_⟩
  all_goals
    have hw : Walks B T (fun k => (valsT B T t rs).getD k t) (layRows rs 1) 1 := walks_vals (t := t) rfl rs 1 fun n x e => by
      show (valsT B T t rs).getD (1 + n) t = x
      unfold valsT
      rw [List.getD_eq_getElem?_getD, Nat.add_comm, List.getElem?_cons_succ, e]
      rfl
  · refine sat_of_walks hT (fun k => ?_) hw
    have all : ∀ x ∈ valsT B T t rs, In B x := by
      intro x hx
      rcases List.mem_cons.mp hx with rfl | hx
      · exact ht
      · obtain ⟨r, _, hx⟩ := List.mem_flatMap.mp hx
        have : ∀ (r : List Nat) (t : Int), In B t → ∀ x ∈ trk B T t r, In B x := by
          intro r
          induction r with
          | nil => intro t _ x hx; cases hx
          | cons c r ih =>
            intro t ht x hx
            rcases List.mem_cons.mp hx with rfl | hx
            · exact stepT_in hT ht c
            · exact ih _ (stepT_in hT ht c) x hx
        exact this r t ht x hx
    show In B ((valsT B T t rs).getD k t)
    rw [List.getD_eq_getElem?_getD]
    cases e : (valsT B T t rs)[k]? with
    | none => exact ht
    | some x => exact all x (List.mem_of_getElem? e)
  · exact walks_rows rs 1 hw

/-! ### from numbers to a timetable -/
def bnd (v : Nat → Int) : Nat → Int
  | 0 => 1 + (v 0).natAbs
  | n + 1 => bnd v n + (v (n + 1)).natAbs
theorem bnd_gt (v : Nat → Int) : ∀ (n k : Nat), k ≤ n → (v k).natAbs < bnd v n
  | 0, k, h => by
    have e : k = 0 := by omega
    subst e
    show ((v 0).natAbs : Int) < 1 + (v 0).natAbs
    omega
  | n + 1, k, h => by
    show ((v k).natAbs : Int) < bnd v n + (v (n + 1)).natAbs
    by_cases e : k = n + 1
    · subst e
      have := bnd_gt v n 0 (Nat.zero_le _)
      omega
    · have := bnd_gt v n k (by omega)
      omega
def rideOf (v : Nat → Int) (n : Nat) (p : Nat × Nat) : Int × Int := if isF p.1 then (v p.2, v (n + 1)) else (v (n + 1), v p.2)
def tabOf (v : Nat → Int) (ls : List (Nat × Nat)) : Tab := fun a => (ls.zipIdx.filter fun q => decide (lo q.1.1 = a)).map fun q => rideOf v q.2 q.1
theorem mem_tabOf {v : Nat → Int} {ls : List (Nat × Nat)} {a : Nat} {r : Int × Int} : r ∈ tabOf v ls a ↔ ∃ n c i, ls[n]? = some (c, i) ∧ lo c = a ∧ r = rideOf v n (c, i) := by
  unfold tabOf
  rw [List.mem_map]
  constructor
  · rintro ⟨⟨⟨c, i⟩, n⟩, h, rfl⟩
    obtain ⟨h1, h2⟩ := List.mem_filter.mp h
    exact ⟨n, c, i, List.mem_zipIdx_iff_getElem?.mp h1, of_decide_eq_true h2, rfl⟩
  · rintro ⟨n, c, i, h1, h2, rfl⟩
    exact ⟨⟨⟨c, i⟩, n⟩, List.mem_filter.mpr ⟨List.mem_zipIdx_iff_getElem?.mpr h1, decide_eq_true h2⟩, rfl⟩
/-- each entry goes on from an earlier value -/
def Down (ls : List (Nat × Nat)) : Prop := ∀ n c i, ls[n]? = some (c, i) → i < n + 1
theorem layRow_from : ∀ (r : List Nat) (s L n c i : Nat), s < L → (layRow r s L)[n]? = some (c, i) → i < L + n
  | [], _, _, _, _, _, _, e => by cases e
  | c :: r, s, L, 0, d, i, h, e => by
    have e' : (c, s) = (d, i) := Option.some.inj e
    cases e'
    omega
  | c :: r, s, L, n + 1, d, i, h, e => by
    unfold layRow at e
    rw [List.getElem?_cons_succ] at e
    have := layRow_from r L (L + 1) n d i (by omega) e
    omega
theorem layRows_from : ∀ (rs : List (List Nat)) (L n c i : Nat), 0 < L → (layRows rs L)[n]? = some (c, i) → i < L + n
  | [], _, _, _, _, _, e => by cases e
  | r :: rs, L, n, c, i, h, e => by
    unfold layRows at e
    by_cases hn : n < r.length
    · rw [List.getElem?_append_left (by rw [layRow_length]; exact hn)] at e
      exact layRow_from r 0 L n c i h e
    · rw [List.getElem?_append_right (by rw [layRow_length]; omega), layRow_length] at e
      have := layRows_from rs (L + r.length) (n - r.length) c i (by omega) e
      omega
theorem down_rows (rs : List (List Nat)) : Down (layRows rs 1) := fun n c i e => by
  have := layRows_from rs 1 n c i (by omega) e
  omega
theorem table_of_sat {ls : List (Nat × Nat)} {v : Nat → Int} (hd : Down ls) (h : Sat ls v) : Good (bnd v ls.length) (tabOf v ls) ∧ In (bnd v ls.length) (v 0) ∧ Walks (bnd v ls.length) (tabOf v ls) v ls 1 := by
  have b : ∀ k, k ≤ ls.length → -(bnd v ls.length) < v k ∧ v k < bnd v ls.length := fun k hk => by
    have := bnd_gt v ls.length k hk
    omega
  have lt : ∀ {n c i}, ls[n]? = some (c, i) → n + 1 ≤ ls.length ∧ i ≤ ls.length := fun {n c i} e => by
    have h1 := (List.getElem?_eq_some_iff.mp e).1
    have h2 := hd n c i e
    omega
  refine ⟨fun a r hr => ?_, ?_, fun n c i e => ?_⟩
  · obtain ⟨n, c, i, e, rfl, rfl⟩ := mem_tabOf.mp hr
    have h1 := h.1 n c i e
    have h2 := b _ (lt e).1
    have h3 := b _ (lt e).2
    unfold rideOf
    by_cases hc : isF c = true
    all_goals simp only [hc, if_true, if_false, Bool.false_eq_true] at h1 ⊢
    · exact ⟨by omega, h1, by omega⟩
    · exact ⟨by omega, h1, by omega⟩
  · have := b 0 (Nat.zero_le _)
    exact ⟨by omega, by omega⟩
  · have h1 := b _ (lt e).1
    have h2 := b _ (lt e).2
    rw [Nat.add_comm]
    unfold stepT
    by_cases hc : isF c = true
    all_goals simp only [hc, if_true, if_false, Bool.false_eq_true]
    · have le : ∀ s, -(bnd v ls.length) ≤ s → (fEnd (bnd v ls.length) (tabOf v ls (lo c)) (v i) ≤ s ↔ v (n + 1) ≤ s) := by
        intro s hs
        rw [fEnd_le hs]
        constructor
        · rintro (q | q | ⟨r, hr, q1, q2⟩)
          · omega
          · omega
          · obtain ⟨m, d, j, e', hl, rfl⟩ := mem_tabOf.mp hr
            have k := h.2 n c i m d j e e' hl.symm
            unfold rule Keeps at k
            unfold rideOf at q1 q2
            by_cases hd : isF d = true
            all_goals simp only [hc, hd, if_true, if_false, Bool.false_eq_true] at k q1 q2
            · exact Int.le_trans (k q1) q2
            · exact Int.le_trans (k q1) q2
        · intro q
          refine .inr (.inr ⟨rideOf v n (c, i), mem_tabOf.mpr ⟨n, c, i, e, rfl, rfl⟩, ?_, ?_⟩)
          all_goals
            unfold rideOf
            simp only [hc, if_true]
          · exact Int.le_refl _
          · exact q
      have a1 := (le (v (n + 1)) (by omega)).mpr (Int.le_refl _)
      have a2 : -(bnd v ls.length) ≤ fEnd (bnd v ls.length) (tabOf v ls (lo c)) (v i) := by
        by_cases q : fEnd (bnd v ls.length) (tabOf v ls (lo c)) (v i) ≤ -(bnd v ls.length)
        · have := (le _ (Int.le_refl _)).mp q
          omega
        · omega
      have a3 := (le _ a2).mp (Int.le_refl _)
      omega
    · have le : ∀ s, s ≤ bnd v ls.length → (s ≤ fBeg (bnd v ls.length) (tabOf v ls (lo c)) (v i) ↔ s ≤ v (n + 1)) := by
        intro s hs
        rw [le_fBeg hs]
        constructor
        · rintro (q | q | ⟨r, hr, q1, q2⟩)
          · omega
          · omega
          · obtain ⟨m, d, j, e', hl, rfl⟩ := mem_tabOf.mp hr
            have k := h.2 n c i m d j e e' hl.symm
            unfold rule Keeps at k
            unfold rideOf at q1 q2
            by_cases hd : isF d = true
            all_goals simp only [hc, hd, if_true, if_false, Bool.false_eq_true] at k q1 q2
            · exact Int.le_trans q1 (k q2)
            · exact Int.le_trans q1 (k q2)
        · intro q
          refine .inr (.inr ⟨rideOf v n (c, i), mem_tabOf.mpr ⟨n, c, i, e, rfl, rfl⟩, ?_, ?_⟩)
          all_goals
            unfold rideOf
            simp only [hc, if_false, Bool.false_eq_true]
          · exact q
          · exact Int.le_refl _
      have a1 := (le (v (n + 1)) (by omega)).mpr (Int.le_refl _)
      have a2 : fBeg (bnd v ls.length) (tabOf v ls (lo c)) (v i) ≤ bnd v ls.length := by
        by_cases q : bnd v ls.length ≤ fBeg (bnd v ls.length) (tabOf v ls (lo c)) (v i)
        · have := (le _ (Int.le_refl _)).mp q
          omega
        · omega
      have a3 := (le _ a2).mp (Int.le_refl _)
      omega

/-! ### orders of ends -/
/-- two lists of numbers stand in one order -/
def Iso (o xs : List Int) : Prop := o.length = xs.length ∧ ∀ (i j : Nat) (a b x y : Int), o[i]? = some a → o[j]? = some b → xs[i]? = some x → xs[j]? = some y → (a ≤ b ↔ x ≤ y)
theorem Iso.symm {o xs : List Int} (h : Iso o xs) : Iso xs o := ⟨h.1.symm, fun i j a b x y h1 h2 h3 h4 => (h.2 i j x y a b h3 h4 h1 h2).symm⟩
theorem Iso.trans {o xs ys : List Int} (h : Iso o xs) (g : Iso xs ys) : Iso o ys := ⟨h.1.trans g.1, fun i j a b x y h1 h2 h3 h4 => by
  have li : i < xs.length := by rw [← h.1]; exact (List.getElem?_eq_some_iff.mp h1).1
  have lj : j < xs.length := by rw [← h.1]; exact (List.getElem?_eq_some_iff.mp h2).1
  exact (h.2 i j a b _ _ h1 h2 (List.getElem?_eq_getElem li) (List.getElem?_eq_getElem lj)).trans (g.2 i j _ _ x y (List.getElem?_eq_getElem li) (List.getElem?_eq_getElem lj) h3 h4)⟩
/-- the ends of the rows come in this order, in some timetable -/
def Comes (rows : List (List Nat)) (o : List Int) : Prop := ∃ (B : Int) (T : Tab) (t : Int), Good B T ∧ In B t ∧ Iso o (rows.map (goT B T t))
theorem comes_iff (rows : List (List Nat)) (o : List Int) : Comes rows o ↔ ∃ v : Nat → Int, Sat (layRows rows 1) v ∧ Iso o ((endRows rows 1).map v) := by
  constructor
  · rintro ⟨B, T, t, hT, ht, h⟩
    obtain ⟨v, _, h1, h2⟩ := sat_of_table hT ht rows
    exact ⟨v, h1, by rw [h2]; exact h⟩
  · rintro ⟨v, h1, h2⟩
    obtain ⟨a, b, c⟩ := table_of_sat (down_rows rows) h1
    exact ⟨_, _, _, a, b, by rw [← walks_rows rows 1 c]; exact h2⟩
end K54
/-! What is known of the order of values, as bits; its rules; a total order gives numbers. -/
namespace K54
abbrev Quad := Nat × Nat × Nat × Nat
/-- bit j of the i-th number -/
def bt (xs : List Nat) (i j : Nat) : Bool := (xs.getD i 0).testBit j
def orAt (xs : List Nat) (i m : Nat) : List Nat := xs.set i (xs.getD i 0 ||| m)
theorem orAt_length (xs : List Nat) (i m : Nat) : (orAt xs i m).length = xs.length := by unfold orAt; rw [List.length_set]
theorem getD_orAt (xs : List Nat) (i m k : Nat) : (orAt xs i m).getD k 0 = if k = i ∧ i < xs.length then xs.getD i 0 ||| m else xs.getD k 0 := by
  unfold orAt
  rw [List.getD_eq_getElem?_getD, List.getElem?_set]
  by_cases e : i = k
  · subst e
    by_cases h : i < xs.length
    · simp [h]
    · simp [h]
  · have e' : ¬ k = i := fun q => e q.symm
    simp [e, e']
theorem bt_orAt (xs : List Nat) (i m k j : Nat) : bt (orAt xs i m) k j = true ↔ bt xs k j = true ∨ (k = i ∧ i < xs.length ∧ m.testBit j = true) := by
  unfold bt
  rw [getD_orAt]
  by_cases h : k = i ∧ i < xs.length
  · rw [if_pos h, Nat.testBit_or, Bool.or_eq_true]
    obtain ⟨rfl, h2⟩ := h
    simp [h2]
  · rw [if_neg h]
    constructor
    · exact .inl
    · rintro (q | ⟨a, b, _⟩)
      · exact q
      · exact absurd ⟨a, b⟩ h
theorem bt_lt {xs : List Nat} {i j : Nat} (h : bt xs i j = true) : i < xs.length := by
  by_cases e : i < xs.length
  · exact e
  · unfold bt at h
    rw [List.getD_eq_getElem?_getD, List.getElem?_eq_none (by omega)] at h
    simp at h
/-- ys knows what xs knows -/
structure Sub (xs ys : List Nat) : Prop where
  len : xs.length = ys.length
  sub : ∀ i j, bt xs i j = true → bt ys i j = true
theorem Sub.refl (xs : List Nat) : Sub xs xs := ⟨rfl, fun _ _ h => h⟩
theorem Sub.trans {xs ys zs : List Nat} (h : Sub xs ys) (g : Sub ys zs) : Sub xs zs := ⟨h.len.trans g.len, fun i j q => g.sub i j (h.sub i j q)⟩
theorem Sub.antisymm {xs ys : List Nat} (h : Sub xs ys) (g : Sub ys xs) : xs = ys := by
  refine List.ext_getElem h.len fun i h1 h2 => ?_
  have e : ∀ j, bt xs i j = bt ys i j := fun j => by
    cases a : bt xs i j with
    | true => exact (h.sub i j a).symm
    | false =>
      cases b : bt ys i j with
      | false => rfl
      | true => rw [g.sub i j b] at a; cases a
  refine Nat.eq_of_testBit_eq fun j => ?_
  have := e j
  unfold bt at this
  rw [List.getD_eq_getElem?_getD, List.getD_eq_getElem?_getD, List.getElem?_eq_getElem h1, List.getElem?_eq_getElem h2] at this
  exact this
theorem sub_orAt (xs : List Nat) (i m : Nat) : Sub xs (orAt xs i m) := ⟨(orAt_length xs i m).symm, fun k j h => (bt_orAt xs i m k j).mpr (.inl h)⟩
theorem le_of_bits {x y : Nat} (h : ∀ j, x.testBit j = true → y.testBit j = true) : x ≤ y := by
  have e : x ||| y = y := by
    refine Nat.eq_of_testBit_eq fun j => ?_
    rw [Nat.testBit_or]
    cases a : x.testBit j with
    | false => simp
    | true => rw [h j a]; rfl
  rw [← e]
  exact Nat.left_le_or
theorem Sub.sum_le : ∀ {xs ys : List Nat}, Sub xs ys → xs.sum ≤ ys.sum
  | [], [], _ => Nat.le_refl _
  | [], _ :: _, h => by have := h.len; simp at this
  | _ :: _, [], h => by have := h.len; simp at this
  | x :: xs, y :: ys, h => by
    have h1 : x ≤ y := le_of_bits fun j q => h.sub 0 j q
    have h2 : Sub xs ys := ⟨by have := h.len; simpa using this, fun i j q => h.sub (i + 1) j q⟩
    have := Sub.sum_le h2
    rw [List.sum_cons, List.sum_cons]
    omega
theorem Sub.eq_of_sum : ∀ {xs ys : List Nat}, Sub xs ys → ys.sum ≤ xs.sum → xs = ys
  | [], [], _, _ => rfl
  | [], _ :: _, h, _ => by have := h.len; simp at this
  | _ :: _, [], h, _ => by have := h.len; simp at this
  | x :: xs, y :: ys, h, e => by
    have h1 : x ≤ y := le_of_bits fun j q => h.sub 0 j q
    have h2 : Sub xs ys := ⟨by have := h.len; simpa using this, fun i j q => h.sub (i + 1) j q⟩
    have h3 := Sub.sum_le h2
    rw [List.sum_cons, List.sum_cons] at e
    have e1 : x = y := by omega
    have e2 := Sub.eq_of_sum h2 (by omega)
    rw [e1, e2]
def Bd (n : Nat) (xs : List Nat) : Prop := xs.length = n ∧ ∀ x ∈ xs, x < 2 ^ n
theorem sum_le_of (b : Nat) : ∀ xs : List Nat, (∀ x ∈ xs, x < b) → xs.sum ≤ xs.length * b
  | [], _ => by simp
  | x :: xs, h => by
    have h1 := h x (by simp)
    have h2 := sum_le_of b xs fun y hy => h y (by simp [hy])
    rw [List.sum_cons, List.length_cons, Nat.succ_mul]
    omega
theorem Bd.get {n : Nat} {xs : List Nat} (h : Bd n xs) (i : Nat) : xs.getD i 0 < 2 ^ n := by
  rw [List.getD_eq_getElem?_getD]
  cases e : xs[i]? with
  | none => exact Nat.two_pow_pos n
  | some x => exact h.2 x (List.mem_of_getElem? e)
theorem Bd.orAt {n : Nat} {xs : List Nat} (h : Bd n xs) (i : Nat) {m : Nat} (hm : m < 2 ^ n) : Bd n (orAt xs i m) := by
  refine ⟨(orAt_length xs i m).trans h.1, fun x hx => ?_⟩
  rcases List.mem_or_eq_of_mem_set hx with q | q
  · exact h.2 x q
  · rw [q]
    exact Nat.or_lt_two_pow (h.get i) hm
theorem Bd.bt_lt {n : Nat} {xs : List Nat} (h : Bd n xs) {i j : Nat} (q : bt xs i j = true) : i < n ∧ j < n := by
  refine ⟨by rw [← h.1]; exact K54.bt_lt q, ?_⟩
  by_cases e : j < n
  · exact e
  · have := Nat.testBit_lt_two_pow (Nat.lt_of_lt_of_le (h.get i) (Nat.pow_le_pow_right (by decide) (Nat.le_of_not_lt e)))
    unfold bt at q
    rw [this] at q
    cases q

/-! ### what is known -/
structure Kn where
  up : List Nat
  be : List Nat
  deriving DecidableEq
def Kn.Le (s t : Kn) : Prop := Sub s.up t.up ∧ Sub s.be t.be
theorem Kn.Le.refl (s : Kn) : s.Le s := ⟨.refl _, .refl _⟩
theorem Kn.Le.trans {s t u : Kn} (h : s.Le t) (g : t.Le u) : s.Le u := ⟨h.1.trans g.1, h.2.trans g.2⟩
theorem Kn.Le.antisymm {s t : Kn} (h : s.Le t) (g : t.Le s) : s = t := by
  have h1 := h.1.antisymm g.1
  have h2 := h.2.antisymm g.2
  cases s; cases t
  simp only at h1 h2
  rw [h1, h2]
def Kn.sum (s : Kn) : Nat := s.up.sum + s.be.sum
/-- more is known -/
theorem Kn.Le.sum_lt {s t : Kn} (h : s.Le t) (ne : s ≠ t) : s.sum < t.sum := by
  have h1 := h.1.sum_le
  have h2 := h.2.sum_le
  unfold Kn.sum
  by_cases e : s.up.sum + s.be.sum < t.up.sum + t.be.sum
  · exact e
  · have a := h.1.eq_of_sum (by omega)
    have b := h.2.eq_of_sum (by omega)
    cases s; cases t
    simp only at a b
    exact absurd (by rw [a, b]) ne
/-- numbers for the values agree with what is known -/
def Kn.Has (s : Kn) (v : Nat → Int) : Prop := (∀ i j, bt s.up i j = true → v i ≤ v j) ∧ ∀ i j, bt s.be i j = true → v i < v j
theorem Kn.Has.down {s t : Kn} {v : Nat → Int} (h : t.Has v) (l : s.Le t) : s.Has v := ⟨fun i j q => h.1 i j (l.1.sub i j q), fun i j q => h.2 i j (l.2.sub i j q)⟩
structure Kn.Wf (n : Nat) (s : Kn) : Prop where
  bu : Bd n s.up
  bb : Bd n s.be
  bl : ∀ i j, bt s.be i j = true → bt s.up i j = true
  rf : ∀ i, i < n → bt s.up i i = true
/-- no more is known than there are bits -/
def cap (n : Nat) : Nat := 2 * (n * 2 ^ n)
theorem Kn.Wf.sum_le {n : Nat} {s : Kn} (h : s.Wf n) : s.sum ≤ cap n := by
  have h1 := sum_le_of _ _ h.bu.2
  have h2 := sum_le_of _ _ h.bb.2
  rw [h.bu.1] at h1
  rw [h.bb.1] at h2
  unfold Kn.sum cap
  omega
def Keep (qs : List Quad) (v : Nat → Int) : Prop := ∀ q ∈ qs, Keeps v q
/-- from s to t: only what follows -/
structure Adv (n : Nat) (qs : List Quad) (s t : Kn) : Prop where
  wf : s.Wf n → t.Wf n
  le : s.Le t
  has : ∀ v, Keep qs v → s.Has v → t.Has v
theorem Adv.refl (n : Nat) (qs : List Quad) (s : Kn) : Adv n qs s s := ⟨id, .refl s, fun _ _ h => h⟩
theorem Adv.trans {n : Nat} {qs : List Quad} {s t u : Kn} (a : Adv n qs s t) (b : Adv n qs t u) : Adv n qs s u :=
  ⟨fun h => b.wf (a.wf h), a.le.trans b.le, fun v k h => b.has v k (a.has v k h)⟩
def Kn.put (s : Kn) (i j : Nat) (b : Bool) : Kn := ⟨orAt s.up i (2 ^ j), if b then orAt s.be i (2 ^ j) else s.be⟩
theorem put_up {s : Kn} {i j a c : Nat} {b : Bool} : bt (s.put i j b).up a c = true ↔ bt s.up a c = true ∨ (a = i ∧ i < s.up.length ∧ j = c) := by
  show bt (orAt s.up i (2 ^ j)) a c = true ↔ _
  rw [bt_orAt, Nat.testBit_two_pow, decide_eq_true_eq]
theorem put_be {s : Kn} {i j a c : Nat} {b : Bool} : bt (s.put i j b).be a c = true ↔ bt s.be a c = true ∨ (b = true ∧ a = i ∧ i < s.be.length ∧ j = c) := by
  cases b with
  | false => simp [Kn.put]
  | true =>
    show bt (orAt s.be i (2 ^ j)) a c = true ↔ _
    rw [bt_orAt, Nat.testBit_two_pow, decide_eq_true_eq]
    simp
theorem put_le (s : Kn) (i j : Nat) (b : Bool) : s.Le (s.put i j b) := by
  refine ⟨sub_orAt _ _ _, ?_⟩
  cases b with
  | false => exact .refl _
  | true => exact sub_orAt _ _ _
theorem put_wf {n : Nat} {s : Kn} {i j : Nat} (b : Bool) (hj : j < n) (h : s.Wf n) : (s.put i j b).Wf n := by
  have hp : 2 ^ j < 2 ^ n := Nat.pow_lt_pow_right (by decide) hj
  refine ⟨h.bu.orAt i hp, ?_, fun a c q => ?_, fun a ha => (put_le s i j b).1.sub a a (h.rf a ha)⟩
  · cases b with
    | false => exact h.bb
    | true => exact h.bb.orAt i hp
  · rcases put_be.mp q with q | ⟨_, e1, e2, e3⟩
    · exact put_up.mpr (.inl (h.bl a c q))
    · exact put_up.mpr (.inr ⟨e1, by rw [h.bu.1, ← h.bb.1]; exact e2, e3⟩)
theorem put_has {s : Kn} {i j : Nat} {b : Bool} {v : Nat → Int} (h : s.Has v) (h1 : v i ≤ v j) (h2 : b = true → v i < v j) : (s.put i j b).Has v := by
  refine ⟨fun a c q => ?_, fun a c q => ?_⟩
  · rcases put_up.mp q with q | ⟨e1, _, e3⟩
    · exact h.1 a c q
    · rw [e1, ← e3]
      exact h1
  · rcases put_be.mp q with q | ⟨e0, e1, _, e3⟩
    · exact h.2 a c q
    · rw [e1, ← e3]
      exact h2 e0
theorem adv_put {n : Nat} {qs : List Quad} {s : Kn} {i j : Nat} {b : Bool} (hj : j < n) (h : ∀ v, Keep qs v → s.Has v → v i ≤ v j ∧ (b = true → v i < v j)) : Adv n qs s (s.put i j b) :=
  ⟨put_wf b hj, put_le s i j b, fun v k hv => put_has hv (h v k hv).1 (h v k hv).2⟩
/-- by values between -/
def tstep (s : Kn) (k i : Nat) : Kn :=
  if bt s.up i k then ⟨orAt s.up i (s.up.getD k 0), orAt s.be i (if bt s.be i k then (orAt s.up i (s.up.getD k 0)).getD k 0 else s.be.getD k 0)⟩ else s
theorem same_or {xs : List Nat} {i k : Nat} : (orAt xs i (xs.getD k 0)).getD k 0 = xs.getD k 0 := by
  rw [getD_orAt]
  by_cases h : k = i ∧ i < xs.length
  · rw [if_pos h, h.1, Nat.or_self]
  · rw [if_neg h]
theorem adv_tstep {n : Nat} {qs : List Quad} (s : Kn) (k i : Nat) : Adv n qs s (tstep s k i) := by
  unfold tstep
  by_cases e : bt s.up i k = true
  · rw [if_pos e, same_or]
    refine ⟨fun h => ⟨h.bu.orAt i (h.bu.get k), h.bb.orAt i ?_, fun a c q => ?_, fun a ha => (sub_orAt _ _ _).sub a a (h.rf a ha)⟩, ⟨sub_orAt _ _ _, sub_orAt _ _ _⟩, fun v hk hv => ⟨fun a c q => ?_, fun a c q => ?_⟩⟩
    · split
      · exact h.bu.get k
      · exact h.bb.get k
    · rcases (bt_orAt _ _ _ _ _).mp q with q | ⟨e1, e2, e3⟩
      · exact (bt_orAt _ _ _ _ _).mpr (.inl (h.bl a c q))
      · refine (bt_orAt _ _ _ _ _).mpr (.inr ⟨e1, by rw [h.bu.1, ← h.bb.1]; exact e2, ?_⟩)
        split at e3
        · exact e3
        · exact h.bl k c e3
    · rcases (bt_orAt _ _ _ _ _).mp q with q | ⟨e1, e2, e3⟩
      · exact hv.1 a c q
      · rw [e1]
        exact Int.le_trans (hv.1 i k e) (hv.1 k c e3)
    · rcases (bt_orAt _ _ _ _ _).mp q with q | ⟨e1, e2, e3⟩
      · exact hv.2 a c q
      · rw [e1]
        split at e3
        · rename_i hb
          exact Int.lt_of_lt_of_le (hv.2 i k hb) (hv.1 k c e3)
        · exact Int.lt_of_le_of_lt (hv.1 i k e) (hv.2 k c e3)
  · rw [if_neg e]
    exact .refl n qs s
/-- by two steps -/
def rstep (s : Kn) (q : Quad) : Kn :=
  let a := if bt s.up q.1 q.2.1 then s.put q.2.2.1 q.2.2.2 false else s
  if bt a.be q.2.2.2 q.2.2.1 then a.put q.2.1 q.1 true else a
def QIn (n : Nat) (q : Quad) : Prop := q.1 < n ∧ q.2.1 < n ∧ q.2.2.1 < n ∧ q.2.2.2 < n
theorem adv_rstep1 {n : Nat} {qs : List Quad} {q : Quad} (hq : q ∈ qs) (hn : QIn n q) (s : Kn) (e : bt s.up q.1 q.2.1 = true) : Adv n qs s (s.put q.2.2.1 q.2.2.2 false) :=
  adv_put hn.2.2.2 fun v hk hv => ⟨hk q hq (hv.1 _ _ e), fun z => by cases z⟩
theorem adv_rstep2 {n : Nat} {qs : List Quad} {q : Quad} (hq : q ∈ qs) (hn : QIn n q) (s : Kn) (e : bt s.be q.2.2.2 q.2.2.1 = true) : Adv n qs s (s.put q.2.1 q.1 true) :=
  adv_put hn.1 fun v hk hv => by
    have h1 := hv.2 _ _ e
    have h2 : v q.2.1 < v q.1 := by
      by_cases z : v q.1 ≤ v q.2.1
      · have h3 : v q.2.2.1 ≤ v q.2.2.2 := hk q hq z
        omega
      · omega
    exact ⟨Int.le_of_lt h2, fun _ => h2⟩
theorem adv_rstep {n : Nat} {qs : List Quad} {q : Quad} (hq : q ∈ qs) (hn : QIn n q) (s : Kn) : Adv n qs s (rstep s q) := by
  unfold rstep
  have h1 : Adv n qs s (if bt s.up q.1 q.2.1 then s.put q.2.2.1 q.2.2.2 false else s) := by
    split
    · rename_i e
      exact adv_rstep1 hq hn s e
    · exact .refl n qs s
  generalize (if bt s.up q.1 q.2.1 then s.put q.2.2.1 q.2.2.2 false else s) = a at h1 ⊢
  show Adv n qs s (if bt a.be q.2.2.2 q.2.2.1 then a.put q.2.1 q.1 true else a)
  split
  · rename_i e
    exact h1.trans (adv_rstep2 hq hn a e)
  · exact h1
/-- nothing new comes -/
structure Closed (n : Nat) (qs : List Quad) (s : Kn) : Prop where
  t : ∀ k i, k < n → i < n → tstep s k i = s
  r : ∀ q ∈ qs, rstep s q = s
def Contr (n : Nat) (s : Kn) : Prop := ∃ i, i < n ∧ bt s.be i i = true
theorem Contr.no {n : Nat} {s : Kn} (h : Contr n s) {v : Nat → Int} (hv : s.Has v) : False := by
  obtain ⟨i, _, h⟩ := h
  exact absurd (hv.2 i i h) (Int.lt_irrefl _)
/-- nothing is known of the two values -/
def Opn (s : Kn) (i j : Nat) : Prop := bt s.up i j = false ∧ bt s.be j i = false
def Total (n : Nat) (s : Kn) : Prop := ∀ i j, i < n → j < n → i ≠ j → ¬ Opn s i j

/-! ### a total order gives numbers -/
theorem Closed.uu {n : Nat} {qs : List Quad} {s : Kn} (h : Closed n qs s) (w : s.Wf n) {i k j : Nat} (h1 : bt s.up i k = true) (h2 : bt s.up k j = true) : bt s.up i j = true := by
  have hi := w.bu.bt_lt h1
  have e := h.t k i hi.2 hi.1
  unfold tstep at e
  rw [if_pos h1] at e
  have e1 := congrArg Kn.up e
  simp only at e1
  rw [← e1]
  exact (bt_orAt _ _ _ _ _).mpr (.inr ⟨rfl, by rw [w.bu.1]; exact hi.1, h2⟩)
theorem Closed.ub {n : Nat} {qs : List Quad} {s : Kn} (h : Closed n qs s) (w : s.Wf n) {i k j : Nat} (h1 : bt s.up i k = true) (h2 : bt s.be k j = true) : bt s.be i j = true := by
  have hi := w.bu.bt_lt h1
  have e := h.t k i hi.2 hi.1
  unfold tstep at e
  rw [if_pos h1, same_or] at e
  have e1 := congrArg Kn.be e
  simp only at e1
  rw [← e1]
  refine (bt_orAt _ _ _ _ _).mpr (.inr ⟨rfl, by rw [w.bb.1]; exact hi.1, ?_⟩)
  split
  · exact w.bl k j h2
  · exact h2
theorem Closed.bu {n : Nat} {qs : List Quad} {s : Kn} (h : Closed n qs s) (w : s.Wf n) {i k j : Nat} (h1 : bt s.be i k = true) (h2 : bt s.up k j = true) : bt s.be i j = true := by
  have h0 := w.bl i k h1
  have hi := w.bu.bt_lt h0
  have e := h.t k i hi.2 hi.1
  unfold tstep at e
  rw [if_pos h0, same_or] at e
  have e1 := congrArg Kn.be e
  simp only at e1
  rw [← e1]
  refine (bt_orAt _ _ _ _ _).mpr (.inr ⟨rfl, by rw [w.bb.1]; exact hi.1, ?_⟩)
  rw [if_pos h1]
  exact h2
def cnt (n : Nat) (s : Kn) (k : Nat) : Int := (((List.range n).countP fun i => bt s.be i k : Nat) : Int)
theorem countP_lt {α : Type} {p q : α → Bool} : ∀ {l : List α}, (∀ x ∈ l, p x = true → q x = true) → (∃ x ∈ l, p x = false ∧ q x = true) → l.countP p < l.countP q
  | [], _, h => by obtain ⟨x, hx, _⟩ := h; cases hx
  | y :: l, h, g => by
    have hl : ∀ x ∈ l, p x = true → q x = true := fun x hx => h x (List.mem_cons_of_mem _ hx)
    have le : l.countP p ≤ l.countP q := List.countP_mono_left hl
    obtain ⟨x, hx, h1, h2⟩ := g
    rw [List.countP_cons, List.countP_cons]
    rcases List.mem_cons.mp hx with e | hx
    · rw [← e, h1, h2]
      simp
      omega
    · have lt := countP_lt hl ⟨x, hx, h1, h2⟩
      have hy := h y (List.mem_cons_self ..)
      cases a : p y with
      | true => rw [hy a]; simp; omega
      | false =>
        cases b : q y with
        | true => simp; omega
        | false => simp; omega
theorem total_has {n : Nat} {qs : List Quad} {s : Kn} (w : s.Wf n) (h : Closed n qs s) (nc : ¬ Contr n s) (ht : Total n s) (hq : ∀ q ∈ qs, QIn n q) : s.Has (cnt n s) ∧ Keep qs (cnt n s) := by
  have le : ∀ i j, bt s.up i j = true → cnt n s i ≤ cnt n s j := fun i j e => by
    have := List.countP_mono_left (l := List.range n) (p := fun x => bt s.be x i) (q := fun x => bt s.be x j) fun x _ hx => h.bu w hx e
    unfold cnt
    omega
  have lt : ∀ i j, bt s.be i j = true → cnt n s i < cnt n s j := fun i j e => by
    have hi := w.bb.bt_lt e
    have := countP_lt (l := List.range n) (p := fun x => bt s.be x i) (q := fun x => bt s.be x j) (fun x _ hx => h.bu w hx (w.bl i j e)) ⟨i, List.mem_range.mpr hi.1, by
      cases z : bt s.be i i with
      | false => rfl
      | true => exact absurd ⟨i, hi.1, z⟩ nc, e⟩
    unfold cnt
    omega
  refine ⟨⟨le, lt⟩, fun q hqm hle => ?_⟩
  have hn := hq q hqm
  have e1 : bt s.up q.1 q.2.1 = true := by
    by_cases e : q.1 = q.2.1
    · rw [← e]
      exact w.rf _ hn.1
    · have no := ht q.1 q.2.1 hn.1 hn.2.1 e
      cases a : bt s.up q.1 q.2.1 with
      | true => rfl
      | false =>
        cases b : bt s.be q.2.1 q.1 with
        | false => exact absurd ⟨a, b⟩ no
        | true =>
          have := lt _ _ b
          omega
  have e2 := h.r q hqm
  have e3 : s.Le (s.put q.2.2.1 q.2.2.2 false) ∧ (s.put q.2.2.1 q.2.2.2 false).Le (rstep s q) := by
    refine ⟨put_le _ _ _ _, ?_⟩
    unfold rstep
    rw [if_pos e1]
    show Kn.Le _ (if bt (s.put q.2.2.1 q.2.2.2 false).be q.2.2.2 q.2.2.1 then (s.put q.2.2.1 q.2.2.2 false).put q.2.1 q.1 true else s.put q.2.2.1 q.2.2.2 false)
    split
    · exact put_le _ _ _ _
    · exact .refl _
  rw [e2] at e3
  refine le _ _ (e3.2.1.sub _ _ (put_up.mpr (.inr ⟨rfl, by rw [w.bu.1]; exact hn.2.2.1, rfl⟩)))
/-- one comparison more, closed -/
structure More (n : Nat) (qs : List Quad) (s : Kn) (i j : Nat) (b : Bool) (t : Kn) : Prop where
  wf : t.Wf n
  le : s.Le t
  has : ∀ v, Keep qs v → s.Has v → v i ≤ v j → (b = true → v i < v j) → t.Has v
  up : bt t.up i j = true
  be : b = true → bt t.be i j = true
  cl : Contr n t ∨ Closed n qs t
theorem more_of {n : Nat} {qs : List Quad} {s t : Kn} {i j : Nat} {b : Bool} (w : s.Wf n) (hi : i < n) (hj : j < n) (a : Adv n qs (s.put i j b) t) (cl : Contr n t ∨ Closed n qs t) : More n qs s i j b t where
  wf := a.wf (put_wf b hj w)
  le := (put_le s i j b).trans a.le
  has := fun v k h h1 h2 => a.has v k (put_has h h1 h2)
  up := a.le.1.sub _ _ (put_up.mpr (.inr ⟨rfl, by rw [w.bu.1]; exact hi, rfl⟩))
  be := fun e => a.le.2.sub _ _ (put_be.mpr (.inr ⟨e, rfl, by rw [w.bb.1]; exact hi, rfl⟩))
  cl := cl
end K54
namespace K54
open PySem PySem.Spec PyProof.Rows L2
/-! ### the text by places -/
def top (i : Nat) : Stmt := PySem.Challenge.pw_newsinorder_k54_whole_orders_turned_and.main.body.getD i (.Pass ⟨0, 0, 0, 0⟩)
abbrev s_is_row : Stmt := top 8
abbrev s_never_slower : Stmt := top 10
abbrev s_row_values : Stmt := top 11
abbrev s_step_rules : Stmt := top 12
abbrev s_O_init : Stmt := inClass (top 13) 0
abbrev s_O_is_upto : Stmt := inClass (top 13) 1
abbrev s_O_is_below : Stmt := inClass (top 13) 2
abbrev s_O_with_more : Stmt := inClass (top 13) 3
abbrev s_O_put : Stmt := inClass (top 13) 4
abbrev s_O_go_through : Stmt := inClass (top 13) 5
abbrev s_O_use_rules : Stmt := inClass (top 13) 6
abbrev s_O_close : Stmt := inClass (top 13) 9
abbrev s_O_is_contrary : Stmt := inClass (top 13) 10
abbrev s_is_open : Stmt := top 16
abbrev s_bits : Stmt := top 17
abbrev s_weight : Stmt := top 18
abbrev s_premises : Stmt := top 19
abbrev s_chosen : Stmt := top 20
abbrev s_first_open : Stmt := top 21
abbrev s_tried : Stmt := top 22
abbrev s_completed : Stmt := top 23
abbrev s_need_rows : Stmt := top 27
abbrev s_values_of : Stmt := top 28
abbrev s_known_of : Stmt := top 29
abbrev s_whole_order : Stmt := top 30
abbrev s_with_ends : Stmt := top 31
abbrev s_order_behind : Stmt := top 32
abbrev s_ranks : Stmt := top 33
abbrev s_orders : Stmt := top 34
abbrev s_law_begun : Stmt := top 36
abbrev s_law_next : Stmt := top 37
abbrev s_law_pick : Stmt := top 38
abbrev s_law_shuffled : Stmt := top 39
abbrev s_law_other : Stmt := top 40
abbrev s_law_swapped : Stmt := top 41
abbrev s_law_some : Stmt := top 42
abbrev s_law_row : Stmt := top 43
abbrev s_law_rides : Stmt := top 44
abbrev s_law_moment : Stmt := top 45
abbrev s_law_end : Stmt := top 46
abbrev s_law_begin : Stmt := top 47
abbrev s_law_go : Stmt := top 48
abbrev s_law_lines : Stmt := top 49
abbrev s_law_place : Stmt := top 50
abbrev s_law_order_of : Stmt := top 51
abbrev s_law_part : Stmt := top 52
abbrev s_law_ends : Stmt := top 53
abbrev s_law_dense : Stmt := top 54
abbrev s_law_same : Stmt := top 55
abbrev s_law_made : Stmt := top 56
abbrev s_law : Stmt := top 57
/-! ### what the top has written -/
structure Txt (mg : Str → Option Value) : Prop where
  isinstance : mg "isinstance" = none
  len : mg "len" = none
  all : mg "all" = none
  sum : mg "sum" = none
  any : mg "any" = none
  range : mg "range" = none
  sorted : mg "sorted" = none
  set : mg "set" = none
  list : mg "list" = none
  tuple : mg "tuple" = none
  dict : mg "dict" = none
  zip : mg "zip" = none
  enumerate : mg "enumerate" = none
  abs : mg "abs" = none
  int : mg "int" = none
  min : mg "min" = none
  str : mg "str" = none
  MOST_STEPS_rows : ∃ t, mg "MOST_STEPS_rows" = some (.int 60 t)
  MOST_LOOKED_AT : ∃ t, mg "MOST_LOOKED_AT" = some (.int 12 t)
  MOST_ROWS : ∃ t, mg "MOST_ROWS" = some (.int 4 t)
  MOST_STEPS_orders : ∃ t, mg "MOST_STEPS_orders" = some (.int 8 t)
  LINKS : ∃ t, mg "LINKS" = some (.str "abcd" t)
  STEPS : ∃ t, mg "STEPS" = some (.str "ABCDabcd" t)
/-- a def of the text as it stands behind the top -/
abbrev FnP (K : PySem.W.Frag) (x : Str) (st : Stmt) (f : Addr) (fd : FuncData) : Prop := FunD K x x (defArgs st) (defBody st) (defScope st) [] [] f fd
abbrev FnM (K : PySem.W.Frag) (x q : Str) (st : Stmt) (f : Addr) (fd : FuncData) : Prop := FunD K x q (defArgs st) (defBody st) (defScope st) [] [] f fd
/-- the module's name x is a def that keeps the promise sp -/
def Df (P : Program) (w : World) (K : PySem.W.Frag) (mg : Str → Option Value) (base : Heap) (x : Str) (k : Nat) (ps : List Str) (sp : Sp) : Prop :=
  ∃ f fd, FnOk P w K mg base CX0 k f fd ps sp ∧ mg x = some (.ref f) ∧ PySem.W.keepIn K (.ref f) = true ∧ Binds K fd ps []
/-- the method m of the class at C keeps the promise sp -/
def DfM (P : Program) (w : World) (K : PySem.W.Frag) (mg : Str → Option Value) (base : Heap) (C : Addr) (m : Str) (k : Nat) (ps : List Str) (sp : Sp) : Prop :=
  ∃ f fd, FnOk P w K mg base CX0 k f fd ps sp ∧ Meth K C m f ∧ Binds K fd ps []
section
variable {X : Cx} {x m : Str} {k : Nat} {ps : List Str} {sp : Sp} {e o : Expr} {es : List Expr} {t : TA} {to : TE} {p pos apos : Pos} {C : Addr}
theorem pe_callD (D : Df X.prog X.w X.K X.mg X.base x k ps sp) (hr : Room k X.A) (hg : Gl X x) (ha : PA X (e :: es) t) (hdb : (x == ("__debug__" : Str)) = false := by decide)
    (h1 : starEach (e :: es) X.env = (false, eval e X.env) :: starEach es X.env := by rfl) (h2 : (backTo pos (starEach es X.env)).any (·.1) = false := by rfl) : PE X (.Call (.Name x p) (e :: es) [] pos) (tCall sp [] E0 t) := by
  obtain ⟨f, fd, G, hm, kp, b⟩ := D
  exact pe_call G hr hg hm kp b .nil pass0 ha hdb h1 h2
theorem pe_methD {pl : Sem Bool} (c : Cls X.K C) (D : DfM X.prog X.w X.K X.mg X.base C m k ps sp) (hr : Room k X.A) (ho : PE X o to) (ha : PA X (e :: es) t)
    (h1 : starEach (e :: es) X.env = (false, eval e X.env) :: starEach es X.env := by rfl) (h2 : (backTo pos (starEach es X.env)).any (·.1) = false := by rfl)
    (h3 : eval (.Call (.Attribute o m apos) (e :: es) [] pos) X.env = (do let ov ← eval o X.env; standAt apos.atName; let (f, first) ← holding [ov] (getMethod ov m pl); callWith pos f first (backTo pos (starEach (e :: es) X.env)) (backToKw pos (keywordEach [] X.env))) := by rfl) :
    PE X (.Call (.Attribute o m apos) (e :: es) [] pos) (tMeth C m sp [] E0 to t) := by
  obtain ⟨f, fd, G, hm, b⟩ := D
  exact pe_meth ho c hm G hr b .nil pass0 ha h1 h2 h3
theorem pe_methD0 {pl : Sem Bool} (c : Cls X.K C) (D : DfM X.prog X.w X.K X.mg X.base C m k ps sp) (hr : Room k X.A) (ho : PE X o to)
    (h3 : eval (.Call (.Attribute o m apos) [] [] pos) X.env = (do let ov ← eval o X.env; standAt apos.atName; let (f, first) ← holding [ov] (getMethod ov m pl); callWith pos f first (backTo pos (starEach [] X.env)) (backToKw pos (keywordEach [] X.env))) := by rfl) :
    PE X (.Call (.Attribute o m apos) [] [] pos) (tMeth C m sp [] E0 to tNil) := by
  obtain ⟨f, fd, G, hm, b⟩ := D
  exact pe_meth0 ho c hm G hr b .nil pass0 h3
theorem pe_gI {i : Int} (h : ∃ t, X.mg x = some (.int i t)) (hg : Gl X x) (hdb : (x == ("__debug__" : Str)) = false := by decide) : PE X (.Name x pos) (tC (.int i)) := by
  obtain ⟨t, e⟩ := h
  exact pe_glob hg e ⟨_, rfl⟩ hdb
theorem pe_gS {z : Str} (h : ∃ t, X.mg x = some (.str z t)) (hg : Gl X x) (hdb : (x == ("__debug__" : Str)) = false := by decide) : PE X (.Name x pos) (tC (.str z)) := by
  obtain ⟨t, e⟩ := h
  exact pe_glob hg e ⟨_, rfl⟩ hdb
end
end K54
namespace K54
open PySem PySem.Spec PyProof.Rows L2
/-! ### small lists of numbers, tuples in a row -/
def NL (xs : List Nat) : List V := xs.map fun (x : Nat) => V.int (x : Int)
theorem NL_length (xs : List Nat) : (NL xs).length = xs.length := List.length_map ..
theorem NL_get {xs : List Nat} {i : Nat} (h : i < xs.length) : (NL xs)[i]? = some (.int ((xs.getD i 0 : Nat) : Int)) := by
  unfold NL
  rw [List.getElem?_map, List.getD_eq_getElem?_getD, List.getElem?_eq_getElem h]
  rfl
theorem NL_set (xs : List Nat) (i m : Nat) : (NL xs).set i (.int (m : Int)) = NL (xs.set i m) := by
  unfold NL
  rw [List.map_set]
/-- at ts stand the tuples of xs -/
structure Tps {α : Type} (f : α → List V) (H : Hp) (ts : List Addr) (xs : List α) : Prop where
  len : ts.length = xs.length
  at_ : ∀ (k : Nat) (t : Addr) (x : α), ts[k]? = some t → xs[k]? = some x → H t = some (.tup (f x))
theorem Tps.same {α : Type} {f : α → List V} {H H' : Hp} {ts : List Addr} {xs : List α} (h : Tps f H ts xs) (g : ∀ t ∈ ts, ∀ o, H t = some o → H' t = some o) : Tps f H' ts xs :=
  ⟨h.len, fun k t x h1 h2 => g t (List.mem_of_getElem? h1) _ (h.at_ k t x h1 h2)⟩
theorem Tps.nil {α : Type} {f : α → List V} {H : Hp} : Tps f H [] ([] : List α) := ⟨rfl, fun _ _ _ h => by cases h⟩
theorem Tps.mem {α : Type} {f : α → List V} {H : Hp} {ts : List Addr} {xs : List α} (h : Tps f H ts xs) {t : Addr} (ht : t ∈ ts) : ∃ x, x ∈ xs ∧ H t = some (.tup (f x)) := by
  obtain ⟨k, hk⟩ := List.mem_iff_getElem?.mp ht
  have hl : k < xs.length := by rw [← h.len]; exact (List.getElem?_eq_some_iff.mp hk).1
  exact ⟨xs[k], List.getElem_mem hl, h.at_ k t _ hk (List.getElem?_eq_getElem hl)⟩
theorem Tps.snoc {α : Type} {f : α → List V} {H : Hp} {ts : List Addr} {xs : List α} {t : Addr} {x : α} (h : Tps f H ts xs) (g : H t = some (.tup (f x))) : Tps f H (ts ++ [t]) (xs ++ [x]) := by
  refine ⟨by rw [List.length_append, List.length_append, h.len]; rfl, fun k a y h1 h2 => ?_⟩
  by_cases e : k < ts.length
  · rw [List.getElem?_append_left e] at h1
    rw [List.getElem?_append_left (by rw [← h.len]; exact e)] at h2
    exact h.at_ k a y h1 h2
  · have l1 := (List.getElem?_eq_some_iff.mp h1).1
    rw [List.length_append, List.length_singleton] at l1
    have e2 : k = ts.length := by omega
    rw [e2, List.getElem?_append_right (Nat.le_refl _), Nat.sub_self] at h1
    rw [e2, h.len, List.getElem?_append_right (Nat.le_refl _), Nat.sub_self] at h2
    cases h1
    cases h2
    exact g

/-! ### bits as the program reads them -/
theorem bit_val (x j : Nat) : (decide (V.int (Builtin.bitAnd ((x : Int) / 2 ^ (j : Int).toNat) 1) = V.int 1)) = x.testBit j := by
  have e1 : (x : Int) / 2 ^ (j : Int).toNat = ((x : Int)).fdiv (2 ^ j) := by
    rw [Int.toNat_natCast, Int.fdiv_eq_ediv_of_nonneg _ (by exact_mod_cast Nat.zero_le (2 ^ j))]
  rw [e1, Bits.bit_at, dec_int, Nat.testBit_eq_decide_div_mod_eq]
  have e2 : ((x : Int) / 2 ^ j % 2) = ((x / 2 ^ j % 2 : Nat) : Int) := by norm_cast
  rw [e2]
  by_cases h : x / 2 ^ j % 2 = 1
  · rw [h]; rfl
  · have h2 : ¬ ((x / 2 ^ j % 2 : Nat) : Int) = 1 := fun q => h (by exact_mod_cast q)
    rw [decide_eq_false h]
    exact beq_eq_false_iff_ne.mpr h2
theorem or_val (x m : Nat) : Builtin.bitOr (x : Int) (m : Int) = ((x ||| m : Nat) : Int) := by
  rw [Bits.bitOr_pp (by omega) (by omega), Int.toNat_natCast, Int.toNat_natCast]
theorem shl_val (j : Nat) : (1 : Int) * 2 ^ (j : Int).toNat = ((2 ^ j : Nat) : Int) := by
  rw [Int.toNat_natCast, Int.one_mul]
  norm_cast

/-! ### an Order -/
theorem n_rj : ¬ (("rules" : Str) = "joints") := by decide +kernel
theorem n_ru : ¬ (("rules" : Str) = "upto") := by decide +kernel
theorem n_rb : ¬ (("rules" : Str) = "below") := by decide +kernel
theorem n_ju : ¬ (("joints" : Str) = "upto") := by decide +kernel
theorem n_jb : ¬ (("joints" : Str) = "below") := by decide +kernel
theorem n_ub : ¬ (("upto" : Str) = "below") := by decide +kernel
def oF (r j u b : Addr) : List (Str × V) := putF "below" (.ref b) (putF "upto" (.ref u) (putF "joints" (.ref j) (putF "rules" (.ref r) [])))
theorem putF_length (f : Str) (v : V) : ∀ fs : List (Str × V), (putF f v fs).length ≤ fs.length + 1
  | [] => Nat.le_refl _
  | (g, y) :: r => by
    unfold putF
    split
    · exact Nat.le_succ _
    · have := putF_length f v r
      simp only [List.length_cons]
      omega
section
variable (r j u b : Addr)
theorem oF_r : (oF r j u b).lookup ("rules" : Str) = some (.ref r) := by
  unfold oF
  rw [lookup_putF, if_neg n_rb, lookup_putF, if_neg n_ru, lookup_putF, if_neg n_rj, lookup_putF, if_pos rfl]
theorem oF_j : (oF r j u b).lookup ("joints" : Str) = some (.ref j) := by
  unfold oF
  rw [lookup_putF, if_neg n_jb, lookup_putF, if_neg n_ju, lookup_putF, if_pos rfl]
theorem oF_u : (oF r j u b).lookup ("upto" : Str) = some (.ref u) := by
  unfold oF
  rw [lookup_putF, if_neg n_ub, lookup_putF, if_pos rfl]
theorem oF_b : (oF r j u b).lookup ("below" : Str) = some (.ref b) := by
  unfold oF
  rw [lookup_putF, if_pos rfl]
theorem oF_no {m : Str} (h1 : ¬ m = "rules") (h2 : ¬ m = "joints") (h3 : ¬ m = "upto") (h4 : ¬ m = "below") : (oF r j u b).lookup m = none := by
  unfold oF
  rw [lookup_putF, if_neg h4, lookup_putF, if_neg h3, lookup_putF, if_neg h2, lookup_putF, if_neg h1]
  rfl
end
/-- the class Order as the top has made it -/
structure OC (K : PySem.W.Frag) (C : Addr) : Prop where
  cl : Cls K C
  nR : NoAttr K C "rules"
  nJ : NoAttr K C "joints"
  nU : NoAttr K C "upto"
  nB : NoAttr K C "below"
/-- where an Order and its parts stand -/
structure Ob where
  p : Addr
  r : Addr
  j : Addr
  u : Addr
  b : Addr
  ts : List Addr
def qV (q : Quad) : List V := [.int (q.1 : Int), .int (q.2.1 : Int), .int (q.2.2.1 : Int), .int (q.2.2.2 : Int)]
structure OA (C : Addr) (H : Hp) (o : Ob) (qs : List Quad) (s : Kn) : Prop where
  ob : ∃ dx, H o.p = some (.ins C dx (oF o.r o.j o.u o.b))
  hr : H o.r = some (.lst (o.ts.map V.ref))
  hq : Tps qV H o.ts qs
  hj : H o.j = some (.lst [])
  hu : H o.u = some (.lst (NL s.up))
  hb : H o.b = some (.lst (NL s.be))
  ub : o.u ≠ o.b
  ur : o.u ≠ o.r
  uj : o.u ≠ o.j
  br : o.b ≠ o.r
  bj : o.b ≠ o.j
/-- all but u and b stands -/
def Kp (u b : Addr) (H H' : Hp) : Prop := ∀ c o, H c = some o → c ≠ u → c ≠ b → H' c = some o
theorem Kp.refl (u b : Addr) (H : Hp) : Kp u b H H := fun _ _ h _ _ => h
theorem Kp.trans {u b : Addr} {H H1 H2 : Hp} (h : Kp u b H H1) (g : Kp u b H1 H2) : Kp u b H H2 := fun c o e h1 h2 => g c o (h c o e h1 h2) h1 h2
theorem Kp.of_same {u b : Addr} {H H' : Hp} (h : Same H H') : Kp u b H H' := fun c o e _ _ => h c o e
theorem OA.same {C : Addr} {H H' : Hp} {o : Ob} {qs : List Quad} {s : Kn} (h : OA C H o qs s) (g : Same H H') : OA C H' o qs s where
  ob := let ⟨dx, e⟩ := h.ob; ⟨dx, g _ _ e⟩
  hr := g _ _ h.hr
  hq := h.hq.same fun t _ o e => g t o e
  hj := g _ _ h.hj
  hu := g _ _ h.hu
  hb := g _ _ h.hb
  ub := h.ub
  ur := h.ur
  uj := h.uj
  br := h.br
  bj := h.bj
theorem OA.next {C : Addr} {H H' : Hp} {o : Ob} {qs : List Quad} {s t : Kn} (h : OA C H o qs s) (g : Kp o.u o.b H H') (h1 : H' o.u = some (.lst (NL t.up))) (h2 : H' o.b = some (.lst (NL t.be))) : OA C H' o qs t where
  ob := let ⟨dx, e⟩ := h.ob; ⟨dx, g _ _ e (ne_of e h.hu (by intro z; cases z)) (ne_of e h.hb (by intro z; cases z))⟩
  hr := g _ _ h.hr (Ne.symm h.ur) (Ne.symm h.br)
  hq := h.hq.same fun t ht o' e => by
    obtain ⟨x, _, e2⟩ := h.hq.mem ht
    exact g t o' e (ne_of e2 h.hu (by intro z; cases z)) (ne_of e2 h.hb (by intro z; cases z))
  hj := g _ _ h.hj (Ne.symm h.uj) (Ne.symm h.bj)
  hu := h1
  hb := h2
  ub := h.ub
  ur := h.ur
  uj := h.uj
  br := h.br
  bj := h.bj

/-! ### rules that the layer lacks -/
section
variable {X : Cx}
def rIxN (K : PySem.W.Frag) : V → V → Hp → VK → Prop := fun x y H Q => ∃ (p : Addr) (xs : List V) (i : Nat) (v : V), x = .ref p ∧ y = .int (i : Int) ∧ SqL K H p xs ∧ xs[i]? = some v ∧ Q v H
theorem get_list : PGet X (rIxN X.K) := by
  intro pins s σ H o i ov iv Q I ro ri h
  obtain ⟨p, xs, k, z, rfl, rfl, hq, he, q⟩ := h
  cases ro
  obtain ⟨t, rfl⟩ := ri
  obtain ⟨its, r, pl, hz⟩ := I.list hq
  obtain ⟨w, ew, rw'⟩ := r.get he
  have hk := (List.getElem?_eq_some_iff.mp he).1
  have hn := line63
  exact wpAny_getItem_list pl.isList (by omega) (by omega) (by rw [Int.toNat_natCast]; simpa using ew) ⟨z, H, I, rw', q⟩
theorem ip_or : PIp X .BitOr (rI0 fun i j => .int (Builtin.bitOr i j)) := opI0 fun _ _ _ _ _ _ _ q => ior_int q
theorem ip_and : PIp X .BitAnd (rI0 fun i j => .int (Builtin.bitAnd i j)) := opI0 fun _ _ _ _ _ _ _ q => iand_int q
end
end K54
namespace K54
open PySem PySem.Spec PyProof.Rows L2
/-! ### the promises of an Order's methods -/
def spUpto (C : Addr) : Sp := fun vs H Q _ => ∃ (o : Ob) (qs : List Quad) (s : Kn) (i k : Nat), vs = [.ref o.p, .int (i : Int), .int (k : Int)] ∧ OA C H o qs s ∧ i < s.up.length ∧ Q (.bl (bt s.up i k)) H
def spBelow (C : Addr) : Sp := fun vs H Q _ => ∃ (o : Ob) (qs : List Quad) (s : Kn) (i k : Nat), vs = [.ref o.p, .int (i : Int), .int (k : Int)] ∧ OA C H o qs s ∧ i < s.be.length ∧ Q (.bl (bt s.be i k)) H
def spPut (C : Addr) : Sp := fun vs H Q _ => ∃ (o : Ob) (qs : List Quad) (s : Kn) (i k : Nat) (f : Bool), vs = [.ref o.p, .int (i : Int), .int (k : Int), .bl f] ∧ OA C H o qs s ∧ i < s.up.length ∧ i < s.be.length ∧ k ≤ 1000 ∧
  ∀ H', Kp o.u o.b H H' → OA C H' o qs (s.put i k f) → Q .non H'
def spInit (C : Addr) : Sp := fun vs H Q _ => ∃ (x r j u b dx : Addr), vs = [.ref x, .ref r, .ref j, .ref u, .ref b] ∧ H x = some (.ins C dx []) ∧
  Q .non (upd H x (.ins C dx (oF r j u b)))
section
variable {P : Program} {w : World} {K : PySem.W.Frag} {mg : Str → Option Value} {base : Heap} {C f : Addr} {fd : FuncData}
theorem scInit : FnScope ["self", "rules", "joints", "upto", "below"] ["self", "rules", "joints", "upto", "below"] (defScope s_O_init) := ⟨rfl, rfl, rfl, by decide +kernel, rfl, by decide +kernel, by decide +kernel⟩
theorem ok_init (T : OC K C) (F : FnM K "__init__" "Order.__init__" s_O_init f fd) : FnOk P w K mg base CX0 1 f fd ["self", "rules", "joints", "upto", "below"] (spInit C) := by
  refine F.ok scInit (fun vs H Q E h => ?_) (fun cdv A outer s H vs Q E hr h => ?_)
  · obtain ⟨x, r, j, u, b, dx, rfl, _⟩ := h
    rfl
  · obtain ⟨x, r, j, u, b, dx, rfl, hx, k⟩ := h
    refine ⟨_, PSs.nox (pss_cons (ps_fld (pv 0) (pv 1) rfl) (pss_cons (ps_fld (pv 0) (pv 2) rfl) (pss_cons (ps_fld (pv 0) (pv 3) rfl) (pss_one (ps_fld (pv 0) (pv 4) rfl))))), ?_⟩
    refine ⟨_, rfl, _, rfl, x, C, dx, _, rfl, hx, T.cl, T.nR, (by decide), ?_⟩
    refine ⟨_, rfl, _, rfl, x, C, dx, _, rfl, upd_same, T.cl, T.nJ, (by have := putF_length "rules" (.ref r) []; simp only [List.length_nil] at this; omega), ?_⟩
    refine ⟨_, rfl, _, rfl, x, C, dx, _, rfl, upd_same, T.cl, T.nU, (by
      have h1 := putF_length "rules" (.ref r) []
      have h2 := putF_length "joints" (.ref j) (putF "rules" (.ref r) [])
      simp only [List.length_nil] at h1
      omega), ?_⟩
    refine ⟨_, rfl, _, rfl, x, C, dx, _, rfl, upd_same, T.cl, T.nB, (by
      have h1 := putF_length "rules" (.ref r) []
      have h2 := putF_length "joints" (.ref j) (putF "rules" (.ref r) [])
      have h3 := putF_length "upto" (.ref u) (putF "joints" (.ref j) (putF "rules" (.ref r) []))
      simp only [List.length_nil] at h1
      omega), ?_⟩
    rw [upd_upd, upd_upd, upd_upd]
    exact k
theorem scUpto : FnScope ["self", "i", "j"] ["self", "i", "j"] (defScope s_O_is_upto) := ⟨rfl, rfl, rfl, by decide +kernel, rfl, by decide +kernel, by decide +kernel⟩
theorem ok_upto (T : OC K C) (F : FnM K "is_upto" "Order.is_upto" s_O_is_upto f fd) : FnOk P w K mg base CX0 1 f fd ["self", "i", "j"] (spUpto C) := by
  refine F.ok scUpto (fun vs H Q E h => ?_) (fun cdv A outer s H vs Q E hr h => ?_)
  · obtain ⟨o, qs, s, i, k, rfl, _⟩ := h
    rfl
  · obtain ⟨o, qs, kn, i, k, rfl, O, hi, q⟩ := h
    refine ⟨_, PSs.nox (pss_one (ps_ret (pe_cmpR op_eq (pe_op op_and (pe_op op_shr (pe_ix ix_list (pe_fld (pv 0) rfl) (pv 1) (fun _ _ => rfl)) (pv 2)) pe_int) pe_int (nomark _)))), ?_⟩
    obtain ⟨dx, e⟩ := O.ob
    refine ⟨_, rfl, o.p, C, dx, _, _, rfl, e, T.cl, T.nU, oF_u _ _ _ _, _, rfl, o.u, _, (i : Int), _, rfl, rfl, SqL.of O.hu, atI_nat (NL_get hi), _, rfl, _, _, rfl, rfl, (by omega), _, _, rfl, rfl, rfl, ?_⟩
    rw [bit_val]
    exact q
theorem scBelow : FnScope ["self", "i", "j"] ["self", "i", "j"] (defScope s_O_is_below) := ⟨rfl, rfl, rfl, by decide +kernel, rfl, by decide +kernel, by decide +kernel⟩
theorem ok_below (T : OC K C) (F : FnM K "is_below" "Order.is_below" s_O_is_below f fd) : FnOk P w K mg base CX0 1 f fd ["self", "i", "j"] (spBelow C) := by
  refine F.ok scBelow (fun vs H Q E h => ?_) (fun cdv A outer s H vs Q E hr h => ?_)
  · obtain ⟨o, qs, s, i, k, rfl, _⟩ := h
    rfl
  · obtain ⟨o, qs, kn, i, k, rfl, O, hi, q⟩ := h
    refine ⟨_, PSs.nox (pss_one (ps_ret (pe_cmpR op_eq (pe_op op_and (pe_op op_shr (pe_ix ix_list (pe_fld (pv 0) rfl) (pv 1) (fun _ _ => rfl)) (pv 2)) pe_int) pe_int (nomark _)))), ?_⟩
    obtain ⟨dx, e⟩ := O.ob
    refine ⟨_, rfl, o.p, C, dx, _, _, rfl, e, T.cl, T.nB, oF_b _ _ _ _, _, rfl, o.b, _, (i : Int), _, rfl, rfl, SqL.of O.hb, atI_nat (NL_get hi), _, rfl, _, _, rfl, rfl, (by omega), _, _, rfl, rfl, rfl, ?_⟩
    rw [bit_val]
    exact q
/-- a store to one of the two lists -/
theorem ixN_nat {n j : Nat} (h : j < n) : ixN n (j : Int) = some j := by
  unfold ixN
  rw [if_pos (by omega), if_pos (by omega), Int.toNat_natCast]
theorem orAt_eq (xs : List Nat) (i m : Nat) : (NL xs).set i (.int (Builtin.bitOr ((xs.getD i 0 : Nat) : Int) (m : Int))) = NL (orAt xs i m) := by
  rw [or_val, NL_set]
  rfl
theorem scPut : FnScope ["self", "i", "j", "is_strict"] ["self", "i", "j", "is_strict"] (defScope s_O_put) := ⟨rfl, rfl, rfl, by decide +kernel, rfl, by decide +kernel, by decide +kernel⟩
theorem ok_put (T : OC K C) (F : FnM K "put" "Order.put" s_O_put f fd) : FnOk P w K mg base CX0 1 f fd ["self", "i", "j", "is_strict"] (spPut C) := by
  refine F.ok scPut (fun vs H Q E h => ?_) (fun cdv A outer s H vs Q E hr h => ?_)
  · obtain ⟨o, qs, s, i, k, b, rfl, _⟩ := h
    rfl
  · obtain ⟨o, qs, kn, i, k, b, rfl, O, hi, hi2, hk, q⟩ := h
    refine ⟨_, PSs.nox (pss_cons (ps_augS (pe_fld (pv 0) rfl) (pv 1) get_list (pe_op op_shl pe_int (pv 2)) ip_or set_list)
      (pss_one (ps_if (pt_val (pv 3)) (pss_one (ps_augS (pe_fld (pv 0) rfl) (pv 1) get_list (pe_op op_shl pe_int (pv 2)) ip_or set_list)) pss_nil))), ?_⟩
    obtain ⟨dx, e⟩ := O.ob
    refine ⟨_, rfl, o.p, C, dx, _, _, rfl, e, T.cl, T.nU, oF_u _ _ _ _, _, rfl, o.u, _, i, _, rfl, rfl, SqL.of O.hu, NL_get hi, _, rfl, _, _, rfl, rfl, ⟨by omega, by omega, by decide⟩, _, _, rfl, rfl, o.u, _, (i : Int), i, rfl, rfl, O.hu, ixN_nat (by rw [NL_length]; exact hi), ?_⟩
    rw [shl_val, orAt_eq]
    refine ⟨_, rfl, b, rfl, ?_⟩
    have k1 : Kp o.u o.b H (upd H o.u (.lst (NL (orAt kn.up i (2 ^ k))))) := fun c z hc h1 _ => by rw [upd_ne h1]; exact hc
    have hb1 : (upd H o.u (.lst (NL (orAt kn.up i (2 ^ k))))) o.b = some (.lst (NL kn.be)) := by rw [upd_ne (Ne.symm O.ub)]; exact O.hb
    cases b with
    | false =>
      refine iteF ?_
      exact q _ k1 (O.next k1 upd_same hb1)
    | true =>
      refine iteT ?_
      have e1 : (upd H o.u (.lst (NL (orAt kn.up i (2 ^ k))))) o.p = some (.ins C dx (oF o.r o.j o.u o.b)) := k1 _ _ e (ne_of e O.hu (by intro z; cases z)) (ne_of e O.hb (by intro z; cases z))
      refine ⟨_, rfl, o.p, C, dx, _, _, rfl, e1, T.cl, T.nB, oF_b _ _ _ _, _, rfl, o.b, _, i, _, rfl, rfl, SqL.of hb1, NL_get hi2, _, rfl, _, _, rfl, rfl, ⟨by omega, by omega, by decide⟩, _, _, rfl, rfl, o.b, _, (i : Int), i, rfl, rfl, hb1, ixN_nat (by rw [NL_length]; exact hi2), ?_⟩
      rw [shl_val, orAt_eq]
      have k2 : Kp o.u o.b H (upd (upd H o.u (.lst (NL (orAt kn.up i (2 ^ k))))) o.b (.lst (NL (orAt kn.be i (2 ^ k))))) := fun c z hc h1 h2 => by rw [upd_ne h2]; exact k1 c z hc h1 h2
      exact q _ k2 (O.next k2 (by rw [upd_ne O.ub, upd_same]; rfl) upd_same)
end
end K54
namespace K54
open PySem PySem.Spec PyProof.Rows L2
def spContr (C : Addr) : Sp := fun vs H Q _ => ∃ (o : Ob) (qs : List Quad) (s : Kn) (n : Nat), vs = [.ref o.p] ∧ OA C H o qs s ∧ s.Wf n ∧ n ≤ 64 ∧ ∀ H' (c : Bool), Same H H' → (c = true ↔ Contr n s) → Q (.bl c) H'
def spGo (C : Addr) : Sp := fun vs H Q _ => ∃ (o : Ob) (qs : List Quad) (s : Kn) (n : Nat), vs = [.ref o.p] ∧ OA C H o qs s ∧ s.Wf n ∧ n ≤ 64 ∧
  ∀ H' t, Kp o.u o.b H H' → OA C H' o qs t → Adv n qs s t → (t = s → ∀ k i, k < n → i < n → tstep s k i = s) → Q .non H'
def spRules (C : Addr) : Sp := fun vs H Q _ => ∃ (o : Ob) (qs : List Quad) (s : Kn) (n : Nat), vs = [.ref o.p] ∧ OA C H o qs s ∧ s.Wf n ∧ n ≤ 64 ∧ (∀ q ∈ qs, QIn n q) ∧
  ∀ H' t, Kp o.u o.b H H' → OA C H' o qs t → Adv n qs s t → (t = s → ∀ q ∈ qs, rstep s q = s) → Q .non H'
section
variable {P : Program} {w : World} {K : PySem.W.Frag} {mg : Str → Option Value} {base : Heap} {C f : Addr} {fd : FuncData}
abbrev NContr : List Str := ["self", "i"]
theorem scContr : FnScope NContr ["self"] (defScope s_O_is_contrary) := ⟨rfl, rfl, rfl, by decide +kernel, rfl, by decide +kernel, by decide +kernel⟩
theorem ok_contr (T : OC K C) (G : Txt mg) (DB : DfM P w K mg base C "is_below" 1 ["self", "i", "j"] (spBelow C)) (F : FnM K "is_contrary" "Order.is_contrary" s_O_is_contrary f fd) :
    FnOk P w K mg base CX0 2 f fd ["self"] (spContr C) := by
  refine F.ok scContr (fun vs H Q E h => ?_) (fun cdv A outer s H vs Q E hr h => ?_)
  · obtain ⟨o, qs, s, n, rfl, _⟩ := h
    rfl
  · obtain ⟨o, qs, kn, n, rfl, O, wf, hn, q⟩ := h
    refine ⟨_, PSs.nox (pss_one (ps_ret (pe_callB (cr_any rfl) (by rfl) G.any (by decide +kernel) (pa_cons
      (pe_lc (own := [("i", 1)]) rfl scContr.nd (pi_range1 (by rfl) G.range (pa_cons (pe_callB call_len_seq (by rfl) G.len PySem.boot_len (pa_cons (pe_fld (pv 0) rfl) pa_nil)) pa_nil))
        (blkOk_by (own := [("i", 1)]) (N := NContr) (sc := defScope s_O_is_contrary) (by decide +kernel)) (fun _ _ _ _ _ => pg_name (i := 1) scContr.nd rfl (Or.inl rfl)) (fun _ _ _ _ _ => pts_nil)
        (fun _ _ _ _ _ => pe_methD T.cl DB hr (pv 0) (pa_cons (pv 1) (pa_cons (pv 1) pa_nil)))) pa_nil)))), ?_⟩
    obtain ⟨dx, e⟩ := O.ob
    have hl : kn.be.length = n := wf.bb.1
    refine ⟨_, rfl, o.p, C, dx, _, _, rfl, e, T.cl, T.nB, oF_b _ _ _ _, o.b, _, rfl, .inl (SqL.of O.hb), ?_⟩
    rw [NL_length, hl]
    refine ⟨(n : Int), rfl, by omega, by omega, fun D hD => lc_range (lo := 0) (n := (n : Int).toNat) (fun i H' => Same H H' ∧ H' D = some (.lst (((List.range i).map fun k => bt kn.be k k).map V.bl))) ⟨fun b z hb => by rw [upd_ne (ne_of_none hb hD)]; exact hb, upd_same⟩ ?_ ?_⟩
    · rintro i H' hi ⟨sm, hd⟩
      rw [Int.toNat_natCast] at hi
      have O' := O.same sm
      obtain ⟨dx', e'⟩ := O'.ob
      refine ⟨rfl, ?_⟩
      refine ⟨_, rfl, o.p, dx', _, rfl, e', oF_no _ _ _ _ (by decide +kernel) (by decide +kernel) (by decide +kernel) (by decide +kernel), _, rfl, _, rfl, o, qs, kn, i, i, ?_, O', by omega, ?_⟩
      · rw [Int.zero_add]
        rfl
      · refine ⟨_, hd, ?_, fun b z hb => ?_, ?_⟩
        · rw [List.length_map, List.length_map, List.length_range]
          exact small1000 (by omega)
        · rw [upd_ne (ne_of_none hb hD)]
          exact sm b z hb
        · rw [upd_same, List.range_succ, List.map_append, List.map_append]
          rfl
    · rintro H' ⟨sm, hd⟩
      refine ⟨D, _, rfl, SqL.of hd, ?_⟩
      refine q H' _ sm ?_
      rw [List.any_eq_true, Int.toNat_natCast]
      constructor
      · rintro ⟨c, hc, rfl⟩
        obtain ⟨k, hk, e2⟩ := List.mem_map.mp hc
        exact ⟨k, List.mem_range.mp hk, e2⟩
      · rintro ⟨k, hk, e2⟩
        exact ⟨true, List.mem_map.mpr ⟨k, List.mem_range.mpr hk, e2⟩, rfl⟩
theorem scGo : FnScope ["self", "k", "i"] ["self"] (defScope s_O_go_through) := ⟨rfl, rfl, rfl, by decide +kernel, rfl, by decide +kernel, by decide +kernel⟩
theorem ok_go (T : OC K C) (G : Txt mg) (DU : DfM P w K mg base C "is_upto" 1 ["self", "i", "j"] (spUpto C)) (DB : DfM P w K mg base C "is_below" 1 ["self", "i", "j"] (spBelow C))
    (F : FnM K "go_through" "Order.go_through" s_O_go_through f fd) : FnOk P w K mg base CX0 2 f fd ["self"] (spGo C) := by
  refine F.ok scGo (fun vs H Q E h => ?_) (fun cdv A outer s H vs Q E hr h => ?_)
  · obtain ⟨o, qs, s, n, rfl, _⟩ := h
    rfl
  · obtain ⟨o, qs, kn, n, rfl, O, wf, hn, q⟩ := h
    refine ⟨_, PSs.nox (pss_one (ps_for PassesOwn.never rfl (pi_range1 (by rfl) G.range (pa_cons (pe_callB call_len_seq (by rfl) G.len PySem.boot_len (pa_cons (pe_fld (pv 0) rfl) pa_nil)) pa_nil)) (pg_name (i := 1) scGo.nd rfl (Or.inl rfl))
      (pss_one (ps_for PassesOwn.never rfl (pi_range1 (by rfl) G.range (pa_cons (pe_callB call_len_seq (by rfl) G.len PySem.boot_len (pa_cons (pe_fld (pv 0) rfl) pa_nil)) pa_nil)) (pg_name (i := 2) scGo.nd rfl (Or.inl rfl))
        (pss_one (ps_if (pt_val (pe_methD T.cl DU hr (pv 0) (pa_cons (pv 2) (pa_cons (pv 1) pa_nil))))
          (pss_cons (ps_augS (pe_fld (pv 0) rfl) (pv 2) get_list (pe_ix ix_list (pe_fld (pv 0) rfl) (pv 1) (fun _ _ => rfl)) ip_or set_list)
            (pss_one (ps_augS (pe_fld (pv 0) rfl) (pv 2) get_list (pe_ifExp (pt_val (pe_methD T.cl DB hr (pv 0) (pa_cons (pv 2) (pa_cons (pv 1) pa_nil)))) (pe_ix ix_list (pe_fld (pv 0) rfl) (pv 1) (fun _ _ => rfl)) (pe_ix ix_list (pe_fld (pv 0) rfl) (pv 1) (fun _ _ => rfl))) ip_or set_list)))
          pss_nil)))))), ?_⟩
    have no1 : ∀ a b c d : Addr, (oF a b c d).lookup ("is_upto" : Str) = none := fun a b c d => oF_no a b c d (by decide +kernel) (by decide +kernel) (by decide +kernel) (by decide +kernel)
    have no2 : ∀ a b c d : Addr, (oF a b c d).lookup ("is_below" : Str) = none := fun a b c d => oF_no a b c d (by decide +kernel) (by decide +kernel) (by decide +kernel) (by decide +kernel)
    obtain ⟨dx, e⟩ := O.ob
    refine ⟨_, rfl, o.p, C, dx, _, _, rfl, e, T.cl, T.nU, oF_u _ _ _ _, o.u, _, rfl, .inl (SqL.of O.hu), ?_⟩
    rw [NL_length, wf.bu.1]
    refine ⟨(n : Int), rfl, by omega, by omega, for_range (lo := 0) (n := (n : Int).toNat) (fun k σ H' => ∃ (v1 v2 : Option V) (t : Kn), σ = [some (.ref o.p), v1, v2] ∧ Kp o.u o.b H H' ∧ OA C H' o qs t ∧ Adv n qs kn t ∧ (t = kn → ∀ k' i, k' < k → i < n → tstep kn k' i = kn))
      ⟨none, none, kn, rfl, Kp.refl _ _ _, O, Adv.refl _ _ _, fun _ k' i h => absurd h (Nat.not_lt_zero _)⟩ ?_ ?_⟩
    · rintro k σ H1 hk ⟨v1, v2, t, rfl, kp, O1, ad, pr⟩
      rw [Int.toNat_natCast] at hk
      obtain ⟨dx1, e1⟩ := O1.ob
      have w1 := ad.wf wf
      refine ⟨_, rfl, o.p, C, dx1, _, _, rfl, e1, T.cl, T.nU, oF_u _ _ _ _, o.u, _, rfl, .inl (SqL.of O1.hu), ?_⟩
      rw [NL_length, w1.bu.1]
      refine ⟨(n : Int), rfl, by omega, by omega, for_range (lo := 0) (n := (n : Int).toNat) (fun i σ H' => ∃ (v2 : Option V) (t : Kn), σ = [some (.ref o.p), some (.int (k : Int)), v2] ∧ Kp o.u o.b H H' ∧ OA C H' o qs t ∧ Adv n qs kn t ∧
          (t = kn → (∀ k' i', k' < k → i' < n → tstep kn k' i' = kn) ∧ ∀ i', i' < i → tstep kn k i' = kn))
        ⟨v2, t, by rw [Int.zero_add]; rfl, kp, O1, ad, fun z => ⟨pr z, fun i' h => absurd h (Nat.not_lt_zero _)⟩⟩ ?_ ?_⟩
      · rintro i σ H2 hi ⟨v2, t, rfl, kp, O2, ad, pr⟩
        rw [Int.toNat_natCast] at hi
        obtain ⟨dx2, e2⟩ := O2.ob
        have w2 := ad.wf wf
        have lu : t.up.length = n := w2.bu.1
        have lb : t.be.length = n := w2.bb.1
        rw [Int.zero_add]
        -- the step's end, whatever it was
        have fin : ∀ H' t', t' = tstep t k i → Kp o.u o.b H2 H' → OA C H' o qs t' → ∃ (v2 : Option V) (t : Kn), ([some (.ref o.p), some (.int (k : Int)), some (.int (i : Int))] : List (Option V)) = [some (.ref o.p), some (.int (k : Int)), v2] ∧ Kp o.u o.b H H' ∧ OA C H' o qs t ∧ Adv n qs kn t ∧
            (t = kn → (∀ k' i', k' < k → i' < n → tstep kn k' i' = kn) ∧ ∀ i', i' < i + 1 → tstep kn k i' = kn) := by
          intro H' t' et kp' O'
          have a2 : Adv n qs t t' := by rw [et]; exact adv_tstep t k i
          refine ⟨_, t', rfl, kp.trans kp', O', ad.trans a2, fun z => ?_⟩
          have zt : t = kn := by
            refine (Kn.Le.antisymm ad.le ?_).symm
            rw [← z]
            exact a2.le
          obtain ⟨p1, p2⟩ := pr zt
          refine ⟨p1, fun i' hi' => ?_⟩
          by_cases e3 : i' < i
          · exact p2 i' e3
          · have e4 : i' = i := by omega
            rw [e4, ← zt, ← et, z, zt]
        refine ⟨_, rfl, o.p, dx2, _, rfl, e2, no1 _ _ _ _, _, rfl, _, rfl, o, qs, t, i, k, rfl, O2, by omega, _, rfl, ?_⟩
        cases hbt : bt t.up i k with
        | false =>
          refine iteF ?_
          exact fin H2 t (by unfold tstep; rw [hbt]; rfl) (Kp.refl _ _ _) O2
        | true =>
          refine iteT ?_
          refine ⟨_, rfl, o.p, C, dx2, _, _, rfl, e2, T.cl, T.nU, oF_u _ _ _ _, _, rfl, o.u, _, i, _, rfl, rfl, SqL.of O2.hu, NL_get (by omega), _, rfl, o.p, C, dx2, _, _, rfl, e2, T.cl, T.nU, oF_u _ _ _ _, _, rfl, o.u, _, (k : Int), _, rfl, rfl, SqL.of O2.hu, atI_nat (NL_get (by omega)), _, _, rfl, rfl,
            o.u, _, (i : Int), i, rfl, rfl, O2.hu, ixN_nat (by rw [NL_length]; omega), ?_⟩
          rw [orAt_eq]
          have k3 : Kp o.u o.b H2 (upd H2 o.u (.lst (NL (orAt t.up i (t.up.getD k 0))))) := fun c z hc h1 _ => by rw [upd_ne h1]; exact hc
          have O3 : OA C (upd H2 o.u (.lst (NL (orAt t.up i (t.up.getD k 0))))) o qs ⟨orAt t.up i (t.up.getD k 0), t.be⟩ := O2.next k3 upd_same (by rw [upd_ne (Ne.symm O2.ub)]; exact O2.hb)
          obtain ⟨dx3, e3⟩ := O3.ob
          have l3 : (orAt t.up i (t.up.getD k 0)).length = n := by rw [orAt_length]; exact lu
          refine ⟨_, rfl, o.p, C, dx3, _, _, rfl, e3, T.cl, T.nB, oF_b _ _ _ _, _, rfl, o.b, _, i, _, rfl, rfl, SqL.of O3.hb, NL_get (by show i < t.be.length; omega), ?_⟩
          refine ⟨_, rfl, o.p, dx3, _, rfl, e3, no2 _ _ _ _, _, rfl, _, rfl, o, qs, ⟨orAt t.up i (t.up.getD k 0), t.be⟩, i, k, rfl, O3, by show i < t.be.length; omega, _, rfl, ?_⟩
          show (if bt t.be i k = true then _ else _)
          cases hbb : bt t.be i k with
          | true =>
            refine iteT ?_
            refine ⟨_, rfl, o.p, C, dx3, _, _, rfl, e3, T.cl, T.nU, oF_u _ _ _ _, _, rfl, o.u, _, (k : Int), _, rfl, rfl, SqL.of O3.hu, atI_nat (NL_get (by show k < (orAt t.up i (t.up.getD k 0)).length; omega)), _, _, rfl, rfl,
              o.b, _, (i : Int), i, rfl, rfl, O3.hb, ixN_nat (by rw [NL_length]; show i < t.be.length; omega), ?_⟩
            rw [orAt_eq]
            have k4 : Kp o.u o.b H2 (upd (upd H2 o.u (.lst (NL (orAt t.up i (t.up.getD k 0))))) o.b (.lst (NL (orAt t.be i ((orAt t.up i (t.up.getD k 0)).getD k 0))))) := fun c z hc h1 h2 => by rw [upd_ne h2]; exact k3 c z hc h1 h2
            refine fin _ ⟨orAt t.up i (t.up.getD k 0), orAt t.be i ((orAt t.up i (t.up.getD k 0)).getD k 0)⟩ (by unfold tstep; rw [hbt, hbb]; rfl) k4 (O2.next k4 ?_ upd_same)
            rw [upd_ne O2.ub]
            exact upd_same
          | false =>
            refine iteF ?_
            refine ⟨_, rfl, o.p, C, dx3, _, _, rfl, e3, T.cl, T.nB, oF_b _ _ _ _, _, rfl, o.b, _, (k : Int), _, rfl, rfl, SqL.of O3.hb, atI_nat (NL_get (by show k < t.be.length; omega)), _, _, rfl, rfl,
              o.b, _, (i : Int), i, rfl, rfl, O3.hb, ixN_nat (by rw [NL_length]; show i < t.be.length; omega), ?_⟩
            rw [orAt_eq]
            have k4 : Kp o.u o.b H2 (upd (upd H2 o.u (.lst (NL (orAt t.up i (t.up.getD k 0))))) o.b (.lst (NL (orAt t.be i (t.be.getD k 0))))) := fun c z hc h1 h2 => by rw [upd_ne h2]; exact k3 c z hc h1 h2
            refine fin _ ⟨orAt t.up i (t.up.getD k 0), orAt t.be i (t.be.getD k 0)⟩ (by unfold tstep; rw [hbt, hbb]; rfl) k4 (O2.next k4 ?_ upd_same)
            rw [upd_ne O2.ub]
            exact upd_same
      · rintro σ H2 ⟨v2, t, rfl, kp, O2, ad, pr⟩
        refine ⟨_, v2, t, rfl, kp, O2, ad, fun z k' i hk' hi => ?_⟩
        obtain ⟨p1, p2⟩ := pr z
        by_cases e3 : k' < k
        · exact p1 k' i e3 hi
        · have e4 : k' = k := by omega
          rw [e4]
          exact p2 i (by rw [Int.toNat_natCast]; exact hi)
    · rintro σ H1 ⟨v1, v2, t, rfl, kp, O1, ad, pr⟩
      exact q H1 t kp O1 ad fun z k i hk hi => pr z k i (by rw [Int.toNat_natCast]; exact hk) hi
end
end K54
namespace K54
open PySem PySem.Spec PyProof.Rows L2
/-! ### data as the program compares it -/
def pI (ns : List Int) : List PyData := ns.map PyData.int
def pT (os : List (List Int)) : List PyData := os.map fun o => .tuple (pI o)
theorem eqv_pI : ∀ xs ys : List Int, PyData.eqvAll (pI xs) (pI ys) = decide (xs = ys)
  | [], [] => by simp [pI, PyData.eqvAll]
  | [], _ :: _ => by simp [pI, PyData.eqvAll]
  | _ :: _, [] => by simp [pI, PyData.eqvAll]
  | a :: r, b :: t => by
    have ih := eqv_pI r t
    unfold pI at ih ⊢
    rw [List.map_cons, List.map_cons, PyData.eqvAll, PyData.eqv, ih]
    by_cases h : a = b <;> by_cases h' : r = t <;> simp [h, h']
theorem eqv_pT : ∀ xs ys : List (List Int), PyData.eqvAll (pT xs) (pT ys) = decide (xs = ys)
  | [], [] => by simp [pT, PyData.eqvAll]
  | [], _ :: _ => by simp [pT, PyData.eqvAll]
  | _ :: _, [] => by simp [pT, PyData.eqvAll]
  | a :: r, b :: t => by
    have ih := eqv_pT r t
    unfold pT at ih ⊢
    rw [List.map_cons, List.map_cons, PyData.eqvAll, PyData.eqv, ih, eqv_pI]
    by_cases h : a = b <;> by_cases h' : r = t <;> simp [h, h']
theorem lay_pI : ∀ xs : List Int, PyData.canLayAll0 (pI xs) = true ∧ PyData.depthAll (pI xs) = 0
  | [] => ⟨rfl, rfl⟩
  | a :: r => by
    obtain ⟨h1, h2⟩ := lay_pI r
    unfold pI at h1 h2 ⊢
    rw [List.map_cons, PyData.canLayAll0, PyData.depthAll, h1, h2]
    exact ⟨rfl, rfl⟩
theorem lay_pT : ∀ xs : List (List Int), PyData.canLayAll0 (pT xs) = true ∧ PyData.depthAll (pT xs) ≤ 1
  | [] => ⟨rfl, Nat.zero_le _⟩
  | a :: r => by
    obtain ⟨h1, h2⟩ := lay_pT r
    obtain ⟨h3, h4⟩ := lay_pI a
    unfold pT at h1 h2 ⊢
    rw [List.map_cons, PyData.canLayAll0, PyData.depthAll, PyData.canLay0, PyData.depth, h1, h3, h4]
    exact ⟨rfl, by omega⟩
theorem shaped_I (ns : List Int) : SeqAt.shaped (.list (pI ns)) = true := by
  obtain ⟨h1, h2⟩ := lay_pI ns
  unfold SeqAt.shaped
  rw [PyData.canLay0, PyData.depth, h1, h2]
  rfl
theorem shaped_TI (ns : List Int) : SeqAt.shaped (.tuple (pI ns)) = true := by
  obtain ⟨h1, h2⟩ := lay_pI ns
  unfold SeqAt.shaped
  rw [PyData.canLay0, PyData.depth, h1, h2]
  rfl
theorem shaped_T (os : List (List Int)) : SeqAt.shaped (.list (pT os)) = true := by
  obtain ⟨h1, h2⟩ := lay_pT os
  unfold SeqAt.shaped
  rw [PyData.canLay0, PyData.depth, h1, Bool.true_and]
  exact decide_eq_true (by omega)
theorem dp_pI {K : PySem.W.Frag} {H : Hp} : ∀ ns : List Int, DpAll K H (ns.map V.int) (pI ns)
  | [] => .nil
  | n :: r => .cons (.int n) (dp_pI r)
theorem dp_pT {K : PySem.W.Frag} {H : Hp} : ∀ {ts : List Addr} {os : List (List Int)}, Tps (fun o => o.map V.int) H ts os → DpAll K H (ts.map V.ref) (pT os)
  | [], [], _ => .nil
  | [], _ :: _, h => by have := h.len; simp at this
  | _ :: _, [], h => by have := h.len; simp at this
  | t :: ts, o :: os, h => .cons (.tup (SqT.of (h.at_ 0 t o rfl rfl)) (dp_pI o)) (dp_pT ⟨by have := h.len; simpa using this, fun k a x h1 h2 => h.at_ (k + 1) a x h1 h2⟩)
theorem NL_int (xs : List Nat) : NL xs = (xs.map fun (x : Nat) => (x : Int)).map V.int := by
  unfold NL
  rw [List.map_map]
  rfl
theorem castL_inj {xs ys : List Nat} (h : (xs.map fun (x : Nat) => (x : Int)) = ys.map fun (x : Nat) => (x : Int)) : xs = ys := List.map_inj_right (fun _ _ e => by exact_mod_cast e) |>.mp h
end K54
namespace K54
open PySem PySem.Spec PyProof.Rows L2
def spClose (C : Addr) : Sp := fun vs H Q _ => ∃ (o : Ob) (qs : List Quad) (s : Kn) (n : Nat), vs = [.ref o.p] ∧ OA C H o qs s ∧ s.Wf n ∧ n ≤ 64 ∧ (∀ q ∈ qs, QIn n q) ∧
  ∀ H' t, Kp o.u o.b H H' → OA C H' o qs t → Adv n qs s t → (Contr n t ∨ Closed n qs t) → Q .non H'
/-- o' is made from o: its rules are o's, its lists its own -/
structure Kin (H : Hp) (o o' : Ob) : Prop where
  r : o'.r = o.r
  j : o'.j = o.j
  p : H o'.p = none
  u : H o'.u = none
  b : H o'.b = none
def spMore (C : Addr) : Sp := fun vs H Q _ => ∃ (o : Ob) (qs : List Quad) (s : Kn) (n i k : Nat) (b : Bool), vs = [.ref o.p, .int (i : Int), .int (k : Int), .bl b] ∧ OA C H o qs s ∧ s.Wf n ∧ n ≤ 64 ∧ (∀ q ∈ qs, QIn n q) ∧ i < n ∧ k < n ∧
  ∀ H' o' t, Same H H' → OA C H' o' qs t → More n qs s i k b t → Kin H o o' → Q (.ref o'.p) H'
/-- the class at C makes its instances by a def that keeps the promise sp -/
def DfI (P : Program) (w : World) (K : PySem.W.Frag) (mg : Str → Option Value) (base : Heap) (C : Addr) (k : Nat) (ps : List Str) (sp : Sp) : Prop :=
  ∃ f fd, FnOk P w K mg base CX0 k f fd ps sp ∧ Mk K C f ∧ Binds K fd ps []
section
variable {X : Cx} {x : Str} {k : Nat} {ps : List Str} {sp : Sp} {e : Expr} {es : List Expr} {t : TA} {p pos : Pos} {C : Addr}
theorem pe_makeD (D : DfI X.prog X.w X.K X.mg X.base C k ps sp) (hr : Room (k + 1) X.A) (hg : Gl X x) (hm : X.mg x = some (.ref C)) (ha : PA X (e :: es) t) (hdb : (x == ("__debug__" : Str)) = false := by decide)
    (h1 : starEach (e :: es) X.env = (false, eval e X.env) :: starEach es X.env := by rfl) (h2 : (backTo pos (starEach es X.env)).any (·.1) = false := by rfl) : PE X (.Call (.Name x p) (e :: es) [] pos) (tMake C sp [] E0 t) := by
  obtain ⟨f, fd, G, M, b⟩ := D
  exact pe_make M G hr hg hm b .nil pass0 ha hdb h1 h2
end
section
variable {P : Program} {w : World} {K : PySem.W.Frag} {mg : Str → Option Value} {base : Heap} {C f : Addr} {fd : FuncData}
theorem scRules : FnScope ["self", "i", "j", "k", "l"] ["self"] (defScope s_O_use_rules) := ⟨rfl, rfl, rfl, by decide +kernel, rfl, by decide +kernel, by decide +kernel⟩
theorem ok_rules (T : OC K C) (DU : DfM P w K mg base C "is_upto" 1 ["self", "i", "j"] (spUpto C)) (DB : DfM P w K mg base C "is_below" 1 ["self", "i", "j"] (spBelow C))
    (DP : DfM P w K mg base C "put" 1 ["self", "i", "j", "is_strict"] (spPut C)) (F : FnM K "use_rules" "Order.use_rules" s_O_use_rules f fd) : FnOk P w K mg base CX0 2 f fd ["self"] (spRules C) := by
  refine F.ok scRules (fun vs H Q E h => ?_) (fun cdv A outer s H vs Q E hr h => ?_)
  · obtain ⟨o, qs, s, n, rfl, _⟩ := h
    rfl
  · obtain ⟨o, qs, kn, n, rfl, O, wf, hn, hq, q⟩ := h
    refine ⟨_, PSs.nox (pss_one (ps_for PassesOwn.never rfl (pi_list (pe_fld (pv 0) rfl)) (pg_tup rfl (pgs_cons (pg_name (i := 1) scRules.nd rfl (Or.inl rfl)) (pgs_cons (pg_name (i := 2) scRules.nd rfl (Or.inl rfl)) (pgs_cons (pg_name (i := 3) scRules.nd rfl (Or.inl rfl)) (pgs_cons (pg_name (i := 4) scRules.nd rfl (Or.inl rfl)) pgs_nil)))))
      (pss_cons (ps_if (pt_val (pe_methD T.cl DU hr (pv 0) (pa_cons (pv 1) (pa_cons (pv 2) pa_nil)))) (pss_one (ps_expr (pe_methD T.cl DP hr (pv 0) (pa_cons (pv 3) (pa_cons (pv 4) (pa_cons pe_bl pa_nil)))))) pss_nil)
        (pss_one (ps_if (pt_val (pe_methD T.cl DB hr (pv 0) (pa_cons (pv 4) (pa_cons (pv 3) pa_nil)))) (pss_one (ps_expr (pe_methD T.cl DP hr (pv 0) (pa_cons (pv 2) (pa_cons (pv 1) (pa_cons pe_bl pa_nil)))))) pss_nil))))), ?_⟩
    have no1 : ∀ a b c d : Addr, (oF a b c d).lookup ("is_upto" : Str) = none := fun a b c d => oF_no a b c d (by decide +kernel) (by decide +kernel) (by decide +kernel) (by decide +kernel)
    have no2 : ∀ a b c d : Addr, (oF a b c d).lookup ("is_below" : Str) = none := fun a b c d => oF_no a b c d (by decide +kernel) (by decide +kernel) (by decide +kernel) (by decide +kernel)
    have no3 : ∀ a b c d : Addr, (oF a b c d).lookup ("put" : Str) = none := fun a b c d => oF_no a b c d (by decide +kernel) (by decide +kernel) (by decide +kernel) (by decide +kernel)
    obtain ⟨dx, e⟩ := O.ob
    refine ⟨_, rfl, o.p, C, dx, _, _, rfl, e, T.cl, T.nR, oF_r _ _ _ _, o.r, rfl, ⟨_, SqL.of O.hr⟩, for_list (K := K) (a := o.r) (xs := o.ts.map V.ref) (fun i σ H' => ∃ (v1 v2 v3 v4 : Option V) (t : Kn), σ = [some (.ref o.p), v1, v2, v3, v4] ∧ Kp o.u o.b H H' ∧ OA C H' o qs t ∧ Adv n qs kn t ∧ (t = kn → ∀ (m : Nat) (q : Quad), m < i → qs[m]? = some q → rstep kn q = kn))
      ⟨none, none, none, none, kn, rfl, Kp.refl _ _ _, O, Adv.refl _ _ _, fun _ m q h => absurd h (Nat.not_lt_zero _)⟩ (fun i σ H' _ ⟨_, _, _, _, _, _, _, O', _⟩ => SqL.of O'.hr) ?_ ?_⟩
    · rintro i x σ H1 hi ⟨v1, v2, v3, v4, t, rfl, kp, O1, ad, pr⟩
      rw [List.getElem?_map] at hi
      obtain ⟨a, ha, rfl⟩ := Option.map_eq_some_iff.mp hi
      have hl : i < qs.length := by rw [← O1.hq.len]; exact (List.getElem?_eq_some_iff.mp ha).1
      have hqi : qs[i]? = some qs[i] := List.getElem?_eq_getElem hl
      have hm : qs[i] ∈ qs := List.getElem_mem hl
      generalize qs[i] = qd at hqi hm
      have hT := O1.hq.at_ i a qd ha hqi
      have hn' := hq qd hm
      obtain ⟨dx1, e1⟩ := O1.ob
      have w1 := ad.wf wf
      refine ⟨a, _, rfl, SqT.of hT, rfl, _, _, rfl, _, _, rfl, _, _, rfl, _, _, rfl, rfl, ?_⟩
      have lu : t.up.length = n := w1.bu.1
      have lb : t.be.length = n := w1.bb.1
      -- the second half
      have half : ∀ (H2 : Hp) (t2 : Kn), t2 = (if bt t.up qd.1 qd.2.1 then t.put qd.2.2.1 qd.2.2.2 false else t) → Kp o.u o.b H1 H2 → OA C H2 o qs t2 → Adv n qs t t2 →
          ∀ (H3 : Hp) (t3 : Kn), t3 = (if bt t2.be qd.2.2.2 qd.2.2.1 then t2.put qd.2.1 qd.1 true else t2) → Kp o.u o.b H2 H3 → OA C H3 o qs t3 → Adv n qs t2 t3 →
          ∃ (v1 v2 v3 v4 : Option V) (t : Kn), ([some (.ref o.p), some (.int (qd.1 : Int)), some (.int (qd.2.1 : Int)), some (.int (qd.2.2.1 : Int)), some (.int (qd.2.2.2 : Int))] : List (Option V)) = [some (.ref o.p), v1, v2, v3, v4] ∧ Kp o.u o.b H H3 ∧ OA C H3 o qs t ∧ Adv n qs kn t ∧ (t = kn → ∀ (m : Nat) (q : Quad), m < i + 1 → qs[m]? = some q → rstep kn q = kn) := by
        intro H2 t2 et2 k2 O2 a2 H3 t3 et3 k3 O3 a3
        refine ⟨_, _, _, _, t3, rfl, (kp.trans k2).trans k3, O3, (ad.trans a2).trans a3, fun z => ?_⟩
        have l23 : t.Le t3 := a2.le.trans a3.le
        have zt : t = kn := by
          refine (Kn.Le.antisymm ad.le ?_).symm
          rw [← z]
          exact l23
        have er : rstep t qd = t3 := by
          unfold rstep
          rw [← et2]
          show (if bt t2.be qd.2.2.2 qd.2.2.1 then t2.put qd.2.1 qd.1 true else t2) = t3
          rw [← et3]
        intro m q' hm' hq'
        by_cases e3 : m < i
        · exact pr zt m q' e3 hq'
        · have e4 : m = i := by omega
          rw [e4, hqi] at hq'
          cases hq'
          rw [← zt, er, z, zt]
      refine ⟨_, rfl, o.p, dx1, _, rfl, e1, no1 _ _ _ _, _, rfl, _, rfl, o, qs, t, qd.1, qd.2.1, rfl, O1, by rw [lu]; exact hn'.1, _, rfl, ?_⟩
      cases hbt : bt t.up qd.1 qd.2.1 with
      | false =>
        refine iteF ?_
        obtain ⟨t2, et2, k2, O2, a2⟩ : ∃ t2 : Kn, t2 = (if bt t.up qd.1 qd.2.1 then t.put qd.2.2.1 qd.2.2.2 false else t) ∧ Kp o.u o.b H1 H1 ∧ OA C H1 o qs t2 ∧ Adv n qs t t2 := ⟨t, by rw [hbt]; rfl, Kp.refl _ _ _, O1, Adv.refl _ _ _⟩
        obtain ⟨dx2, e2⟩ := O2.ob
        have w2 := a2.wf w1
        refine ⟨_, rfl, o.p, dx2, _, rfl, e2, no2 _ _ _ _, _, rfl, _, rfl, o, qs, t2, qd.2.2.2, qd.2.2.1, rfl, O2, by rw [w2.bb.1]; exact hn'.2.2.2, _, rfl, ?_⟩
        cases hbb : bt t2.be qd.2.2.2 qd.2.2.1 with
        | false =>
          refine iteF ?_
          exact half _ t2 et2 k2 O2 a2 _ t2 (by rw [hbb]; rfl) (Kp.refl _ _ _) O2 (Adv.refl _ _ _)
        | true =>
          refine iteT ?_
          refine ⟨_, rfl, o.p, dx2, _, rfl, e2, no3 _ _ _ _, _, rfl, _, rfl, o, qs, t2, qd.2.1, qd.1, true, rfl, O2, by rw [w2.bu.1]; exact hn'.2.1, by rw [w2.bb.1]; exact hn'.2.1, by have := hn'.1; omega, fun H3 k3 O3 => ?_⟩
          exact half _ t2 et2 k2 O2 a2 H3 (t2.put qd.2.1 qd.1 true) (by rw [hbb]; rfl) k3 O3 (adv_rstep2 hm hn' t2 hbb)
      | true =>
        refine iteT ?_
        refine ⟨_, rfl, o.p, dx1, _, rfl, e1, no3 _ _ _ _, _, rfl, _, rfl, o, qs, t, qd.2.2.1, qd.2.2.2, false, rfl, O1, by rw [lu]; exact hn'.2.2.1, by rw [lb]; exact hn'.2.2.1, by have := hn'.2.2.2; omega, fun H2 k2 O2 => ?_⟩
        obtain ⟨t2, et2, O2, a2⟩ : ∃ t2 : Kn, t2 = (if bt t.up qd.1 qd.2.1 then t.put qd.2.2.1 qd.2.2.2 false else t) ∧ OA C H2 o qs t2 ∧ Adv n qs t t2 := ⟨t.put qd.2.2.1 qd.2.2.2 false, by rw [hbt]; rfl, O2, adv_rstep1 hm hn' t hbt⟩
        obtain ⟨dx2, e2⟩ := O2.ob
        have w2 := a2.wf w1
        refine ⟨_, rfl, o.p, dx2, _, rfl, e2, no2 _ _ _ _, _, rfl, _, rfl, o, qs, t2, qd.2.2.2, qd.2.2.1, rfl, O2, by rw [w2.bb.1]; exact hn'.2.2.2, _, rfl, ?_⟩
        cases hbb : bt t2.be qd.2.2.2 qd.2.2.1 with
        | false =>
          refine iteF ?_
          exact half _ t2 et2 k2 O2 a2 _ t2 (by rw [hbb]; rfl) (Kp.refl _ _ _) O2 (Adv.refl _ _ _)
        | true =>
          refine iteT ?_
          refine ⟨_, rfl, o.p, dx2, _, rfl, e2, no3 _ _ _ _, _, rfl, _, rfl, o, qs, t2, qd.2.1, qd.1, true, rfl, O2, by rw [w2.bu.1]; exact hn'.2.1, by rw [w2.bb.1]; exact hn'.2.1, by have := hn'.1; omega, fun H3 k3 O3 => ?_⟩
          exact half _ t2 et2 k2 O2 a2 H3 (t2.put qd.2.1 qd.1 true) (by rw [hbb]; rfl) k3 O3 (adv_rstep2 hm hn' t2 hbb)
    · rintro σ H1 ⟨v1, v2, v3, v4, t, rfl, kp, O1, ad, pr⟩
      refine q H1 t kp O1 ad fun z qd hqd => ?_
      obtain ⟨m, hm⟩ := List.mem_iff_getElem?.mp hqd
      refine pr z m qd ?_ hm
      rw [List.length_map, O1.hq.len]
      exact (List.getElem?_eq_some_iff.mp hm).1
/-- what close remembers: nothing, or the state a turn ago -/
def BfAt (u b : Addr) (H : Hp) (bv : V) : Option Kn → Prop
  | none => bv = .non
  | some s => ∃ a l1 l2 : Addr, bv = .ref a ∧ H a = some (.tup [.ref l1, .ref l2]) ∧ H l1 = some (.lst (NL s.up)) ∧ H l2 = some (.lst (NL s.be)) ∧ l1 ≠ u ∧ l1 ≠ b ∧ l2 ≠ u ∧ l2 ≠ b
theorem BfAt.same {u b : Addr} {H H' : Hp} {bv : V} {s : Option Kn} (h : BfAt u b H bv s) (g : Same H H') : BfAt u b H' bv s := by
  cases s with
  | none => exact h
  | some s =>
    obtain ⟨a, l1, l2, e, h1, h2, h3, r⟩ := h
    exact ⟨a, l1, l2, e, g _ _ h1, g _ _ h2, g _ _ h3, r⟩
def kD (s : Kn) : PyData := .tuple [.list (pI (s.up.map fun (x : Nat) => (x : Int))), .list (pI (s.be.map fun (x : Nat) => (x : Int)))]
theorem shaped_kD (s : Kn) : SeqAt.shaped (kD s) = true := by
  obtain ⟨h1, h2⟩ := lay_pI (s.up.map fun (x : Nat) => (x : Int))
  obtain ⟨h3, h4⟩ := lay_pI (s.be.map fun (x : Nat) => (x : Int))
  unfold SeqAt.shaped kD
  simp only [PyData.canLay0, PyData.canLayAll0, PyData.depth, PyData.depthAll, h1, h2, h3, h4]
  rfl
theorem eqv_kD (s t : Kn) : PyData.eqv (kD s) (kD t) = true ↔ s = t := by
  unfold kD
  simp only [PyData.eqv, PyData.eqvAll, eqv_pI, Bool.and_true, Bool.and_eq_true, decide_eq_true_eq]
  constructor
  · rintro ⟨h1, h2⟩
    have a := castL_inj h1
    have b := castL_inj h2
    cases s; cases t
    simp only at a b
    rw [a, b]
  · rintro rfl
    exact ⟨rfl, rfl⟩
theorem dp_kD {K : PySem.W.Frag} {H : Hp} {a l1 l2 : Addr} {s : Kn} (h : H a = some (.tup [.ref l1, .ref l2])) (h1 : H l1 = some (.lst (NL s.up))) (h2 : H l2 = some (.lst (NL s.be))) : Dp K H (.ref a) (kD s) := by
  rw [NL_int] at h1 h2
  exact .tup (SqT.of h) (.cons (.lst (SqL.of h1) (dp_pI _)) (.cons (.lst (SqL.of h2) (dp_pI _)) .nil))
def bD : Option Kn → PyData
  | none => .none
  | some s => kD s
theorem shaped_bD (s : Option Kn) : SeqAt.shaped (bD s) = true := by
  cases s with
  | none => rfl
  | some s => exact shaped_kD s
theorem dp_bD {K : PySem.W.Frag} {u b : Addr} {H : Hp} {bv : V} {s : Option Kn} (h : BfAt u b H bv s) : Dp K H bv (bD s) := by
  cases s with
  | none =>
    have e : bv = .non := h
    rw [e]
    exact .non
  | some s =>
    obtain ⟨a, l1, l2, rfl, h0, h1, h2, _⟩ := h
    exact dp_kD h0 h1 h2
theorem eqv_bD (s : Option Kn) (t : Kn) : PyData.eqv (bD s) (kD t) = true ↔ s = some t := by
  cases s with
  | none =>
    unfold bD kD
    simp [PyData.eqv]
  | some s =>
    rw [show bD (some s) = kD s from rfl, eqv_kD]
    simp
theorem scClose : FnScope ["self", "before", "word", "i", "j", "k"] ["self"] (defScope s_O_close) := ⟨rfl, rfl, rfl, by decide +kernel, rfl, by decide +kernel, by decide +kernel⟩
theorem ok_close (T : OC K C) (G : Txt mg) (DC : DfM P w K mg base C "is_contrary" 2 ["self"] (spContr C)) (DG : DfM P w K mg base C "go_through" 2 ["self"] (spGo C))
    (DR : DfM P w K mg base C "use_rules" 2 ["self"] (spRules C)) (F : FnM K "close" "Order.close" s_O_close f fd) : FnOk P w K mg base CX0 3 f fd ["self"] (spClose C) := by
  refine F.ok scClose (fun vs H Q E h => ?_) (fun cdv A outer s H vs Q E hr h => ?_)
  · obtain ⟨o, qs, s, n, rfl, _⟩ := h
    rfl
  · obtain ⟨o, qs, kn, n, rfl, O, wf, hn, hq, q⟩ := h
    have hu : (A.deeper (envOfC "Order.close" (defScope s_O_close) s.heap.objs.size f cdv)).units + 64 < cLine := by have := hr.un; omega
    refine ⟨_, PSs.nox (pss_cons (ps_set (i := 1) scClose.nd rfl (Or.inl rfl) pe_non)
      (pss_one (ps_while PassesOwn.never (PW.pt (pw_and (pt_cmpR (op_neD hu) (pv 1) (pe_tup (pa_cons (pe_fld (pv 0) rfl) (pa_cons (pe_fld (pv 0) rfl) pa_nil))) (nomark _)) (pw_and1 (pt_not (pt_val (pe_methD0 T.cl DC hr (pv 0)))))))
        (pss_cons (ps_set (i := 1) scClose.nd rfl (Or.inl rfl) (pe_tup (pa_cons (pe_callTy call_list_of (by rfl) G.list (by decide +kernel) (pa_cons (pe_fld (pv 0) rfl) pa_nil)) (pa_cons (pe_callTy call_list_of (by rfl) G.list (by decide +kernel) (pa_cons (pe_fld (pv 0) rfl) pa_nil)) pa_nil))))
        (pss_cons (ps_expr (pe_methD0 T.cl DG hr (pv 0)))
        (pss_cons (ps_expr (pe_methD0 T.cl DR hr (pv 0)))
        (pss_one (ps_for PassesOwn.never rfl (pi_list (pe_fld (pv 0) rfl)) (pg_tup rfl (pgs_cons (pg_name (i := 2) scClose.nd rfl (Or.inl rfl)) (pgs_cons (pg_name (i := 3) scClose.nd rfl (Or.inl rfl)) (pgs_cons (pg_name (i := 4) scClose.nd rfl (Or.inl rfl)) (pgs_cons (pg_name (i := 5) scClose.nd rfl (Or.inl rfl)) pgs_nil))))) pss_never)))))))), ?_⟩
    have no1 : ∀ a b c d : Addr, (oF a b c d).lookup ("is_contrary" : Str) = none := fun a b c d => oF_no a b c d (by decide +kernel) (by decide +kernel) (by decide +kernel) (by decide +kernel)
    have no2 : ∀ a b c d : Addr, (oF a b c d).lookup ("go_through" : Str) = none := fun a b c d => oF_no a b c d (by decide +kernel) (by decide +kernel) (by decide +kernel) (by decide +kernel)
    have no3 : ∀ a b c d : Addr, (oF a b c d).lookup ("use_rules" : Str) = none := fun a b c d => oF_no a b c d (by decide +kernel) (by decide +kernel) (by decide +kernel) (by decide +kernel)
    refine ⟨fun m σ H' => ∃ (bv : V) (s0 : Option Kn) (t : Kn), σ = [some (.ref o.p), some bv, none, none, none, none] ∧ Kp o.u o.b H H' ∧ OA C H' o qs t ∧ Adv n qs kn t ∧ BfAt o.u o.b H' bv s0 ∧ (s0 = some t → Closed n qs t) ∧
        m = 2 * (cap n - t.sum) + (if s0 = some t then 0 else 1), ⟨_, .non, none, kn, rfl, Kp.refl _ _ _, O, Adv.refl _ _ _, rfl, (fun z => by cases z), rfl⟩, ?_⟩
    rintro m σ H1 ⟨bv, s0, t, rfl, kp, O1, ad, bf, hcl, hm⟩
    have w1 := ad.wf wf
    obtain ⟨dx1, e1⟩ := O1.ob
    -- before != (self.upto, self.below)
    refine ⟨_, rfl, _, rfl, o.p, C, dx1, _, _, rfl, e1, T.cl, T.nU, oF_u _ _ _ _, _, rfl, o.p, C, dx1, _, _, rfl, e1, T.cl, T.nB, oF_b _ _ _ _, (by show 2 ≤ sizeLine; decide), fun a ha => ?_⟩
    have s1 : Same H1 (upd H1 a (.tup [.ref o.u, .ref o.b])) := fun b z hb => by rw [upd_ne (ne_of_none hb ha)]; exact hb
    have O2 := O1.same s1
    have bf2 := bf.same s1
    refine ⟨bD s0, kD t, dp_bD bf2, dp_kD upd_same O2.hu O2.hb, shaped_bD _, shaped_kD _, _, rfl, ?_⟩
    cases hb : PyData.eqv (bD s0) (kD t) with
    | true =>
      have es : s0 = some t := (eqv_bD s0 t).mp hb
      refine iteF (iteF ?_)
      exact q _ t (kp.trans (Kp.of_same s1)) O2 ad (.inr (hcl es))
    | false =>
      have es : s0 ≠ some t := fun z => by rw [(eqv_bD s0 t).mpr z] at hb; cases hb
      refine iteT ?_
      obtain ⟨dx2, e2⟩ := O2.ob
      refine ⟨_, rfl, o.p, dx2, _, rfl, e2, no1 _ _ _ _, o, qs, t, n, rfl, O2, w1, hn, fun H3 c s3 hc => ⟨c, rfl, ?_⟩⟩
      have O3 := O2.same s3
      have kp3 : Kp o.u o.b H H3 := kp.trans (Kp.of_same (s1.trans s3))
      cases c with
      | true =>
        refine iteF ?_
        exact q _ t kp3 O3 ad (.inl (hc.mp rfl))
      | false =>
        refine iteT ?_
        refine ⟨fun σ' H' => ∃ (bv : V) (s0' : Option Kn) (t' : Kn), σ' = [some (.ref o.p), some bv, none, none, none, none] ∧ Kp o.u o.b H H' ∧ OA C H' o qs t' ∧ Adv n qs kn t' ∧ BfAt o.u o.b H' bv s0' ∧ (s0' = some t' → Closed n qs t') ∧ s0' = some t ∧ t.Le t', ?_, ?_⟩
        · rintro σ' H' ⟨bv', s0', t', rfl, kp', O', ad', bf', hcl', es', le'⟩
          refine ⟨_, ?_, bv', s0', t', rfl, kp', O', ad', bf', hcl', rfl⟩
          rw [hm, if_neg es, es']
          by_cases z : t = t'
          · rw [← z, if_pos rfl]
            omega
          · have lt := le'.sum_lt z
            have up := (ad'.wf wf).sum_le
            rw [if_neg (fun y => z (Option.some.inj y))]
            omega
        -- before = (list(self.upto), list(self.below))
        obtain ⟨dx3, e3⟩ := O3.ob
        refine ⟨_, rfl, o.p, C, dx3, _, _, rfl, e3, T.cl, T.nU, oF_u _ _ _ _, o.u, _, rfl, .inl (SqL.of O3.hu), fun l1 hl1 => ?_⟩
        have s4 : Same H3 (upd H3 l1 (.lst (NL t.up))) := fun b z hb => by rw [upd_ne (ne_of_none hb hl1)]; exact hb
        have O4 := O3.same s4
        obtain ⟨dx4, e4⟩ := O4.ob
        refine ⟨_, rfl, o.p, C, dx4, _, _, rfl, e4, T.cl, T.nB, oF_b _ _ _ _, o.b, _, rfl, .inl (SqL.of O4.hb), fun l2 hl2 => ?_⟩
        have s5 : Same (upd H3 l1 (.lst (NL t.up))) (upd (upd H3 l1 (.lst (NL t.up))) l2 (.lst (NL t.be))) := fun b z hb => by rw [upd_ne (ne_of_none hb hl2)]; exact hb
        have O5 := O4.same s5
        refine ⟨(by show 2 ≤ sizeLine; decide), fun a5 ha5 => ?_⟩
        have s6 : Same (upd (upd H3 l1 (.lst (NL t.up))) l2 (.lst (NL t.be))) (upd (upd (upd H3 l1 (.lst (NL t.up))) l2 (.lst (NL t.be))) a5 (.tup [.ref l1, .ref l2])) := fun b z hb => by rw [upd_ne (ne_of_none hb ha5)]; exact hb
        have O6 := O5.same s6
        have n1 : l1 ≠ o.u := fun z => by rw [z, O3.hu] at hl1; cases hl1
        have n2 : l1 ≠ o.b := fun z => by rw [z, O3.hb] at hl1; cases hl1
        have n3 : l2 ≠ o.u := fun z => by rw [z, O4.hu] at hl2; cases hl2
        have n4 : l2 ≠ o.b := fun z => by rw [z, O4.hb] at hl2; cases hl2
        have bf6 : BfAt o.u o.b (upd (upd (upd H3 l1 (.lst (NL t.up))) l2 (.lst (NL t.be))) a5 (.tup [.ref l1, .ref l2])) (.ref a5) (some t) :=
          ⟨a5, l1, l2, rfl, upd_same, s6 _ _ (s5 _ _ upd_same), s6 _ _ upd_same, n1, n2, n3, n4⟩
        have kp6 := kp3.trans (Kp.of_same (s4.trans (s5.trans s6)))
        generalize (upd (upd (upd H3 l1 (.lst (NL t.up))) l2 (.lst (NL t.be))) a5 (.tup [.ref l1, .ref l2])) = H6 at O6 bf6 kp6
        -- self.go_through(); self.use_rules()
        obtain ⟨dx6, e6⟩ := O6.ob
        refine ⟨_, rfl, o.p, dx6, _, rfl, e6, no2 _ _ _ _, o, qs, t, n, rfl, O6, w1, hn, fun H7 t7 k7 O7 a7 c7 => ?_⟩
        obtain ⟨dx7, e7⟩ := O7.ob
        refine ⟨_, rfl, o.p, dx7, _, rfl, e7, no3 _ _ _ _, o, qs, t7, n, rfl, O7, a7.wf w1, hn, hq, fun H8 t8 k8 O8 a8 c8 => ?_⟩
        obtain ⟨dx8, e8⟩ := O8.ob
        refine ⟨_, rfl, o.p, C, dx8, _, _, rfl, e8, T.cl, T.nJ, oF_j _ _ _ _, o.j, rfl, ⟨_, SqL.of O8.hj⟩, ?_⟩
        have bf8 : BfAt o.u o.b H8 (.ref a5) (some t) := by
          obtain ⟨b1, b2, b3, c1, c2, c3, c4, c5, c6, c7', c8'⟩ := bf6
          have k68 := k7.trans k8
          exact ⟨b1, b2, b3, c1, k68 _ _ c2 (ne_of c2 O6.hu (by intro z; cases z)) (ne_of c2 O6.hb (by intro z; cases z)), k68 _ _ c3 c5 c6, k68 _ _ c4 c7' c8', c5, c6, c7', c8'⟩
        refine for_list (K := K) (a := o.j) (xs := []) (fun i σ' H' => σ' = [some (.ref o.p), some (.ref a5), none, none, none, none] ∧ H' = H8) ⟨rfl, rfl⟩ (fun i σ' H' _ z => by rw [z.2]; exact SqL.of O8.hj) (fun i x σ' H' hx _ => by cases hx) ?_
        rintro σ' H' ⟨rfl, rfl⟩
        refine ⟨_, some t, t8, rfl, kp6.trans (k7.trans k8), O8, ad.trans (a7.trans a8), bf8, fun z => ?_, rfl, a7.le.trans a8.le⟩
        have z8 : t = t8 := Option.some.inj z
        have z7 : t7 = t := Kn.Le.antisymm (by rw [z8]; exact a8.le) a7.le
        refine ⟨?_, ?_⟩
        · rw [← z8]
          exact c7 z7
        · have := c8 (by rw [z7]; exact z8.symm)
          rw [z7] at this
          rw [← z8]
          exact this
theorem scMore : FnScope ["self", "i", "j", "is_strict", "found"] ["self", "i", "j", "is_strict"] (defScope s_O_with_more) := ⟨rfl, rfl, rfl, by decide +kernel, rfl, by decide +kernel, by decide +kernel⟩
theorem ok_more (T : OC K C) (G : Txt mg) (gO : mg "Order" = some (.ref C)) (DI : DfI P w K mg base C 1 ["self", "rules", "joints", "upto", "below"] (spInit C)) (DP : DfM P w K mg base C "put" 1 ["self", "i", "j", "is_strict"] (spPut C))
    (DC : DfM P w K mg base C "close" 3 ["self"] (spClose C)) (F : FnM K "with_more" "Order.with_more" s_O_with_more f fd) : FnOk P w K mg base CX0 4 f fd ["self", "i", "j", "is_strict"] (spMore C) := by
  refine F.ok scMore (fun vs H Q E h => ?_) (fun cdv A outer s H vs Q E hr h => ?_)
  · obtain ⟨o, qs, s, n, i, k, b, rfl, _⟩ := h
    rfl
  · obtain ⟨o, qs, kn, n, i, k, b, rfl, O, wf, hn, hq, hi, hk, q⟩ := h
    refine ⟨_, PSs.nox (pss_cons (ps_set (i := 4) scMore.nd rfl (Or.inl rfl) (pe_makeD DI (hr.mono (by decide)) rfl gO (pa_cons (pe_fld (pv 0) rfl) (pa_cons (pe_fld (pv 0) rfl)
        (pa_cons (pe_callTy call_list_of (by rfl) G.list (by decide +kernel) (pa_cons (pe_fld (pv 0) rfl) pa_nil)) (pa_cons (pe_callTy call_list_of (by rfl) G.list (by decide +kernel) (pa_cons (pe_fld (pv 0) rfl) pa_nil)) pa_nil))))))
      (pss_cons (ps_expr (pe_methD T.cl DP (hr.mono (by decide)) (pv 4) (pa_cons (pv 1) (pa_cons (pv 2) (pa_cons (pv 3) pa_nil)))))
      (pss_cons (ps_expr (pe_methD0 T.cl DC hr (pv 4)))
      (pss_one (ps_ret (pv 4)))))), ?_⟩
    have no1 : ∀ a b c d : Addr, (oF a b c d).lookup ("put" : Str) = none := fun a b c d => oF_no a b c d (by decide +kernel) (by decide +kernel) (by decide +kernel) (by decide +kernel)
    have no2 : ∀ a b c d : Addr, (oF a b c d).lookup ("close" : Str) = none := fun a b c d => oF_no a b c d (by decide +kernel) (by decide +kernel) (by decide +kernel) (by decide +kernel)
    obtain ⟨dx, e⟩ := O.ob
    refine ⟨_, rfl, o.p, C, dx, _, _, rfl, e, T.cl, T.nR, oF_r _ _ _ _, _, rfl, o.p, C, dx, _, _, rfl, e, T.cl, T.nJ, oF_j _ _ _ _, _, rfl, o.p, C, dx, _, _, rfl, e, T.cl, T.nU, oF_u _ _ _ _, o.u, _, rfl, .inl (SqL.of O.hu), fun l1 hl1 => ?_⟩
    have s1 : Same H (upd H l1 (.lst (NL kn.up))) := fun b z hb => by rw [upd_ne (ne_of_none hb hl1)]; exact hb
    have O1 := O.same s1
    obtain ⟨dx1, e1⟩ := O1.ob
    refine ⟨_, rfl, o.p, C, dx1, _, _, rfl, e1, T.cl, T.nB, oF_b _ _ _ _, o.b, _, rfl, .inl (SqL.of O1.hb), fun l2 hl2 => ?_⟩
    have s2 : Same (upd H l1 (.lst (NL kn.up))) (upd (upd H l1 (.lst (NL kn.up))) l2 (.lst (NL kn.be))) := fun b z hb => by rw [upd_ne (ne_of_none hb hl2)]; exact hb
    have O2 := O1.same s2
    have hl1' : (upd (upd H l1 (.lst (NL kn.up))) l2 (.lst (NL kn.be))) l1 = some (.lst (NL kn.up)) := s2 _ _ upd_same
    have hl2' : (upd (upd H l1 (.lst (NL kn.up))) l2 (.lst (NL kn.be))) l2 = some (.lst (NL kn.be)) := upd_same
    have n1 : l1 ≠ l2 := fun z => by rw [← z, upd_same] at hl2; cases hl2
    have n2 : l1 ≠ o.r := fun z => by rw [z, O.hr] at hl1; cases hl1
    have n3 : l1 ≠ o.j := fun z => by rw [z, O.hj] at hl1; cases hl1
    have n4 : l2 ≠ o.r := fun z => by rw [z, O1.hr] at hl2; cases hl2
    have n5 : l2 ≠ o.j := fun z => by rw [z, O1.hj] at hl2; cases hl2
    have s02 : Same H (upd (upd H l1 (.lst (NL kn.up))) l2 (.lst (NL kn.be))) := s1.trans s2
    generalize (upd (upd H l1 (.lst (NL kn.up))) l2 (.lst (NL kn.be))) = H2 at O2 hl1' hl2' s02
    intro x dy nx ndy nex
    refine ⟨x, o.r, o.j, l1, l2, dy, rfl, upd_same, rfl, ?_⟩
    have s3 : Same H2 (upd (upd (upd H2 dy (.own x)) x (.ins C dy [])) x (.ins C dy (oF o.r o.j l1 l2))) := fun b z hb => by
      rw [upd_ne (ne_of_none hb nx), upd_ne (ne_of_none hb nx), upd_ne (ne_of_none hb ndy)]
      exact hb
    have O3 : OA C (upd (upd (upd H2 dy (.own x)) x (.ins C dy [])) x (.ins C dy (oF o.r o.j l1 l2))) ⟨x, o.r, o.j, l1, l2, o.ts⟩ qs kn :=
      ⟨⟨dy, upd_same⟩, s3 _ _ O2.hr, O2.hq.same fun t _ z hz => s3 t z hz, s3 _ _ O2.hj, s3 _ _ hl1', s3 _ _ hl2', n1, n2, n3, n4, n5⟩
    -- all that the caller has stands where found's lists do not
    have s03 : Same H (upd (upd (upd H2 dy (.own x)) x (.ins C dy [])) x (.ins C dy (oF o.r o.j l1 l2))) := s02.trans s3
    generalize (upd (upd (upd H2 dy (.own x)) x (.ins C dy [])) x (.ins C dy (oF o.r o.j l1 l2))) = H3 at O3 s03
    have fr1 : H l1 = none := hl1
    have fr2 : H l2 = none := s1.free hl2
    have fr3 : H x = none := s02.free nx
    obtain ⟨dx3, e3⟩ := O3.ob
    refine ⟨_, rfl, x, dx3, _, rfl, e3, no1 _ _ _ _, _, rfl, _, rfl, _, rfl, ⟨x, o.r, o.j, l1, l2, o.ts⟩, qs, kn, i, k, b, rfl, O3, by rw [wf.bu.1]; exact hi, by rw [wf.bb.1]; exact hi, by omega, fun H4 k4 O4 => ?_⟩
    obtain ⟨dx4, e4⟩ := O4.ob
    refine ⟨_, rfl, x, dx4, _, rfl, e4, no2 _ _ _ _, ⟨x, o.r, o.j, l1, l2, o.ts⟩, qs, kn.put i k b, n, rfl, O4, put_wf b hk wf, hn, hq, fun H5 t k5 O5 ad cl => ?_⟩
    refine ⟨_, rfl, q H5 ⟨x, o.r, o.j, l1, l2, o.ts⟩ t (fun c z hc => ?_) O5 (more_of wf hi hk ad cl) ⟨rfl, rfl, fr3, fr1, fr2⟩⟩
    exact (k4.trans k5) c z (s03 c z hc) (ne_of_none hc fr1) (ne_of_none hc fr2)
end
end K54
namespace K54
open PySem PySem.Spec PyProof.Rows L2
/-! ### a dict comprehension whose keys are tuples -/
theorem dictSet_tup {X : Cx} {pins : List (Addr × Obj)} {σ : L2.St} {H : Hp} {s : Shared} {E : Value → Shared → Prop} {D b : Addr} {kvs : List (List Key × V)} {k : List Key} {v : V} {r : Value} {Q : Unit → Shared → Prop}
    (hu : X.A.units + 1 < cLine) (I : Inv X pins σ H s) (hD : H D = some (.dT kvs)) (hb : H b = some (.tup (k.map kV))) (hz : kvs.length < sizeLine) (rv : RelV v r)
    (h : ∀ s', Inv X pins σ (upd H D (.dT (putK kvs k v))) s' → Q () s') : wpAny (model X.prog X.w) X.A (dictSet D (.ref b) r) Q E s := by
  obtain ⟨z, hd, xs, rel, dd⟩ := dt_of I.hok hD
  have lx : xs.length ≤ sizeLine := by
    rw [← Paired.length rel]
    exact z
  have lp : (putK kvs k v).length ≤ sizeLine := by
    have := length_putK kvs k v
    omega
  refine wpAny_dictSet_heap (hsz := lx) (show X.A.units < cLine by omega) (key_of I.hok hb) dd fun h' dd' hs => h _ ?_
  obtain ⟨q, es, ep, hq, h2, h3, h4, _, h5⟩ := dd'
  exact d_write I (by rw [hD]; trivial) hs ⟨q, hq⟩ ⟨lp, hd, _, (rel.put k hb rv).keeps fun c ys ec => (by rw [upd_ne (ne_of ec hD (fun z => nomatch z))]; exact ec), q, es, ep, hq, h2, h3, h4, h5⟩
/-- D: the new dict -/
def tDcT (wi : TI) (g : TG) (tt : TT) (tk tv : TE) (vs : List Nat) : TE := fun σ H Q => wi σ H fun J H1 => ∀ D, H1 D = none → ∃ W : Nat → Nat → Hp → Prop, (∃ m, W 0 m (upd H1 D (.dT []))) ∧
  ∀ i m H, W i m H → (J.stop i H ∧ Q (.ref D) H) ∨ (J.go i H ∧ ∃ Nx : Hp → Prop, (∀ H', Nx H' → ∃ m', m' < m ∧ W (i + 1) m' H') ∧ ∀ x H', J.yld i H x H' → g x (wipe σ vs) H' fun σ2 H2 => wipe σ2 vs = wipe σ vs ∧
    tt σ2 H2 fun b H3 => if b = true then tk σ2 H3 fun y H4 => tv σ2 H4 fun z H5 => ∃ (kvs : List (List Key × V)) (k : List Key) (a : Addr), y = .ref a ∧ H5 a = some (.tup (k.map kV)) ∧ H5 D = some (.dT kvs) ∧ kvs.length < sizeLine ∧ Nx (upd H5 D (.dT (putK kvs k z))) else Nx H3)
section
variable {X : Cx}
theorem dcT_core {pins : List (Addr × Obj)} {s : Shared} {σ : L2.St} {H : Hp} {Q : VK} {kx vx tg iter : Expr} {ifs : List Expr} {scope : Scope} {own : List (Str × Nat)} {pos pos' : Pos} {wi : TI} {g : TG} {tt : TT} {tk tv : TE}
    {use : Option (Value → Sem Unit)} {Qf : Value → Shared → Prop} (hc : X.calm = true) (hu : X.A.units + 1 < cLine) (hN : X.N.Nodup) (I : Inv X pins σ H s) (hi : PI X tg iter wi) (ok : BlkOk X.N X.env.scope scope own)
    (hg : ∀ s H C cl fp, PG (X.blk s H scope (compEnvC scope cl C X.env) fp) tg g) (ht : ∀ s H C cl fp, PTs (X.blk s H scope (compEnvC scope cl C X.env) fp) ifs tt)
    (hk : ∀ s H C cl fp, PE (X.blk s H scope (compEnvC scope cl C X.env) fp) kx tk) (he : ∀ s H C cl fp, PE (X.blk s H scope (compEnvC scope cl C X.env) fp) vx tv) (hs : ∀ x, foldedSetIterable iter X.env x = pure x)
    (h : tDcT wi g tt tk tv (own.map (·.2)) σ H Q)
    (fin : ∀ D C s' m H', Inv X pins σ H' s' → Q (.ref D) H' → s'.heap.Ns C m → FpOk X pins H' C → compPost (model X.prog X.w) X.A X.xe use Qf (.ref D) C (.ok .next) s') :
    wpAny (model X.prog X.w) X.A (comprehension (.DictComp kx vx [⟨tg, iter, ifs, 0⟩] scope pos) scope X.env pos' newDict false (eval iter X.env) use) Qf X.xe s := by
  have frees : ∀ y ∈ scope.names, y.2 = .free → ∃ c, X.env.cells.lookup y.1 = some c := fun y hy e => (ok.free y hy e).elim (fun k => I.ok.has _ (.inl k)) fun k => I.ok.has _ (.inr k)
  refine wpAny_comprehension_free (use := use) rfl hs (closure_ok frees) ok.kind (fun y hy e => by rw [ok.uniq y hy, e]) (thn (hi.run pins s σ H _ I h) fun _ s1 hx => thn hx fun itv s2 h2 => ?_)
  obtain ⟨it, fp, tn, J, H2, e, I2, T, st2, f2, q⟩ := h2
  subst e
  refine wpAny_newObj_type (newEnv_comp ?_)
  generalize hD : s2.heap.objs.size = D
  have free2 : H2 D = none := I2.hok.fresh (Nat.le_of_eq hD)
  obtain ⟨W, ⟨m0, w0⟩, turn⟩ := q D free2
  -- the new dict stands at D
  generalize hs3 : ({ s2 with heap := s2.heap.push { cls := .type "dict", data := .dict #[] } } : Shared) = s3
  have I3 : Inv X pins σ (upd H2 D (.dT [])) s3 := by
    subst hs3
    subst hD
    exact I2.laid (t' := s2.toks) (fun b o e => Heap.get?_push_of_some _ e) (Nat.le_refl _) (dt_empty s2.heap I2.big)
  have h3 : s3.heap = s2.heap.push { cls := .type "dict", data := .dict #[] } := by subst hs3; rfl
  have f3 : ∀ b ∈ fp, FpOk X pins (upd H2 D (.dT [])) b ∧ b < s3.heap.objs.size := fun b hb => by
    obtain ⟨o, ho, _⟩ := T.obj _ _ st2 b hb
    have hlt := Heap.lt_size ho
    refine ⟨⟨?_, (f2 b hb).2⟩, ?_⟩
    · rw [upd_ne (by rw [← hD]; exact Nat.ne_of_lt hlt)]
      exact (f2 b hb).1
    · rw [h3, Heap.size_push]
      exact Nat.lt_succ_of_lt hlt
  have st3 : tn 0 s3.heap := T.keep _ _ _ st2 fun b _ o e => by rw [h3]; exact Heap.get?_push_of_some _ e
  have I4 := block_start I3 ok hN f3
  have pg := hg s3 (upd H2 D (.dT [])) s3.heap.objs.size (cellsFrom (s3.heap.objs.size + 1) scope.names (cloFrom X.env.cells scope.names [])) fp
  have pt := ht s3 (upd H2 D (.dT [])) s3.heap.objs.size (cellsFrom (s3.heap.objs.size + 1) scope.names (cloFrom X.env.cells scope.names [])) fp
  have pk := hk s3 (upd H2 D (.dT [])) s3.heap.objs.size (cellsFrom (s3.heap.objs.size + 1) scope.names (cloFrom X.env.cells scope.names [])) fp
  have pv := he s3 (upd H2 D (.dT [])) s3.heap.objs.size (cellsFrom (s3.heap.objs.size + 1) scope.names (cloFrom X.env.cells scope.names [])) fp
  show codeAny _ _ (.compStart (.DictComp kx vx [⟨tg, iter, ifs, 0⟩] scope pos) 0 (.ref it) (.ref D) (compEnvC scope (cellsFrom (s3.heap.objs.size + 1) scope.names (cloFrom X.env.cells scope.names [])) s3.heap.objs.size X.env))
    (compPost (model X.prog X.w) X.A X.xe use Qf (.ref D) s3.heap.objs.size) { s3 with heap := pushCells (s3.heap.push { cls := .type "dict", data := .dict #[] }) scope.names }
  have n3 : ∀ b ∈ fp, (upd H2 D (.dT [])) b = none := fun b hb => (f3 b hb).1.1
  generalize hce : compEnvC scope (cellsFrom (s3.heap.objs.size + 1) scope.names (cloFrom X.env.cells scope.names [])) s3.heap.objs.size X.env = ce at I4 pg pt pk pv ⊢
  have cL : ce.locals = s3.heap.objs.size := by subst hce; rfl
  generalize upd H2 D (.dT []) = H3 at I3 I4 pg pt pk pv w0 n3 f3
  generalize hs4 : ({ s3 with heap := pushCells (s3.heap.push { cls := .type "dict", data := .dict #[] }) scope.names } : Shared) = s4 at I4 ⊢
  have st4 : tn 0 s4.heap := T.keep _ _ _ st3 fun b _ o e => by rw [← hs4]; exact pushCells_keeps _ _ _ _ (Heap.get?_push_of_some _ e)
  have stat : ∀ {σ' H' s'}, Inv (X.blk s3 H3 scope ce fp) [] σ' H' s' → (∀ b ∈ fp, H' b = none) → ∀ b ∈ fp, FpOk (X.blk s3 H3 scope ce fp) [] H' b := fun I' hn b hb =>
    ⟨hn b hb, (I'.ok.exf b hb).1, I'.ok.exfs b hb, .inl hb, fun x c e => (I'.ok.exf b hb).2 x c e, fun p hp => by cases hp⟩
  have loop : codeAny (model X.prog X.w) X.A (.compLoop (.DictComp kx vx [⟨tg, iter, ifs, 0⟩] scope pos) 0 (.ref it) (.ref D) ce) (compPost (model X.prog X.w) X.A X.xe use Qf (.ref D) s3.heap.objs.size) s4 := by
    refine compLoop_anyD (fun n s' => ∃ i H', Inv (X.blk s3 H3 scope ce fp) [] (wipe σ (own.map (·.2))) H' s' ∧ tn i s'.heap ∧ (∀ b ∈ fp, H' b = none) ∧ W i n H') ?_ m0 ⟨0, H3, I4, st4, n3, w0⟩
    rintro n s5 ⟨i, H5, I5, st5, n5, w5⟩
    rcases turn i n H5 w5 with ⟨stop, qq⟩ | ⟨go, Nx, hNx, step⟩
    · refine thnF (T.done (X.blk s3 H3 scope ce fp) rfl rfl rfl hc i [] s5 _ H5 (fun _ _ => False) I5 (stat I5 n5) st5 stop) fun r s6 ⟨hr, I6⟩ => ?_
      subst hr
      have I7 : Inv X pins σ H5 s6 := I3.call' (ch := fp) I6.os I6.base I6.hok I6.bare fun b hb => ⟨(f3 b hb).1.2.2.2.1, (f3 b hb).1.2.1, (f3 b hb).1.2.2.2.2.1, (f3 b hb).1.2.2.2.2.2⟩
      have nC : H5 s3.heap.objs.size = none := by rw [← cL]; exact I6.free
      obtain ⟨m, hn, _⟩ := I6.loc
      exact fin D s3.heap.objs.size s6 m H5 I7 qq (by rw [← cL]; exact hn) (I3.fpOk (Nat.le_refl _) nC)
    · refine thnF (T.item (X.blk s3 H3 scope ce fp) rfl rfl rfl hc i [] s5 _ H5 (fun _ _ => False) I5 (stat I5 n5) st5 go) fun r s6 ⟨u, hr, h6⟩ => ?_
      subst hr
      refine thnF h6 fun _ s7 ⟨x, H7, I7, r7, y7, st7, n7⟩ => ?_
      have P7 := I7.pinned (stat I7 n7) (T.obj _ _ st7)
      refine thnF (pg.run _ s7 _ H7 x u _ P7 r7 (step x H7 y7)) fun _ s8 ⟨σ8, H8, I8, hw8, q8⟩ => ?_
      refine thnF (pt.run _ s8 σ8 H8 _ I8 q8) fun b s9 ⟨H9, I9, q9⟩ => ?_
      have next : ∀ {s' H'}, Inv (X.blk s3 H3 scope ce fp) ([] ++ pinsAt fp s7.heap) σ8 H' s' → Nx H' → ∃ m, m < n ∧ ∃ i H', Inv (X.blk s3 H3 scope ce fp) [] (wipe σ (own.map (·.2))) H' s' ∧ tn i s'.heap ∧ (∀ b ∈ fp, H' b = none) ∧ W i m H' := fun {s' H'} I' nx => by
        obtain ⟨m', hm, w'⟩ := hNx H' nx
        have held : ∀ b ∈ fp, ∀ o, s7.heap.get? b = some o → s'.heap.get? b = some o ∧ H' b = none := fun b hb o e => by
          obtain ⟨z1, z2, _⟩ := I'.pin (b, o) (List.mem_append_right _ (List.mem_append_right _ (mem_pinsAt hb e)))
          exact ⟨z1, z2⟩
        have hl : (wipe σ (own.map (·.2))).length = σ8.length := by rw [← hw8, wipe_length]
        refine ⟨m', hm, i + 1, H', (I'.unpinned (pins := [])).weak hl (fun j v e => (wipe_some (by rw [hw8]; exact e)).1), T.keep _ _ _ st7 fun b hb o e => (held b hb o e).1, fun b hb => ?_, w'⟩
        obtain ⟨o, e, _⟩ := T.obj _ _ st7 b hb
        exact (held b hb o e).2
      cases b with
      | false => exact next I9 q9
      | true =>
        refine thnF (pk.run _ s9 σ8 H9 _ I9 q9) fun z s10 ⟨yk, H10, I10, r10, q10⟩ => ?_
        refine thnF (pv.run _ s10 σ8 H10 _ I10 q10) fun z2 s11 ⟨yv, H11, I11, r11, kvs, k, a, ek, ha, hD11, hz11, nx⟩ => ?_
        subst ek
        cases r10
        exact dictSet_tup (X := X.blk s3 H3 scope ce fp) hu I11 hD11 ha hz11 r11 fun s12 I12 => next I12 nx
  exact codeAny_compStart_dict loop (T.self X.A 0 _ _ _ st4 loop)
theorem pe_dcT {kx vx tg iter : Expr} {ifs : List Expr} {scope : Scope} {own : List (Str × Nat)} {pos : Pos} {wi : TI} {g : TG} {tt : TT} {tk tv : TE} (hc : X.calm = true) (hu : X.A.units + 1 < cLine) (hN : X.N.Nodup) (hi : PI X tg iter wi)
    (ok : BlkOk X.N X.env.scope scope own) (hg : ∀ s H C cl fp, PG (X.blk s H scope (compEnvC scope cl C X.env) fp) tg g) (ht : ∀ s H C cl fp, PTs (X.blk s H scope (compEnvC scope cl C X.env) fp) ifs tt)
    (hk : ∀ s H C cl fp, PE (X.blk s H scope (compEnvC scope cl C X.env) fp) kx tk) (he : ∀ s H C cl fp, PE (X.blk s H scope (compEnvC scope cl C X.env) fp) vx tv) (hs : ∀ x, foldedSetIterable iter X.env x = pure x := by intro _; rfl) :
    PE X (.DictComp kx vx [⟨tg, iter, ifs, 0⟩] scope pos) (tDcT wi g tt tk tv (own.map (·.2))) := by
  refine ⟨fun pins s σ H Q I h => ?_⟩
  rw [arm_eval_DictComp]
  refine dcT_core hc hu hN I hi ok hg ht hk he hs h fun D C s' m H' I' q hn f => ⟨m, hn, fun h'' sb => ?_⟩
  obtain ⟨f0, f1, f2, f3, f4, f5⟩ := f
  exact ⟨.ref D, H', I'.turned (t' := s'.toks) (fun b o hb e => (sb.2 b hb).trans e) f0 f1 f3 f4 f5, rfl, q⟩
end
/-- over a list that stays -/
theorem dcT_list {K : PySem.W.Frag} {a : Addr} {xs : List V} {g : TG} {tt : TT} {tk tv : TE} {vs : List Nat} {σ : L2.St} {H1 : Hp} {D : Addr} {Qd : Hp → Prop} (Pv : Nat → Hp → Prop) (h0 : Pv 0 (upd H1 D (.dT []))) (hl : ∀ i H, i ≤ xs.length → Pv i H → SqL K H a xs)
    (hs : ∀ i x H, xs[i]? = some x → Pv i H → g x (wipe σ vs) H fun σ2 H2 => wipe σ2 vs = wipe σ vs ∧ tt σ2 H2 fun b H3 => if b = true then tk σ2 H3 fun y H4 => tv σ2 H4 fun z H5 =>
      ∃ (kvs : List (List Key × V)) (k : List Key) (a : Addr), y = .ref a ∧ H5 a = some (.tup (k.map kV)) ∧ H5 D = some (.dT kvs) ∧ kvs.length < sizeLine ∧ Pv (i + 1) (upd H5 D (.dT (putK kvs k z))) else Pv (i + 1) H3) (hd : ∀ H, Pv xs.length H → Qd H) :
    ∃ W : Nat → Nat → Hp → Prop, (∃ m, W 0 m (upd H1 D (.dT []))) ∧ ∀ i m H, W i m H → ((Itl K a).stop i H ∧ Qd H) ∨ ((Itl K a).go i H ∧ ∃ Nx : Hp → Prop, (∀ H', Nx H' → ∃ m', m' < m ∧ W (i + 1) m' H') ∧ ∀ x H', (Itl K a).yld i H x H' → g x (wipe σ vs) H' fun σ2 H2 => wipe σ2 vs = wipe σ vs ∧
      tt σ2 H2 fun b H3 => if b = true then tk σ2 H3 fun y H4 => tv σ2 H4 fun z H5 => ∃ (kvs : List (List Key × V)) (k : List Key) (a : Addr), y = .ref a ∧ H5 a = some (.tup (k.map kV)) ∧ H5 D = some (.dT kvs) ∧ kvs.length < sizeLine ∧ Nx (upd H5 D (.dT (putK kvs k z))) else Nx H3) := by
  refine ⟨fun i m H => m = xs.length - i ∧ i ≤ xs.length ∧ Pv i H, ⟨_, rfl, Nat.zero_le _, h0⟩, ?_⟩
  rintro i m H ⟨rfl, hi, p⟩
  have q := hl i H hi p
  by_cases hlt : i < xs.length
  · refine .inr ⟨⟨xs, xs[i], q, List.getElem?_eq_getElem hlt⟩, Pv (i + 1), fun H' p' => ⟨xs.length - (i + 1), by omega, rfl, hlt, p'⟩, fun x H' y => ?_⟩
    obtain ⟨rfl, y⟩ := y
    exact hs i x _ (y xs q) p
  · have e : i = xs.length := by omega
    subst e
    exact .inl ⟨⟨xs, q, Nat.le_refl _⟩, hd H p⟩
end K54
namespace K54
open PySem PySem.Spec PyProof.Rows L2
/-! ### helpers -/
theorem same_upd {H H' : Hp} {D : Addr} {o : HO} (s : Same H H') (h : H D = none) : Same H (upd H' D o) := fun b z hb => by
  rw [upd_ne (ne_of_none hb h)]
  exact s b z hb
theorem same_new {H : Hp} {D : Addr} {o : HO} (h : H D = none) : Same H (upd H D o) := same_upd (Same.refl H) h
theorem Tps.updN {α : Type} {f : α → List V} {H : Hp} {ts : List Addr} {xs : List α} {D : Addr} {o : HO} (h : Tps f H ts xs) (hD : ∀ ys, H D ≠ some (.tup ys)) : Tps f (upd H D o) ts xs :=
  ⟨h.len, fun k t x h1 h2 => by
    have e := h.at_ k t x h1 h2
    rw [upd_ne (fun z => hD _ (by rw [← z]; exact e))]
    exact e⟩
theorem Tps.new {α : Type} {f : α → List V} {H : Hp} {ts : List Addr} {xs : List α} {D : Addr} {o : HO} (h : Tps f H ts xs) (hD : H D = none) : Tps f (upd H D o) ts xs := h.updN fun ys z => by rw [hD] at z; cases z
theorem Tps.lst {α : Type} {f : α → List V} {H : Hp} {ts : List Addr} {xs : List α} {D : Addr} {l : List V} {o : HO} (h : Tps f H ts xs) (hD : H D = some (.lst l)) : Tps f (upd H D o) ts xs := h.updN fun ys z => by rw [hD] at z; cases z
theorem Tps.of_same {α : Type} {f : α → List V} {H H' : Hp} {ts : List Addr} {xs : List α} (h : Tps f H ts xs) (g : Same H H') : Tps f H' ts xs := h.same fun t _ o e => g t o e
theorem Tps.get {α : Type} {f : α → List V} {H : Hp} {ts : List Addr} {xs : List α} (h : Tps f H ts xs) {i : Nat} {v : V} (e : (ts.map V.ref)[i]? = some v) : ∃ t x, v = .ref t ∧ ts[i]? = some t ∧ xs[i]? = some x ∧ H t = some (.tup (f x)) := by
  rw [List.getElem?_map] at e
  obtain ⟨t, ht, rfl⟩ := Option.map_eq_some_iff.mp e
  have hl : i < xs.length := by rw [← h.len]; exact (List.getElem?_eq_some_iff.mp ht).1
  exact ⟨t, xs[i], rfl, ht, List.getElem?_eq_getElem hl, h.at_ i t _ ht (List.getElem?_eq_getElem hl)⟩
theorem take_snoc {α : Type} {xs : List α} {i : Nat} {x : α} (h : xs[i]? = some x) : xs.take (i + 1) = xs.take i ++ [x] := by rw [List.take_add_one, h]; rfl
theorem mem_putK {κ : Type} [DecidableEq κ] {kvs : List (κ × V)} {k : κ} {v : V} {q : κ × V} (h : q ∈ putK kvs k v) : q.1 = k ∨ ∃ q' ∈ kvs, q'.1 = q.1 := by
  unfold putK at h
  split at h
  · obtain ⟨q', hq, rfl⟩ := List.mem_map.mp h
    refine .inr ⟨q', hq, ?_⟩
    split <;> rfl
  · rcases List.mem_append.mp h with h | h
    · exact .inr ⟨q, h, rfl⟩
    · left
      rw [List.mem_singleton] at h
      rw [h]
def pV (q : Nat × Nat) : List V := [.int (q.1 : Int), .int (q.2 : Int)]
/-! ### promises -/
def spOpen (C : Addr) : Sp := fun vs H Q _ => ∃ (o : Ob) (qs : List Quad) (s : Kn) (n i j : Nat), vs = [.ref o.p, .int (i : Int), .int (j : Int)] ∧ OA C H o qs s ∧ s.Wf n ∧ i < n ∧ j < n ∧ Q (.bl (!bt s.up i j && !bt s.be j i)) H
def spBits : Sp := fun vs H Q _ => ∃ x : Nat, vs = [.int (x : Int)] ∧ ∀ r : Int, Q (.int r) H
def spWeight (C : Addr) : Sp := fun vs H Q _ => ∃ (o : Ob) (qs : List Quad) (s : Kn) (n : Nat), vs = [.ref o.p] ∧ OA C H o qs s ∧ s.Wf n ∧ n ≤ 64 ∧ ∀ H' (r : Int), Same H H' → Q (.int r) H'
/-- an open pair of values -/
def OpenP (n : Nat) (s : Kn) (q : Nat × Nat) : Prop := q.1 < n ∧ q.2 < n ∧ q.1 ≠ q.2 ∧ Opn s q.1 q.2
def spPrem (C : Addr) : Sp := fun vs H Q _ => ∃ (o : Ob) (qs : List Quad) (s : Kn) (n : Nat), vs = [.ref o.p] ∧ OA C H o qs s ∧ s.Wf n ∧ n ≤ 64 ∧ (∀ q ∈ qs, QIn n q) ∧ qs.length ≤ 100 ∧
  ∀ H' p (ts : List Addr) (ps : List (Nat × Nat)), Same H H' → H' p = some (.lst (ts.map V.ref)) → Tps pV H' ts ps → ps.length ≤ 200 → (∀ q ∈ ps, OpenP n s q) → Q (.ref p) H'
def spFirst (C : Addr) : Sp := fun vs H Q _ => ∃ (o : Ob) (qs : List Quad) (s : Kn) (n : Nat), vs = [.ref o.p] ∧ OA C H o qs s ∧ s.Wf n ∧ n ≤ 64 ∧ (Total n s → Q .non H) ∧
  ∀ H' p q, Same H H' → H' p = some (.tup (pV q)) → OpenP n s q → Q (.ref p) H'
section
variable {P : Program} {w : World} {K : PySem.W.Frag} {mg : Str → Option Value} {base : Heap} {C f : Addr} {fd : FuncData}
theorem scOpen : FnScope ["order", "i", "j"] ["order", "i", "j"] (defScope s_is_open) := ⟨rfl, rfl, rfl, by decide +kernel, rfl, by decide +kernel, by decide +kernel⟩
theorem ok_open (T : OC K C) (DU : DfM P w K mg base C "is_upto" 1 ["self", "i", "j"] (spUpto C)) (DB : DfM P w K mg base C "is_below" 1 ["self", "i", "j"] (spBelow C)) (F : FnP K "is_open" s_is_open f fd) :
    FnOk P w K mg base CX0 2 f fd ["order", "i", "j"] (spOpen C) := by
  refine F.ok scOpen (fun vs H Q E h => ?_) (fun cdv A outer s H vs Q E hr h => ?_)
  · obtain ⟨o, qs, s, n, i, j, rfl, _⟩ := h
    rfl
  · obtain ⟨o, qs, kn, n, i, j, rfl, O, wf, hi, hj, q⟩ := h
    refine ⟨_, PSs.nox (pss_one (ps_ret (pe_and (pe_not (pe_methD T.cl DU hr (pv 0) (pa_cons (pv 1) (pa_cons (pv 2) pa_nil)))) (pe_one (pe_not (pe_methD T.cl DB hr (pv 0) (pa_cons (pv 2) (pa_cons (pv 1) pa_nil)))))))), ?_⟩
    obtain ⟨dx, e⟩ := O.ob
    refine ⟨_, rfl, o.p, dx, _, rfl, e, oF_no _ _ _ _ (by decide +kernel) (by decide +kernel) (by decide +kernel) (by decide +kernel), _, rfl, _, rfl, o, qs, kn, i, j, rfl, O, by rw [wf.bu.1]; exact hi, _, rfl, _, rfl, ?_⟩
    cases h1 : bt kn.up i j with
    | true =>
      refine iteF ?_
      rw [h1] at q
      exact q
    | false =>
      refine iteT ?_
      refine ⟨_, rfl, o.p, dx, _, rfl, e, oF_no _ _ _ _ (by decide +kernel) (by decide +kernel) (by decide +kernel) (by decide +kernel), _, rfl, _, rfl, o, qs, kn, j, i, rfl, O, by rw [wf.bb.1]; exact hj, _, rfl, ?_⟩
      rw [h1] at q
      exact q
theorem and_lt {x : Nat} (h : 0 < x) : Builtin.bitAnd (x : Int) ((x : Int) - 1) = ((x &&& (x - 1) : Nat) : Int) ∧ (x &&& (x - 1)) < x := by
  refine ⟨?_, ?_⟩
  · have e : (x : Int) - 1 = ((x - 1 : Nat) : Int) := by omega
    rw [e, bitAnd_pp (by omega) (by omega), Int.toNat_natCast, Int.toNat_natCast]
  · have := @Nat.and_le_right x (x - 1)
    omega
theorem scBits : FnScope ["number", "many"] ["number"] (defScope s_bits) := ⟨rfl, rfl, rfl, by decide +kernel, rfl, by decide +kernel, by decide +kernel⟩
theorem ok_bits (F : FnP K "bits" s_bits f fd) : FnOk P w K mg base CX0 1 f fd ["number"] spBits := by
  refine F.ok scBits (fun vs H Q E h => ?_) (fun cdv A outer s H vs Q E hr h => ?_)
  · obtain ⟨x, rfl, _⟩ := h
    rfl
  · obtain ⟨x, rfl, q⟩ := h
    refine ⟨_, PSs.nox (pss_cons (ps_set (i := 1) scBits.nd rfl (Or.inl rfl) pe_int)
      (pss_cons (ps_while PassesOwn.never (pt_cmpR op_gt (pv 0) pe_int (nomark _))
        (pss_cons (ps_aug (i := 0) scBits.nd rfl (Or.inl rfl) (pe_op op_sub (pv 0) pe_int) ip_and) (pss_one (ps_aug (i := 1) scBits.nd rfl (Or.inl rfl) pe_int ip_add))))
      (pss_one (ps_ret (pv 1))))), ?_⟩
    refine ⟨fun m σ H' => ∃ c : Int, σ = [some (.int (m : Int)), some (.int c)] ∧ H' = H, ⟨x, 0, rfl, rfl⟩, ?_⟩
    rintro m σ H' ⟨c, rfl, rfl⟩
    refine ⟨_, rfl, _, _, rfl, rfl, _, rfl, ?_⟩
    by_cases hm : 0 < m
    · rw [decide_eq_true (show (0 : Int) < (m : Int) by omega)]
      refine iteT ?_
      obtain ⟨e1, e2⟩ := and_lt hm
      refine ⟨fun σ' H'' => ∃ c : Int, σ' = [some (.int ((m &&& (m - 1) : Nat) : Int)), some (.int c)] ∧ H'' = H', fun σ' H'' ⟨c, h1, h2⟩ => ⟨_, e2, c, h1, h2⟩, ?_⟩
      refine ⟨_, rfl, _, rfl, _, _, rfl, rfl, _, _, rfl, rfl, ?_⟩
      exact ⟨_, rfl, _, _, rfl, rfl, _, by rw [← e1]; rfl, rfl⟩
    · rw [decide_eq_false (show ¬ (0 : Int) < (m : Int) by omega)]
      refine iteF ?_
      exact ⟨_, rfl, q c⟩
abbrev NWeight : List Str := ["order", "one"]
theorem scWeight : FnScope NWeight ["order"] (defScope s_weight) := ⟨rfl, rfl, rfl, by decide +kernel, rfl, by decide +kernel, by decide +kernel⟩
/-- [bits(one) for one in xs] -/
theorem bits_list {H H1 : Hp} {a D : Addr} {xs : List Nat} {σ : L2.St} {Qd : Hp → Prop} (sm : Same H H1) (hD : H1 D = none) (ha : H1 a = some (.lst (NL xs))) (hl : xs.length ≤ 64)
    (hσ : wipe σ [1] = [σ.headD none, none]) (hd : ∀ H' (rs : List Int), Same H H' → H' D = some (.lst (rs.map V.int)) → H' a = some (.lst (NL xs)) → Qd H') :
    ∃ W : Nat → Nat → Hp → Prop, (∃ m, W 0 m (upd H1 D (.lst []))) ∧ ∀ i m H, W i m H → ((Itl K a).stop i H ∧ Qd H) ∨ ((Itl K a).go i H ∧ ∃ Nx : Hp → Prop, (∀ H', Nx H' → ∃ m', m' < m ∧ W (i + 1) m' H') ∧
      ∀ x H', (Itl K a).yld i H x H' → gName 1 x (wipe σ [1]) H' fun σ2 H2 => wipe σ2 [1] = wipe σ [1] ∧ tYes σ2 H2 fun b H3 =>
        if b = true then tCall spBits [] E0 (tCons (tVar 1) tNil) σ2 H3 fun y H4 => ∃ acc, H4 D = some (.lst acc) ∧ acc.length < sizeLine ∧ Nx (upd H4 D (.lst (acc ++ [y]))) else Nx H3) := by
  have fr : H D = none := sm.free hD
  refine lc_list (K := K) (a := a) (xs := NL xs) (fun i H' => Same H H' ∧ H' a = some (.lst (NL xs)) ∧ ∃ rs : List Int, H' D = some (.lst (rs.map V.int)) ∧ rs.length ≤ i) ⟨same_upd sm fr, by rw [upd_ne (ne_of_none ha hD)]; exact ha, [], upd_same, Nat.le_refl _⟩
    (fun i H' _ h => SqL.of h.2.1) ?_ ?_
  · rintro i x H' hx ⟨s', ha', rs, hr, hrl⟩
    have hi : i < xs.length := by rw [← NL_length xs]; exact (List.getElem?_eq_some_iff.mp hx).1
    rw [NL_get hi] at hx
    cases hx
    rw [hσ]
    refine ⟨rfl, ?_⟩
    refine ⟨_, rfl, xs.getD i 0, rfl, fun r => ?_⟩
    have nD : a ≠ D := fun z => by rw [z, hD] at ha; cases ha
    refine ⟨_, hr, by rw [List.length_map]; exact small1000 (by omega), same_upd s' fr, by rw [upd_ne nD]; exact ha', rs ++ [r], by rw [upd_same, List.map_append]; rfl, by rw [List.length_append, List.length_singleton]; omega⟩
  · rintro H' ⟨s', ha', rs, hr, _⟩
    exact hd H' rs s' hr ha'
theorem ok_weight (T : OC K C) (G : Txt mg) (DC : DfM P w K mg base C "is_contrary" 2 ["self"] (spContr C)) (DBt : Df P w K mg base "bits" 1 ["number"] spBits) (F : FnP K "weight" s_weight f fd) :
    FnOk P w K mg base CX0 3 f fd ["order"] (spWeight C) := by
  refine F.ok scWeight (fun vs H Q E h => ?_) (fun cdv A outer s H vs Q E hr h => ?_)
  · obtain ⟨o, qs, s, n, rfl, _⟩ := h
    rfl
  · obtain ⟨o, qs, kn, n, rfl, O, wf, hn, q⟩ := h
    refine ⟨_, PSs.nox (pss_cons (ps_if (pt_val (pe_methD0 T.cl DC hr (pv 0))) (pss_one (ps_ret (pe_op op_pow pe_int pe_int))) pss_nil)
      (pss_one (ps_ret (pe_op op_add
        (pe_callB (cr_sum rfl) (by rfl) G.sum (by decide +kernel) (pa_cons (pe_lc (own := [("one", 1)]) rfl scWeight.nd (pi_list (pe_fld (pv 0) rfl)) (blkOk_by (own := [("one", 1)]) (N := NWeight) (sc := defScope s_weight) (by decide +kernel))
          (fun _ _ _ _ _ => pg_name (i := 1) scWeight.nd rfl (Or.inl rfl)) (fun _ _ _ _ _ => pts_nil) (fun _ _ _ _ _ => pe_callD DBt (hr.mono (by decide)) rfl (pa_cons (pv 1) pa_nil))) pa_nil))
        (pe_callB (cr_sum rfl) (by rfl) G.sum (by decide +kernel) (pa_cons (pe_lc (own := [("one", 1)]) rfl scWeight.nd (pi_list (pe_fld (pv 0) rfl)) (blkOk_by (own := [("one", 1)]) (N := NWeight) (sc := defScope s_weight) (by decide +kernel))
          (fun _ _ _ _ _ => pg_name (i := 1) scWeight.nd rfl (Or.inl rfl)) (fun _ _ _ _ _ => pts_nil) (fun _ _ _ _ _ => pe_callD DBt (hr.mono (by decide)) rfl (pa_cons (pv 1) pa_nil))) pa_nil)))))), ?_⟩
    obtain ⟨dx, e⟩ := O.ob
    refine ⟨_, rfl, o.p, dx, _, rfl, e, oF_no _ _ _ _ (by decide +kernel) (by decide +kernel) (by decide +kernel) (by decide +kernel), o, qs, kn, n, rfl, O, wf, hn, fun H1 c s1 _ => ⟨c, rfl, ?_⟩⟩
    cases c with
    | true =>
      refine iteT ?_
      exact ⟨_, _, rfl, rfl, ⟨by decide, by decide, by decide⟩, q H1 _ s1⟩
    | false =>
      refine iteF ?_
      have O1 := O.same s1
      obtain ⟨dx1, e1⟩ := O1.ob
      refine ⟨_, rfl, o.p, C, dx1, _, _, rfl, e1, T.cl, T.nU, oF_u _ _ _ _, o.u, rfl, ⟨_, SqL.of O1.hu⟩, fun D hD => bits_list (H := H) s1 hD O1.hu (by rw [wf.bu.1]; exact hn) rfl fun H2 rs s2 h2 _ => ?_⟩
      refine ⟨D, rs, rfl, SqL.of h2, ?_⟩
      have O2 := O.same s2
      obtain ⟨dx2, e2⟩ := O2.ob
      refine ⟨_, rfl, o.p, C, dx2, _, _, rfl, e2, T.cl, T.nB, oF_b _ _ _ _, o.b, rfl, ⟨_, SqL.of O2.hb⟩, fun D2 hD2 => bits_list (H := H) s2 hD2 O2.hb (by rw [wf.bb.1]; exact hn) rfl fun H3 rs3 s3 h3 _ => ?_⟩
      exact ⟨D2, rs3, rfl, SqL.of h3, _, _, rfl, rfl, q H3 _ s3⟩
theorem scFirst : FnScope ["order", "many", "i", "j"] ["order"] (defScope s_first_open) := ⟨rfl, rfl, rfl, by decide +kernel, rfl, by decide +kernel, by decide +kernel⟩
theorem ok_first (T : OC K C) (G : Txt mg) (DO : Df P w K mg base "is_open" 2 ["order", "i", "j"] (spOpen C)) (F : FnP K "first_open" s_first_open f fd) : FnOk P w K mg base CX0 3 f fd ["order"] (spFirst C) := by
  refine F.ok scFirst (fun vs H Q E h => ?_) (fun cdv A outer s H vs Q E hr h => ?_)
  · obtain ⟨o, qs, s, n, rfl, _⟩ := h
    rfl
  · obtain ⟨o, qs, kn, n, rfl, O, wf, hn, q0, q1⟩ := h
    refine ⟨_, PSs.nox (pss_cons (ps_set (i := 1) scFirst.nd rfl (Or.inl rfl) (pe_callB call_len_seq (by rfl) G.len PySem.boot_len (pa_cons (pe_fld (pv 0) rfl) pa_nil)))
      (pss_cons (ps_for PassesOwn.never rfl (pi_range1 (by rfl) G.range (pa_cons (pv 1) pa_nil)) (pg_name (i := 2) scFirst.nd rfl (Or.inl rfl))
        (pss_one (ps_for PassesOwn.never rfl (pi_range1 (by rfl) G.range (pa_cons (pv 1) pa_nil)) (pg_name (i := 3) scFirst.nd rfl (Or.inl rfl))
          (pss_one (ps_if (PW.pt (pw_and (pt_cmpR op_ne (pv 2) (pv 3) (nomark _)) (pw_and1 (pt_val (pe_callD DO hr rfl (pa_cons (pv 0) (pa_cons (pv 2) (pa_cons (pv 3) pa_nil)))))))) (pss_one (ps_ret (pe_tup (pa_cons (pv 2) (pa_cons (pv 3) pa_nil))))) pss_nil)))))
      (pss_one (ps_ret pe_non)))), ?_⟩
    obtain ⟨dx, e⟩ := O.ob
    refine ⟨_, rfl, o.p, C, dx, _, _, rfl, e, T.cl, T.nU, oF_u _ _ _ _, o.u, _, rfl, .inl (SqL.of O.hu), ?_⟩
    rw [NL_length, wf.bu.1]
    refine ⟨_, rfl, (n : Int), rfl, by omega, by omega, for_range (lo := 0) (n := (n : Int).toNat) (fun i σ H' => ∃ v2 v3 : Option V, σ = [some (.ref o.p), some (.int (n : Int)), v2, v3] ∧ H' = H ∧ ∀ a b, a < i → a < n → b < n → a ≠ b → ¬ Opn kn a b)
      ⟨none, none, rfl, rfl, fun a b h => absurd h (Nat.not_lt_zero _)⟩ ?_ ?_⟩
    · rintro i σ H' hi ⟨v2, v3, rfl, rfl, pr⟩
      rw [Int.toNat_natCast] at hi
      refine ⟨_, rfl, (n : Int), rfl, by omega, by omega, for_range (lo := 0) (n := (n : Int).toNat) (fun j σ H'' => ∃ v3 : Option V, σ = [some (.ref o.p), some (.int (n : Int)), some (.int (i : Int)), v3] ∧ H'' = H' ∧ ∀ b, b < j → b < n → i ≠ b → ¬ Opn kn i b)
        ⟨v3, by rw [Int.zero_add]; rfl, rfl, fun b h => absurd h (Nat.not_lt_zero _)⟩ ?_ ?_⟩
      · rintro j σ H'' hj ⟨v3, rfl, rfl, pr2⟩
        rw [Int.toNat_natCast] at hj
        rw [Int.zero_add]
        have nxt : (i ≠ j → ¬ Opn kn i j) → ∀ b, b < j + 1 → b < n → i ≠ b → ¬ Opn kn i b := fun hh b hb hb2 hne => by
          by_cases e3 : b < j
          · exact pr2 b e3 hb2 hne
          · have e4 : b = j := by omega
            rw [e4]
            rw [e4] at hne
            exact hh hne
        refine ⟨_, rfl, _, rfl, rfl, _, rfl, ?_⟩
        by_cases hij : i = j
        · have e5 : decide (V.int (i : Int) = V.int (j : Int)) = true := decide_eq_true (by rw [hij])
          rw [e5]
          refine iteF (iteF ?_)
          exact ⟨_, rfl, rfl, nxt fun z => absurd hij z⟩
        · have e5 : decide (V.int (i : Int) = V.int (j : Int)) = false := decide_eq_false fun z => hij (by injection z with z; exact_mod_cast z)
          rw [e5]
          refine iteT ?_
          refine ⟨_, rfl, _, rfl, _, rfl, o, qs, kn, n, i, j, rfl, O, wf, hi, hj, _, rfl, ?_⟩
          cases h1 : bt kn.up i j with
          | true =>
            refine iteF ?_
            exact ⟨_, rfl, rfl, nxt fun _ z => by rw [z.1] at h1; cases h1⟩
          | false =>
            cases h2 : bt kn.be j i with
            | true =>
              refine iteF ?_
              exact ⟨_, rfl, rfl, nxt fun _ z => by rw [z.2] at h2; cases h2⟩
            | false =>
              refine iteT ?_
              refine ⟨_, rfl, _, rfl, (by show 2 ≤ sizeLine; decide), fun p hp => ?_⟩
              exact q1 _ p (i, j) (same_new hp) upd_same ⟨hi, hj, hij, h1, h2⟩
      · rintro σ H'' ⟨v3, rfl, rfl, pr2⟩
        refine ⟨_, _, rfl, rfl, fun a b ha ha2 hb hne => ?_⟩
        by_cases e3 : a < i
        · exact pr a b e3 ha2 hb hne
        · have e4 : a = i := by omega
          rw [e4]
          rw [e4] at hne
          exact pr2 b (by rw [Int.toNat_natCast]; exact hb) hb hne
    · rintro σ H' ⟨v2, v3, rfl, rfl, pr⟩
      exact q0 fun a b ha hb hne => pr a b (by rw [Int.toNat_natCast]; exact ha) ha hb hne
end
end K54
namespace K54
open PySem PySem.Spec PyProof.Rows L2
/-! ### more rules -/
section
variable {X : Cx}
/-- xs != [] -/
def rNeNil (K : PySem.W.Frag) : R2 := fun x y H Q => ∃ (a b : Addr) (xs : List V), x = .ref a ∧ y = .ref b ∧ SqL K H a xs ∧ SqL K H b [] ∧ Q (.bl (!xs.isEmpty)) H
theorem op_neNil (hu : X.A.units < cLine) : OpR X (compareOp .NotEq) (rNeNil X.K) := by
  intro pins s σ H x y v u Q I rx ry h
  obtain ⟨a, b, xs, rfl, rfl, ha, hb, q⟩ := h
  cases rx
  cases ry
  obtain ⟨its, r1, p1, _⟩ := I.list ha
  obtain ⟨its2, r2, p2, _⟩ := I.list hb
  cases r2
  cases r1 with
  | nil => exact SeqAt.RcNeAt.lists (e := fun _ => true) p1.isList p2.isList rfl hu (fun j h1 => absurd h1 (Nat.not_lt_zero _)) X.prog X.w X.xe _ ⟨.bl _, H, I, rfl, q⟩
  | cons r t => exact SeqAt.RcNeAt.lists_lengths p1.isList p2.isList (by simp) hu X.prog X.w X.xe _ ⟨.bl _, H, I, rfl, q⟩
/-- behind a statement less may be known -/
def tCutN (t : TS) : TS := fun D σ H => ∃ N : L2.St → Hp → Prop, t { D with nx := N } σ H ∧ ∀ σ' H', N σ' H' → D.nx σ' H'
theorem ps_cut {st : Stmt} {t : TS} (h : PS X st t) : PS X st (tCutN t) := by
  refine ⟨fun pins s σ H D I hw => ?_⟩
  obtain ⟨N, h1, h2⟩ := hw
  refine thn (h.run pins s σ H _ I h1) fun f s1 q => ?_
  cases f with
  | next =>
    obtain ⟨σ', H', I', q⟩ := q
    exact ⟨σ', H', I', h2 σ' H' q⟩
  | ret v => exact q
  | brk => exact q
  | cont => exact q
/-- behind an expression less may be known -/
def tCutE (t : TE) : TE := fun σ H Q => ∃ N : VK, t σ H N ∧ ∀ v H', N v H' → Q v H'
theorem pe_cut {e : Expr} {t : TE} (h : PE X e t) : PE X e (tCutE t) := by
  refine ⟨fun pins s σ H Q I hw => ?_⟩
  obtain ⟨N, h1, h2⟩ := hw
  exact thn (h.run pins s σ H N I h1) fun v s1 ⟨x, H1, I1, r1, q1⟩ => ⟨x, H1, I1, r1, h2 x H1 q1⟩
def tCutT (t : TT) : TT := fun σ H Q => ∃ N : Bool → Hp → Prop, t σ H N ∧ ∀ b H', N b H' → Q b H'
theorem pt_cut {e : Expr} {t : TT} (h : PT X e t) : PT X e (tCutT t) := by
  refine ⟨fun pins s σ H Q I hw => ?_⟩
  obtain ⟨N, h1, h2⟩ := hw
  exact thn (h.run pins s σ H N I h1) fun b s1 ⟨H1, I1, q1⟩ => ⟨H1, I1, h2 b H1 q1⟩
end
theorem Tps.append {α : Type} {f : α → List V} {H : Hp} {ts us : List Addr} {xs ys : List α} (h : Tps f H ts xs) (g : Tps f H us ys) : Tps f H (ts ++ us) (xs ++ ys) := by
  refine ⟨by rw [List.length_append, List.length_append, h.len, g.len], fun k t x h1 h2 => ?_⟩
  by_cases e : k < ts.length
  · rw [List.getElem?_append_left e] at h1
    rw [List.getElem?_append_left (by rw [← h.len]; exact e)] at h2
    exact h.at_ k t x h1 h2
  · rw [List.getElem?_append_right (by omega)] at h1
    rw [List.getElem?_append_right (by rw [← h.len]; omega), ← h.len] at h2
    exact g.at_ _ t x h1 h2
/-- [rule[..] for rule in rules]: pairs out of quads -/
theorem slices_list {K : PySem.W.Frag} {H H1 : Hp} {a D : Addr} {ts : List Addr} {qs : List Quad} {σ : L2.St} {Qd : Hp → Prop} {tl th : TO} {lo hi : Option Int} {g : Quad → Nat × Nat} (m : Nat) (sm : Same H H1) (hD : H1 D = none) (ha : H a = some (.lst (ts.map V.ref))) (hq : Tps qV H ts qs)
    (hlen : qs.length ≤ 100) (h2 : ∀ y, ((wipe σ [m]).set m y)[m]? = some y) (hw : ∀ y, wipe ((wipe σ [m]).set m y) [m] = wipe σ [m]) (htl : ∀ σ H (Q : Option Int → Hp → Prop), Q lo H → tl σ H Q) (hth : ∀ σ H (Q : Option Int → Hp → Prop), Q hi H → th σ H Q)
    (hc : ∀ q : Quad, cutV (qV q) lo hi = pV (g q)) (hn : ¬ (HT.sIx 4 0 lo = 0 ∧ HT.sIx 4 4 hi = 4))
    (hd : ∀ H' (us : List Addr), Same H H' → H' D = some (.lst (us.map V.ref)) → Tps pV H' us (qs.map g) → Qd H') :
    ∃ W : Nat → Nat → Hp → Prop, (∃ m, W 0 m (upd H1 D (.lst []))) ∧ ∀ i m' H, W i m' H → ((Itl K a).stop i H ∧ Qd H) ∨ ((Itl K a).go i H ∧ ∃ Nx : Hp → Prop, (∀ H', Nx H' → ∃ m'', m'' < m' ∧ W (i + 1) m'' H') ∧
      ∀ x H', (Itl K a).yld i H x H' → gName m x (wipe σ [m]) H' fun σ2 H2 => wipe σ2 [m] = wipe σ [m] ∧ tYes σ2 H2 fun b H3 =>
        if b = true then tSl (rSlT K) (tVar m) tl th σ2 H3 fun y H4 => ∃ acc, H4 D = some (.lst acc) ∧ acc.length < sizeLine ∧ Nx (upd H4 D (.lst (acc ++ [y]))) else Nx H3) := by
  have fr : H D = none := sm.free hD
  refine lc_list (K := K) (a := a) (xs := ts.map V.ref) (fun i H' => Same H H' ∧ ∃ us : List Addr, H' D = some (.lst (us.map V.ref)) ∧ Tps pV H' us ((qs.take i).map g)) ⟨same_upd sm fr, [], upd_same, Tps.nil⟩ (fun i H' _ h => SqL.of (h.1 _ _ ha)) ?_ ?_
  · rintro i x H' hx ⟨s', us, hu, hp⟩
    obtain ⟨t, q, rfl, ht, hqi, hT⟩ := (hq.of_same s').get hx
    refine ⟨hw _, ?_⟩
    refine ⟨.ref t, h2 _, ?_⟩
    refine htl _ _ _ (hth _ _ _ ⟨t, qV q, rfl, SqT.of hT, hn, fun p hp' => ?_⟩)
    have nD : D ≠ p := fun z => by rw [← z, hu] at hp'; cases hp'
    have hD2 : (L2.upd H' p (.tup (cutV (qV q) lo hi))) D = some (.lst (us.map V.ref)) := by rw [upd_ne nD]; exact hu
    have il : i < qs.length := (List.getElem?_eq_some_iff.mp hqi).1
    refine ⟨_, hD2, ?_, same_upd (s'.trans (same_new hp')) fr, us ++ [p], ?_, ?_⟩
    · rw [List.length_map, hp.len, List.length_map, List.length_take]
      exact small1000 (by omega)
    · rw [upd_same, List.map_append]
      rfl
    · rw [take_snoc hqi, List.map_append]
      refine ((hp.new hp').lst hD2).snoc ?_
      rw [upd_ne (Ne.symm nD), upd_same, hc]
  · rintro H' ⟨s', us, hu, hp⟩
    rw [List.length_map, hq.len, List.take_length] at hp
    exact hd H' us s' hu hp
def keyP (q : Nat × Nat) : List Key := [Sum.inl (q.1 : Int), Sum.inl (q.2 : Int)]
theorem keyP_v (q : Nat × Nat) : (keyP q).map kV = pV q := rfl
theorem keys_tps {H : Hp} : ∀ {kvs : List (List Key × V)} {bs : List Addr} {Φ : Nat × Nat → Prop}, IsKeys H kvs bs → (∀ kv ∈ kvs, ∃ q, kv.1 = keyP q ∧ Φ q) → ∃ ps : List (Nat × Nat), Tps pV H bs ps ∧ (∀ q ∈ ps, Φ q) ∧ ps.length = kvs.length
  | [], _, _, .nil, _ => ⟨[], Tps.nil, (fun q hq => by cases hq), rfl⟩
  | kv :: kvs, b :: bs, Φ, .cons r t, h => by
    obtain ⟨ps, h1, h2, h3⟩ := keys_tps (Φ := Φ) t fun x hx => h x (List.mem_cons_of_mem _ hx)
    obtain ⟨q, e, hq⟩ := h kv (List.mem_cons_self ..)
    refine ⟨q :: ps, ⟨by simp [h1.len], fun k a x e1 e2 => ?_⟩, fun x hx => ?_, by simp [h3]⟩
    · cases k with
      | zero =>
        cases e1
        cases e2
        rw [← keyP_v, ← e]
        exact r
      | succ k => exact h1.at_ k a x e1 e2
    · rcases List.mem_cons.mp hx with rfl | hx
      · exact hq
      · exact h2 x hx
section
variable {P : Program} {w : World} {K : PySem.W.Frag} {mg : Str → Option Value} {base : Heap} {C f : Addr} {fd : FuncData}
abbrev NPrem : List Str := ["order", "pairs", "rule", "joint", "pair"]
theorem scPrem : FnScope NPrem ["order"] (defScope s_premises) := ⟨rfl, rfl, rfl, by decide +kernel, rfl, by decide +kernel, by decide +kernel⟩
theorem ok_prem (T : OC K C) (G : Txt mg) (DO : Df P w K mg base "is_open" 2 ["order", "i", "j"] (spOpen C)) (F : FnP K "premises" s_premises f fd) : FnOk P w K mg base CX0 3 f fd ["order"] (spPrem C) := by
  refine F.ok scPrem (fun vs H Q E h => ?_) (fun cdv A outer s H vs Q E hr h => ?_)
  · obtain ⟨o, qs, s, n, rfl, _⟩ := h
    rfl
  · obtain ⟨o, qs, kn, n, rfl, O, wf, hn, hq, hql, q⟩ := h
    have hu : (A.deeper (envOfC "premises" (defScope s_premises) s.heap.objs.size f cdv)).units + 1 < cLine := by have := hr.un; omega
    refine ⟨_, PSs.nox (pss_cons (ps_set (i := 1) scPrem.nd rfl (Or.inl rfl) (pe_op op_cat
        (pe_lc (own := [("rule", 2)]) rfl scPrem.nd (pi_list (pe_fld (pv 0) rfl)) (blkOk_by (own := [("rule", 2)]) (N := NPrem) (sc := defScope s_premises) (by decide +kernel)) (fun _ _ _ _ _ => pg_name (i := 2) scPrem.nd rfl (Or.inl rfl)) (fun _ _ _ _ _ => pts_nil)
          (fun _ _ _ _ _ => pe_slice (r := rSlT K) sl_tup (pv 2) po_none (po_some pe_int)))
        (pe_lc (own := [("joint", 3)]) rfl scPrem.nd (pi_list (pe_fld (pv 0) rfl)) (blkOk_by (own := [("joint", 3)]) (N := NPrem) (sc := defScope s_premises) (by decide +kernel)) (fun _ _ _ _ _ => pg_name (i := 3) scPrem.nd rfl (Or.inl rfl)) (fun _ _ _ _ _ => pts_nil)
          (fun _ _ _ _ _ => pe_slice (r := rSlT K) sl_tup (pv 3) (po_some pe_int) (po_some pe_int)))))
      (pss_cons (ps_set (i := 1) scPrem.nd rfl (Or.inl rfl) (pe_op op_cat (pv 1)
        (pe_lc (own := [("rule", 2)]) rfl scPrem.nd (pi_list (pe_fld (pv 0) rfl)) (blkOk_by (own := [("rule", 2)]) (N := NPrem) (sc := defScope s_premises) (by decide +kernel)) (fun _ _ _ _ _ => pg_name (i := 2) scPrem.nd rfl (Or.inl rfl)) (fun _ _ _ _ _ => pts_nil)
          (fun _ _ _ _ _ => pe_slice (r := rSlT K) sl_tup (pv 2) (po_some pe_int) po_none))))
      (pss_one (ps_ret (pe_callTy (call_list_dT rfl) (by rfl) G.list (by decide +kernel) (pa_cons
        (pe_dcT (own := [("pair", 4)]) rfl hu scPrem.nd (pi_list (pv 1)) (blkOk_by (own := [("pair", 4)]) (N := NPrem) (sc := defScope s_premises) (by decide +kernel)) (fun _ _ _ _ _ => pg_name (i := 4) scPrem.nd rfl (Or.inl rfl))
          (fun _ _ _ _ _ => pts_one (PW.pt (pw_and (pt_cmpR op_ne (pe_ix (r := rIxT K) ix_tup (pv 4) pe_int (fun _ _ => rfl)) (pe_ix (r := rIxT K) ix_tup (pv 4) pe_int (fun _ _ => rfl)) (nomark _))
            (pw_and1 (pt_val (pe_callD DO hr rfl (pa_cons (pv 0) (pa_cons (pe_ix (r := rIxT K) ix_tup (pv 4) pe_int (fun _ _ => rfl)) (pa_cons (pe_ix (r := rIxT K) ix_tup (pv 4) pe_int (fun _ _ => rfl)) pa_nil)))))))))
          (fun _ _ _ _ _ => pv 4) (fun _ _ _ _ _ => pe_bl)) pa_nil)))))), ?_⟩
    obtain ⟨dx, e⟩ := O.ob
    refine ⟨_, rfl, o.p, C, dx, _, _, rfl, e, T.cl, T.nR, oF_r _ _ _ _, o.r, rfl, ⟨_, SqL.of O.hr⟩, fun D1 hD1 => ?_⟩
    refine slices_list (K := K) (H := H) (ts := o.ts) (qs := qs) (lo := none) (hi := some 2) (g := fun q => (q.1, q.2.1)) 2 (Same.refl H) hD1 O.hr O.hq hql (fun y => rfl) (fun y => rfl) (fun _ _ _ h => h) (fun _ _ _ h => ⟨_, rfl, h⟩) (fun _ => rfl) (by decide) fun H1 us1 s1 h1 t1 => ?_
    have O1 := O.same s1
    obtain ⟨dx1, e1⟩ := O1.ob
    refine ⟨_, rfl, o.p, C, dx1, _, _, rfl, e1, T.cl, T.nJ, oF_j _ _ _ _, o.j, rfl, ⟨_, SqL.of O1.hj⟩, fun D2 hD2 => ?_⟩
    refine lc_list (K := K) (a := o.j) (xs := []) (fun i H' => H' = upd H1 D2 (.lst [])) rfl (fun i H' _ h => by rw [h]; exact SqL.of ((same_new hD2) _ _ O1.hj)) (fun i x H' hx _ => by cases hx) ?_
    rintro H2 rfl
    have s2 : Same H1 (upd H1 D2 (.lst [])) := same_new hD2
    refine ⟨D1, D2, us1.map V.ref, [], rfl, rfl, s2 _ _ h1, upd_same, ?_, fun D3 hD3 => ?_⟩
    · rw [List.length_map, t1.len, List.length_map]
      exact Nat.le_of_lt (small1000 (by simp; omega))
    rw [List.append_nil]
    have s3 : Same H (upd (upd H1 D2 (.lst [])) D3 (.lst (us1.map V.ref))) := s1.trans (s2.trans (same_new hD3))
    have h3 : (upd (upd H1 D2 (.lst [])) D3 (.lst (us1.map V.ref))) D3 = some (.lst (us1.map V.ref)) := upd_same
    have t3 : Tps pV (upd (upd H1 D2 (.lst [])) D3 (.lst (us1.map V.ref))) us1 (qs.map fun q => (q.1, q.2.1)) := t1.of_same (s2.trans (same_new hD3))
    generalize upd (upd H1 D2 (.lst [])) D3 (.lst (us1.map V.ref)) = H3 at s3 h3 t3
    have O3 := O.same s3
    obtain ⟨dx3, e3⟩ := O3.ob
    refine ⟨_, rfl, _, rfl, o.p, C, dx3, _, _, rfl, e3, T.cl, T.nR, oF_r _ _ _ _, o.r, rfl, ⟨_, SqL.of O3.hr⟩, fun D4 hD4 => ?_⟩
    refine slices_list (K := K) (H := H3) (ts := o.ts) (qs := qs) (lo := some 2) (hi := none) (g := fun q => (q.2.2.1, q.2.2.2)) 2 (Same.refl H3) hD4 O3.hr O3.hq hql (fun y => rfl) (fun y => rfl) (fun _ _ _ h => ⟨_, rfl, h⟩) (fun _ _ _ h => h) (fun _ => rfl) (by decide) fun H4 us4 s4 h4 t4 => ?_
    refine ⟨D3, D4, us1.map V.ref, us4.map V.ref, rfl, rfl, s4 _ _ h3, h4, ?_, fun D5 hD5 => ?_⟩
    · rw [List.length_map, List.length_map, t1.len, t4.len, List.length_map, List.length_map]
      exact Nat.le_of_lt (small1000 (by omega))
    rw [← List.map_append]
    have s5 : Same H (upd H4 D5 (.lst ((us1 ++ us4).map V.ref))) := s3.trans (s4.trans (same_new hD5))
    have h5 : (upd H4 D5 (.lst ((us1 ++ us4).map V.ref))) D5 = some (.lst ((us1 ++ us4).map V.ref)) := upd_same
    have t5 : Tps pV (upd H4 D5 (.lst ((us1 ++ us4).map V.ref))) (us1 ++ us4) ((qs.map fun q => (q.1, q.2.1)) ++ qs.map fun q => (q.2.2.1, q.2.2.2)) := (t3.of_same (s4.trans (same_new hD5))).append (t4.of_same (same_new hD5))
    have b5 : ∀ x ∈ ((qs.map fun q => (q.1, q.2.1)) ++ qs.map fun q => (q.2.2.1, q.2.2.2)), x.1 < n ∧ x.2 < n := by
      intro x hx
      rcases List.mem_append.mp hx with hx | hx
      · obtain ⟨y, hy, rfl⟩ := List.mem_map.mp hx
        exact ⟨(hq y hy).1, (hq y hy).2.1⟩
      · obtain ⟨y, hy, rfl⟩ := List.mem_map.mp hx
        exact ⟨(hq y hy).2.2.1, (hq y hy).2.2.2⟩
    have l5 : ((qs.map fun q => (q.1, q.2.1)) ++ qs.map fun q => (q.2.2.1, q.2.2.2)).length ≤ 200 := by simp; omega
    generalize upd H4 D5 (.lst ((us1 ++ us4).map V.ref)) = H5 at s5 h5 t5
    generalize ((qs.map fun q => (q.1, q.2.1)) ++ qs.map fun q => (q.2.2.1, q.2.2.2)) = ps at t5 b5 l5
    generalize us1 ++ us4 = us at h5 t5
    refine ⟨_, rfl, D5, rfl, ⟨_, SqL.of h5⟩, fun D6 hD6 => ?_⟩
    refine dcT_list (K := K) (a := D5) (xs := us.map V.ref) (fun i H' => Same H5 H' ∧ ∃ kvs : List (List Key × V), H' D6 = some (.dT kvs) ∧ kvs.length ≤ i ∧ ∀ kv ∈ kvs, ∃ q, kv.1 = keyP q ∧ OpenP n kn q) ⟨same_new hD6, [], upd_same, Nat.le_refl _, fun kv h => by cases h⟩
      (fun i H' _ h => SqL.of (h.1 _ _ h5)) ?_ ?_
    · rintro i x H' hx ⟨s', kvs, hk, hkl, hall⟩
      obtain ⟨t, pr, rfl, ht, hpi, hT⟩ := (t5.of_same s').get hx
      have il : i < ps.length := (List.getElem?_eq_some_iff.mp hpi).1
      have hb := b5 pr (List.mem_of_getElem? hpi)
      refine ⟨rfl, ?_⟩
      refine ⟨_, rfl, t, pV pr, 0, _, rfl, rfl, SqT.of hT, rfl, _, rfl, t, pV pr, 1, _, rfl, rfl, SqT.of hT, rfl, rfl, _, rfl, ?_⟩
      by_cases hne : pr.1 = pr.2
      · have e5 : decide (V.int (pr.1 : Int) = V.int (pr.2 : Int)) = true := decide_eq_true (by rw [hne])
        rw [e5]
        refine iteF (iteF ?_)
        exact ⟨s', kvs, hk, by omega, hall⟩
      · have e5 : decide (V.int (pr.1 : Int) = V.int (pr.2 : Int)) = false := decide_eq_false fun z => hne (by injection z with z; exact_mod_cast z)
        rw [e5]
        refine iteT ?_
        refine ⟨_, rfl, _, rfl, t, pV pr, 0, _, rfl, rfl, SqT.of hT, rfl, _, rfl, t, pV pr, 1, _, rfl, rfl, SqT.of hT, rfl, o, qs, kn, n, pr.1, pr.2, rfl, O.same (s5.trans s'), wf, hb.1, hb.2, _, rfl, ?_⟩
        cases hop : (!bt kn.up pr.1 pr.2 && !bt kn.be pr.2 pr.1) with
        | false =>
          refine iteF ?_
          exact ⟨s', kvs, hk, by omega, hall⟩
        | true =>
          refine iteT ?_
          have hop2 : Opn kn pr.1 pr.2 := by
            simp only [Bool.and_eq_true, Bool.not_eq_true'] at hop
            exact hop
          refine ⟨_, rfl, kvs, keyP pr, t, rfl, hT, hk, small1000 (by omega), same_upd s' hD6, _, upd_same, ?_, fun kv hkv => ?_⟩
          · have := length_putK kvs (keyP pr) (V.bl true)
            omega
          · rcases mem_putK hkv with z | ⟨q', hq', z⟩
            · exact ⟨pr, z, hb.1, hb.2, hne, hop2⟩
            · rw [← z]
              exact hall q' hq'
    · rintro H' ⟨s', kvs, hk, hkl, hall⟩
      refine ⟨D6, kvs, rfl, .inl hk, fun p bs hp hbs => ?_⟩
      obtain ⟨ps', t6, a6, l6⟩ := keys_tps hbs hall
      refine q _ p bs ps' (s5.trans (s'.trans (same_new hp))) upd_same (t6.new hp) ?_ a6
      rw [List.length_map, t5.len] at hkl
      omega
end
end K54
namespace K54
open PySem PySem.Spec PyProof.Rows L2
/-- what all the searching defs are given: an order of what is known -/
structure Giv (C : Addr) (H : Hp) (o : Ob) (qs : List Quad) (s : Kn) (n : Nat) : Prop where
  oa : OA C H o qs s
  wf : s.Wf n
  n64 : n ≤ 64
  qin : ∀ q ∈ qs, QIn n q
  ql : qs.length ≤ 100
theorem Giv.same {C : Addr} {H H' : Hp} {o : Ob} {qs : List Quad} {s : Kn} {n : Nat} (h : Giv C H o qs s n) (g : Same H H') : Giv C H' o qs s n := ⟨h.oa.same g, h.wf, h.n64, h.qin, h.ql⟩
theorem Giv.more {C : Addr} {H H' : Hp} {o o' : Ob} {qs : List Quad} {s t : Kn} {n i k : Nat} {b : Bool} (h : Giv C H o qs s n) (a : OA C H' o' qs t) (m : More n qs s i k b t) : Giv C H' o' qs t n := ⟨a, m.wf, h.n64, h.qin, h.ql⟩
/-- closed, and not contradictory -/
structure Sane (n : Nat) (qs : List Quad) (s : Kn) : Prop where
  cl : Closed n qs s
  nc : ¬ Contr n s
def spChosen (C : Addr) : Sp := fun vs H Q _ => ∃ (o : Ob) (qs : List Quad) (s : Kn) (n : Nat), vs = [.ref o.p] ∧ Giv C H o qs s n ∧ ¬ Total n s ∧
  ∀ H' p q, Same H H' → H' p = some (.tup (pV q)) → OpenP n s q → Q (.ref p) H'
def spTried (C : Addr) : Sp := fun vs H Q _ => ∃ (o : Ob) (qs : List Quad) (s : Kn) (n i j : Nat), vs = [.ref o.p, .int (i : Int), .int (j : Int)] ∧ Giv C H o qs s n ∧ i < n ∧ j < n ∧ (∀ H', Same H H' → Q .non H') ∧
  ∀ H' o' t, Same H H' → Giv C H' o' qs t n → s.Le t → Sane n qs t → ¬ Opn t i j → Q (.ref o'.p) H'
def spCompleted (C : Addr) : Sp := fun vs H Q _ => ∃ (o : Ob) (qs : List Quad) (s : Kn) (n : Nat), vs = [.ref o.p] ∧ Giv C H o qs s n ∧ Sane n qs s ∧ (¬ Total n s → ∀ H', Same H H' → Q .non H') ∧
  ∀ H' o' t, Same H H' → Giv C H' o' qs t n → s.Le t → Sane n qs t → Total n t → Q (.ref o'.p) H'
section
variable {P : Program} {w : World} {K : PySem.W.Frag} {mg : Str → Option Value} {base : Heap} {C f : Addr} {fd : FuncData}
abbrev NChosen : List Str := ["order", "best", "most", "i", "j", "one", "other", "found"]
theorem scChosen : FnScope NChosen ["order"] (defScope s_chosen) := ⟨rfl, rfl, rfl, by decide +kernel, rfl, by decide +kernel, by decide +kernel⟩
theorem ok_chosen (T : OC K C) (G : Txt mg) (DPm : Df P w K mg base "premises" 3 ["order"] (spPrem C)) (DW : Df P w K mg base "weight" 3 ["order"] (spWeight C)) (DM : DfM P w K mg base C "with_more" 4 ["self", "i", "j", "is_strict"] (spMore C))
    (DF : Df P w K mg base "first_open" 3 ["order"] (spFirst C)) (F : FnP K "chosen" s_chosen f fd) : FnOk P w K mg base CX0 5 f fd ["order"] (spChosen C) := by
  refine F.ok scChosen (fun vs H Q E h => ?_) (fun cdv A outer s H vs Q E hr h => ?_)
  · obtain ⟨o, qs, s, n, rfl, _⟩ := h
    rfl
  · obtain ⟨o, qs, kn, n, rfl, O, nt, q⟩ := h
    refine ⟨_, PSs.nox (pss_cons (ps_asg (pe_tup (pa_cons pe_non (pa_cons (pe_tup (pa_cons pe_int (pa_cons pe_int pa_nil))) pa_nil))) (pg_tup rfl (pgs_cons (pg_name (i := 1) scChosen.nd rfl (Or.inl rfl)) (pgs_cons (pg_name (i := 2) scChosen.nd rfl (Or.inl rfl)) pgs_nil))))
      (pss_cons (ps_for PassesOwn.never rfl (pi_list (pe_slice sl_list (pe_callD DPm (hr.mono (by decide)) rfl (pa_cons (pv 0) pa_nil)) po_none (po_some (pe_gI G.MOST_LOOKED_AT rfl)))) (pg_tup rfl (pgs_cons (pg_name (i := 3) scChosen.nd rfl (Or.inl rfl)) (pgs_cons (pg_name (i := 4) scChosen.nd rfl (Or.inl rfl)) pgs_nil)))
        (pss_cons (ps_par rfl scChosen.nd (i := 5) (j := 6) rfl rfl (by decide) rfl rfl (pa_cons (pe_callD DW (hr.mono (by decide)) rfl (pa_cons (pe_methD T.cl DM hr (pv 0) (pa_cons (pv 3) (pa_cons (pv 4) (pa_cons pe_bl pa_nil)))) pa_nil))
            (pa_cons (pe_callD DW (hr.mono (by decide)) rfl (pa_cons (pe_methD T.cl DM hr (pv 0) (pa_cons (pv 4) (pa_cons (pv 3) (pa_cons pe_bl pa_nil)))) pa_nil)) pa_nil)) (by rfl))
        (pss_cons (ps_set (i := 7) scChosen.nd rfl (Or.inl rfl) (pe_ifExp (pt_cut (pt_cmpR op_lt (pv 5) (pv 6) (nomark _))) (pe_tup (pa_cons (pv 5) (pa_cons (pv 6) pa_nil))) (pe_tup (pa_cons (pv 6) (pa_cons (pv 5) pa_nil)))))
        (pss_cons (ps_cut (ps_if (pt_cut (PW.pt (pw_or (pt_cmp (pc_isN (pv 1)))
              (pw_or (PW.pt (pw_and (pt_cmpR op_eq (pe_ix ix_tup (pv 7) pe_int (fun _ _ => rfl)) (pe_op op_pow pe_int pe_int) (nomark _)) (pw_and1 (pt_cmpR op_lt (pe_ix ix_tup (pv 2) pe_int (fun _ _ => rfl)) (pe_op op_pow pe_int pe_int) (nomark _)))))
              (pw_or1 (PW.pt (pw_and (pt_cmpR op_gt (pe_ix ix_tup (pv 7) pe_int (fun _ _ => rfl)) (pe_ix ix_tup (pv 2) pe_int (fun _ _ => rfl)) (nomark _)) (pw_and1 (pt_cmpR op_lt (pe_ix ix_tup (pv 2) pe_int (fun _ _ => rfl)) (pe_op op_pow pe_int pe_int) (nomark _))))))))))
            (pss_one (ps_par rfl scChosen.nd (i := 1) (j := 2) rfl rfl (by decide) rfl rfl (pa_cons (pe_tup (pa_cons (pv 3) (pa_cons (pv 4) pa_nil))) (pa_cons (pv 7) pa_nil)) (by rfl))) pss_nil))
        (pss_one (ps_if (pt_cut (pt_cmpR op_eq (pe_ix ix_tup (pv 7) pe_int (fun _ _ => rfl)) (pe_op op_pow pe_int pe_int) (nomark _))) (pss_one (ps_ret (pv 1))) pss_nil))))))
      (pss_cons (ps_if (pt_cmp (pc_notN (pv 1))) (pss_one (ps_ret (pv 1))) pss_nil)
      (pss_one (ps_ret (pe_callD DF (hr.mono (by decide)) rfl (pa_cons (pv 0) pa_nil))))))), ?_⟩
    have no1 : ∀ a b c d : Addr, (oF a b c d).lookup ("with_more" : Str) = none := fun a b c d => oF_no a b c d (by decide +kernel) (by decide +kernel) (by decide +kernel) (by decide +kernel)
    refine ⟨by show 2 ≤ sizeLine; decide, fun p0 hp0 => ⟨by show 2 ≤ sizeLine; decide, fun pq hpq => ?_⟩⟩
    have s0 : Same H (upd (upd H p0 (.tup [.int 0, .int 0])) pq (.tup [.non, .ref p0])) := (same_new hp0).trans (same_new hpq)
    have t0 : (upd (upd H p0 (.tup [.int 0, .int 0])) pq (.tup [.non, .ref p0])) p0 = some (.tup [.int 0, .int 0]) := (same_new hpq) _ _ upd_same
    have tq : (upd (upd H p0 (.tup [.int 0, .int 0])) pq (.tup [.non, .ref p0])) pq = some (.tup [.non, .ref p0]) := upd_same
    generalize upd (upd H p0 (.tup [.int 0, .int 0])) pq (.tup [.non, .ref p0]) = H0 at s0 t0 tq
    refine ⟨pq, _, rfl, SqT.of tq, rfl, _, _, rfl, _, _, rfl, rfl, ?_⟩
    have O0 := O.same s0
    refine ⟨_, rfl, o, qs, kn, n, rfl, O0.oa, O0.wf, O0.n64, O0.qin, O0.ql, fun H1 p1 ts ps s1 h1 t1 pl a1 => ⟨12, rfl, p1, _, rfl, SqL.of h1, fun p2 hp2 => ?_⟩⟩
    -- the first few
    have hcut : cutV (ts.map V.ref) none (some 12) = (ts.take 12).map V.ref := by
      unfold cutV
      show ((ts.map V.ref).drop 0).take (HT.sIx (ts.map V.ref).length (ts.map V.ref).length (some ((12 : Nat) : Int)) - 0) = _
      rw [HT.sIx_nat, List.drop_zero, Nat.sub_zero, List.length_map, ← List.map_take]
      congr 1
      by_cases z : 12 ≤ ts.length
      · rw [Nat.min_eq_left z]
      · rw [Nat.min_eq_right (by omega), List.take_of_length_le (Nat.le_refl _), List.take_of_length_le (by omega)]
    rw [hcut]
    have s2 : Same H (upd H1 p2 (.lst ((ts.take 12).map V.ref))) := s0.trans (s1.trans (same_new hp2))
    have s02 : Same H0 (upd H1 p2 (.lst ((ts.take 12).map V.ref))) := s1.trans (same_new hp2)
    have h2 : (upd H1 p2 (.lst ((ts.take 12).map V.ref))) p2 = some (.lst ((ts.take 12).map V.ref)) := upd_same
    have t2 : Tps pV (upd H1 p2 (.lst ((ts.take 12).map V.ref))) (ts.take 12) (ps.take 12) := by
      refine ⟨by rw [List.length_take, List.length_take, t1.len], fun k t x e1 e2 => ?_⟩
      rw [List.getElem?_take] at e1 e2
      split at e1
      · rename_i hk
        rw [if_pos hk] at e2
        exact (t1.new hp2).at_ k t x e1 e2
      · cases e1
    have a2 : ∀ q ∈ ps.take 12, OpenP n kn q := fun q hq => a1 q (List.mem_of_mem_take hq)
    generalize upd H1 p2 (.lst ((ts.take 12).map V.ref)) = H2 at s2 s02 h2 t2
    generalize ts.take 12 = us at h2 t2
    generalize ps.take 12 = rs at t2 a2
    refine ⟨p2, rfl, ⟨_, SqL.of h2⟩, for_list (K := K) (a := p2) (xs := us.map V.ref) (fun i σ H' => ∃ (bv : V) (m : Addr) (m0 m1 : Int) (v3 v4 v5 v6 v7 : Option V), σ = [some (.ref o.p), some bv, some (.ref m), v3, v4, v5, v6, v7] ∧ Same H2 H' ∧ H' m = some (.tup [.int m0, .int m1]) ∧
        (bv = .non ∨ ∃ b q, bv = .ref b ∧ H' b = some (.tup (pV q)) ∧ OpenP n kn q)) ⟨.non, p0, 0, 0, none, none, none, none, none, rfl, Same.refl _, s02 _ _ t0, .inl rfl⟩ (fun i σ H' _ ⟨_, _, _, _, _, _, _, _, _, _, s', _⟩ => SqL.of (s' _ _ h2)) ?_ ?_⟩
    · rintro i x σ H3 hx ⟨bv, m, m0, m1, v3, v4, v5, v6, v7, rfl, s3, hm, hbv⟩
      obtain ⟨t, pr, rfl, ht, hpi, hT⟩ := (t2.of_same s3).get hx
      have hop := a2 pr (List.mem_of_getElem? hpi)
      have O3 := O.same (s2.trans s3)
      obtain ⟨dx3, e3⟩ := O3.oa.ob
      refine ⟨t, _, rfl, SqT.of hT, rfl, _, _, rfl, _, _, rfl, rfl, ?_⟩
      -- one, other = weight(..), weight(..)
      refine ⟨_, rfl, o.p, dx3, _, rfl, e3, no1 _ _ _ _, _, rfl, _, rfl, o, qs, kn, n, pr.1, pr.2, false, rfl, O3.oa, O3.wf, O3.n64, O3.qin, hop.1, hop.2.1, fun H4 o4 k4 s4 O4 m4 _ => ?_⟩
      refine ⟨o4, qs, k4, n, rfl, O4, m4.wf, O3.n64, fun H5 r5 s5 => ?_⟩
      have O5 := O3.same (s4.trans s5)
      obtain ⟨dx5, e5⟩ := O5.oa.ob
      refine ⟨_, rfl, o.p, dx5, _, rfl, e5, no1 _ _ _ _, _, rfl, _, rfl, o, qs, kn, n, pr.2, pr.1, true, rfl, O5.oa, O5.wf, O5.n64, O5.qin, hop.2.1, hop.1, fun H6 o6 k6 s6 O6 m6 _ => ?_⟩
      refine ⟨o6, qs, k6, n, rfl, O6, m6.wf, O5.n64, fun H7 r7 s7 => ?_⟩
      refine ⟨_, _, rfl, ?_⟩
      have s37 : Same H3 H7 := s4.trans (s5.trans (s6.trans s7))
      -- found
      refine ⟨fun b H' => H7 = H', ⟨_, rfl, _, rfl, _, _, rfl, rfl, _, rfl, rfl⟩, ?_⟩
      rintro b8 _ rfl
      have found : ∃ x y : Int, ∀ F : V → Hp → Prop, (∀ p8, H7 p8 = none → F (.ref p8) (upd H7 p8 (.tup [.int x, .int y]))) → if b8 = true then tTup (tCons (tVar 5) (tCons (tVar 6) tNil)) [some (.ref o.p), some bv, some (.ref m), some (.int (pr.1 : Int)), some (.int (pr.2 : Int)), some (.int r5), some (.int r7), v7] H7 F
          else tTup (tCons (tVar 6) (tCons (tVar 5) tNil)) [some (.ref o.p), some bv, some (.ref m), some (.int (pr.1 : Int)), some (.int (pr.2 : Int)), some (.int r5), some (.int r7), v7] H7 F := by
        cases b8 with
        | true => exact ⟨r5, r7, fun F hF => iteT ⟨_, rfl, _, rfl, (by show 2 ≤ sizeLine; decide), hF⟩⟩
        | false => exact ⟨r7, r5, fun F hF => iteF ⟨_, rfl, _, rfl, (by show 2 ≤ sizeLine; decide), hF⟩⟩
      obtain ⟨x, y, found⟩ := found
      refine found _ fun p8 hp8 => ?_
      have s8 : Same H3 (upd H7 p8 (.tup [.int x, .int y])) := s37.trans (same_new hp8)
      have h8 : (upd H7 p8 (.tup [.int x, .int y])) p8 = some (.tup [.int x, .int y]) := upd_same
      generalize upd H7 p8 (.tup [.int x, .int y]) = H8 at s8 h8
      have hm8 := s8 _ _ hm
      -- the choice
      refine ⟨fun σ' H' => ∃ (b m' : Addr) (m0' m1' : Int) (q' : Nat × Nat), σ' = [some (.ref o.p), some (.ref b), some (.ref m'), some (.int (pr.1 : Int)), some (.int (pr.2 : Int)), some (.int r5), some (.int r7), some (.ref p8)] ∧ Same H8 H' ∧ H' m' = some (.tup [.int m0', .int m1']) ∧ H' b = some (.tup (pV q')) ∧ OpenP n kn q', ?_, ?_⟩
      · refine ⟨fun b H' => H' = H8 ∧ (b = true ∨ ∃ b q, bv = .ref b ∧ H8 b = some (.tup (pV q)) ∧ OpenP n kn q), ?_, ?_⟩
        · rcases hbv with rfl | ⟨b, qb, rfl, hb, hob⟩
          · refine ⟨_, rfl, _, rfl, ?_⟩
            exact iteT ⟨rfl, .inl rfl⟩
          · have hb8 := s8 _ _ hb
            have fin : ∀ c : Bool, H8 = H8 ∧ (c = true ∨ ∃ b' q, V.ref b = .ref b' ∧ H8 b' = some (.tup (pV q)) ∧ OpenP n kn q) := fun c => ⟨rfl, .inr ⟨b, qb, rfl, hb8, hob⟩⟩
            refine ⟨_, rfl, _, rfl, ?_⟩
            refine iteF ?_
            have third : ∀ R : Bool → Hp → Prop, (∀ c, R c H8) → (tAnd (tB (tOp (rI0 fun i j => .bl (decide (j < i))) (tOp (rIxT K) (tVar 7) (tC (.int 0))) (tOp (rIxT K) (tVar 2) (tC (.int 0))))) (tB (tOp (rI0 fun i j => .bl (decide (i < j))) (tOp (rIxT K) (tVar 2) (tC (.int 1))) (tOp (rI CPow fun i j => .int (i ^ j.toNat)) (tC (.int 10)) (tC (.int 6))))))
                [some (.ref o.p), some (.ref b), some (.ref m), some (.int (pr.1 : Int)), some (.int (pr.2 : Int)), some (.int r5), some (.int r7), some (.ref p8)] H8 R := by
              intro R hR
              refine ⟨_, rfl, p8, _, 0, _, rfl, rfl, SqT.of h8, rfl, _, rfl, m, _, 0, _, rfl, rfl, SqT.of hm8, rfl, _, _, rfl, rfl, _, rfl, ?_⟩
              refine ite2 (fun _ => ?_) (fun _ => hR _)
              exact ⟨_, rfl, m, _, 1, _, rfl, rfl, SqT.of hm8, rfl, _, _, rfl, rfl, ⟨by decide, by decide, by decide⟩, _, _, rfl, rfl, _, rfl, hR _⟩
            refine ⟨_, rfl, p8, _, 1, _, rfl, rfl, SqT.of h8, rfl, _, _, rfl, rfl, ⟨by decide, by decide, by decide⟩, rfl, _, rfl, ?_⟩
            refine ite2 (fun _ => ?_) (fun _ => ?_)
            · refine ⟨_, rfl, m, _, 1, _, rfl, rfl, SqT.of hm8, rfl, _, _, rfl, rfl, ⟨by decide, by decide, by decide⟩, _, _, rfl, rfl, _, rfl, ?_⟩
              exact ite2 (fun _ => fin _) (fun _ => third _ fin)
            · exact iteF (third _ fin)
        · rintro b H' ⟨rfl, hb⟩
          cases b with
          | true =>
            refine iteT ?_
            refine ⟨_, rfl, _, rfl, (by show 2 ≤ sizeLine; decide), fun p9 hp9 => ⟨_, rfl, _, _, rfl, ?_⟩⟩
            exact ⟨p9, p8, x, y, pr, rfl, same_new hp9, (same_new hp9) _ _ h8, upd_same, hop⟩
          | false =>
            refine iteF ?_
            rcases hb with z | ⟨b, qb, rfl, hb8, hob⟩
            · cases z
            · exact ⟨b, m, m0, m1, qb, rfl, Same.refl _, hm8, hb8, hob⟩
      · rintro σ' H9 ⟨b, m', m0', m1', q', rfl, s9, hm', hb', ho'⟩
        refine ⟨fun c H' => H9 = H', ⟨_, rfl, p8, _, 1, _, rfl, rfl, SqT.of (s9 _ _ h8), rfl, _, _, rfl, rfl, ⟨by decide, by decide, by decide⟩, rfl, _, rfl, rfl⟩, ?_⟩
        rintro c _ rfl
        have s29 : Same H2 H9 := s3.trans (s8.trans s9)
        cases c with
        | true =>
          refine iteT ?_
          exact ⟨_, rfl, q H9 b q' (s2.trans s29) hb' ho'⟩
        | false =>
          refine iteF ?_
          exact ⟨.ref b, m', m0', m1', _, _, _, _, _, rfl, s29, hm', .inr ⟨b, q', rfl, hb', ho'⟩⟩
    · rintro σ H3 ⟨bv, m, m0, m1, v3, v4, v5, v6, v7, rfl, s3, hm, hbv⟩
      refine ⟨_, rfl, _, rfl, ?_⟩
      rcases hbv with rfl | ⟨b, qb, rfl, hb, hob⟩
      · refine iteF ?_
        have O3 := O.same (s2.trans s3)
        exact ⟨_, rfl, o, qs, kn, n, rfl, O3.oa, O3.wf, O3.n64, fun z => absurd z nt, fun H4 p4 q4 s4 h4 o4 => q H4 p4 q4 (s2.trans (s3.trans s4)) h4 o4⟩
      · refine iteT ?_
        exact ⟨_, rfl, q H3 b qb (s2.trans s3) hb hob⟩
end
end K54
namespace K54
open PySem PySem.Spec PyProof.Rows L2
theorem more_sane {n : Nat} {qs : List Quad} {s t : Kn} {i k : Nat} {b : Bool} (m : More n qs s i k b t) (h : ¬ Contr n t) : Sane n qs t := ⟨m.cl.resolve_left h, h⟩
def dP (ps : List (Nat × Nat)) : List (List Int) := ps.map fun q => [(q.1 : Int), (q.2 : Int)]
theorem tps_dP {H : Hp} {ts : List Addr} {ps : List (Nat × Nat)} (h : Tps pV H ts ps) : Tps (fun o => o.map V.int) H ts (dP ps) :=
  ⟨by rw [h.len]; unfold dP; rw [List.length_map], fun k t x h1 h2 => by
    unfold dP at h2
    rw [List.getElem?_map] at h2
    obtain ⟨q, hq, rfl⟩ := Option.map_eq_some_iff.mp h2
    exact h.at_ k t q h1 hq⟩
section
variable {P : Program} {w : World} {K : PySem.W.Frag} {mg : Str → Option Value} {base : Heap} {C f : Addr} {fd : FuncData}
theorem scTried : FnScope ["order", "i", "j", "one", "other", "found"] ["order", "i", "j"] (defScope s_tried) := ⟨rfl, rfl, rfl, by decide +kernel, rfl, by decide +kernel, by decide +kernel⟩
theorem ok_tried (T : OC K C) (DM : DfM P w K mg base C "with_more" 4 ["self", "i", "j", "is_strict"] (spMore C)) (DC : DfM P w K mg base C "is_contrary" 2 ["self"] (spContr C)) (F : FnP K "tried" s_tried f fd) :
    FnOk P w K mg base CX0 5 f fd ["order", "i", "j"] (spTried C) := by
  refine F.ok scTried (fun vs H Q E h => ?_) (fun cdv A outer s H vs Q E hr h => ?_)
  · obtain ⟨o, qs, s, n, i, j, rfl, _⟩ := h
    rfl
  · obtain ⟨o, qs, kn, n, i, j, rfl, O, hi, hj, q0, q1⟩ := h
    refine ⟨_, PSs.nox (pss_cons (ps_for PassesOwn.never rfl (pi_tup (pe_tup (pa_cons (pe_tup (pa_cons (pv 1) (pa_cons (pv 2) pa_nil))) (pa_cons (pe_tup (pa_cons (pv 2) (pa_cons (pv 1) pa_nil))) pa_nil))))
        (pg_tup rfl (pgs_cons (pg_name (i := 3) scTried.nd rfl (Or.inl rfl)) (pgs_cons (pg_name (i := 4) scTried.nd rfl (Or.inl rfl)) pgs_nil)))
        (pss_cons (ps_set (i := 5) scTried.nd rfl (Or.inl rfl) (pe_methD T.cl DM hr (pv 0) (pa_cons (pv 3) (pa_cons (pv 4) (pa_cons pe_bl pa_nil)))))
        (pss_one (ps_if (pt_not (pt_val (pe_methD0 T.cl DC (hr.mono (by decide)) (pv 5)))) (pss_one (ps_ret (pv 5))) pss_nil))))
      (pss_cons (ps_set (i := 5) scTried.nd rfl (Or.inl rfl) (pe_methD T.cl DM hr (pe_methD T.cl DM hr (pv 0) (pa_cons (pv 1) (pa_cons (pv 2) (pa_cons pe_bl pa_nil)))) (pa_cons (pv 2) (pa_cons (pv 1) (pa_cons pe_bl pa_nil)))))
      (pss_one (ps_ret (pe_ifExp (pt_val (pe_methD0 T.cl DC (hr.mono (by decide)) (pv 5))) pe_non (pv 5)))))), ?_⟩
    have no1 : ∀ a b c d : Addr, (oF a b c d).lookup ("with_more" : Str) = none := fun a b c d => oF_no a b c d (by decide +kernel) (by decide +kernel) (by decide +kernel) (by decide +kernel)
    have no2 : ∀ a b c d : Addr, (oF a b c d).lookup ("is_contrary" : Str) = none := fun a b c d => oF_no a b c d (by decide +kernel) (by decide +kernel) (by decide +kernel) (by decide +kernel)
    refine ⟨_, rfl, _, rfl, by show 2 ≤ sizeLine; decide, fun p1 hp1 => ⟨_, rfl, _, rfl, by show 2 ≤ sizeLine; decide, fun p2 hp2 => ⟨by show 2 ≤ sizeLine; decide, fun p3 hp3 => ?_⟩⟩⟩
    have s3 : Same H (upd (upd (upd H p1 (.tup [.int (i : Int), .int (j : Int)])) p2 (.tup [.int (j : Int), .int (i : Int)])) p3 (.tup [.ref p1, .ref p2])) := (same_new hp1).trans ((same_new hp2).trans (same_new hp3))
    have t1 : (upd (upd (upd H p1 (.tup [.int (i : Int), .int (j : Int)])) p2 (.tup [.int (j : Int), .int (i : Int)])) p3 (.tup [.ref p1, .ref p2])) p1 = some (.tup (pV (i, j))) := (same_new hp3) _ _ ((same_new hp2) _ _ upd_same)
    have t2 : (upd (upd (upd H p1 (.tup [.int (i : Int), .int (j : Int)])) p2 (.tup [.int (j : Int), .int (i : Int)])) p3 (.tup [.ref p1, .ref p2])) p2 = some (.tup (pV (j, i))) := (same_new hp3) _ _ upd_same
    have t3 : (upd (upd (upd H p1 (.tup [.int (i : Int), .int (j : Int)])) p2 (.tup [.int (j : Int), .int (i : Int)])) p3 (.tup [.ref p1, .ref p2])) p3 = some (.tup [.ref p1, .ref p2]) := upd_same
    generalize upd (upd (upd H p1 (.tup [.int (i : Int), .int (j : Int)])) p2 (.tup [.int (j : Int), .int (i : Int)])) p3 (.tup [.ref p1, .ref p2]) = H3 at s3 t1 t2 t3
    refine ⟨p3, rfl, ⟨_, SqT.of t3⟩, for_tup (K := K) (a := p3) (xs := [.ref p1, .ref p2]) (fun k σ H' => ∃ v3 v4 v5 : Option V, σ = [some (.ref o.p), some (.int (i : Int)), some (.int (j : Int)), v3, v4, v5] ∧ Same H3 H') ⟨none, none, none, rfl, Same.refl _⟩
      (fun k σ H' _ ⟨_, _, _, _, s'⟩ => SqT.of (s' _ _ t3)) ?_ ?_⟩
    · rintro k x σ H4 hx ⟨v3, v4, v5, rfl, s4⟩
      obtain ⟨pr, hpr, t, rfl, ht⟩ : ∃ pr : Nat × Nat, (pr = (i, j) ∨ pr = (j, i)) ∧ ∃ t, x = .ref t ∧ H3 t = some (.tup (pV pr)) := by
        match k, hx with
        | 0, e => cases e; exact ⟨(i, j), .inl rfl, p1, rfl, t1⟩
        | 1, e => cases e; exact ⟨(j, i), .inr rfl, p2, rfl, t2⟩
        | k + 2, e => cases e
      have hb : pr.1 < n ∧ pr.2 < n := by rcases hpr with rfl | rfl <;> exact ⟨by assumption, by assumption⟩
      refine ⟨t, _, rfl, SqT.of (s4 _ _ ht), rfl, _, _, rfl, _, _, rfl, rfl, ?_⟩
      have O4 := O.same (s3.trans s4)
      obtain ⟨dx4, e4⟩ := O4.oa.ob
      refine ⟨_, rfl, o.p, dx4, _, rfl, e4, no1 _ _ _ _, _, rfl, _, rfl, o, qs, kn, n, pr.1, pr.2, true, rfl, O4.oa, O4.wf, O4.n64, O4.qin, hb.1, hb.2, fun H5 o5 t5 s5 O5 m5 _ => ?_⟩
      obtain ⟨dx5, e5⟩ := O5.ob
      refine ⟨_, rfl, o5.p, dx5, _, rfl, e5, no2 _ _ _ _, o5, qs, t5, n, rfl, O5, m5.wf, O4.n64, fun H6 c s6 hc => ⟨c, rfl, ?_⟩⟩
      cases c with
      | true =>
        refine iteF ?_
        exact ⟨_, _, _, rfl, s4.trans (s5.trans s6)⟩
      | false =>
        refine iteT ?_
        refine ⟨_, rfl, q1 H6 o5 t5 (s3.trans (s4.trans (s5.trans s6))) ((O4.more O5 m5).same s6) m5.le (more_sane m5 fun z => by have := hc.mpr z; cases this) fun z => ?_⟩
        rcases hpr with rfl | rfl
        · have := m5.up
          rw [z.1] at this
          cases this
        · have := m5.be rfl
          rw [z.2] at this
          cases this
    · rintro σ H4 ⟨v3, v4, v5, rfl, s4⟩
      have O4 := O.same (s3.trans s4)
      obtain ⟨dx4, e4⟩ := O4.oa.ob
      refine ⟨_, rfl, o.p, dx4, _, rfl, e4, no1 _ _ _ _, _, rfl, _, rfl, o, qs, kn, n, i, j, false, rfl, O4.oa, O4.wf, O4.n64, O4.qin, hi, hj, fun H5 o5 t5 s5 O5 m5 _ => ?_⟩
      obtain ⟨dx5, e5⟩ := O5.ob
      refine ⟨o5.p, dx5, _, rfl, e5, no1 _ _ _ _, _, rfl, _, rfl, o5, qs, t5, n, j, i, false, rfl, O5, m5.wf, O4.n64, O4.qin, hj, hi, fun H6 o6 t6 s6 O6 m6 _ => ?_⟩
      obtain ⟨dx6, e6⟩ := O6.ob
      refine ⟨_, rfl, o6.p, dx6, _, rfl, e6, no2 _ _ _ _, o6, qs, t6, n, rfl, O6, m6.wf, O4.n64, fun H7 c s7 hc => ⟨c, rfl, ?_⟩⟩
      cases c with
      | true =>
        refine iteT ?_
        exact q0 H7 (s3.trans (s4.trans (s5.trans (s6.trans s7))))
      | false =>
        refine iteF ?_
        refine ⟨_, rfl, q1 H7 o6 t6 (s3.trans (s4.trans (s5.trans (s6.trans s7)))) (((O4.more O5 m5).more O6 m6).same s7) (m5.le.trans m6.le) (more_sane m6 fun z => by have := hc.mpr z; cases this) fun z => ?_⟩
        have := m6.le.1.sub _ _ m5.up
        rw [z.1] at this
        cases this
theorem scCompleted : FnScope ["order", "pairs", "pair"] ["order"] (defScope s_completed) := ⟨rfl, rfl, rfl, by decide +kernel, rfl, by decide +kernel, by decide +kernel⟩
theorem ok_completed (DPm : Df P w K mg base "premises" 3 ["order"] (spPrem C)) (DF : Df P w K mg base "first_open" 3 ["order"] (spFirst C)) (DT : Df P w K mg base "tried" 5 ["order", "i", "j"] (spTried C)) (F : FnP K "completed" s_completed f fd) :
    FnOk P w K mg base CX0 6 f fd ["order"] (spCompleted C) := by
  refine F.ok scCompleted (fun vs H Q E h => ?_) (fun cdv A outer s H vs Q E hr h => ?_)
  · obtain ⟨o, qs, s, n, rfl, _⟩ := h
    rfl
  · obtain ⟨o, qs, kn, n, rfl, O, sn, q0, q1⟩ := h
    have hu : (A.deeper (envOfC "completed" (defScope s_completed) s.heap.objs.size f cdv)).units < cLine := by have := hr.un; omega
    refine ⟨_, PSs.nox (pss_cons (ps_while PassesOwn.never (pt_cmp (pc_notN (pv 0)))
        (pss_cons (ps_set (i := 1) scCompleted.nd rfl (Or.inl rfl) (pe_callD DPm (hr.mono (by decide)) rfl (pa_cons (pv 0) pa_nil)))
        (pss_cons (ps_set (i := 2) scCompleted.nd rfl (Or.inl rfl) (pe_ifExp (pt_cmpR (op_neNil hu) (pv 1) (pe_lst pa_nil) (nomark _)) (pe_ix ix_list (pv 1) pe_int (fun _ _ => rfl)) (pe_callD DF (hr.mono (by decide)) rfl (pa_cons (pv 0) pa_nil))))
        (pss_cons (ps_if (pt_cmp (pc_isN (pv 2))) (pss_one (ps_ret (pv 0))) pss_nil)
        (pss_one (ps_set (i := 0) scCompleted.nd rfl (Or.inl rfl) (pe_callD DT hr rfl (pa_cons (pv 0) (pa_cons (pe_ix ix_tup (pv 2) pe_int (fun _ _ => rfl)) (pa_cons (pe_ix ix_tup (pv 2) pe_int (fun _ _ => rfl)) pa_nil))))))))))
      (pss_one (ps_ret pe_non))), ?_⟩
    refine ⟨fun m σ H' => ∃ (ov : V) (v1 v2 : Option V), σ = [some ov, v1, v2] ∧ Same H H' ∧ ((ov = .non ∧ ¬ Total n kn) ∨ ∃ o' t, ov = .ref o'.p ∧ Giv C H' o' qs t n ∧ kn.Le t ∧ Sane n qs t ∧ (t = kn ∨ ¬ Total n kn) ∧ m = cap n + 1 - t.sum),
      ⟨_, .ref o.p, none, none, rfl, Same.refl H, .inr ⟨o, kn, rfl, O, .refl _, sn, .inl rfl, rfl⟩⟩, ?_⟩
    rintro m σ H1 ⟨ov, v1, v2, rfl, s1, ⟨rfl, nt⟩ | ⟨o1, t1, rfl, O1, le1, sn1, dis, hm⟩⟩
    · refine ⟨_, rfl, _, rfl, ?_⟩
      refine iteF ?_
      exact q0 nt H1 s1
    · refine ⟨_, rfl, _, rfl, ?_⟩
      refine iteT ?_
      -- what a turn does with an open pair
      refine ⟨fun σ' H' => ∃ (ov : V) (v1 v2 : Option V), σ' = [some ov, v1, v2] ∧ Same H H' ∧ ((ov = .non ∧ ¬ Total n kn) ∨ ∃ o' t, ov = .ref o'.p ∧ Giv C H' o' qs t n ∧ kn.Le t ∧ Sane n qs t ∧ (t = kn ∨ ¬ Total n kn) ∧ t1.sum < t.sum ∧ t1.Le t), ?_, ?_⟩
      · rintro σ' H' ⟨ov, w1, w2, rfl, s', ⟨rfl, nt⟩ | ⟨o', t, rfl, O', le', sn', dis', lt, _⟩⟩
        · refine ⟨0, ?_, .non, w1, w2, rfl, s', .inl ⟨rfl, nt⟩⟩
          have := O1.wf.sum_le
          omega
        · refine ⟨cap n + 1 - t.sum, ?_, .ref o'.p, w1, w2, rfl, s', .inr ⟨o', t, rfl, O', le', sn', dis', rfl⟩⟩
          have := O'.wf.sum_le
          omega
      · have turn : ∀ (H4 : Hp) (p : Addr) (pr : Nat × Nat) (v1 : Option V) (N : L2.St → Hp → Prop), Same H1 H4 → H4 p = some (.tup (pV pr)) → OpenP n t1 pr →
            (∀ σ' H', (∃ (ov : V) (v1 v2 : Option V), σ' = [some ov, v1, v2] ∧ Same H H' ∧ ((ov = .non ∧ ¬ Total n kn) ∨ ∃ o' t, ov = .ref o'.p ∧ Giv C H' o' qs t n ∧ kn.Le t ∧ Sane n qs t ∧ (t = kn ∨ ¬ Total n kn) ∧ t1.sum < t.sum ∧ t1.Le t)) → N σ' H') →
            tCall (spTried C) [] E0 (tCons (tVar 0) (tCons (tOp (rIxT K) (tVar 2) (tC (.int 0))) (tCons (tOp (rIxT K) (tVar 2) (tC (.int 1))) tNil))) [some (.ref o1.p), v1, some (.ref p)] H4 (fun x H' => N ([some (.ref o1.p), v1, some (.ref p)].set 0 (some x)) H') := by
          intro H4 p pr v1 N s4 hp hop hN
          have nt : ¬ Total n kn := by
            rcases dis with rfl | h
            · exact fun z => z pr.1 pr.2 hop.1 hop.2.1 hop.2.2.1 hop.2.2.2
            · exact h
          refine ⟨_, rfl, _, rfl, p, _, 0, _, rfl, rfl, SqT.of hp, rfl, _, rfl, p, _, 1, _, rfl, rfl, SqT.of hp, rfl, o1, qs, t1, n, pr.1, pr.2, rfl, O1.same s4, hop.1, hop.2.1, fun H5 s5 => ?_, fun H5 o5 t5 s5 O5 le5 sn5 no5 => ?_⟩
          · exact hN _ _ ⟨.non, _, _, rfl, s1.trans (s4.trans s5), .inl ⟨rfl, nt⟩⟩
          · refine hN _ _ ⟨.ref o5.p, _, _, rfl, s1.trans (s4.trans s5), .inr ⟨o5, t5, rfl, O5, le1.trans le5, sn5, .inr nt, le5.sum_lt fun z => ?_, le5⟩⟩
            rw [← z] at no5
            exact no5 hop.2.2.2
        refine ⟨_, rfl, o1, qs, t1, n, rfl, O1.oa, O1.wf, O1.n64, O1.qin, O1.ql, fun H2 p2 ts ps s2 h2 t2 pl a2 => ?_⟩
        refine ⟨_, rfl, Nat.zero_le _, fun p3 hp3 => ⟨p2, p3, _, rfl, rfl, SqL.of ((same_new hp3) _ _ h2), SqL.of upd_same, _, rfl, ?_⟩⟩
        have s3 : Same H1 (upd H2 p3 (.lst [])) := s2.trans (same_new hp3)
        have h3 := (same_new (o := .lst []) hp3) _ _ h2
        have t3 := t2.of_same (same_new (o := .lst []) hp3)
        generalize upd H2 p3 (.lst []) = H3 at s3 h3 t3
        cases ps with
        | nil =>
          have e : ts = [] := List.length_eq_zero_iff.mp t3.len
          subst e
          refine iteF ?_
          have O3 := O1.same s3
          refine ⟨_, rfl, o1, qs, t1, n, rfl, O3.oa, O3.wf, O3.n64, fun tot => ?_, fun H4 p4 pr s4 h4 hop => ?_⟩
          · refine ⟨_, rfl, _, rfl, ?_⟩
            refine iteT ?_
            exact ⟨_, rfl, q1 H3 o1 t1 (s1.trans s3) O3 le1 sn1 tot⟩
          · refine ⟨_, rfl, _, rfl, ?_⟩
            refine iteF ?_
            exact turn H4 p4 pr _ _ (s3.trans s4) h4 hop fun _ _ z => z
        | cons pr ps =>
          cases ts with
          | nil => have := t3.len; simp at this
          | cons t ts =>
            refine iteT ?_
            refine ⟨_, rfl, p2, _, 0, _, rfl, rfl, SqL.of h3, atI_nat (j := 0) rfl, ?_⟩
            refine ⟨_, rfl, _, rfl, ?_⟩
            refine iteF ?_
            exact turn H3 t pr _ _ s3 (t3.at_ 0 t pr rfl rfl) (a2 pr (List.mem_cons_self ..)) fun _ _ z => z
end
end K54
namespace K54
open PySem PySem.Spec PyProof.Rows L2
/-! ### the search with going back -/
def Off (a : Addr) (o : Ob) : Prop := a ≠ o.p ∧ a ≠ o.r ∧ a ≠ o.j ∧ a ≠ o.u ∧ a ≠ o.b
theorem Giv.off {C : Addr} {H : Hp} {o : Ob} {qs : List Quad} {s : Kn} {n : Nat} {a : Addr} {l : List V} {z : HO} (h : Giv C H o qs s n) (f : Off a o) (ha : H a = some (.lst l)) : Giv C (upd H a z) o qs s n := by
  have k : ∀ c o', H c = some o' → c ≠ a → (upd H a z) c = some o' := fun c o' e hne => by rw [upd_ne hne]; exact e
  obtain ⟨f1, f2, f3, f4, f5⟩ := f
  have O := h.oa
  refine ⟨⟨let ⟨dx, e⟩ := O.ob; ⟨dx, k _ _ e (Ne.symm f1)⟩, k _ _ O.hr (Ne.symm f2), O.hq.lst ha, k _ _ O.hj (Ne.symm f3), k _ _ O.hu (Ne.symm f4), k _ _ O.hb (Ne.symm f5), O.ub, O.ur, O.uj, O.br, O.bj⟩, h.wf, h.n64, h.qin, h.ql⟩
theorem off_new {C : Addr} {H : Hp} {o : Ob} {qs : List Quad} {s : Kn} {n : Nat} {a : Addr} (h : Giv C H o qs s n) (ha : H a = none) : Off a o := by
  have O := h.oa
  obtain ⟨dx, e⟩ := O.ob
  refine ⟨fun z => ?_, fun z => ?_, fun z => ?_, fun z => ?_, fun z => ?_⟩
  · rw [z, e] at ha; cases ha
  · rw [z, O.hr] at ha; cases ha
  · rw [z, O.hj] at ha; cases ha
  · rw [z, O.hu] at ha; cases ha
  · rw [z, O.hb] at ha; cases ha
theorem off_kin {H : Hp} {o o' : Ob} {a : Addr} {z : HO} (k : Kin H o o') (f : Off a o) (ha : H a = some z) : Off a o' := by
  obtain ⟨f1, f2, f3, f4, f5⟩ := f
  refine ⟨fun e => ?_, ?_, ?_, fun e => ?_, fun e => ?_⟩
  · rw [e, k.p] at ha; cases ha
  · rw [k.r]; exact f2
  · rw [k.j]; exact f3
  · rw [e, k.u] at ha; cases ha
  · rw [e, k.b] at ha; cases ha
structure Lin (C : Addr) (H : Hp) (a : Addr) (qs : List Quad) (n : Nat) (s : Kn) (xs : List (Ob × Kn)) : Prop where
  at_ : H a = some (.lst (xs.map fun x => V.ref x.1.p))
  giv : ∀ x ∈ xs, Giv C H x.1 qs x.2 n ∧ Off a x.1 ∧ s.Le x.2 ∧ (Contr n x.2 ∨ Closed n qs x.2)
  ht : ∀ (k : Nat) x, xs[k]? = some x → k ≤ x.2.sum
theorem Lin.same {C : Addr} {H H' : Hp} {a : Addr} {qs : List Quad} {n : Nat} {s : Kn} {xs : List (Ob × Kn)} (h : Lin C H a qs n s xs) (g : Same H H') : Lin C H' a qs n s xs :=
  ⟨g _ _ h.at_, fun x hx => ⟨(h.giv x hx).1.same g, (h.giv x hx).2⟩, h.ht⟩
theorem Lin.pop {C : Addr} {H : Hp} {a : Addr} {qs : List Quad} {n : Nat} {s : Kn} {ys : List (Ob × Kn)} {x : Ob × Kn} (h : Lin C H a qs n s (ys ++ [x])) : Lin C (upd H a (.lst (ys.map fun x => V.ref x.1.p))) a qs n s ys :=
  ⟨upd_same, fun y hy => ⟨(h.giv y (List.mem_append_left _ hy)).1.off (h.giv y (List.mem_append_left _ hy)).2.1 h.at_, (h.giv y (List.mem_append_left _ hy)).2⟩, fun k y e => h.ht k y (by rw [List.getElem?_append_left (List.getElem?_eq_some_iff.mp e).1]; exact e)⟩
theorem Lin.push {C : Addr} {H : Hp} {a : Addr} {qs : List Quad} {n : Nat} {s : Kn} {ys : List (Ob × Kn)} {x : Ob × Kn} (h : Lin C H a qs n s ys) (g : Giv C H x.1 qs x.2 n) (f : Off a x.1) (le : s.Le x.2) (cl : Contr n x.2 ∨ Closed n qs x.2) (ht : ys.length ≤ x.2.sum) :
    Lin C (upd H a (.lst ((ys.map fun x => V.ref x.1.p) ++ [V.ref x.1.p]))) a qs n s (ys ++ [x]) := by
  refine ⟨by rw [upd_same, List.map_append]; rfl, fun y hy => ?_, fun k y e => ?_⟩
  · rcases List.mem_append.mp hy with hy | hy
    · exact ⟨(h.giv y hy).1.off (h.giv y hy).2.1 h.at_, (h.giv y hy).2⟩
    · rw [List.mem_singleton] at hy
      rw [hy]
      exact ⟨g.off f h.at_, f, le, cl⟩
  · by_cases hk : k < ys.length
    · rw [List.getElem?_append_left hk] at e
      exact h.ht k y e
    · rw [List.getElem?_append_right (by omega)] at e
      have l1 := (List.getElem?_eq_some_iff.mp e).1
      rw [List.length_singleton] at l1
      have e0 : k - ys.length = 0 := by omega
      rw [e0] at e
      cases e
      omega
def wt (n : Nat) (x : Ob × Kn) : Nat := 3 ^ (cap n - x.2.sum)
def wts (n : Nat) (xs : List (Ob × Kn)) : Nat := (xs.map (wt n)).sum
theorem wts_snoc (n : Nat) (ys : List (Ob × Kn)) (x : Ob × Kn) : wts n (ys ++ [x]) = wts n ys + wt n x := by
  unfold wts
  rw [List.map_append, List.sum_append]
  rfl
theorem wt_pos (n : Nat) (x : Ob × Kn) : 0 < wt n x := Nat.pow_pos (by decide)
theorem wt_two {n : Nat} {x y z : Ob × Kn} (h1 : x.2.sum < y.2.sum) (h2 : x.2.sum < z.2.sum) (hy : y.2.sum ≤ cap n) (hz : z.2.sum ≤ cap n) : wt n y + wt n z < wt n x := by
  unfold wt
  have a : (3 : Nat) ^ (cap n - y.2.sum) ≤ 3 ^ (cap n - x.2.sum - 1) := Nat.pow_le_pow_right (by decide) (by omega)
  have b : (3 : Nat) ^ (cap n - z.2.sum) ≤ 3 ^ (cap n - x.2.sum - 1) := Nat.pow_le_pow_right (by decide) (by omega)
  have c : (3 : Nat) ^ (cap n - x.2.sum) = 3 ^ (cap n - x.2.sum - 1) * 3 := by
    rw [← Nat.pow_succ]
    congr 1
    omega
  have d : 0 < (3 : Nat) ^ (cap n - x.2.sum - 1) := Nat.pow_pos (by decide)
  omega
theorem cap_small {n : Nat} (h : n ≤ 16) : cap n + 10 < sizeLine := by
  have h1 : n * 2 ^ n ≤ 16 * 2 ^ 16 := Nat.mul_le_mul h (Nat.pow_le_pow_right (by decide) h)
  have h2 : sizeLine = 16777216 := sizeLine_eq
  unfold cap
  have h3 : 16 * 2 ^ 16 = 1048576 := by decide
  omega
theorem more_lt {n : Nat} {qs : List Quad} {s t : Kn} {i k : Nat} {b : Bool} (m : More n qs s i k b t) (h : bt s.up i k = false ∨ (b = true ∧ bt s.be i k = false)) : s.sum < t.sum := m.le.sum_lt fun e => by
  rcases h with h | ⟨hb, h⟩
  · have := m.up
    rw [← e, h] at this
    cases this
  · have := m.be hb
    rw [← e, h] at this
    cases this
def spWhole (C : Addr) : Sp := fun vs H Q _ => ∃ (o : Ob) (qs : List Quad) (s : Kn) (n : Nat), vs = [.ref o.p] ∧ Giv C H o qs s n ∧ n ≤ 16 ∧ (Contr n s ∨ Closed n qs s) ∧ (∀ H', Same H H' → (∀ v, Keep qs v → ¬ s.Has v) → Q .non H') ∧
  ∀ H' o' t, Same H H' → Giv C H' o' qs t n → s.Le t → Sane n qs t → Total n t → Q (.ref o'.p) H'
section
variable {P : Program} {w : World} {K : PySem.W.Frag} {mg : Str → Option Value} {base : Heap} {C f : Addr} {fd : FuncData}
theorem scWhole : FnScope ["known", "line", "order", "whole", "i", "j"] ["known"] (defScope s_whole_order) := ⟨rfl, rfl, rfl, by decide +kernel, rfl, by decide +kernel, by decide +kernel⟩
theorem ok_whole (T : OC K C) (DM : DfM P w K mg base C "with_more" 4 ["self", "i", "j", "is_strict"] (spMore C)) (DC : DfM P w K mg base C "is_contrary" 2 ["self"] (spContr C)) (DCo : Df P w K mg base "completed" 6 ["order"] (spCompleted C))
    (DCh : Df P w K mg base "chosen" 5 ["order"] (spChosen C)) (F : FnP K "whole_order" s_whole_order f fd) : FnOk P w K mg base CX0 7 f fd ["known"] (spWhole C) := by
  refine F.ok scWhole (fun vs H Q E h => ?_) (fun cdv A outer s H vs Q E hr h => ?_)
  · obtain ⟨o, qs, s, n, rfl, _⟩ := h
    rfl
  · obtain ⟨o, qs, kn, n, rfl, O, n16, hcl, q0, q1⟩ := h
    have hu : (A.deeper (envOfC "whole_order" (defScope s_whole_order) s.heap.objs.size f cdv)).units < cLine := by have := hr.un; omega
    refine ⟨_, PSs.nox (pss_cons (ps_set (i := 1) scWhole.nd rfl (Or.inl rfl) (pe_lst (pa_cons (pv 0) pa_nil)))
      (pss_cons (ps_while PassesOwn.never (pt_cmpR (op_neNil hu) (pv 1) (pe_lst pa_nil) (nomark _))
        (pss_cons (ps_set (i := 2) scWhole.nd rfl (Or.inl rfl) (pe_bm0 PySem.F.plainAttrs_list PySem.F.slot_list_pop PySem.F.type_list_pop mt_pop (pv 1)))
        (pss_cons (ps_set (i := 3) scWhole.nd rfl (Or.inl rfl) (pe_ifExp (pt_val (pe_methD0 T.cl DC (hr.mono (by decide)) (pv 2))) pe_non (pe_callD DCo hr rfl (pa_cons (pv 2) pa_nil))))
        (pss_cons (ps_if (pt_cmp (pc_notN (pv 3))) (pss_one (ps_ret (pv 3))) pss_nil)
        (pss_one (ps_if (pt_not (pt_val (pe_methD0 T.cl DC (hr.mono (by decide)) (pv 2))))
          (pss_cons (ps_asg (pe_callD DCh (hr.mono (by decide)) rfl (pa_cons (pv 2) pa_nil)) (pg_tup rfl (pgs_cons (pg_name (i := 4) scWhole.nd rfl (Or.inl rfl)) (pgs_cons (pg_name (i := 5) scWhole.nd rfl (Or.inl rfl)) pgs_nil))))
          (pss_cons (ps_expr (pe_bm PySem.F.plainAttrs_list PySem.F.slot_list_append PySem.F.type_list_append mt_append (pv 1) (pa_cons (pe_methD T.cl DM (hr.mono (by decide)) (pv 2) (pa_cons (pv 4) (pa_cons (pv 5) (pa_cons pe_bl pa_nil)))) pa_nil)))
          (pss_one (ps_expr (pe_bm PySem.F.plainAttrs_list PySem.F.slot_list_append PySem.F.type_list_append mt_append (pv 1) (pa_cons (pe_methD T.cl DM (hr.mono (by decide)) (pv 2) (pa_cons (pv 5) (pa_cons (pv 4) (pa_cons pe_bl pa_nil)))) pa_nil)))))) pss_nil))))))
      (pss_one (ps_ret pe_non)))), ?_⟩
    have no1 : ∀ a b c d : Addr, (oF a b c d).lookup ("with_more" : Str) = none := fun a b c d => oF_no a b c d (by decide +kernel) (by decide +kernel) (by decide +kernel) (by decide +kernel)
    have no2 : ∀ a b c d : Addr, (oF a b c d).lookup ("is_contrary" : Str) = none := fun a b c d => oF_no a b c d (by decide +kernel) (by decide +kernel) (by decide +kernel) (by decide +kernel)
    refine ⟨_, rfl, by show 1 ≤ sizeLine; decide, fun a ha => ?_⟩
    have s0 : Same H (upd H a (.lst [.ref o.p])) := same_new ha
    have L0 : Lin C (upd H a (.lst [.ref o.p])) a qs n kn [(o, kn)] := ⟨upd_same, fun x hx => by
      rw [List.mem_singleton] at hx
      rw [hx]
      exact ⟨O.same s0, off_new O ha, .refl _, hcl⟩, fun k x e => by
      have l1 := (List.getElem?_eq_some_iff.mp e).1
      rw [List.length_singleton] at l1
      omega⟩
    refine ⟨fun m σ H' => ∃ (v2 v3 v4 v5 : Option V) (xs : List (Ob × Kn)), σ = [some (.ref o.p), some (.ref a), v2, v3, v4, v5] ∧ Same H H' ∧ Lin C H' a qs n kn xs ∧ (∀ v, Keep qs v → kn.Has v → ∃ x ∈ xs, x.2.Has v) ∧ m = wts n xs,
      ⟨_, none, none, none, none, [(o, kn)], rfl, s0, L0, fun v _ hv => ⟨(o, kn), List.mem_singleton.mpr rfl, hv⟩, rfl⟩, ?_⟩
    rintro m σ H1 ⟨v2, v3, v4, v5, xs, rfl, s1, L1, cov, hm⟩
    refine ⟨_, rfl, Nat.zero_le _, fun b hb => ⟨a, b, _, rfl, rfl, SqL.of ((same_new hb) _ _ L1.at_), SqL.of upd_same, _, rfl, ?_⟩⟩
    have s2 : Same H (upd H1 b (.lst [])) := s1.trans (same_new hb)
    have L2 : Lin C (upd H1 b (.lst [])) a qs n kn xs := L1.same (same_new hb)
    generalize upd H1 b (.lst []) = H2 at s2 L2
    rcases List.eq_nil_or_concat xs with rfl | ⟨ys, x, rfl⟩
    · refine iteF ?_
      exact q0 H2 s2 fun v k hv => by obtain ⟨x, hx, _⟩ := cov v k hv; cases hx
    rw [List.concat_eq_append] at L1 L2 cov hm ⊢
    have ne : (!((ys ++ [x]).map fun x => V.ref x.1.p).isEmpty) = true := by simp
    rw [ne]
    refine iteT ?_
    obtain ⟨gx, fx, lex, clx⟩ := L2.giv x (List.mem_append_right _ (List.mem_singleton.mpr rfl))
    have hx : ys.length ≤ x.2.sum := L2.ht ys.length x (by rw [List.getElem?_append_right (Nat.le_refl _), Nat.sub_self]; rfl)
    rw [wts_snoc] at hm
    refine ⟨fun σ' H' => ∃ (v2 v3 v4 v5 : Option V) (xs : List (Ob × Kn)), σ' = [some (.ref o.p), some (.ref a), v2, v3, v4, v5] ∧ Same H H' ∧ Lin C H' a qs n kn xs ∧ (∀ v, Keep qs v → kn.Has v → ∃ x ∈ xs, x.2.Has v) ∧ wts n xs < m,
      fun σ' H' ⟨v2, v3, v4, v5, xs, e, s', L', c', lt⟩ => ⟨_, lt, v2, v3, v4, v5, xs, e, s', L', c', rfl⟩, ?_⟩
    -- order = line.pop()
    have last : ((ys ++ [x]).map fun x => V.ref x.1.p)[((ys ++ [x]).map fun x => V.ref x.1.p).length - 1]? = some (V.ref x.1.p) := by
      rw [List.length_map, List.length_append, List.length_singleton, Nat.add_sub_cancel, List.map_append, List.getElem?_append_right (by rw [List.length_map]; exact Nat.le_refl _), List.length_map, Nat.sub_self]
      rfl
    refine ⟨_, rfl, .inl ⟨rfl, _, SqL.of L2.at_⟩, a, _, _, rfl, rfl, L2.at_, last, ?_⟩
    have dl : ((ys ++ [x]).map fun x => V.ref x.1.p).dropLast = ys.map fun x => V.ref x.1.p := by rw [List.map_append]; exact List.dropLast_concat
    rw [dl]
    have L3 := L2.pop
    have g3 : Giv C (upd H2 a (.lst (ys.map fun x => V.ref x.1.p))) x.1 qs x.2 n := gx.off fx L2.at_
    have s3 : Same H (upd H2 a (.lst (ys.map fun x => V.ref x.1.p))) := same_upd s2 ha
    generalize upd H2 a (.lst (ys.map fun x => V.ref x.1.p)) = H3 at L3 g3 s3
    obtain ⟨dx3, e3⟩ := g3.oa.ob
    refine ⟨_, rfl, x.1.p, dx3, _, rfl, e3, no2 _ _ _ _, x.1, qs, x.2, n, rfl, g3.oa, g3.wf, g3.n64, fun H4 c s4 hc => ⟨c, rfl, ?_⟩⟩
    have g4 := g3.same s4
    have L4 := L3.same s4
    cases c with
    | true =>
      refine iteT ?_
      refine ⟨_, rfl, _, rfl, ?_⟩
      refine iteF ?_
      obtain ⟨dx4, e4⟩ := g4.oa.ob
      refine ⟨_, rfl, x.1.p, dx4, _, rfl, e4, no2 _ _ _ _, x.1, qs, x.2, n, rfl, g4.oa, g4.wf, g4.n64, fun H5 c' s5 hc' => ⟨c', rfl, ?_⟩⟩
      have hct : Contr n x.2 := hc.mp rfl
      rw [hc'.mpr hct]
      refine iteF ?_
      refine ⟨_, _, _, _, ys, rfl, s3.trans (s4.trans s5), L4.same s5, fun v k hv => ?_, by have := wt_pos n x; omega⟩
      obtain ⟨y, hy, hyv⟩ := cov v k hv
      rcases List.mem_append.mp hy with hy | hy
      · exact ⟨y, hy, hyv⟩
      · rw [List.mem_singleton] at hy
        rw [hy] at hyv
        exact (hct.no hyv).elim
    | false =>
      refine iteF ?_
      have nct : ¬ Contr n x.2 := fun z => by have := hc.mpr z; cases this
      have sx : Sane n qs x.2 := ⟨clx.resolve_left nct, nct⟩
      refine ⟨_, rfl, x.1, qs, x.2, n, rfl, g4, sx, fun nt H5 s5 => ?_, fun H5 o5 t5 s5 g5 le5 sn5 tot5 => ?_⟩
      · refine ⟨_, rfl, _, rfl, ?_⟩
        refine iteF ?_
        have g5 := g4.same s5
        have L5 := L4.same s5
        obtain ⟨dx5, e5⟩ := g5.oa.ob
        refine ⟨_, rfl, x.1.p, dx5, _, rfl, e5, no2 _ _ _ _, x.1, qs, x.2, n, rfl, g5.oa, g5.wf, g5.n64, fun H6 c' s6 hc' => ⟨c', rfl, ?_⟩⟩
        have ec : c' = false := by
          cases c' with
          | false => rfl
          | true => exact absurd (hc'.mp rfl) nct
        rw [ec]
        refine iteT ?_
        refine ⟨_, rfl, x.1, qs, x.2, n, rfl, g5.same s6, nt, fun H7 p7 pr s7 h7 hop => ?_⟩
        refine ⟨p7, _, rfl, SqT.of h7, rfl, _, _, rfl, _, _, rfl, rfl, ?_⟩
        have s37 : Same H3 H7 := s4.trans (s5.trans (s6.trans s7))
        have g7 := g3.same s37
        have L7 := L3.same s37
        obtain ⟨dx7, e7⟩ := g7.oa.ob
        -- line.append(order.with_more(i, j, False))
        refine ⟨_, rfl, .inl ⟨rfl, _, SqL.of L7.at_⟩, _, rfl, x.1.p, dx7, _, rfl, e7, no1 _ _ _ _, _, rfl, _, rfl, x.1, qs, x.2, n, pr.1, pr.2, false, rfl, g7.oa, g7.wf, g7.n64, g7.qin, hop.1, hop.2.1, fun H8 o8 t8 s8 O8 m8 k8 => ?_⟩
        have g8 : Giv C H8 o8 qs t8 n := g7.more O8 m8
        have L8 := L7.same s8
        have f8 : Off a o8 := off_kin k8 fx L7.at_
        have lt8 : x.2.sum < t8.sum := more_lt m8 (.inl hop.2.2.2.1)
        have up8 := m8.wf.sum_le
        have cs := cap_small n16
        refine ⟨a, _, _, rfl, rfl, L8.at_, by rw [List.length_map]; omega, ?_⟩
        have L9 := L8.push (x := (o8, t8)) g8 f8 (lex.trans m8.le) m8.cl (by show ys.length ≤ t8.sum; omega)
        have g9 : Giv C (upd H8 a (.lst ((ys.map fun x => V.ref x.1.p) ++ [V.ref o8.p]))) x.1 qs x.2 n := (g7.same s8).off fx L8.at_
        have s9 : Same H (upd H8 a (.lst ((ys.map fun x => V.ref x.1.p) ++ [V.ref o8.p]))) := same_upd (s3.trans (s37.trans s8)) ha
        generalize upd H8 a (.lst ((ys.map fun x => V.ref x.1.p) ++ [V.ref o8.p])) = H9 at L9 g9 s9
        obtain ⟨dx9, e9⟩ := g9.oa.ob
        refine ⟨_, rfl, .inl ⟨rfl, _, SqL.of L9.at_⟩, _, rfl, x.1.p, dx9, _, rfl, e9, no1 _ _ _ _, _, rfl, _, rfl, x.1, qs, x.2, n, pr.2, pr.1, true, rfl, g9.oa, g9.wf, g9.n64, g9.qin, hop.2.1, hop.1, fun HA oA tA sA OA' mA kA => ?_⟩
        have gA : Giv C HA oA qs tA n := g9.more OA' mA
        have LA := L9.same sA
        have fA : Off a oA := off_kin kA fx L9.at_
        have ltA : x.2.sum < tA.sum := more_lt mA (.inr ⟨rfl, hop.2.2.2.2⟩)
        have upA := mA.wf.sum_le
        refine ⟨a, _, _, rfl, rfl, LA.at_, by rw [List.length_map, List.length_append, List.length_singleton]; omega, ?_⟩
        refine ⟨_, _, _, _, ys ++ [(o8, t8)] ++ [(oA, tA)], rfl, same_upd (s9.trans sA) ha, LA.push (x := (oA, tA)) gA fA (lex.trans mA.le) mA.cl (by rw [List.length_append, List.length_singleton]; show ys.length + 1 ≤ tA.sum; omega), fun v k hv => ?_, ?_⟩
        · obtain ⟨y, hy, hyv⟩ := cov v k hv
          rcases List.mem_append.mp hy with hy | hy
          · exact ⟨y, List.mem_append_left _ (List.mem_append_left _ hy), hyv⟩
          · rw [List.mem_singleton] at hy
            rw [hy] at hyv
            by_cases hle : v pr.1 ≤ v pr.2
            · exact ⟨(o8, t8), List.mem_append_left _ (List.mem_append_right _ (List.mem_singleton.mpr rfl)), m8.has v k hyv hle fun z => by cases z⟩
            · exact ⟨(oA, tA), List.mem_append_right _ (List.mem_singleton.mpr rfl), mA.has v k hyv (by omega) fun _ => by omega⟩
        · rw [wts_snoc, wts_snoc]
          have := wt_two (n := n) (x := x) (y := (o8, t8)) (z := (oA, tA)) lt8 ltA up8 upA
          omega
      · refine ⟨_, rfl, _, rfl, ?_⟩
        refine iteT ?_
        exact ⟨_, rfl, q1 H5 o5 t5 (s3.trans (s4.trans s5)) g5 (lex.trans le5) sn5 tot5⟩
end
end K54
namespace K54
open PySem PySem.Spec PyProof.Rows L2
/-! ### zip of a list and a tuple -/
def ItzM (K : PySem.W.Frag) (a b : Addr) : It :=
  ⟨fun i H => ∃ (xs ys : List V), SqL K H a xs ∧ SqT K H b ys ∧ i < xs.length ∧ i < ys.length,
    fun i H v H' => ∃ T x y, v = .ref T ∧ H T = none ∧ H' = upd H T (.tup [x, y]) ∧ (∀ xs, SqL K H a xs → xs[i]? = some x) ∧ ∀ ys, SqT K H b ys → ys[i]? = some y,
    fun i H => ∃ (xs ys : List V), SqL K H a xs ∧ SqT K H b ys ∧ i ≤ xs.length ∧ i ≤ ys.length ∧ (i = xs.length ∨ i = ys.length)⟩
theorem turn_zipM {P : Program} {w : World} {K : PySem.W.Frag} {elts : List Expr} {kk : Nat} {tpos : Pos} {a b z TI TO i1 i2 : Addr} (D : ZipSep2 z TI TO i1 i2 [i1, a] [i2, b]) (a1 : a ≠ i1) (b2 : b ≠ i2) :
    Turn P w K (.Tuple elts kk tpos) (ItzM K a b) [z, TI, TO, i1, i2] z (fun i h => IsZip h z TI TO .none ∧ IsTupOf2 h TI (.ref i1) (.ref i2) ∧ (∃ x y, IsTupOf2 h TO x y) ∧ h.IsListIter i1 a i ∧ h.IsTupleIter i2 b i) where
  mem := by simp
  obj := fun i h st c hc => by
    obtain ⟨hz, hTI, ⟨x, y, hTO⟩, ⟨o1, e1, _, d1⟩, ⟨o2, e2, _, d2⟩⟩ := st
    simp only [List.mem_cons, List.not_mem_nil, or_false] at hc
    rcases hc with q | q | q | q | q <;> rw [q]
    · exact ⟨_, hz, fun v q => nomatch q⟩
    · exact ⟨_, hTI, fun v q => nomatch q⟩
    · exact ⟨_, hTO, fun v q => nomatch q⟩
    · exact ⟨o1, e1, fun v q => by rw [d1] at q; cases q⟩
    · exact ⟨o2, e2, fun v q => by rw [d2] at q; cases q⟩
  keep := fun i h h' st k => by
    obtain ⟨hz, hTI, ⟨x, y, hTO⟩, h1, h2⟩ := st
    exact ⟨k z (by simp) _ hz, k TI (by simp) _ hTI, ⟨x, y, k TO (by simp) _ hTO⟩, h1.at fun o q => k i1 (by simp) o q, h2.at fun o q => k i2 (by simp) o q⟩
  item := by
    intro X hP hw hK hc i pins s σ H E I hf st hg
    subst hP hw hK
    obtain ⟨hz, hTI, ⟨x0, y0, hTO⟩, h1, h2⟩ := st
    obtain ⟨xs, ys, hqx, hqy, hx, hy⟩ := hg
    obtain ⟨its, rv, p, _⟩ := I.list hqx
    obtain ⟨its2, rv2, p2, _⟩ := I.tuple hqy
    have l1 := rv.length
    have l2 := rv2.length
    have hzl : z < s.heap.objs.size := Heap.lt_size hz
    have hh : X.A.in1.handled = none := I.ok.hd hc
    refine wpAny_pyNext_zipD2_item D (Draws.list hh i1 a a1 its.toArray) (Draws.tuple hh i2 b b2 its2.toArray) hz hTI hTO ⟨h1, p.isList⟩ ⟨h2, p2⟩ (by simp; omega) (by simp; omega) fun u u2 h' tk hu hu2 z' TO' st1 st2 hT hsz hk => ?_
    obtain ⟨x, hx', ru⟩ : ∃ x, xs[i]? = some x ∧ RelV x u := by
      obtain ⟨w', ew, rw'⟩ := rv.get (List.getElem?_eq_getElem hx)
      rw [List.getElem?_toArray, ew] at hu
      cases hu
      exact ⟨_, List.getElem?_eq_getElem hx, rw'⟩
    obtain ⟨y, hy', ru2⟩ : ∃ y, ys[i]? = some y ∧ RelV y u2 := by
      obtain ⟨w', ew, rw'⟩ := rv2.get (List.getElem?_eq_getElem hy)
      rw [List.getElem?_toArray, ew] at hu2
      cases hu2
      exact ⟨_, List.getElem?_eq_getElem hy, rw'⟩
    refine ⟨_, rfl, wpAny_letOwnedTupleGo_zip (s := { s with heap := h', toks := tk }) z' fun h'' z'' sb => ?_⟩
    have hT2 : h''.get? s.heap.objs.size = some { cls := .type "tuple", data := .seq #[u, u2] } := (sb.2 _ (Nat.ne_of_gt hzl)).trans hT
    have new : ObjOk X.prog X.w (upd H s.heap.objs.size (.tup [x, y])) h'' s.heap.objs.size (.tup [x, y]) := ⟨by show 2 ≤ sizeLine; decide, [u, u2], .cons ru (.cons ru2 .nil), ⟨_, hT2, rfl, _, rfl⟩⟩
    have kept : ∀ c o, c ∉ [z, TI, TO, i1, i2] → s.heap.get? c = some o → h''.get? c = some o := fun c o hb q => by
      simp only [List.mem_cons, List.not_mem_nil, or_false, not_or] at hb
      exact (sb.2 c hb.1).trans (hk c o hb.1 hb.2.2.1 hb.2.2.2.1 hb.2.2.2.2 q)
    have I1 : Inv X pins σ (upd H s.heap.objs.size (.tup [x, y])) { s with heap := h'', toks := tk } := I.turnedNew (t' := tk) (ch := [z, TI, TO, i1, i2]) kept hf (Nat.le_refl _) new
    refine ⟨.ref s.heap.objs.size, _, I1, rfl, ⟨_, x, y, rfl, I.hok.fresh (Nat.le_refl _), rfl, fun l hl => by rw [I.list_inj hl hqx]; exact hx', fun l hl => by rw [I.tuple_inj hl hqy]; exact hy'⟩, ⟨z'', ?_, ⟨u, u2, ?_⟩, ?_, ?_⟩, fun c hcm => ?_⟩
    · exact (sb.2 _ D.TIz).trans (hk _ _ D.TIz D.TITO D.TIi1 D.TIi2 hTI)
    · exact (sb.2 _ D.TOz).trans TO'
    · exact st1.1.at fun o q => (sb.2 _ (Ne.symm D.zi1)).trans q
    · exact st2.1.at fun o q => (sb.2 _ (Ne.symm D.zi2)).trans q
    · have hlt : c < s.heap.objs.size := by
        simp only [List.mem_cons, List.not_mem_nil, or_false] at hcm
        rcases hcm with q | q | q | q | q <;> rw [q]
        · exact hzl
        · exact Heap.lt_size hTI
        · exact Heap.lt_size hTO
        · obtain ⟨_, e1, _⟩ := h1; exact Heap.lt_size e1
        · obtain ⟨_, e2, _⟩ := h2; exact Heap.lt_size e2
      rw [upd_ne (Nat.ne_of_lt hlt)]
      exact (hf c hcm).1
  done := by
    intro X hP hw hK hc i pins s σ H E I hf st hg
    subst hP hw hK
    obtain ⟨hz, hTI, ⟨x0, y0, hTO⟩, h1, h2⟩ := st
    obtain ⟨xs, ys, hqx, hqy, b1, b2', hend⟩ := hg
    obtain ⟨its, rv, p, _⟩ := I.list hqx
    obtain ⟨its2, rv2, p2, _⟩ := I.tuple hqy
    have l1 := rv.length
    have l2 := rv2.length
    have hh : X.A.in1.handled = none := I.ok.hd hc
    refine wpAny_pyNext_zipD2_end D (Draws.list hh i1 a a1 its.toArray) (Draws.tuple hh i2 b b2 its2.toArray) hz hTI hTO ⟨h1, p.isList⟩ ⟨h2, p2⟩ (by simp; omega) (by simp; omega) (by simp; omega) fun h' tk hk => ⟨rfl, I.turnedL (t' := tk) (ch := [z, TI, TO, i1, i2]) (fun c o hb q => ?_) hf⟩
    simp only [List.mem_cons, List.not_mem_nil, or_false, not_or] at hb
    exact hk c o hb.1 hb.2.2.1 hb.2.2.2.1 hb.2.2.2.2 q
  self := fun A i s Q E st h => wpAny_pyIter_zip st.1 h
def iZipM (K : PySem.W.Frag) (ta : TA) : TI := fun σ H R => ta σ H fun vs H1 => ∃ a b xs ys, vs = [.ref a, .ref b] ∧ SqL K H1 a xs ∧ SqT K H1 b ys ∧ R (ItzM K a b) H1
theorem pi_zipM {X : Cx} {e e2 : Expr} {ta : TA} {p pos tpos : Pos} {elts : List Expr} {kk : Nat} (hg : Gl X "zip") (hm : X.mg "zip" = none) (ha : PA X [e, e2] ta)
    (hs : starEach [e, e2] X.env = (false, eval e X.env) :: starEach [e2] X.env := by rfl) (hpl : (backTo pos (starEach [e2] X.env)).any (·.1) = false := by rfl) : PI X (.Tuple elts kk tpos) (.Call (.Name "zip" p) [e, e2] [] pos) (iZipM X.K ta) := by
  refine ⟨fun pins s σ H R I h => ?_⟩
  refine Call_ (ld_blt I hg hm PyProof.Rows.boot_zip (PyProof.Rows.callWith_type1 (thn (ha.run pos pins s σ H _ I h) fun us s1 ⟨vs, H1, I1, r1, q1⟩ => ?_) hs hpl))
  obtain ⟨a, b, xs, ys, ex, hqx, hqy, q⟩ := q1
  subst ex
  cases r1 with
  | cons r rr =>
    cases rr with
    | cons r' rr =>
      cases rr
      cases r
      cases r'
      obtain ⟨its, rv, p1, _⟩ := I1.list hqx
      obtain ⟨its2, rv2, p2, _⟩ := I1.tuple hqy
      obtain ⟨o2, ho2, _⟩ := id p2
      have la := p1.lt
      have lb := Heap.lt_size ho2
      refine zip_begins2 (begins_list a its.toArray) (begins_tuple b its2.toArray) p1.isList p2 fun h' hz hTI hTO h1 h2 hsz hk => wpAny_pyIter_zip hz ?_
      have I2 : Inv X pins σ H1 { s1 with heap := h' } := I1.kept (t' := s1.toks) hk
      refine ⟨s1.heap.objs.size + 4, [s1.heap.objs.size + 4, s1.heap.objs.size + 2, s1.heap.objs.size + 3, s1.heap.objs.size, s1.heap.objs.size + 1], _, _, H1, rfl, I2,
        turn_zipM (zip_sep2 (fp1 := [a]) (fp2 := [b]) (fun c hc => by rw [List.mem_singleton.mp hc]; exact la) (fun c hc => by rw [List.mem_singleton.mp hc]; exact lb)) (Nat.ne_of_lt la) (Nat.ne_of_lt (Nat.lt_succ_of_lt lb)), ⟨hz, hTI, ⟨_, _, hTO⟩, ⟨_, h1, rfl, rfl⟩, ⟨_, h2, rfl, rfl⟩⟩, fun c hc => ?_, q⟩
      have hle : s1.heap.objs.size ≤ c := by
        simp only [List.mem_cons, List.not_mem_nil, or_false] at hc
        rcases hc with q | q | q | q | q <;> rw [q]
        · exact Nat.le_add_right _ _
        · exact Nat.le_add_right _ _
        · exact Nat.le_add_right _ _
        · exact Nat.le_refl _
        · exact Nat.le_add_right _ _
      exact I1.fpOk hle (I1.hok.fresh hle)
theorem for_zipM {K : PySem.W.Frag} {a b : Addr} {xs ys : List V} {g : TG} {tb : TS} {D : Ends} {σ : L2.St} {H : Hp} (hl : xs.length = ys.length) (Pv : Nat → L2.St → Hp → Prop) (h0 : Pv 0 σ H) (hq : ∀ i σ H, Pv i σ H → SqL K H a xs ∧ SqT K H b ys)
    (hs : ∀ (i : Nat) (x y : V) (T : Addr) (σ : L2.St) (H : Hp), xs[i]? = some x → ys[i]? = some y → Pv i σ H → H T = none → g (.ref T) σ (upd H T (.tup [x, y])) fun σ2 H2 => tb { D with nx := Pv (i + 1), ct := Pv (i + 1), bk := D.nx } σ2 H2)
    (hd : ∀ σ H, Pv xs.length σ H → D.nx σ H) :
    ∃ W : Nat → Nat → L2.St → Hp → Prop, (∃ m, W 0 m σ H) ∧ ∀ i m σ H, W i m σ H → ((ItzM K a b).stop i H ∧ D.nx σ H) ∨ ((ItzM K a b).go i H ∧ ∃ N : L2.St → Hp → Prop, (∀ σ' H', N σ' H' → ∃ m', m' < m ∧ W (i + 1) m' σ' H') ∧
      ∀ x H', (ItzM K a b).yld i H x H' → g x σ H' fun σ2 H2 => tb { D with nx := N, ct := N, bk := D.nx } σ2 H2) := by
  refine ⟨fun i m σ H => m = xs.length - i ∧ i ≤ xs.length ∧ Pv i σ H, ⟨_, rfl, Nat.zero_le _, h0⟩, ?_⟩
  rintro i m σ H ⟨rfl, hi, p⟩
  obtain ⟨q1, q2⟩ := hq i σ H p
  by_cases hlt : i < xs.length
  · refine .inr ⟨⟨xs, ys, q1, q2, hlt, by omega⟩, Pv (i + 1), fun σ' H' p' => ⟨xs.length - (i + 1), by omega, rfl, hlt, p'⟩, fun v H' y => ?_⟩
    obtain ⟨T, x, y, rfl, hT, rfl, y1, y2⟩ := y
    exact hs i x y T σ H (y1 xs q1) (y2 ys q2) p hT
  · have e : i = xs.length := by omega
    subst e
    exact .inl ⟨⟨xs, ys, q1, q2, Nat.le_refl _, by omega, .inl rfl⟩, hd σ H p⟩
end K54
namespace K54
open PySem PySem.Spec PyProof.Rows L2
/-- the values of the ends come in the order -/
def OrdOk (os : List Int) (es : List Nat) (v : Nat → Int) : Prop := ∀ (i j : Nat) (a b : Int) (x y : Nat), os[i]? = some a → os[j]? = some b → es[i]? = some x → es[j]? = some y → a ≤ b → v x ≤ v y ∧ (a < b → v x < v y)
/-- what is known of two of them -/
def PairOk (os : List Int) (es : List Nat) (t : Kn) (i j : Nat) : Prop := ∀ (a b : Int) (x y : Nat), os[i]? = some a → os[j]? = some b → es[i]? = some x → es[j]? = some y → a ≤ b → bt t.up x y = true ∧ (a < b → bt t.be x y = true)
theorem PairOk.le {os : List Int} {es : List Nat} {t u : Kn} {i j : Nat} (h : PairOk os es t i j) (l : t.Le u) : PairOk os es u i j := fun a b x y h1 h2 h3 h4 h5 => ⟨l.1.sub _ _ (h a b x y h1 h2 h3 h4 h5).1, fun z => l.2.sub _ _ ((h a b x y h1 h2 h3 h4 h5).2 z)⟩
theorem contr_le {n : Nat} {t u : Kn} (h : Contr n t) (l : t.Le u) : Contr n u := let ⟨i, h1, h2⟩ := h; ⟨i, h1, l.2.sub _ _ h2⟩
def spEnds (C : Addr) : Sp := fun vs H Q _ => ∃ (o : Ob) (qs : List Quad) (s : Kn) (n : Nat) (a b : Addr) (es : List Nat) (os : List Int), vs = [.ref o.p, .ref a, .ref b] ∧ Giv C H o qs s n ∧ (Contr n s ∨ Closed n qs s) ∧
  H a = some (.lst (NL es)) ∧ H b = some (.tup (os.map V.int)) ∧ es.length = os.length ∧ (∀ e ∈ es, e < n) ∧
  ∀ H' o' t, Same H H' → Giv C H' o' qs t n → (Contr n t ∨ Closed n qs t) → (∀ v, Keep qs v → s.Has v → OrdOk os es v → t.Has v) → (¬ Contr n t → ∀ v, t.Has v → s.Has v ∧ OrdOk os es v) → Q (.ref o'.p) H'
section
variable {P : Program} {w : World} {K : PySem.W.Frag} {mg : Str → Option Value} {base : Heap} {C f : Addr} {fd : FuncData}
theorem scEnds : FnScope ["known", "ends", "order", "one", "place", "other", "spot"] ["known", "ends", "order"] (defScope s_with_ends) := ⟨rfl, rfl, rfl, by decide +kernel, rfl, by decide +kernel, by decide +kernel⟩
theorem ok_ends (T : OC K C) (G : Txt mg) (DM : DfM P w K mg base C "with_more" 4 ["self", "i", "j", "is_strict"] (spMore C)) (DC : DfM P w K mg base C "is_contrary" 2 ["self"] (spContr C)) (F : FnP K "with_ends" s_with_ends f fd) :
    FnOk P w K mg base CX0 5 f fd ["known", "ends", "order"] (spEnds C) := by
  refine F.ok scEnds (fun vs H Q E h => ?_) (fun cdv A outer s H vs Q E hr h => ?_)
  · obtain ⟨o, qs, s, n, a, b, es, os, rfl, _⟩ := h
    rfl
  · obtain ⟨o, qs, kn, n, a, b, es, os, rfl, O, hcl, ha, hb, hl, he, q⟩ := h
    refine ⟨_, PSs.nox (pss_cons (ps_for PassesOwn.never rfl (pi_zipM (by rfl) G.zip (pa_cons (pv 1) (pa_cons (pv 2) pa_nil))) (pg_tup rfl (pgs_cons (pg_name (i := 3) scEnds.nd rfl (Or.inl rfl)) (pgs_cons (pg_name (i := 4) scEnds.nd rfl (Or.inl rfl)) pgs_nil)))
        (pss_one (ps_for PassesOwn.never rfl (pi_zipM (by rfl) G.zip (pa_cons (pv 1) (pa_cons (pv 2) pa_nil))) (pg_tup rfl (pgs_cons (pg_name (i := 5) scEnds.nd rfl (Or.inl rfl)) (pgs_cons (pg_name (i := 6) scEnds.nd rfl (Or.inl rfl)) pgs_nil)))
          (pss_one (ps_if (PW.pt (pw_and (pt_cmpR op_le (pv 4) (pv 6) (nomark _)) (pw_and1 (pt_not (pt_val (pe_methD0 T.cl DC (hr.mono (by decide)) (pv 0)))))))
            (pss_one (ps_set (i := 0) scEnds.nd rfl (Or.inl rfl) (pe_methD T.cl DM hr (pv 0) (pa_cons (pv 3) (pa_cons (pv 5) (pa_cons (pe_cmpR op_lt (pv 4) (pv 6) (nomark _)) pa_nil)))))) pss_nil)))))
      (pss_one (ps_ret (pv 0)))), ?_⟩
    have no1 : ∀ a b c d : Addr, (oF a b c d).lookup ("with_more" : Str) = none := fun a b c d => oF_no a b c d (by decide +kernel) (by decide +kernel) (by decide +kernel) (by decide +kernel)
    have no2 : ∀ a b c d : Addr, (oF a b c d).lookup ("is_contrary" : Str) = none := fun a b c d => oF_no a b c d (by decide +kernel) (by decide +kernel) (by decide +kernel) (by decide +kernel)
    have len1 : (NL es).length = (os.map V.int).length := by rw [NL_length, List.length_map, hl]
    refine ⟨_, rfl, _, rfl, a, b, _, _, rfl, SqL.of ha, SqT.of hb, for_zipM (K := K) (a := a) (b := b) len1
      (fun i σ H' => ∃ (o' : Ob) (t : Kn) (v3 v4 v5 v6 : Option V), σ = [some (.ref o'.p), some (.ref a), some (.ref b), v3, v4, v5, v6] ∧ Same H H' ∧ Giv C H' o' qs t n ∧ (Contr n t ∨ Closed n qs t) ∧ kn.Le t ∧ (∀ v, Keep qs v → kn.Has v → OrdOk os es v → t.Has v) ∧ (¬ Contr n t → ∀ i' j, i' < i → PairOk os es t i' j))
      ⟨o, kn, none, none, none, none, rfl, Same.refl H, O, hcl, .refl _, fun v _ h _ => h, fun _ i' j h => absurd h (Nat.not_lt_zero _)⟩ (fun i σ H' ⟨_, _, _, _, _, _, _, s', _⟩ => ⟨SqL.of (s' _ _ ha), SqT.of (s' _ _ hb)⟩) ?_ ?_⟩
    · rintro i x y T1 σ H1 hx hy ⟨o1, t1, v3, v4, v5, v6, rfl, s1, g1, c1, le1, has1, pr1⟩ hT1
      have hi : i < es.length := by rw [← NL_length es]; exact (List.getElem?_eq_some_iff.mp hx).1
      rw [NL_get hi] at hx
      cases hx
      obtain ⟨p, hp, rfl⟩ : ∃ p, os[i]? = some p ∧ y = V.int p := by
        rw [List.getElem?_map] at hy
        obtain ⟨p, hp, rfl⟩ := Option.map_eq_some_iff.mp hy
        exact ⟨p, hp, rfl⟩
      have hei : es[i]? = some (es.getD i 0) := by rw [List.getD_eq_getElem?_getD, List.getElem?_eq_getElem hi]; rfl
      generalize es.getD i 0 = x at hei
      have sT := same_new (o := .tup [V.int (x : Int), V.int p]) hT1
      refine ⟨T1, _, rfl, SqT.of upd_same, rfl, _, _, rfl, _, _, rfl, rfl, ?_⟩
      have s1' := s1.trans sT
      have g1' := g1.same sT
      generalize upd H1 T1 (.tup [V.int (x : Int), V.int p]) = H1' at s1' g1'
      refine ⟨_, rfl, _, rfl, a, b, _, _, rfl, SqL.of (s1' _ _ ha), SqT.of (s1' _ _ hb), for_zipM (K := K) (a := a) (b := b) len1
        (fun j σ H' => ∃ (o' : Ob) (t : Kn) (v5 v6 : Option V), σ = [some (.ref o'.p), some (.ref a), some (.ref b), some (.int (x : Int)), some (.int p), v5, v6] ∧ Same H H' ∧ Giv C H' o' qs t n ∧ (Contr n t ∨ Closed n qs t) ∧ kn.Le t ∧ (∀ v, Keep qs v → kn.Has v → OrdOk os es v → t.Has v) ∧
          (¬ Contr n t → (∀ i' j, i' < i → PairOk os es t i' j) ∧ ∀ j', j' < j → PairOk os es t i j'))
        ⟨o1, t1, v5, v6, rfl, s1', g1', c1, le1, has1, fun z => ⟨pr1 z, fun j' h => absurd h (Nat.not_lt_zero _)⟩⟩ (fun i σ H' ⟨_, _, _, _, _, s', _⟩ => ⟨SqL.of (s' _ _ ha), SqT.of (s' _ _ hb)⟩) ?_ ?_⟩
      · rintro j x2 y2 T2 σ H2 hx2 hy2 ⟨o2, t2, v5, v6, rfl, s2, g2, c2, le2, has2, pr2⟩ hT2
        have hj : j < es.length := by rw [← NL_length es]; exact (List.getElem?_eq_some_iff.mp hx2).1
        rw [NL_get hj] at hx2
        cases hx2
        obtain ⟨p2, hp2, rfl⟩ : ∃ p, os[j]? = some p ∧ y2 = V.int p := by
          rw [List.getElem?_map] at hy2
          obtain ⟨p, hp, rfl⟩ := Option.map_eq_some_iff.mp hy2
          exact ⟨p, hp, rfl⟩
        have hej : es[j]? = some (es.getD j 0) := by rw [List.getD_eq_getElem?_getD, List.getElem?_eq_getElem hj]; rfl
        generalize es.getD j 0 = z at hej
        have sT2 := same_new (o := .tup [V.int (z : Int), V.int p2]) hT2
        refine ⟨T2, _, rfl, SqT.of upd_same, rfl, _, _, rfl, _, _, rfl, rfl, ?_⟩
        have s3 := s2.trans sT2
        have g3 := g2.same sT2
        generalize upd H2 T2 (.tup [V.int (z : Int), V.int p2]) = H3 at s3 g3
        -- the pair, if nothing is put in
        have stay : ∀ t, (¬ Contr n t → (∀ i' j, i' < i → PairOk os es t i' j) ∧ ∀ j', j' < j → PairOk os es t i j') → (¬ Contr n t → PairOk os es t i j) → (¬ Contr n t → (∀ i' j, i' < i → PairOk os es t i' j) ∧ ∀ j', j' < j + 1 → PairOk os es t i j') := by
          intro t h1 h2 nc
          refine ⟨(h1 nc).1, fun j' hj' => ?_⟩
          by_cases e : j' < j
          · exact (h1 nc).2 j' e
          · have e2 : j' = j := by omega
            rw [e2]
            exact h2 nc
        refine ⟨_, rfl, _, rfl, _, _, rfl, rfl, _, rfl, ?_⟩
        by_cases hle : p ≤ p2
        · rw [decide_eq_true hle]
          refine iteT ?_
          obtain ⟨dx3, e3⟩ := g3.oa.ob
          refine ⟨_, rfl, o2.p, dx3, _, rfl, e3, no2 _ _ _ _, o2, qs, t2, n, rfl, g3.oa, g3.wf, g3.n64, fun H4 c s4 hc => ⟨c, rfl, ?_⟩⟩
          have g4 := g3.same s4
          cases c with
          | true =>
            refine iteF ?_
            have ct : Contr n t2 := hc.mp rfl
            exact ⟨o2, t2, _, _, rfl, s3.trans s4, g4, c2, le2, has2, fun nc => absurd ct nc⟩
          | false =>
            refine iteT ?_
            have nct : ¬ Contr n t2 := fun z => by have := hc.mpr z; cases this
            obtain ⟨dx4, e4⟩ := g4.oa.ob
            refine ⟨_, rfl, o2.p, dx4, _, rfl, e4, no1 _ _ _ _, _, rfl, _, rfl, _, rfl, _, rfl, _, _, rfl, rfl, o2, qs, t2, n, x, z, decide (p < p2), rfl, g4.oa, g4.wf, g4.n64, g4.qin, he x (List.mem_of_getElem? hei), he z (List.mem_of_getElem? hej), fun H5 o5 t5 s5 O5 m5 _ => ?_⟩
            refine ⟨o5, t5, _, _, rfl, s3.trans (s4.trans s5), g4.more O5 m5, m5.cl, le2.trans m5.le, fun v k h1 h2 => ?_, stay t5 (fun _ => ?_) fun _ => ?_⟩
            · have r := h2 i j p p2 x z hp hp2 hei hej hle
              exact m5.has v k (has2 v k h1 h2) r.1 fun y => r.2 (of_decide_eq_true y)
            · exact ⟨fun i' j' hi' => ((pr2 nct).1 i' j' hi').le m5.le, fun j' hj' => ((pr2 nct).2 j' hj').le m5.le⟩
            · intro a' b' x' y' h1 h2 h3 h4 _
              rw [hp] at h1
              rw [hp2] at h2
              rw [hei] at h3
              rw [hej] at h4
              cases h1; cases h2; cases h3; cases h4
              exact ⟨m5.up, fun y => m5.be (decide_eq_true y)⟩
        · rw [decide_eq_false hle]
          refine iteF (iteF ?_)
          refine ⟨o2, t2, _, _, rfl, s3, g3, c2, le2, has2, stay t2 pr2 fun _ => ?_⟩
          intro a' b' x' y' h1 h2 _ _ h5
          rw [hp] at h1
          rw [hp2] at h2
          cases h1; cases h2
          exact absurd h5 hle
      · rintro σ H2 ⟨o2, t2, v5, v6, rfl, s2, g2, c2, le2, has2, pr2⟩
        refine ⟨o2, t2, _, _, _, _, rfl, s2, g2, c2, le2, has2, fun nc i' j hi' => ?_⟩
        by_cases e : i' < i
        · exact (pr2 nc).1 i' j e
        · have e2 : i' = i := by omega
          rw [e2]
          by_cases e3 : j < (NL es).length
          · exact (pr2 nc).2 j e3
          · intro a' b' x' y' _ _ _ h4 _
            have := (List.getElem?_eq_some_iff.mp h4).1
            rw [NL_length] at e3
            omega
    · rintro σ H1 ⟨o1, t1, v3, v4, v5, v6, rfl, s1, g1, c1, le1, has1, pr1⟩
      refine ⟨_, rfl, q H1 o1 t1 s1 g1 c1 has1 fun nc v hv => ⟨hv.down le1, fun i j a' b' x y h1 h2 h3 h4 h5 => ?_⟩⟩
      have hi : i < (NL es).length := by rw [NL_length]; exact (List.getElem?_eq_some_iff.mp h3).1
      have r := pr1 nc i j hi a' b' x y h1 h2 h3 h4 h5
      exact ⟨hv.1 _ _ r.1, fun z => hv.2 _ _ (r.2 z)⟩
end
end K54
namespace K54
open PySem PySem.Spec PyProof.Rows L2
/-! ### texts of steps -/
def tx (l : List Nat) : Str := ⟨l.toArray⟩
theorem tx_toList (l : List Nat) : (tx l).cps.toList = l := by unfold tx; simp
theorem tx_length (l : List Nat) : (tx l).length = l.length := by unfold tx Str.length; simp
theorem tx_size (l : List Nat) : (tx l).cps.size = l.length := by unfold tx; simp
theorem tx_inj {a b : List Nat} (h : tx a = tx b) : a = b := by rw [← tx_toList a, h, tx_toList]
theorem tx_eq (z : Str) : tx z.cps.toList = z := by
  cases z
  unfold tx
  simp
theorem abcd_eq : ("abcd" : Str) = tx [97, 98, 99, 100] := by decide +kernel
theorem steps_eq : ("ABCDabcd" : Str) = tx [65, 66, 67, 68, 97, 98, 99, 100] := by decide +kernel
theorem stp_cases {c : Nat} (h : isStp c = true) : c ∈ [65, 66, 67, 68, 97, 98, 99, 100] := by
  unfold isStp at h
  have h2 := of_decide_eq_true h
  simp only [List.mem_cons, List.not_mem_nil, or_false]
  omega
theorem stp_mem {c : Nat} : c ∈ [65, 66, 67, 68, 97, 98, 99, 100] ↔ isStp c = true := by
  refine ⟨fun h => ?_, stp_cases⟩
  unfold isStp
  refine decide_eq_true ?_
  simp only [List.mem_cons, List.not_mem_nil, or_false] at h
  omega
theorem low_stp {c : Nat} (h : isStp c = true) : PySem.Txt.lower (tx [c]) = tx [lo c] := by
  have key : ∀ c ∈ [65, 66, 67, 68, 97, 98, 99, 100], PySem.Txt.lower (tx [c]) = tx [lo c] := by decide +kernel
  exact key c (stp_cases h)
/-- the counterpart -/
def ctr (c : Nat) : Nat := if 97 ≤ c then c - 32 else c + 32
theorem up_stp {c : Nat} (h : isF c = true) (h2 : isStp c = true) : PySem.Txt.upper (tx [c]) = tx [ctr c] := by
  have key : ∀ c ∈ [65, 66, 67, 68, 97, 98, 99, 100], isF c = true → PySem.Txt.upper (tx [c]) = tx [ctr c] := by decide +kernel
  exact key c (stp_cases h2) h
theorem isl_stp {c : Nat} (h : isStp c = true) : PySem.Txt.islower (tx [c]) = isF c := by
  have key : ∀ c ∈ [65, 66, 67, 68, 97, 98, 99, 100], PySem.Txt.islower (tx [c]) = isF c := by decide +kernel
  exact key c (stp_cases h)
theorem isu_stp {c : Nat} (h : isStp c = true) : PySem.Txt.isupper (tx [c]) = !isF c := by
  have key : ∀ c ∈ [65, 66, 67, 68, 97, 98, 99, 100], PySem.Txt.isupper (tx [c]) = !isF c := by decide +kernel
  exact key c (stp_cases h)
theorem lo_stp {c : Nat} (h : isStp c = true) : lo c ∈ [97, 98, 99, 100] ∧ isStp (lo c) = true := by
  have key : ∀ c ∈ [65, 66, 67, 68, 97, 98, 99, 100], lo c ∈ [97, 98, 99, 100] ∧ isStp (lo c) = true := by decide
  exact key c (stp_cases h)
/-- a row's text -/
def RowOk (r : List Nat) : Prop := ∀ c ∈ r, isStp c = true
abbrev sV (r : List Nat) : V := .str (tx r)
/-- a sign of a text -/
theorem tx_get {l : List Nat} {i c : Nat} (h : (tx l).cps[i]? = some c) : l[i]? = some c := by
  unfold tx at h
  simpa using h
end K54
namespace K54
open PySem PySem.Spec PyProof.Rows L2
/-! ### d = {k: v for ..}, tuple keys; over any walk -/
theorem ps_setDcT {X : Cx} {i : Nat} {y : Str} {py : Pos} {kx vx tg iter : Expr} {ifs : List Expr} {scope : Scope} {own : List (Str × Nat)} {pos spos : Pos} {wi : TI} {g : TG} {tt : TT} {tk tv : TE} (hc : X.calm = true) (hu : X.A.units + 1 < cLine) (hN : X.N.Nodup)
    (hy : X.N[i]? = some y) (hyl : X.env.scope.names.lookup y = some .local) (hsw : swapsWith (.DictComp kx vx [⟨tg, iter, ifs, 0⟩] scope pos) (some (.Name y py)) spos.line X.env = pure true) (hi : PI X tg iter wi) (ok : BlkOk X.N X.env.scope scope own)
    (hg : ∀ s H C cl fp, PG (X.blk s H scope (compEnvC scope cl C X.env) fp) tg g) (ht : ∀ s H C cl fp, PTs (X.blk s H scope (compEnvC scope cl C X.env) fp) ifs tt)
    (hk : ∀ s H C cl fp, PE (X.blk s H scope (compEnvC scope cl C X.env) fp) kx tk) (he : ∀ s H C cl fp, PE (X.blk s H scope (compEnvC scope cl C X.env) fp) vx tv) (hs : ∀ x, foldedSetIterable iter X.env x = pure x := by intro _; rfl) :
    PS X (.Assign [.Name y py] (.DictComp kx vx [⟨tg, iter, ifs, 0⟩] scope pos) spos) (tAsg (tDcT wi g tt tk tv (own.map (·.2))) (gName i)) := by
  refine ⟨fun pins s σ H D I h => ?_⟩
  rw [exec_Assign_Name_used _ _ _ _ hsw]
  refine wpAny_bind (wpAny_standAt (wpAny_bind ?_))
  show wpAny _ X.A (do let _ ← comprehension (.DictComp kx vx [⟨tg, iter, ifs, 0⟩] scope pos) scope X.env (firstIterPos [⟨tg, iter, ifs, 0⟩] pos) newDict false (eval iter X.env) (some (assign (.Name y py) X.env))) _ _ s
  have h' : tDcT wi g tt tk tv (own.map (·.2)) σ H (fun x H1 => gName i x σ H1 D.nx) := h
  refine wpAny_bind (thn (dcT_core (Qf := fun _ s' => SP X pins D .next s') hc hu hN I hi ok hg ht hk he hs h' fun L C s' m H' I' q hn f => ?_) fun _ s' hq => wpAny_pure (wpAny_pure hq))
  show wpAny _ _ (assign (.Name y py) X.env (.ref L)) _ _ _
  obtain ⟨f0, f1, f2, f3, f4, f5⟩ := f
  refine wpAny_assign_Name (store_ok2 (v := V.ref L) I' hN hy (.inl hyl) rfl (fun s2 I2 ⟨a, sb, ha⟩ => ?_) (.inr hyl))
  have nCa : C ≠ a := ha.elim (fun z => by rw [z]; exact f1) fun z e => f4 y a z e.symm
  exact ⟨m, hn.sameBut sb nCa, fun h3 sb3 => ⟨_, H', I2.turned (t' := s2.toks) (fun b o hb e => (sb3.2 b hb).trans e) f0 f1 f3 f4 f5, q⟩⟩
theorem dcT_it {J : It} {n : Nat} {G : Hp → Prop} {Y : Nat → Hp → V → Hp → Prop} (w : Walk J n G Y) {g : TG} {tt : TT} {tk tv : TE} {vs : List Nat} {σ : L2.St} {H1 : Hp} {D : Addr} {Qd : Hp → Prop} (Pv : Nat → Hp → Prop) (h0 : Pv 0 (upd H1 D (.dT [])))
    (hG : ∀ i H, i ≤ n → Pv i H → G H) (hs : ∀ i x H H', i < n → Pv i H → Y i H x H' → g x (wipe σ vs) H' fun σ2 H2 => wipe σ2 vs = wipe σ vs ∧ tt σ2 H2 fun b H3 => if b = true then tk σ2 H3 fun y H4 => tv σ2 H4 fun z H5 =>
      ∃ (kvs : List (List Key × V)) (k : List Key) (a : Addr), y = .ref a ∧ H5 a = some (.tup (k.map kV)) ∧ H5 D = some (.dT kvs) ∧ kvs.length < sizeLine ∧ Pv (i + 1) (upd H5 D (.dT (putK kvs k z))) else Pv (i + 1) H3) (hd : ∀ H, Pv n H → Qd H) :
    ∃ W : Nat → Nat → Hp → Prop, (∃ m, W 0 m (upd H1 D (.dT []))) ∧ ∀ i m H, W i m H → (J.stop i H ∧ Qd H) ∨ (J.go i H ∧ ∃ Nx : Hp → Prop, (∀ H', Nx H' → ∃ m', m' < m ∧ W (i + 1) m' H') ∧ ∀ x H', J.yld i H x H' → g x (wipe σ vs) H' fun σ2 H2 => wipe σ2 vs = wipe σ vs ∧
      tt σ2 H2 fun b H3 => if b = true then tk σ2 H3 fun y H4 => tv σ2 H4 fun z H5 => ∃ (kvs : List (List Key × V)) (k : List Key) (a : Addr), y = .ref a ∧ H5 a = some (.tup (k.map kV)) ∧ H5 D = some (.dT kvs) ∧ kvs.length < sizeLine ∧ Nx (upd H5 D (.dT (putK kvs k z))) else Nx H3) := by
  refine ⟨fun i m H => m = n - i ∧ i ≤ n ∧ Pv i H, ⟨_, rfl, Nat.zero_le _, h0⟩, ?_⟩
  rintro i m H ⟨rfl, hi, p⟩
  have q := hG i H hi p
  by_cases hlt : i < n
  · exact .inr ⟨w.goes i H hlt q, Pv (i + 1), fun H' p' => ⟨n - (i + 1), by omega, rfl, hlt, p'⟩, fun x H' y => hs i x H H' hlt p (w.yields i H x H' hlt q y)⟩
  · have e : i = n := by omega
    subst e
    exact .inl ⟨w.stops H q, hd H p⟩
/-! ### promises -/
def spIsRow : Sp := fun vs H Q _ => ∃ r : List Nat, vs = [sV r] ∧ RowOk r ∧ r.length ≤ 60 ∧ ∀ H', Same H H' → Q (.bl true) H'
/-- which links are never slower, without facts -/
def slowK : List (List Key × V) := [97, 98, 99, 100].map fun c => ([Sum.inr (tx [c]), Sum.inr (tx [c])], .bl true)
def spSlow : Sp := fun vs H Q _ => ∃ a : Addr, vs = [.ref a] ∧ H a = some (.tup []) ∧ ∀ H' p, Same H H' → H' p = some (.dT slowK) → Q (.ref p) H'
/-- an entry of a list of values -/
def lV : Option (Nat × Nat) → List V
  | none => [.str "begin"]
  | some (c, i) => [.str "step", sV [c], .int (i : Int)]
def spRowV : Sp := fun vs H Q _ => ∃ (r : List Nat) (s : Nat) (a : Addr) (us : List Addr) (xs : List (Option (Nat × Nat))), vs = [sV r, .int (s : Int), .ref a] ∧ RowOk r ∧ H a = some (.lst (us.map V.ref)) ∧ Tps lV H us xs ∧ us.length + r.length ≤ 900 ∧
  ∀ H' us', (∀ b o, H b = some o → b ≠ a → H' b = some o) → H' a = some (.lst (us'.map V.ref)) → Tps lV H' us' (xs ++ (layRow r s xs.length).map some) → Q (.int (endRow r s xs.length : Nat)) H'
section
variable {P : Program} {w : World} {K : PySem.W.Frag} {mg : Str → Option Value} {base : Heap} {C f : Addr} {fd : FuncData}
abbrev NIsRow : List Str := ["thing", "step"]
theorem scIsRow : FnScope NIsRow ["thing"] (defScope s_is_row) := ⟨rfl, rfl, rfl, by decide +kernel, rfl, by decide +kernel, by decide +kernel⟩
theorem ok_isrow (G : Txt mg) (F : FnP K "is_row" s_is_row f fd) : FnOk P w K mg base CX0 1 f fd ["thing"] spIsRow := by
  refine F.ok scIsRow (fun vs H Q E h => ?_) (fun cdv A outer s H vs Q E hr h => ?_)
  · obtain ⟨r, rfl, _⟩ := h
    rfl
  · obtain ⟨r, rfl, hr1, hl, q⟩ := h
    refine ⟨_, PSs.nox (pss_one (ps_ret (pe_and (pe_callB RZ.call_isTy (by rfl) G.isinstance (by decide +kernel) (pa_cons (pv 0) (pa_cons (pe_bltn (v := .ty "str") (by rfl) G.str (by decide +kernel) rfl) pa_nil)))
      (pe_and (pe_cmpR op_le (pe_callB call_len_str (by rfl) G.len PySem.boot_len (pa_cons (pv 0) pa_nil)) (pe_gI G.MOST_STEPS_rows rfl) (nomark _))
        (pe_one (pe_callB (cr_all rfl) (by rfl) G.all (by decide +kernel) (pa_cons (pe_lc (own := [("step", 1)]) rfl scIsRow.nd (pi_str (pv 0)) (blkOk_by (own := [("step", 1)]) (N := NIsRow) (sc := defScope s_is_row) (by decide +kernel))
          (fun _ _ _ _ _ => pg_name (i := 1) scIsRow.nd rfl (Or.inl rfl)) (fun _ _ _ _ _ => pts_nil) (fun _ _ _ _ _ => pe_cmpR op_in_sign (pv 1) (pe_gS G.STEPS rfl) (by rfl))) pa_nil))))))), ?_⟩
    refine ⟨_, rfl, _, "str", rfl, RZ.Ty4.str _, _, rfl, ?_⟩
    refine iteT ?_
    refine ⟨_, rfl, _, rfl, by rw [tx_length]; exact Nat.le_of_lt (small1000 (by omega)), _, _, rfl, rfl, _, rfl, ?_⟩
    rw [tx_length, decide_eq_true (show ((r.length : Nat) : Int) ≤ 60 by omega)]
    refine iteT ?_
    refine ⟨_, rfl, _, rfl, fun D hD => lc_it walk_str (fun i H' => Same H H' ∧ H' D = some (.lst ((List.replicate i true).map V.bl))) ⟨same_new hD, upd_same⟩ (fun i H' _ _ => trivial) ?_ ?_⟩
    · rintro i x H1 H2 hi ⟨s1, hd⟩ ⟨rfl, c, hc, rfl⟩
      have hc' := tx_get hc
      rw [tx_size] at hi
      refine ⟨rfl, ?_⟩
      refine ⟨_, rfl, c, _, rfl, rfl, _, hd, by rw [List.length_map, List.length_replicate]; exact small1000 (by omega), same_upd s1 hD, ?_⟩
      rw [upd_same, steps_eq, tx_toList, decide_eq_true (stp_mem.mpr (hr1 c (List.mem_of_getElem? hc'))), List.replicate_succ', List.map_append]
      rfl
    · rintro H1 ⟨s1, hd⟩
      refine ⟨D, _, rfl, SqL.of hd, ?_⟩
      have e : (List.replicate (tx r).cps.size true).all id = true := by
        rw [List.all_eq_true]
        intro b hb
        rw [List.eq_of_mem_replicate hb]
        rfl
      rw [e]
      exact q H1 s1
abbrev NSlow : List Str := ["facts", "found", "fact", "middle", "one", "other", "letter"]
theorem scSlow : FnScope NSlow ["facts"] (defScope s_never_slower) := ⟨rfl, rfl, rfl, by decide +kernel, rfl, by decide +kernel, by decide +kernel⟩
theorem slow_look : ∀ a ∈ [97, 98, 99, 100], ∀ b ∈ [97, 98, 99, 100], valV slowK [Sum.inr (tx [a]), Sum.inr (tx [b])] = if a = b then some (.bl true) else none := by decide +kernel
theorem slow_put : ∀ a ∈ [97, 98, 99, 100], putK slowK [Sum.inr (tx [a]), Sum.inr (tx [a])] (.bl true) = slowK := by decide +kernel
theorem slow_new : ∀ i, i < 4 → ∀ c, [97, 98, 99, 100][i]? = some c → putK (slowK.take i) [Sum.inr (tx [c]), Sum.inr (tx [c])] (.bl true) = slowK.take (i + 1) := by
  intro i hi c hc
  have key : ∀ i ∈ [0, 1, 2, 3], ∀ c ∈ [97, 98, 99, 100], [97, 98, 99, 100][i]? = some c → putK (slowK.take i) [Sum.inr (tx [c]), Sum.inr (tx [c])] (.bl true) = slowK.take (i + 1) := by decide +kernel
  exact key i (by simp; omega) c (List.mem_of_getElem? hc) hc
theorem ok_slow (G : Txt mg) (F : FnP K "never_slower" s_never_slower f fd) : FnOk P w K mg base CX0 1 f fd ["facts"] spSlow := by
  refine F.ok scSlow (fun vs H Q E h => ?_) (fun cdv A outer s H vs Q E hr h => ?_)
  · obtain ⟨a, rfl, _⟩ := h
    rfl
  · obtain ⟨a, rfl, ha, q⟩ := h
    have hu : (A.deeper (envOfC "never_slower" (defScope s_never_slower) s.heap.objs.size f cdv)).units + 1 < cLine := by have := hr.un; omega
    refine ⟨_, PSs.nox (pss_cons (ps_setDcT (i := 1) (own := [("letter", 6)]) rfl hu scSlow.nd rfl rfl (by rfl) (pi_str (pe_gS G.LINKS rfl)) (blkOk_by (own := [("letter", 6)]) (N := NSlow) (sc := defScope s_never_slower) (by decide +kernel))
          (fun _ _ _ _ _ => pg_name (i := 6) scSlow.nd rfl (Or.inl rfl)) (fun _ _ _ _ _ => pts_nil) (fun _ _ _ _ _ => pe_tup (pa_cons (pv 6) (pa_cons (pv 6) pa_nil))) (fun _ _ _ _ _ => pe_bl))
      (pss_cons (ps_for PassesOwn.never rfl (pi_tup (pv 0)) (pg_name (i := 2) scSlow.nd rfl (Or.inl rfl)) pss_never)
      (pss_cons (ps_for PassesOwn.never rfl (pi_str (pe_gS G.LINKS rfl)) (pg_name (i := 3) scSlow.nd rfl (Or.inl rfl))
        (pss_one (ps_for PassesOwn.never rfl (pi_str (pe_gS G.LINKS rfl)) (pg_name (i := 4) scSlow.nd rfl (Or.inl rfl))
          (pss_one (ps_for PassesOwn.never rfl (pi_str (pe_gS G.LINKS rfl)) (pg_name (i := 5) scSlow.nd rfl (Or.inl rfl))
            (pss_one (ps_if (PW.pt (pw_and (pt_cmp (pc_din hu (pe_tup (pa_cons (pv 4) (pa_cons (pv 3) pa_nil))) (pv 1))) (pw_and1 (pt_cmp (pc_din hu (pe_tup (pa_cons (pv 3) (pa_cons (pv 5) pa_nil))) (pv 1))))))
              (pss_one (ps_dput hu (pv 1) (pe_tup (pa_cons (pv 4) (pa_cons (pv 5) pa_nil))) pe_bl rfl)) pss_nil)))))))
      (pss_one (ps_ret (pv 1)))))), ?_⟩
    refine ⟨_, rfl, fun D hD => dcT_it walk_str (fun i H' => Same H H' ∧ H' D = some (.dT (slowK.take i))) ⟨same_new hD, upd_same⟩ (fun i H' _ _ => trivial) ?_ ?_⟩
    · rintro i x H1 H2 hi ⟨s1, hd⟩ ⟨rfl, c, hc, rfl⟩
      rw [abcd_eq] at hc hi
      have hc' := tx_get hc
      rw [tx_size] at hi
      refine ⟨rfl, ?_⟩
      refine ⟨_, rfl, _, rfl, by show 2 ≤ sizeLine; decide, fun p hp => ?_⟩
      have nD : D ≠ p := fun z => by rw [← z, hd] at hp; cases hp
      refine ⟨_, [Sum.inr (tx [c]), Sum.inr (tx [c])], p, rfl, upd_same, by rw [upd_ne nD]; exact hd, by rw [List.length_take]; exact small1000 (by have : slowK.length = 4 := rfl; omega), same_upd (s1.trans (same_new hp)) hD, ?_⟩
      rw [upd_same, slow_new i hi c hc']
    · rintro H1 ⟨s1, hd⟩
      have hd : H1 D = some (.dT slowK) := hd
      refine ⟨_, rfl, a, rfl, ⟨_, SqT.of (s1 _ _ ha)⟩, for_tup (K := K) (a := a) (xs := []) (fun i σ H' => σ = [some (.ref a), some (.ref D), none, none, none, none, none] ∧ H' = H1) ⟨rfl, rfl⟩ (fun i σ H' _ z => by rw [z.2]; exact SqT.of (s1 _ _ ha)) (fun i x σ H' hx _ => by cases hx) ?_⟩
      rintro σ H' ⟨rfl, rfl⟩
      have cod : ∀ {i c : Nat}, ("abcd" : Str).cps[i]? = some c → c ∈ [97, 98, 99, 100] := fun {i c} e => by
        rw [abcd_eq] at e
        exact List.mem_of_getElem? (tx_get e)
      refine ⟨_, rfl, for_it walk_str (fun i σ H2 => ∃ v3 v4 v5 : Option V, σ = [some (.ref a), some (.ref D), none, v3, v4, v5, none] ∧ Same H' H2) ⟨none, none, none, rfl, Same.refl _⟩ (fun _ _ _ _ _ => trivial) ?_ ?_⟩
      · rintro i x σ H2 H3 hi ⟨v3, v4, v5, rfl, s2⟩ ⟨rfl, cm, hcm, rfl⟩
        have mm := cod hcm
        refine ⟨_, rfl, for_it walk_str (fun i σ H2 => ∃ v4 v5 : Option V, σ = [some (.ref a), some (.ref D), none, some (sV [cm]), v4, v5, none] ∧ Same H' H2) ⟨v4, v5, rfl, s2⟩ (fun _ _ _ _ _ => trivial) ?_ ?_⟩
        · rintro i2 x2 σ H4 H5 hi2 ⟨v4, v5, rfl, s4⟩ ⟨rfl, co, hco, rfl⟩
          have mo := cod hco
          refine ⟨_, rfl, for_it walk_str (fun i σ H2 => ∃ v5 : Option V, σ = [some (.ref a), some (.ref D), none, some (sV [cm]), some (sV [co]), v5, none] ∧ Same H' H2) ⟨v5, rfl, s4⟩ (fun _ _ _ _ _ => trivial) ?_ ?_⟩
          · rintro i3 x3 σ H6 H7 hi3 ⟨v5, rfl, s6⟩ ⟨rfl, ct, hct, rfl⟩
            have mt := cod hct
            refine ⟨_, rfl, _, rfl, by show 2 ≤ sizeLine; decide, fun p hp => ⟨_, rfl, D, _, rfl, DGet.t (k := [Sum.inr (tx [co]), Sum.inr (tx [cm])]) ((same_new hp) _ _ (s6 _ _ hd)) upd_same, _, rfl, ?_⟩⟩
            have s8 : Same H' (upd H7 p (.tup [sV [co], sV [cm]])) := s6.trans (same_new hp)
            rw [slow_look co mo cm mm]
            by_cases e1 : co = cm
            · rw [if_pos e1]
              refine iteT ?_
              refine ⟨_, rfl, _, rfl, by show 2 ≤ sizeLine; decide, fun p2 hp2 => ⟨_, rfl, D, _, rfl, DGet.t (k := [Sum.inr (tx [cm]), Sum.inr (tx [ct])]) ((same_new hp2) _ _ (s8 _ _ hd)) upd_same, _, rfl, ?_⟩⟩
              have s9 := s8.trans (same_new (o := .tup [sV [cm], sV [ct]]) hp2)
              rw [slow_look cm mm ct mt]
              by_cases e2 : cm = ct
              · rw [if_pos e2]
                refine iteT ?_
                refine ⟨_, rfl, _, rfl, _, rfl, by show 2 ≤ sizeLine; decide, fun p3 hp3 => ⟨D, _, rfl, DPut.t (k := [Sum.inr (tx [co]), Sum.inr (tx [ct])]) ((same_new hp3) _ _ (s9 _ _ hd)) upd_same (by show 4 < sizeLine; decide), ?_⟩⟩
                have s10 := s9.trans (same_new (o := .tup [sV [co], sV [ct]]) hp3)
                subst e1 e2
                rw [slow_put _ mm]
                refine ⟨_, rfl, fun b z hb => ?_⟩
                by_cases hbD : b = D
                · rw [hbD] at hb ⊢
                  rw [hd] at hb
                  rw [upd_same]
                  exact hb
                · rw [upd_ne hbD]
                  exact s10 b z hb
              · rw [if_neg e2]
                refine iteF ?_
                exact ⟨_, rfl, s9⟩
            · rw [if_neg e1]
              refine iteF (iteF ?_)
              exact ⟨_, rfl, s8⟩
          · rintro σ H6 ⟨v5, rfl, s6⟩
            exact ⟨_, _, rfl, s6⟩
        · rintro σ H4 ⟨v4, v5, rfl, s4⟩
          exact ⟨_, _, _, rfl, s4⟩
      · rintro σ H2 ⟨v3, v4, v5, rfl, s2⟩
        exact ⟨_, rfl, q H2 D (s1.trans s2) (s2 _ _ hd)⟩
theorem scRowV : FnScope ["row", "start", "found", "step"] ["row", "start", "found"] (defScope s_row_values) := ⟨rfl, rfl, rfl, by decide +kernel, rfl, by decide +kernel, by decide +kernel⟩
theorem layRow_snoc : ∀ (r : List Nat) (c s L : Nat), layRow (r ++ [c]) s L = layRow r s L ++ [(c, endRow r s L)]
  | [], _, _, _ => rfl
  | d :: r, c, s, L => by
    show (d, s) :: layRow (r ++ [c]) L (L + 1) = (d, s) :: (layRow r L (L + 1) ++ [(c, endRow r L (L + 1))])
    rw [layRow_snoc r c L (L + 1)]
theorem endRow_snoc : ∀ (r : List Nat) (c s L : Nat), endRow (r ++ [c]) s L = L + r.length
  | [], _, _, _ => rfl
  | d :: r, c, s, L => by
    show endRow (r ++ [c]) L (L + 1) = L + (d :: r).length
    rw [endRow_snoc r c L (L + 1), List.length_cons]
    omega
theorem ok_rowv (G : Txt mg) (F : FnP K "row_values" s_row_values f fd) : FnOk P w K mg base CX0 1 f fd ["row", "start", "found"] spRowV := by
  refine F.ok scRowV (fun vs H Q E h => ?_) (fun cdv A outer s H vs Q E hr h => ?_)
  · obtain ⟨r, st, a, us, xs, rfl, _⟩ := h
    rfl
  · obtain ⟨r, st, a, us, xs, rfl, hrow, ha, ht, hlen, q⟩ := h
    refine ⟨_, PSs.nox (pss_cons (ps_for PassesOwn.never rfl (pi_str (pv 0)) (pg_name (i := 3) scRowV.nd rfl (Or.inl rfl))
        (pss_cons (ps_expr (pe_bm PySem.F.plainAttrs_list PySem.F.slot_list_append PySem.F.type_list_append mt_append (pv 2) (pa_cons (pe_tup (pa_cons pe_str (pa_cons (pv 3) (pa_cons (pv 1) pa_nil)))) pa_nil)))
        (pss_one (ps_set (i := 1) scRowV.nd rfl (Or.inl rfl) (pe_op op_sub (pe_callB call_len_seq (by rfl) G.len PySem.boot_len (pa_cons (pv 2) pa_nil)) pe_int)))))
      (pss_one (ps_ret (pv 1)))), ?_⟩
    refine ⟨_, rfl, _, rfl, for_it walk_str (fun i σ H' => ∃ (v3 : Option V) (us' : List Addr), σ = [some (sV r), some (.int (endRow (r.take i) st xs.length : Nat)), some (.ref a), v3] ∧ (∀ b o, H b = some o → b ≠ a → H' b = some o) ∧ H' a = some (.lst (us'.map V.ref)) ∧ Tps lV H' us' (xs ++ (layRow (r.take i) st xs.length).map some))
      ⟨none, us, rfl, fun b o h _ => h, ha, by rw [List.take_zero]; show Tps lV H us (xs ++ []); rw [List.append_nil]; exact ht⟩ (fun _ _ _ _ _ => trivial) ?_ ?_⟩
    · rintro i x σ H1 H2 hi ⟨v3, us', rfl, kp, hu, hp⟩ ⟨rfl, c, hc, rfl⟩
      have hc' := tx_get hc
      rw [tx_size] at hi
      refine ⟨_, rfl, .inl ⟨rfl, _, SqL.of hu⟩, _, rfl, _, rfl, by show 3 ≤ sizeLine; decide, fun p hp' => ?_⟩
      have na : a ≠ p := fun z => by rw [← z, hu] at hp'; cases hp'
      have ha' : ∀ z, (upd H2 p z) a = some (.lst (us'.map V.ref)) := fun z => by rw [upd_ne na]; exact hu
      have l1 : us'.length = xs.length + i := by
        rw [hp.len, List.length_append, List.length_map, layRow_length, List.length_take]
        omega
      have l0 : us.length = xs.length := ht.len
      refine ⟨a, _, _, rfl, rfl, ha' _, by rw [List.length_map]; exact small1000 (by omega), ?_⟩
      refine ⟨_, rfl, a, _, rfl, .inl (SqL.of upd_same), _, _, rfl, rfl, ?_⟩
      refine ⟨some (sV [c]), us' ++ [p], ?_, fun b z hb hne => ?_, by rw [upd_same, List.map_append]; rfl, ?_⟩
      · rw [take_snoc hc', endRow_snoc, List.length_append, List.length_map, List.length_singleton, List.length_take, Nat.min_eq_left (Nat.le_of_lt hi)]
        have e : ((us'.length + 1 : Nat) : Int) - 1 = ((xs.length + i : Nat) : Int) := by omega
        show [some (sV r), some (V.int (((us'.length + 1 : Nat) : Int) - 1)), some (V.ref a), some (sV [c])] = _
        rw [e]
      · have nbp : b ≠ p := fun z' => by
          have := kp b z hb hne
          rw [z', hp'] at this
          cases this
        rw [upd_ne hne, upd_ne nbp]
        exact kp b z hb hne
      · rw [take_snoc hc', layRow_snoc, List.map_append, ← List.append_assoc]
        refine ((hp.new hp').lst (ha' _)).snoc ?_
        rw [upd_ne (Ne.symm na), upd_same]
        rfl
    · rintro σ H1 ⟨v3, us', rfl, kp, hu, hp⟩
      rw [tx_size, List.take_length] at hp ⊢
      exact ⟨_, rfl, q H1 us' kp hu hp⟩
end
end K54
namespace K54
open PySem PySem.Spec PyProof.Rows L2
/-- the rules of the steps among some values; those that say nothing may be left out -/
structure RulesOf (ls : List (Nat × Nat)) (qs : List Quad) : Prop where
  snd : ∀ q ∈ qs, ∃ n c i m d j, ls[n]? = some (c, i) ∧ ls[m]? = some (d, j) ∧ lo c = lo d ∧ q = rule c i (n + 1) d j (m + 1)
  cmp : ∀ n c i m d j, ls[n]? = some (c, i) → ls[m]? = some (d, j) → lo c = lo d → rule c i (n + 1) d j (m + 1) ∈ qs ∨
    ((rule c i (n + 1) d j (m + 1)).1 = (rule c i (n + 1) d j (m + 1)).2.2.1 ∧ (rule c i (n + 1) d j (m + 1)).2.1 = (rule c i (n + 1) d j (m + 1)).2.2.2)
  len : qs.length ≤ 64
def spStep : Sp := fun vs H Q _ => ∃ (a d : Addr) (ts : List Addr) (ls : List (Nat × Nat)), vs = [.ref a, .ref d] ∧ H a = some (.lst (ts.map V.ref)) ∧ Tps lV H ts (none :: ls.map some) ∧ (∀ x ∈ ls, isStp x.1 = true) ∧ ls.length ≤ 8 ∧ H d = some (.dT slowK) ∧
  ∀ H' p us qs, Same H H' → H' p = some (.lst (us.map V.ref)) → Tps qV H' us qs → RulesOf ls qs → Q (.ref p) H'
/-- (at, told) -/
def aV (x : Nat × Addr) : List V := [.int (x.1 : Int), .ref x.2]
def stepsL (ts : List Addr) : Nat → List (Nat × Addr)
  | 0 => []
  | k + 1 => stepsL ts k ++ [(k + 1, ts.getD (k + 1) 0)]
theorem stepsL_length (ts : List Addr) : ∀ k, (stepsL ts k).length = k
  | 0 => rfl
  | k + 1 => by unfold stepsL; rw [List.length_append, stepsL_length ts k]; rfl
theorem stepsL_get (ts : List Addr) : ∀ k i, i < k → (stepsL ts k)[i]? = some (i + 1, ts.getD (i + 1) 0)
  | 0, i, h => absurd h (Nat.not_lt_zero _)
  | k + 1, i, h => by
    unfold stepsL
    by_cases e : i < k
    · rw [List.getElem?_append_left (by rw [stepsL_length]; exact e)]
      exact stepsL_get ts k i e
    · have e2 : i = k := by omega
      rw [e2, List.getElem?_append_right (by rw [stepsL_length]; exact Nat.le_refl _), stepsL_length, Nat.sub_self]
      rfl
/-- the rules so far: all pairs of which the first lies below n, and those of n with the second below m -/
structure Part (ls : List (Nat × Nat)) (qs : List Quad) (n m : Nat) : Prop where
  snd : ∀ q ∈ qs, ∃ n c i m d j, ls[n]? = some (c, i) ∧ ls[m]? = some (d, j) ∧ lo c = lo d ∧ q = rule c i (n + 1) d j (m + 1)
  cmp : ∀ n' c i m' d j, ls[n']? = some (c, i) → ls[m']? = some (d, j) → lo c = lo d → (n' < n ∨ n' = n ∧ m' < m) → rule c i (n' + 1) d j (m' + 1) ∈ qs
  len : qs.length ≤ n * ls.length + m
theorem Part.next {ls : List (Nat × Nat)} {qs : List Quad} {n : Nat} (h : Part ls qs n ls.length) : Part ls qs (n + 1) 0 := by
  refine ⟨h.snd, fun n' c i m' d j h1 h2 h3 h4 => h.cmp n' c i m' d j h1 h2 h3 ?_, ?_⟩
  · have := (List.getElem?_eq_some_iff.mp h2).1
    omega
  · have := h.len
    rw [Nat.succ_mul]
    omega
theorem Part.skip {ls : List (Nat × Nat)} {qs : List Quad} {n m c i d j : Nat} (h : Part ls qs n m) (h1 : ls[n]? = some (c, i)) (h2 : ls[m]? = some (d, j)) (h3 : ¬ lo c = lo d) : Part ls qs n (m + 1) := by
  refine ⟨h.snd, fun n' c' i' m' d' j' e1 e2 e3 e4 => ?_, by have := h.len; omega⟩
  by_cases z : n' < n ∨ n' = n ∧ m' < m
  · exact h.cmp n' c' i' m' d' j' e1 e2 e3 z
  · have z1 : n' = n := by omega
    have z2 : m' = m := by omega
    rw [z1, h1] at e1
    rw [z2, h2] at e2
    cases e1
    cases e2
    exact absurd e3 h3
theorem Part.add {ls : List (Nat × Nat)} {qs : List Quad} {n m c i d j : Nat} (h : Part ls qs n m) (h1 : ls[n]? = some (c, i)) (h2 : ls[m]? = some (d, j)) (h3 : lo c = lo d) : Part ls (qs ++ [rule c i (n + 1) d j (m + 1)]) n (m + 1) := by
  refine ⟨fun q hq => ?_, fun n' c' i' m' d' j' e1 e2 e3 e4 => ?_, by have := h.len; rw [List.length_append, List.length_singleton]; omega⟩
  · rcases List.mem_append.mp hq with hq | hq
    · exact h.snd q hq
    · rw [List.mem_singleton] at hq
      exact ⟨n, c, i, m, d, j, h1, h2, h3, hq⟩
  · by_cases z : n' < n ∨ n' = n ∧ m' < m
    · exact List.mem_append_left _ (h.cmp n' c' i' m' d' j' e1 e2 e3 z)
    · have z1 : n' = n := by omega
      have z2 : m' = m := by omega
      rw [z1, h1] at e1
      rw [z2, h2] at e2
      cases e1
      cases e2
      rw [z1, z2]
      exact List.mem_append_right _ (List.mem_singleton.mpr rfl)
theorem lo_tx {c d : Nat} (h : isStp c = true) (h2 : isStp d = true) : valV slowK [Sum.inr (tx [lo c]), Sum.inr (tx [lo d])] = if lo c = lo d then some (.bl true) else none := slow_look _ (lo_stp h).1 _ (lo_stp h2).1
section
variable {P : Program} {w : World} {K : PySem.W.Frag} {mg : Str → Option Value} {base : Heap} {C f : Addr} {fd : FuncData}
abbrev NStep : List Str := ["listed", "slower", "steps", "found", "k", "word", "one", "i", "l", "name", "two", "j", "at", "told", "rule"]
theorem scStep : FnScope NStep ["listed", "slower"] (defScope s_step_rules) := ⟨rfl, rfl, rfl, by decide +kernel, rfl, by decide +kernel, by decide +kernel⟩
theorem ok_step (G : Txt mg) (F : FnP K "step_rules" s_step_rules f fd) : FnOk P w K mg base CX0 1 f fd ["listed", "slower"] spStep := by
  refine F.ok scStep (fun vs H Q E h => ?_) (fun cdv A outer s H vs Q E hr h => ?_)
  · obtain ⟨a, d, ts, ls, rfl, _⟩ := h
    rfl
  · obtain ⟨a, d, ts, ls, rfl, ha, ht, hstp, hlen, hd, q⟩ := h
    have hu : (A.deeper (envOfC "step_rules" (defScope s_step_rules) s.heap.objs.size f cdv)).units + 1 < cLine := by have := hr.un; omega
    have hu64 : (A.deeper (envOfC "step_rules" (defScope s_step_rules) s.heap.objs.size f cdv)).units + 64 < cLine := by have := hr.un; omega
    refine ⟨_, PSs.nox (pss_cons (ps_par rfl scStep.nd (i := 2) (j := 3) rfl rfl (by decide) rfl rfl (pa_cons
          (pe_lc (own := [("at", 12), ("told", 13)]) rfl scStep.nd (pi_enum (by rfl) G.enumerate (pa_cons (pv 0) pa_nil)) (blkOk_by (own := [("at", 12), ("told", 13)]) (N := NStep) (sc := defScope s_step_rules) (by decide +kernel))
            (g := gTup K 2 (gCons (gName 12) (gCons (gName 13) gNil)))
            (fun _ _ _ _ _ => pg_tup rfl (pgs_cons (pg_name (i := 12) scStep.nd rfl (Or.inl rfl)) (pgs_cons (pg_name (i := 13) scStep.nd rfl (Or.inl rfl)) pgs_nil)))
            (fun _ _ _ _ _ => pts_one (pt_cmpR op_eq (pe_ix (r := rIxT K) ix_tup (pv 13) pe_int (fun _ _ => rfl)) pe_str (nomark _)))
            (fun _ _ _ _ _ => pe_tup (pa_cons (pv 12) (pa_cons (pv 13) pa_nil))))
          (pa_cons (pe_lst pa_nil) pa_nil)) (by rfl))
      (pss_cons (ps_for PassesOwn.never rfl (pi_list (pv 2)) (pg_tup rfl (pgs_cons (pg_name (i := 4) scStep.nd rfl (Or.inl rfl)) (pgs_cons (pg_tup rfl (pgs_cons (pg_name (i := 5) scStep.nd rfl (Or.inl rfl)) (pgs_cons (pg_name (i := 6) scStep.nd rfl (Or.inl rfl)) (pgs_cons (pg_name (i := 7) scStep.nd rfl (Or.inl rfl)) pgs_nil)))) pgs_nil)))
        (pss_one (ps_for PassesOwn.never rfl (pi_list (pv 2)) (pg_tup rfl (pgs_cons (pg_name (i := 8) scStep.nd rfl (Or.inl rfl)) (pgs_cons (pg_tup rfl (pgs_cons (pg_name (i := 9) scStep.nd rfl (Or.inl rfl)) (pgs_cons (pg_name (i := 10) scStep.nd rfl (Or.inl rfl)) (pgs_cons (pg_name (i := 11) scStep.nd rfl (Or.inl rfl)) pgs_nil)))) pgs_nil)))
          (pss_one (ps_if (pt_cmp (pc_din hu (pe_tup (pa_cons (pe_lower (pv 6)) (pa_cons (pe_lower (pv 10)) pa_nil))) (pv 1)))
            (pss_one (ps_cut (ps_if (PW.pt (pw_and (pt_val (pe_m0 PySem.F.slot_str_islower PySem.F.type_str_islower mt_islower (pv 6))) (pw_and1 (pt_val (pe_m0 PySem.F.slot_str_islower PySem.F.type_str_islower mt_islower (pv 10))))))
              (pss_one (ps_expr (pe_bm PySem.F.plainAttrs_list PySem.F.slot_list_append PySem.F.type_list_append mt_append (pv 3) (pa_cons (pe_tup (pa_cons (pv 7) (pa_cons (pv 11) (pa_cons (pv 4) (pa_cons (pv 8) pa_nil))))) pa_nil))))
              (pss_one (ps_if (PW.pt (pw_and (pt_val (pe_m0 PySem.F.slot_str_isupper PySem.F.type_str_isupper mt_isupper (pv 6))) (pw_and1 (pt_val (pe_m0 PySem.F.slot_str_isupper PySem.F.type_str_isupper mt_isupper (pv 10))))))
                (pss_one (ps_expr (pe_bm PySem.F.plainAttrs_list PySem.F.slot_list_append PySem.F.type_list_append mt_append (pv 3) (pa_cons (pe_tup (pa_cons (pv 11) (pa_cons (pv 7) (pa_cons (pv 8) (pa_cons (pv 4) pa_nil))))) pa_nil))))
                (pss_one (ps_if (pt_val (pe_m0 PySem.F.slot_str_islower PySem.F.type_str_islower mt_islower (pv 6)))
                  (pss_one (ps_expr (pe_bm PySem.F.plainAttrs_list PySem.F.slot_list_append PySem.F.type_list_append mt_append (pv 3) (pa_cons (pe_tup (pa_cons (pv 7) (pa_cons (pv 8) (pa_cons (pv 4) (pa_cons (pv 11) pa_nil))))) pa_nil))))
                  (pss_one (ps_expr (pe_bm PySem.F.plainAttrs_list PySem.F.slot_list_append PySem.F.type_list_append mt_append (pv 3) (pa_cons (pe_tup (pa_cons (pv 8) (pa_cons (pv 7) (pa_cons (pv 11) (pa_cons (pv 4) pa_nil))))) pa_nil)))))))))))
            pss_nil)))))
      (pss_one (ps_ret (pe_lc (own := [("rule", 14)]) rfl scStep.nd (pi_list (pv 3)) (blkOk_by (own := [("rule", 14)]) (N := NStep) (sc := defScope s_step_rules) (by decide +kernel)) (fun _ _ _ _ _ => pg_name (i := 14) scStep.nd rfl (Or.inl rfl))
        (fun _ _ _ _ _ => pts_one (pt_cmpR (r := rNeD K) (op_neD hu64) (pe_slice (r := rSlT K) sl_tup (pv 14) po_none (po_some pe_int)) (pe_slice (r := rSlT K) sl_tup (pv 14) (po_some pe_int) po_none) (nomark _))) (fun _ _ _ _ _ => pv 14)))))), ?_⟩
    have l0 : ts.length = ls.length + 1 := by rw [ht.len, List.length_cons, List.length_map]
    refine ⟨_, rfl, a, _, rfl, SqL.of ha, fun D hD => lc_it (walk_enum (xs := ts.map V.ref)) (fun i H' => Same H H' ∧ ∃ us : List Addr, H' D = some (.lst (us.map V.ref)) ∧ Tps aV H' us (stepsL ts (i - 1))) ⟨same_new hD, [], upd_same, Tps.nil⟩ (fun i H' _ h => SqL.of (h.1 _ _ ha)) ?_ ?_⟩
    · rintro i x H1 H2 hi ⟨s1, us, hus, hts⟩ ⟨T, x1, y1, rfl, hT, rfl, e1, e2⟩
      cases e1
      obtain ⟨t, en, rfl, ht1, hen, htup⟩ := (ht.of_same s1).get e2
      rw [List.length_map, l0] at hi
      have s2 := same_new (o := .tup [V.int ((i : Nat) : Int), V.ref t]) hT
      refine ⟨T, _, rfl, SqT.of upd_same, rfl, _, _, rfl, _, _, rfl, rfl, ?_⟩
      have hus2 := s2 _ _ hus
      have hts2 := hts.of_same s2
      have htup2 := s2 _ _ htup
      have s12 := s1.trans s2
      generalize upd H1 T (.tup [V.int ((i : Nat) : Int), V.ref t]) = H2 at hus2 hts2 htup2 s12
      refine ⟨rfl, ?_⟩
      cases i with
      | zero =>
        cases hen
        refine ⟨_, rfl, t, _, 0, _, rfl, rfl, SqT.of htup2, rfl, rfl, _, rfl, ?_⟩
        have e5 : decide (V.str ("begin" : Str) = V.str ("step" : Str)) = false := by decide +kernel
        rw [e5]
        refine iteF ?_
        exact ⟨s12, us, hus2, hts2⟩
      | succ k =>
        rw [List.getElem?_cons_succ, List.getElem?_map] at hen
        obtain ⟨cj, hcj, rfl⟩ := Option.map_eq_some_iff.mp hen
        refine ⟨_, rfl, t, _, 0, _, rfl, rfl, SqT.of htup2, rfl, rfl, _, rfl, ?_⟩
        rw [decide_eq_true (show V.str ("step" : Str) = V.str ("step" : Str) from rfl)]
        refine iteT ?_
        refine ⟨_, rfl, _, rfl, by show 2 ≤ sizeLine; decide, fun p hp => ?_⟩
        have nD : D ≠ p := fun z => by rw [← z, hus2] at hp; cases hp
        have hus3 : ∀ z, (upd H2 p z) D = some (.lst (us.map V.ref)) := fun z => by rw [upd_ne nD]; exact hus2
        refine ⟨_, hus3 _, by rw [List.length_map, hts2.len, stepsL_length]; exact small1000 (by omega), same_upd (s12.trans (same_new hp)) hD, us ++ [p], by rw [upd_same, List.map_append]; rfl, ?_⟩
        have e6 : ts.getD (k + 1) 0 = t := by rw [List.getD_eq_getElem?_getD, ht1]; rfl
        show Tps aV _ (us ++ [p]) (stepsL ts k ++ [(k + 1, ts.getD (k + 1) 0)])
        rw [e6]
        refine ((hts2.new hp).lst (hus3 _)).snoc ?_
        rw [upd_ne (Ne.symm nD), upd_same]
        rfl
    · rintro H1 ⟨s1, us, hus, hts⟩
      rw [List.length_map, l0, Nat.add_sub_cancel] at hts
      refine ⟨Nat.zero_le _, fun p hp => ⟨_, _, rfl, ?_⟩⟩
      have hD1 := (same_new (o := .lst []) hp) _ _ hus
      -- what stands through the loops
      refine ⟨_, rfl, D, rfl, ⟨_, SqL.of hD1⟩, for_list (K := K) (a := D) (xs := us.map V.ref) (fun n σ H' => ∃ (v4 v5 v6 v7 v8 v9 v10 v11 : Option V) (ps : List Addr) (qs : List Quad), σ = [some (.ref a), some (.ref d), some (.ref D), some (.ref p), v4, v5, v6, v7, v8, v9, v10, v11, none, none, none] ∧
          Same H1 H' ∧ H' p = some (.lst (ps.map V.ref)) ∧ Tps qV H' ps qs ∧ Part ls qs n 0)
        ⟨none, none, none, none, none, none, none, none, [], [], rfl, same_new hp, upd_same, Tps.nil, (fun q hq => by cases hq), (fun n' _ _ m' _ _ _ _ _ h => by omega), Nat.zero_le _⟩ (fun n σ H' _ ⟨_, _, _, _, _, _, _, _, _, _, _, s', _⟩ => SqL.of (s' _ _ hus)) ?_ ?_⟩
      · rintro n x σ H2 hx ⟨v4, v5, v6, v7, v8, v9, v10, v11, ps, qs, rfl, s2, hps, hqs, pt⟩
        obtain ⟨t1, ent, rfl, ht1, hent, htup1⟩ := (hts.of_same s2).get hx
        have hn : n < ls.length := by rw [← stepsL_length ts ls.length]; exact (List.getElem?_eq_some_iff.mp hent).1
        rw [stepsL_get ts _ n hn] at hent
        cases hent
        have e1 : ts[n + 1]? = some (ts.getD (n + 1) 0) := by rw [List.getD_eq_getElem?_getD, List.getElem?_eq_getElem (by omega)]; rfl
        have e2 : ls[n]? = some ls[n] := List.getElem?_eq_getElem hn
        generalize hci : ls[n] = ci at e2
        obtain ⟨c, i⟩ := ci
        have e3 := ht.at_ (n + 1) _ (some (c, i)) e1 (by rw [List.getElem?_cons_succ, List.getElem?_map, e2]; rfl)
        have hc := hstp (c, i) (List.mem_of_getElem? e2)
        have e3' := s2 _ _ (s1 _ _ e3)
        refine ⟨t1, _, rfl, SqT.of htup1, rfl, _, _, rfl, _, _, rfl, ⟨_, _, rfl, SqT.of e3', rfl, _, _, rfl, _, _, rfl, _, _, rfl, rfl, rfl, ?_⟩⟩
        refine ⟨_, rfl, D, rfl, ⟨_, SqL.of (s2 _ _ hus)⟩, for_list (K := K) (a := D) (xs := us.map V.ref) (fun m σ H' => ∃ (v8 v9 v10 v11 : Option V) (ps : List Addr) (qs : List Quad), σ = [some (.ref a), some (.ref d), some (.ref D), some (.ref p), some (.int ((n + 1 : Nat) : Int)), some (.str "step"), some (sV [c]), some (.int (i : Int)), v8, v9, v10, v11, none, none, none] ∧
            Same H1 H' ∧ H' p = some (.lst (ps.map V.ref)) ∧ Tps qV H' ps qs ∧ Part ls qs n m)
          ⟨v8, v9, v10, v11, ps, qs, rfl, s2, hps, hqs, pt⟩ (fun n σ H' _ ⟨_, _, _, _, _, _, _, s', _⟩ => SqL.of (s' _ _ hus)) ?_ ?_⟩
        · rintro m x σ H3 hx ⟨v8, v9, v10, v11, ps, qs, rfl, s3, hps, hqs, pt⟩
          obtain ⟨t2, ent, rfl, ht2, hent, htup2⟩ := (hts.of_same s3).get hx
          have hm : m < ls.length := by rw [← stepsL_length ts ls.length]; exact (List.getElem?_eq_some_iff.mp hent).1
          rw [stepsL_get ts _ m hm] at hent
          cases hent
          have f1 : ts[m + 1]? = some (ts.getD (m + 1) 0) := by rw [List.getD_eq_getElem?_getD, List.getElem?_eq_getElem (by omega)]; rfl
          have f2 : ls[m]? = some ls[m] := List.getElem?_eq_getElem hm
          generalize hdj : ls[m] = dj at f2
          obtain ⟨dd, j⟩ := dj
          have f3 := ht.at_ (m + 1) _ (some (dd, j)) f1 (by rw [List.getElem?_cons_succ, List.getElem?_map, f2]; rfl)
          have hdd := hstp (dd, j) (List.mem_of_getElem? f2)
          have f3' := s3 _ _ (s1 _ _ f3)
          refine ⟨t2, _, rfl, SqT.of htup2, rfl, _, _, rfl, _, _, rfl, ⟨_, _, rfl, SqT.of f3', rfl, _, _, rfl, _, _, rfl, _, _, rfl, rfl, rfl, ?_⟩⟩
          -- (one.lower(), two.lower()) in slower
          refine ⟨_, rfl, ⟨_, rfl⟩, _, rfl, rfl, by rw [tx_length]; show 1 ≤ 5592405; decide, _, rfl, ⟨_, rfl⟩, _, rfl, rfl, by rw [tx_length]; show 1 ≤ 5592405; decide, by show 2 ≤ sizeLine; decide, fun p4 hp4 => ?_⟩
          rw [low_stp hc, low_stp hdd]
          have s4 := same_new (o := .tup [sV [lo c], sV [lo dd]]) hp4
          refine ⟨_, rfl, d, _, rfl, DGet.t (k := [Sum.inr (tx [lo c]), Sum.inr (tx [lo dd])]) (s4 _ _ (s3 _ _ (s1 _ _ hd))) upd_same, _, rfl, ?_⟩
          rw [lo_tx hc hdd]
          have hps4 := s4 _ _ hps
          have hqs4 := hqs.of_same s4
          have s14 := s3.trans s4
          generalize upd H3 p4 (.tup [sV [lo c], sV [lo dd]]) = H4 at hps4 hqs4 s14
          by_cases hlo : lo c = lo dd
          · rw [if_pos hlo]
            refine iteT ?_
            -- found.append(..)
            have fin : ∀ (pq : Addr) (qd : Quad), qd = rule c i (n + 1) dd j (m + 1) → H4 pq = none → ∃ (v8 v9 v10 v11 : Option V) (ps' : List Addr) (qs' : List Quad), ([some (.ref a), some (.ref d), some (.ref D), some (.ref p), some (.int ((n + 1 : Nat) : Int)), some (.str "step"), some (sV [c]), some (.int (i : Int)), some (.int ((m + 1 : Nat) : Int)), some (.str "step"), some (sV [dd]), some (.int (j : Int)), none, none, none] : List (Option V)) =
                [some (.ref a), some (.ref d), some (.ref D), some (.ref p), some (.int ((n + 1 : Nat) : Int)), some (.str "step"), some (sV [c]), some (.int (i : Int)), v8, v9, v10, v11, none, none, none] ∧
                Same H1 (upd (upd H4 pq (.tup (qV qd))) p (.lst (ps.map V.ref ++ [V.ref pq]))) ∧ (upd (upd H4 pq (.tup (qV qd))) p (.lst (ps.map V.ref ++ [V.ref pq]))) p = some (.lst (ps'.map V.ref)) ∧ Tps qV (upd (upd H4 pq (.tup (qV qd))) p (.lst (ps.map V.ref ++ [V.ref pq]))) ps' qs' ∧ Part ls qs' n (m + 1) := by
              intro pq qd eq hpq
              have np : p ≠ pq := fun z => by rw [← z, hps4] at hpq; cases hpq
              refine ⟨_, _, _, _, ps ++ [pq], qs ++ [qd], rfl, same_upd (s14.trans (same_new hpq)) hp, by rw [upd_same, List.map_append]; rfl, ?_, by rw [eq]; exact pt.add e2 f2 hlo⟩
              refine ((hqs4.new hpq).lst (l := ps.map V.ref) (by rw [upd_ne np]; exact hps4)).snoc ?_
              rw [upd_ne (Ne.symm np), upd_same]
            have room : (ps.map V.ref).length < sizeLine := by
              have h1 := pt.len
              have h2 : n * ls.length ≤ 8 * 8 := Nat.mul_le_mul (by omega) hlen
              rw [List.length_map, hqs4.len]
              exact small1000 (by omega)
            refine ⟨fun σ' H' => ∃ (v8 v9 v10 v11 : Option V) (ps : List Addr) (qs : List Quad), σ' = [some (.ref a), some (.ref d), some (.ref D), some (.ref p), some (.int ((n + 1 : Nat) : Int)), some (.str "step"), some (sV [c]), some (.int (i : Int)), v8, v9, v10, v11, none, none, none] ∧
              Same H1 H' ∧ H' p = some (.lst (ps.map V.ref)) ∧ Tps qV H' ps qs ∧ Part ls qs n (m + 1), ?_, fun _ _ z => z⟩
            have lst4 : ∀ {pq : Addr} {z : HO}, H4 pq = none → (upd H4 pq z) p = some (.lst (ps.map V.ref)) := fun {pq z} hpq => by
              rw [upd_ne (fun e => by rw [← e, hps4] at hpq; cases hpq)]
              exact hps4
            cases hF : isF c with
            | true =>
              refine ⟨_, rfl, ⟨_, rfl⟩, _, rfl, rfl, trivial, _, rfl, ?_⟩
              rw [isl_stp hc, hF]
              refine iteT ?_
              refine ⟨_, rfl, ⟨_, rfl⟩, _, rfl, rfl, trivial, _, rfl, ?_⟩
              rw [isl_stp hdd]
              cases hG : isF dd with
              | true =>
                refine iteT ?_
                refine ⟨_, rfl, .inl ⟨rfl, _, SqL.of hps4⟩, _, rfl, _, rfl, _, rfl, _, rfl, by show 4 ≤ sizeLine; decide, fun pq hpq => ⟨p, _, _, rfl, rfl, lst4 hpq, room, ?_⟩⟩
                exact fin pq (i, j, n + 1, m + 1) (by unfold rule; rw [hF, hG]; rfl) hpq
              | false =>
                refine iteF ?_
                refine ⟨_, rfl, ⟨_, rfl⟩, _, rfl, rfl, trivial, _, rfl, ?_⟩
                rw [isu_stp hc, hF]
                refine iteF (iteF ?_)
                refine ⟨_, rfl, ⟨_, rfl⟩, _, rfl, rfl, trivial, _, rfl, ?_⟩
                rw [isl_stp hc, hF]
                refine iteT ?_
                refine ⟨_, rfl, .inl ⟨rfl, _, SqL.of hps4⟩, _, rfl, _, rfl, _, rfl, _, rfl, by show 4 ≤ sizeLine; decide, fun pq hpq => ⟨p, _, _, rfl, rfl, lst4 hpq, room, ?_⟩⟩
                exact fin pq (i, m + 1, n + 1, j) (by unfold rule; rw [hF, hG]; rfl) hpq
            | false =>
              refine ⟨_, rfl, ⟨_, rfl⟩, _, rfl, rfl, trivial, _, rfl, ?_⟩
              rw [isl_stp hc, hF]
              refine iteF (iteF ?_)
              refine ⟨_, rfl, ⟨_, rfl⟩, _, rfl, rfl, trivial, _, rfl, ?_⟩
              rw [isu_stp hc, hF]
              refine iteT ?_
              refine ⟨_, rfl, ⟨_, rfl⟩, _, rfl, rfl, trivial, _, rfl, ?_⟩
              rw [isu_stp hdd]
              cases hG : isF dd with
              | false =>
                refine iteT ?_
                refine ⟨_, rfl, .inl ⟨rfl, _, SqL.of hps4⟩, _, rfl, _, rfl, _, rfl, _, rfl, by show 4 ≤ sizeLine; decide, fun pq hpq => ⟨p, _, _, rfl, rfl, lst4 hpq, room, ?_⟩⟩
                exact fin pq (j, i, m + 1, n + 1) (by unfold rule; rw [hF, hG]; rfl) hpq
              | true =>
                refine iteF ?_
                refine ⟨_, rfl, ⟨_, rfl⟩, _, rfl, rfl, trivial, _, rfl, ?_⟩
                rw [isl_stp hc, hF]
                refine iteF ?_
                refine ⟨_, rfl, .inl ⟨rfl, _, SqL.of hps4⟩, _, rfl, _, rfl, _, rfl, _, rfl, by show 4 ≤ sizeLine; decide, fun pq hpq => ⟨p, _, _, rfl, rfl, lst4 hpq, room, ?_⟩⟩
                exact fin pq (m + 1, i, j, n + 1) (by unfold rule; rw [hF, hG]; rfl) hpq
          · rw [if_neg hlo]
            refine iteF ?_
            exact ⟨_, _, _, _, ps, qs, rfl, s14, hps4, hqs4, pt.skip e2 f2 hlo⟩
        · rintro σ H3 ⟨v8, v9, v10, v11, ps, qs, rfl, s3, hps, hqs, pt⟩
          rw [List.length_map, hts.len, stepsL_length] at pt
          exact ⟨_, _, _, _, _, _, _, _, ps, qs, rfl, s3, hps, hqs, pt.next⟩
      · rintro σ H2 ⟨v4, v5, v6, v7, v8, v9, v10, v11, ps, qs, rfl, s2, hps, hqs, pt⟩
        rw [List.length_map, hts.len, stepsL_length] at pt
        have ql : qs.length ≤ 64 := by
          have h1 := pt.len
          have h2 : ls.length * ls.length ≤ 8 * 8 := Nat.mul_le_mul hlen hlen
          omega
        refine ⟨_, rfl, p, rfl, ⟨_, SqL.of hps⟩, fun E0 hE0 => lc_list (K := K) (a := p) (xs := ps.map V.ref) (fun k H' => Same H2 H' ∧ ∃ (us : List Addr) (rs : List Quad), H' E0 = some (.lst (us.map V.ref)) ∧ Tps qV H' us rs ∧ rs.length ≤ k ∧ (∀ r ∈ rs, r ∈ qs) ∧ ∀ (k' : Nat) (r : Quad), k' < k → qs[k']? = some r → r ∈ rs ∨ (r.1 = r.2.2.1 ∧ r.2.1 = r.2.2.2))
          ⟨same_new hE0, [], [], upd_same, Tps.nil, Nat.le_refl _, (fun r hr => by cases hr), fun k' r h => absurd h (Nat.not_lt_zero _)⟩ (fun k H' _ h => SqL.of (h.1 _ _ hps)) ?_ ?_⟩
        · rintro k x H3 hx ⟨s3, us3, rs, hus3, hrs, hk, hin, hall⟩
          obtain ⟨t, qd, rfl, ht3, hqk, htup⟩ := (hqs.of_same s3).get hx
          have hkl : k < qs.length := (List.getElem?_eq_some_iff.mp hqk).1
          refine ⟨rfl, ?_⟩
          refine ⟨.ref t, rfl, _, rfl, t, qV qd, rfl, SqT.of htup, by show ¬ (HT.sIx 4 0 none = 0 ∧ HT.sIx 4 4 (some 2) = 4); decide, fun p5 hp5 => ?_⟩
          have s5 := same_new (o := .tup (cutV (qV qd) none (some 2))) hp5
          refine ⟨.ref t, rfl, _, rfl, t, qV qd, rfl, SqT.of (s5 _ _ htup), by show ¬ (HT.sIx 4 0 (some 2) = 0 ∧ HT.sIx 4 4 none = 4); decide, fun p6 hp6 => ?_⟩
          have s6 := same_new (o := .tup (cutV (qV qd) (some 2) none)) hp6
          have t5 := s6 _ _ (upd_same (H := H3) (a := p5) (o := .tup (cutV (qV qd) none (some 2))))
          have t6 := upd_same (H := upd H3 p5 (.tup (cutV (qV qd) none (some 2)))) (a := p6) (o := .tup (cutV (qV qd) (some 2) none))
          have us6 := s6 _ _ (s5 _ _ hus3)
          have rs6 := hrs.of_same (s5.trans s6)
          have s36 := s3.trans (s5.trans s6)
          have c1 : cutV (qV qd) none (some 2) = [((qd.1 : Nat) : Int), ((qd.2.1 : Nat) : Int)].map V.int := rfl
          have c2 : cutV (qV qd) (some 2) none = [((qd.2.2.1 : Nat) : Int), ((qd.2.2.2 : Nat) : Int)].map V.int := rfl
          rw [c1, c2] at t5 t6 us6 rs6 s36 ⊢
          refine ⟨_, _, .tup (SqT.of t5) (dp_pI _), .tup (SqT.of t6) (dp_pI _), shaped_TI _, shaped_TI _, _, rfl, ?_⟩
          have e5 : (!PyData.eqv (.tuple (pI [((qd.1 : Nat) : Int), ((qd.2.1 : Nat) : Int)])) (.tuple (pI [((qd.2.2.1 : Nat) : Int), ((qd.2.2.2 : Nat) : Int)]))) = !decide (qd.1 = qd.2.2.1 ∧ qd.2.1 = qd.2.2.2) := by
            rw [PyData.eqv, eqv_pI]
            congr 1
            apply decide_eq_decide.mpr
            simp
            omega
          rw [e5]
          generalize upd (upd H3 p5 (.tup ([((qd.1 : Nat) : Int), ((qd.2.1 : Nat) : Int)].map V.int))) p6 (.tup ([((qd.2.2.1 : Nat) : Int), ((qd.2.2.2 : Nat) : Int)].map V.int)) = H6 at t5 t6 us6 rs6 s36
          by_cases htr : qd.1 = qd.2.2.1 ∧ qd.2.1 = qd.2.2.2
          · rw [decide_eq_true htr]
            refine iteF ?_
            refine ⟨s36, us3, rs, us6, rs6, by omega, hin, fun k' r hk' hr' => ?_⟩
            by_cases e6 : k' < k
            · exact hall k' r e6 hr'
            · have e7 : k' = k := by omega
              rw [e7, hqk] at hr'
              cases hr'
              exact .inr htr
          · rw [decide_eq_false htr]
            refine iteT ?_
            refine ⟨_, rfl, _, us6, by rw [List.length_map, rs6.len]; exact small1000 (by omega), same_upd s36 hE0, us3 ++ [t], rs ++ [qd], by rw [upd_same, List.map_append]; rfl, ?_, by rw [List.length_append, List.length_singleton]; omega, fun r hr => ?_, fun k' r hk' hr' => ?_⟩
            · refine (rs6.lst us6).snoc ?_
              rw [upd_ne (fun z => by have := s36 _ _ ((hqs.at_ k t qd ht3 hqk)); rw [z, us6] at this; cases this)]
              exact s36 _ _ (hqs.at_ k t qd ht3 hqk)
            · rcases List.mem_append.mp hr with hr | hr
              · exact hin r hr
              · rw [List.mem_singleton] at hr
                rw [hr]
                exact List.mem_of_getElem? hqk
            · by_cases e6 : k' < k
              · rcases hall k' r e6 hr' with z | z
                · exact .inl (List.mem_append_left _ z)
                · exact .inr z
              · have e7 : k' = k := by omega
                rw [e7, hqk] at hr'
                cases hr'
                exact .inl (List.mem_append_right _ (List.mem_singleton.mpr rfl))
        · rintro H3 ⟨s3, us3, rs, hus3, hrs, hk, hin, hall⟩
          rw [List.length_map, hqs.len] at hk hall
          refine q H3 E0 us3 rs (s1.trans (s2.trans s3)) hus3 hrs ⟨fun r hr => pt.snd r (hin r hr), fun n c i m d j h1 h2 h3 => ?_, by omega⟩
          have := pt.cmp n c i m d j h1 h2 h3 (.inl (List.getElem?_eq_some_iff.mp h1).1)
          obtain ⟨k', hk'⟩ := List.mem_iff_getElem?.mp this
          exact hall k' _ (List.getElem?_eq_some_iff.mp hk').1 hk'
end
end K54
namespace K54
open PySem PySem.Spec PyProof.Rows L2
/-! ### the values of rows -/
def tot (rs : List (List Nat)) : Nat := (rs.map List.length).sum
theorem layRows_length : ∀ (rs : List (List Nat)) (L : Nat), (layRows rs L).length = tot rs
  | [], _ => rfl
  | r :: rs, L => by
    unfold layRows tot
    rw [List.length_append, layRow_length, layRows_length rs, List.map_cons, List.sum_cons]
    rfl
theorem layRows_snoc : ∀ (rs : List (List Nat)) (r : List Nat) (L : Nat), layRows (rs ++ [r]) L = layRows rs L ++ layRow r 0 (L + tot rs)
  | [], r, L => by simp [layRows, tot]
  | q :: rs, r, L => by
    show layRow q 0 L ++ layRows (rs ++ [r]) (L + q.length) = (layRow q 0 L ++ layRows rs (L + q.length)) ++ _
    rw [layRows_snoc rs r, List.append_assoc]
    congr 3
    unfold tot
    rw [List.map_cons, List.sum_cons]
    omega
theorem endRows_snoc : ∀ (rs : List (List Nat)) (r : List Nat) (L : Nat), endRows (rs ++ [r]) L = endRows rs L ++ [endRow r 0 (L + tot rs)]
  | [], r, L => by simp [endRows, tot]
  | q :: rs, r, L => by
    show endRow q 0 L :: endRows (rs ++ [r]) (L + q.length) = (endRow q 0 L :: endRows rs (L + q.length)) ++ _
    rw [endRows_snoc rs r, List.cons_append]
    congr 3
    unfold tot
    rw [List.map_cons, List.sum_cons]
    congr 1
    omega
theorem endRows_length : ∀ (rs : List (List Nat)) (L : Nat), (endRows rs L).length = rs.length
  | [], _ => rfl
  | r :: rs, L => by unfold endRows; rw [List.length_cons, endRows_length rs, List.length_cons]
theorem endRow_lt : ∀ (r : List Nat) (s L : Nat), s < L → endRow r s L < L + r.length ∨ endRow r s L = s
  | [], _, _, _ => .inr rfl
  | c :: r, s, L, h => by
    have := endRow_lt r L (L + 1) (by omega)
    show endRow r L (L + 1) < L + (r.length + 1) ∨ endRow r L (L + 1) = s
    omega
theorem endRows_lt : ∀ (rs : List (List Nat)) (L : Nat), 0 < L → ∀ e ∈ endRows rs L, e < L + tot rs
  | [], _, _, e, h => by cases h
  | r :: rs, L, hL, e, h => by
    have et : tot (r :: rs) = r.length + tot rs := by unfold tot; rw [List.map_cons, List.sum_cons]
    rw [et]
    unfold endRows at h
    rcases List.mem_cons.mp h with rfl | h
    · have := endRow_lt r 0 L hL
      omega
    · have := endRows_lt rs (L + r.length) (by omega) e h
      omega
theorem layRow_stp : ∀ (r : List Nat) (s L : Nat), RowOk r → ∀ x ∈ layRow r s L, isStp x.1 = true
  | [], _, _, _, x, h => by cases h
  | c :: r, s, L, hr, x, h => by
    unfold layRow at h
    rcases List.mem_cons.mp h with rfl | h
    · exact hr c (List.mem_cons_self ..)
    · exact layRow_stp r L (L + 1) (fun y hy => hr y (List.mem_cons_of_mem _ hy)) x h
theorem layRows_stp : ∀ (rs : List (List Nat)) (L : Nat), (∀ r ∈ rs, RowOk r) → ∀ x ∈ layRows rs L, isStp x.1 = true
  | [], _, _, x, h => by cases h
  | r :: rs, L, hr, x, h => by
    unfold layRows at h
    rcases List.mem_append.mp h with h | h
    · exact layRow_stp r 0 L (hr r (List.mem_cons_self ..)) x h
    · exact layRows_stp rs _ (fun y hy => hr y (List.mem_cons_of_mem _ hy)) x h
theorem tot_take (rs : List (List Nat)) (i : Nat) : tot (rs.take i) ≤ tot rs := by
  have e : tot (rs.take i ++ rs.drop i) = tot (rs.take i) + tot (rs.drop i) := by unfold tot; rw [List.map_append, List.sum_append]
  rw [List.take_append_drop] at e
  omega
/-- a list of rows that orders takes -/
structure RowsOk (rs : List (List Nat)) : Prop where
  ok : ∀ r ∈ rs, RowOk r
  tot : tot rs ≤ 8
  pos : 1 ≤ rs.length
  len : rs.length ≤ 4
def spValues : Sp := fun vs H Q _ => ∃ (a : Addr) (rs : List (List Nat)), vs = [.ref a] ∧ H a = some (.lst (rs.map sV)) ∧ RowsOk rs ∧
  ∀ H' p Fd En ts, Same H H' → H' p = some (.tup [.ref Fd, .ref En]) → H' Fd = some (.lst (ts.map V.ref)) → Tps lV H' ts (none :: (layRows rs 1).map some) → H' En = some (.lst (NL (endRows rs 1))) → Q (.ref p) H'
/-- a step forth leads on, a step back back -/
def Mono (ls : List (Nat × Nat)) (v : Nat → Int) : Prop := ∀ n c i, ls[n]? = some (c, i) → if isF c then v i ≤ v (n + 1) else v (n + 1) ≤ v i
def spKnown (C : Addr) : Sp := fun vs H Q _ => ∃ (a : Addr) (ts : List Addr) (ls : List (Nat × Nat)), vs = [.ref a] ∧ H a = some (.lst (ts.map V.ref)) ∧ Tps lV H ts (none :: ls.map some) ∧ (∀ x ∈ ls, isStp x.1 = true) ∧ Down ls ∧ ls.length ≤ 8 ∧
  ∀ H' o qs t, Same H H' → Giv C H' o qs t (ls.length + 1) → RulesOf ls qs → (Contr (ls.length + 1) t ∨ Closed (ls.length + 1) qs t) → (∀ v, Keep qs v → Mono ls v → t.Has v) → (∀ v, t.Has v → Mono ls v) → Q (.ref o.p) H'
/-- at first -/
def kn0 (n : Nat) : Kn := ⟨(List.range n).map (2 ^ ·), List.replicate n 0⟩
theorem kn0_up {n i j : Nat} : bt (kn0 n).up i j = true ↔ i < n ∧ i = j := by
  unfold bt kn0
  rw [List.getD_eq_getElem?_getD]
  by_cases h : i < n
  · rw [List.getElem?_map, List.getElem?_range h]
    show (2 ^ i).testBit j = true ↔ _
    rw [Nat.testBit_two_pow, decide_eq_true_eq]
    exact ⟨fun e => ⟨h, e⟩, fun e => e.2⟩
  · rw [List.getElem?_eq_none (by simp; omega)]
    simp [h]
theorem kn0_be {n i j : Nat} : bt (kn0 n).be i j = false := by
  unfold bt kn0
  rw [List.getD_eq_getElem?_getD]
  by_cases h : i < n
  · rw [List.getElem?_replicate, if_pos h]
    simp
  · rw [List.getElem?_eq_none (by simp; omega)]
    simp
theorem kn0_wf (n : Nat) : (kn0 n).Wf n := by
  refine ⟨⟨by simp [kn0], fun x hx => ?_⟩, ⟨by simp [kn0], fun x hx => ?_⟩, fun i j h => ?_, fun i h => kn0_up.mpr ⟨h, rfl⟩⟩
  · obtain ⟨i, hi, rfl⟩ := List.mem_map.mp hx
    exact Nat.pow_lt_pow_right (by decide) (List.mem_range.mp hi)
  · rw [List.eq_of_mem_replicate hx]
    exact Nat.two_pow_pos n
  · rw [kn0_be] at h
    cases h
theorem kn0_has (n : Nat) (v : Nat → Int) : (kn0 n).Has v := ⟨fun i j h => by
  obtain ⟨_, rfl⟩ := kn0_up.mp h
  exact Int.le_refl _, fun i j h => by rw [kn0_be] at h; cases h⟩
theorem rules_in {ls : List (Nat × Nat)} {qs : List Quad} (h : RulesOf ls qs) (hd : Down ls) : ∀ q ∈ qs, QIn (ls.length + 1) q := by
  intro q hq
  obtain ⟨n, c, i, m, d, j, h1, h2, _, rfl⟩ := h.snd q hq
  have a1 := hd n c i h1
  have a2 := hd m d j h2
  have b1 := (List.getElem?_eq_some_iff.mp h1).1
  have b2 := (List.getElem?_eq_some_iff.mp h2).1
  unfold rule QIn
  cases isF c <;> cases isF d <;> refine ⟨?_, ?_, ?_, ?_⟩ <;> simp <;> omega
theorem sat_iff {ls : List (Nat × Nat)} {qs : List Quad} (h : RulesOf ls qs) (v : Nat → Int) : Sat ls v ↔ Mono ls v ∧ Keep qs v := by
  constructor
  · rintro ⟨h1, h2⟩
    refine ⟨h1, fun q hq => ?_⟩
    obtain ⟨n, c, i, m, d, j, e1, e2, e3, rfl⟩ := h.snd q hq
    exact h2 n c i m d j e1 e2 e3
  · rintro ⟨h1, h2⟩
    refine ⟨h1, fun n c i m d j e1 e2 e3 => ?_⟩
    rcases h.cmp n c i m d j e1 e2 e3 with z | ⟨z1, z2⟩
    · exact h2 _ z
    · unfold Keeps
      rw [z1, z2]
      exact id
section
variable {P : Program} {w : World} {K : PySem.W.Frag} {mg : Str → Option Value} {base : Heap} {C f : Addr} {fd : FuncData}
abbrev NValues : List Str := ["rows", "found", "ends", "row"]
theorem scValues : FnScope NValues ["rows"] (defScope s_values_of) := ⟨rfl, rfl, rfl, by decide +kernel, rfl, by decide +kernel, by decide +kernel⟩
theorem ok_values (DR : Df P w K mg base "row_values" 1 ["row", "start", "found"] spRowV) (F : FnP K "values_of" s_values_of f fd) : FnOk P w K mg base CX0 2 f fd ["rows"] spValues := by
  refine F.ok scValues (fun vs H Q E h => ?_) (fun cdv A outer s H vs Q E hr h => ?_)
  · obtain ⟨a, rs, rfl, _⟩ := h
    rfl
  · obtain ⟨a, rs, rfl, ha, ok, q⟩ := h
    refine ⟨_, PSs.nox (pss_cons (ps_set (i := 1) scValues.nd rfl (Or.inr rfl) (pe_lst (pa_cons (pe_tup (pa_cons pe_str pa_nil)) pa_nil)))
      (pss_cons (ps_setLc (i := 2) (own := [("row", 3)]) rfl scValues.nd rfl rfl (sw_true rfl rfl rfl (by decide +kernel)) (pi_list (pv 0)) (blkOk_by (own := [("row", 3)]) (N := NValues) (sc := defScope s_values_of) (by decide +kernel))
        (fun _ _ _ _ _ => pg_name (i := 3) scValues.nd rfl (Or.inl rfl)) (fun _ _ _ _ _ => pts_nil) (fun _ _ _ _ _ => pe_callD DR hr rfl (pa_cons (pv 3) (pa_cons pe_int (pa_cons (pv 1) pa_nil)))))
      (pss_one (ps_ret (pe_tup (pa_cons (pv 1) (pa_cons (pv 2) pa_nil))))))), ?_⟩
    refine ⟨by show 1 ≤ sizeLine; decide, fun p0 hp0 => ⟨by show 1 ≤ sizeLine; decide, fun Fd hF => ?_⟩⟩
    have s1 : Same H (upd (upd H p0 (.tup [.str "begin"])) Fd (.lst [.ref p0])) := (same_new hp0).trans (same_new hF)
    have t1 : Tps lV (upd (upd H p0 (.tup [.str "begin"])) Fd (.lst [.ref p0])) [p0] [none] := ⟨rfl, fun k t x h1 h2 => by
      cases k with
      | zero =>
        cases h1
        cases h2
        exact (same_new hF) _ _ upd_same
      | succ k => cases h1⟩
    have f1 : (upd (upd H p0 (.tup [.str "begin"])) Fd (.lst [.ref p0])) Fd = some (.lst [.ref p0]) := upd_same
    have fr : H Fd = none := (same_new (o := .tup [.str "begin"]) hp0).free hF
    generalize upd (upd H p0 (.tup [.str "begin"])) Fd (.lst [.ref p0]) = H1 at s1 t1 f1
    refine ⟨_, rfl, a, rfl, ⟨_, SqL.of (s1 _ _ ha)⟩, fun D hD => ?_⟩
    have nFD : Fd ≠ D := fun z => by rw [← z, f1] at hD; cases hD
    have frD : H D = none := s1.free hD
    refine lc_list (K := K) (a := a) (xs := rs.map sV) (fun i H' => Same H H' ∧ ∃ us : List Addr, H' Fd = some (.lst (us.map V.ref)) ∧ Tps lV H' us (none :: (layRows (rs.take i) 1).map some) ∧ H' D = some (.lst (NL (endRows (rs.take i) 1))))
      ⟨same_upd s1 frD, [p0], by rw [upd_ne nFD]; exact f1, by rw [List.take_zero]; exact t1.new hD, by rw [upd_same]; rfl⟩ (fun i H' _ h => SqL.of (h.1 _ _ ha)) ?_ ?_
    · rintro i x H2 hx ⟨s2, us, hus, hts, hen⟩
      rw [List.getElem?_map] at hx
      obtain ⟨r, hr1, rfl⟩ := Option.map_eq_some_iff.mp hx
      have hi : i < rs.length := (List.getElem?_eq_some_iff.mp hr1).1
      have lus : us.length = 1 + tot (rs.take i) := by
        rw [hts.len, List.length_cons, List.length_map, layRows_length]
        omega
      have lt8 : tot (rs.take i) + r.length ≤ 8 := by
        have e := tot_take rs (i + 1)
        rw [take_snoc hr1] at e
        have e2 : tot (rs.take i ++ [r]) = tot (rs.take i) + r.length := by unfold tot; simp
        have := ok.tot
        omega
      refine ⟨rfl, ?_⟩
      refine ⟨_, rfl, _, rfl, r, 0, Fd, us, _, rfl, ok.ok r (List.mem_of_getElem? hr1), hus, hts, by omega, fun H3 us3 kp h3 t3 => ?_⟩
      have hxl : (none :: (layRows (rs.take i) 1).map some : List (Option (Nat × Nat))).length = 1 + tot (rs.take i) := by rw [← hts.len]; exact lus
      have hD3 : H3 D = some (.lst (NL (endRows (rs.take i) 1))) := kp _ _ hen (Ne.symm nFD)
      refine ⟨_, hD3, by rw [NL_length, endRows_length, List.length_take]; exact small1000 (by have := ok.len; omega), ?_, us3, by rw [upd_ne nFD]; exact h3, ?_, ?_⟩
      · refine same_upd (fun b z hb => kp b z (s2 b z hb) (ne_of_none hb fr)) frD
      · rw [take_snoc hr1, layRows_snoc, List.map_append, ← List.cons_append]
        rw [hxl] at t3
        exact t3.lst hD3
      · rw [upd_same, take_snoc hr1, endRows_snoc, hxl]
        unfold NL
        rw [List.map_append]
        rfl
    · rintro H2 ⟨s2, us, hus, hts, hen⟩
      rw [List.length_map, List.take_length] at hts hen
      refine ⟨_, rfl, _, rfl, by show 2 ≤ sizeLine; decide, fun p hp => ?_⟩
      exact q _ p Fd D us (s2.trans (same_new hp)) upd_same ((same_new hp) _ _ hus) (hts.new hp) ((same_new hp) _ _ hen)
abbrev NKnown : List Str := ["listed", "many", "found", "k", "told", "i"]
theorem scKnown : FnScope NKnown ["listed"] (defScope s_known_of) := ⟨rfl, rfl, rfl, by decide +kernel, rfl, by decide +kernel, by decide +kernel⟩
theorem ok_known (T : OC K C) (G : Txt mg) (gO : mg "Order" = some (.ref C)) (DI : DfI P w K mg base C 1 ["self", "rules", "joints", "upto", "below"] (spInit C)) (DP : DfM P w K mg base C "put" 1 ["self", "i", "j", "is_strict"] (spPut C))
    (DC : DfM P w K mg base C "close" 3 ["self"] (spClose C)) (DS : Df P w K mg base "step_rules" 1 ["listed", "slower"] spStep) (DN : Df P w K mg base "never_slower" 1 ["facts"] spSlow) (F : FnP K "known_of" s_known_of f fd) :
    FnOk P w K mg base CX0 4 f fd ["listed"] (spKnown C) := by
  refine F.ok scKnown (fun vs H Q E h => ?_) (fun cdv A outer s H vs Q E hr h => ?_)
  · obtain ⟨a, ts, ls, rfl, _⟩ := h
    rfl
  · obtain ⟨a, ts, ls, rfl, ha, ht, hstp, hdn, hlen, q⟩ := h
    refine ⟨_, PSs.nox (pss_cons (ps_set (i := 1) scKnown.nd rfl (Or.inl rfl) (pe_callB call_len_seq (by rfl) G.len PySem.boot_len (pa_cons (pv 0) pa_nil)))
      (pss_cons (ps_set (i := 2) scKnown.nd rfl (Or.inl rfl) (pe_makeD DI (hr.mono (by decide)) rfl gO (pa_cons (pe_callD DS (hr.mono (by decide)) rfl (pa_cons (pv 0) (pa_cons (pe_callD DN (hr.mono (by decide)) rfl (pa_cons (pe_tup pa_nil) pa_nil)) pa_nil)))
          (pa_cons (pe_lst pa_nil) (pa_cons (pe_lc (own := [("i", 5)]) rfl scKnown.nd (pi_range1 (by rfl) G.range (pa_cons (pv 1) pa_nil)) (blkOk_by (own := [("i", 5)]) (N := NKnown) (sc := defScope s_known_of) (by decide +kernel))
            (fun _ _ _ _ _ => pg_name (i := 5) scKnown.nd rfl (Or.inl rfl)) (fun _ _ _ _ _ => pts_nil) (fun _ _ _ _ _ => pe_op op_shl pe_int (pv 5)))
          (pa_cons (pe_op op_rep (pe_lst (pa_cons pe_int pa_nil)) (pv 1)) pa_nil))))))
      (pss_cons (ps_for PassesOwn.never rfl (pi_enum (by rfl) G.enumerate (pa_cons (pv 0) pa_nil)) (pg_tup rfl (pgs_cons (pg_name (i := 3) scKnown.nd rfl (Or.inl rfl)) (pgs_cons (pg_name (i := 4) scKnown.nd rfl (Or.inl rfl)) pgs_nil)))
        (pss_cons (ps_cut (ps_if (PW.pt (pw_and (pt_cmpR op_eq (pe_ix ix_tup (pv 4) pe_int (fun _ _ => rfl)) pe_str (nomark _)) (pw_and1 (pt_val (pe_m0 PySem.F.slot_str_islower PySem.F.type_str_islower mt_islower (pe_ix ix_tup (pv 4) pe_int (fun _ _ => rfl)))))))
          (pss_one (ps_expr (pe_methD T.cl DP (hr.mono (by decide)) (pv 2) (pa_cons (pe_ix ix_tup (pv 4) pe_int (fun _ _ => rfl)) (pa_cons (pv 3) (pa_cons pe_bl pa_nil)))))) pss_nil))
        (pss_one (ps_if (PW.pt (pw_and (pt_cmpR op_eq (pe_ix ix_tup (pv 4) pe_int (fun _ _ => rfl)) pe_str (nomark _)) (pw_and1 (pt_val (pe_m0 PySem.F.slot_str_isupper PySem.F.type_str_isupper mt_isupper (pe_ix ix_tup (pv 4) pe_int (fun _ _ => rfl)))))))
          (pss_one (ps_expr (pe_methD T.cl DP (hr.mono (by decide)) (pv 2) (pa_cons (pv 3) (pa_cons (pe_ix ix_tup (pv 4) pe_int (fun _ _ => rfl)) (pa_cons pe_bl pa_nil)))))) pss_nil))))
      (pss_cons (ps_expr (pe_methD0 T.cl DC hr (pv 2)))
      (pss_one (ps_ret (pv 2))))))), ?_⟩
    have no1 : ∀ a b c d : Addr, (oF a b c d).lookup ("put" : Str) = none := fun a b c d => oF_no a b c d (by decide +kernel) (by decide +kernel) (by decide +kernel) (by decide +kernel)
    have no2 : ∀ a b c d : Addr, (oF a b c d).lookup ("close" : Str) = none := fun a b c d => oF_no a b c d (by decide +kernel) (by decide +kernel) (by decide +kernel) (by decide +kernel)
    have l0 : ts.length = ls.length + 1 := by rw [ht.len, List.length_cons, List.length_map]
    refine ⟨_, rfl, a, _, rfl, .inl (SqL.of ha), ?_⟩
    rw [List.length_map, l0]
    -- step_rules(listed, never_slower(()))
    refine ⟨_, rfl, Nat.zero_le _, fun p0 hp0 => ⟨p0, rfl, upd_same, fun H1 d1 s1 h1 => ?_⟩⟩
    have s01 : Same H H1 := (same_new hp0).trans s1
    refine ⟨a, d1, ts, ls, rfl, s01 _ _ ha, ht.of_same s01, hstp, hlen, h1, fun H2 r us qs s2 hr2 hq2 ru => ?_⟩
    have s02 := s01.trans s2
    refine ⟨Nat.zero_le _, fun j hj => ?_⟩
    have s3 := same_new (o := .lst []) hj
    have hr3 := s3 _ _ hr2
    have hq3 := hq2.of_same s3
    have s03 := s02.trans s3
    have nrj : r ≠ j := fun z => by rw [← z, hr2] at hj; cases hj
    have hj3 : (upd H2 j (.lst [])) j = some (.lst []) := upd_same
    generalize upd H2 j (.lst []) = H3 at hr3 hq3 s03 hj3
    refine ⟨_, rfl, ((ls.length + 1 : Nat) : Int), rfl, by omega, by omega, fun u hu => ?_⟩
    refine lc_range (lo := 0) (n := ((ls.length + 1 : Nat) : Int).toNat) (fun i H' => Same H3 H' ∧ H' u = some (.lst (NL ((List.range i).map (2 ^ ·))))) ⟨same_new hu, upd_same⟩ ?_ ?_
    · rintro i H4 hi ⟨s4, h4⟩
      rw [Int.toNat_natCast] at hi
      refine ⟨rfl, ?_⟩
      refine ⟨_, rfl, _, _, rfl, rfl, ⟨by omega, by omega, by decide⟩, _, h4, by rw [NL_length, List.length_map, List.length_range]; exact small1000 (by omega), same_upd s4 hu, ?_⟩
      rw [upd_same, List.range_succ, List.map_append]
      unfold NL
      rw [List.map_append]
      show some (HO.lst (_ ++ [V.int ((1 : Int) * 2 ^ ((0 : Int) + (i : Nat)).toNat)])) = _
      rw [Int.zero_add, shl_val]
      rfl
    · rintro H4 ⟨s4, h4⟩
      rw [Int.toNat_natCast] at h4
      have nur : u ≠ r := fun z => by rw [z, hr3] at hu; cases hu
      have nuj : u ≠ j := fun z => by rw [z, hj3] at hu; cases hu
      have hr4 := s4 _ _ hr3
      have hj4 := s4 _ _ hj3
      have s04 := s03.trans s4
      refine ⟨by show 1 ≤ sizeLine; decide, fun z hz => ⟨_, rfl, z, ((ls.length + 1 : Nat) : Int), _, rfl, rfl, upd_same, by omega, by omega, ?_, fun b hb => ?_⟩⟩
      · rw [Int.toNat_natCast]
        exact Nat.le_of_lt (small1000 (by simp; omega))
      have sz := same_new (o := .lst [V.int 0]) hz
      have hu5 := sz _ _ h4
      have hr5 := sz _ _ hr4
      have hj5 := sz _ _ hj4
      have nub : u ≠ b := fun z' => by rw [← z', hu5] at hb; cases hb
      have nbr : b ≠ r := fun z' => by rw [z', hr5] at hb; cases hb
      have nbj : b ≠ j := fun z' => by rw [z', hj5] at hb; cases hb
      have frb : H b = none := (s04.trans sz).free hb
      have fru : H u = none := s03.free hu
      have rep : ∀ n : Nat, (List.replicate ((n : Nat) : Int).toNat [V.int 0]).flatten = NL (kn0 n).be := by
        intro n
        rw [Int.toNat_natCast]
        unfold NL kn0
        rw [List.map_replicate]
        induction n with
        | zero => rfl
        | succ n ih => rw [List.replicate_succ, List.flatten_cons, ih, List.replicate_succ]; rfl
      intro x dx nx ndx nex
      refine ⟨x, r, j, u, b, dx, rfl, upd_same, rfl, ?_⟩
      have frx : (upd (upd H4 z (.lst [V.int 0])) b (.lst ((List.replicate ((ls.length + 1 : Nat) : Int).toNat [V.int 0]).flatten))) x = none := nx
      have ndx6 : (upd (upd H4 z (.lst [V.int 0])) b (.lst ((List.replicate ((ls.length + 1 : Nat) : Int).toNat [V.int 0]).flatten))) dx = none := ndx
      rw [rep] at frx ndx6 ⊢
      have sb := same_new (o := .lst (NL (kn0 (ls.length + 1)).be)) hb
      have hu6 := sb _ _ hu5
      have hr6 := sb _ _ hr5
      have hj6 := sb _ _ hj5
      have hb6 : (upd (upd H4 z (.lst [V.int 0])) b (.lst (NL (kn0 (ls.length + 1)).be))) b = some (.lst (NL (kn0 (ls.length + 1)).be)) := upd_same
      have s06 := (s04.trans sz).trans sb
      have hq6 := (hq3.of_same (s4.trans sz)).of_same sb
      generalize upd (upd H4 z (.lst [V.int 0])) b (.lst (NL (kn0 (ls.length + 1)).be)) = H6 at hu6 hr6 hj6 hb6 s06 frx ndx6 hq6
      have sx : Same H6 (upd (upd (upd H6 dx (.own x)) x (.ins C dx [])) x (.ins C dx (oF r j u b))) := fun c o e => by
        have n1 : c ≠ x := fun z' => by rw [z', frx] at e; cases e
        have n2 : c ≠ dx := fun z' => by rw [z', ndx6] at e; cases e
        rw [upd_ne n1, upd_ne n1, upd_ne n2]
        exact e
      have hx7 : (upd (upd (upd H6 dx (.own x)) x (.ins C dx [])) x (.ins C dx (oF r j u b))) x = some (.ins C dx (oF r j u b)) := upd_same
      generalize upd (upd (upd H6 dx (.own x)) x (.ins C dx [])) x (.ins C dx (oF r j u b)) = H7 at sx hx7 ⊢
      have O7 : OA C H7 ⟨x, r, j, u, b, us⟩ qs (kn0 (ls.length + 1)) := ⟨⟨dx, hx7⟩, sx _ _ hr6, hq6.of_same sx, sx _ _ hj6, sx _ _ hu6, sx _ _ hb6, nub, nur, nuj, nbr, nbj⟩
      have s07 := s06.trans sx
      have frx0 : H x = none := s06.free frx
      have qin := rules_in ru hdn
      generalize ho : (⟨x, r, j, u, b, us⟩ : Ob) = o at O7
      have eu : o.u = u := by rw [← ho]
      have eb : o.b = b := by rw [← ho]
      have ep : o.p = x := by rw [← ho]
      have ku : ∀ {H1 H2 : Hp}, Kp o.u o.b H1 H2 → Same H H1 → Same H H2 := fun k s c w e => k c w (s c w e) (by rw [eu]; exact ne_of_none e fru) (by rw [eb]; exact ne_of_none e frb)
      rw [← ep]
      refine ⟨_, rfl, a, _, rfl, SqL.of (s07 _ _ ha), for_it (walk_enum (xs := ts.map V.ref)) (fun i σ H' => ∃ (v3 v4 v5 : Option V) (t : Kn), σ = [some (.ref a), some (.int ((ls.length + 1 : Nat) : Int)), some (.ref o.p), v3, v4, v5] ∧ Same H H' ∧ OA C H' o qs t ∧ t.Wf (ls.length + 1) ∧
          (∀ v, Mono ls v → t.Has v) ∧ ∀ v, t.Has v → ∀ n c j, n + 1 < i → ls[n]? = some (c, j) → if isF c then v j ≤ v (n + 1) else v (n + 1) ≤ v j)
        ⟨none, none, _, _, rfl, s07, O7, kn0_wf _, fun v _ => kn0_has _ v, fun v _ n c j h => absurd h (Nat.not_lt_zero _)⟩ (fun i σ H' _ ⟨_, _, _, _, _, s', _⟩ => SqL.of (s' _ _ ha)) ?_ ?_⟩
      · rintro i x' σ H8 H9 hi ⟨v3, v4, v5, t, rfl, s8, O8, wf8, has8, mo8⟩ ⟨T, x1, y1, rfl, hT, rfl, e1, e2⟩
        cases e1
        obtain ⟨tt, en, rfl, ht1, hen, htup⟩ := (ht.of_same s8).get e2
        have ls0 : (ts.map V.ref).length = ls.length + 1 := by rw [List.length_map, l0]
        have sT := same_new (o := .tup [V.int ((i : Nat) : Int), V.ref tt]) hT
        refine ⟨T, _, rfl, SqT.of upd_same, rfl, _, _, rfl, _, _, rfl, rfl, ?_⟩
        have htup2 := sT _ _ htup
        have s9 := s8.trans sT
        have O9 := O8.same sT
        generalize upd H8 T (.tup [V.int ((i : Nat) : Int), V.ref tt]) = H10 at htup2 s9 O9
        rw [ls0] at hi
        have beg : decide (V.str ("begin" : Str) = V.str ("step" : Str)) = false := by decide +kernel
        have stp : decide (V.str ("step" : Str) = V.str ("step" : Str)) = true := decide_eq_true rfl
        refine ⟨fun σ' H' => σ' = [some (.ref a), some (.int ((ls.length + 1 : Nat) : Int)), some (.ref o.p), some (.int ((i : Nat) : Int)), some (.ref tt), v5] ∧ Same H H' ∧ H' tt = some (.tup (lV en)) ∧
            ∃ t', OA C H' o qs t' ∧ t'.Wf (ls.length + 1) ∧ (∀ v, Mono ls v → t'.Has v) ∧ t.Le t' ∧ ∀ k c j, i = k + 1 → ls[k]? = some (c, j) → isF c = true → bt t'.up j (k + 1) = true, ?_, ?_⟩
        rotate_left
        · rintro σ' H11 ⟨rfl, s11, htup3, t', O11, wf11, has11, le11, fst11⟩
          obtain ⟨dx11, e11⟩ := O11.ob
          cases i with
          | zero =>
            cases hen
            refine ⟨_, rfl, tt, _, 0, _, rfl, rfl, SqT.of htup3, rfl, rfl, _, rfl, ?_⟩
            rw [beg]
            refine iteF (iteF ?_)
            exact ⟨_, _, _, t', rfl, s11, O11, wf11, has11, fun v _ n c j h => absurd h (by omega)⟩
          | succ k =>
            rw [List.getElem?_cons_succ, List.getElem?_map] at hen
            obtain ⟨⟨c, j0⟩, hcj, rfl⟩ := Option.map_eq_some_iff.mp hen
            have hj0 : j0 < k + 1 := hdn k c j0 hcj
            have hc := hstp _ (List.mem_of_getElem? hcj)
            have hk : k < ls.length := (List.getElem?_eq_some_iff.mp hcj).1
            refine ⟨_, rfl, tt, _, 0, _, rfl, rfl, SqT.of htup3, rfl, rfl, _, rfl, ?_⟩
            rw [stp]
            refine iteT ?_
            refine ⟨_, rfl, tt, _, 1, _, rfl, rfl, SqT.of htup3, rfl, ⟨_, rfl⟩, _, rfl, rfl, trivial, _, rfl, ?_⟩
            rw [isu_stp hc]
            cases hf : isF c with
            | true =>
              refine iteF ?_
              refine ⟨_, _, _, t', rfl, s11, O11, wf11, has11, fun v hv n c2 j2 hn hcj2 => ?_⟩
              by_cases en : n < k
              · exact mo8 v (hv.down le11) n c2 j2 (by omega) hcj2
              · have en2 : n = k := by omega
                rw [en2, hcj] at hcj2
                cases hcj2
                rw [en2, if_pos hf]
                exact hv.1 _ _ (fst11 k c j0 rfl hcj hf)
            | false =>
              refine iteT ?_
              refine ⟨_, rfl, o.p, dx11, _, rfl, e11, no1 _ _ _ _, _, rfl, _, rfl, tt, _, 2, _, rfl, rfl, SqT.of htup3, rfl, o, qs, t', k + 1, j0, false, rfl, O11, by rw [wf11.bu.1]; omega, by rw [wf11.bb.1]; omega, by omega, fun H12 k12 O12 => ?_⟩
              refine ⟨_, _, _, _, rfl, ku k12 s11, O12, put_wf _ (by omega) wf11, fun v hm => put_has (has11 v hm) ?_ (fun z => by cases z), fun v hv n c2 j2 hn hcj2 => ?_⟩
              · have := hm k c j0 hcj
                rw [hf] at this
                exact this
              · by_cases en : n < k
                · exact mo8 v ((hv.down (put_le _ _ _ _)).down le11) n c2 j2 (by omega) hcj2
                · have en2 : n = k := by omega
                  rw [en2, hcj] at hcj2
                  cases hcj2
                  rw [en2, if_neg (by rw [hf]; decide)]
                  exact hv.1 _ _ (put_up.mpr (.inr ⟨rfl, by rw [wf11.bu.1]; omega, rfl⟩))
        · obtain ⟨dx9, e9⟩ := O9.ob
          cases i with
          | zero =>
            cases hen
            refine ⟨_, rfl, tt, _, 0, _, rfl, rfl, SqT.of htup2, rfl, rfl, _, rfl, ?_⟩
            rw [beg]
            refine iteF (iteF ?_)
            exact ⟨rfl, s9, htup2, t, O9, wf8, has8, .refl _, fun k c j h => by omega⟩
          | succ k =>
            rw [List.getElem?_cons_succ, List.getElem?_map] at hen
            obtain ⟨⟨c, j0⟩, hcj, rfl⟩ := Option.map_eq_some_iff.mp hen
            have hj0 : j0 < k + 1 := hdn k c j0 hcj
            have hc := hstp _ (List.mem_of_getElem? hcj)
            have hk : k < ls.length := (List.getElem?_eq_some_iff.mp hcj).1
            refine ⟨_, rfl, tt, _, 0, _, rfl, rfl, SqT.of htup2, rfl, rfl, _, rfl, ?_⟩
            rw [stp]
            refine iteT ?_
            refine ⟨_, rfl, tt, _, 1, _, rfl, rfl, SqT.of htup2, rfl, ⟨_, rfl⟩, _, rfl, rfl, trivial, _, rfl, ?_⟩
            rw [isl_stp hc]
            cases hf : isF c with
            | false =>
              refine iteF ?_
              refine ⟨rfl, s9, htup2, t, O9, wf8, has8, .refl _, fun k2 c2 j2 h hcj2 hf2 => ?_⟩
              cases h
              rw [hcj] at hcj2
              cases hcj2
              rw [hf] at hf2
              cases hf2
            | true =>
              refine iteT ?_
              refine ⟨_, rfl, o.p, dx9, _, rfl, e9, no1 _ _ _ _, _, rfl, tt, _, 2, _, rfl, rfl, SqT.of htup2, rfl, _, rfl, o, qs, t, j0, k + 1, false, rfl, O9, by rw [wf8.bu.1]; omega, by rw [wf8.bb.1]; omega, by omega, fun H12 k12 O12 => ?_⟩
              refine ⟨rfl, ku k12 s9, k12 _ _ htup2 (ne_of htup2 O9.hu (by intro z; cases z)) (ne_of htup2 O9.hb (by intro z; cases z)), _, O12, put_wf _ (by omega) wf8, fun v hm => put_has (has8 v hm) ?_ (fun z => by cases z), put_le _ _ _ _, fun k2 c2 j2 h hcj2 hf2 => ?_⟩
              · have := hm k c j0 hcj
                rw [hf] at this
                exact this
              · cases h
                rw [hcj] at hcj2
                cases hcj2
                exact put_up.mpr (.inr ⟨rfl, by rw [wf8.bu.1]; omega, rfl⟩)
      · rintro σ H8 ⟨v3, v4, v5, t, rfl, s8, O8, wf8, has8, mo8⟩
        obtain ⟨dx8, e8⟩ := O8.ob
        refine ⟨_, rfl, o.p, dx8, _, rfl, e8, no2 _ _ _ _, o, qs, t, _, rfl, O8, wf8, by omega, qin, fun H9 t9 k9 O9 a9 c9 => ?_⟩
        refine ⟨_, rfl, q H9 o qs t9 (ku k9 s8) ⟨O9, a9.wf wf8, by omega, qin, by have := ru.len; omega⟩ ru c9 (fun v hk hm => a9.has v hk (has8 v hm)) fun v hv n c j hn => mo8 v (hv.down a9.le) n c j (by rw [List.length_map, l0]; have := (List.getElem?_eq_some_iff.mp hn).1; omega) hn⟩
end
end K54
namespace K54
open PySem PySem.Spec PyProof.Rows L2
/-! ### whether an order comes about -/
theorem iso_ord {os : List Int} {es : List Nat} {v : Nat → Int} (hl : es.length = os.length) : Iso os (es.map v) ↔ OrdOk os es v := by
  constructor
  · rintro ⟨_, h⟩ i j a b x y h1 h2 h3 h4 hab
    have e3 : (es.map v)[i]? = some (v x) := by rw [List.getElem?_map, h3]; rfl
    have e4 : (es.map v)[j]? = some (v y) := by rw [List.getElem?_map, h4]; rfl
    refine ⟨(h i j a b _ _ h1 h2 e3 e4).mp hab, fun hlt => ?_⟩
    have := h j i b a _ _ h2 h1 e4 e3
    omega
  · intro h
    refine ⟨by rw [List.length_map, hl], fun i j a b x y h1 h2 h3 h4 => ?_⟩
    rw [List.getElem?_map] at h3 h4
    obtain ⟨x', e3, rfl⟩ := Option.map_eq_some_iff.mp h3
    obtain ⟨y', e4, rfl⟩ := Option.map_eq_some_iff.mp h4
    have r1 := h i j a b x' y' h1 h2 e3 e4
    have r2 := h j i b a y' x' h2 h1 e4 e3
    constructor
    · intro z; exact (r1 z).1
    · intro z
      by_cases q : a ≤ b
      · exact q
      · have := (r2 (by omega)).2 (by omega)
        omega
theorem mem_le_sum : ∀ {xs : List Nat} {x : Nat}, x ∈ xs → x ≤ xs.sum
  | y :: ys, x, h => by
    rw [List.sum_cons]
    rcases List.mem_cons.mp h with rfl | h
    · omega
    · have := mem_le_sum h
      omega
def spNeed : Sp := fun vs H Q _ => ∃ (a : Addr) (rs : List (List Nat)), vs = [.ref a] ∧ H a = some (.lst (rs.map sV)) ∧ RowsOk rs ∧ ∀ H', Same H H' → Q .non H'
def spBehind : Sp := fun vs H Q _ => ∃ (a b : Addr) (rs : List (List Nat)) (os : List Int), vs = [.ref a, .ref b] ∧ H a = some (.lst (rs.map sV)) ∧ RowsOk rs ∧ H b = some (.tup (os.map V.int)) ∧ os.length = rs.length ∧
  ∀ H' p w l, Same H H' → H' p = some (.tup [w, .ref l]) → ((w = .non ∧ ¬ Comes rs os) ∨ (∃ c, w = .ref c) ∧ Comes rs os) → Q (.ref p) H'
section
variable {P : Program} {w : World} {K : PySem.W.Frag} {mg : Str → Option Value} {base : Heap} {C f : Addr} {fd : FuncData}
abbrev NNeed : List Str := ["rows", "row"]
theorem scNeed : FnScope NNeed ["rows"] (defScope s_need_rows) := ⟨rfl, rfl, rfl, by decide +kernel, rfl, by decide +kernel, by decide +kernel⟩
theorem ok_need (G : Txt mg) (DI : Df P w K mg base "is_row" 1 ["thing"] spIsRow) (F : FnP K "need_rows" s_need_rows f fd) : FnOk P w K mg base CX0 2 f fd ["rows"] spNeed := by
  refine F.ok scNeed (fun vs H Q E h => ?_) (fun cdv A outer s H vs Q E hr h => ?_)
  · obtain ⟨a, rs, rfl, _⟩ := h
    rfl
  · obtain ⟨a, rs, rfl, ha, ok, q⟩ := h
    refine ⟨_, PSs.nox (pss_cons (ps_if (PW.pt (pw_or (pt_not (pt_val (pe_callB call_isiT (by rfl) G.isinstance (by decide +kernel) (pa_cons (pv 0) (pa_cons (pe_tup (pa_cons (pe_bltn (v := .ty "list") (by rfl) G.list (by decide +kernel) rfl) (pa_cons (pe_bltn (v := .ty "tuple") (by rfl) G.tuple (by decide +kernel) rfl) pa_nil))) pa_nil)))))
        (pw_or (pt_cmpR op_eq (pe_callB call_len_seq (by rfl) G.len PySem.boot_len (pa_cons (pv 0) pa_nil)) pe_int (nomark _))
        (pw_or1 (pt_not (pt_val (pe_callB (cr_all rfl) (by rfl) G.all (by decide +kernel) (pa_cons (pe_lc (own := [("row", 1)]) rfl scNeed.nd (pi_list (pv 0)) (blkOk_by (own := [("row", 1)]) (N := NNeed) (sc := defScope s_need_rows) (by decide +kernel))
          (fun _ _ _ _ _ => pg_name (i := 1) scNeed.nd rfl (Or.inl rfl)) (fun _ _ _ _ _ => pts_nil) (fun _ _ _ _ _ => pe_callD DI hr rfl (pa_cons (pv 1) pa_nil))) pa_nil)))))))) pss_never pss_nil)
      (pss_cons (ps_if (pt_cmpR op_gt (pe_callB call_len_seq (by rfl) G.len PySem.boot_len (pa_cons (pv 0) pa_nil)) (pe_gI G.MOST_ROWS rfl) (nomark _)) pss_never pss_nil)
      (pss_one (ps_if (pt_cmpR op_gt (pe_callB (cr_sum rfl) (by rfl) G.sum (by decide +kernel) (pa_cons (pe_lc (own := [("row", 1)]) rfl scNeed.nd (pi_list (pv 0)) (blkOk_by (own := [("row", 1)]) (N := NNeed) (sc := defScope s_need_rows) (by decide +kernel))
          (fun _ _ _ _ _ => pg_name (i := 1) scNeed.nd rfl (Or.inl rfl)) (fun _ _ _ _ _ => pts_nil) (fun _ _ _ _ _ => pe_callB call_len_str (by rfl) G.len PySem.boot_len (pa_cons (pv 1) pa_nil))) pa_nil)) (pe_gI G.MOST_STEPS_orders rfl) (nomark _)) pss_never pss_nil)))), ?_⟩
    have hp := ok.pos
    have hl4 := ok.len
    have row8 : ∀ r ∈ rs, r.length ≤ 8 := fun r hr => by
      have : r.length ≤ tot rs := by
        unfold tot
        exact mem_le_sum (List.mem_map_of_mem hr)
      have := ok.tot
      omega
    refine ⟨_, rfl, by show 2 ≤ sizeLine; decide, fun p hp1 => ?_⟩
    have s1 := same_new (o := .tup [V.ty "list", V.ty "tuple"]) hp1
    refine ⟨_, _, _, _, [.type "list", .type "tuple"], true, rfl, upd_same, .cons (.ty _) (.cons (.ty _) .nil), .base (.lst (s1 _ _ ha)), kitAny_cons (b := true) (kit_ty (by decide +kernel)) (fun z => by cases z) (fun _ => rfl), _, rfl, ?_⟩
    refine iteF ?_
    refine ⟨_, rfl, a, _, rfl, .inl (SqL.of (s1 _ _ ha)), rfl, _, rfl, ?_⟩
    rw [List.length_map, decide_eq_false (show ¬ V.int ((rs.length : Nat) : Int) = V.int 0 from fun z => by injection z with z; omega)]
    refine iteF ?_
    refine ⟨_, rfl, a, rfl, ⟨_, SqL.of (s1 _ _ ha)⟩, fun D hD => ?_⟩
    generalize upd H p (.tup [V.ty "list", V.ty "tuple"]) = H1 at s1 hD
    refine lc_it (walk_list (xs := rs.map sV)) (fun i H' => Same H H' ∧ H' D = some (.lst ((List.replicate i true).map V.bl))) ⟨same_upd s1 (s1.free hD), upd_same⟩ (fun i H' _ h => SqL.of (h.1 _ _ ha)) ?_ ?_
    · rintro i x H2 H3 hi ⟨s2, hd⟩ ⟨rfl, hx⟩
      rw [List.getElem?_map] at hx
      obtain ⟨r, hr1, rfl⟩ := Option.map_eq_some_iff.mp hx
      have hm := List.mem_of_getElem? hr1
      rw [List.length_map] at hi
      refine ⟨rfl, ?_⟩
      refine ⟨_, rfl, r, rfl, ok.ok r hm, by have := row8 r hm; omega, fun H4 s4 => ?_⟩
      refine ⟨_, s4 _ _ hd, by rw [List.length_map, List.length_replicate]; exact small1000 (by omega), same_upd (s2.trans s4) (s1.free hD), ?_⟩
      rw [upd_same, List.replicate_succ', List.map_append]
      rfl
    · rintro H2 ⟨s2, hd⟩
      refine ⟨D, _, rfl, SqL.of hd, _, rfl, ?_⟩
      have e : (List.replicate (rs.map sV).length true).all id = true := by
        rw [List.all_eq_true]
        intro b hb
        rw [List.eq_of_mem_replicate hb]
        rfl
      rw [e]
      refine iteF ?_
      refine ⟨_, rfl, a, _, rfl, .inl (SqL.of (s2 _ _ ha)), _, _, rfl, rfl, _, rfl, ?_⟩
      rw [List.length_map, decide_eq_false (show ¬ (4 : Int) < ((rs.length : Nat) : Int) by omega)]
      refine iteF ?_
      refine ⟨_, rfl, a, rfl, ⟨_, SqL.of (s2 _ _ ha)⟩, fun D2 hD2 => ?_⟩
      refine lc_it (walk_list (xs := rs.map sV)) (fun i H' => Same H H' ∧ H' D2 = some (.lst (((rs.take i).map fun r => ((r.length : Nat) : Int)).map V.int))) ⟨same_upd s2 (s2.free hD2), upd_same⟩ (fun i H' _ h => SqL.of (h.1 _ _ ha)) ?_ ?_
      · rintro i x H3 H4 hi ⟨s3, hd3⟩ ⟨rfl, hx⟩
        rw [List.getElem?_map] at hx
        obtain ⟨r, hr1, rfl⟩ := Option.map_eq_some_iff.mp hx
        have hm := List.mem_of_getElem? hr1
        rw [List.length_map] at hi
        refine ⟨rfl, ?_⟩
        refine ⟨_, rfl, _, rfl, by rw [tx_length]; exact Nat.le_of_lt (small1000 (by have := row8 r hm; omega)), ?_⟩
        refine ⟨_, hd3, by rw [List.length_map, List.length_map, List.length_take]; exact small1000 (by omega), same_upd s3 (s2.free hD2), ?_⟩
        rw [upd_same, take_snoc hr1, List.map_append, List.map_append, tx_length]
        rfl
      · rintro H3 ⟨s3, hd3⟩
        rw [List.length_map, List.take_length] at hd3
        refine ⟨D2, _, rfl, SqL.of hd3, _, _, rfl, rfl, _, rfl, ?_⟩
        have e2 : ∀ xs : List (List Nat), (xs.map fun r => ((r.length : Nat) : Int)).sum = ((tot xs : Nat) : Int) := by
          intro xs
          induction xs with
          | nil => rfl
          | cons x xs ih =>
            unfold tot at ih ⊢
            rw [List.map_cons, List.sum_cons, ih, List.map_cons, List.sum_cons]
            omega
        rw [e2, decide_eq_false (show ¬ (8 : Int) < ((tot rs : Nat) : Int) by have := ok.tot; omega)]
        exact iteF (q H3 s3)
abbrev NBehind : List Str := ["rows", "order", "listed", "ends", "known"]
theorem scBehind : FnScope NBehind ["rows", "order"] (defScope s_order_behind) := ⟨rfl, rfl, rfl, by decide +kernel, rfl, by decide +kernel, by decide +kernel⟩
theorem ok_behind (T : OC K C) (DC : DfM P w K mg base C "is_contrary" 2 ["self"] (spContr C)) (DV : Df P w K mg base "values_of" 2 ["rows"] spValues) (DK : Df P w K mg base "known_of" 4 ["listed"] (spKnown C))
    (DE : Df P w K mg base "with_ends" 5 ["known", "ends", "order"] (spEnds C)) (DW : Df P w K mg base "whole_order" 7 ["known"] (spWhole C)) (F : FnP K "order_behind" s_order_behind f fd) : FnOk P w K mg base CX0 8 f fd ["rows", "order"] spBehind := by
  refine F.ok scBehind (fun vs H Q E h => ?_) (fun cdv A outer s H vs Q E hr h => ?_)
  · obtain ⟨a, b, rs, os, rfl, _⟩ := h
    rfl
  · obtain ⟨a, b, rs, os, rfl, ha, ok, hb, hl, q⟩ := h
    refine ⟨_, PSs.nox (pss_cons (ps_asg (pe_callD DV (hr.mono (by decide)) rfl (pa_cons (pv 0) pa_nil)) (pg_tup rfl (pgs_cons (pg_name (i := 2) scBehind.nd rfl (Or.inl rfl)) (pgs_cons (pg_name (i := 3) scBehind.nd rfl (Or.inl rfl)) pgs_nil))))
      (pss_cons (ps_set (i := 4) scBehind.nd rfl (Or.inl rfl) (pe_callD DE (hr.mono (by decide)) rfl (pa_cons (pe_callD DK (hr.mono (by decide)) rfl (pa_cons (pv 2) pa_nil)) (pa_cons (pv 3) (pa_cons (pv 1) pa_nil)))))
      (pss_one (ps_ret (pe_tup (pa_cons (pe_ifExp (pt_val (pe_methD0 T.cl DC (hr.mono (by decide)) (pv 4))) pe_non (pe_callD DW hr rfl (pa_cons (pv 4) pa_nil))) (pa_cons (pv 2) pa_nil))))))), ?_⟩
    have no2 : ∀ a b c d : Addr, (oF a b c d).lookup ("is_contrary" : Str) = none := fun a b c d => oF_no a b c d (by decide +kernel) (by decide +kernel) (by decide +kernel) (by decide +kernel)
    refine ⟨_, rfl, a, rs, rfl, ha, ok, fun H1 p1 Fd En ts s1 hp1 hF hT hE => ?_⟩
    refine ⟨p1, _, rfl, SqT.of hp1, rfl, _, _, rfl, _, _, rfl, rfl, ?_⟩
    have hls : (layRows rs 1).length ≤ 8 := by rw [layRows_length]; exact ok.tot
    refine ⟨_, rfl, Fd, ts, layRows rs 1, rfl, hF, hT, layRows_stp rs 1 ok.ok, down_rows rs, hls, fun H2 o qs s2' s12 g2 ru c2 has2 mo2 => ?_⟩
    refine ⟨_, rfl, _, rfl, o, qs, s2', _, En, b, endRows rs 1, os, rfl, g2, c2, s12 _ _ hE, s12 _ _ (s1 _ _ hb), by rw [endRows_length, hl], fun e he => by have := endRows_lt rs 1 (by decide) e he; rw [layRows_length]; omega, fun H3 o3 t3 s23 g3 c3 has3 inv3 => ?_⟩
    have s3 : Same H H3 := s1.trans (s12.trans s23)
    obtain ⟨dx3, e3⟩ := g3.oa.ob
    have el : (endRows rs 1).length = os.length := by rw [endRows_length, hl]
    have no3 : (∀ v, Keep qs v → ¬ t3.Has v) → ¬ Comes rs os := fun nh hc => by
      obtain ⟨v, h1, h2⟩ := (comes_iff rs os).mp hc
      obtain ⟨h3, h4⟩ := (sat_iff ru v).mp h1
      exact nh v h4 (has3 v h4 (has2 v h4 h3) ((iso_ord el).mp h2))
    refine ⟨_, rfl, o3.p, dx3, _, rfl, e3, no2 _ _ _ _, o3, qs, t3, _, rfl, g3.oa, g3.wf, g3.n64, fun H4 c s34 hc => ⟨c, rfl, ?_⟩⟩
    have g4 := g3.same s34
    cases c with
    | true =>
      refine iteT ?_
      refine ⟨_, rfl, by show 2 ≤ sizeLine; decide, fun p hp => ?_⟩
      exact q _ p _ Fd ((s3.trans s34).trans (same_new hp)) upd_same (.inl ⟨rfl, no3 fun v _ hv => (hc.mp rfl).no hv⟩)
    | false =>
      refine iteF ?_
      have nct : ¬ Contr _ t3 := fun z => by have := hc.mpr z; cases this
      refine ⟨_, rfl, o3, qs, t3, _, rfl, g4, by omega, c3, fun H5 s5 nh => ?_, fun H5 o5 t5 s5 g5 le5 sn5 tot5 => ?_⟩
      · refine ⟨_, rfl, by show 2 ≤ sizeLine; decide, fun p hp => ?_⟩
        exact q _ p _ Fd (((s3.trans s34).trans s5).trans (same_new hp)) upd_same (.inl ⟨rfl, no3 nh⟩)
      · refine ⟨_, rfl, by show 2 ≤ sizeLine; decide, fun p hp => ?_⟩
        refine q _ p _ Fd (((s3.trans s34).trans s5).trans (same_new hp)) upd_same (.inr ⟨⟨_, rfl⟩, ?_⟩)
        obtain ⟨hh, hk⟩ := total_has g5.wf sn5.cl sn5.nc tot5 g5.qin
        obtain ⟨h6, h7⟩ := inv3 nct _ (hh.down le5)
        exact (comes_iff rs os).mpr ⟨_, (sat_iff ru _).mpr ⟨mo2 _ h6, hk⟩, (iso_ord el).mpr h7⟩
end
end K54
namespace K54
open PySem PySem.Spec PyProof.Rows L2
open PySem.W (ossOf oss_next oss_has oss_met oss_len oss_dups)
/-! ### sets of numbers -/
theorem oss_nodup_from : ∀ (l ks : List Int), ks.Nodup → (l.foldl step_dedup ks).Nodup
  | [], ks, h => h
  | a :: r, ks, h => by
    rw [List.foldl_cons, PySem.W.oss_step]
    by_cases m : a ∈ ks
    · rw [if_pos m]
      exact oss_nodup_from r ks h
    · rw [if_neg m]
      refine oss_nodup_from r _ ?_
      rw [List.nodup_append]
      refine ⟨h, by simp, fun x hx y hy => ?_⟩
      rw [List.mem_singleton] at hy
      rw [hy]
      exact fun e => m (e ▸ hx)
theorem oss_nodup (l : List Int) : (ossOf l).Nodup := oss_nodup_from l [] List.nodup_nil
theorem len_of_mem : ∀ {xs ys : List Int}, xs.Nodup → ys.Nodup → (∀ k, k ∈ xs ↔ k ∈ ys) → xs.length = ys.length := by
  have key : ∀ {xs ys : List Int}, xs.Nodup → (∀ k, k ∈ xs → k ∈ ys) → xs.length ≤ ys.length := by
    intro xs ys hx h
    exact (List.subset_def.mpr (fun {a} ha => h a ha) |> hx.length_le_of_subset)
  intro xs ys hx hy h
  exact Nat.le_antisymm (key hx fun k hk => (h k).mp hk) (key hy fun k hk => (h k).mpr hk)
section
variable {X : Cx}
/-- set(t), t a tuple of ints -/
def rSetT (K : PySem.W.Frag) (w : World) : List V → Hp → VK → Prop := fun xs H Q => ∃ (a : Addr) (ns : List Int), xs = [.ref a] ∧ SqT K H a (ns.map V.int) ∧ ns.length ≤ 4000 ∧
  ∀ p, H p = none → Q (.ref p) (upd H p (SetO w p (fun j => decide (j ∈ ns)) (ossOf ns).length))
theorem cr_setT (hc : X.calm = true) : CallR X (.type "set") (rSetT X.K X.w) := by
  intro pins s σ H xs us Q I r h
  obtain ⟨a, ns, rfl, ha, hl, q⟩ := h
  rw [Vals.ref1 r]
  obtain ⟨its, rv, p, _⟩ := I.tuple ha
  refine call_set_tupI ns (I.ok.hd hc) p (by simpa using RZ.intsAre_vals rv) (by unfold scanBound; omega) fun h' tk c R hcl hk => ?_
  have ec : c = (ossOf ns).length := by
    obtain ⟨o, es, ep, t, _, _, _, g, nd, hm, _, _, hn, _⟩ := id R
    have e1 : (es.toList.map keyOf).length = (ossOf ns).length := len_of_mem nd (oss_nodup ns) fun k => by
      rw [← hm k, decide_eq_true_eq, oss_has]
    rw [List.length_map, Array.length_toList, hn] at e1
    exact e1
  rw [← ec] at q
  exact ⟨.ref _, _, I.laid (t' := tk) (fun b u e => hk b u e) (Nat.le_refl _) (setO_new R), rfl, q _ (I.hok.fresh (Nat.le_refl _))⟩
/-- len(s), s a set of ints -/
def rLenSet (w : World) : List V → Hp → VK → Prop := fun xs H Q => ∃ (a : Addr) (S : Int → Bool) (n : Nat), xs = [.ref a] ∧ H a = some (SetO w a S n) ∧ n ≤ 4000 ∧ Q (.int (n : Nat)) H
theorem cr_lenSet : CallR X (.builtin "len") (rLenSet X.w) := by
  intro pins s σ H xs us Q I r h
  obtain ⟨a, S, n, rfl, ha, hn4, q⟩ := h
  rw [Vals.ref1 r]
  obtain ⟨o, es, ep, t, ho, hex, hd, g, nd, hm, hb, hf, hn, hr, hl⟩ := setO_get I ha
  exact call_len_set ho hex hd hf (by rw [hn] <;> omega) ⟨.int n, H, I.tok _, ⟨_, by rw [hn]⟩, q⟩
/-- len(set(xs)), xs a list of ints -/
def tLenSetL (K : PySem.W.Frag) (ta : TE) : TE := fun σ H Q => ta σ H fun x H1 => ∃ (l : Addr) (ns : List Int), x = .ref l ∧ SqL K H1 l (ns.map V.int) ∧ ns.length ≤ 4000 ∧ Q (.int ((ossOf ns).length : Nat)) H1
theorem pe_lenSetL {a : Expr} {ta : TE} {p p2 q pos : Pos} (hg : Gl X "len") (hm : X.mg "len" = none) (hg2 : Gl X "set") (hm2 : X.mg "set" = none) (ha : PE X a ta) (hc : X.calm = true := by rfl)
    (na : starEach [a] X.env = (false, eval a X.env) :: starEach [] X.env := by rfl) : PE X (.Call (.Name "len" p) [.Call (.Name "set" p2) [a] [] q] [] pos) (tLenSetL X.K ta) := by
  refine ⟨fun pins s σ H Q I h => ?_⟩
  refine Call_ (ld_blt I hg hm boot_len ?_)
  refine PyProof.Rows.callWith_builtin1 (PyProof.Rows.args_cons ?_ rfl) rfl rfl
  refine Call_ (ld_blt I hg2 hm2 boot_set ?_)
  refine PyProof.Rows.callWith_type1 (PyProof.Rows.args_cons (thn (ha.run pins s σ H _ I h) fun v s1 ⟨x, H1, I1, r1, q1⟩ => PyProof.Rows.args_nil ?_) na) na rfl
  obtain ⟨l, ns, rfl, hq, hl, q1⟩ := q1
  cases r1
  obtain ⟨its, r, pl, hz⟩ := I1.list hq
  have hlen : its.toArray.size = ns.length := by rw [List.size_toArray, ← r.length, List.length_map]
  refine call_set_list (I1.ok.hd hc) pl.isList (by simpa using RZ.intsAre_vals r) (by rw [hlen]; unfold scanBound; omega) fun h' tk hS hk => ?_
  refine PyProof.Rows.args_nil ?_
  rw [hlen, oss_met] at hS
  have hle := oss_len ns
  obtain ⟨o, es, ep, t, ho, hex, hd, _, _, _, hf, hn⟩ := hS
  have I2 : Inv X pins σ H1 { s1 with heap := h', toks := tk } := I1.kept fun b o e => hk b o (Heap.lt_size e) e
  exact call_len_set ho hex hd hf (by rw [hn] <;> omega) ⟨.int (ossOf ns).length, H1, I2.tok _, ⟨_, by rw [hn]⟩, q1⟩
end
end K54
namespace K54
open PySem PySem.Spec PyProof.Rows L2
open PySem.W (ossOf oss_next oss_has oss_met oss_len oss_dups)
/-! ### a comprehension of two clauses -/
section
variable {J : It} {n : Nat} {G : Hp → Prop} {Y : Nat → Hp → V → Hp → Prop}
theorem lc2_it (w : Walk J n G Y) {g g1 : TG} {tt tt1 : TT} {wi1 : TI} {te : TE} {vs vs1 : List Nat} {σ : L2.St} {H1 : Hp} {D : Addr} {Qd : Hp → Prop} (Pv : Nat → Hp → Prop) (h0 : Pv 0 (upd H1 D (.lst []))) (hG : ∀ i H, i ≤ n → Pv i H → G H)
    (hs : ∀ i x H H', i < n → Pv i H → Y i H x H' → g x (wipe σ vs) H' fun σ2 H2 => wipe σ2 vs = wipe σ vs ∧ tt σ2 H2 fun b H3 =>
      if b = true then wi1 σ2 H3 fun J1 H4 => ∃ W1 : Nat → Nat → Hp → Prop, (∃ m, W1 0 m H4) ∧ ∀ j k H, W1 j k H →
        (J1.stop j H ∧ Pv (i + 1) H) ∨ (J1.go j H ∧ ∃ Nx1 : Hp → Prop, (∀ H', Nx1 H' → ∃ k', k' < k ∧ W1 (j + 1) k' H') ∧ ∀ x H', J1.yld j H x H' → g1 x (wipe σ2 vs1) H' fun σ3 H5 => wipe σ3 vs1 = wipe σ2 vs1 ∧ tt1 σ3 H5 fun b H6 =>
          if b = true then te σ3 H6 fun y H7 => ∃ acc, H7 D = some (.lst acc) ∧ acc.length < sizeLine ∧ Nx1 (upd H7 D (.lst (acc ++ [y]))) else Nx1 H6)
      else Pv (i + 1) H3) (hd : ∀ H, Pv n H → Qd H) :
    ∃ W : Nat → Nat → Hp → Prop, (∃ m, W 0 m (upd H1 D (.lst []))) ∧ ∀ i m H, W i m H →
      (J.stop i H ∧ Qd H) ∨ (J.go i H ∧ ∃ Nx : Hp → Prop, (∀ H', Nx H' → ∃ m', m' < m ∧ W (i + 1) m' H') ∧ ∀ x H', J.yld i H x H' → g x (wipe σ vs) H' fun σ2 H2 => wipe σ2 vs = wipe σ vs ∧ tt σ2 H2 fun b H3 =>
        if b = true then wi1 σ2 H3 fun J1 H4 => ∃ W1 : Nat → Nat → Hp → Prop, (∃ m, W1 0 m H4) ∧ ∀ j k H, W1 j k H →
          (J1.stop j H ∧ Nx H) ∨ (J1.go j H ∧ ∃ Nx1 : Hp → Prop, (∀ H', Nx1 H' → ∃ k', k' < k ∧ W1 (j + 1) k' H') ∧ ∀ x H', J1.yld j H x H' → g1 x (wipe σ2 vs1) H' fun σ3 H5 => wipe σ3 vs1 = wipe σ2 vs1 ∧ tt1 σ3 H5 fun b H6 =>
            if b = true then te σ3 H6 fun y H7 => ∃ acc, H7 D = some (.lst acc) ∧ acc.length < sizeLine ∧ Nx1 (upd H7 D (.lst (acc ++ [y]))) else Nx1 H6)
        else Nx H3) := by
  refine ⟨fun i m H => m = n - i ∧ i ≤ n ∧ Pv i H, ⟨n, by simp, Nat.zero_le _, h0⟩, ?_⟩
  rintro i m H ⟨rfl, hi, p⟩
  have q := hG i H hi p
  by_cases hlt : i < n
  · refine .inr ⟨w.goes i H hlt q, Pv (i + 1), fun H' p' => ⟨n - (i + 1), by omega, rfl, hlt, p'⟩, fun x H' y => hs i x H H' hlt p (w.yields i H x H' hlt q y)⟩
  · have e : i = n := by omega
    subst e
    exact .inl ⟨w.stops H q, hd H p⟩
theorem in_it (w : Walk J n G Y) {g1 : TG} {tt1 : TT} {te : TE} {vs1 : List Nat} {σ2 : L2.St} {H4 : Hp} {D : Addr} {Nx : Hp → Prop} (Pv : Nat → Hp → Prop) (h0 : Pv 0 H4) (hG : ∀ i H, i ≤ n → Pv i H → G H)
    (hs : ∀ j x H H', j < n → Pv j H → Y j H x H' → g1 x (wipe σ2 vs1) H' fun σ3 H5 => wipe σ3 vs1 = wipe σ2 vs1 ∧ tt1 σ3 H5 fun b H6 =>
          if b = true then te σ3 H6 fun y H7 => ∃ acc, H7 D = some (.lst acc) ∧ acc.length < sizeLine ∧ Pv (j + 1) (upd H7 D (.lst (acc ++ [y]))) else Pv (j + 1) H6) (hd : ∀ H, Pv n H → Nx H) :
    ∃ W1 : Nat → Nat → Hp → Prop, (∃ m, W1 0 m H4) ∧ ∀ j k H, W1 j k H →
        (J.stop j H ∧ Nx H) ∨ (J.go j H ∧ ∃ Nx1 : Hp → Prop, (∀ H', Nx1 H' → ∃ k', k' < k ∧ W1 (j + 1) k' H') ∧ ∀ x H', J.yld j H x H' → g1 x (wipe σ2 vs1) H' fun σ3 H5 => wipe σ3 vs1 = wipe σ2 vs1 ∧ tt1 σ3 H5 fun b H6 =>
          if b = true then te σ3 H6 fun y H7 => ∃ acc, H7 D = some (.lst acc) ∧ acc.length < sizeLine ∧ Nx1 (upd H7 D (.lst (acc ++ [y]))) else Nx1 H6) := by
  refine ⟨fun i m H => m = n - i ∧ i ≤ n ∧ Pv i H, ⟨n, by simp, Nat.zero_le _, h0⟩, ?_⟩
  rintro i m H ⟨rfl, hi, p⟩
  have q := hG i H hi p
  by_cases hlt : i < n
  · refine .inr ⟨w.goes i H hlt q, Pv (i + 1), fun H' p' => ⟨n - (i + 1), by omega, rfl, hlt, p'⟩, fun x H' y => hs i x H H' hlt p (w.yields i H x H' hlt q y)⟩
  · have e : i = n := by omega
    subst e
    exact .inl ⟨w.stops H q, hd H p⟩
end
/-! ### the tuples of numbers -/
def iV (o : List Int) : List V := o.map V.int
def ext (n : Nat) (s : List Int) : List (List Int) := (List.range n).map fun (k : Nat) => s ++ [(k : Int)]
def allT : Nat → Nat → List (List Int)
  | 0, _ => [[]]
  | m + 1, n => (allT m n).flatMap (ext n)
/-- each number is 0 or one more than another one -/
def RankP (o : List Int) : Prop := ∃ k : Nat, ∀ x : Int, x ∈ o ↔ 0 ≤ x ∧ x < k
noncomputable def rankB (o : List Int) : Bool := @decide (RankP o) (Classical.propDecidable _)
theorem rankB_iff {o : List Int} : rankB o = true ↔ RankP o := by
  unfold rankB
  exact @decide_eq_true_iff _ (Classical.propDecidable _)
noncomputable def ranksL (n : Nat) : List (List Int) := (allT n n).filter rankB
theorem allT_len (n : Nat) : ∀ m, (allT m n).length = n ^ m
  | 0 => rfl
  | m + 1 => by
    unfold allT
    rw [List.length_flatMap, Nat.pow_succ, ← allT_len n m]
    have : (List.map (fun a => (ext n a).length) (allT m n)) = List.replicate (allT m n).length n := by
      rw [List.eq_replicate_iff]
      refine ⟨by rw [List.length_map], fun x hx => ?_⟩
      obtain ⟨s, _, rfl⟩ := List.mem_map.mp hx
      unfold ext
      rw [List.length_map, List.length_range]
    rw [this, List.sum_replicate_nat]
theorem allT_mem {n : Nat} : ∀ {m : Nat} {o : List Int}, o ∈ allT m n ↔ o.length = m ∧ ∀ x ∈ o, 0 ≤ x ∧ x < n
  | 0, o => by
    unfold allT
    rw [List.mem_singleton]
    constructor
    · rintro rfl
      exact ⟨rfl, fun x h => by cases h⟩
    · rintro ⟨h, _⟩
      exact List.eq_nil_of_length_eq_zero h
  | m + 1, o => by
    unfold allT
    rw [List.mem_flatMap]
    constructor
    · rintro ⟨s, hs, ho⟩
      obtain ⟨k, hk, rfl⟩ := List.mem_map.mp ho
      obtain ⟨h1, h2⟩ := allT_mem.mp hs
      have hk' := List.mem_range.mp hk
      refine ⟨by rw [List.length_append, h1]; rfl, fun x hx => ?_⟩
      rcases List.mem_append.mp hx with h | h
      · exact h2 x h
      · rw [List.mem_singleton] at h
        rw [h]
        omega
    · rintro ⟨h1, h2⟩
      rcases List.eq_nil_or_concat o with rfl | ⟨s, x, rfl⟩
      · cases h1
      · rw [List.concat_eq_append] at h1 h2 ⊢
        rw [List.length_append, List.length_singleton] at h1
        refine ⟨s, allT_mem.mpr ⟨by omega, fun y hy => h2 y (List.mem_append_left _ hy)⟩, ?_⟩
        have hx := h2 x (List.mem_append_right _ (List.mem_singleton.mpr rfl))
        refine List.mem_map.mpr ⟨x.toNat, List.mem_range.mpr (by omega), ?_⟩
        rw [Int.toNat_of_nonneg hx.1]
theorem sorted_eq : ∀ {xs ys : List Int}, xs.Pairwise (· < ·) → ys.Pairwise (· < ·) → (∀ k, k ∈ xs ↔ k ∈ ys) → xs = ys
  | [], [], _, _, _ => rfl
  | [], y :: ys, _, _, h => by have := (h y).mpr (List.mem_cons_self ..); cases this
  | x :: xs, [], _, _, h => by have := (h x).mp (List.mem_cons_self ..); cases this
  | x :: xs, y :: ys, h1, h2, h => by
    obtain ⟨a1, b1⟩ := List.pairwise_cons.mp h1
    obtain ⟨a2, b2⟩ := List.pairwise_cons.mp h2
    have e : x = y := by
      rcases List.mem_cons.mp ((h x).mp (List.mem_cons_self ..)) with e | m
      · exact e
      · rcases List.mem_cons.mp ((h y).mpr (List.mem_cons_self ..)) with e | m2
        · exact e.symm
        · have := a2 x m
          have := a1 y m2
          omega
    subst e
    congr 1
    refine sorted_eq b1 b2 fun k => ?_
    constructor
    · intro m
      rcases List.mem_cons.mp ((h k).mp (List.mem_cons_of_mem _ m)) with e | m2
      · have := a1 k m
        omega
      · exact m2
    · intro m
      rcases List.mem_cons.mp ((h k).mpr (List.mem_cons_of_mem _ m)) with e | m2
      · have := a2 k m
        omega
      · exact m2
def rngI (k : Nat) : List Int := (List.range k).map fun (i : Nat) => (i : Int)
theorem rngI_sorted (k : Nat) : (rngI k).Pairwise (· < ·) := by
  unfold rngI
  rw [List.pairwise_map]
  exact List.pairwise_lt_range.imp fun h => by exact_mod_cast h
theorem rngI_mem {k : Nat} {x : Int} : x ∈ rngI k ↔ 0 ≤ x ∧ x < k := by
  unfold rngI
  rw [List.mem_map]
  constructor
  · rintro ⟨i, hi, rfl⟩
    have := List.mem_range.mp hi
    omega
  · rintro ⟨h1, h2⟩
    exact ⟨x.toNat, List.mem_range.mpr (by omega), Int.toNat_of_nonneg h1⟩
theorem rank_test {o ns : List Int} (hs : ns.Pairwise (· < ·)) (hm : ∀ k : Int, k ∈ ns ↔ decide (k ∈ o) = true) (hl : ns.length = (ossOf o).length) : decide (ns = rngI (ossOf o).length) = rankB o := by
  rw [Bool.eq_iff_iff, decide_eq_true_eq, rankB_iff]
  constructor
  · intro e
    refine ⟨(ossOf o).length, fun x => ?_⟩
    rw [← rngI_mem, ← e, hm, decide_eq_true_eq]
  · rintro ⟨k, h⟩
    have e : ns = rngI k := sorted_eq hs (rngI_sorted k) fun x => by rw [hm, decide_eq_true_eq, rngI_mem]; exact h x
    have l : (rngI k).length = k := by unfold rngI; rw [List.length_map, List.length_range]
    rw [← hl, e, l]
theorem rgV_rngI (m : Nat) : rgV 0 (m : Int) = (rngI m).map V.int := by
  unfold rgV rngI
  rw [List.map_map, Int.sub_zero, Int.toNat_natCast]
  refine List.map_congr_left fun i _ => ?_
  show V.int (0 + (i : Int)) = V.int (i : Int)
  rw [Int.zero_add]
theorem flat_len (n : Nat) : ∀ xs : List (List Int), (xs.flatMap (ext n)).length = xs.length * n
  | [] => by simp
  | x :: xs => by
    rw [List.flatMap_cons, List.length_append, flat_len n xs, List.length_cons, Nat.succ_mul]
    unfold ext
    rw [List.length_map, List.length_range]
    omega
theorem filter_snoc {α : Type} (p : α → Bool) {xs : List α} {i : Nat} {x : α} (h : xs[i]? = some x) : (xs.take (i + 1)).filter p = if p x = true then (xs.take i).filter p ++ [x] else (xs.take i).filter p := by
  rw [take_snoc h, List.filter_append, List.filter_cons, List.filter_nil]
  cases p x with
  | true => rfl
  | false => exact List.append_nil _
def spRanks : Sp := fun vs H Q _ => ∃ n : Nat, vs = [.int (n : Int)] ∧ n ≤ 4 ∧ ∀ H' p ts, Same H H' → H' p = some (.lst (ts.map V.ref)) → Tps iV H' ts (ranksL n) → Q (.ref p) H'
section
variable {P : Program} {w : World} {K : PySem.W.Frag} {mg : Str → Option Value} {base : Heap} {C f : Addr} {fd : FuncData}
abbrev NRanks : List Str := ["many", "found", "turn", "some", "place"]
theorem scRanks : FnScope NRanks ["many"] (defScope s_ranks) := ⟨rfl, rfl, rfl, by decide +kernel, rfl, by decide +kernel, by decide +kernel⟩
theorem ok_ranks (G : Txt mg) (F : FnP K "ranks" s_ranks f fd) : FnOk P w K mg base CX0 1 f fd ["many"] spRanks := by
  refine F.ok scRanks (fun vs H Q E h => ?_) (fun cdv A outer s H vs Q E hr h => ?_)
  · obtain ⟨n, rfl, _⟩ := h
    rfl
  · obtain ⟨n, rfl, hn, q⟩ := h
    have hu64 : (A.deeper (envOfC "ranks" (defScope s_ranks) s.heap.objs.size f cdv)).units + 64 < cLine := by have := hr.un; omega
    refine ⟨_, PSs.nox (pss_cons (ps_set (i := 1) scRanks.nd rfl (Or.inl rfl) (pe_lst (pa_cons (pe_tup pa_nil) pa_nil)))
      (pss_cons (ps_for PassesOwn.never rfl (pi_range1 (by rfl) G.range (pa_cons (pv 0) pa_nil)) (pg_name (i := 2) scRanks.nd rfl (Or.inl rfl))
        (pss_one (ps_setLc2 (i := 1) (own := [("some", 3), ("place", 4)]) (vs1 := [4]) rfl scRanks.nd rfl rfl (sw_true rfl rfl rfl (by decide +kernel)) (pi_list (pv 1)) (blkOk_by (own := [("some", 3), ("place", 4)]) (N := NRanks) (sc := defScope s_ranks) (by decide +kernel)) (by decide)
          (fun _ _ _ _ _ => pg_name (i := 3) scRanks.nd rfl (Or.inl rfl)) (fun _ _ _ _ _ => pts_nil) (fun _ _ _ _ _ => pi_range1 (by rfl) G.range (pa_cons (pv 0) pa_nil)) (fun _ _ _ _ _ => pg_name (i := 4) scRanks.nd rfl (Or.inl rfl)) (fun _ _ _ _ _ => pts_nil)
          (fun _ _ _ _ _ => pe_op (r := rCatA K) op_catA (pv 3) (pe_tup (pa_cons (pv 4) pa_nil))))))
      (pss_one (ps_ret (pe_lc (own := [("some", 3)]) rfl scRanks.nd (pi_list (pv 1)) (blkOk_by (own := [("some", 3)]) (N := NRanks) (sc := defScope s_ranks) (by decide +kernel)) (fun _ _ _ _ _ => pg_name (i := 3) scRanks.nd rfl (Or.inl rfl))
        (fun _ _ _ _ _ => pts_one (pt_cmpR (r := rEqD K) (op_eqD hu64) (pe_callB (r := rSortedSet w) (cr_sortedSet rfl) (by rfl) G.sorted (by decide +kernel) (pa_cons (pe_callTy (r := rSetT K w) (cr_setT rfl) (by rfl) G.set (by decide +kernel) (pa_cons (pv 3) pa_nil)) pa_nil))
          (pe_listRg rfl (by rfl) G.list (prg_1 (by rfl) G.range (pe_callB (r := rLenSet w) cr_lenSet (by rfl) G.len PySem.boot_len (pa_cons (pe_callTy (r := rSetT K w) (cr_setT rfl) (by rfl) G.set (by decide +kernel) (pa_cons (pv 3) pa_nil)) pa_nil)))) (nomark _)))
        (fun _ _ _ _ _ => pv 3)))))), ?_⟩
    refine ⟨Nat.zero_le _, fun p0 hp0 => ⟨by show 1 ≤ sizeLine; decide, fun F0 hF => ?_⟩⟩
    have s0 : Same H (upd (upd H p0 (.tup [])) F0 (.lst [.ref p0])) := (same_new hp0).trans (same_new hF)
    have h0 : (upd (upd H p0 (.tup [])) F0 (.lst [.ref p0])) F0 = some (.lst ([p0].map V.ref)) := upd_same
    have t0 : Tps iV (upd (upd H p0 (.tup [])) F0 (.lst [.ref p0])) [p0] (allT 0 n) := ⟨rfl, fun k t x h1 h2 => by
      cases k with
      | zero =>
        cases h1
        cases h2
        exact (same_new hF) _ _ upd_same
      | succ k => cases h1⟩
    generalize upd (upd H p0 (.tup [])) F0 (.lst [.ref p0]) = H0 at s0 h0 t0
    refine ⟨_, rfl, _, rfl, by omega, by omega, for_it walk_range (fun m σ H' => ∃ (F : Addr) (v2 : Option V) (ts : List Addr), σ = [some (.int (n : Int)), some (.ref F), v2, none, none] ∧ Same H H' ∧ H' F = some (.lst (ts.map V.ref)) ∧ Tps iV H' ts (allT m n))
      ⟨F0, none, [p0], rfl, s0, h0, t0⟩ (fun _ _ _ _ _ => trivial) ?_ ?_⟩
    · rintro m x σ H1' H1 hm ⟨F, v2, ts, rfl, s1, h1, t1⟩ ⟨rfl, rfl⟩
      rw [Int.toNat_natCast] at hm
      have pw : n ^ m ≤ 64 := Nat.le_trans (Nat.pow_le_pow_left hn m) (Nat.pow_le_pow_right (n := 4) (by decide) (show m ≤ 3 by omega))
      refine ⟨_, rfl, F, rfl, ⟨_, SqL.of h1⟩, fun D hD => ?_⟩
      have frD : H D = none := s1.free hD
      refine lc2_it (walk_list (xs := ts.map V.ref)) (fun i H' => Same H1 H' ∧ ∃ us : List Addr, H' D = some (.lst (us.map V.ref)) ∧ Tps iV H' us (((allT m n).take i).flatMap (ext n)))
        ⟨same_new hD, [], upd_same, Tps.nil⟩ (fun i H' _ h => SqL.of (h.1 _ _ h1)) ?_ ?_
      · rintro i x H2' H2 hi ⟨s2, us, hus, hts⟩ ⟨rfl, hx⟩
        obtain ⟨t, o, rfl, ht1, ho, htup⟩ := (t1.of_same s2).get hx
        have hi2 : i < (allT m n).length := (List.getElem?_eq_some_iff.mp ho).1
        refine ⟨rfl, ?_⟩
        refine ⟨_, rfl, _, rfl, by omega, by omega, in_it walk_range (fun j H' => Same H1 H' ∧ H' t = some (.tup (iV o)) ∧ ∃ us : List Addr, H' D = some (.lst (us.map V.ref)) ∧ Tps iV H' us (((allT m n).take i).flatMap (ext n) ++ (ext n o).take j))
          ⟨s2, htup, us, hus, by rw [List.take_zero, List.append_nil]; exact hts⟩ (fun _ _ _ _ => trivial) ?_ ?_⟩
        · rintro j x H3' H3 hj ⟨s3, ht3, us3, hus3, hts3⟩ ⟨rfl, rfl⟩
          rw [Int.toNat_natCast] at hj
          refine ⟨rfl, ?_⟩
          have ej : (ext n o)[j]? = some (o ++ [((j : Nat) : Int)]) := by
            unfold ext
            rw [List.getElem?_map, List.getElem?_range hj]
            rfl
          have lus : us3.length ≤ 900 := by
            rw [hts3.len, List.length_append, flat_len, List.length_take]
            have e1 : (ext n o).length = n := by unfold ext; rw [List.length_map, List.length_range]
            have e2 := allT_len n m
            have e3 : min i (allT m n).length * n ≤ 64 * 4 := Nat.mul_le_mul (by omega) hn
            rw [List.length_take, e1]
            omega
          have fin : ∀ H' p, Same H3 H' → H' p = some (.tup (iV (o ++ [((j : Nat) : Int)]))) → ∃ acc, H' D = some (.lst acc) ∧ acc.length < sizeLine ∧ (Same H1 (upd H' D (.lst (acc ++ [V.ref p]))) ∧ (upd H' D (.lst (acc ++ [V.ref p]))) t = some (.tup (iV o)) ∧
              ∃ us : List Addr, (upd H' D (.lst (acc ++ [V.ref p]))) D = some (.lst (us.map V.ref)) ∧ Tps iV (upd H' D (.lst (acc ++ [V.ref p]))) us (((allT m n).take i).flatMap (ext n) ++ (ext n o).take (j + 1))) := by
            intro H' p s4 hp
            have hus4 := s4 _ _ hus3
            refine ⟨_, hus4, by rw [List.length_map]; exact small1000 (by omega), same_upd (s3.trans s4) hD, ?_, us3 ++ [p], ?_, ?_⟩
            · rw [upd_ne (ne_of (s4 _ _ ht3) hus4 (by intro z; cases z))]
              exact s4 _ _ ht3
            · rw [upd_same, List.map_append]
              rfl
            · rw [take_snoc ej, ← List.append_assoc]
              refine Tps.snoc ((hts3.of_same s4).lst hus4) ?_
              rw [upd_ne (ne_of hp hus4 (by intro z; cases z))]
              exact hp
          refine ⟨_, rfl, _, rfl, by show 1 ≤ sizeLine; decide, fun T hT => ?_⟩
          have sT := same_new (o := .tup [V.int ((0 : Int) + (j : Nat))]) hT
          refine ⟨t, T, iV o, [V.int ((0 : Int) + (j : Nat))], rfl, rfl, SqT.of (sT _ _ ht3), SqT.of upd_same, ?_, fun e => ?_, (fun _ z => by cases z), fun _ _ p hp => ?_⟩
          · have : o.length = m := ((allT_mem).mp (List.mem_of_getElem? ho)).1
            unfold iV
            rw [List.length_map, this]
            exact Nat.le_of_lt (small1000 (by show m + 1 ≤ 1000; omega))
          · have eo : o = [] := List.map_eq_nil_iff.mp e
            refine fin _ T sT ?_
            rw [upd_same, eo]
            show some (HO.tup [V.int ((0 : Int) + (j : Nat))]) = _
            rw [Int.zero_add]
            rfl
          · refine fin _ p (sT.trans (same_new hp)) ?_
            rw [upd_same]
            show some (HO.tup (iV o ++ [V.int ((0 : Int) + (j : Nat))])) = _
            rw [Int.zero_add]
            unfold iV
            rw [List.map_append]
            rfl
        · rintro H3 ⟨s3, ht3, us3, hus3, hts3⟩
          refine ⟨s3, us3, hus3, ?_⟩
          rw [take_snoc ho, List.flatMap_append, List.flatMap_singleton]
          have e1 : (ext n o).take (n : Int).toNat = ext n o := by
            rw [List.take_of_length_le]
            unfold ext
            rw [List.length_map, List.length_range, Int.toNat_natCast]
            exact Nat.le_refl _
          rw [e1] at hts3
          exact hts3
      · rintro H2 ⟨s2, us, hus, hts⟩
        have e1 : (allT m n).take (ts.map V.ref).length = allT m n := by
          rw [List.length_map, t1.len, List.take_length]
        rw [e1] at hts
        exact ⟨D, _, us, rfl, s1.trans s2, hus, hts⟩
    · rintro σ H1 ⟨F, v2, ts, rfl, s1, h1, t1⟩
      rw [Int.toNat_natCast] at t1
      have pw : n ^ n ≤ 256 := Nat.le_trans (Nat.pow_le_pow_left hn n) (Nat.pow_le_pow_right (n := 4) (by decide) hn)
      refine ⟨_, rfl, F, rfl, ⟨_, SqL.of h1⟩, fun D hD => ?_⟩
      refine lc_it (walk_list (xs := ts.map V.ref)) (fun i H' => Same H1 H' ∧ ∃ us : List Addr, H' D = some (.lst (us.map V.ref)) ∧ Tps iV H' us (((allT n n).take i).filter rankB))
        ⟨same_new hD, [], upd_same, Tps.nil⟩ (fun i H' _ h => SqL.of (h.1 _ _ h1)) ?_ ?_
      · rintro i x H2' H2 hi ⟨s2, us, hus, hts⟩ ⟨rfl, hx⟩
        obtain ⟨t, o, rfl, ht1, ho, htup⟩ := (t1.of_same s2).get hx
        have lo : o.length = n := ((allT_mem).mp (List.mem_of_getElem? ho)).1
        have lss := oss_len o
        refine ⟨rfl, ?_⟩
        refine ⟨_, rfl, t, o, rfl, SqT.of htup, by omega, fun p1 hp1 => ⟨p1, _, _, rfl, upd_same, by omega, fun ns p2 hs hmm hl hp2 => ?_⟩⟩
        generalize hS1 : SetO w p1 (fun j => decide (j ∈ o)) (ossOf o).length = S1 at hp2 ⊢
        have sa := (same_new (o := S1) hp1).trans (same_new (o := .lst (ns.map V.int)) hp2)
        have ha : (upd (upd H2 p1 S1) p2 (.lst (ns.map V.int))) p2 = some (.lst (ns.map V.int)) := upd_same
        generalize upd (upd H2 p1 S1) p2 (.lst (ns.map V.int)) = H3 at sa ha
        refine ⟨_, rfl, t, o, rfl, SqT.of (sa _ _ htup), by omega, fun p3 hp3 => ⟨p3, _, _, rfl, upd_same, by omega, _, rfl, .of_le (by omega) (by omega) (by omega) (by omega), fun p4 hp4 => ?_⟩⟩
        have sb := (same_new (o := SetO w p3 (fun j => decide (j ∈ o)) (ossOf o).length) hp3).trans (same_new (o := .lst (rgV 0 ((ossOf o).length : Nat))) hp4)
        refine ⟨.list (pI ns), .list (pI (rngI (ossOf o).length)), .lst (SqL.of (sb _ _ ha)) (dp_pI _), .lst (SqL.of upd_same) (by rw [rgV_rngI]; exact dp_pI _), shaped_I _, shaped_I _, _, rfl, ?_⟩
        rw [PyData.eqv, eqv_pI, rank_test hs hmm hl]
        have s3 := sa.trans sb
        have hus3 := s3 _ _ hus
        have fs := filter_snoc rankB ho
        have lus : us.length ≤ 256 := by
          rw [hts.len]
          refine Nat.le_trans (List.length_filter_le _ _) ?_
          rw [List.length_take, allT_len]
          omega
        cases hrk : rankB o with
        | false =>
          refine iteF ?_
          rw [hrk, if_neg (by decide)] at fs
          exact ⟨s2.trans s3, us, hus3, by rw [fs]; exact hts.of_same s3⟩
        | true =>
          refine iteT ?_
          rw [hrk, if_pos rfl] at fs
          refine ⟨_, rfl, _, hus3, by rw [List.length_map]; exact small1000 (by omega), same_upd (s2.trans s3) hD, us ++ [t], by rw [upd_same, List.map_append]; rfl, ?_⟩
          rw [fs]
          refine Tps.snoc ((hts.of_same s3).lst hus3) ?_
          have ht5 := s3 _ _ htup
          rw [upd_ne (ne_of ht5 hus3 (by intro z; cases z))]
          exact ht5
      · rintro H2 ⟨s2, us, hus, hts⟩
        have e1 : (allT n n).take (ts.map V.ref).length = allT n n := by
          rw [List.length_map, t1.len, List.take_length]
        rw [e1] at hts
        exact q H2 D us (s1.trans s2) hus hts
end
end K54
namespace K54
open PySem PySem.Spec PyProof.Rows L2
/-! ### the orders of rows -/
noncomputable def comesB (rs : List (List Nat)) (o : List Int) : Bool := @decide (Comes rs o) (Classical.propDecidable _)
theorem comesB_iff {rs : List (List Nat)} {o : List Int} : comesB rs o = true ↔ Comes rs o := by
  unfold comesB
  exact @decide_eq_true_iff _ (Classical.propDecidable _)
noncomputable def ordersL (rs : List (List Nat)) : List (List Int) := (ranksL rs.length).filter (comesB rs)
def spOrders : Sp := fun vs H Q _ => ∃ (a : Addr) (rs : List (List Nat)), vs = [.ref a] ∧ H a = some (.lst (rs.map sV)) ∧ RowsOk rs ∧
  ∀ H' p ts, Same H H' → H p = none → H' p = some (.lst (ts.map V.ref)) → Tps iV H' ts (ordersL rs) → Q (.ref p) H'
theorem ranksL_len (n : Nat) (h : n ≤ 4) : (ranksL n).length ≤ 256 := by
  unfold ranksL
  refine Nat.le_trans (List.length_filter_le _ _) ?_
  rw [allT_len]
  exact Nat.le_trans (Nat.pow_le_pow_left h n) (Nat.pow_le_pow_right (n := 4) (by decide) h)
section
variable {P : Program} {w : World} {K : PySem.W.Frag} {mg : Str → Option Value} {base : Heap} {C f : Addr} {fd : FuncData}
abbrev NOrders : List Str := ["rows", "order"]
theorem scOrders : FnScope NOrders ["rows"] (defScope s_orders) := ⟨rfl, rfl, rfl, by decide +kernel, rfl, by decide +kernel, by decide +kernel⟩
theorem ok_orders (G : Txt mg) (DN : Df P w K mg base "need_rows" 2 ["rows"] spNeed) (DR : Df P w K mg base "ranks" 1 ["many"] spRanks) (DB : Df P w K mg base "order_behind" 8 ["rows", "order"] spBehind) (F : FnP K "orders" s_orders f fd) : FnOk P w K mg base CX0 9 f fd ["rows"] spOrders := by
  refine F.ok scOrders (fun vs H Q E h => ?_) (fun cdv A outer s H vs Q E hr h => ?_)
  · obtain ⟨a, rs, rfl, _⟩ := h
    rfl
  · obtain ⟨a, rs, rfl, ha, ok, q⟩ := h
    refine ⟨_, PSs.nox (pss_cons (ps_expr (pe_callD DN (hr.mono (by decide)) rfl (pa_cons (pv 0) pa_nil)))
      (pss_one (ps_ret (pe_lc (own := [("order", 1)]) rfl scOrders.nd (pi_list (pe_callD DR (hr.mono (by decide)) rfl (pa_cons (pe_callB call_len_seq (by rfl) G.len PySem.boot_len (pa_cons (pv 0) pa_nil)) pa_nil))) (blkOk_by (own := [("order", 1)]) (N := NOrders) (sc := defScope s_orders) (by decide +kernel)) (fun _ _ _ _ _ => pg_name (i := 1) scOrders.nd rfl (Or.inl rfl))
        (fun _ _ _ _ _ => pts_one (pt_cmp (pc_notN (pe_ix (r := rIxT K) ix_tup (pe_callD DB hr rfl (pa_cons (pv 0) (pa_cons (pv 1) pa_nil))) pe_int (fun _ _ => rfl)))))
        (fun _ _ _ _ _ => pv 1))))), ?_⟩
    refine ⟨_, rfl, a, rs, rfl, ha, ok, fun H1 s1 => ?_⟩
    refine ⟨_, rfl, a, _, rfl, .inl (SqL.of (s1 _ _ ha)), rs.length, by rw [List.length_map]; rfl, ok.len, fun H2 p ts s2 hp hts => ?_⟩
    have s12 := s1.trans s2
    have rl := ranksL_len rs.length ok.len
    refine ⟨p, rfl, ⟨_, SqL.of hp⟩, fun D hD => ?_⟩
    refine lc_it (walk_list (xs := ts.map V.ref)) (fun i H' => Same H2 H' ∧ ∃ us : List Addr, H' D = some (.lst (us.map V.ref)) ∧ Tps iV H' us (((ranksL rs.length).take i).filter (comesB rs)))
      ⟨same_new hD, [], upd_same, Tps.nil⟩ (fun i H' _ h => SqL.of (h.1 _ _ hp)) ?_ ?_
    · rintro i x H3' H3 hi ⟨s3, us, hus, hus2⟩ ⟨rfl, hx⟩
      obtain ⟨t, o, rfl, ht1, ho, htup⟩ := (hts.of_same s3).get hx
      have lo : o.length = rs.length := by
        have hm := List.mem_of_getElem? ho
        unfold ranksL at hm
        exact (allT_mem.mp (List.mem_filter.mp hm).1).1
      refine ⟨rfl, ?_⟩
      refine ⟨_, rfl, _, rfl, a, t, rs, o, rfl, s3 _ _ (s2 _ _ (s1 _ _ ha)), ok, htup, lo, fun H4 b w l s4 hb hw => ?_⟩
      have fs := filter_snoc (comesB rs) ho
      have hus4 := s4 _ _ hus
      have lus : us.length ≤ 256 := by
        rw [hus2.len]
        refine Nat.le_trans (List.length_filter_le _ _) ?_
        rw [List.length_take]
        omega
      refine ⟨b, _, 0, _, rfl, rfl, SqT.of hb, rfl, ?_⟩
      rcases hw with ⟨rfl, hn⟩ | ⟨⟨c, rfl⟩, hy⟩
      · refine ⟨_, rfl, ?_⟩
        refine iteF ?_
        rw [if_neg (fun z => hn (comesB_iff.mp z))] at fs
        exact ⟨s3.trans s4, us, hus4, by rw [fs]; exact hus2.of_same s4⟩
      · refine ⟨_, rfl, ?_⟩
        refine iteT ?_
        rw [if_pos (comesB_iff.mpr hy)] at fs
        refine ⟨_, rfl, _, hus4, by rw [List.length_map]; exact small1000 (by omega), same_upd (s3.trans s4) hD, us ++ [t], by rw [upd_same, List.map_append]; rfl, ?_⟩
        rw [fs]
        refine Tps.snoc ((hus2.of_same s4).lst hus4) ?_
        have ht5 := s4 _ _ htup
        rw [upd_ne (ne_of ht5 hus4 (by intro z; cases z))]
        exact ht5
    · rintro H3 ⟨s3, us, hus, hus2⟩
      have e1 : (ranksL rs.length).take (ts.map V.ref).length = ranksL rs.length := by
        rw [List.length_map, hts.len, List.take_length]
      rw [e1] at hus2
      exact q H3 D us (s12.trans s3) (s12.free hD) hus hus2
end
end K54
namespace K54
open PySem PySem.Spec PyProof.Rows L2
open PySem.W (ossOf oss_next oss_has oss_met oss_len oss_dups)
/-! ### places of numbers -/
theorem len_sub {xs ys : List Int} (hx : xs.Nodup) (h : ∀ k, k ∈ xs → k ∈ ys) : xs.length ≤ ys.length :=
  (List.subset_def.mpr (fun {a} ha => h a ha) |> hx.length_le_of_subset)
def below (xs : List Int) (x : Int) : List Int := xs.filter fun y => decide (y < x)
def num (xs : List Int) (x : Int) : Nat := (ossOf (below xs x)).length
def dense (xs : List Int) : List Int := xs.map fun x => ((num xs x : Nat) : Int)
theorem mem_below {xs : List Int} {x y : Int} : y ∈ below xs x ↔ y ∈ xs ∧ y < x := by
  unfold below
  rw [List.mem_filter, decide_eq_true_eq]
theorem num_le {xs : List Int} {x y : Int} (h : x ≤ y) : num xs x ≤ num xs y := by
  refine len_sub (oss_nodup _) fun k hk => ?_
  rw [oss_has, mem_below] at hk ⊢
  exact ⟨hk.1, by omega⟩
theorem snoc_nodup {xs : List Int} {x : Int} (h : xs.Nodup) (hx : x ∉ xs) : (xs ++ [x]).Nodup := by
  rw [List.nodup_append]
  refine ⟨h, by simp, fun a ha b hb => ?_⟩
  rw [List.mem_singleton] at hb
  rw [hb]
  exact fun e => hx (e ▸ ha)
theorem num_lt {xs : List Int} {x y : Int} (hx : x ∈ xs) (h : x < y) : num xs x < num xs y := by
  have n1 : (ossOf (below xs x) ++ [x]).Nodup := snoc_nodup (oss_nodup _) fun z => by
    rw [oss_has, mem_below] at z
    omega
  have := len_sub (ys := ossOf (below xs y)) n1 fun k hk => by
    rw [oss_has, mem_below]
    rcases List.mem_append.mp hk with hk | hk
    · rw [oss_has, mem_below] at hk
      exact ⟨hk.1, by omega⟩
    · rw [List.mem_singleton] at hk
      rw [hk]
      exact ⟨hx, h⟩
  rw [List.length_append, List.length_singleton] at this
  exact this
theorem num_top {xs : List Int} {x : Int} (hx : x ∈ xs) : num xs x < (ossOf xs).length := by
  have n1 : (ossOf (below xs x) ++ [x]).Nodup := snoc_nodup (oss_nodup _) fun z => by
    rw [oss_has, mem_below] at z
    omega
  have := len_sub (ys := ossOf xs) n1 fun k hk => by
    rw [oss_has]
    rcases List.mem_append.mp hk with hk | hk
    · rw [oss_has, mem_below] at hk
      exact hk.1
    · rw [List.mem_singleton] at hk
      rw [hk]
      exact hx
  rw [List.length_append, List.length_singleton] at this
  exact this
theorem dense_length (xs : List Int) : (dense xs).length = xs.length := List.length_map ..
theorem dense_iso (xs : List Int) : Iso (dense xs) xs := by
  refine ⟨dense_length xs, fun i j a b x y h1 h2 h3 h4 => ?_⟩
  unfold dense at h1 h2
  rw [List.getElem?_map, h3] at h1
  rw [List.getElem?_map, h4] at h2
  cases h1
  cases h2
  show ((num xs x : Nat) : Int) ≤ ((num xs y : Nat) : Int) ↔ x ≤ y
  constructor
  · intro h
    by_cases q : x ≤ y
    · exact q
    · have := num_lt (xs := xs) (List.mem_of_getElem? h4) (show y < x by omega)
      omega
  · intro h
    have := num_le (xs := xs) h
    omega
theorem cover {k : Nat} {L : List Int} (hn : L.Nodup) (hl : L.length = k) (hm : ∀ x ∈ L, 0 ≤ x ∧ x < k) {x : Int} (h0 : 0 ≤ x) (h1 : x < k) : x ∈ L := by
  by_cases q : x ∈ L
  · exact q
  · have := len_sub (ys := rngI k) (snoc_nodup hn q) fun y hy => by
      rw [rngI_mem]
      rcases List.mem_append.mp hy with hy | hy
      · exact hm y hy
      · rw [List.mem_singleton] at hy
        rw [hy]
        exact ⟨h0, h1⟩
    unfold rngI at this
    rw [List.length_append, List.length_singleton, List.length_map, List.length_range] at this
    omega
theorem dense_rank (xs : List Int) : RankP (dense xs) := by
  refine ⟨(ossOf xs).length, fun x => ⟨fun h => ?_, fun h => ?_⟩⟩
  · obtain ⟨y, hy, rfl⟩ := List.mem_map.mp h
    have := num_top hy
    omega
  · have n1 : ((ossOf xs).map fun y => ((num xs y : Nat) : Int)).Nodup := by
      unfold List.Nodup
      rw [List.pairwise_map]
      refine List.Pairwise.imp_of_mem (fun {a b} ha hb hab => ?_) (oss_nodup xs)
      rw [oss_has] at ha hb
      intro e
      have e2 : num xs a = num xs b := by exact_mod_cast e
      rcases Int.lt_or_gt_of_ne hab with q | q
      · have := num_lt ha q
        omega
      · have := num_lt hb q
        omega
    have := cover n1 (by rw [List.length_map]) (fun z hz => by
      obtain ⟨y, hy, rfl⟩ := List.mem_map.mp hz
      rw [oss_has] at hy
      have := num_top hy
      omega) h.1 h.2
    obtain ⟨y, hy, rfl⟩ := List.mem_map.mp this
    rw [oss_has] at hy
    exact List.mem_map.mpr ⟨y, hy, rfl⟩
theorem mem_ranks {n : Nat} {o : List Int} : o ∈ ranksL n ↔ o.length = n ∧ (∀ x ∈ o, 0 ≤ x ∧ x < n) ∧ RankP o := by
  unfold ranksL
  rw [List.mem_filter, allT_mem, rankB_iff, and_assoc]
theorem dense_mem (xs : List Int) : dense xs ∈ ranksL xs.length := by
  refine mem_ranks.mpr ⟨dense_length xs, fun x hx => ?_, dense_rank xs⟩
  obtain ⟨y, hy, rfl⟩ := List.mem_map.mp hx
  have := num_top hy
  have := oss_len xs
  omega
theorem Iso.refl (xs : List Int) : Iso xs xs := ⟨rfl, fun i j a b x y h1 h2 h3 h4 => by
  rw [h1] at h3
  rw [h2] at h4
  cases h3
  cases h4
  exact Iff.rfl⟩
theorem rank_le {o o' : List Int} (h : RankP o) (h' : RankP o') (hi : Iso o o') : ∀ (n : Nat) (i : Nat) (a b : Int), o[i]? = some a → o'[i]? = some b → a = (n : Int) → a ≤ b := by
  obtain ⟨k, hk⟩ := h
  obtain ⟨k', hk'⟩ := h'
  intro n
  induction n with
  | zero =>
    intro i a b h1 h2 e
    have := ((hk' b).mp (List.mem_of_getElem? h2)).1
    omega
  | succ n ih =>
    intro i a b h1 h2 e
    have ha := (hk a).mp (List.mem_of_getElem? h1)
    obtain ⟨j, hj⟩ := List.mem_iff_getElem?.mp ((hk (n : Int)).mpr ⟨by omega, by omega⟩)
    have lj : j < o'.length := by rw [← hi.1]; exact (List.getElem?_eq_some_iff.mp hj).1
    have hj' : o'[j]? = some o'[j] := List.getElem?_eq_getElem lj
    have r1 := ih j _ _ hj hj' rfl
    have r2 := hi.2 i j a (n : Int) b o'[j] h1 hj h2 hj'
    have r3 : ¬ b ≤ o'[j] := fun z => by
      have := r2.mpr z
      omega
    omega
theorem rank_uniq {o o' : List Int} (h : RankP o) (h' : RankP o') (hi : Iso o o') : o = o' := by
  refine List.ext_getElem? fun i => ?_
  by_cases q : i < o.length
  · have q' : i < o'.length := by rw [← hi.1]; exact q
    have e1 : o[i]? = some o[i] := List.getElem?_eq_getElem q
    have e2 : o'[i]? = some o'[i] := List.getElem?_eq_getElem q'
    obtain ⟨k, hk⟩ := id h
    obtain ⟨k', hk'⟩ := id h'
    have a1 := ((hk o[i]).mp (List.getElem_mem q)).1
    have a2 := ((hk' o'[i]).mp (List.getElem_mem q')).1
    have r1 := rank_le h h' hi o[i].toNat i _ _ e1 e2 (by omega)
    have r2 := rank_le h' h hi.symm o'[i].toNat i _ _ e2 e1 (by omega)
    rw [e1, e2]
    congr 1
    omega
  · rw [List.getElem?_eq_none (by omega), List.getElem?_eq_none (by have := hi.1; omega)]
theorem rank_dense {n : Nat} {o xs : List Int} (h : o ∈ ranksL n) (hi : Iso o xs) : o = dense xs :=
  rank_uniq (mem_ranks.mp h).2.2 (dense_rank xs) (hi.trans (dense_iso xs).symm)
theorem mem_orders {rs : List (List Nat)} {o : List Int} : o ∈ ordersL rs ↔ o ∈ ranksL rs.length ∧ Comes rs o := by
  unfold ordersL
  rw [List.mem_filter, comesB_iff]
/-- a timetable's order is among them -/
theorem table_mem {rs : List (List Nat)} {B : Int} {T : Tab} {t : Int} (hT : Good B T) (ht : In B t) : dense (rs.map (goT B T t)) ∈ ordersL rs := by
  refine mem_orders.mpr ⟨?_, B, T, t, hT, ht, dense_iso _⟩
  have := dense_mem (rs.map (goT B T t))
  rw [List.length_map] at this
  exact this
theorem orders_map {rs rs' : List (List Nat)} {Φ : List Int → List Int}
    (h1 : ∀ o xs, o ∈ ranksL rs.length → xs.length = rs.length → Iso o xs → Φ o ∈ ranksL rs'.length)
    (h2 : ∀ B T t, Good B T → In B t → ∃ T' t', Good B T' ∧ In B t' ∧ ∀ o, o ∈ ranksL rs.length → Iso o (rs.map (goT B T t)) → Iso (Φ o) (rs'.map (goT B T' t')))
    (h3 : ∀ B T' t', Good B T' → In B t' → ∃ T t, Good B T ∧ In B t ∧ ∀ o, o ∈ ranksL rs.length → Iso o (rs.map (goT B T t)) → Iso (Φ o) (rs'.map (goT B T' t'))) :
    ∀ o', o' ∈ (ordersL rs).map Φ ↔ o' ∈ ordersL rs' := by
  intro o'
  constructor
  · intro h
    obtain ⟨o, ho, rfl⟩ := List.mem_map.mp h
    obtain ⟨hr, B, T, t, hT, ht, hi⟩ := mem_orders.mp ho
    obtain ⟨T', t', hT', ht', k⟩ := h2 B T t hT ht
    exact mem_orders.mpr ⟨h1 o _ hr (by rw [List.length_map]) hi, B, T', t', hT', ht', k o hr hi⟩
  · intro h
    obtain ⟨hr, B, T', t', hT', ht', hi⟩ := mem_orders.mp h
    obtain ⟨T, t, hT, ht, k⟩ := h3 B T' t' hT' ht'
    have ho := table_mem (rs := rs) hT ht
    obtain ⟨hro, _⟩ := mem_orders.mp ho
    refine List.mem_map.mpr ⟨_, ho, ?_⟩
    have e1 := h1 _ (rs.map (goT B T t)) hro (by rw [List.length_map]) (dense_iso _)
    exact rank_uniq (mem_ranks.mp e1).2.2 (mem_ranks.mp hr).2.2 ((k _ hro (dense_iso _)).trans hi.symm)
/-! ### places in another order -/
def pm {α : Type} (d : α) (s : List Nat) (o : List α) : List α := s.map fun k => o.getD k d
theorem pm_get {α : Type} {d : α} {s : List Nat} {o : List α} {i : Nat} {a : α} (hs : ∀ k ∈ s, k < o.length) (h : (pm d s o)[i]? = some a) : ∃ k, s[i]? = some k ∧ o[k]? = some a := by
  unfold pm at h
  rw [List.getElem?_map] at h
  obtain ⟨k, hk, rfl⟩ := Option.map_eq_some_iff.mp h
  refine ⟨k, hk, ?_⟩
  have := hs k (List.mem_of_getElem? hk)
  rw [List.getD_eq_getElem?_getD, List.getElem?_eq_getElem this]
  rfl
theorem pm_iso {s : List Nat} {o xs : List Int} (hs : ∀ k ∈ s, k < o.length) (h : Iso o xs) : Iso (pm 0 s o) (pm 0 s xs) := by
  refine ⟨by unfold pm; rw [List.length_map, List.length_map], fun i j a b x y h1 h2 h3 h4 => ?_⟩
  obtain ⟨k1, e1, f1⟩ := pm_get hs h1
  obtain ⟨k2, e2, f2⟩ := pm_get hs h2
  obtain ⟨k3, e3, f3⟩ := pm_get (fun k hk => by rw [← h.1]; exact hs k hk) h3
  obtain ⟨k4, e4, f4⟩ := pm_get (fun k hk => by rw [← h.1]; exact hs k hk) h4
  rw [e1] at e3
  rw [e2] at e4
  cases e3
  cases e4
  exact h.2 _ _ _ _ _ _ f1 f2 f3 f4
theorem pm_map {s : List Nat} {rs : List (List Nat)} (g : List Nat → Int) (hs : ∀ k ∈ s, k < rs.length) : (pm [] s rs).map g = pm 0 s (rs.map g) := by
  unfold pm
  rw [List.map_map]
  refine List.map_congr_left fun k hk => ?_
  have := hs k hk
  show g (rs.getD k []) = (rs.map g).getD k 0
  rw [List.getD_eq_getElem?_getD, List.getD_eq_getElem?_getD, List.getElem?_map, List.getElem?_eq_getElem this]
  rfl
theorem orders_perm {rs : List (List Nat)} {s : List Nat} (hs : s.Perm (List.range rs.length)) : ∀ o', o' ∈ (ordersL rs).map (pm 0 s) ↔ o' ∈ ordersL (pm [] s rs) := by
  have hlt : ∀ k ∈ s, k < rs.length := fun k hk => List.mem_range.mp (hs.mem_iff.mp hk)
  have lp : (pm [] s rs).length = rs.length := by
    unfold pm
    rw [List.length_map, hs.length_eq, List.length_range]
  have key : ∀ B T t, ∀ o, o ∈ ranksL rs.length → Iso o (rs.map (goT B T t)) → Iso (pm 0 s o) ((pm [] s rs).map (goT B T t)) := fun B T t o ho hi => by
    rw [pm_map _ hlt]
    exact pm_iso (fun k hk => by rw [(mem_ranks.mp ho).1]; exact hlt k hk) hi
  refine orders_map (fun o xs ho hl hi => ?_) (fun B T t hT ht => ⟨T, t, hT, ht, key B T t⟩) (fun B T t hT ht => ⟨T, t, hT, ht, key B T t⟩)
  obtain ⟨h1, h2, k, hk⟩ := mem_ranks.mp ho
  have mem : ∀ x, x ∈ pm 0 s o ↔ x ∈ o := by
    intro x
    constructor
    · intro h
      obtain ⟨i, hi⟩ := List.mem_iff_getElem?.mp h
      obtain ⟨_, _, e⟩ := pm_get (fun k hk => by rw [h1]; exact hlt k hk) hi
      exact List.mem_of_getElem? e
    · intro h
      obtain ⟨i, hi⟩ := List.mem_iff_getElem?.mp h
      have li := (List.getElem?_eq_some_iff.mp hi).1
      refine List.mem_map.mpr ⟨i, hs.mem_iff.mpr (List.mem_range.mpr (by omega)), ?_⟩
      rw [List.getD_eq_getElem?_getD, hi]
      rfl
  rw [lp]
  refine mem_ranks.mpr ⟨by unfold pm; rw [List.length_map, hs.length_eq, List.length_range], fun x hx => h2 x ((mem x).mp hx), k, fun x => (mem x).trans (hk x)⟩
/-! ### other names -/
theorem goT_ren {B : Int} {T T' : Tab} {f : Nat → Nat} : ∀ (r : List Nat) (t : Int), (∀ c ∈ r, isF (f c) = isF c ∧ T' (lo (f c)) = T (lo c)) → goT B T' t (r.map f) = goT B T t r
  | [], _, _ => rfl
  | c :: r, t, h => by
    obtain ⟨h1, h2⟩ := h c (List.mem_cons_self ..)
    show goT B T' (stepT B T' t (f c)) (r.map f) = goT B T (stepT B T t c) r
    have e : stepT B T' t (f c) = stepT B T t c := by
      unfold stepT
      rw [h1, h2]
    rw [e]
    exact goT_ren r _ fun d hd => h d (List.mem_cons_of_mem _ hd)
theorem orders_ren {rs : List (List Nat)} {f : Nat → Nat} {g : Nat → Nat} (hok : ∀ r ∈ rs, RowOk r) (h1 : ∀ c, isStp c = true → isF (f c) = isF c) (h2 : ∀ c, isStp c = true → g (lo (f c)) = lo c) (h3 : ∀ c, isStp c = true → lo (f c) = f (lo c)) :
    ordersL (rs.map (List.map f)) = ordersL rs := by
  unfold ordersL
  rw [List.length_map]
  refine List.filter_congr fun o _ => ?_
  rw [Bool.eq_iff_iff, comesB_iff, comesB_iff]
  constructor
  · rintro ⟨B, T, t, hT, ht, hi⟩
    refine ⟨B, fun x => T (f x), t, fun c => hT _, ht, ?_⟩
    rw [List.map_map] at hi
    have e : (rs.map (goT B (fun x => T (f x)) t)) = rs.map (goT B T t ∘ List.map f) := List.map_congr_left fun r hr => by
      refine (goT_ren (T := fun x => T (f x)) (T' := T) r t fun c hc => ⟨h1 c (hok r hr c hc), ?_⟩).symm
      rw [h3 c (hok r hr c hc)]
    rw [e]
    exact hi
  · rintro ⟨B, T, t, hT, ht, hi⟩
    refine ⟨B, fun x => T (g x), t, fun c => hT _, ht, ?_⟩
    rw [List.map_map]
    have e : (rs.map (goT B T t)) = rs.map (goT B (fun x => T (g x)) t ∘ List.map f) := List.map_congr_left fun r hr => by
      refine (goT_ren (T := T) (T' := fun x => T (g x)) r t fun c hc => ⟨h1 c (hok r hr c hc), ?_⟩).symm
      show T (g (lo (f c))) = T (lo c)
      rw [h2 c (hok r hr c hc)]
    rw [← e]
    exact hi
/-! ### the other way round -/
def negR (rs : List (Int × Int)) : List (Int × Int) := rs.map fun r => (-r.2, -r.1)
def negT (T : Tab) : Tab := fun c => negR (T c)
theorem negT_good {B : Int} {T : Tab} (h : Good B T) : Good B (negT T) := fun c r hr => by
  obtain ⟨q, hq, rfl⟩ := List.mem_map.mp hr
  have := h c q hq
  refine ⟨?_, ?_, ?_⟩ <;> (show (_ : Int) ≤ _) <;> simp only <;> omega
theorem thru_neg {B : Int} {rs : List (Int × Int)} {t s : Int} : Thru B (negR rs) (-s) (-t) ↔ Thru B rs t s := by
  unfold Thru
  constructor
  · rintro (h | h | ⟨r, hr, h1, h2⟩)
    · exact .inr (.inl (by omega))
    · exact .inl (by omega)
    · obtain ⟨q, hq, rfl⟩ := List.mem_map.mp hr
      exact .inr (.inr ⟨q, hq, by simp only at h1 h2; omega, by simp only at h1 h2; omega⟩)
  · rintro (h | h | ⟨r, hr, h1, h2⟩)
    · exact .inr (.inl (by omega))
    · exact .inl (by omega)
    · exact .inr (.inr ⟨_, List.mem_map.mpr ⟨r, hr, rfl⟩, by simp only; omega, by simp only; omega⟩)
theorem fBeg_neg {B : Int} {rs : List (Int × Int)} (hr : Rides B rs) (hr' : Rides B (negR rs)) {t : Int} (ht : In B t) : fBeg B (negR rs) (-t) = -fEnd B rs t := by
  have i1 := fEnd_in hr ht
  have i2 := fBeg_in hr' (s := -t) ⟨by have := ht.2; omega, by have := ht.1; omega⟩
  have a1 : -fEnd B rs t ≤ fBeg B (negR rs) (-t) := by
    refine (le_fBeg (by have := i1.1; omega)).mpr ?_
    rw [thru_neg]
    exact (fEnd_le i1.1).mp (Int.le_refl _)
  have a2 : fEnd B rs t ≤ -fBeg B (negR rs) (-t) := by
    refine (fEnd_le (by have := i2.2; omega)).mpr ?_
    rw [← thru_neg, Int.neg_neg]
    exact (le_fBeg i2.2).mp (Int.le_refl _)
  omega
theorem fEnd_neg {B : Int} {rs : List (Int × Int)} (hr : Rides B rs) (hr' : Rides B (negR rs)) {t : Int} (ht : In B t) : fEnd B (negR rs) (-t) = -fBeg B rs t := by
  have i1 := fBeg_in hr ht
  have i2 := fEnd_in hr' (t := -t) ⟨by have := ht.2; omega, by have := ht.1; omega⟩
  have a1 : fEnd B (negR rs) (-t) ≤ -fBeg B rs t := by
    refine (fEnd_le (by have := i1.2; omega)).mpr ?_
    rw [thru_neg]
    exact (le_fBeg i1.2).mp (Int.le_refl _)
  have a2 : -fEnd B (negR rs) (-t) ≤ fBeg B rs t := by
    refine (le_fBeg (by have := i2.1; omega)).mpr ?_
    rw [← thru_neg, Int.neg_neg]
    exact (fEnd_le i2.1).mp (Int.le_refl _)
  omega
theorem ctr_stp {c : Nat} (h : isStp c = true) : isF (ctr c) = !isF c ∧ lo (ctr c) = lo c ∧ isStp (ctr c) = true ∧ ctr (ctr c) = c := by
  have key : ∀ c ∈ [65, 66, 67, 68, 97, 98, 99, 100], isF (ctr c) = !isF c ∧ lo (ctr c) = lo c ∧ isStp (ctr c) = true ∧ ctr (ctr c) = c := by decide
  exact key c (stp_cases h)
theorem goT_neg {B : Int} {T : Tab} (hT : Good B T) : ∀ (r : List Nat) (t : Int), RowOk r → In B t → goT B (negT T) (-t) (r.map ctr) = -goT B T t r
  | [], _, _, _ => rfl
  | c :: r, t, h, ht => by
    obtain ⟨h1, h2, _⟩ := ctr_stp (h c (List.mem_cons_self ..))
    show goT B (negT T) (stepT B (negT T) (-t) (ctr c)) (r.map ctr) = -goT B T (stepT B T t c) r
    have e : stepT B (negT T) (-t) (ctr c) = -stepT B T t c := by
      unfold stepT
      rw [h1, h2]
      cases isF c with
      | true => exact fBeg_neg (hT _) (negT_good hT _) ht
      | false => exact fEnd_neg (hT _) (negT_good hT _) ht
    rw [e]
    exact goT_neg hT r _ (fun d hd => h d (List.mem_cons_of_mem _ hd)) (stepT_in hT ht c)
def negO (o : List Int) : List Int := o.map fun x => 0 - x
theorem neg_iso {o xs : List Int} (h : Iso o xs) : Iso (negO o) (xs.map fun x => -x) := by
  refine ⟨by unfold negO; rw [List.length_map, List.length_map, h.1], fun i j a b x y h1 h2 h3 h4 => ?_⟩
  unfold negO at h1 h2
  rw [List.getElem?_map] at h1 h2 h3 h4
  obtain ⟨a', e1, rfl⟩ := Option.map_eq_some_iff.mp h1
  obtain ⟨b', e2, rfl⟩ := Option.map_eq_some_iff.mp h2
  obtain ⟨x', e3, rfl⟩ := Option.map_eq_some_iff.mp h3
  obtain ⟨y', e4, rfl⟩ := Option.map_eq_some_iff.mp h4
  have := h.2 j i b' a' y' x' e2 e1 e4 e3
  omega
theorem swap_swap {r : List Nat} (h : RowOk r) : (r.map ctr).map ctr = r := by
  rw [List.map_map]
  have : r.map (ctr ∘ ctr) = r.map id := List.map_congr_left fun c hc => (ctr_stp (h c hc)).2.2.2
  rw [this, List.map_id]
theorem swap_ok {r : List Nat} (h : RowOk r) : RowOk (r.map ctr) := fun c hc => by
  obtain ⟨d, hd, rfl⟩ := List.mem_map.mp hc
  exact (ctr_stp (h d hd)).2.2.1
theorem orders_swap {rs : List (List Nat)} (hok : ∀ r ∈ rs, RowOk r) : ∀ o', o' ∈ (ordersL rs).map (fun o => dense (negO o)) ↔ o' ∈ ordersL (rs.map (List.map ctr)) := by
  have neg_in : ∀ {B t : Int}, In B t → In B (-t) := fun h => ⟨by have := h.2; omega, by have := h.1; omega⟩
  have key : ∀ B T t, Good B T → In B t → ∀ o, Iso o (rs.map (goT B T t)) → Iso (dense (negO o)) ((rs.map (List.map ctr)).map (goT B (negT T) (-t))) := fun B T t hT ht o hi => by
    have e : (rs.map (List.map ctr)).map (goT B (negT T) (-t)) = (rs.map (goT B T t)).map fun x => -x := by
      rw [List.map_map, List.map_map]
      exact List.map_congr_left fun r hr => goT_neg hT r t (hok r hr) ht
    rw [e]
    exact (dense_iso _).trans (neg_iso hi)
  have nn : ∀ T : Tab, negT (negT T) = T := fun T => by
    funext c
    unfold negT negR
    rw [List.map_map]
    have : (T c).map ((fun r : Int × Int => (-r.2, -r.1)) ∘ fun r => (-r.2, -r.1)) = (T c).map id := List.map_congr_left fun r _ => by
      show ((- -r.1, - -r.2) : Int × Int) = r
      rw [Int.neg_neg, Int.neg_neg]
    rw [this, List.map_id]
  refine orders_map (fun o xs ho hl hi => ?_) (fun B T t hT ht => ⟨negT T, -t, negT_good hT, neg_in ht, fun o _ hi => key B T t hT ht o hi⟩) (fun B T t hT ht => ⟨negT T, -t, negT_good hT, neg_in ht, fun o _ hi => ?_⟩)
  · have := dense_mem (negO o)
    have e : (negO o).length = rs.length := by unfold negO; rw [List.length_map, hi.1, hl]
    rw [e] at this
    rw [List.length_map]
    exact this
  · have := key B (negT T) (-t) (negT_good hT) (neg_in ht) o hi
    rw [nn, Int.neg_neg] at this
    exact this
/-! ### fewer rows, one row twice -/
theorem tail_iso {o xs : List Int} (h : Iso o xs) : Iso o.tail xs.tail :=
  ⟨by rw [List.length_tail, List.length_tail, h.1], fun i j a b x y h1 h2 h3 h4 => by
    rw [List.getElem?_tail] at h1 h2 h3 h4
    exact h.2 _ _ _ _ _ _ h1 h2 h3 h4⟩
theorem orders_tail {rs : List (List Nat)} : ∀ o', o' ∈ (ordersL rs).map (fun o => dense o.tail) ↔ o' ∈ ordersL rs.tail := by
  have key : ∀ B T t, ∀ o, o ∈ ranksL rs.length → Iso o (rs.map (goT B T t)) → Iso (dense o.tail) (rs.tail.map (goT B T t)) := fun B T t o _ hi => by
    rw [List.map_tail]
    exact (dense_iso _).trans (tail_iso hi)
  refine orders_map (fun o xs ho hl hi => ?_) (fun B T t hT ht => ⟨T, t, hT, ht, key B T t⟩) (fun B T t hT ht => ⟨T, t, hT, ht, key B T t⟩)
  have := dense_mem o.tail
  rw [List.length_tail, hi.1, hl, ← List.length_tail] at this
  exact this
def dup (o : List Int) : List Int := o ++ [o.headD 0]
theorem dup_iso {o xs : List Int} (h : Iso o xs) (h0 : 0 < o.length) : Iso (dup o) (xs ++ [xs.headD 0]) := by
  have g : ∀ (zs : List Int) (i : Nat) (a : Int), 0 < zs.length → (zs ++ [zs.headD 0])[i]? = some a → zs[if i < zs.length then i else 0]? = some a := fun zs i a hz e => by
    by_cases q : i < zs.length
    · rw [if_pos q]
      rw [List.getElem?_append_left q] at e
      exact e
    · rw [if_neg q]
      rw [List.getElem?_append_right (by omega)] at e
      cases zs with
      | nil => cases hz
      | cons z zs =>
        have l1 := (List.getElem?_eq_some_iff.mp e).1
        rw [List.length_singleton] at l1
        have e0 : i - (z :: zs).length = 0 := by omega
        rw [e0] at e
        exact e
  refine ⟨by unfold dup; rw [List.length_append, List.length_append, h.1]; rfl, fun i j a b x y h1 h2 h3 h4 => ?_⟩
  have hx0 : 0 < xs.length := by rw [← h.1]; exact h0
  have r1 := g o i a h0 h1
  have r2 := g o j b h0 h2
  have r3 := g xs i x hx0 h3
  have r4 := g xs j y hx0 h4
  rw [← h.1] at r3 r4
  exact h.2 _ _ _ _ _ _ r1 r2 r3 r4
theorem orders_dup {rs : List (List Nat)} (h0 : 0 < rs.length) : ∀ o', o' ∈ (ordersL rs).map dup ↔ o' ∈ ordersL (rs ++ [rs.headD []]) := by
  have key : ∀ B T t, ∀ o, o ∈ ranksL rs.length → Iso o (rs.map (goT B T t)) → Iso (dup o) ((rs ++ [rs.headD []]).map (goT B T t)) := fun B T t o ho hi => by
    have e : (rs ++ [rs.headD []]).map (goT B T t) = rs.map (goT B T t) ++ [(rs.map (goT B T t)).headD 0] := by
      cases rs with
      | nil => cases h0
      | cons r rs => rw [List.map_append]; rfl
    rw [e]
    exact dup_iso hi (by rw [(mem_ranks.mp ho).1]; exact h0)
  refine orders_map (fun o xs ho hl hi => ?_) (fun B T t hT ht => ⟨T, t, hT, ht, key B T t⟩) (fun B T t hT ht => ⟨T, t, hT, ht, key B T t⟩)
  obtain ⟨h1, h2, k, hk⟩ := mem_ranks.mp ho
  have mem : ∀ x, x ∈ dup o ↔ x ∈ o := fun x => by
    unfold dup
    rw [List.mem_append, List.mem_singleton]
    cases o with
    | nil => simp only [List.length_nil] at h1; omega
    | cons z zs =>
      constructor
      · rintro (h | rfl)
        · exact h
        · exact List.mem_cons_self ..
      · exact .inl
  refine mem_ranks.mpr ⟨by unfold dup; rw [List.length_append, List.length_append, h1]; rfl, fun x hx => ?_, k, fun x => (mem x).trans (hk x)⟩
  have := h2 x ((mem x).mp hx)
  rw [List.length_append, List.length_singleton]
  omega
end K54
namespace K54
open PySem PySem.Spec PyProof.Rows L2
/-! ### the object that the law draws from -/
def dK (x : Int) (g l : Addr) (t : Nat) : List (Key × V) := [(Sum.inr ("digits" : Str), .int x), (Sum.inr ("great" : Str), .ref g), (Sum.inr ("lumps" : Str), .ref l), (Sum.inr ("turn" : Str), .int (t : Int))]
section
variable (x y : Int) (g l : Addr) (t u : Nat)
theorem dK_digits : valV (dK x g l t) (Sum.inr ("digits" : Str)) = some (.int x) := by rfl
theorem dK_great : valV (dK x g l t) (Sum.inr ("great" : Str)) = some (.ref g) := by rfl
theorem dK_lumps : valV (dK x g l t) (Sum.inr ("lumps" : Str)) = some (.ref l) := by rfl
theorem dK_turn : valV (dK x g l t) (Sum.inr ("turn" : Str)) = some (.int (t : Int)) := by rfl
theorem dK_putd : putK (dK x g l t) (Sum.inr ("digits" : Str)) (.int y) = dK y g l t := by rfl
theorem dK_putt : putK (dK x g l t) (Sum.inr ("turn" : Str)) (.int (u : Int)) = dK x g l u := by rfl
theorem dK_merge : mergeK [] (dK x g l t) = dK x g l t := by rfl
end
structure Dw (N : Nat) (d g : Addr) (B H : Hp) : Prop where
  same : Same B H
  bd : B d = none
  bg : B g = none
  hd : ∃ (x : Int) (l : Addr) (ls : List Int) (t : Nat), H d = some (.dK (dK x g l t)) ∧ H l = some (.lst (ls.map V.int)) ∧ B l = none ∧ l ≠ g ∧ 0 ≤ x ∧ ls.length ≤ 63 ∧ (∀ y ∈ ls, 0 ≤ y ∧ y < 10 ^ 18) ∧ t ≤ N
  hg : ∃ gs : List Int, H g = some (.lst (gs.map V.int)) ∧ ∀ y ∈ gs, 0 ≤ y
theorem Dw.on {N : Nat} {d g : Addr} {B H H' : Hp} (h : Dw N d g B H) (s : Same H H') : Dw N d g B H' :=
  ⟨h.same.trans s, h.bd, h.bg, let ⟨x, l, ls, t, e, e2, r⟩ := h.hd; ⟨x, l, ls, t, s _ _ e, s _ _ e2, r⟩, let ⟨gs, e, r⟩ := h.hg; ⟨gs, s _ _ e, r⟩⟩
theorem Dw.le {N M : Nat} {d g : Addr} {B H : Hp} (h : Dw N d g B H) (hm : N ≤ M) : Dw M d g B H :=
  ⟨h.same, h.bd, h.bg, let ⟨x, l, ls, t, e, e2, e3, e4, e5, e6, e7, e8⟩ := h.hd; ⟨x, l, ls, t, e, e2, e3, e4, e5, e6, e7, Nat.le_trans e8 hm⟩, h.hg⟩
theorem Dw.nd {N : Nat} {d g : Addr} {B H : Hp} (h : Dw N d g B H) {a : Addr} {o : HO} (e : B a = some o) : a ≠ d := fun z => by rw [z, h.bd] at e; cases e
theorem Dw.ng {N : Nat} {d g : Addr} {B H : Hp} (h : Dw N d g B H) {a : Addr} {o : HO} (e : B a = some o) : a ≠ g := fun z => by rw [z, h.bg] at e; cases e
theorem same_both {B H : Hp} {a : Addr} {o : HO} (h : Same B H) : Same (upd B a o) (upd H a o) := fun c u hc => by
  by_cases q : c = a
  · rw [q, upd_same] at hc ⊢
    exact hc
  · rw [upd_ne q] at hc ⊢
    exact h _ _ hc
theorem Dw.wr {N : Nat} {d g : Addr} {B H : Hp} (h : Dw N d g B H) {a : Addr} {o : HO} (nd : d ≠ a) (ng : g ≠ a) (nl : ∀ (l : Addr) (ls : List Int), H l = some (.lst (ls.map V.int)) → B l = none → l ≠ a) : Dw N d g (upd B a o) (upd H a o) := by
  obtain ⟨x, l, ls, t, e1, e2, e3, e4⟩ := h.hd
  obtain ⟨gs, f1, f2⟩ := h.hg
  have nl := nl l ls e2 e3
  exact ⟨same_both h.same, by rw [upd_ne nd]; exact h.bd, by rw [upd_ne ng]; exact h.bg, ⟨x, l, ls, t, by rw [upd_ne nd]; exact e1, by rw [upd_ne nl]; exact e2, by rw [upd_ne nl]; exact e3, e4⟩, gs, by rw [upd_ne ng]; exact f1, f2⟩
/-- a new object -/
theorem Dw.new {N : Nat} {d g : Addr} {B H : Hp} (h : Dw N d g B H) {a : Addr} {o : HO} (e : H a = none) : Dw N d g (upd B a o) (upd H a o) := by
  obtain ⟨x, l, ls, t, e1, _⟩ := h.hd
  obtain ⟨gs, f1, _⟩ := h.hg
  exact h.wr (fun z => by rw [z, e] at e1; cases e1) (fun z => by rw [z, e] at f1; cases f1) fun l ls hl _ z => by rw [z, e] at hl; cases hl
theorem Dw.fr {N : Nat} {d g : Addr} {B H : Hp} (h : Dw N d g B H) {a : Addr} (e : H a = none) : B a = none := h.same.free e
/-- an object of one's own is written anew -/
theorem Dw.put {N : Nat} {d g : Addr} {B H : Hp} (h : Dw N d g B H) {a : Addr} {o o' : HO} (e : B a = some o) : Dw N d g (upd B a o') (upd H a o') :=
  h.wr (Ne.symm (h.nd e)) (Ne.symm (h.ng e)) fun l ls _ hb z => by rw [z, e] at hb; cases hb
/-- the heap may be told in fewer words -/
theorem Dw.down {N : Nat} {d g : Addr} {B B' H : Hp} (h : Dw N d g B H) (s : Same B' B) : Dw N d g B' H :=
  ⟨s.trans h.same, s.free h.bd, s.free h.bg, let ⟨x, l, ls, t, e, e2, e3, r⟩ := h.hd; ⟨x, l, ls, t, e, e2, s.free e3, r⟩, h.hg⟩
theorem Dw.up {N : Nat} {d g : Addr} {B H : Hp} (h : Dw N d g B H) {a : Addr} {o : HO} (e : H a = some o) (nd : ∀ k, o ≠ .dK k) (nl : ∀ k, o ≠ .lst k) : Dw N d g (upd B a o) H := by
  obtain ⟨x, l, ls, t, e1, e2, e3, e4⟩ := h.hd
  obtain ⟨gs, f1, f2⟩ := h.hg
  have k1 : d ≠ a := fun z => by rw [z, e] at e1; exact nd _ (Option.some.inj e1)
  have k2 : l ≠ a := fun z => by rw [z, e] at e2; exact nl _ (Option.some.inj e2)
  have k3 : g ≠ a := fun z => by rw [z, e] at f1; exact nl _ (Option.some.inj f1)
  refine ⟨fun c u hc => ?_, by rw [upd_ne k1]; exact h.bd, by rw [upd_ne k3]; exact h.bg, ⟨x, l, ls, t, e1, e2, by rw [upd_ne k2]; exact e3, e4⟩, gs, f1, f2⟩
  by_cases q : c = a
  · rw [q, upd_same] at hc
    rw [q, e]
    exact hc
  · rw [upd_ne q] at hc
    exact h.same _ _ hc
/-! ### rules -/
section
variable {X : Cx}
theorem get_dict (hu : X.A.units + 1 < cLine) : PGet X (fun o i H Q => ∃ a v, o = .ref a ∧ DGet H a i (some v) ∧ Q v H) := by
  intro pins s σ H o i ov iv Q I ro ri h
  obtain ⟨a, v, rfl, g, q⟩ := h
  cases (show ov = Value.ref a from ro)
  exact d_getItem hu I g ri fun w' s' I' rw' => ⟨v, H, I', rw', q⟩
end
theorem sql_same {K : PySem.W.Frag} {H H' : Hp} {a : Addr} {xs : List V} (h : SqL K H a xs) (s : Same H H') : SqL K H' a xs := by
  rcases h with (h | ⟨o, h⟩) | h
  · exact .inl (.inl (s _ _ h))
  · exact .inl (.inr ⟨o, s _ _ h⟩)
  · exact .inr h
def spBegun (K : PySem.W.Frag) : Sp := fun vs H Q _ => ∃ (a : Addr) (ns : List Int), vs = [.ref a] ∧ SqL K H a (ns.map V.int) ∧ ns.length ≤ 63 ∧ ∀ H' d g, Same H H' → Dw 0 d g H H' → Q (.ref d) H'
def spNext : Sp := fun vs H Q _ => ∃ (d g : Addr) (B : Hp) (N m : Nat), vs = [.ref d, .int (m : Int)] ∧ 0 < m ∧ m ≤ 1000000 ∧ N < 1000000 ∧ Dw N d g B H ∧ ∀ H' (r : Nat), Dw (N + 1) d g B H' → r < m → Q (.int (r : Int)) H'
section
variable {P : Program} {w : World} {K : PySem.W.Frag} {mg : Str → Option Value} {base : Heap} {C f : Addr} {fd : FuncData}
abbrev NBegun : List Str := ["_law_script", "_law_great", "_law_lump"]
theorem scBegun : FnScope NBegun ["_law_script"] (defScope s_law_begun) := ⟨rfl, rfl, rfl, by decide +kernel, rfl, by decide +kernel, by decide +kernel⟩
theorem abs_nn (i : Int) : (if i < 0 then -i else i) = ((i.natAbs : Nat) : Int) := by
  by_cases h : i < 0
  · rw [if_pos h]; omega
  · rw [if_neg h]; omega
theorem ok_begun (G : Txt mg) (F : FnP K "_law_begun" s_law_begun f fd) : FnOk P w K mg base CX0 1 f fd ["_law_script"] (spBegun K) := by
  refine F.ok scBegun (fun vs H Q E h => ?_) (fun cdv A outer s H vs Q E hr h => ?_)
  · obtain ⟨a, ns, rfl, _⟩ := h
    rfl
  · obtain ⟨a, ns, rfl, ha, hl, q⟩ := h
    refine ⟨_, PSs.nox (pss_cons (ps_setLc (i := 1) (own := [("_law_lump", 2)]) rfl scBegun.nd rfl rfl (sw_true rfl rfl rfl (by decide +kernel)) (pi_list (pv 0)) (blkOk_by (own := [("_law_lump", 2)]) (N := NBegun) (sc := defScope s_law_begun) (by decide +kernel))
        (fun _ _ _ _ _ => pg_name (i := 2) scBegun.nd rfl (Or.inl rfl)) (fun _ _ _ _ _ => pts_one (pt_cmpR op_ge (pe_callB call_abs (by rfl) G.abs (by decide +kernel) (pa_cons (pv 2) pa_nil)) (pe_op op_pow pe_int pe_int) (nomark _)))
        (fun _ _ _ _ _ => pe_op op_fdivW (pe_callB call_abs (by rfl) G.abs (by decide +kernel) (pa_cons (pv 2) pa_nil)) (pe_op op_pow pe_int pe_int)))
      (pss_one (ps_ret (pe_disp (pps_cons pe_str pe_int (pps_cons pe_str (pv 1) (pps_cons pe_str (pe_lc (own := [("_law_lump", 2)]) rfl scBegun.nd (pi_list (pv 0)) (blkOk_by (own := [("_law_lump", 2)]) (N := NBegun) (sc := defScope s_law_begun) (by decide +kernel))
        (fun _ _ _ _ _ => pg_name (i := 2) scBegun.nd rfl (Or.inl rfl)) (fun _ _ _ _ _ => pts_nil) (fun _ _ _ _ _ => pe_op op_mod (pe_callTy call_int1 (by rfl) G.int (by decide +kernel) (pa_cons (pe_callB call_abs (by rfl) G.abs (by decide +kernel) (pa_cons (pv 2) pa_nil)) pa_nil)) (pe_op op_pow pe_int pe_int)))
        (pps_cons pe_str pe_int pps_nil)))) rfl rfl (by decide) (by decide))))), ?_⟩
    have e18 : (10 : Int) ^ (18 : Int).toNat = 1000000000000000000 := by decide
    have cp : CPow 10 18 := ⟨by decide, by decide, by decide⟩
    refine ⟨_, rfl, a, rfl, ⟨_, ha⟩, fun D hD => ?_⟩
    refine lc_it (walk_list (xs := ns.map V.int)) (fun i H' => Same H H' ∧ ∃ gs : List Int, H' D = some (.lst (gs.map V.int)) ∧ (∀ y ∈ gs, 0 ≤ y) ∧ gs.length ≤ i) ⟨same_new hD, [], upd_same, (fun y h => by cases h), Nat.le_refl _⟩ (fun i H' _ h => sql_same ha h.1) ?_ ?_
    · rintro i x H1' H1 hi ⟨s1, gs, hg, hnn, hgl⟩ ⟨rfl, hx⟩
      rw [List.getElem?_map] at hx
      obtain ⟨y, hy, rfl⟩ := Option.map_eq_some_iff.mp hx
      rw [List.length_map] at hi
      refine ⟨rfl, ?_⟩
      refine ⟨_, rfl, y, rfl, _, _, rfl, rfl, cp, _, _, rfl, rfl, _, rfl, ?_⟩
      rw [e18, abs_nn]
      by_cases hc : (1000000000000000000 : Int) ≤ ((y.natAbs : Nat) : Int)
      · rw [decide_eq_true hc]
        refine iteT ?_
        refine ⟨_, rfl, y, rfl, _, _, rfl, rfl, cp, _, _, rfl, rfl, ?_⟩
        rw [e18, abs_nn]
        refine ⟨wide_div (b := 60) (by decide) (by decide) (by decide) (by decide), _, hg, by rw [List.length_map]; exact small1000 (by omega), same_upd s1 hD, gs ++ [((y.natAbs : Nat) : Int) / 1000000000000000000], by rw [upd_same, List.map_append]; rfl, fun z hz => ?_, by rw [List.length_append, List.length_singleton]; omega⟩
        rcases List.mem_append.mp hz with hz | hz
        · exact hnn z hz
        · rw [List.mem_singleton] at hz
          rw [hz]
          exact Int.ediv_nonneg (by omega) (by decide)
      · rw [decide_eq_false hc]
        refine iteF ?_
        exact ⟨s1, gs, hg, hnn, by omega⟩
    · rintro H1 ⟨s1, gs, hg, hnn, hgl⟩
      intro d hd
      refine ⟨_, rfl, _, rfl, a, rfl, ⟨_, sql_same ha (s1.trans (same_new hd))⟩, fun L hL => ?_⟩
      have sd := same_new (o := .dK []) hd
      have hdd : (upd H1 d (.dK [])) d = some (.dK []) := upd_same
      have hg2 := sd _ _ hg
      have s2 := s1.trans sd
      generalize upd H1 d (.dK []) = H2 at hL sd hdd hg2 s2
      refine lc_it (walk_list (xs := ns.map V.int)) (fun i H' => Same H2 H' ∧ ∃ ls : List Int, H' L = some (.lst (ls.map V.int)) ∧ (∀ y ∈ ls, 0 ≤ y ∧ y < 10 ^ 18) ∧ ls.length ≤ i) ⟨same_new hL, [], upd_same, (fun y h => by cases h), Nat.le_refl _⟩ (fun i H' _ h => sql_same ha (s2.trans h.1)) ?_ ?_
      · rintro i x H3' H3 hi ⟨s3, ls, hl3, hb3, hll⟩ ⟨rfl, hx⟩
        rw [List.getElem?_map] at hx
        obtain ⟨y, hy, rfl⟩ := Option.map_eq_some_iff.mp hx
        rw [List.length_map] at hi
        refine ⟨rfl, ?_⟩
        refine ⟨_, rfl, y, rfl, .inl ⟨_, rfl, ?_⟩⟩
        refine ⟨_, _, rfl, rfl, cp, _, _, rfl, rfl, ?_⟩
        rw [e18, abs_nn]
        refine ⟨(by show (0 : Int) < 1000000000000000000; decide), _, hl3, by rw [List.length_map]; exact small1000 (by omega), same_upd s3 hL, ls ++ [((y.natAbs : Nat) : Int) % 1000000000000000000], by rw [upd_same, List.map_append]; rfl, fun z hz => ?_, by rw [List.length_append, List.length_singleton]; omega⟩
        rcases List.mem_append.mp hz with hz | hz
        · exact hb3 z hz
        · rw [List.mem_singleton] at hz
          rw [hz]
          exact ⟨Int.emod_nonneg _ (by decide), Int.emod_lt_of_pos _ (by decide)⟩
      · rintro H3 ⟨s3, ls, hl3, hb3, hll⟩
        rw [List.length_map] at hll
        refine ⟨s3 _ _ hdd, dK 0 D L 0, rfl, (by show 4 ≤ 15; decide), ?_⟩
        rw [dK_merge]
        have hd3 := s3 _ _ hdd
        have nLd : L ≠ d := ne_of hl3 hd3 (by intro z; cases z)
        have hg3 := s3 _ _ hg2
        have nDd : D ≠ d := ne_of hg3 hd3 (by intro z; cases z)
        refine q _ d D (same_upd (s2.trans s3) (s1.free hd)) ⟨same_upd (s2.trans s3) (s1.free hd), s1.free hd, hD, ⟨0, L, ls, 0, upd_same, by rw [upd_ne nLd]; exact hl3, s2.free hL, (fun z => by rw [z, hg2] at hL; cases hL), Int.le_refl _, by omega, hb3, Nat.le_refl _⟩, gs, by rw [upd_ne nDd]; exact hg3, hnn⟩
end
end K54
namespace K54
open PySem PySem.Spec PyProof.Rows L2
/-! ### the next number -/
structure Dx (d g l : Addr) (ls : List Int) (B H : Hp) (x : Int) (gs : List Int) (t : Nat) : Prop where
  same : Same B H
  hd : H d = some (.dK (dK x g l t))
  hg : H g = some (.lst (gs.map V.int))
  hl : H l = some (.lst (ls.map V.int))
  x0 : 0 ≤ x
  g0 : ∀ y ∈ gs, 0 ≤ y
theorem Dx.on {d g l : Addr} {ls : List Int} {B H H' : Hp} {x : Int} {gs : List Int} {t : Nat} (h : Dx d g l ls B H x gs t) (s : Same H H') : Dx d g l ls B H' x gs t := ⟨h.same.trans s, s _ _ h.hd, s _ _ h.hg, s _ _ h.hl, h.x0, h.g0⟩
section
variable {d g l : Addr} {ls : List Int} {B H : Hp} {x : Int} {gs : List Int} {t : Nat}
theorem Dx.gd (h : Dx d g l ls B H x gs t) : DGet H d (.str "digits") (some (.int x)) := dK_digits x g l t ▸ DGet.k (k := Sum.inr ("digits" : Str)) h.hd
theorem Dx.gg (h : Dx d g l ls B H x gs t) : DGet H d (.str "great") (some (.ref g)) := dK_great x g l t ▸ DGet.k (k := Sum.inr ("great" : Str)) h.hd
theorem Dx.gl (h : Dx d g l ls B H x gs t) : DGet H d (.str "lumps") (some (.ref l)) := dK_lumps x g l t ▸ DGet.k (k := Sum.inr ("lumps" : Str)) h.hd
theorem Dx.gt (h : Dx d g l ls B H x gs t) : DGet H d (.str "turn") (some (.int (t : Int))) := dK_turn x g l t ▸ DGet.k (k := Sum.inr ("turn" : Str)) h.hd
theorem Dx.pd (h : Dx d g l ls B H x gs t) (y : Int) : DPut H d (.str "digits") (.int y) (upd H d (.dK (dK y g l t))) := dK_putd x y g l t ▸ DPut.k (k := Sum.inr ("digits" : Str)) h.hd (by show 4 < sizeLine; decide)
theorem Dx.pt (h : Dx d g l ls B H x gs t) (u : Nat) : DPut H d (.str "turn") (.int (u : Int)) (upd H d (.dK (dK x g l u))) := dK_putt x g l t u ▸ DPut.k (k := Sum.inr ("turn" : Str)) h.hd (by show 4 < sizeLine; decide)
theorem same_off {B H : Hp} {a : Addr} {o : HO} (s : Same B H) (e : B a = none) : Same B (upd H a o) := same_upd s e
theorem Dx.setd (h : Dx d g l ls B H x gs t) (bd : B d = none) (y : Int) (y0 : 0 ≤ y) : Dx d g l ls B (upd H d (.dK (dK y g l t))) y gs t :=
  ⟨same_upd h.same bd, upd_same, by rw [upd_ne (ne_of h.hg h.hd (by intro z; cases z))]; exact h.hg, by rw [upd_ne (ne_of h.hl h.hd (by intro z; cases z))]; exact h.hl, y0, h.g0⟩
theorem Dx.sett (h : Dx d g l ls B H x gs t) (bd : B d = none) (u : Nat) : Dx d g l ls B (upd H d (.dK (dK x g l u))) x gs u :=
  ⟨same_upd h.same bd, upd_same, by rw [upd_ne (ne_of h.hg h.hd (by intro z; cases z))]; exact h.hg, by rw [upd_ne (ne_of h.hl h.hd (by intro z; cases z))]; exact h.hl, h.x0, h.g0⟩
theorem Dx.pop {y : Int} (h : Dx d g l ls B H x (y :: gs) t) (bg : B g = none) (nl : l ≠ g) : Dx d g l ls B (upd H g (.lst (gs.map V.int))) x gs t :=
  ⟨same_upd h.same bg, by rw [upd_ne (ne_of h.hd h.hg (by intro z; cases z))]; exact h.hd, upd_same, by rw [upd_ne nl]; exact h.hl, h.x0, fun z hz => h.g0 z (List.mem_cons_of_mem _ hz)⟩
end
theorem emod_nat (x : Int) {m : Nat} (h : 0 < m) : ∃ r : Nat, r < m ∧ x % (m : Int) = (r : Int) := by
  have h1 := Int.emod_nonneg x (show (m : Int) ≠ 0 by omega)
  have h2 := Int.emod_lt_of_pos x (show (0 : Int) < m by omega)
  exact ⟨(x % (m : Int)).toNat, by omega, by omega⟩
section
variable {P : Program} {w : World} {K : PySem.W.Frag} {mg : Str → Option Value} {base : Heap} {C f : Addr} {fd : FuncData}
abbrev NNext : List Str := ["_law_draw", "_law_many", "_law_found", "_law_turn", "_law_lump", "_law_mixed"]
theorem scNext : FnScope NNext ["_law_draw", "_law_many"] (defScope s_law_next) := ⟨rfl, rfl, rfl, by decide +kernel, rfl, by decide +kernel, by decide +kernel⟩
theorem ok_next (G : Txt mg) (F : FnP K "_law_next" s_law_next f fd) : FnOk P w K mg base CX0 1 f fd ["_law_draw", "_law_many"] spNext := by
  refine F.ok scNext (fun vs H Q E h => ?_) (fun cdv A outer s H vs Q E hr h => ?_)
  · obtain ⟨d, g, B, N, m, rfl, _⟩ := h
    rfl
  · obtain ⟨d, g, B, N, m, rfl, hm, hm6, hN, D, q⟩ := h
    have hu1 : (A.deeper (envOfC "_law_next" (defScope s_law_next) s.heap.objs.size f cdv)).units + 1 < cLine := by have := hr.un; omega
    have hu : (A.deeper (envOfC "_law_next" (defScope s_law_next) s.heap.objs.size f cdv)).units < cLine := by have := hr.un; omega
    refine ⟨_, PSs.nox (pss_cons (ps_cut (ps_while PassesOwn.never (PW.pt (pw_and (pt_cmpR op_eq (pe_dget hu1 (pv 0) pe_str (fun _ _ => rfl)) pe_int (nomark _)) (pw_and1 (pt_cmpR (op_neNil hu) (pe_dget hu1 (pv 0) pe_str (fun _ _ => rfl)) (pe_lst pa_nil) (nomark _)))))
        (pss_one (ps_dput hu1 (pv 0) pe_str (pe_bm PySem.F.plainAttrs_list PySem.F.slot_list_pop PySem.F.type_list_pop mt_popAt (pe_dget hu1 (pv 0) pe_str (fun _ _ => rfl)) (pa_cons pe_int pa_nil)) rfl))))
      (pss_cons (ps_if (pt_cmpR op_gt (pe_dget hu1 (pv 0) pe_str (fun _ _ => rfl)) pe_int (nomark _))
        (pss_cons (ps_set (i := 2) scNext.nd rfl (Or.inl rfl) (pe_op op_mod (pe_callTy call_int1 (by rfl) G.int (by decide +kernel) (pa_cons (pe_dget hu1 (pv 0) pe_str (fun _ _ => rfl)) pa_nil)) (pv 1)))
        (pss_cons (ps_dput hu1 (pv 0) pe_str (pe_op op_fdivW (pe_dget hu1 (pv 0) pe_str (fun _ _ => rfl)) (pv 1)) rfl)
        (pss_one (ps_ret (pv 2))))) pss_nil)
      (pss_cons (ps_augS (pv 0) pe_str (get_dict hu1) pe_int ip_add (set_dict hu1))
      (pss_cons (ps_set (i := 3) scNext.nd rfl (Or.inl rfl) (pe_dget hu1 (pv 0) pe_str (fun _ _ => rfl)))
      (pss_cons (ps_set (i := 4) scNext.nd rfl (Or.inl rfl) pe_int)
      (pss_cons (ps_cut (ps_if (pt_cmpR (op_neNil hu) (pe_dget hu1 (pv 0) pe_str (fun _ _ => rfl)) (pe_lst pa_nil) (nomark _))
        (pss_one (ps_set (i := 4) scNext.nd rfl (Or.inl rfl) (pe_ix ix_list (pe_dget hu1 (pv 0) pe_str (fun _ _ => rfl)) (pe_op op_mod (pe_callTy call_int1 (by rfl) G.int (by decide +kernel) (pa_cons (pv 3) pa_nil)) (pe_callB call_len_seq (by rfl) G.len PySem.boot_len (pa_cons (pe_dget hu1 (pv 0) pe_str (fun _ _ => rfl)) pa_nil))) (fun _ _ => rfl)))) pss_nil))
      (pss_cons (ps_set (i := 5) scNext.nd rfl (Or.inl rfl) (pe_op op_mod (pe_callTy call_int1 (by rfl) G.int (by decide +kernel) (pa_cons (pe_op op_pow (pe_op op_add (pe_op op_mod (pe_callTy call_int1 (by rfl) G.int (by decide +kernel) (pa_cons (pv 4) pa_nil)) pe_int) (pe_op op_mul pe_int (pv 3))) pe_int) pa_nil)) pe_int))
      (pss_one (ps_ret (pe_op op_mod (pe_callTy call_int1 (by rfl) G.int (by decide +kernel) (pa_cons (pe_op op_fdiv (pe_op op_mod (pe_callTy call_int1 (by rfl) G.int (by decide +kernel) (pa_cons (pe_op op_pow (pe_op op_add (pv 5) (pe_op op_mul pe_int (pv 3))) pe_int) pa_nil)) pe_int) pe_int) pa_nil)) (pv 1))))))))))), ?_⟩
    obtain ⟨x0, l, ls, t, e1, e2, e3, nlg, hx0, hll, hls, ht⟩ := D.hd
    obtain ⟨gs0, f1, f2⟩ := D.hg
    have fin : ∀ {H' x gs u}, Dx d g l ls B H' x gs u → u ≤ N + 1 → Dw (N + 1) d g B H' := fun h hle => ⟨h.same, D.bd, D.bg, ⟨_, l, ls, _, h.hd, h.hl, e3, nlg, h.x0, hll, hls, hle⟩, _, h.hg, h.g0⟩
    have D0 : Dx d g l ls B H x0 gs0 t := ⟨D.same, e1, f1, e2, hx0, f2⟩
    refine ⟨fun σ H' => ∃ (x : Int) (gs : List Int), σ = [some (.ref d), some (.int (m : Int)), none, none, none, none] ∧ Dx d g l ls B H' x gs t, ?_, ?_⟩
    · refine ⟨fun k σ H' => ∃ (x : Int) (gs : List Int), σ = [some (.ref d), some (.int (m : Int)), none, none, none, none] ∧ Dx d g l ls B H' x gs t ∧ k = gs.length, ⟨_, x0, gs0, rfl, D0, rfl⟩, ?_⟩
      rintro k σ H1 ⟨x, gs, rfl, D1, rfl⟩
      refine ⟨_, rfl, d, _, rfl, D1.gd, rfl, _, rfl, ?_⟩
      by_cases hx : x = 0
      · rw [hx, decide_eq_true (show V.int 0 = V.int 0 from rfl)]
        refine iteT ?_
        refine ⟨_, rfl, d, _, rfl, D1.gg, Nat.zero_le _, fun b hb => ⟨g, b, _, rfl, rfl, SqL.of ((same_new hb) _ _ D1.hg), SqL.of upd_same, _, rfl, ?_⟩⟩
        have D2 := D1.on (same_new (o := .lst []) hb)
        generalize upd H1 b (.lst []) = H2 at D2
        cases gs with
        | nil =>
          refine iteF ?_
          exact ⟨_, _, rfl, D2⟩
        | cons y gs =>
          refine iteT ?_
          refine ⟨fun σ H' => ∃ (x : Int), σ = [some (.ref d), some (.int (m : Int)), none, none, none, none] ∧ Dx d g l ls B H' x gs t, fun σ' H' ⟨x, e, h⟩ => ⟨_, Nat.lt_succ_self _, x, gs, e, h, rfl⟩, ?_⟩
          refine ⟨_, rfl, d, _, rfl, D2.gg, .inl ⟨rfl, _, SqL.of D2.hg⟩, g, _, 0, 0, .int y, rfl, rfl, D2.hg, by decide, by decide, ?_, rfl, ?_⟩
          · rw [List.length_map]
            exact seqIndex_of (by decide) (by show (0 : Int) < _; simp)
          · have D3 := D2.pop D.bg nlg
            refine ⟨_, rfl, d, _, rfl, D3.pd y, ?_⟩
            exact ⟨y, rfl, D3.setd D.bd y (D2.g0 y (List.mem_cons_self ..))⟩
      · rw [decide_eq_false (show ¬ V.int x = V.int 0 from fun z => by injection z with z; exact hx z)]
        refine iteF (iteF ?_)
        exact ⟨_, _, rfl, D1⟩
    · rintro σ H1 ⟨x, gs, rfl, D1⟩
      refine ⟨_, rfl, d, _, rfl, D1.gd, _, _, rfl, rfl, _, rfl, ?_⟩
      by_cases hx : 0 < x
      · rw [decide_eq_true hx]
        refine iteT ?_
        obtain ⟨r, hr1, hr2⟩ := emod_nat x hm
        refine ⟨_, rfl, d, _, rfl, D1.gd, .inl ⟨x, rfl, _, rfl, _, _, rfl, rfl, by omega, ?_⟩⟩
        have D2 := D1.setd D.bd (x / (m : Int)) (Int.ediv_nonneg D1.x0 (by omega))
        refine ⟨_, rfl, d, _, rfl, D1.gd, _, rfl, _, _, rfl, rfl, wide_div (b := 30) (by omega) (by show ((m : Int)).natAbs < 2 ^ 30; omega) (by decide) (by decide), _, rfl, d, _, rfl, D1.pd _, ?_⟩
        refine ⟨_, rfl, ?_⟩
        show Q (V.int (x % (m : Int))) _
        rw [hr2]
        exact q _ r (fin D2 (by omega)) hr1
      · rw [decide_eq_false hx]
        refine iteF ?_
        refine ⟨_, rfl, d, _, rfl, D1.gt, _, _, rfl, rfl, d, _, rfl, D1.pt (t + 1), ?_⟩
        have D2 := D1.sett D.bd (t + 1)
        generalize upd H1 d (.dK (dK x g l (t + 1))) = H2 at D2
        refine ⟨_, rfl, d, _, rfl, D2.gt, ?_⟩
        refine ⟨fun σ H' => ∃ (z : Int), σ = [some (.ref d), some (.int (m : Int)), none, some (.int ((t + 1 : Nat) : Int)), some (.int z), none] ∧ Dx d g l ls B H' x gs (t + 1), ?_, ?_⟩
        · refine ⟨_, rfl, d, _, rfl, D2.gl, Nat.zero_le _, fun b hb => ⟨l, b, _, rfl, rfl, SqL.of ((same_new hb) _ _ D2.hl), SqL.of upd_same, _, rfl, ?_⟩⟩
          have D3 := D2.on (same_new (o := .lst []) hb)
          generalize upd H2 b (.lst []) = H3 at D3
          cases hls2 : ls with
          | nil =>
            rw [hls2] at D3
            refine iteF ?_
            rw [← hls2] at D3 ⊢
            exact ⟨_, rfl, D3⟩
          | cons y ls' =>
            refine iteT ?_
            have lpos : 0 < ls.length := by rw [hls2]; exact Nat.succ_pos _
            obtain ⟨r, hr1, hr2⟩ := emod_nat ((t + 1 : Nat) : Int) lpos
            have hget : (ls.map V.int)[r]? = some (.int (ls.getD r 0)) := by
              rw [List.getElem?_map, List.getD_eq_getElem?_getD, List.getElem?_eq_getElem hr1]
              rfl
            rw [← hls2]
            refine ⟨_, rfl, d, _, rfl, D3.gl, _, rfl, .inl ⟨_, rfl, ?_⟩⟩
            refine ⟨_, rfl, d, _, rfl, D3.gl, l, _, rfl, .inl (SqL.of D3.hl), _, _, rfl, rfl, by rw [List.length_map]; show (0 : Int) < _; omega, ?_⟩
            refine ⟨l, _, _, V.int (ls.getD r 0), rfl, rfl, SqL.of D3.hl, ?_, ?_⟩
            rotate_left
            · exact ⟨ls.getD r 0, rfl, D3⟩
            · rw [List.length_map, hr2]
              exact atI_nat hget
        · rintro σ H3 ⟨z, rfl, D3⟩
          have a1 := Int.emod_nonneg z (show (2147483629 : Int) ≠ 0 by decide)
          have a2 := Int.emod_lt_of_pos z (show (0 : Int) < 2147483629 by decide)
          have tm : ((t + 1 : Nat) : Int) ≤ 2000000 := by omega
          have cm1 : CMul 40009 ((t + 1 : Nat) : Int) := .inl ⟨by decide, by decide⟩
          have cm2 : CMul 104729 ((t + 1 : Nat) : Int) := .inl ⟨by decide, by decide⟩
          refine ⟨_, rfl, .inl ⟨z, rfl, _, _, rfl, rfl, (by show (0 : Int) < 2147483629; decide), _, rfl, _, _, rfl, rfl, cm1, _, _, rfl, rfl, _, _, rfl, rfl, ⟨by decide, by decide, ?_⟩, .inl ⟨_, rfl, _, _, rfl, rfl, (by show (0 : Int) < 2147483647; decide), ?_⟩⟩⟩
          · show (z % 2147483629 + 40009 * ((t + 1 : Nat) : Int)).natAbs < 2 ^ 64
            omega
          · generalize (z % 2147483629 + 40009 * ((t + 1 : Nat) : Int)) ^ (3 : Int).toNat = y
            have b1 := Int.emod_nonneg y (show (2147483647 : Int) ≠ 0 by decide)
            have b2 := Int.emod_lt_of_pos y (show (0 : Int) < 2147483647 by decide)
            refine ⟨_, rfl, _, rfl, _, _, rfl, rfl, cm2, _, _, rfl, rfl, _, _, rfl, rfl, ⟨by decide, by decide, ?_⟩, .inl ⟨_, rfl, _, _, rfl, rfl, (by show (0 : Int) < 2147483629; decide), _, _, rfl, rfl, ⟨by decide, by decide⟩, .inl ⟨_, rfl, _, rfl, _, _, rfl, rfl, by omega, ?_⟩⟩⟩
            · show (y % 2147483647 + 104729 * ((t + 1 : Nat) : Int)).natAbs < 2 ^ 64
              omega
            · generalize (y % 2147483647 + 104729 * ((t + 1 : Nat) : Int)) ^ (5 : Int).toNat % 2147483629 / 11 = u
              obtain ⟨r, hr1, hr2⟩ := emod_nat u hm
              show Q (V.int (u % (m : Int))) _
              rw [hr2]
              exact q _ r (fin D3 (by omega)) hr1
end
end K54
namespace K54
open PySem PySem.Spec PyProof.Rows L2
/-! ### texts, lists of signs -/
theorem joinL_nil : ∀ ls : List (List Nat), TL.joinL [] ls = ls.flatten
  | [] => rfl
  | [p] => by simp [TL.joinL]
  | p :: q :: r => by
    show p ++ ([] ++ TL.joinL [] (q :: r)) = _
    rw [List.nil_append, joinL_nil (q :: r)]
    rfl
theorem join_tx (ls : List (List Nat)) : Txt.join ("" : Str) (ls.map tx) = tx ls.flatten := by
  have e : ("" : Str) = SX.S [] := by decide +kernel
  rw [e]
  show Txt.join (SX.S []) (ls.map SX.S) = SX.S ls.flatten
  rw [SX.join_S, joinL_nil]
theorem flat_one (f : Nat → Nat) : ∀ r : List Nat, (r.map fun c => [f c]).flatten = r.map f
  | [] => rfl
  | c :: r => by
    rw [List.map_cons, List.flatten_cons, flat_one f r]
    rfl
theorem join_size (ls : List (List Nat)) (h : ls.flatten.length ≤ 1000) : ((ls.map tx).map (·.length)).sum + (ls.map tx).length * ("" : Str).length ≤ 16777216 := by
  have e : ∀ ls : List (List Nat), ((ls.map tx).map (·.length)).sum = ls.flatten.length := by
    intro ls
    induction ls with
    | nil => rfl
    | cons x ls ih => rw [List.map_cons, List.map_cons, List.sum_cons, ih, List.flatten_cons, List.length_append, tx_length]
  have z : ("" : Str).length = 0 := by decide +kernel
  rw [e, z, Nat.mul_zero]
  omega
theorem tx_cat (a b : List Nat) : tx a ++ tx b = tx (a ++ b) := SX.S_cat a b
section
variable {X : Cx}
/-- list(a text) -/
theorem cr_listStr (hc : X.calm = true) : CallR X (.type "list") (fun xs H Q => ∃ l : List Nat, xs = [.str (tx l)] ∧ l.length ≤ 1000 ∧ ∀ p, H p = none → Q (.ref p) (upd H p (.lst (l.map fun c => V.str (tx [c]))))) := by
  intro pins s σ H xs us Q I r h
  obtain ⟨l, rfl, hl, q⟩ := h
  obtain ⟨u, rfl, rx⟩ := vals1 r
  obtain ⟨t, rfl⟩ := rx
  refine call_list_str (I.ok.hd hc) (tx l) t (hn := by rw [tx_size]; exact Nat.le_of_lt (small1000 hl)) fun h' tk acc c' hk hS hacc => ?_
  have hv : Vals (l.map fun c => V.str (tx [c])) acc.toList := by
    have e1 : acc.toList.length = l.length := by rw [Array.length_toList, hacc.1, tx_size]
    have e2 : (l.map fun c => V.str (tx [c])) = (List.range acc.toList.length).map fun i => V.str (tx [l.getD i 0]) := by
      rw [e1]
      refine List.ext_getElem (by rw [List.length_map, List.length_map, List.length_range]) fun i h1 h2 => ?_
      rw [List.getElem_map, List.getElem_map, List.getElem_range]
      rw [List.length_map] at h1
      rw [List.getD_eq_getElem?_getD, List.getElem?_eq_getElem h1]
      rfl
    rw [e2]
    refine vals_of_get acc.toList _ fun j u hj => ?_
    obtain ⟨c, t', hc', rfl⟩ := hacc.2 j u (by rw [← hj, Array.getElem?_toList])
    have := tx_get hc'
    refine ⟨t', ?_⟩
    rw [List.getD_eq_getElem?_getD, this]
    rfl
  refine ⟨.ref s.heap.objs.size, _, I.laid (t' := tk) hk (Nat.le_refl _) (show ObjOk X.prog X.w _ h' _ (.lst (l.map fun c => V.str (tx [c]))) from ⟨?_, acc.toList, c', hv, ?_⟩), rfl, q _ (I.hok.fresh (Nat.le_refl _))⟩
  · rw [List.length_map]
    exact Nat.le_of_lt (small1000 hl)
  · rw [Array.toArray_toList]
    exact hS
end
theorem pop_perm {α : Type} : ∀ {xs : List α} {r : Nat} (h : r < xs.length), (xs[r] :: xs.eraseIdx r).Perm xs
  | x :: xs, 0, _ => .refl _
  | x :: xs, r + 1, h => by
    show (xs[r]'(Nat.lt_of_succ_lt_succ h) :: x :: xs.eraseIdx r).Perm (x :: xs)
    exact (List.Perm.swap _ _ _).trans (.cons _ (pop_perm (Nat.lt_of_succ_lt_succ h)))
/-! ### pick, other, swapped, shuffled -/
def spPick : Sp := fun vs H Q _ => ∃ (d g : Addr) (B : Hp) (N : Nat) (x : V), vs = [.ref d, x] ∧ N < 1000000 ∧ Dw N d g B H ∧
  ((∃ (a : Addr) (xs : List V), x = .ref a ∧ B a = some (.lst xs) ∧ 0 < xs.length ∧ xs.length ≤ 1000 ∧ ∀ H' v, Dw (N + 1) d g B H' → v ∈ xs → Q v H') ∨
    ∃ z : List Nat, x = .str (tx z) ∧ 0 < z.length ∧ z.length ≤ 1000 ∧ ∀ H' c, Dw (N + 1) d g B H' → c ∈ z → Q (.str (tx [c])) H')
def spOther : Sp := fun vs H Q _ => ∃ c, vs = [.str (tx [c])] ∧ isStp c = true ∧ Q (.str (tx [ctr c])) H
def spSwapped : Sp := fun vs H Q _ => ∃ r, vs = [sV r] ∧ RowOk r ∧ r.length ≤ 60 ∧ ∀ H', Same H H' → Q (sV (r.map ctr)) H'
def spShuffled : Sp := fun vs H Q _ => ∃ (d g a : Addr) (B : Hp) (N : Nat) (xs : List V), vs = [.ref d, .ref a] ∧ N + 8 < 1000000 ∧ Dw N d g B H ∧ B a = some (.lst xs) ∧ xs.length ≤ 8 ∧
  ∀ H' B' p ys, Same B B' → Dw (N + 8) d g B' H' → B' p = some (.lst ys) → B p = none → ys.Perm xs → Q (.ref p) H'
theorem low_of {c : Nat} (h : isStp c = true) : PySem.Txt.lower (tx [c]) = tx [lo c] := low_stp h
theorem abcd_mem {c : Nat} (h : isStp c = true) : decide (c ∈ [97, 98, 99, 100]) = isF c := by
  have key : ∀ c ∈ [65, 66, 67, 68, 97, 98, 99, 100], decide (c ∈ [97, 98, 99, 100]) = isF c := by decide
  exact key c (stp_cases h)
theorem lo_ctr {c : Nat} (h : isStp c = true) (hf : isF c = false) : lo c = ctr c := by
  have key : ∀ c ∈ [65, 66, 67, 68, 97, 98, 99, 100], isF c = false → lo c = ctr c := by decide
  exact key c (stp_cases h) hf
section
variable {P : Program} {w : World} {K : PySem.W.Frag} {mg : Str → Option Value} {base : Heap} {C f : Addr} {fd : FuncData}
theorem scPick : FnScope ["_law_draw", "_law_some_here"] ["_law_draw", "_law_some_here"] (defScope s_law_pick) := ⟨rfl, rfl, rfl, by decide +kernel, rfl, by decide +kernel, by decide +kernel⟩
theorem ok_pick (G : Txt mg) (DN : Df P w K mg base "_law_next" 1 ["_law_draw", "_law_many"] spNext) (F : FnP K "_law_pick" s_law_pick f fd) : FnOk P w K mg base CX0 2 f fd ["_law_draw", "_law_some_here"] spPick := by
  refine F.ok scPick (fun vs H Q E h => ?_) (fun cdv A outer s H vs Q E hr h => ?_)
  · obtain ⟨d, g, B, N, x, rfl, _⟩ := h
    rfl
  · obtain ⟨d, g, B, N, x, rfl, hN, D, h⟩ := h
    refine ⟨_, PSs.nox (pss_one (ps_ret (pe_ix ix_seq (pv 1) (pe_callD DN hr rfl (pa_cons (pv 0) (pa_cons (pe_callB call_len (by rfl) G.len PySem.boot_len (pa_cons (pv 1) pa_nil)) pa_nil))) (fun _ _ => rfl)))), ?_⟩
    rcases h with ⟨a, xs, rfl, ha, h0, h1, q⟩ | ⟨z, rfl, h0, h1, q⟩
    · refine ⟨_, rfl, _, rfl, _, rfl, _, xs.length, rfl, .inl ⟨xs, SqL.of (D.same _ _ ha), rfl⟩, d, g, B, N, xs.length, rfl, h0, by omega, hN, D, fun H' r D' hr' => ?_⟩
      exact .inl ⟨a, xs, _, xs[r], rfl, rfl, SqL.of (D'.same _ _ ha), atI_nat (List.getElem?_eq_getElem hr'), q H' _ D' (List.getElem_mem hr')⟩
    · refine ⟨_, rfl, _, rfl, _, rfl, _, z.length, rfl, ⟨by rw [tx_length]; exact Nat.le_of_lt (small1000 h1), by rw [tx_length]⟩, d, g, B, N, z.length, rfl, h0, by omega, hN, D, fun H' r D' hr' => ?_⟩
      exact .inr (.inr ⟨tx z, _, z[r], rfl, rfl, by rw [tx_length]; exact Nat.le_of_lt (small1000 h1), by rw [tx_toList]; exact atI_nat (List.getElem?_eq_getElem hr'), q H' _ D' (List.getElem_mem hr')⟩)
theorem scOther : FnScope ["_law_step"] ["_law_step"] (defScope s_law_other) := ⟨rfl, rfl, rfl, by decide +kernel, rfl, by decide +kernel, by decide +kernel⟩
theorem ok_other (F : FnP K "_law_other" s_law_other f fd) : FnOk P w K mg base CX0 1 f fd ["_law_step"] spOther := by
  refine F.ok scOther (fun vs H Q E h => ?_) (fun cdv A outer s H vs Q E hr h => ?_)
  · obtain ⟨c, rfl, _⟩ := h
    rfl
  · obtain ⟨c, rfl, hc, q⟩ := h
    refine ⟨_, PSs.nox (pss_one (ps_ret (pe_ifExp (pt_cmpR op_in_sign (pv 0) pe_str (by rfl)) (pe_upper (pv 0)) (pe_lower (pv 0))))), ?_⟩
    refine ⟨_, rfl, c, _, rfl, rfl, _, rfl, ?_⟩
    rw [abcd_eq, tx_toList, abcd_mem hc]
    cases hf : isF c with
    | true =>
      refine iteT ?_
      refine ⟨_, rfl, ⟨_, rfl⟩, _, rfl, rfl, by rw [tx_length]; show 1 ≤ 5592405; decide, ?_⟩
      rw [up_stp hf hc]
      exact q
    | false =>
      refine iteF ?_
      refine ⟨_, rfl, ⟨_, rfl⟩, _, rfl, rfl, by rw [tx_length]; show 1 ≤ 5592405; decide, ?_⟩
      rw [low_stp hc, lo_ctr hc hf]
      exact q
abbrev NSwapped : List Str := ["_law_text", "_law_step"]
theorem scSwapped : FnScope NSwapped ["_law_text"] (defScope s_law_swapped) := ⟨rfl, rfl, rfl, by decide +kernel, rfl, by decide +kernel, by decide +kernel⟩
theorem ok_swapped (DO : Df P w K mg base "_law_other" 1 ["_law_step"] spOther) (F : FnP K "_law_swapped" s_law_swapped f fd) : FnOk P w K mg base CX0 2 f fd ["_law_text"] spSwapped := by
  refine F.ok scSwapped (fun vs H Q E h => ?_) (fun cdv A outer s H vs Q E hr h => ?_)
  · obtain ⟨r, rfl, _⟩ := h
    rfl
  · obtain ⟨r, rfl, hok, hl, q⟩ := h
    refine ⟨_, PSs.nox (pss_one (ps_ret (pe_join pe_str (pe_lc (own := [("_law_step", 1)]) rfl scSwapped.nd (pi_str (pv 0)) (blkOk_by (own := [("_law_step", 1)]) (N := NSwapped) (sc := defScope s_law_swapped) (by decide +kernel))
          (fun _ _ _ _ _ => pg_name (i := 1) scSwapped.nd rfl (Or.inl rfl)) (fun _ _ _ _ _ => pts_nil) (fun _ _ _ _ _ => pe_callD DO hr rfl (pa_cons (pv 1) pa_nil)))))), ?_⟩
    refine ⟨⟨_, rfl⟩, _, rfl, _, rfl, fun D hD => lc_it walk_str (fun i H' => Same H H' ∧ H' D = some (.lst ((((r.take i).map fun c => tx [ctr c])).map V.str))) ⟨same_new hD, upd_same⟩ (fun i H' _ _ => trivial) ?_ ?_⟩
    · rintro i x H1 H2 hi ⟨s1, hd⟩ ⟨rfl, c, hc, rfl⟩
      have hc' := tx_get hc
      rw [tx_size] at hi
      refine ⟨rfl, ?_⟩
      refine ⟨_, rfl, c, rfl, hok c (List.mem_of_getElem? hc'), _, hd, by rw [List.length_map, List.length_map, List.length_take]; exact small1000 (by omega), same_upd s1 hD, ?_⟩
      rw [upd_same, take_snoc hc', List.map_append, List.map_append]
      rfl
    · rintro H1 ⟨s1, hd⟩
      rw [tx_size, List.take_length] at hd
      have e1 : (r.map fun c => tx [ctr c]) = (r.map fun c => [ctr c]).map tx := by rw [List.map_map]; rfl
      rw [e1] at hd
      refine ⟨_, D, _, rfl, rfl, .inl (SqL.of hd), join_size _ (by rw [flat_one, List.length_map]; omega), ?_⟩
      rw [join_tx, flat_one]
      exact q H1 s1
abbrev NShuf : List Str := ["_law_draw", "_law_some_here", "_law_left", "_law_found"]
theorem scShuf : FnScope NShuf ["_law_draw", "_law_some_here"] (defScope s_law_shuffled) := ⟨rfl, rfl, rfl, by decide +kernel, rfl, by decide +kernel, by decide +kernel⟩
theorem ok_shuffled (G : Txt mg) (DN : Df P w K mg base "_law_next" 1 ["_law_draw", "_law_many"] spNext) (F : FnP K "_law_shuffled" s_law_shuffled f fd) : FnOk P w K mg base CX0 2 f fd ["_law_draw", "_law_some_here"] spShuffled := by
  refine F.ok scShuf (fun vs H Q E h => ?_) (fun cdv A outer s H vs Q E hr h => ?_)
  · obtain ⟨d, g, a, B, N, xs, rfl, _⟩ := h
    rfl
  · obtain ⟨d, g, a, B, N, xs, rfl, hN, D, ha, hl, q⟩ := h
    have hu : (A.deeper (envOfC "_law_shuffled" (defScope s_law_shuffled) s.heap.objs.size f cdv)).units < cLine := by have := hr.un; omega
    refine ⟨_, PSs.nox (pss_cons (ps_par rfl scShuf.nd (i := 2) (j := 3) rfl rfl (by decide) rfl rfl (pa_cons (pe_callTy call_list_of (by rfl) G.list (by decide +kernel) (pa_cons (pv 1) pa_nil)) (pa_cons (pe_lst pa_nil) pa_nil)) (by rfl))
      (pss_cons (ps_while PassesOwn.never (pt_cmpR (op_neNil hu) (pv 2) (pe_lst pa_nil) (nomark _))
        (pss_one (ps_expr (pe_bm PySem.F.plainAttrs_list PySem.F.slot_list_append PySem.F.type_list_append mt_append (pv 3) (pa_cons (pe_bm PySem.F.plainAttrs_list PySem.F.slot_list_pop PySem.F.type_list_pop mt_popAt (pv 2)
          (pa_cons (pe_callD DN hr rfl (pa_cons (pv 0) (pa_cons (pe_callB call_len_seq (by rfl) G.len PySem.boot_len (pa_cons (pv 2) pa_nil)) pa_nil))) pa_nil)) pa_nil)))))
      (pss_one (ps_ret (pv 3))))), ?_⟩
    refine ⟨_, rfl, a, xs, rfl, .inl (SqL.of (D.same _ _ ha)), fun L hL => ⟨Nat.zero_le _, fun F0 hF => ⟨_, _, rfl, ?_⟩⟩⟩
    have D1 := D.new (o := .lst xs) hL
    have D2 := D1.new (o := .lst []) hF
    have nLF : L ≠ F0 := fun z => by rw [← z, upd_same] at hF; cases hF
    have bL := D.fr hL
    have bF : B F0 = none := by
      have := D1.fr hF
      by_cases z : F0 = L
      · exact absurd z.symm nLF
      · rw [upd_ne z] at this
        exact this
    have s2 : Same B (upd (upd B L (.lst xs)) F0 (.lst [])) := same_upd (same_new bL) bF
    have l2 : (upd (upd B L (.lst xs)) F0 (.lst [])) L = some (.lst xs) := by rw [upd_ne nLF]; exact upd_same
    have f2 : (upd (upd B L (.lst xs)) F0 (.lst [])) F0 = some (.lst []) := upd_same
    generalize upd (upd B L (.lst xs)) F0 (.lst []) = B2 at D2 s2 l2 f2
    generalize upd (upd H L (.lst xs)) F0 (.lst []) = H2 at D2
    refine ⟨fun k σ H' => ∃ (B' : Hp) (ys zs : List V), σ = [some (.ref d), some (.ref a), some (.ref L), some (.ref F0)] ∧ Same B B' ∧ Dw (N + ys.length) d g B' H' ∧ B' L = some (.lst zs) ∧ B' F0 = some (.lst ys) ∧ (ys ++ zs).Perm xs ∧ k = zs.length,
      ⟨_, B2, [], xs, rfl, s2, D2, l2, f2, .refl _, rfl⟩, ?_⟩
    rintro k σ H3 ⟨B3, ys, zs, rfl, s3, D3, l3, f3, pm, rfl⟩
    have lys : ys.length + zs.length = xs.length := by rw [← List.length_append, pm.length_eq]
    refine ⟨_, rfl, Nat.zero_le _, fun b hb => ⟨L, b, _, rfl, rfl, SqL.of ((same_new hb) _ _ (D3.same _ _ l3)), SqL.of upd_same, _, rfl, ?_⟩⟩
    have D4 := D3.on (same_new (o := .lst []) hb)
    generalize upd H3 b (.lst []) = H4 at D4
    cases hz : zs with
    | nil =>
      refine iteF ?_
      rw [hz, List.append_nil] at pm
      exact ⟨_, rfl, q H4 B3 F0 ys s3 (D4.le (by rw [hz] at lys; simp at lys; omega)) f3 bF pm⟩
    | cons z zs' =>
      rw [← hz]
      have zpos : 0 < zs.length := by rw [hz]; exact Nat.succ_pos _
      have hne : (!zs.isEmpty) = true := by rw [hz]; rfl
      rw [hne]
      refine iteT ?_
      refine ⟨fun σ H' => ∃ (B' : Hp) (ys zs' : List V), σ = [some (.ref d), some (.ref a), some (.ref L), some (.ref F0)] ∧ Same B B' ∧ Dw (N + ys.length) d g B' H' ∧ B' L = some (.lst zs') ∧ B' F0 = some (.lst ys) ∧ (ys ++ zs').Perm xs ∧ zs'.length < zs.length,
        fun σ' H' ⟨B', ys, zs', e, h1, h2, h3, h4, h5, h6⟩ => ⟨_, h6, B', ys, zs', e, h1, h2, h3, h4, h5, rfl⟩, ?_⟩
      refine ⟨_, rfl, .inl ⟨rfl, _, SqL.of (D4.same _ _ f3)⟩, _, rfl, .inl ⟨rfl, _, SqL.of (D4.same _ _ l3)⟩, _, rfl, _, rfl, L, _, rfl, .inl (SqL.of (D4.same _ _ l3)), d, g, B3, N + ys.length, zs.length, rfl, zpos, by omega, by omega, D4, fun H5 r D5 hr5 => ?_⟩
      refine ⟨L, zs, _, r, zs[r], rfl, rfl, D5.same _ _ l3, by omega, by omega, by rw [seqIndex_of (by omega) (by omega), Int.toNat_natCast], List.getElem?_eq_getElem hr5, ?_⟩
      have D6 := D5.put (o' := .lst (zs.eraseIdx r)) l3
      have nFL : F0 ≠ L := Ne.symm nLF
      have f6 : (upd B3 L (.lst (zs.eraseIdx r))) F0 = some (.lst ys) := by rw [upd_ne nFL]; exact f3
      have l6 : (upd B3 L (.lst (zs.eraseIdx r))) L = some (.lst (zs.eraseIdx r)) := upd_same
      have s6 : Same B (upd B3 L (.lst (zs.eraseIdx r))) := same_upd s3 bL
      generalize upd B3 L (.lst (zs.eraseIdx r)) = B6 at D6 f6 l6 s6
      refine ⟨F0, ys, _, rfl, rfl, D6.same _ _ f6, small1000 (by omega), ?_⟩
      have D7 := D6.put (o' := .lst (ys ++ [zs[r]])) f6
      refine ⟨_, ys ++ [zs[r]], zs.eraseIdx r, rfl, same_upd s6 bF, ?_, ?_, upd_same, ?_, ?_⟩
      · rw [List.length_append, List.length_singleton, ← Nat.add_assoc]
        exact D7
      · rw [upd_ne nLF]
        exact l6
      · rw [List.append_assoc, List.singleton_append]
        exact (List.Perm.append_left ys (pop_perm hr5)).trans pm
      · rw [List.length_eraseIdx_of_lt hr5]
        omega
end
end K54
namespace K54
open PySem PySem.Spec PyProof.Rows L2
/-! ### drawn letters, rows, rides, moments -/
theorem perm_map_inv {α : Type} {f : Nat → α} {g : α → Nat} (hg : ∀ c, g (f c) = c) {l : List Nat} {ys : List α} (h : ys.Perm (l.map f)) : ∃ zs : List Nat, zs.Perm l ∧ ys = zs.map f := by
  refine ⟨ys.map g, ?_, ?_⟩
  · have := h.map g
    rw [List.map_map] at this
    have e : l.map (g ∘ f) = l.map id := List.map_congr_left fun c _ => hg c
    rw [e, List.map_id] at this
    exact this
  · rw [List.map_map]
    have e : ys.map (f ∘ g) = ys.map id := List.map_congr_left fun y hy => by
      obtain ⟨c, _, rfl⟩ := List.mem_map.mp (h.mem_iff.mp hy)
      show f (g (f c)) = f c
      rw [hg]
    rw [e, List.map_id]
abbrev cV (c : Nat) : V := .str (tx [c])
def unC : V → Nat
  | .str z => z.cps.toList.headD 0
  | _ => 0
theorem unC_cV (c : Nat) : unC (cV c) = c := by
  show (tx [c]).cps.toList.headD 0 = c
  rw [tx_toList]
  rfl
theorem cut_take (f : Nat → V) (zs : List Nat) (k : Nat) (h : k ≤ zs.length) : cutV (zs.map f) none (some (k : Int)) = (zs.take k).map f := by
  unfold cutV
  rw [HT.sIx_none, HT.sIx_nat, List.length_map, List.drop_zero, Nat.sub_zero, Nat.min_eq_left h, List.map_take]
def BB : Int := 10 ^ 45
/-- a moment as the law keeps it -/
def mV (t : Int) : V := if t ≤ -BB then .str "first" else if BB ≤ t then .str "last" else .int t
theorem BB_big : (1000000000 : Int) < BB := by unfold BB; decide
theorem mV_first : mV (-BB) = .str "first" := if_pos (Int.le_refl _)
theorem mV_last : mV BB = .str "last" := by
  have := BB_big
  unfold mV
  rw [if_neg (by omega), if_pos (Int.le_refl _)]
theorem mV_int {t : Int} (h1 : -1000000000 ≤ t) (h2 : t ≤ 1000000000) : mV t = .int t := by
  have := BB_big
  unfold mV
  rw [if_neg (by omega), if_neg (by omega)]
def rV (q : Int × Int) : List V := [.int q.1, .int q.2]
/-- letters of lines -/
def LetOk (z : List Nat) : Prop := z ≠ [] ∧ z.length ≤ 4 ∧ ∀ c ∈ z, c ∈ [97, 98, 99, 100]
def RidesOk (M : Int) (R : List (Int × Int)) : Prop := ∀ q ∈ R, -M ≤ q.1 ∧ q.1 ≤ q.2 ∧ q.2 ≤ M
def spSome : Sp := fun vs H Q _ => ∃ (d g : Addr) (B : Hp) (N m : Nat), vs = [.ref d, .int (m : Int)] ∧ N + 16 < 1000000 ∧ Dw N d g B H ∧ 1 ≤ m ∧ m ≤ 4 ∧ ∀ H' z, Dw (N + 16) d g B H' → LetOk z → Q (.str (tx z)) H'
def spRow : Sp := fun vs H Q _ => ∃ (d g : Addr) (B : Hp) (N m : Nat) (z : List Nat), vs = [.ref d, .str (tx z), .int (m : Int)] ∧ N + 32 < 1000000 ∧ Dw N d g B H ∧ 1 ≤ m ∧ m ≤ 9 ∧ LetOk z ∧
  ∀ H' r, Dw (N + 32) d g B H' → RowOk r → r.length + 1 ≤ m → (∀ c ∈ r, lo c ∈ z) → Q (sV r) H'
def spRides : Sp := fun vs H Q _ => ∃ (d g : Addr) (B : Hp) (N m wd : Nat), vs = [.ref d, .int (m : Int), .int (wd : Int)] ∧ N + 32 < 1000000 ∧ Dw N d g B H ∧ m ≤ 8 ∧ 1 ≤ wd ∧ wd ≤ 100 ∧
  ∀ H' B' p ts R, Same B B' → Dw (N + 32) d g B' H' → B p = none → B' p = some (.lst (ts.map V.ref)) → Tps rV B' ts R → RidesOk 1000 R → R.length ≤ 8 → Q (.ref p) H'
def spMoment : Sp := fun vs H Q _ => ∃ (d g : Addr) (B : Hp) (N wd : Nat), vs = [.ref d, .int (wd : Int)] ∧ N + 8 < 1000000 ∧ Dw N d g B H ∧ 1 ≤ wd ∧ wd ≤ 100 ∧
  ∀ H' t, Dw (N + 8) d g B H' → -BB ≤ t → t ≤ BB → Q (mV t) H'
section
variable {P : Program} {w : World} {K : PySem.W.Frag} {mg : Str → Option Value} {base : Heap} {C f : Addr} {fd : FuncData}
theorem scSome : FnScope ["_law_draw", "_law_many"] ["_law_draw", "_law_many"] (defScope s_law_some) := ⟨rfl, rfl, rfl, by decide +kernel, rfl, by decide +kernel, by decide +kernel⟩
theorem ok_some (G : Txt mg) (DN : Df P w K mg base "_law_next" 1 ["_law_draw", "_law_many"] spNext) (DS : Df P w K mg base "_law_shuffled" 2 ["_law_draw", "_law_some_here"] spShuffled) (F : FnP K "_law_some" s_law_some f fd) :
    FnOk P w K mg base CX0 3 f fd ["_law_draw", "_law_many"] spSome := by
  refine F.ok scSome (fun vs H Q E h => ?_) (fun cdv A outer s H vs Q E hr h => ?_)
  · obtain ⟨d, g, B, N, m, rfl, _⟩ := h
    rfl
  · obtain ⟨d, g, B, N, m, rfl, hN, D, hm1, hm4, q⟩ := h
    refine ⟨_, PSs.nox (pss_one (ps_ret (pe_join pe_str (pe_slice sl_list (pe_callD DS hr rfl (pa_cons (pv 0) (pa_cons (pe_callTy (cr_listStr rfl) (by rfl) G.list (by decide +kernel) (pa_cons pe_str pa_nil)) pa_nil))) po_none (po_some (pe_op op_add pe_int (pe_callD DN (hr.mono (by decide)) rfl (pa_cons (pv 0) (pa_cons (pv 1) pa_nil))))))))), ?_⟩
    refine ⟨⟨_, rfl⟩, _, rfl, [97, 98, 99, 100], by rw [abcd_eq], by decide, fun p hp => ?_⟩
    have D1 := D.new (o := .lst ([97, 98, 99, 100].map cV)) hp
    refine ⟨d, g, p, _, N, _, rfl, by omega, D1, upd_same, by decide, fun H1 B1 p1 ys s1 D2 h1 _ pm => ?_⟩
    obtain ⟨zs, pz, rfl⟩ := perm_map_inv unC_cV pm
    have lz : zs.length = 4 := by rw [pz.length_eq]; rfl
    refine ⟨_, rfl, _, rfl, d, g, B1, N + 8, m, rfl, by omega, by omega, by omega, D2, fun H2 r D3 hr3 => ?_⟩
    refine ⟨_, _, rfl, rfl, _, rfl, p1, _, rfl, SqL.of (D3.same _ _ h1), fun p2 hp2 => ?_⟩
    have e1 : (1 : Int) + (r : Int) = ((1 + r : Nat) : Int) := by omega
    rw [e1, cut_take cV zs (1 + r) (by omega)]
    have e2 : (zs.take (1 + r)).map cV = (((zs.take (1 + r)).map fun c => [c]).map tx).map V.str := by rw [List.map_map, List.map_map]; rfl
    have e3 : ((zs.take (1 + r)).map fun c => [c]).flatten = zs.take (1 + r) := by
      have := flat_one id (zs.take (1 + r))
      rw [List.map_id] at this
      exact this
    refine ⟨_, p2, (((zs.take (1 + r)).map fun c => [c]).map tx), rfl, rfl, .inl (by rw [e2]; exact SqL.of upd_same), join_size _ (by rw [e3, List.length_take]; omega), ?_⟩
    rw [join_tx, e3]
    refine q _ _ ((D3.on (same_new hp2)).down ((same_new (D.fr hp)).trans s1) |>.le (by omega)) ⟨?_, ?_, ?_⟩
    · intro z
      have := congrArg List.length z
      rw [List.length_take, List.length_nil] at this
      omega
    · rw [List.length_take]
      omega
    · intro c hc
      exact pz.mem_iff.mp (List.mem_of_mem_take hc)
theorem up_let {z : List Nat} (h : ∀ c ∈ z, c ∈ [97, 98, 99, 100]) : PySem.Txt.upper (tx z) = tx (z.map ctr) := by
  have key : ∀ c ∈ [97, 98, 99, 100], c < 128 ∧ PyProof.Rows.up1 c = ctr c := by decide
  have e : z.all (· < 128) = true := List.all_eq_true.mpr fun c hc => decide_eq_true (key c (h c hc)).1
  show PySem.Txt.upper (SX.S z) = _
  rw [SX.upper_S e]
  have e2 : z.map PyProof.Rows.up1 = z.map ctr := List.map_congr_left fun c hc => (key c (h c hc)).2
  rw [e2]
  rfl
theorem let_both {z : List Nat} (h : ∀ c ∈ z, c ∈ [97, 98, 99, 100]) {c : Nat} (hc : c ∈ z ++ z.map ctr) : isStp c = true ∧ lo c ∈ z := by
  have key : ∀ c ∈ [97, 98, 99, 100], isStp c = true ∧ lo c = c ∧ isStp (ctr c) = true ∧ lo (ctr c) = c := by decide
  rcases List.mem_append.mp hc with hc | hc
  · obtain ⟨h1, h2, _⟩ := key c (h c hc)
    exact ⟨h1, by rw [h2]; exact hc⟩
  · obtain ⟨b, hb, rfl⟩ := List.mem_map.mp hc
    obtain ⟨_, _, h3, h4⟩ := key b (h b hb)
    exact ⟨h3, by rw [h4]; exact hb⟩
abbrev NRow : List Str := ["_law_draw", "_law_letters", "_law_many", "_law_found", "_law_step"]
theorem scRow : FnScope NRow ["_law_draw", "_law_letters", "_law_many"] (defScope s_law_row) := ⟨rfl, rfl, rfl, by decide +kernel, rfl, by decide +kernel, by decide +kernel⟩
theorem ok_row (G : Txt mg) (DN : Df P w K mg base "_law_next" 1 ["_law_draw", "_law_many"] spNext) (DP : Df P w K mg base "_law_pick" 2 ["_law_draw", "_law_some_here"] spPick) (DO : Df P w K mg base "_law_other" 1 ["_law_step"] spOther) (F : FnP K "_law_row" s_law_row f fd) :
    FnOk P w K mg base CX0 3 f fd ["_law_draw", "_law_letters", "_law_many"] spRow := by
  refine F.ok scRow (fun vs H Q E h => ?_) (fun cdv A outer s H vs Q E hr h => ?_)
  · obtain ⟨d, g, B, N, m, z, rfl, _⟩ := h
    rfl
  · obtain ⟨d, g, B, N, m, z, rfl, hN, D, hm1, hm9, hz, q⟩ := h
    obtain ⟨z0, z4, zl⟩ := hz
    refine ⟨_, PSs.nox (pss_cons (ps_set (i := 3) scRow.nd rfl (Or.inl rfl) pe_str)
      (pss_cons (ps_while PassesOwn.never (PW.pt (pw_and (pt_cmpR op_lt (pe_callB call_len_str (by rfl) G.len PySem.boot_len (pa_cons (pv 3) pa_nil)) (pe_op op_sub (pv 2) pe_int) (nomark _)) (pw_and1 (pt_cmpR op_gt (pe_callD DN (hr.mono (by decide)) rfl (pa_cons (pv 0) (pa_cons (pv 2) pa_nil))) pe_int (nomark _)))))
        (pss_cons (ps_set (i := 4) scRow.nd rfl (Or.inl rfl) (pe_callD DP hr rfl (pa_cons (pv 0) (pa_cons (pe_op op_add_str (pv 1) (pe_upper (pv 1))) pa_nil))))
        (pss_cons (ps_cut (ps_if (PW.pt (pw_and (pt_cmpR op_ne (pv 3) pe_str (nomark _)) (pw_and1 (pt_cmpR op_eq (pe_callD DN (hr.mono (by decide)) rfl (pa_cons (pv 0) (pa_cons pe_int pa_nil))) pe_int (nomark _)))))
          (pss_one (ps_set (i := 4) scRow.nd rfl (Or.inl rfl) (pe_callD DO (hr.mono (by decide)) rfl (pa_cons (pe_ix ix_str (pv 3) (pe_un un_neg pe_int) (fun _ _ => rfl)) pa_nil)))) pss_nil))
        (pss_one (ps_set (i := 3) scRow.nd rfl (Or.inl rfl) (pe_op op_add_str (pv 3) (pv 4)))))))
      (pss_one (ps_ret (pv 3))))), ?_⟩
    have e0 : ("" : Str) = tx [] := by decide +kernel
    refine ⟨fun k σ H' => ∃ (r : List Nat) (v4 : Option V), σ = [some (.ref d), some (.str (tx z)), some (.int (m : Int)), some (.str (tx r)), v4] ∧ Dw (N + 3 * r.length) d g B H' ∧ RowOk r ∧ (∀ c ∈ r, lo c ∈ z) ∧ r.length + 1 ≤ m ∧ k = m - r.length,
      ⟨_, [], none, by rw [← e0]; rfl, D, (fun c hc => by cases hc), (fun c hc => by cases hc), hm1, rfl⟩, ?_⟩
    rintro k σ H1 ⟨r, v4, rfl, D1, rok, rz, rl, rfl⟩
    refine ⟨_, rfl, _, rfl, by rw [tx_length]; exact Nat.le_of_lt (small1000 (by omega)), _, rfl, _, _, rfl, rfl, _, _, rfl, rfl, _, rfl, ?_⟩
    rw [tx_length]
    by_cases hlt : ((r.length : Nat) : Int) < (m : Int) - 1
    · rw [decide_eq_true hlt]
      refine iteT ?_
      refine ⟨_, rfl, _, rfl, d, g, B, _, m, rfl, by omega, by omega, by omega, D1, fun H2 k2 D2 hk2 => ⟨_, _, rfl, rfl, _, rfl, ?_⟩⟩
      by_cases hk : (0 : Int) < (k2 : Int)
      · rw [decide_eq_true hk]
        refine iteT ?_
        refine ⟨fun σ H' => ∃ (r' : List Nat) (v4 : Option V), σ = [some (.ref d), some (.str (tx z)), some (.int (m : Int)), some (.str (tx r')), v4] ∧ Dw (N + 3 * r'.length) d g B H' ∧ RowOk r' ∧ (∀ c ∈ r', lo c ∈ z) ∧ r'.length + 1 ≤ m ∧ r.length < r'.length,
          fun σ' H' ⟨r', v4, e, h1, h2, h3, h4, h5⟩ => ⟨m - r'.length, by omega, r', v4, e, h1, h2, h3, h4, rfl⟩, ?_⟩
        refine ⟨_, rfl, _, rfl, _, rfl, ⟨_, rfl⟩, _, rfl, rfl, by rw [tx_length]; omega, ?_⟩
        rw [up_let zl]
        refine ⟨_, _, rfl, rfl, by rw [tx_length, tx_length, List.length_map]; exact Nat.le_of_lt (small1000 (by omega)), ?_⟩
        rw [tx_cat]
        have zpos : 0 < z.length := List.length_pos_iff.mpr z0
        refine ⟨d, g, B, _, _, rfl, by omega, D2, .inr ⟨_, rfl, by rw [List.length_append]; omega, by rw [List.length_append, List.length_map]; omega, fun H3 c D3 hc => ?_⟩⟩
        obtain ⟨cs, cz⟩ := let_both zl hc
        refine ⟨fun σ H' => ∃ c, σ = [some (.ref d), some (.str (tx z)), some (.int (m : Int)), some (.str (tx r)), some (.str (tx [c]))] ∧ Dw (N + 3 * r.length + 3) d g B H' ∧ isStp c = true ∧ lo c ∈ z, ?_, ?_⟩
        · refine ⟨_, rfl, rfl, _, rfl, ?_⟩
          rw [e0]
          rcases List.eq_nil_or_concat r with hr0 | ⟨r0, b, hr0⟩
          · subst hr0
            rw [decide_eq_true (show V.str (tx []) = V.str (tx []) from rfl)]
            refine iteF (iteF ?_)
            exact ⟨c, rfl, D3.le (by omega), cs, cz⟩
          · rw [List.concat_eq_append] at hr0
            have hne : ¬ V.str (tx r) = V.str (tx []) := fun e => by
              have := tx_inj (V.str.inj e)
              rw [this] at hr0
              simp at hr0
            rw [decide_eq_false hne]
            refine iteT ?_
            refine ⟨_, rfl, d, g, B, _, 3, rfl, by decide, by decide, by omega, D3, fun H4 k4 D4 hk4 => ⟨rfl, _, rfl, ?_⟩⟩
            by_cases h4 : V.int (k4 : Int) = V.int 0
            · rw [decide_eq_true h4]
              refine iteT ?_
              have hb : b ∈ r := by rw [hr0]; simp
              have bs := rok b hb
              refine ⟨_, rfl, _, rfl, tx r, _, b, rfl, rfl, by rw [tx_length]; exact Nat.le_of_lt (small1000 (by omega)), by rw [tx_toList, hr0]; exact atI_last _ _, b, rfl, bs, ?_⟩
              exact ⟨ctr b, rfl, D4.le (by omega), (ctr_stp bs).2.2.1, by rw [(ctr_stp bs).2.1]; exact rz b hb⟩
            · rw [decide_eq_false h4]
              refine iteF ?_
              exact ⟨c, rfl, D4.le (by omega), cs, cz⟩
        · rintro σ H4 ⟨c, rfl, D4, cs, cz⟩
          refine ⟨_, rfl, _, rfl, _, _, rfl, rfl, by rw [tx_length, tx_length]; exact Nat.le_of_lt (small1000 (by show r.length + 1 ≤ 1000; omega)), ?_⟩
          rw [tx_cat]
          refine ⟨r ++ [c], _, rfl, ?_, ?_, ?_, ?_, ?_⟩
          · rw [List.length_append, List.length_singleton]
            exact D4.le (by omega)
          · intro b hb
            rcases List.mem_append.mp hb with hb | hb
            · exact rok b hb
            · rw [List.mem_singleton] at hb
              rw [hb]
              exact cs
          · intro b hb
            rcases List.mem_append.mp hb with hb | hb
            · exact rz b hb
            · rw [List.mem_singleton] at hb
              rw [hb]
              exact cz
          · rw [List.length_append, List.length_singleton]
            omega
          · rw [List.length_append, List.length_singleton]
            omega
      · rw [decide_eq_false hk]
        refine iteF ?_
        exact ⟨_, rfl, q H2 r (D2.le (by omega)) rok rl rz⟩
    · rw [decide_eq_false hlt]
      refine iteF (iteF ?_)
      exact ⟨_, rfl, q H1 r (D1.le (by omega)) rok rl rz⟩
abbrev NRides : List Str := ["_law_draw", "_law_many", "_law_wide", "_law_found", "_law_turn", "_law_begin_here"]
theorem scRides : FnScope NRides ["_law_draw", "_law_many", "_law_wide"] (defScope s_law_rides) := ⟨rfl, rfl, rfl, by decide +kernel, rfl, by decide +kernel, by decide +kernel⟩
theorem ok_rides (G : Txt mg) (DN : Df P w K mg base "_law_next" 1 ["_law_draw", "_law_many"] spNext) (F : FnP K "_law_rides" s_law_rides f fd) : FnOk P w K mg base CX0 2 f fd ["_law_draw", "_law_many", "_law_wide"] spRides := by
  refine F.ok scRides (fun vs H Q E h => ?_) (fun cdv A outer s H vs Q E hr h => ?_)
  · obtain ⟨d, g, B, N, m, wd, rfl, _⟩ := h
    rfl
  · obtain ⟨d, g, B, N, m, wd, rfl, hN, D, hm, hw1, hw2, q⟩ := h
    refine ⟨_, PSs.nox (pss_cons (ps_set (i := 3) scRides.nd rfl (Or.inl rfl) (pe_lst pa_nil))
      (pss_cons (ps_for PassesOwn.never rfl (pi_range1 (by rfl) G.range (pa_cons (pe_callD DN hr rfl (pa_cons (pv 0) (pa_cons (pe_op op_add (pv 1) pe_int) pa_nil))) pa_nil)) (pg_name (i := 4) scRides.nd rfl (Or.inl rfl))
        (pss_cons (ps_set (i := 5) scRides.nd rfl (Or.inl rfl) (pe_op op_sub (pe_callD DN hr rfl (pa_cons (pv 0) (pa_cons (pe_op op_mul pe_int (pv 2)) pa_nil))) (pv 2)))
        (pss_one (ps_expr (pe_bm PySem.F.plainAttrs_list PySem.F.slot_list_append PySem.F.type_list_append mt_append (pv 3) (pa_cons (pe_tup (pa_cons (pv 5) (pa_cons (pe_op op_add (pv 5) (pe_op op_mul (pe_callD DN hr rfl (pa_cons (pv 0) (pa_cons (pv 2) pa_nil)))
          (pe_callTy call_int1 (by rfl) G.int (by decide +kernel) (pa_cons (pe_cmpR op_gt (pe_callD DN hr rfl (pa_cons (pv 0) (pa_cons pe_int pa_nil))) pe_int (nomark _)) pa_nil)))) pa_nil))) pa_nil))))))
      (pss_one (ps_ret (pv 3))))), ?_⟩
    refine ⟨Nat.zero_le _, fun F0 hF => ?_⟩
    have D1 := D.new (o := .lst []) hF
    have bF := D.fr hF
    refine ⟨_, rfl, _, rfl, _, _, rfl, rfl, d, g, _, N, m + 1, rfl, by omega, by omega, by omega, D1, fun H2 k D2 hk => ?_⟩
    have hs : Same B (upd B F0 (.lst [])) := same_new bF
    refine ⟨_, rfl, by omega, by omega, for_it walk_range (fun i σ H' => ∃ (v4 v5 : Option V) (B' : Hp) (ts : List Addr) (R : List (Int × Int)), σ = [some (.ref d), some (.int (m : Int)), some (.int (wd : Int)), some (.ref F0), v4, v5] ∧ Same B B' ∧ Dw (N + 1 + 3 * i) d g B' H' ∧ B' F0 = some (.lst (ts.map V.ref)) ∧ Tps rV B' ts R ∧ RidesOk 1000 R ∧ R.length = i)
      ⟨none, none, _, [], [], rfl, hs, D2, upd_same, Tps.nil, (fun q h => by cases h), rfl⟩ (fun _ _ _ _ _ => trivial) ?_ ?_⟩
    · rintro i x σ H3' H3 hi ⟨v4, v5, B3, ts, R, rfl, s3, D3, f3, t3, ok3, l3⟩ ⟨rfl, rfl⟩
      rw [Int.toNat_natCast] at hi
      refine ⟨_, rfl, _, rfl, _, _, rfl, rfl, .inl ⟨by decide, by decide⟩, d, g, B3, _, 2 * wd, ?_, by omega, by omega, by omega, D3, fun H4 r1 D4 hr1 => ?_⟩
      · show [V.ref d, V.int (2 * (wd : Int))] = _
        rw [show (2 * (wd : Int)) = ((2 * wd : Nat) : Int) by omega]
      refine ⟨_, rfl, _, _, rfl, rfl, ?_⟩
      refine ⟨_, rfl, .inl ⟨rfl, _, SqL.of (D4.same _ _ f3)⟩, _, rfl, _, rfl, _, rfl, _, rfl, d, g, B3, _, wd, rfl, by omega, by omega, by omega, D4, fun H5 r2 D5 hr2 => ?_⟩
      refine ⟨_, rfl, d, g, B3, _, 4, rfl, by decide, by decide, by omega, D5, fun H6 r3 D6 hr3 => ⟨_, _, rfl, rfl, .inr ⟨_, rfl, ?_⟩⟩⟩
      have hb : ∃ u : Nat, (if decide ((0 : Int) < (r3 : Int)) = true then (1 : Int) else 0) = (u : Int) ∧ u ≤ 1 := by
        by_cases h : decide ((0 : Int) < (r3 : Int)) = true
        · exact ⟨1, if_pos h, Nat.le_refl _⟩
        · exact ⟨0, if_neg h, Nat.zero_le _⟩
      obtain ⟨u, hu, hu1⟩ := hb
      rw [hu]
      have um : r2 * u ≤ r2 := by
        have := Nat.mul_le_mul_left r2 hu1
        omega
      have ue : (r2 : Int) * (u : Int) = ((r2 * u : Nat) : Int) := by norm_cast
      refine ⟨_, _, rfl, rfl, .inr ⟨by omega, by omega⟩, _, _, rfl, rfl, by show 2 ≤ sizeLine; decide, fun T hT => ?_⟩
      rw [ue]
      have D7 := D6.new (o := .tup [V.int ((r1 : Int) - (wd : Int)), V.int ((r1 : Int) - (wd : Int) + ((r2 * u : Nat) : Int))]) hT
      have bT := D6.fr hT
      have f7 : (upd B3 T (.tup [V.int ((r1 : Int) - (wd : Int)), V.int ((r1 : Int) - (wd : Int) + ((r2 * u : Nat) : Int))])) F0 = some (.lst (ts.map V.ref)) := (same_new bT) _ _ f3
      refine ⟨F0, _, _, rfl, rfl, D7.same _ _ f7, by rw [List.length_map, t3.len]; exact small1000 (by omega), ?_⟩
      have D8 := D7.put (o' := .lst (ts.map V.ref ++ [V.ref T])) f7
      refine ⟨_, _, _, ts ++ [T], R ++ [((r1 : Int) - (wd : Int), (r1 : Int) - (wd : Int) + ((r2 * u : Nat) : Int))], rfl, same_upd (s3.trans (same_new bT)) bF, D8.le (by omega), by rw [upd_same, List.map_append]; rfl, ?_, ?_, by rw [List.length_append, l3]; rfl⟩
      · refine Tps.snoc ((t3.new bT).lst f7) ?_
        rw [upd_ne (ne_of (o := .tup (rV ((r1 : Int) - (wd : Int), (r1 : Int) - (wd : Int) + ((r2 * u : Nat) : Int)))) upd_same f7 (by intro z; cases z))]
        exact upd_same
      · intro p hp
        rcases List.mem_append.mp hp with hp | hp
        · exact ok3 p hp
        · rw [List.mem_singleton] at hp
          rw [hp]
          refine ⟨?_, ?_, ?_⟩ <;> simp only <;> omega
    · rintro σ H3 ⟨v4, v5, B3, ts, R, rfl, s3, D3, f3, t3, ok3, l3⟩
      rw [Int.toNat_natCast] at D3 l3
      exact ⟨_, rfl, q H3 B3 F0 ts R s3 (D3.le (by omega)) bF f3 t3 ok3 (by omega)⟩
abbrev NMom : List Str := ["_law_draw", "_law_wide", "_law_some_here", "_law_turn"]
theorem scMom : FnScope NMom ["_law_draw", "_law_wide"] (defScope s_law_moment) := ⟨rfl, rfl, rfl, by decide +kernel, rfl, by decide +kernel, by decide +kernel⟩
theorem ok_moment (G : Txt mg) (DN : Df P w K mg base "_law_next" 1 ["_law_draw", "_law_many"] spNext) (DP : Df P w K mg base "_law_pick" 2 ["_law_draw", "_law_some_here"] spPick) (F : FnP K "_law_moment" s_law_moment f fd) :
    FnOk P w K mg base CX0 3 f fd ["_law_draw", "_law_wide"] spMoment := by
  refine F.ok scMom (fun vs H Q E h => ?_) (fun cdv A outer s H vs Q E hr h => ?_)
  · obtain ⟨d, g, B, N, wd, rfl, _⟩ := h
    rfl
  · obtain ⟨d, g, B, N, wd, rfl, hN, D, hw1, hw2, q⟩ := h
    refine ⟨_, PSs.nox (pss_cons (ps_setLc (i := 2) (own := [("_law_turn", 3)]) rfl scMom.nd rfl rfl (sw_true rfl rfl rfl (by decide +kernel)) (pi_range1 (by rfl) G.range (pa_cons pe_int pa_nil)) (blkOk_by (own := [("_law_turn", 3)]) (N := NMom) (sc := defScope s_law_moment) (by decide +kernel))
        (fun _ _ _ _ _ => pg_name (i := 3) scMom.nd rfl (Or.inl rfl)) (fun _ _ _ _ _ => pts_nil) (fun _ _ _ _ _ => pe_op op_sub (pe_op op_sub (pe_callD DN (hr.mono (by decide)) rfl (pa_cons (pv 0) (pa_cons (pe_op op_mul pe_int (pv 1)) pa_nil))) (pv 1)) (pe_op op_fdiv (pv 1) pe_int)))
      (pss_one (ps_ret (pe_callD DP hr rfl (pa_cons (pv 0) (pa_cons (pe_op op_cat (pv 2) (pe_lst (pa_cons pe_str (pa_cons pe_str pa_nil)))) pa_nil)))))), ?_⟩
    refine ⟨4, rfl, by decide, by decide, fun L hL => ?_⟩
    have bL := D.fr hL
    refine lc_it walk_range (fun i H' => ∃ (B' : Hp) (ms : List Int), Same B B' ∧ Dw (N + i) d g B' H' ∧ B' L = some (.lst (ms.map V.int)) ∧ (∀ t ∈ ms, -1000 ≤ t ∧ t ≤ 1000) ∧ ms.length = i) ⟨_, [], same_new bL, D.new hL, upd_same, (fun t h => by cases h), rfl⟩ (fun _ _ _ _ => trivial) ?_ ?_
    · rintro i x H1' H1 hi ⟨B1, ms, s1, D1, l1, b1, n1⟩ ⟨rfl, rfl⟩
      have hi : i < 4 := hi
      refine ⟨rfl, ?_⟩
      refine ⟨_, rfl, _, rfl, _, _, rfl, rfl, .inl ⟨by decide, by decide⟩, d, g, B1, _, 3 * wd, ?_, by omega, by omega, by omega, D1, fun H2 r D2 hr2 => ?_⟩
      · show [V.ref d, V.int (3 * (wd : Int))] = _
        rw [show (3 * (wd : Int)) = ((3 * wd : Nat) : Int) by omega]
      refine ⟨_, rfl, _, _, rfl, rfl, _, rfl, _, _, rfl, rfl, ⟨by decide, by decide⟩, _, _, rfl, rfl, ?_⟩
      refine ⟨_, D2.same _ _ l1, by rw [List.length_map]; exact small1000 (by omega), _, ms ++ [(r : Int) - (wd : Int) - (wd : Int) / 2], same_upd s1 bL, D2.put l1, by rw [upd_same, List.map_append]; rfl, fun t ht => ?_, by rw [List.length_append, n1]; rfl⟩
      rcases List.mem_append.mp ht with ht | ht
      · exact b1 t ht
      · rw [List.mem_singleton] at ht
        rw [ht]
        omega
    · rintro H1 ⟨B1, ms, s1, D1, l1, b1, n1⟩
      have D1 : Dw (N + 4) d g B1 H1 := D1
      refine ⟨_, rfl, _, rfl, by show 2 ≤ sizeLine; decide, fun c hc => ?_⟩
      have D2 := D1.new (o := .lst [V.str "first", V.str "last"]) hc
      have bc := D1.fr hc
      have l2 := (same_new (o := .lst [V.str "first", V.str "last"]) bc) _ _ l1
      refine ⟨L, c, _, _, rfl, rfl, D2.same _ _ l2, upd_same, ?_, fun p hp => ?_⟩
      · rw [List.length_map]
        exact Nat.le_of_lt (small1000 (by show ms.length + 2 ≤ 1000; have : ms.length = 4 := n1; omega))
      have D3 := D2.new (o := .lst (ms.map V.int ++ [V.str "first", V.str "last"])) hp
      have n4 : ms.length = 4 := n1
      have bp := D2.fr hp
      refine ⟨d, g, _, _, _, rfl, by omega, D3, .inl ⟨p, _, rfl, upd_same, by rw [List.length_append, List.length_map]; omega, by rw [List.length_append, List.length_map, n4]; decide, fun H4 v D4 hv => ?_⟩⟩
      have D5 : Dw (N + 8) d g B H4 := (D4.down (s1.trans ((same_new bc).trans (same_new bp)))).le (by omega)
      have bb := BB_big
      rcases List.mem_append.mp hv with hv | hv
      · obtain ⟨t, ht, rfl⟩ := List.mem_map.mp hv
        have := b1 t ht
        have k := q H4 t D5 (by omega) (by omega)
        rw [mV_int (by omega) (by omega)] at k
        exact k
      · rcases List.mem_cons.mp hv with rfl | hv
        · have k := q H4 (-BB) D5 (Int.le_refl _) (by omega)
          rw [mV_first] at k
          exact k
        · rw [List.mem_singleton] at hv
          rw [hv]
          have k := q H4 BB D5 (by omega) (Int.le_refl _)
          rw [mV_last] at k
          exact k
end
end K54
namespace K54
open PySem PySem.Spec PyProof.Rows L2
/-! ### ends and begins by rides -/
theorem mV_cases (t : Int) : (t ≤ -BB ∧ mV t = .str "first") ∨ (BB ≤ t ∧ mV t = .str "last") ∨ (-BB < t ∧ t < BB ∧ mV t = .int t) := by
  have := BB_big
  unfold mV
  by_cases h1 : t ≤ -BB
  · exact .inl ⟨h1, if_pos h1⟩
  · by_cases h2 : BB ≤ t
    · exact .inr (.inl ⟨h2, by rw [if_neg h1, if_pos h2]⟩)
    · exact .inr (.inr ⟨by omega, by omega, by rw [if_neg h1, if_neg h2]⟩)
theorem in_first : inV (.str "first") [.str "first", .str "last"] = true := by decide +kernel
theorem in_last : inV (.str "last") [.str "first", .str "last"] = true := by decide +kernel
theorem in_int (t : Int) : inV (.int t) [.str "first", .str "last"] = false := rfl
def endsR (R : List (Int × Int)) (t : Int) : List Int := (R.filter fun q => decide (t ≤ q.1)).map (·.2)
def begsR (R : List (Int × Int)) (t : Int) : List Int := (R.filter fun q => decide (q.2 ≤ t)).map (·.1)
theorem fEnd_low {R : List (Int × Int)} {t : Int} (h : t ≤ -BB) : fEnd BB R t = -BB := if_pos h
theorem mem_endsR {R : List (Int × Int)} {t m : Int} : m ∈ endsR R t ↔ ∃ q ∈ R, t ≤ q.1 ∧ q.2 = m := by
  unfold endsR
  rw [List.mem_map]
  constructor
  · rintro ⟨q, hq, rfl⟩
    obtain ⟨h1, h2⟩ := List.mem_filter.mp hq
    exact ⟨q, h1, of_decide_eq_true h2, rfl⟩
  · rintro ⟨q, h1, h2, rfl⟩
    exact ⟨q, List.mem_filter.mpr ⟨h1, decide_eq_true h2⟩, rfl⟩
theorem mem_begsR {R : List (Int × Int)} {t m : Int} : m ∈ begsR R t ↔ ∃ q ∈ R, q.2 ≤ t ∧ q.1 = m := by
  unfold begsR
  rw [List.mem_map]
  constructor
  · rintro ⟨q, hq, rfl⟩
    obtain ⟨h1, h2⟩ := List.mem_filter.mp hq
    exact ⟨q, h1, of_decide_eq_true h2, rfl⟩
  · rintro ⟨q, h1, h2, rfl⟩
    exact ⟨q, List.mem_filter.mpr ⟨h1, decide_eq_true h2⟩, rfl⟩
theorem fEnd_none {R : List (Int × Int)} {t : Int} (h : ¬ t ≤ -BB) (he : ∀ q ∈ R, ¬ t ≤ q.1) : fEnd BB R t = BB := by
  have e : (R.filter fun r => decide (t ≤ r.1)) = [] := List.filter_eq_nil_iff.mpr fun q hq z => he q hq (of_decide_eq_true z)
  unfold fEnd
  rw [if_neg h, e]
  rfl
theorem fEnd_min {R : List (Int × Int)} {t m : Int} (h : ¬ t ≤ -BB) (hm : m ∈ endsR R t) (hl : ∀ y ∈ endsR R t, m ≤ y) (b1 : -BB < m) (b2 : m ≤ BB) : fEnd BB R t = m := by
  obtain ⟨q, hq, h1, h2⟩ := mem_endsR.mp hm
  have a1 : fEnd BB R t ≤ m := (fEnd_le (by omega)).mpr (.inr (.inr ⟨q, hq, h1, by omega⟩))
  have a2 : ¬ fEnd BB R t ≤ m - 1 := fun z => by
    rcases (fEnd_le (by omega)).mp z with z | z | ⟨r, hr, z1, z2⟩
    · exact h z
    · omega
    · have := hl _ (mem_endsR.mpr ⟨r, hr, z1, rfl⟩)
      omega
  omega
theorem fBeg_none {R : List (Int × Int)} {t : Int} (h : ¬ BB ≤ t) (he : ∀ q ∈ R, ¬ q.2 ≤ t) : fBeg BB R t = -BB := by
  have e : (R.filter fun r => decide (r.2 ≤ t)) = [] := List.filter_eq_nil_iff.mpr fun q hq z => he q hq (of_decide_eq_true z)
  unfold fBeg
  rw [if_neg h, e]
  rfl
theorem fBeg_max {R : List (Int × Int)} {t m : Int} (h : ¬ BB ≤ t) (hm : m ∈ begsR R t) (hl : ∀ y ∈ begsR R t, y ≤ m) (b1 : -BB ≤ m) (b2 : m < BB) : fBeg BB R t = m := by
  obtain ⟨q, hq, h1, h2⟩ := mem_begsR.mp hm
  have a1 : m ≤ fBeg BB R t := (le_fBeg (by omega)).mpr (.inr (.inr ⟨q, hq, by omega, h1⟩))
  have a2 : ¬ m + 1 ≤ fBeg BB R t := fun z => by
    rcases (le_fBeg (by omega)).mp z with z | z | ⟨r, hr, z1, z2⟩
    · omega
    · exact h z
    · have := hl _ (mem_begsR.mpr ⟨r, hr, z2, rfl⟩)
      omega
  omega
def spEnd : Sp := fun vs H Q _ => ∃ (a : Addr) (ts : List Addr) (R : List (Int × Int)) (t : Int), vs = [.ref a, mV t] ∧ H a = some (.lst (ts.map V.ref)) ∧ Tps rV H ts R ∧ RidesOk 1000 R ∧ R.length ≤ 60 ∧ ∀ H', Same H H' → Q (mV (fEnd BB R t)) H'
def spBegin : Sp := fun vs H Q _ => ∃ (a : Addr) (ts : List Addr) (R : List (Int × Int)) (t : Int), vs = [.ref a, mV t] ∧ H a = some (.lst (ts.map V.ref)) ∧ Tps rV H ts R ∧ RidesOk 1000 R ∧ R.length ≤ 60 ∧ ∀ H', Same H H' → Q (mV (fBeg BB R t)) H'
section
variable {P : Program} {w : World} {K : PySem.W.Frag} {mg : Str → Option Value} {base : Heap} {C f : Addr} {fd : FuncData}
abbrev NEnd : List Str := ["_law_rides_here", "_law_moment_here", "_law_ends_here", "_law_begin_here", "_law_end_here"]
theorem scEnd : FnScope NEnd ["_law_rides_here", "_law_moment_here"] (defScope s_law_end) := ⟨rfl, rfl, rfl, by decide +kernel, rfl, by decide +kernel, by decide +kernel⟩
theorem ok_end (G : Txt mg) (F : FnP K "_law_end" s_law_end f fd) : FnOk P w K mg base CX0 1 f fd ["_law_rides_here", "_law_moment_here"] spEnd := by
  refine F.ok scEnd (fun vs H Q E h => ?_) (fun cdv A outer s H vs Q E hr h => ?_)
  · obtain ⟨a, ts, R, t, rfl, _⟩ := h
    rfl
  · obtain ⟨a, ts, R, t, rfl, ha, hts, hR, hl, q⟩ := h
    have hu : (A.deeper (envOfC "_law_end" (defScope s_law_end) s.heap.objs.size f cdv)).units < cLine := by have := hr.un; omega
    refine ⟨_, PSs.nox (pss_cons (ps_if (pt_cmpR op_in_seq (pv 1) (pe_tup (pa_cons pe_str (pa_cons pe_str pa_nil))) (by rfl)) (pss_one (ps_ret (pv 1))) pss_nil)
      (pss_cons (ps_setLc (i := 2) (own := [("_law_begin_here", 3), ("_law_end_here", 4)]) rfl scEnd.nd rfl rfl (sw_true rfl rfl rfl (by decide +kernel)) (pi_list (pv 0)) (blkOk_by (own := [("_law_begin_here", 3), ("_law_end_here", 4)]) (N := NEnd) (sc := defScope s_law_end) (by decide +kernel))
        (g := gTup K 2 (gCons (gName 3) (gCons (gName 4) gNil))) (fun _ _ _ _ _ => pg_tup rfl (pgs_cons (pg_name (i := 3) scEnd.nd rfl (Or.inl rfl)) (pgs_cons (pg_name (i := 4) scEnd.nd rfl (Or.inl rfl)) pgs_nil))) (fun _ _ _ _ _ => pts_one (pt_cmpR op_ge (pv 3) (pv 1) (nomark _))) (fun _ _ _ _ _ => pv 4))
      (pss_one (ps_ret (pe_ifExp (pt_cmpR (op_neNil hu) (pv 2) (pe_lst pa_nil) (nomark _)) (pe_ix ix_list (pe_callB cr_sorted (by rfl) G.sorted (by decide +kernel) (pa_cons (pe_lc (own := [("_law_end_here", 4)]) rfl scEnd.nd (pi_list (pv 2)) (blkOk_by (own := [("_law_end_here", 4)]) (N := NEnd) (sc := defScope s_law_end) (by decide +kernel))
        (fun _ _ _ _ _ => pg_name (i := 4) scEnd.nd rfl (Or.inl rfl)) (fun _ _ _ _ _ => pts_nil) (fun _ _ _ _ _ => pe_callTy call_int1 (by rfl) G.int (by decide +kernel) (pa_cons (pv 4) pa_nil))) pa_nil)) pe_int (fun _ _ => rfl)) pe_str))))), ?_⟩
    refine ⟨_, rfl, by show 2 ≤ sizeLine; decide, fun p hp => ?_⟩
    have s1 := same_new (o := .tup [V.str "first", V.str "last"]) hp
    have hp1 : (upd H p (.tup [V.str "first", V.str "last"])) p = some (.tup [V.str "first", V.str "last"]) := upd_same
    generalize upd H p (.tup [V.str "first", V.str "last"]) = H1 at s1 hp1
    have bb := BB_big
    rcases mV_cases t with ⟨ht, e⟩ | ⟨ht, e⟩ | ⟨ht1, ht2, e⟩
    · rw [e]
      refine ⟨p, _, rfl, .inr (SqT.of hp1), rfl, rfl, _, rfl, ?_⟩
      rw [show (if false = true then !inV (.str "first") [.str "first", .str "last"] else inV (.str "first") [.str "first", .str "last"]) = true from in_first]
      refine iteT ?_
      refine ⟨_, rfl, ?_⟩
      have k := q H1 s1
      rw [fEnd_low ht, mV_first] at k
      exact k
    · rw [e]
      refine ⟨p, _, rfl, .inr (SqT.of hp1), rfl, rfl, _, rfl, ?_⟩
      rw [show (if false = true then !inV (.str "last") [.str "first", .str "last"] else inV (.str "last") [.str "first", .str "last"]) = true from in_last]
      refine iteT ?_
      refine ⟨_, rfl, ?_⟩
      have k := q H1 s1
      rw [fEnd_none (by omega) (fun r hr z => by have := hR r hr; omega), mV_last] at k
      exact k
    · rw [e]
      refine ⟨p, _, rfl, .inr (SqT.of hp1), rfl, rfl, _, rfl, ?_⟩
      rw [show (if false = true then !inV (.int t) [.str "first", .str "last"] else inV (.int t) [.str "first", .str "last"]) = false from rfl]
      refine iteF ?_
      refine ⟨_, rfl, a, rfl, ⟨_, SqL.of (s1 _ _ ha)⟩, fun L hL => lc_it (walk_list (xs := ts.map V.ref)) (fun i H' => Same H1 H' ∧ H' L = some (.lst ((endsR (R.take i) t).map V.int))) ⟨same_new hL, upd_same⟩ (fun i H' _ h => SqL.of (h.1 _ _ (s1 _ _ ha))) ?_ ?_⟩
      · rintro i x H2' H2 hi ⟨s2, l2⟩ ⟨rfl, hx⟩
        obtain ⟨T, r, rfl, hT1, hr1, hT⟩ := ((hts.of_same s1).of_same s2).get hx
        refine ⟨T, _, rfl, SqT.of hT, rfl, _, _, rfl, _, _, rfl, rfl, ?_⟩
        refine ⟨rfl, ?_⟩
        refine ⟨_, rfl, _, rfl, _, _, rfl, rfl, _, rfl, ?_⟩
        have et : endsR (R.take (i + 1)) t = endsR (R.take i) t ++ (if t ≤ r.1 then [r.2] else []) := by
          unfold endsR
          rw [take_snoc hr1, List.filter_append, List.map_append]
          congr 1
          by_cases hc : t ≤ r.1
          · rw [if_pos hc, List.filter_cons, if_pos (decide_eq_true hc)]
            rfl
          · rw [if_neg hc, List.filter_cons, if_neg (by rw [decide_eq_false hc]; decide)]
            rfl
        by_cases hc : t ≤ r.1
        · rw [decide_eq_true hc]
          refine iteT ?_
          rw [if_pos hc] at et
          refine ⟨_, rfl, _, l2, ?_, same_upd s2 hL, ?_⟩
          · rw [List.length_map]
            unfold endsR
            rw [List.length_map]
            refine small1000 ?_
            have := List.length_filter_le (fun q : Int × Int => decide (t ≤ q.1)) (R.take i)
            rw [List.length_take] at this
            omega
          · rw [upd_same, et, List.map_append]
            rfl
        · rw [decide_eq_false hc]
          refine iteF ?_
          rw [if_neg hc, List.append_nil] at et
          exact ⟨s2, by rw [et]; exact l2⟩
      · rintro H2 ⟨s2, l2⟩
        rw [List.length_map, hts.len, List.take_length] at l2
        have s12 := s1.trans s2
        refine ⟨_, rfl, Nat.zero_le _, fun b hb => ⟨L, b, _, rfl, rfl, SqL.of ((same_new hb) _ _ l2), SqL.of upd_same, _, rfl, ?_⟩⟩
        have s3 := s12.trans (same_new (o := .lst []) hb)
        have l3 := (same_new (o := .lst []) hb) _ _ l2
        generalize upd H2 b (.lst []) = H3 at s3 l3
        cases hes : endsR R t with
        | nil =>
          refine iteF ?_
          have k := q H3 s3
          rw [fEnd_none (by omega) (fun r hr z => by
            have := mem_endsR.mpr ⟨r, hr, z, rfl⟩
            rw [hes] at this
            cases this), mV_last] at k
          exact k
        | cons e0 es =>
          refine iteT ?_
          have lle : (endsR R t).length ≤ 60 := by
            unfold endsR
            rw [List.length_map]
            have := List.length_filter_le (fun q : Int × Int => decide (t ≤ q.1)) R
            omega
          refine ⟨_, rfl, L, rfl, ⟨_, SqL.of l3⟩, fun L2 hL2 => lc_it (walk_list (xs := (endsR R t).map V.int)) (fun i H' => Same H3 H' ∧ H' L2 = some (.lst (((endsR R t).take i).map V.int))) ⟨same_new hL2, upd_same⟩ (fun i H' _ h => SqL.of (h.1 _ _ l3)) ?_ ?_⟩
          · rintro i x H4' H4 hi ⟨s4, l4⟩ ⟨rfl, hx⟩
            rw [List.getElem?_map] at hx
            obtain ⟨y, hy, rfl⟩ := Option.map_eq_some_iff.mp hx
            refine ⟨rfl, ?_⟩
            refine ⟨_, rfl, .inl ⟨y, rfl, _, l4, by rw [List.length_map, List.length_take]; exact small1000 (by omega), same_upd s4 hL2, ?_⟩⟩
            rw [upd_same, take_snoc hy, List.map_append]
            rfl
          · rintro H4 ⟨s4, l4⟩
            rw [List.length_map, List.take_length] at l4
            refine ⟨L2, _, rfl, SqL.of l4, by omega, fun ns p2 hpm hsrt hp2 => ?_⟩
            cases ns with
            | nil =>
              have := hpm.length_eq
              rw [hes] at this
              cases this
            | cons m ns =>
              refine ⟨p2, _, 0, V.int m, rfl, rfl, SqL.of upd_same, atI_nat (j := 0) rfl, ?_⟩
              have hm : m ∈ endsR R t := hpm.mem_iff.mp (List.mem_cons_self ..)
              have hl2 : ∀ y ∈ endsR R t, m ≤ y := fun y hy => by
                rcases List.mem_cons.mp (hpm.mem_iff.mpr hy) with e | hy
                · omega
                · exact (List.pairwise_cons.mp hsrt).1 y hy
              obtain ⟨r, hr1, hr2, hr3⟩ := mem_endsR.mp hm
              have hb3 := hR r hr1
              have k := q _ (s3.trans (s4.trans (same_new (o := .lst ((m :: ns).map V.int)) hp2)))
              rw [fEnd_min (by omega) hm hl2 (by omega) (by omega), mV_int (by omega) (by omega)] at k
              exact k
abbrev NBeg : List Str := ["_law_rides_here", "_law_moment_here", "_law_begins", "_law_begin_here", "_law_end_here"]
theorem scBeg : FnScope NBeg ["_law_rides_here", "_law_moment_here"] (defScope s_law_begin) := ⟨rfl, rfl, rfl, by decide +kernel, rfl, by decide +kernel, by decide +kernel⟩
theorem ok_begin (G : Txt mg) (F : FnP K "_law_begin" s_law_begin f fd) : FnOk P w K mg base CX0 1 f fd ["_law_rides_here", "_law_moment_here"] spBegin := by
  refine F.ok scBeg (fun vs H Q E h => ?_) (fun cdv A outer s H vs Q E hr h => ?_)
  · obtain ⟨a, ts, R, t, rfl, _⟩ := h
    rfl
  · obtain ⟨a, ts, R, t, rfl, ha, hts, hR, hl, q⟩ := h
    have hu : (A.deeper (envOfC "_law_begin" (defScope s_law_begin) s.heap.objs.size f cdv)).units < cLine := by have := hr.un; omega
    refine ⟨_, PSs.nox (pss_cons (ps_if (pt_cmpR op_in_seq (pv 1) (pe_tup (pa_cons pe_str (pa_cons pe_str pa_nil))) (by rfl)) (pss_one (ps_ret (pv 1))) pss_nil)
      (pss_cons (ps_setLc (i := 2) (own := [("_law_begin_here", 3), ("_law_end_here", 4)]) rfl scBeg.nd rfl rfl (sw_true rfl rfl rfl (by decide +kernel)) (pi_list (pv 0)) (blkOk_by (own := [("_law_begin_here", 3), ("_law_end_here", 4)]) (N := NBeg) (sc := defScope s_law_begin) (by decide +kernel))
        (g := gTup K 2 (gCons (gName 3) (gCons (gName 4) gNil))) (fun _ _ _ _ _ => pg_tup rfl (pgs_cons (pg_name (i := 3) scBeg.nd rfl (Or.inl rfl)) (pgs_cons (pg_name (i := 4) scBeg.nd rfl (Or.inl rfl)) pgs_nil))) (fun _ _ _ _ _ => pts_one (pt_cmpR op_le (pv 4) (pv 1) (nomark _))) (fun _ _ _ _ _ => pv 3))
      (pss_one (ps_ret (pe_ifExp (pt_cmpR (op_neNil hu) (pv 2) (pe_lst pa_nil) (nomark _)) (pe_ix ix_list (pe_callB cr_sorted (by rfl) G.sorted (by decide +kernel) (pa_cons (pe_lc (own := [("_law_begin_here", 3)]) rfl scBeg.nd (pi_list (pv 2)) (blkOk_by (own := [("_law_begin_here", 3)]) (N := NBeg) (sc := defScope s_law_begin) (by decide +kernel))
        (fun _ _ _ _ _ => pg_name (i := 3) scBeg.nd rfl (Or.inl rfl)) (fun _ _ _ _ _ => pts_nil) (fun _ _ _ _ _ => pe_callTy call_int1 (by rfl) G.int (by decide +kernel) (pa_cons (pv 3) pa_nil))) pa_nil)) (pe_un un_neg pe_int) (fun _ _ => rfl)) pe_str))))), ?_⟩
    refine ⟨_, rfl, by show 2 ≤ sizeLine; decide, fun p hp => ?_⟩
    have s1 := same_new (o := .tup [V.str "first", V.str "last"]) hp
    have hp1 : (upd H p (.tup [V.str "first", V.str "last"])) p = some (.tup [V.str "first", V.str "last"]) := upd_same
    generalize upd H p (.tup [V.str "first", V.str "last"]) = H1 at s1 hp1
    have bb := BB_big
    rcases mV_cases t with ⟨ht, e⟩ | ⟨ht, e⟩ | ⟨ht1, ht2, e⟩
    · rw [e]
      refine ⟨p, _, rfl, .inr (SqT.of hp1), rfl, rfl, _, rfl, ?_⟩
      rw [show (if false = true then !inV (.str "first") [.str "first", .str "last"] else inV (.str "first") [.str "first", .str "last"]) = true from in_first]
      refine iteT ?_
      refine ⟨_, rfl, ?_⟩
      have k := q H1 s1
      rw [fBeg_none (by omega) (fun r hr z => by have := hR r hr; omega), mV_first] at k
      exact k
    · rw [e]
      refine ⟨p, _, rfl, .inr (SqT.of hp1), rfl, rfl, _, rfl, ?_⟩
      rw [show (if false = true then !inV (.str "last") [.str "first", .str "last"] else inV (.str "last") [.str "first", .str "last"]) = true from in_last]
      refine iteT ?_
      refine ⟨_, rfl, ?_⟩
      have k := q H1 s1
      rw [show fBeg BB R t = BB from if_pos ht, mV_last] at k
      exact k
    · rw [e]
      refine ⟨p, _, rfl, .inr (SqT.of hp1), rfl, rfl, _, rfl, ?_⟩
      rw [show (if false = true then !inV (.int t) [.str "first", .str "last"] else inV (.int t) [.str "first", .str "last"]) = false from rfl]
      refine iteF ?_
      refine ⟨_, rfl, a, rfl, ⟨_, SqL.of (s1 _ _ ha)⟩, fun L hL => lc_it (walk_list (xs := ts.map V.ref)) (fun i H' => Same H1 H' ∧ H' L = some (.lst ((begsR (R.take i) t).map V.int))) ⟨same_new hL, upd_same⟩ (fun i H' _ h => SqL.of (h.1 _ _ (s1 _ _ ha))) ?_ ?_⟩
      · rintro i x H2' H2 hi ⟨s2, l2⟩ ⟨rfl, hx⟩
        obtain ⟨T, r, rfl, hT1, hr1, hT⟩ := ((hts.of_same s1).of_same s2).get hx
        refine ⟨T, _, rfl, SqT.of hT, rfl, _, _, rfl, _, _, rfl, rfl, ?_⟩
        refine ⟨rfl, ?_⟩
        refine ⟨_, rfl, _, rfl, _, _, rfl, rfl, _, rfl, ?_⟩
        have et : begsR (R.take (i + 1)) t = begsR (R.take i) t ++ (if r.2 ≤ t then [r.1] else []) := by
          unfold begsR
          rw [take_snoc hr1, List.filter_append, List.map_append]
          congr 1
          by_cases hc : r.2 ≤ t
          · rw [if_pos hc, List.filter_cons, if_pos (decide_eq_true hc)]
            rfl
          · rw [if_neg hc, List.filter_cons, if_neg (by rw [decide_eq_false hc]; decide)]
            rfl
        by_cases hc : r.2 ≤ t
        · rw [decide_eq_true hc]
          refine iteT ?_
          rw [if_pos hc] at et
          refine ⟨_, rfl, _, l2, ?_, same_upd s2 hL, ?_⟩
          · rw [List.length_map]
            unfold begsR
            rw [List.length_map]
            refine small1000 ?_
            have := List.length_filter_le (fun q : Int × Int => decide (q.2 ≤ t)) (R.take i)
            rw [List.length_take] at this
            omega
          · rw [upd_same, et, List.map_append]
            rfl
        · rw [decide_eq_false hc]
          refine iteF ?_
          rw [if_neg hc, List.append_nil] at et
          exact ⟨s2, by rw [et]; exact l2⟩
      · rintro H2 ⟨s2, l2⟩
        rw [List.length_map, hts.len, List.take_length] at l2
        have s12 := s1.trans s2
        refine ⟨_, rfl, Nat.zero_le _, fun b hb => ⟨L, b, _, rfl, rfl, SqL.of ((same_new hb) _ _ l2), SqL.of upd_same, _, rfl, ?_⟩⟩
        have s3 := s12.trans (same_new (o := .lst []) hb)
        have l3 := (same_new (o := .lst []) hb) _ _ l2
        generalize upd H2 b (.lst []) = H3 at s3 l3
        cases hes : begsR R t with
        | nil =>
          refine iteF ?_
          have k := q H3 s3
          rw [fBeg_none (by omega) (fun r hr z => by
            have := mem_begsR.mpr ⟨r, hr, z, rfl⟩
            rw [hes] at this
            cases this), mV_first] at k
          exact k
        | cons e0 es =>
          refine iteT ?_
          have lle : (begsR R t).length ≤ 60 := by
            unfold begsR
            rw [List.length_map]
            have := List.length_filter_le (fun q : Int × Int => decide (q.2 ≤ t)) R
            omega
          refine ⟨_, rfl, L, rfl, ⟨_, SqL.of l3⟩, fun L2 hL2 => lc_it (walk_list (xs := (begsR R t).map V.int)) (fun i H' => Same H3 H' ∧ H' L2 = some (.lst (((begsR R t).take i).map V.int))) ⟨same_new hL2, upd_same⟩ (fun i H' _ h => SqL.of (h.1 _ _ l3)) ?_ ?_⟩
          · rintro i x H4' H4 hi ⟨s4, l4⟩ ⟨rfl, hx⟩
            rw [List.getElem?_map] at hx
            obtain ⟨y, hy, rfl⟩ := Option.map_eq_some_iff.mp hx
            refine ⟨rfl, ?_⟩
            refine ⟨_, rfl, .inl ⟨y, rfl, _, l4, by rw [List.length_map, List.length_take]; exact small1000 (by omega), same_upd s4 hL2, ?_⟩⟩
            rw [upd_same, take_snoc hy, List.map_append]
            rfl
          · rintro H4 ⟨s4, l4⟩
            rw [List.length_map, List.take_length] at l4
            refine ⟨L2, _, rfl, SqL.of l4, by omega, fun ns p2 hpm hsrt hp2 => ?_⟩
            rcases List.eq_nil_or_concat ns with hn0 | ⟨ns', m, hn0⟩
            · have := hpm.length_eq
              rw [hes, hn0] at this
              cases this
            · rw [List.concat_eq_append] at hn0
              rw [hn0] at hpm hsrt ⊢
              refine ⟨_, rfl, p2, _, _, V.int m, rfl, rfl, SqL.of upd_same, by rw [List.map_append]; exact atI_last _ _, ?_⟩
              have hm : m ∈ begsR R t := hpm.mem_iff.mp (List.mem_append_right _ (List.mem_singleton.mpr rfl))
              have hl2 : ∀ y ∈ begsR R t, y ≤ m := fun y hy => by
                rcases List.mem_append.mp (hpm.mem_iff.mpr hy) with hy | hy
                · exact (List.pairwise_append.mp hsrt).2.2 y hy m (List.mem_singleton.mpr rfl)
                · rw [List.mem_singleton] at hy
                  omega
              obtain ⟨r, hr1, hr2, hr3⟩ := mem_begsR.mp hm
              have hb3 := hR r hr1
              have k := q _ (s3.trans (s4.trans (same_new (o := .lst ((ns' ++ [m]).map V.int)) hp2)))
              rw [fBeg_max (by omega) hm hl2 (by omega) (by omega), mV_int (by omega) (by omega)] at k
              exact k
end
end K54
namespace K54
open PySem PySem.Spec PyProof.Rows L2
open PySem.W (ossOf)
/-! ### places -/
def spDenseL : Sp := fun vs H Q _ => ∃ (a : Addr) (xs : List Int), vs = [.ref a] ∧ H a = some (.lst (xs.map V.int)) ∧ xs.length ≤ 60 ∧ ∀ H' p, Same H H' → H' p = some (.tup (iV (dense xs))) → Q (.ref p) H'
def spDenseT : Sp := fun vs H Q _ => ∃ (a : Addr) (xs : List Int), vs = [.ref a] ∧ H a = some (.tup (xs.map V.int)) ∧ xs.length ≤ 60 ∧ ∀ H' p, Same H H' → H' p = some (.tup (iV (dense xs))) → Q (.ref p) H'
section
variable {P : Program} {w : World} {K : PySem.W.Frag} {mg : Str → Option Value} {base : Heap} {C f : Addr} {fd : FuncData}
abbrev NDense : List Str := ["_law_order", "_law_place_here", "_law_other_here"]
theorem scDense : FnScope NDense ["_law_order"] (defScope s_law_dense) := ⟨rfl, rfl, rfl, by decide +kernel, rfl, by decide +kernel, by decide +kernel⟩
def denseIn : Scope := { kind := .function, names := [(".0", .local), ("_law_place_here", .cell), ("len", .globalImplicit), ("set", .globalImplicit), ("_law_order", .cell)], isGenerator := false, isCoroutine := false }
theorem ok_denseL (G : Txt mg) (F : FnP K "_law_dense" s_law_dense f fd) : FnOk P w K mg base CX0 1 f fd ["_law_order"] spDenseL := by
  refine F.ok scDense (fun vs H Q E h => ?_) (fun cdv A outer s H vs Q E hr h => ?_)
  · obtain ⟨a, xs, rfl, _⟩ := h
    rfl
  · obtain ⟨a, xs, rfl, ha, hl, q⟩ := h
    refine ⟨_, PSs.nox (pss_one (ps_ret (pe_callTy call_tuple_of (by rfl) G.tuple (by decide +kernel) (pa_cons (pe_lc (own := [("_law_place_here", 1)]) rfl scDense.nd (pi_list (pv 0)) (blkOk_by (own := [("_law_place_here", 1)]) (N := NDense) (sc := defScope s_law_dense) (by decide +kernel))
      (g := gName 1) (fun _ _ _ _ _ => pg_name (i := 1) scDense.nd rfl (Or.inr rfl)) (fun _ _ _ _ _ => pts_nil)
      (te := tLenSetL K (tLc (iList K (tVar 0)) (gName 2) (tTest (tOp (rI0 fun i j => V.bl (decide (i < j))) (tVar 2) (tVar 1))) (tVar 2) [2]))
      (fun _ _ _ _ _ => pe_lenSetL (by rfl) G.len (by rfl) G.set (pe_lc (own := [("_law_other_here", 2)]) rfl scDense.nd (pi_list (pv 0)) (blkOk_by (own := [("_law_other_here", 2)]) (N := NDense) (by show blkC NDense denseIn _ _ = true; decide +kernel))
        (g := gName 2) (fun _ _ _ _ _ => pg_name (i := 2) scDense.nd rfl (Or.inl rfl)) (fun _ _ _ _ _ => pts_one (pt_cmpR op_lt (pv 2) (pv 1) (nomark _))) (fun _ _ _ _ _ => pv 2)))) pa_nil)))), ?_⟩
    refine ⟨_, rfl, a, rfl, ⟨_, SqL.of ha⟩, fun D hD => lc_it (walk_list (xs := xs.map V.int)) (fun i H' => Same H H' ∧ H' D = some (.lst (((dense xs).take i).map V.int))) ⟨same_new hD, upd_same⟩ (fun i H' _ h => SqL.of (h.1 _ _ ha)) ?_ ?_⟩
    · rintro i x H1' H1 hi ⟨s1, d1⟩ ⟨rfl, hx⟩
      rw [List.getElem?_map] at hx
      obtain ⟨y, hy, rfl⟩ := Option.map_eq_some_iff.mp hx
      rw [List.length_map] at hi
      refine ⟨rfl, ?_⟩
      refine ⟨_, rfl, a, rfl, ⟨_, SqL.of (s1 _ _ ha)⟩, fun D2 hD2 => lc_it (walk_list (xs := xs.map V.int)) (fun j H' => Same H1 H' ∧ H' D2 = some (.lst ((below (xs.take j) y).map V.int))) ⟨same_new hD2, upd_same⟩ (fun j H' _ h => SqL.of (h.1 _ _ (s1 _ _ ha))) ?_ ?_⟩
      · rintro j x2 H2' H2 hj ⟨s2, d2⟩ ⟨rfl, hx2⟩
        rw [List.getElem?_map] at hx2
        obtain ⟨z, hz, rfl⟩ := Option.map_eq_some_iff.mp hx2
        rw [List.length_map] at hj
        refine ⟨rfl, ?_⟩
        refine ⟨_, rfl, _, rfl, _, _, rfl, rfl, _, rfl, ?_⟩
        have fs := filter_snoc (fun u : Int => decide (u < y)) hz
        have lb : (below (xs.take j) y).length ≤ 60 := by
          unfold below
          refine Nat.le_trans (List.length_filter_le _ _) ?_
          rw [List.length_take]
          omega
        by_cases hc : z < y
        · rw [decide_eq_true hc]
          refine iteT ?_
          rw [if_pos (decide_eq_true hc)] at fs
          refine ⟨_, rfl, _, d2, by rw [List.length_map]; exact small1000 (by omega), same_upd s2 hD2, ?_⟩
          rw [upd_same]
          unfold below
          rw [fs, List.map_append]
          rfl
        · rw [decide_eq_false hc]
          refine iteF ?_
          rw [if_neg (by rw [decide_eq_false hc]; decide)] at fs
          refine ⟨s2, ?_⟩
          unfold below
          rw [fs]
          exact d2
      · rintro H2 ⟨s2, d2⟩
        rw [List.length_map, List.take_length] at d2
        have lb : (below xs y).length ≤ 60 := by
          unfold below
          exact Nat.le_trans (List.length_filter_le _ _) hl
        refine ⟨D2, _, rfl, SqL.of d2, by omega, ?_⟩
        have hd : (dense xs)[i]? = some ((num xs y : Nat) : Int) := by
          unfold dense
          rw [List.getElem?_map, hy]
          rfl
        refine ⟨_, s2 _ _ d1, by rw [List.length_map, List.length_take, dense_length]; exact small1000 (by omega), same_upd (s1.trans s2) hD, ?_⟩
        rw [upd_same, take_snoc hd, List.map_append]
        rfl
    · rintro H1 ⟨s1, d1⟩
      rw [List.length_map, ← dense_length, List.take_length] at d1
      refine ⟨D, _, rfl, .inl ⟨SqL.of d1, fun p hp => q _ p (s1.trans (same_new hp)) upd_same⟩⟩
theorem ok_denseT (G : Txt mg) (F : FnP K "_law_dense" s_law_dense f fd) : FnOk P w K mg base CX0 1 f fd ["_law_order"] spDenseT := by
  refine F.ok scDense (fun vs H Q E h => ?_) (fun cdv A outer s H vs Q E hr h => ?_)
  · obtain ⟨a, xs, rfl, _⟩ := h
    rfl
  · obtain ⟨a, xs, rfl, ha, hl, q⟩ := h
    refine ⟨_, PSs.nox (pss_one (ps_ret (pe_callTy call_tuple_of (by rfl) G.tuple (by decide +kernel) (pa_cons (pe_lc (own := [("_law_place_here", 1)]) rfl scDense.nd (pi_tup (pv 0)) (blkOk_by (own := [("_law_place_here", 1)]) (N := NDense) (sc := defScope s_law_dense) (by decide +kernel))
      (g := gName 1) (fun _ _ _ _ _ => pg_name (i := 1) scDense.nd rfl (Or.inr rfl)) (fun _ _ _ _ _ => pts_nil)
      (te := tLenSetL K (tLc (iTup K (tVar 0)) (gName 2) (tTest (tOp (rI0 fun i j => V.bl (decide (i < j))) (tVar 2) (tVar 1))) (tVar 2) [2]))
      (fun _ _ _ _ _ => pe_lenSetL (by rfl) G.len (by rfl) G.set (pe_lc (own := [("_law_other_here", 2)]) rfl scDense.nd (pi_tup (pv 0)) (blkOk_by (own := [("_law_other_here", 2)]) (N := NDense) (by show blkC NDense denseIn _ _ = true; decide +kernel))
        (g := gName 2) (fun _ _ _ _ _ => pg_name (i := 2) scDense.nd rfl (Or.inl rfl)) (fun _ _ _ _ _ => pts_one (pt_cmpR op_lt (pv 2) (pv 1) (nomark _))) (fun _ _ _ _ _ => pv 2)))) pa_nil)))), ?_⟩
    refine ⟨_, rfl, a, rfl, ⟨_, SqT.of ha⟩, fun D hD => lc_it (walk_tup (xs := xs.map V.int)) (fun i H' => Same H H' ∧ H' D = some (.lst (((dense xs).take i).map V.int))) ⟨same_new hD, upd_same⟩ (fun i H' _ h => SqT.of (h.1 _ _ ha)) ?_ ?_⟩
    · rintro i x H1' H1 hi ⟨s1, d1⟩ ⟨rfl, hx⟩
      rw [List.getElem?_map] at hx
      obtain ⟨y, hy, rfl⟩ := Option.map_eq_some_iff.mp hx
      rw [List.length_map] at hi
      refine ⟨rfl, ?_⟩
      refine ⟨_, rfl, a, rfl, ⟨_, SqT.of (s1 _ _ ha)⟩, fun D2 hD2 => lc_it (walk_tup (xs := xs.map V.int)) (fun j H' => Same H1 H' ∧ H' D2 = some (.lst ((below (xs.take j) y).map V.int))) ⟨same_new hD2, upd_same⟩ (fun j H' _ h => SqT.of (h.1 _ _ (s1 _ _ ha))) ?_ ?_⟩
      · rintro j x2 H2' H2 hj ⟨s2, d2⟩ ⟨rfl, hx2⟩
        rw [List.getElem?_map] at hx2
        obtain ⟨z, hz, rfl⟩ := Option.map_eq_some_iff.mp hx2
        rw [List.length_map] at hj
        refine ⟨rfl, ?_⟩
        refine ⟨_, rfl, _, rfl, _, _, rfl, rfl, _, rfl, ?_⟩
        have fs := filter_snoc (fun u : Int => decide (u < y)) hz
        have lb : (below (xs.take j) y).length ≤ 60 := by
          unfold below
          refine Nat.le_trans (List.length_filter_le _ _) ?_
          rw [List.length_take]
          omega
        by_cases hc : z < y
        · rw [decide_eq_true hc]
          refine iteT ?_
          rw [if_pos (decide_eq_true hc)] at fs
          refine ⟨_, rfl, _, d2, by rw [List.length_map]; exact small1000 (by omega), same_upd s2 hD2, ?_⟩
          rw [upd_same]
          unfold below
          rw [fs, List.map_append]
          rfl
        · rw [decide_eq_false hc]
          refine iteF ?_
          rw [if_neg (by rw [decide_eq_false hc]; decide)] at fs
          refine ⟨s2, ?_⟩
          unfold below
          rw [fs]
          exact d2
      · rintro H2 ⟨s2, d2⟩
        rw [List.length_map, List.take_length] at d2
        have lb : (below xs y).length ≤ 60 := by
          unfold below
          exact Nat.le_trans (List.length_filter_le _ _) hl
        refine ⟨D2, _, rfl, SqL.of d2, by omega, ?_⟩
        have hd : (dense xs)[i]? = some ((num xs y : Nat) : Int) := by
          unfold dense
          rw [List.getElem?_map, hy]
          rfl
        refine ⟨_, s2 _ _ d1, by rw [List.length_map, List.length_take, dense_length]; exact small1000 (by omega), same_upd (s1.trans s2) hD, ?_⟩
        rw [upd_same, take_snoc hd, List.map_append]
        rfl
    · rintro H1 ⟨s1, d1⟩
      rw [List.length_map, ← dense_length, List.take_length] at d1
      refine ⟨D, _, rfl, .inl ⟨SqL.of d1, fun p hp => q _ p (s1.trans (same_new hp)) upd_same⟩⟩
/-! ### places of moments -/
def spPlace : Sp := fun vs H Q _ => ∃ t : Int, vs = [mV t] ∧ -BB ≤ t ∧ t ≤ BB ∧ ∀ H', Same H H' → Q (.int t) H'
def spOrderOf : Sp := fun vs H Q _ => ∃ (a : Addr) (xs : List Int), vs = [.ref a] ∧ H a = some (.lst (xs.map mV)) ∧ (∀ t ∈ xs, -BB ≤ t ∧ t ≤ BB) ∧ xs.length ≤ 60 ∧ ∀ H' p, Same H H' → H' p = some (.tup (iV (dense xs))) → Q (.ref p) H'
theorem scPlace : FnScope ["_law_moment_here"] ["_law_moment_here"] (defScope s_law_place) := ⟨rfl, rfl, rfl, by decide +kernel, rfl, by decide +kernel, by decide +kernel⟩
theorem ok_place (F : FnP K "_law_place" s_law_place f fd) : FnOk P w K mg base CX0 1 f fd ["_law_moment_here"] spPlace := by
  refine F.ok scPlace (fun vs H Q E h => ?_) (fun cdv A outer s H vs Q E hr h => ?_)
  · obtain ⟨t, rfl, _⟩ := h
    rfl
  · obtain ⟨t, rfl, h1, h2, q⟩ := h
    refine ⟨_, PSs.nox (pss_cons (ps_if (pt_cmpR op_in_seq (pv 0) (pe_tup (pa_cons pe_str (pa_cons pe_str pa_nil))) (by rfl)) (pss_one (ps_ret (pe_ifExp (pt_cmpR op_eq (pv 0) pe_str (nomark _)) (pe_op op_sub pe_int (pe_op op_pow pe_int pe_int)) (pe_op op_pow pe_int pe_int)))) pss_nil)
      (pss_one (ps_ret (pv 0)))), ?_⟩
    refine ⟨_, rfl, by show 2 ≤ sizeLine; decide, fun p hp => ?_⟩
    have s1 := same_new (o := .tup [V.str "first", V.str "last"]) hp
    have hp1 : (upd H p (.tup [V.str "first", V.str "last"])) p = some (.tup [V.str "first", V.str "last"]) := upd_same
    generalize upd H p (.tup [V.str "first", V.str "last"]) = H1 at s1 hp1
    have k := q H1 s1
    have eB : (10 : Int) ^ (45 : Int).toNat = BB := rfl
    have cp : CPow 10 45 := ⟨by decide, by decide, by decide⟩
    rcases mV_cases t with ⟨ht, e⟩ | ⟨ht, e⟩ | ⟨ht1, ht2, e⟩
    · rw [e]
      refine ⟨p, _, rfl, .inr (SqT.of hp1), rfl, rfl, _, rfl, ?_⟩
      rw [show (if false = true then !inV (.str "first") [.str "first", .str "last"] else inV (.str "first") [.str "first", .str "last"]) = true from in_first]
      refine iteT ?_
      refine ⟨_, rfl, rfl, _, rfl, ?_⟩
      rw [decide_eq_true (show V.str ("first" : Str) = V.str ("first" : Str) from rfl)]
      refine iteT ?_
      refine ⟨_, _, rfl, rfl, cp, _, _, rfl, rfl, ?_⟩
      have et : t = 0 - BB := by omega
      rw [et] at k
      exact k
    · rw [e]
      refine ⟨p, _, rfl, .inr (SqT.of hp1), rfl, rfl, _, rfl, ?_⟩
      rw [show (if false = true then !inV (.str "last") [.str "first", .str "last"] else inV (.str "last") [.str "first", .str "last"]) = true from in_last]
      refine iteT ?_
      refine ⟨_, rfl, rfl, _, rfl, ?_⟩
      rw [show decide (V.str ("last" : Str) = V.str ("first" : Str)) = false by decide +kernel]
      refine iteF ?_
      refine ⟨_, _, rfl, rfl, cp, ?_⟩
      have et : t = BB := by omega
      rw [et] at k
      exact k
    · rw [e]
      refine ⟨p, _, rfl, .inr (SqT.of hp1), rfl, rfl, _, rfl, ?_⟩
      rw [show (if false = true then !inV (.int t) [.str "first", .str "last"] else inV (.int t) [.str "first", .str "last"]) = false from rfl]
      refine iteF ?_
      exact ⟨_, rfl, k⟩
abbrev NOrdOf : List Str := ["_law_moments", "_law_places", "_law_moment_here", "_law_place_here", "_law_other_here"]
theorem scOrdOf : FnScope NOrdOf ["_law_moments"] (defScope s_law_order_of) := ⟨rfl, rfl, rfl, by decide +kernel, rfl, by decide +kernel, by decide +kernel⟩
def ordIn : Scope := { kind := .function, names := [(".0", .local), ("_law_place_here", .cell), ("len", .globalImplicit), ("set", .globalImplicit), ("_law_places", .cell)], isGenerator := false, isCoroutine := false }
theorem ok_order_of (G : Txt mg) (DP : Df P w K mg base "_law_place" 1 ["_law_moment_here"] spPlace) (F : FnP K "_law_order_of" s_law_order_of f fd) : FnOk P w K mg base CX0 2 f fd ["_law_moments"] spOrderOf := by
  refine F.ok scOrdOf (fun vs H Q E h => ?_) (fun cdv A outer s H vs Q E hr h => ?_)
  · obtain ⟨a, xs, rfl, _⟩ := h
    rfl
  · obtain ⟨b, xs, rfl, hb, hbd, hl, q⟩ := h
    refine ⟨_, PSs.nox (pss_cons (ps_set (i := 1) scOrdOf.nd rfl (Or.inr rfl) (pe_lc (own := [("_law_moment_here", 2)]) rfl scOrdOf.nd (pi_list (pv 0)) (blkOk_by (own := [("_law_moment_here", 2)]) (N := NOrdOf) (sc := defScope s_law_order_of) (by decide +kernel))
        (fun _ _ _ _ _ => pg_name (i := 2) scOrdOf.nd rfl (Or.inl rfl)) (fun _ _ _ _ _ => pts_nil) (fun _ _ _ _ _ => pe_callD DP hr rfl (pa_cons (pv 2) pa_nil))))
      (pss_one (ps_ret (pe_callTy call_tuple_of (by rfl) G.tuple (by decide +kernel) (pa_cons (pe_lc (own := [("_law_place_here", 3)]) rfl scOrdOf.nd (pi_list (pv 1)) (blkOk_by (own := [("_law_place_here", 3)]) (N := NOrdOf) (sc := defScope s_law_order_of) (by decide +kernel))
      (g := gName 3) (fun _ _ _ _ _ => pg_name (i := 3) scOrdOf.nd rfl (Or.inr rfl)) (fun _ _ _ _ _ => pts_nil)
      (te := tLenSetL K (tLc (iList K (tVar 1)) (gName 4) (tTest (tOp (rI0 fun i j => V.bl (decide (i < j))) (tVar 4) (tVar 3))) (tVar 4) [4]))
      (fun _ _ _ _ _ => pe_lenSetL (by rfl) G.len (by rfl) G.set (pe_lc (own := [("_law_other_here", 4)]) rfl scOrdOf.nd (pi_list (pv 1)) (blkOk_by (own := [("_law_other_here", 4)]) (N := NOrdOf) (by show blkC NOrdOf ordIn _ _ = true; decide +kernel))
        (g := gName 4) (fun _ _ _ _ _ => pg_name (i := 4) scOrdOf.nd rfl (Or.inl rfl)) (fun _ _ _ _ _ => pts_one (pt_cmpR op_lt (pv 4) (pv 3) (nomark _))) (fun _ _ _ _ _ => pv 4)))) pa_nil))))), ?_⟩
    refine ⟨_, rfl, b, rfl, ⟨_, SqL.of hb⟩, fun a ha => ?_⟩
    refine lc_it (walk_list (xs := xs.map mV)) (fun i H' => Same H H' ∧ H' a = some (.lst ((xs.take i).map V.int))) ⟨same_new ha, upd_same⟩ (fun i H' _ h => SqL.of (h.1 _ _ hb)) ?_ ?_
    · rintro i x H1' H1 hi ⟨s1, d1⟩ ⟨rfl, hx⟩
      rw [List.getElem?_map] at hx
      obtain ⟨y, hy, rfl⟩ := Option.map_eq_some_iff.mp hx
      rw [List.length_map] at hi
      have hm := hbd y (List.mem_of_getElem? hy)
      refine ⟨rfl, ?_⟩
      refine ⟨_, rfl, y, rfl, hm.1, hm.2, fun H2 s2 => ⟨_, s2 _ _ d1, by rw [List.length_map, List.length_take]; exact small1000 (by omega), same_upd (s1.trans s2) ha, ?_⟩⟩
      rw [upd_same, take_snoc hy, List.map_append]
      rfl
    rintro H0 ⟨s0, ha⟩
    rw [List.length_map, List.take_length] at ha
    have q : ∀ H' p, Same H0 H' → H' p = some (.tup (iV (dense xs))) → Q (.ref p) H' := fun H' p s => q H' p (s0.trans s)
    generalize H0 = H at ha q
    refine ⟨_, rfl, a, rfl, ⟨_, SqL.of ha⟩, fun D hD => lc_it (walk_list (xs := xs.map V.int)) (fun i H' => Same H H' ∧ H' D = some (.lst (((dense xs).take i).map V.int))) ⟨same_new hD, upd_same⟩ (fun i H' _ h => SqL.of (h.1 _ _ ha)) ?_ ?_⟩
    · rintro i x H1' H1 hi ⟨s1, d1⟩ ⟨rfl, hx⟩
      rw [List.getElem?_map] at hx
      obtain ⟨y, hy, rfl⟩ := Option.map_eq_some_iff.mp hx
      rw [List.length_map] at hi
      refine ⟨rfl, ?_⟩
      refine ⟨_, rfl, a, rfl, ⟨_, SqL.of (s1 _ _ ha)⟩, fun D2 hD2 => lc_it (walk_list (xs := xs.map V.int)) (fun j H' => Same H1 H' ∧ H' D2 = some (.lst ((below (xs.take j) y).map V.int))) ⟨same_new hD2, upd_same⟩ (fun j H' _ h => SqL.of (h.1 _ _ (s1 _ _ ha))) ?_ ?_⟩
      · rintro j x2 H2' H2 hj ⟨s2, d2⟩ ⟨rfl, hx2⟩
        rw [List.getElem?_map] at hx2
        obtain ⟨z, hz, rfl⟩ := Option.map_eq_some_iff.mp hx2
        rw [List.length_map] at hj
        refine ⟨rfl, ?_⟩
        refine ⟨_, rfl, _, rfl, _, _, rfl, rfl, _, rfl, ?_⟩
        have fs := filter_snoc (fun u : Int => decide (u < y)) hz
        have lb : (below (xs.take j) y).length ≤ 60 := by
          unfold below
          refine Nat.le_trans (List.length_filter_le _ _) ?_
          rw [List.length_take]
          omega
        by_cases hc : z < y
        · rw [decide_eq_true hc]
          refine iteT ?_
          rw [if_pos (decide_eq_true hc)] at fs
          refine ⟨_, rfl, _, d2, by rw [List.length_map]; exact small1000 (by omega), same_upd s2 hD2, ?_⟩
          rw [upd_same]
          unfold below
          rw [fs, List.map_append]
          rfl
        · rw [decide_eq_false hc]
          refine iteF ?_
          rw [if_neg (by rw [decide_eq_false hc]; decide)] at fs
          refine ⟨s2, ?_⟩
          unfold below
          rw [fs]
          exact d2
      · rintro H2 ⟨s2, d2⟩
        rw [List.length_map, List.take_length] at d2
        have lb : (below xs y).length ≤ 60 := by
          unfold below
          exact Nat.le_trans (List.length_filter_le _ _) hl
        refine ⟨D2, _, rfl, SqL.of d2, by omega, ?_⟩
        have hd : (dense xs)[i]? = some ((num xs y : Nat) : Int) := by
          unfold dense
          rw [List.getElem?_map, hy]
          rfl
        refine ⟨_, s2 _ _ d1, by rw [List.length_map, List.length_take, dense_length]; exact small1000 (by omega), same_upd (s1.trans s2) hD, ?_⟩
        rw [upd_same, take_snoc hd, List.map_append]
        rfl
    · rintro H1 ⟨s1, d1⟩
      rw [List.length_map, ← dense_length, List.take_length] at d1
      refine ⟨D, _, rfl, .inl ⟨SqL.of d1, fun p hp => q _ p (s1.trans (same_new hp)) upd_same⟩⟩
end
end K54
namespace K54
open PySem PySem.Spec PyProof.Rows L2
/-! ### lines, rows along them -/
structure Lns (H : Hp) (l : Addr) (S : Nat → Prop) (T : Tab) : Prop where
  kv : ∃ kvs : List (Key × V), H l = some (.dK kvs) ∧ kvs.length ≤ 100 ∧ ∀ c, S c → ∃ (a : Addr) (ts : List Addr), valV kvs (Sum.inr (tx [c])) = some (.ref a) ∧ H a = some (.lst (ts.map V.ref)) ∧ Tps rV H ts (T c)
  ok : ∀ c, RidesOk 1000 (T c)
  len : ∀ c, (T c).length ≤ 60
theorem Lns.same {H H' : Hp} {l : Addr} {S : Nat → Prop} {T : Tab} (h : Lns H l S T) (s : Same H H') : Lns H' l S T :=
  ⟨let ⟨kvs, h1, h2, h3⟩ := h.kv; ⟨kvs, s _ _ h1, h2, fun c hc => let ⟨a, ts, e1, e2, e3⟩ := h3 c hc; ⟨a, ts, e1, s _ _ e2, e3.of_same s⟩⟩, h.ok, h.len⟩
theorem Lns.good {H : Hp} {l : Addr} {S : Nat → Prop} {T : Tab} (h : Lns H l S T) : Good BB T := fun c r hr => by
  have := h.ok c r hr
  have := BB_big
  refine ⟨?_, ?_, ?_⟩ <;> omega
theorem goT_snoc {B : Int} {T : Tab} (t : Int) (r : List Nat) (c : Nat) : goT B T t (r ++ [c]) = stepT B T (goT B T t r) c := by
  unfold goT
  rw [List.foldl_append]
  rfl
theorem same_low {c : Nat} (h : isStp c = true) : decide (V.str (tx [c]) = V.str (tx [lo c])) = isF c := by
  have key : ∀ c ∈ [65, 66, 67, 68, 97, 98, 99, 100], decide (V.str (tx [c]) = V.str (tx [lo c])) = isF c := by decide +kernel
  exact key c (stp_cases h)
def spGoL : Sp := fun vs H Q _ => ∃ (l : Addr) (S : Nat → Prop) (T : Tab) (r : List Nat) (t : Int), vs = [.ref l, sV r, mV t] ∧ Lns H l S T ∧ RowOk r ∧ (∀ c ∈ r, S (lo c)) ∧ ∀ H', Same H H' → Q (mV (goT BB T t r)) H'
def spEndsL : Sp := fun vs H Q _ => ∃ (l a : Addr) (S : Nat → Prop) (T : Tab) (rs : List (List Nat)) (t : Int), vs = [.ref l, .ref a, mV t] ∧ Lns H l S T ∧ H a = some (.lst (rs.map sV)) ∧ rs.length ≤ 60 ∧ (∀ r ∈ rs, RowOk r ∧ ∀ c ∈ r, S (lo c)) ∧
  ∀ H' p, Same H H' → H' p = some (.lst ((rs.map (goT BB T t)).map mV)) → Q (.ref p) H'
section
variable {P : Program} {w : World} {K : PySem.W.Frag} {mg : Str → Option Value} {base : Heap} {C f : Addr} {fd : FuncData}
abbrev NGo : List Str := ["_law_lines_here", "_law_row_here", "_law_moment_here", "_law_step", "_law_rides_here"]
theorem scGoL : FnScope NGo ["_law_lines_here", "_law_row_here", "_law_moment_here"] (defScope s_law_go) := ⟨rfl, rfl, rfl, by decide +kernel, rfl, by decide +kernel, by decide +kernel⟩
theorem ok_goL (DE : Df P w K mg base "_law_end" 1 ["_law_rides_here", "_law_moment_here"] spEnd) (DB : Df P w K mg base "_law_begin" 1 ["_law_rides_here", "_law_moment_here"] spBegin) (F : FnP K "_law_go" s_law_go f fd) :
    FnOk P w K mg base CX0 2 f fd ["_law_lines_here", "_law_row_here", "_law_moment_here"] spGoL := by
  refine F.ok scGoL (fun vs H Q E h => ?_) (fun cdv A outer s H vs Q E hr h => ?_)
  · obtain ⟨l, S, T, r, t, rfl, _⟩ := h
    rfl
  · obtain ⟨l, S, T, r, t, rfl, L, rok, rS, q⟩ := h
    have hu1 : (A.deeper (envOfC "_law_go" (defScope s_law_go) s.heap.objs.size f cdv)).units + 1 < cLine := by have := hr.un; omega
    refine ⟨_, PSs.nox (pss_cons (ps_for PassesOwn.never rfl (pi_str (pv 1)) (pg_name (i := 3) scGoL.nd rfl (Or.inl rfl))
        (pss_cons (ps_set (i := 4) scGoL.nd rfl (Or.inl rfl) (pe_dget hu1 (pv 0) (pe_lower (pv 3)) (fun _ _ => rfl)))
        (pss_one (ps_set (i := 2) scGoL.nd rfl (Or.inl rfl) (pe_ifExp (pt_cmpR op_eq (pv 3) (pe_lower (pv 3)) (nomark _)) (pe_callD DE hr rfl (pa_cons (pv 4) (pa_cons (pv 2) pa_nil))) (pe_callD DB hr rfl (pa_cons (pv 4) (pa_cons (pv 2) pa_nil))))))))
      (pss_one (ps_ret (pv 2)))), ?_⟩
    refine ⟨_, rfl, _, rfl, for_it walk_str (fun i σ H' => ∃ (v3 v4 : Option V), σ = [some (.ref l), some (sV r), some (mV (goT BB T t (r.take i))), v3, v4] ∧ Same H H')
      ⟨none, none, rfl, Same.refl H⟩ (fun _ _ _ _ _ => trivial) ?_ ?_⟩
    · rintro i x σ H1' H1 hi ⟨v3, v4, rfl, s1⟩ ⟨rfl, c, hc, rfl⟩
      have hc' := tx_get hc
      have hm := List.mem_of_getElem? hc'
      have cs := rok c hm
      have L1 := L.same s1
      obtain ⟨kvs, k1, _, k2⟩ := L1.kv
      obtain ⟨a, ts, e1, e2, e3⟩ := k2 (lo c) (rS c hm)
      refine ⟨_, rfl, _, rfl, ⟨_, rfl⟩, tx [c], rfl, rfl, by rw [tx_length]; show 1 ≤ 5592405; decide, ?_⟩
      rw [low_stp cs]
      refine ⟨l, .ref a, rfl, e1 ▸ DGet.k (k := Sum.inr (tx [lo c])) k1, ?_⟩
      refine ⟨_, rfl, _, rfl, ⟨_, rfl⟩, tx [c], rfl, rfl, by rw [tx_length]; show 1 ≤ 5592405; decide, rfl, _, rfl, ?_⟩
      have esl : decide (V.str ⟨#[c]⟩ = V.str (tx [lo c])) = isF c := same_low cs
      rw [low_stp cs, esl]
      have et := goT_snoc (B := BB) (T := T) t (r.take i) c
      rw [← take_snoc hc'] at et
      cases hf : isF c with
      | true =>
        refine iteT ?_
        refine ⟨_, rfl, _, rfl, a, ts, T (lo c), _, rfl, e2, e3, L.ok _, L.len _, fun H2 s2 => ?_⟩
        have ev : goT BB T t (r.take (i + 1)) = fEnd BB (T (lo c)) (goT BB T t (r.take i)) := by
          rw [et]
          unfold stepT
          rw [if_pos hf]
        rw [← ev]
        exact ⟨_, _, rfl, s1.trans s2⟩
      | false =>
        refine iteF ?_
        refine ⟨_, rfl, _, rfl, a, ts, T (lo c), _, rfl, e2, e3, L.ok _, L.len _, fun H2 s2 => ?_⟩
        have ev : goT BB T t (r.take (i + 1)) = fBeg BB (T (lo c)) (goT BB T t (r.take i)) := by
          rw [et]
          unfold stepT
          rw [if_neg (by rw [hf]; decide)]
        rw [← ev]
        exact ⟨_, _, rfl, s1.trans s2⟩
    · rintro σ H1 ⟨v3, v4, rfl, s1⟩
      rw [tx_size, List.take_length]
      exact ⟨_, rfl, q H1 s1⟩
abbrev NEndsL : List Str := ["_law_lines_here", "_law_rows", "_law_moment_here", "_law_row_here"]
theorem scEndsL : FnScope NEndsL ["_law_lines_here", "_law_rows", "_law_moment_here"] (defScope s_law_ends) := ⟨rfl, rfl, rfl, by decide +kernel, rfl, by decide +kernel, by decide +kernel⟩
theorem ok_endsL (DG : Df P w K mg base "_law_go" 2 ["_law_lines_here", "_law_row_here", "_law_moment_here"] spGoL) (F : FnP K "_law_ends" s_law_ends f fd) : FnOk P w K mg base CX0 3 f fd ["_law_lines_here", "_law_rows", "_law_moment_here"] spEndsL := by
  refine F.ok scEndsL (fun vs H Q E h => ?_) (fun cdv A outer s H vs Q E hr h => ?_)
  · obtain ⟨l, a, S, T, rs, t, rfl, _⟩ := h
    rfl
  · obtain ⟨l, a, S, T, rs, t, rfl, L, ha, hl, hok, q⟩ := h
    refine ⟨_, PSs.nox (pss_one (ps_ret (pe_lc (own := [("_law_row_here", 3)]) rfl scEndsL.nd (pi_list (pv 1)) (blkOk_by (own := [("_law_row_here", 3)]) (N := NEndsL) (sc := defScope s_law_ends) (by decide +kernel))
        (fun _ _ _ _ _ => pg_name (i := 3) scEndsL.nd rfl (Or.inl rfl)) (fun _ _ _ _ _ => pts_nil) (fun _ _ _ _ _ => pe_callD DG hr rfl (pa_cons (pv 0) (pa_cons (pv 3) (pa_cons (pv 2) pa_nil))))))), ?_⟩
    refine ⟨_, rfl, a, rfl, ⟨_, SqL.of ha⟩, fun D hD => lc_it (walk_list (xs := rs.map sV)) (fun i H' => Same H H' ∧ H' D = some (.lst (((rs.take i).map (goT BB T t)).map mV))) ⟨same_new hD, upd_same⟩ (fun i H' _ h => SqL.of (h.1 _ _ ha)) ?_ ?_⟩
    · rintro i x H1' H1 hi ⟨s1, d1⟩ ⟨rfl, hx⟩
      rw [List.getElem?_map] at hx
      obtain ⟨r, hr1, rfl⟩ := Option.map_eq_some_iff.mp hx
      rw [List.length_map] at hi
      obtain ⟨o1, o2⟩ := hok r (List.mem_of_getElem? hr1)
      refine ⟨rfl, ?_⟩
      refine ⟨_, rfl, _, rfl, _, rfl, l, S, T, r, t, rfl, L.same s1, o1, o2, fun H2 s2 => ⟨_, s2 _ _ d1, by rw [List.length_map, List.length_map, List.length_take]; exact small1000 (by omega), same_upd (s1.trans s2) hD, ?_⟩⟩
      rw [upd_same, take_snoc hr1, List.map_append, List.map_append]
      rfl
    · rintro H1 ⟨s1, d1⟩
      rw [List.length_map, List.take_length] at d1
      exact q H1 D s1 d1
end
end K54
namespace K54
open PySem PySem.Spec PyProof.Rows L2
/-! ### drawn rows; two lists of orders -/
def spPart : Sp := fun vs H Q _ => ∃ (d g : Addr) (B : Hp) (N st m : Nat) (z : List Nat), vs = [.ref d, .str (tx z), .int (st : Int), .int (m : Int)] ∧ N + 128 < 1000000 ∧ Dw N d g B H ∧ LetOk z ∧ st ≤ 7 ∧ 1 ≤ m ∧ m ≤ 3 ∧
  ∀ H' B' p rs, Same B B' → Dw (N + 128) d g B' H' → B' p = some (.lst (rs.map sV)) → 1 ≤ rs.length → rs.length ≤ m → tot rs ≤ st → (∀ r ∈ rs, RowOk r ∧ ∀ c ∈ r, lo c ∈ z) → Q (.ref p) H'
def spSame : Sp := fun vs H Q _ => ∃ (a b : Addr) (ts : List Addr) (os : List (List Int)) (rs : List (List Nat)), vs = [.ref a, .ref b] ∧ H a = some (.lst (ts.map V.ref)) ∧ Tps iV H ts os ∧ os.length ≤ 300 ∧ H b = some (.lst (rs.map sV)) ∧ RowsOk rs ∧
  (∀ o, o ∈ os ↔ o ∈ ordersL rs) ∧ ∀ H', Same H H' → Q (.bl true) H'
theorem tot_snoc (rs : List (List Nat)) (r : List Nat) : tot (rs ++ [r]) = tot rs + r.length := by unfold tot; simp
theorem any_eqv (os : List (List Int)) (o : List Int) : ((pT os).any fun z => PyData.eqv z (.tuple (pI o))) = decide (o ∈ os) := by
  induction os with
  | nil => rfl
  | cons x os ih =>
    unfold pT at ih ⊢
    rw [List.map_cons, List.any_cons, ih, PyData.eqv, eqv_pI, Bool.eq_iff_iff, Bool.or_eq_true, decide_eq_true_eq, decide_eq_true_eq, decide_eq_true_eq, List.mem_cons]
    constructor
    · rintro (e | e)
      · exact .inl e.symm
      · exact .inr e
    · rintro (e | e)
      · exact .inl e.symm
      · exact .inr e
section
variable {P : Program} {w : World} {K : PySem.W.Frag} {mg : Str → Option Value} {base : Heap} {C f : Addr} {fd : FuncData}
abbrev NPart : List Str := ["_law_draw", "_law_letters", "_law_steps", "_law_most", "_law_found", "_law_left", "_law_turn", "_law_row_here"]
theorem scPart : FnScope NPart ["_law_draw", "_law_letters", "_law_steps", "_law_most"] (defScope s_law_part) := ⟨rfl, rfl, rfl, by decide +kernel, rfl, by decide +kernel, by decide +kernel⟩
theorem ok_part (G : Txt mg) (DN : Df P w K mg base "_law_next" 1 ["_law_draw", "_law_many"] spNext) (DP : Df P w K mg base "_law_pick" 2 ["_law_draw", "_law_some_here"] spPick) (DR : Df P w K mg base "_law_row" 3 ["_law_draw", "_law_letters", "_law_many"] spRow) (F : FnP K "_law_part" s_law_part f fd) :
    FnOk P w K mg base CX0 4 f fd ["_law_draw", "_law_letters", "_law_steps", "_law_most"] spPart := by
  refine F.ok scPart (fun vs H Q E h => ?_) (fun cdv A outer s H vs Q E hr h => ?_)
  · obtain ⟨d, g, B, N, st, m, z, rfl, _⟩ := h
    rfl
  · obtain ⟨d, g, B, N, st, m, z, rfl, hN, D, hz, hst, hm1, hm3, q⟩ := h
    refine ⟨_, PSs.nox (pss_cons (ps_par rfl scPart.nd (i := 4) (j := 5) rfl rfl (by decide) rfl rfl (pa_cons (pe_lst pa_nil) (pa_cons (pv 2) pa_nil)) (by rfl))
      (pss_cons (ps_for PassesOwn.never rfl (pi_range1 (by rfl) G.range (pa_cons (pe_op op_add pe_int (pe_callD DN (hr.mono (by decide)) rfl (pa_cons (pv 0) (pa_cons (pv 3) pa_nil)))) pa_nil)) (pg_name (i := 6) scPart.nd rfl (Or.inl rfl))
        (pss_cons (ps_set (i := 7) scPart.nd rfl (Or.inl rfl) (pe_callD DR hr rfl (pa_cons (pv 0) (pa_cons (pv 1) (pa_cons (pe_op op_add pe_int (pe_callB (call_min2 rfl) (by rfl) G.min (by decide +kernel) (pa_cons (pv 5) (pa_cons (pe_callD DP (hr.mono (by decide)) rfl (pa_cons (pv 0) (pa_cons (pe_lst (pa_cons (pv 5) (pa_cons pe_int (pa_cons pe_int pa_nil)))) pa_nil))) pa_nil)))) pa_nil)))))
        (pss_cons (ps_expr (pe_bm PySem.F.plainAttrs_list PySem.F.slot_list_append PySem.F.type_list_append mt_append (pv 4) (pa_cons (pv 7) pa_nil)))
        (pss_one (ps_set (i := 5) scPart.nd rfl (Or.inl rfl) (pe_op op_sub (pv 5) (pe_callB call_len_str (by rfl) G.len PySem.boot_len (pa_cons (pv 7) pa_nil))))))))
      (pss_one (ps_ret (pv 4))))), ?_⟩
    refine ⟨Nat.zero_le _, fun F0 hF => ⟨_, rfl, _, _, rfl, ?_⟩⟩
    have D1 := D.new (o := .lst []) hF
    have bF := D.fr hF
    have hs : Same B (upd B F0 (.lst [])) := same_new bF
    refine ⟨_, rfl, _, rfl, d, g, _, N, m, rfl, by omega, by omega, by omega, D1, fun H2 k D2 hk => ?_⟩
    refine ⟨_, _, rfl, rfl, ?_⟩
    refine ⟨_, rfl, by omega, by omega, for_it walk_range (fun i σ H' => ∃ (v6 v7 : Option V) (B' : Hp) (rs : List (List Nat)) (lf : Nat), σ = [some (.ref d), some (.str (tx z)), some (.int (st : Int)), some (.int (m : Int)), some (.ref F0), some (.int (lf : Int)), v6, v7] ∧ Same B B' ∧ Dw (N + 1 + 33 * i) d g B' H' ∧ B' F0 = some (.lst (rs.map sV)) ∧ rs.length = i ∧ tot rs + lf = st ∧ ∀ r ∈ rs, RowOk r ∧ ∀ c ∈ r, lo c ∈ z)
      ⟨none, none, _, [], st, rfl, hs, D2, upd_same, rfl, Nat.zero_add _, (fun r h => by cases h)⟩ (fun _ _ _ _ _ => trivial) ?_ ?_⟩
    · rintro i x σ H3' H3 hi ⟨v6, v7, B3, rs, lf, rfl, s3, D3, f3, l3, t3, ok3⟩ ⟨rfl, rfl⟩
      refine ⟨_, rfl, _, rfl, _, rfl, _, rfl, _, rfl, by show 3 ≤ sizeLine; decide, fun c hc => ?_⟩
      have D4 := D3.new (o := .lst [V.int (lf : Int), V.int 2, V.int 3]) hc
      have bc := D3.fr hc
      refine ⟨d, g, _, _, _, rfl, by omega, D4, .inl ⟨c, _, rfl, upd_same, by show 0 < 3; decide, by show 3 ≤ 1000; decide, fun H5 v D5 hv => ?_⟩⟩
      have hv2 : ∃ u : Nat, v = V.int (u : Int) := by
        rcases List.mem_cons.mp hv with e | hv
        · exact ⟨lf, e⟩
        · rcases List.mem_cons.mp hv with e | hv
          · exact ⟨2, e⟩
          · rw [List.mem_singleton] at hv
            exact ⟨3, hv⟩
      obtain ⟨u, rfl⟩ := hv2
      refine ⟨_, _, rfl, ?_⟩
      have em : ∃ y : Nat, (if (u : Int) < (lf : Int) then (u : Int) else (lf : Int)) = (y : Int) ∧ y ≤ lf := by
        by_cases h : (u : Int) < (lf : Int)
        · exact ⟨u, if_pos h, by omega⟩
        · exact ⟨lf, if_neg h, Nat.le_refl _⟩
      obtain ⟨y, hy, hyl⟩ := em
      rw [hy]
      refine ⟨_, _, rfl, rfl, ?_⟩
      have D6 : Dw (N + 1 + 33 * i + 1) d g B3 H5 := D5.down (same_new bc)
      refine ⟨d, g, B3, _, 1 + y, z, ?_, by omega, D6, by omega, by omega, hz, fun H7 r D7 rok rl rz => ?_⟩
      · show [V.ref d, V.str (tx z), V.int (1 + (y : Int))] = _
        rw [show (1 + (y : Int)) = ((1 + y : Nat) : Int) by omega]
      refine ⟨_, rfl, .inl ⟨rfl, _, SqL.of (D7.same _ _ f3)⟩, _, rfl, F0, _, _, rfl, rfl, D7.same _ _ f3, by rw [List.length_map]; exact small1000 (by omega), ?_⟩
      have D8 := D7.put (o' := .lst (rs.map sV ++ [sV r])) f3
      refine ⟨_, rfl, _, rfl, _, rfl, by rw [tx_length]; exact Nat.le_of_lt (small1000 (by omega)), _, _, rfl, rfl, ?_⟩
      rw [tx_length]
      have el : (lf : Int) - ((r.length : Nat) : Int) = ((lf - r.length : Nat) : Int) := by omega
      refine ⟨some (.int ((0 : Int) + (i : Nat))), some (sV r), _, rs ++ [r], lf - r.length, ?_, same_upd s3 bF, D8.le (by omega), by rw [upd_same, List.map_append]; rfl, by rw [List.length_append, l3]; rfl, by rw [tot_snoc]; omega, fun r' hr' => ?_⟩
      rotate_left
      · rcases List.mem_append.mp hr' with hr' | hr'
        · exact ok3 r' hr'
        · rw [List.mem_singleton] at hr'
          rw [hr']
          exact ⟨rok, rz⟩
      rotate_left
      · show [some (V.ref d), some (V.str (tx z)), some (V.int (st : Int)), some (V.int (m : Int)), some (V.ref F0), some (V.int ((lf : Int) - ((r.length : Nat) : Int))), some (V.int ((0 : Int) + (i : Nat))), some (sV r)] = _
        rw [el]
    · rintro σ H3 ⟨v6, v7, B3, rs, lf, rfl, s3, D3, f3, l3, t3, ok3⟩
      exact ⟨_, rfl, q H3 B3 F0 rs s3 (D3.le (by omega)) f3 (by omega) (by omega) (by omega) ok3⟩
abbrev NSame : List Str := ["_law_found", "_law_rows", "_law_told", "_law_one"]
theorem scSame : FnScope NSame ["_law_found", "_law_rows"] (defScope s_law_same) := ⟨rfl, rfl, rfl, by decide +kernel, rfl, by decide +kernel, by decide +kernel⟩
/-- those of xs that are not in ys are none -/
theorem none_out {xs ys : List (List Int)} (h : ∀ o ∈ xs, o ∈ ys) : (xs.filter fun o => !decide (o ∈ ys)) = [] := List.filter_eq_nil_iff.mpr fun o ho z => by
  rw [decide_eq_true (h o ho)] at z
  cases z
theorem ok_same (DO : Df P w K mg base "orders" 9 ["rows"] spOrders) (F : FnP K "_law_same" s_law_same f fd) : FnOk P w K mg base CX0 10 f fd ["_law_found", "_law_rows"] spSame := by
  refine F.ok scSame (fun vs H Q E h => ?_) (fun cdv A outer s H vs Q E hr h => ?_)
  · obtain ⟨a, b, ts, os, rs, rfl, _⟩ := h
    rfl
  · obtain ⟨a, b, ts, os, rs, rfl, ha, hts, hl, hb, rok, hmem, q⟩ := h
    have hu65 : (A.deeper (envOfC "_law_same" (defScope s_law_same) s.heap.objs.size f cdv)).units + 65 < cLine := by have := hr.un; omega
    have hu64 : (A.deeper (envOfC "_law_same" (defScope s_law_same) s.heap.objs.size f cdv)).units + 64 < cLine := by have := hr.un; omega
    refine ⟨_, PSs.nox (pss_cons (ps_set (i := 2) scSame.nd rfl (Or.inr rfl) (pe_callD DO hr rfl (pa_cons (pv 1) pa_nil)))
      (pss_one (ps_ret (pe_and (pe_cmpR (op_eqD hu64) (pe_lc (own := [("_law_one", 3)]) rfl scSame.nd (pi_list (pv 0)) (blkOk_by (own := [("_law_one", 3)]) (N := NSame) (sc := defScope s_law_same) (by decide +kernel))
            (fun _ _ _ _ _ => pg_name (i := 3) scSame.nd rfl (Or.inl rfl)) (fun _ _ _ _ _ => pts_one (pt_cmpR (r := rNotInD K) (op_notInD hu65) (pv 3) (pv 2) (by rfl))) (fun _ _ _ _ _ => pv 3)) (pe_lst pa_nil) (nomark _))
        (pe_one (pe_cmpR (op_eqD hu64) (pe_lc (own := [("_law_one", 3)]) rfl scSame.nd (pi_list (pv 2)) (blkOk_by (own := [("_law_one", 3)]) (N := NSame) (sc := defScope s_law_same) (by decide +kernel))
            (fun _ _ _ _ _ => pg_name (i := 3) scSame.nd rfl (Or.inl rfl)) (fun _ _ _ _ _ => pts_one (pt_cmpR (r := rNotInD K) (op_notInD hu65) (pv 3) (pv 0) (by rfl))) (fun _ _ _ _ _ => pv 3)) (pe_lst pa_nil) (nomark _))))))), ?_⟩
    refine ⟨_, rfl, b, rs, rfl, hb, rok, fun H1 p us s1 _ hp hus => ?_⟩
    have lo : (ordersL rs).length ≤ 256 := by
      unfold ordersL
      exact Nat.le_trans (List.length_filter_le _ _) (ranksL_len _ rok.len)
    have ha1 := s1 _ _ ha
    have hts1 := hts.of_same s1
    refine ⟨_, rfl, a, rfl, ⟨_, SqL.of ha1⟩, fun D hD => ?_⟩
    refine lc_it (walk_list (xs := ts.map V.ref)) (fun i H' => Same H1 H' ∧ ∃ ws : List Addr, H' D = some (.lst (ws.map V.ref)) ∧ Tps iV H' ws ((os.take i).filter fun o => !decide (o ∈ ordersL rs))) ⟨same_new hD, [], upd_same, Tps.nil⟩ (fun i H' _ h => SqL.of (h.1 _ _ ha1)) ?_ ?_
    · rintro i x H2' H2 hi ⟨s2, ws, hws, hts2⟩ ⟨rfl, hx⟩
      obtain ⟨t, o, rfl, ht1, ho, htup⟩ := (hts1.of_same s2).get hx
      refine ⟨rfl, ?_⟩
      refine ⟨_, rfl, _, rfl, .tuple (pI o), pT (ordersL rs), .tup (SqT.of htup) (dp_pI o), .lst (SqL.of (s2 _ _ hp)) (dp_pT (hus.of_same s2)), shaped_TI o, shaped_T _, _, rfl, ?_⟩
      rw [any_eqv, decide_eq_true ((hmem o).mp (List.mem_of_getElem? ho))]
      refine iteF ?_
      have fs := filter_snoc (fun o => !decide (o ∈ ordersL rs)) ho
      rw [if_neg (by rw [decide_eq_true ((hmem o).mp (List.mem_of_getElem? ho))]; decide)] at fs
      exact ⟨s2, ws, hws, by rw [fs]; exact hts2⟩
    · rintro H2 ⟨s2, ws, hws, hts2⟩
      have e1 : os.take (ts.map V.ref).length = os := by rw [List.length_map, hts.len, List.take_length]
      rw [e1, none_out fun o ho => (hmem o).mp ho] at hts2
      refine ⟨Nat.zero_le _, fun c hc => ?_⟩
      have s3 := s2.trans (same_new (o := .lst []) hc)
      refine ⟨.list (pT []), .list [], .lst (SqL.of ((same_new hc) _ _ hws)) (dp_pT (hts2.of_same (same_new hc))), .lst (SqL.of upd_same) .nil, shaped_T _, shaped_T [], _, rfl, ?_⟩
      refine iteT ?_
      generalize upd H2 c (.lst []) = H3 at s3
      refine ⟨_, rfl, p, rfl, ⟨_, SqL.of (s3 _ _ hp)⟩, fun D2 hD2 => ?_⟩
      refine lc_it (walk_list (xs := us.map V.ref)) (fun i H' => Same H3 H' ∧ ∃ ws : List Addr, H' D2 = some (.lst (ws.map V.ref)) ∧ Tps iV H' ws (((ordersL rs).take i).filter fun o => !decide (o ∈ os))) ⟨same_new hD2, [], upd_same, Tps.nil⟩ (fun i H' _ h => SqL.of (h.1 _ _ (s3 _ _ hp))) ?_ ?_
      · rintro i x H4' H4 hi ⟨s4, ws, hws, hts2⟩ ⟨rfl, hx⟩
        obtain ⟨t, o, rfl, ht1, ho, htup⟩ := ((hus.of_same s3).of_same s4).get hx
        refine ⟨rfl, ?_⟩
        refine ⟨_, rfl, _, rfl, .tuple (pI o), pT os, .tup (SqT.of htup) (dp_pI o), .lst (SqL.of (s4 _ _ (s3 _ _ ha1))) (dp_pT ((hts1.of_same s3).of_same s4)), shaped_TI o, shaped_T _, _, rfl, ?_⟩
        rw [any_eqv, decide_eq_true ((hmem o).mpr (List.mem_of_getElem? ho))]
        refine iteF ?_
        have fs := filter_snoc (fun o => !decide (o ∈ os)) ho
        rw [if_neg (by rw [decide_eq_true ((hmem o).mpr (List.mem_of_getElem? ho))]; decide)] at fs
        exact ⟨s4, ws, hws, by rw [fs]; exact hts2⟩
      · rintro H4 ⟨s4, ws, hws, hts2⟩
        have e1 : (ordersL rs).take (us.map V.ref).length = ordersL rs := by rw [List.length_map, hus.len, List.take_length]
        rw [e1, none_out fun o ho => (hmem o).mpr ho] at hts2
        refine ⟨Nat.zero_le _, fun c hc => ?_⟩
        refine ⟨.list (pT []), .list [], .lst (SqL.of ((same_new hc) _ _ hws)) (dp_pT (hts2.of_same (same_new hc))), .lst (SqL.of upd_same) .nil, shaped_T _, shaped_T [], ?_⟩
        exact q _ (s1.trans (s3.trans (s4.trans (same_new hc))))
end
end K54
namespace K54
open PySem PySem.Spec PyProof.Rows L2
/-! ### drawn lines, made lines -/
theorem merge_snoc (acc more : List (Key × V)) (p : Key × V) : mergeK acc (more ++ [p]) = putK (mergeK acc more) p.1 p.2 := by
  unfold mergeK
  rw [List.foldl_append]
  rfl
/-- one of the pairs with that key wins -/
theorem merge_mem : ∀ (n : Nat) (more : List (Key × V)) (k : Key), more.length = n → (∃ y, (k, y) ∈ more) → ∃ y, (k, y) ∈ more ∧ valV (mergeK [] more) k = some y
  | 0, more, k, hn, ⟨y, hy⟩ => by rw [List.eq_nil_of_length_eq_zero hn] at hy; cases hy
  | n + 1, more, k, hn, ⟨y, hy⟩ => by
    rcases List.eq_nil_or_concat more with h0 | ⟨more', p, h0⟩
    · rw [h0] at hn
      cases hn
    · rw [List.concat_eq_append] at h0
      subst h0
      rw [List.length_append, List.length_singleton] at hn
      rw [merge_snoc, valV_put]
      by_cases e : k = p.1
      · rw [if_pos e]
        exact ⟨p.2, by rw [e]; exact List.mem_append_right _ (List.mem_singleton.mpr rfl), rfl⟩
      · rw [if_neg e]
        have hy' : (k, y) ∈ more' := by
          rcases List.mem_append.mp hy with h | h
          · exact h
          · rw [List.mem_singleton] at h
            exact absurd (by rw [← h]) e
        obtain ⟨y2, h1, h2⟩ := merge_mem n more' k (by omega) ⟨y, hy'⟩
        exact ⟨y2, List.mem_append_left _ h1, h2⟩
theorem tps_paired {α : Type} {f : α → List V} {H : Hp} : ∀ {ts : List Addr} {xs : List α}, Tps f H ts xs → Paired (fun t x => H t = some (.tup (f x))) ts xs
  | [], [], _ => .nil
  | [], _ :: _, h => by have := h.len; simp at this
  | _ :: _, [], h => by have := h.len; simp at this
  | t :: ts, x :: xs, h => .cons (h.at_ 0 t x rfl rfl) (tps_paired ⟨by have := h.len; simpa using this, fun k a y h1 h2 => h.at_ (k + 1) a y h1 h2⟩)
def pairV (kv : Key × V) : List V := [kV kv.1, kv.2]
/-- where a line's rides stand -/
def LineAt (B : Hp) (v : V) (R : List (Int × Int)) : Prop := ∃ (a : Addr) (ts : List Addr), v = .ref a ∧ B a = some (.lst (ts.map V.ref)) ∧ Tps rV B ts R
theorem LineAt.same {B B' : Hp} {v : V} {R : List (Int × Int)} (h : LineAt B v R) (s : Same B B') : LineAt B' v R :=
  let ⟨a, ts, h1, h2, h3⟩ := h; ⟨a, ts, h1, s _ _ h2, h3.of_same s⟩
def spLines : Sp := fun vs H Q _ => ∃ (d g : Addr) (B : Hp) (N m wd : Nat) (z : List Nat), vs = [.ref d, .str (tx z), .int (m : Int), .int (wd : Int)] ∧ N + 128 < 1000000 ∧ Dw N d g B H ∧ LetOk z ∧ m ≤ 8 ∧ 1 ≤ wd ∧ wd ≤ 100 ∧
  ∀ H' B' l T, Same B B' → Dw (N + 128) d g B' H' → Lns B' l (fun c => c ∈ z) T → Q (.ref l) H'
theorem lns_of {B : Hp} {l : Addr} {z : List Nat} {kvs : List (Key × V)} (hl : B l = some (.dK (mergeK [] kvs))) (h4 : kvs.length ≤ 4) (hk : ∀ c ∈ z, ∃ y, ((Sum.inr (tx [c]) : Key), y) ∈ kvs) (hv : ∀ kv ∈ kvs, ∃ R, LineAt B kv.2 R ∧ RidesOk 1000 R ∧ R.length ≤ 8) :
    ∃ T, Lns B l (fun c => c ∈ z) T := by
  have key : ∀ c, ∃ R : List (Int × Int), (c ∈ z → ∃ v, valV (mergeK [] kvs) (Sum.inr (tx [c])) = some v ∧ LineAt B v R) ∧ RidesOk 1000 R ∧ R.length ≤ 8 := by
    intro c
    by_cases hc : c ∈ z
    · obtain ⟨y, h1, h2⟩ := merge_mem _ kvs (Sum.inr (tx [c])) rfl (hk c hc)
      obtain ⟨R, r1, r2, r3⟩ := hv _ h1
      exact ⟨R, fun _ => ⟨y, h2, r1⟩, r2, r3⟩
    · exact ⟨[], fun h => absurd h hc, (fun q h => by cases h), Nat.zero_le _⟩
  obtain ⟨T, hT⟩ := Classical.axiomOfChoice key
  refine ⟨T, ⟨_, hl, ?_, fun c hc => ?_⟩, fun c => (hT c).2.1, fun c => Nat.le_trans (hT c).2.2 (by decide)⟩
  · have := length_mergeK kvs []
    rw [List.length_nil] at this
    omega
  · obtain ⟨v, h1, a, ts, rfl, h2, h3⟩ := (hT c).1 hc
    exact ⟨a, ts, h1, h2, h3⟩
section
variable {P : Program} {w : World} {K : PySem.W.Frag} {mg : Str → Option Value} {base : Heap} {C f : Addr} {fd : FuncData}
abbrev NLines : List Str := ["_law_draw", "_law_letters", "_law_many", "_law_wide", "_law_letter"]
theorem scLines : FnScope NLines ["_law_draw", "_law_letters", "_law_many", "_law_wide"] (defScope s_law_lines) := ⟨rfl, rfl, rfl, by decide +kernel, rfl, by decide +kernel, by decide +kernel⟩
theorem ok_lines (G : Txt mg) (DR : Df P w K mg base "_law_rides" 2 ["_law_draw", "_law_many", "_law_wide"] spRides) (F : FnP K "_law_lines" s_law_lines f fd) : FnOk P w K mg base CX0 3 f fd ["_law_draw", "_law_letters", "_law_many", "_law_wide"] spLines := by
  refine F.ok scLines (fun vs H Q E h => ?_) (fun cdv A outer s H vs Q E hr h => ?_)
  · obtain ⟨d, g, B, N, m, wd, z, rfl, _⟩ := h
    rfl
  · obtain ⟨d, g, B, N, m, wd, z, rfl, hN, D, hz, hm, hw1, hw2, q⟩ := h
    refine ⟨_, PSs.nox (pss_one (ps_ret (pe_callTy (call_dictP rfl) (by rfl) G.dict (by decide +kernel) (pa_cons (pe_lc (own := [("_law_letter", 4)]) rfl scLines.nd (pi_str (pv 1)) (blkOk_by (own := [("_law_letter", 4)]) (N := NLines) (sc := defScope s_law_lines) (by decide +kernel))
        (fun _ _ _ _ _ => pg_name (i := 4) scLines.nd rfl (Or.inl rfl)) (fun _ _ _ _ _ => pts_nil) (fun _ _ _ _ _ => pe_tup (pa_cons (pv 4) (pa_cons (pe_callD DR hr rfl (pa_cons (pv 0) (pa_cons (pv 2) (pa_cons (pv 3) pa_nil)))) pa_nil)))) pa_nil)))), ?_⟩
    obtain ⟨z0, z4, zl⟩ := hz
    refine ⟨_, rfl, _, rfl, fun L hL => ?_⟩
    have bL := D.fr hL
    refine lc_it walk_str (fun i H' => ∃ (B' : Hp) (ps : List Addr) (kvs : List (Key × V)), Same B B' ∧ Dw (N + 32 * i) d g B' H' ∧ B' L = some (.lst (ps.map V.ref)) ∧ Tps pairV B' ps kvs ∧ (∀ c ∈ z.take i, ∃ y, ((Sum.inr (tx [c]) : Key), y) ∈ kvs) ∧ kvs.length = i ∧
        ∀ kv ∈ kvs, ∃ R, LineAt B' kv.2 R ∧ kv.2 ≠ V.ref L ∧ RidesOk 1000 R ∧ R.length ≤ 8)
      ⟨_, [], [], same_new bL, D.new hL, upd_same, Tps.nil, (fun c h => by cases h), rfl, (fun kv h => by cases h)⟩ (fun _ _ _ _ => trivial) ?_ ?_
    · rintro i x H1' H1 hi ⟨B1, ps, kvs, s1, D1, l1, t1, k1, n1, v1⟩ ⟨rfl, c, hc, rfl⟩
      have hc' := tx_get hc
      rw [tx_size] at hi
      refine ⟨rfl, ?_⟩
      refine ⟨_, rfl, _, rfl, _, rfl, _, rfl, d, g, B1, _, m, wd, rfl, by omega, D1, hm, hw1, hw2, fun H2 B2 p ts R s2 D2 bp hp hts hR hRl => ?_⟩
      refine ⟨by show 2 ≤ sizeLine; decide, fun T hT => ?_⟩
      have D3 := D2.new (o := .tup [V.str (tx [c]), V.ref p]) hT
      have bT := D2.fr hT
      have sT := same_new (o := .tup [V.str (tx [c]), V.ref p]) bT
      have l3 := sT _ _ (s2 _ _ l1)
      refine ⟨_, D3.same _ _ l3, by rw [List.length_map, t1.len]; exact small1000 (by omega), ?_⟩
      have D4 := D3.put (o' := .lst (ps.map V.ref ++ [V.ref T])) l3
      have npL : p ≠ L := fun e => by rw [e, l1] at bp; cases bp
      have keep : ∀ {v R}, LineAt B2 v R → v ≠ V.ref L → LineAt (upd (upd B2 T (.tup [V.str (tx [c]), V.ref p])) L (.lst (ps.map V.ref ++ [V.ref T]))) v R := by
        rintro v R ⟨a, us, rfl, h2, h3⟩ hne
        have e : a ≠ L := fun e => hne (by rw [e])
        refine ⟨a, us, rfl, ?_, (h3.of_same sT).lst l3⟩
        rw [upd_ne e]
        exact sT _ _ h2
      have tT : (upd (upd B2 T (.tup [V.str (tx [c]), V.ref p])) L (.lst (ps.map V.ref ++ [V.ref T]))) T = some (.tup (pairV ((Sum.inr (tx [c]) : Key), V.ref p))) := by
        rw [upd_ne (ne_of (o := .tup [V.str (tx [c]), V.ref p]) upd_same l3 (by intro z; cases z))]
        exact upd_same
      refine ⟨_, ps ++ [T], kvs ++ [(Sum.inr (tx [c]), .ref p)], same_upd (s1.trans (s2.trans sT)) bL, D4.le (by omega), by rw [upd_same, List.map_append]; rfl, Tps.snoc (((t1.of_same s2).of_same sT).lst l3) tT, fun b hb => ?_, by rw [List.length_append, n1]; rfl, fun kv hkv => ?_⟩
      · rw [take_snoc hc'] at hb
        rcases List.mem_append.mp hb with hb | hb
        · obtain ⟨y, hy⟩ := k1 b hb
          exact ⟨y, List.mem_append_left _ hy⟩
        · rw [List.mem_singleton] at hb
          rw [hb]
          exact ⟨_, List.mem_append_right _ (List.mem_singleton.mpr rfl)⟩
      · rcases List.mem_append.mp hkv with hkv | hkv
        · obtain ⟨R', r1, r2, r3⟩ := v1 kv hkv
          exact ⟨R', keep (r1.same s2) r2, r2, r3⟩
        · rw [List.mem_singleton] at hkv
          rw [hkv]
          exact ⟨R, keep ⟨p, ts, rfl, hp, hts⟩ (fun e => npL (by injection e)), (fun e => npL (by injection e)), hR, hRl⟩
    · rintro H1 ⟨B1, ps, kvs, s1, D1, l1, t1, k1, n1, v1⟩
      rw [tx_size, List.take_length] at k1
      rw [tx_size] at n1 D1
      refine ⟨L, ps, kvs, rfl, SqL.of (D1.same _ _ l1), Paired.mono (fun t kv h => SqT.of (D1.same _ _ h)) (tps_paired t1), fun p hp => ?_⟩
      have D2 := D1.new (o := .dK (mergeK [] kvs)) hp
      have bp := D1.fr hp
      have h0 : (upd B1 p (.dK (mergeK [] kvs))) p = some (.dK (mergeK [] kvs)) := upd_same
      obtain ⟨T, hT⟩ := lns_of (z := z) h0 (by omega) k1 fun kv hkv => let ⟨R, r1, _, r2, r3⟩ := v1 kv hkv; ⟨R, r1.same (same_new bp), r2, r3⟩
      exact q _ _ p T (s1.trans (same_new bp)) (D2.le (by omega)) hT
abbrev NMade : List Str := ["_law_draw", "_law_rows", "_law_begin_here", "_law_lines_here", "_law_row_here", "_law_at", "_law_step", "_law_wide", "_law_end_here", "_law_ride"]
theorem scMade : FnScope NMade ["_law_draw", "_law_rows"] (defScope s_law_made) := ⟨rfl, rfl, rfl, by decide +kernel, rfl, by decide +kernel, by decide +kernel⟩
def abcd (c : Nat) : Prop := c ∈ [97, 98, 99, 100]
def spMade : Sp := fun vs H Q _ => ∃ (d g a : Addr) (B : Hp) (N : Nat) (rs : List (List Nat)), vs = [.ref d, .ref a] ∧ N + 64 < 1000000 ∧ Dw N d g B H ∧ B a = some (.lst (rs.map sV)) ∧ RowsOk rs ∧
  ∀ H' B' p l T (b : Nat), Same B B' → Dw (N + 64) d g B' H' → B' p = some (.tup [.ref l, .int (b : Int)]) → b ≤ 8 → Lns B' l abcd T → Q (.ref p) H'
/-- one more ride -/
def addT (T : Tab) (c : Nat) (q : Int × Int) : Tab := fun x => if x = c then T x ++ [q] else T x
theorem tx_key {a b : Nat} : (Sum.inr (tx [a]) : Key) = Sum.inr (tx [b]) ↔ a = b := by
  constructor
  · intro e
    injection e with e
    have := tx_inj e
    injection this
  · intro e
    rw [e]
theorem lns_add {B : Hp} {l p t : Addr} {T : Tab} {kvs : List (Key × V)} {ts : List Addr} {c : Nat} {q : Int × Int} (hl : B l = some (.dK kvs)) (hk : kvs.length ≤ 100) (hc : abcd c)
    (h : ∀ c, abcd c → ∃ (a : Addr) (ts : List Addr), valV kvs (Sum.inr (tx [c])) = some (.ref a) ∧ B a = some (.lst (ts.map V.ref)) ∧ Tps rV B ts (T c)) (hts : Tps rV B ts (T c)) (ht : B t = some (.tup (rV q))) (hp : B p = some (.lst ((ts ++ [t]).map V.ref)))
    (hT : ∀ x, RidesOk 1000 (T x)) (hq : -1000 ≤ q.1 ∧ q.1 ≤ q.2 ∧ q.2 ≤ 1000) (hn : ∀ x, (T x).length < 60) : Lns (upd B l (.dK (putK kvs (Sum.inr (tx [c])) (.ref p)))) l abcd (addT T c q) := by
  have keep : ∀ {a o}, B a = some o → (∀ k, o ≠ .dK k) → (upd B l (.dK (putK kvs (Sum.inr (tx [c])) (.ref p)))) a = some o := fun {a o} e h => by
    rw [upd_ne (ne_of e hl (h _))]
    exact e
  have kt : ∀ {us : List Addr} {R : List (Int × Int)}, Tps rV B us R → Tps rV (upd B l (.dK (putK kvs (Sum.inr (tx [c])) (.ref p)))) us R := fun h => h.updN fun ys z => by rw [hl] at z; cases z
  refine ⟨⟨_, upd_same, ?_, fun x hx => ?_⟩, fun x => ?_, fun x => ?_⟩
  · obtain ⟨_, _, e1, _⟩ := h c hc
    have e : (kvs.any fun kv => decide (kv.1 = (Sum.inr (tx [c]) : Key))) = true := by rw [valV_any, e1]; rfl
    unfold putK
    rw [if_pos e, List.length_map]
    exact hk
  · rw [valV_put]
    unfold addT
    by_cases e : x = c
    · rw [if_pos (tx_key.mpr e), if_pos e, e]
      exact ⟨p, ts ++ [t], rfl, keep hp (by intro k z; cases z), (kt hts).snoc (keep ht (by intro k z; cases z))⟩
    · rw [if_neg (fun z => e (tx_key.mp z)), if_neg e]
      obtain ⟨a, us, e1, e2, e3⟩ := h x hx
      exact ⟨a, us, e1, keep e2 (by intro k z; cases z), kt e3⟩
  · unfold addT
    by_cases e : x = c
    · rw [if_pos e]
      intro r hr
      rcases List.mem_append.mp hr with hr | hr
      · exact hT x r hr
      · rw [List.mem_singleton] at hr
        rw [hr]
        exact hq
    · rw [if_neg e]
      exact hT x
  · unfold addT
    have := hn x
    by_cases e : x = c
    · rw [if_pos e, List.length_append, List.length_singleton]
      omega
    · rw [if_neg e]
      omega
def kv4 (a b c d : Addr) : List (Key × V) := [(Sum.inr ("a" : Str), .ref a), (Sum.inr ("b" : Str), .ref b), (Sum.inr ("c" : Str), .ref c), (Sum.inr ("d" : Str), .ref d)]
theorem kv4_merge (a b c d : Addr) : mergeK [] (kv4 a b c d) = kv4 a b c d := by rfl
theorem kv4_get {a b c d : Addr} {x : Nat} (h : abcd x) : ∃ y, valV (kv4 a b c d) (Sum.inr (tx [x])) = some (.ref y) ∧ (y = a ∨ y = b ∨ y = c ∨ y = d) := by
  have h : x = 97 ∨ x = 98 ∨ x = 99 ∨ x = 100 := by
    unfold abcd at h
    simpa using h
  rcases h with rfl | rfl | rfl | rfl
  · exact ⟨a, rfl, .inl rfl⟩
  · exact ⟨b, rfl, .inr (.inl rfl)⟩
  · exact ⟨c, rfl, .inr (.inr (.inl rfl))⟩
  · exact ⟨d, rfl, .inr (.inr (.inr rfl))⟩
theorem ok_made (DN : Df P w K mg base "_law_next" 1 ["_law_draw", "_law_many"] spNext) (DP : Df P w K mg base "_law_pick" 2 ["_law_draw", "_law_some_here"] spPick) (F : FnP K "_law_made" s_law_made f fd) : FnOk P w K mg base CX0 3 f fd ["_law_draw", "_law_rows"] spMade := by
  refine F.ok scMade (fun vs H Q E h => ?_) (fun cdv A outer s H vs Q E hr h => ?_)
  · obtain ⟨d, g, a, B, N, rs, rfl, _⟩ := h
    rfl
  · obtain ⟨d, g, a, B, N, rs, rfl, hN, D, ha, rok, q⟩ := h
    have hu1 : (A.deeper (envOfC "_law_made" (defScope s_law_made) s.heap.objs.size f cdv)).units + 1 < cLine := by have := hr.un; omega
    refine ⟨_, PSs.nox (pss_cons (ps_set (i := 2) scMade.nd rfl (Or.inl rfl) (pe_callD DN (hr.mono (by decide)) rfl (pa_cons (pv 0) (pa_cons pe_int pa_nil))))
      (pss_cons (ps_set (i := 3) scMade.nd rfl (Or.inl rfl) (pe_disp (pps_cons pe_str (pe_lst pa_nil) (pps_cons pe_str (pe_lst pa_nil) (pps_cons pe_str (pe_lst pa_nil) (pps_cons pe_str (pe_lst pa_nil) pps_nil)))) rfl rfl (by decide) (by decide)))
      (pss_cons (ps_for PassesOwn.never rfl (pi_list (pv 1)) (pg_name (i := 4) scMade.nd rfl (Or.inl rfl))
        (pss_cons (ps_set (i := 5) scMade.nd rfl (Or.inl rfl) (pv 2))
        (pss_one (ps_for PassesOwn.never rfl (pi_str (pv 4)) (pg_name (i := 6) scMade.nd rfl (Or.inl rfl))
          (pss_cons (ps_set (i := 7) scMade.nd rfl (Or.inl rfl) (pe_callD DP hr rfl (pa_cons (pv 0) (pa_cons (pe_lst (pa_cons pe_int (pa_cons pe_int (pa_cons pe_int (pa_cons pe_int (pa_cons pe_int (pa_cons pe_int pa_nil))))))) pa_nil))))
          (pss_cons (ps_set (i := 8) scMade.nd rfl (Or.inl rfl) (pe_ifExp (pt_cmpR op_in_sign (pv 6) pe_str (by rfl)) (pe_op op_add (pv 5) (pv 7)) (pe_op op_sub (pv 5) (pv 7))))
          (pss_cons (ps_set (i := 9) scMade.nd rfl (Or.inl rfl) (pe_ifExp (pt_cmpR op_in_sign (pv 6) pe_str (by rfl)) (pe_tup (pa_cons (pv 5) (pa_cons (pv 8) pa_nil))) (pe_tup (pa_cons (pv 8) (pa_cons (pv 5) pa_nil)))))
          (pss_cons (ps_dput hu1 (pv 3) (pe_lower (pv 6)) (pe_op op_cat (pe_dget hu1 (pv 3) (pe_lower (pv 6)) (fun _ _ => rfl)) (pe_lst (pa_cons (pv 9) pa_nil))) rfl)
          (pss_one (ps_set (i := 5) scMade.nd rfl (Or.inl rfl) (pv 8)))))))))))
      (pss_one (ps_ret (pe_tup (pa_cons (pv 3) (pa_cons (pv 2) pa_nil)))))))), ?_⟩
    refine ⟨_, rfl, d, g, B, N, 9, rfl, by decide, by decide, by omega, D, fun H1 b D1 hb => ?_⟩
    intro l hl
    have E1 := D1.new (o := .dK []) hl
    have bl := D1.fr hl
    refine ⟨Nat.zero_le _, fun a1 g1 => ⟨Nat.zero_le _, fun a2 g2 => ⟨Nat.zero_le _, fun a3 g3 => ⟨Nat.zero_le _, fun a4 g4 => ?_⟩⟩⟩⟩
    have E2 := E1.new (o := .lst []) g1
    have E3 := E2.new (o := .lst []) g2
    have E4 := E3.new (o := .lst []) g3
    have E5 := E4.new (o := .lst []) g4
    have b1 := E1.fr g1
    have b2 := E2.fr g2
    have b3 := E3.fr g3
    have b4 := E4.fr g4
    have n1 := same_new (o := .lst []) b1
    have n2 := same_new (o := .lst []) b2
    have n3 := same_new (o := .lst []) b3
    have n4 := same_new (o := .lst []) b4
    have z1 := n4 _ _ (n3 _ _ (n2 _ _ (upd_same (H := upd B l (.dK [])) (a := a1) (o := .lst []))))
    have z2 := n4 _ _ (n3 _ _ (upd_same (H := upd (upd B l (.dK [])) a1 (.lst [])) (a := a2) (o := .lst [])))
    have z3 := n4 _ _ (upd_same (H := upd (upd (upd B l (.dK [])) a1 (.lst [])) a2 (.lst [])) (a := a3) (o := .lst []))
    have z4 := upd_same (H := upd (upd (upd (upd B l (.dK [])) a1 (.lst [])) a2 (.lst [])) a3 (.lst [])) (a := a4) (o := .lst [])
    have zl := n4 _ _ (n3 _ _ (n2 _ _ (n1 _ _ (upd_same (H := B) (a := l) (o := .dK [])))))
    have sB : Same B (upd (upd (upd (upd (upd B l (.dK [])) a1 (.lst [])) a2 (.lst [])) a3 (.lst [])) a4 (.lst [])) := (same_new bl).trans (n1.trans (n2.trans (n3.trans n4)))
    generalize upd (upd (upd (upd (upd B l (.dK [])) a1 (.lst [])) a2 (.lst [])) a3 (.lst [])) a4 (.lst []) = B5 at E5 z1 z2 z3 z4 zl sB
    refine ⟨E5.same _ _ zl, kv4 a1 a2 a3 a4, rfl, (by show 4 ≤ 15; decide), ?_⟩
    rw [kv4_merge]
    have E6 := E5.put (o' := .dK (kv4 a1 a2 a3 a4)) zl
    have kp : ∀ {y}, B5 y = some (.lst []) → (upd B5 l (.dK (kv4 a1 a2 a3 a4))) y = some (.lst (([] : List Addr).map V.ref)) := fun {y} e => by
      rw [upd_ne (ne_of e zl (by intro z; cases z))]
      exact e
    have L6 : Lns (upd B5 l (.dK (kv4 a1 a2 a3 a4))) l abcd (fun _ => []) := ⟨⟨_, upd_same, (by show 4 ≤ 100; decide), fun c hc => by
      obtain ⟨y, e1, e2⟩ := kv4_get (a := a1) (b := a2) (c := a3) (d := a4) hc
      refine ⟨y, [], e1, ?_, Tps.nil⟩
      rcases e2 with rfl | rfl | rfl | rfl
      · exact kp z1
      · exact kp z2
      · exact kp z3
      · exact kp z4⟩, (fun c q h => by cases h), fun c => Nat.zero_le _⟩
    have s6 : Same B (upd B5 l (.dK (kv4 a1 a2 a3 a4))) := same_upd sB bl
    generalize upd B5 l (.dK (kv4 a1 a2 a3 a4)) = B6 at E6 L6 s6
    generalize upd (upd (upd (upd (upd (upd H1 l (.dK [])) a1 (.lst [])) a2 (.lst [])) a3 (.lst [])) a4 (.lst [])) l (.dK (kv4 a1 a2 a3 a4)) = H6 at E6
    refine ⟨_, rfl, a, rfl, ⟨_, SqL.of (E6.same _ _ (s6 _ _ ha))⟩, for_it (walk_list (xs := rs.map sV)) (fun i σ H' => ∃ (v4 v5 v6 v7 v8 v9 : Option V) (B' : Hp) (T : Tab), σ = [some (.ref d), some (.ref a), some (.int (b : Int)), some (.ref l), v4, v5, v6, v7, v8, v9] ∧ Same B B' ∧ Dw (N + 1 + tot (rs.take i)) d g B' H' ∧ Lns B' l abcd T ∧ ∀ x, (T x).length ≤ tot (rs.take i))
      ⟨none, none, none, none, none, none, B6, _, rfl, s6, E6, L6, fun x => Nat.zero_le _⟩ (fun i σ H' _ ⟨_, _, _, _, _, _, B', _, _, s', D', _⟩ => SqL.of (D'.same _ _ (s' _ _ ha))) ?_ ?_⟩
    · rintro i x σ H7' H7 hi ⟨v4, v5, v6, v7, v8, v9, B7, T, rfl, s7, D7, L7, t7⟩ ⟨rfl, hx⟩
      rw [List.getElem?_map] at hx
      obtain ⟨r, hr1, rfl⟩ := Option.map_eq_some_iff.mp hx
      have hm := List.mem_of_getElem? hr1
      have rk := rok.ok r hm
      have lt8 : tot (rs.take i) + r.length ≤ 8 := by
        have e := tot_take rs (i + 1)
        rw [take_snoc hr1, tot_snoc] at e
        have := rok.tot
        omega
      refine ⟨_, rfl, ?_⟩
      refine ⟨_, rfl, _, rfl, for_it walk_str (fun j σ H' => ∃ (v6 v7 v8 v9 : Option V) (at_ : Int) (B' : Hp) (T : Tab), σ = [some (.ref d), some (.ref a), some (.int (b : Int)), some (.ref l), some (sV r), some (.int at_), v6, v7, v8, v9] ∧ Same B B' ∧ Dw (N + 1 + tot (rs.take i) + j) d g B' H' ∧ Lns B' l abcd T ∧ (∀ x, (T x).length ≤ tot (rs.take i) + j) ∧ -5 * (j : Int) ≤ at_ - b ∧ at_ - b ≤ 5 * (j : Int))
        ⟨v6, v7, v8, v9, b, B7, T, rfl, s7, D7, L7, t7, by omega, by omega⟩ (fun _ _ _ _ _ => trivial) ?_ ?_⟩
      · rintro j y σ H8' H8 hj ⟨v6, v7, v8, v9, at_, B8, T, rfl, s8, D8, L8, t8, w1, w2⟩ ⟨rfl, c, hc, rfl⟩
        have hc' := tx_get hc
        rw [tx_size] at hj
        have cs := rk c (List.mem_of_getElem? hc')
        have hab : abcd (lo c) := (lo_stp cs).1
        refine ⟨_, rfl, by show 6 ≤ sizeLine; decide, fun e he => ?_⟩
        have be := D8.fr he
        have D9 := D8.new (o := .lst [V.int 0, V.int 1, V.int 1, V.int 2, V.int 3, V.int 5]) he
        refine ⟨d, g, _, _, _, rfl, by omega, D9, .inl ⟨e, _, rfl, upd_same, by show 0 < 6; decide, by show 6 ≤ 1000; decide, fun H10 v D10 hv => ?_⟩⟩
        have D11 : Dw (N + 1 + tot (rs.take i) + j + 1) d g B8 H10 := D10.down (same_new be)
        have hv2 : ∃ u : Nat, v = V.int (u : Int) ∧ u ≤ 5 := by
          simp only [List.mem_cons, List.not_mem_nil, or_false] at hv
          rcases hv with rfl | rfl | rfl | rfl | rfl | rfl
          · exact ⟨0, rfl, by decide⟩
          · exact ⟨1, rfl, by decide⟩
          · exact ⟨1, rfl, by decide⟩
          · exact ⟨2, rfl, by decide⟩
          · exact ⟨3, rfl, by decide⟩
          · exact ⟨5, rfl, by decide⟩
        obtain ⟨u, rfl, hu5⟩ := hv2
        have hin : decide (c ∈ ("abcd" : Str).cps.toList) = isF c := by rw [abcd_eq, tx_toList]; exact abcd_mem cs
        have hlow : PySem.Txt.lower ⟨#[c]⟩ = tx [lo c] := low_stp cs
        refine ⟨_, rfl, c, _, rfl, rfl, _, rfl, ?_⟩
        rw [hin]
        cases hf : isF c with
        | true =>
          refine iteT ?_
          refine ⟨_, rfl, _, rfl, _, _, rfl, rfl, ?_⟩
          refine ⟨_, rfl, c, _, rfl, rfl, _, rfl, ?_⟩
          rw [hin, hf]
          refine iteT ?_
          refine ⟨_, rfl, _, rfl, by show 2 ≤ sizeLine; decide, fun tq htq => ?_⟩
          have D12 := D11.new (o := .tup (rV (at_, at_ + (u : Int)))) htq
          have btq := D11.fr htq
          have stq := same_new (o := .tup (rV (at_, at_ + (u : Int)))) btq
          have L12 := L8.same stq
          have htq2 : (upd B8 tq (.tup (rV (at_, at_ + (u : Int))))) tq = some (.tup (rV (at_, at_ + (u : Int)))) := upd_same
          have s12 := s8.trans stq
          have H12e : ∀ {H' : Hp}, H' = upd H10 tq (.tup (rV (at_, at_ + (u : Int)))) → Dw (N + 1 + tot (rs.take i) + j + 1) d g (upd B8 tq (.tup (rV (at_, at_ + (u : Int))))) H' := fun e => by rw [e]; exact D12
          generalize upd B8 tq (.tup (rV (at_, at_ + (u : Int)))) = B12 at D12 L12 htq2 s12 H12e
          obtain ⟨kvs, k1, k2, k3⟩ := L12.kv
          obtain ⟨al, us, e1, e2, e3⟩ := k3 (lo c) hab
          have D13 : Dw (N + 1 + tot (rs.take i) + j + 1) d g B12 (upd H10 tq (.tup (rV (at_, at_ + (u : Int))))) := D12
          refine ⟨_, rfl, _, rfl, ⟨_, rfl⟩, ⟨#[c]⟩, rfl, rfl, by show 1 ≤ 5592405; decide, l, .ref al, rfl, by rw [hlow]; exact e1 ▸ DGet.k (k := Sum.inr (tx [lo c])) (D13.same _ _ k1), ?_⟩
          refine ⟨_, rfl, by show 1 ≤ sizeLine; decide, fun b2 hb2 => ?_⟩
          have D14 := D13.new (o := .lst [V.ref tq]) hb2
          have bb2 := D13.fr hb2
          refine ⟨al, b2, _, _, rfl, rfl, D14.same _ _ ((same_new bb2) _ _ e2), upd_same, ?_, fun p hp => ?_⟩
          · rw [List.length_map, e3.len]
            have := L12.len (lo c)
            exact Nat.le_of_lt (small1000 (by show (T (lo c)).length + 1 ≤ 1000; omega))
          have D15 := D14.new (o := .lst (us.map V.ref ++ [V.ref tq])) hp
          have bp := D14.fr hp
          have s1315 := (same_new (o := .lst [V.ref tq]) bb2).trans (same_new (o := .lst (us.map V.ref ++ [V.ref tq])) bp)
          have hp15 : (upd (upd B12 b2 (.lst [V.ref tq])) p (.lst (us.map V.ref ++ [V.ref tq]))) p = some (.lst ((us ++ [tq]).map V.ref)) := by rw [upd_same, List.map_append]; rfl
          generalize upd (upd B12 b2 (.lst [V.ref tq])) p (.lst (us.map V.ref ++ [V.ref tq])) = B15 at D15 s1315 hp15
          have k15 := s1315 _ _ k1
          refine ⟨_, rfl, _, rfl, ⟨_, rfl⟩, ⟨#[c]⟩, rfl, rfl, by show 1 ≤ 5592405; decide, l, _, rfl, by rw [hlow]; exact DPut.k (k := Sum.inr (tx [lo c])) (D15.same _ _ k15) (small1000 (by omega)), ?_⟩
          have D16 := D15.put (o' := .dK (putK kvs (Sum.inr (tx [lo c])) (.ref p))) k15
          have L16 := lns_add (t := tq) (p := p) (ts := us) (T := T) (q := (at_, at_ + (u : Int))) k15 k2 hab (fun x hx => let ⟨a', us', f1, f2, f3⟩ := k3 x hx; ⟨a', us', f1, s1315 _ _ f2, f3.of_same s1315⟩) (e3.of_same s1315) (s1315 _ _ htq2) hp15 L8.ok (by refine ⟨?_, ?_, ?_⟩ <;> simp only <;> omega) (fun x => by have := t8 x; omega)
          refine ⟨_, rfl, some (.str ⟨#[c]⟩), some (.int (u : Int)), some (.int (at_ + (u : Int))), some (.ref tq), (at_ + (u : Int)), _, addT T (lo c) (at_, at_ + (u : Int)), rfl, same_upd (s12.trans s1315) bl, D16, L16, fun x => ?_, by omega, by omega⟩
          unfold addT
          have := t8 x
          by_cases e : x = lo c
          · rw [if_pos e, List.length_append, List.length_singleton]
            omega
          · rw [if_neg e]
            omega
        | false =>
          refine iteF ?_
          refine ⟨_, rfl, _, rfl, _, _, rfl, rfl, ?_⟩
          refine ⟨_, rfl, c, _, rfl, rfl, _, rfl, ?_⟩
          rw [hin, hf]
          refine iteF ?_
          refine ⟨_, rfl, _, rfl, by show 2 ≤ sizeLine; decide, fun tq htq => ?_⟩
          have D12 := D11.new (o := .tup (rV (at_ - (u : Int), at_))) htq
          have btq := D11.fr htq
          have stq := same_new (o := .tup (rV (at_ - (u : Int), at_))) btq
          have L12 := L8.same stq
          have htq2 : (upd B8 tq (.tup (rV (at_ - (u : Int), at_)))) tq = some (.tup (rV (at_ - (u : Int), at_))) := upd_same
          have s12 := s8.trans stq
          have H12e : ∀ {H' : Hp}, H' = upd H10 tq (.tup (rV (at_ - (u : Int), at_))) → Dw (N + 1 + tot (rs.take i) + j + 1) d g (upd B8 tq (.tup (rV (at_ - (u : Int), at_)))) H' := fun e => by rw [e]; exact D12
          generalize upd B8 tq (.tup (rV (at_ - (u : Int), at_))) = B12 at D12 L12 htq2 s12 H12e
          obtain ⟨kvs, k1, k2, k3⟩ := L12.kv
          obtain ⟨al, us, e1, e2, e3⟩ := k3 (lo c) hab
          have D13 : Dw (N + 1 + tot (rs.take i) + j + 1) d g B12 (upd H10 tq (.tup (rV (at_ - (u : Int), at_)))) := D12
          refine ⟨_, rfl, _, rfl, ⟨_, rfl⟩, ⟨#[c]⟩, rfl, rfl, by show 1 ≤ 5592405; decide, l, .ref al, rfl, by rw [hlow]; exact e1 ▸ DGet.k (k := Sum.inr (tx [lo c])) (D13.same _ _ k1), ?_⟩
          refine ⟨_, rfl, by show 1 ≤ sizeLine; decide, fun b2 hb2 => ?_⟩
          have D14 := D13.new (o := .lst [V.ref tq]) hb2
          have bb2 := D13.fr hb2
          refine ⟨al, b2, _, _, rfl, rfl, D14.same _ _ ((same_new bb2) _ _ e2), upd_same, ?_, fun p hp => ?_⟩
          · rw [List.length_map, e3.len]
            have := L12.len (lo c)
            exact Nat.le_of_lt (small1000 (by show (T (lo c)).length + 1 ≤ 1000; omega))
          have D15 := D14.new (o := .lst (us.map V.ref ++ [V.ref tq])) hp
          have bp := D14.fr hp
          have s1315 := (same_new (o := .lst [V.ref tq]) bb2).trans (same_new (o := .lst (us.map V.ref ++ [V.ref tq])) bp)
          have hp15 : (upd (upd B12 b2 (.lst [V.ref tq])) p (.lst (us.map V.ref ++ [V.ref tq]))) p = some (.lst ((us ++ [tq]).map V.ref)) := by rw [upd_same, List.map_append]; rfl
          generalize upd (upd B12 b2 (.lst [V.ref tq])) p (.lst (us.map V.ref ++ [V.ref tq])) = B15 at D15 s1315 hp15
          have k15 := s1315 _ _ k1
          refine ⟨_, rfl, _, rfl, ⟨_, rfl⟩, ⟨#[c]⟩, rfl, rfl, by show 1 ≤ 5592405; decide, l, _, rfl, by rw [hlow]; exact DPut.k (k := Sum.inr (tx [lo c])) (D15.same _ _ k15) (small1000 (by omega)), ?_⟩
          have D16 := D15.put (o' := .dK (putK kvs (Sum.inr (tx [lo c])) (.ref p))) k15
          have L16 := lns_add (t := tq) (p := p) (ts := us) (T := T) (q := (at_ - (u : Int), at_)) k15 k2 hab (fun x hx => let ⟨a', us', f1, f2, f3⟩ := k3 x hx; ⟨a', us', f1, s1315 _ _ f2, f3.of_same s1315⟩) (e3.of_same s1315) (s1315 _ _ htq2) hp15 L8.ok (by refine ⟨?_, ?_, ?_⟩ <;> simp only <;> omega) (fun x => by have := t8 x; omega)
          refine ⟨_, rfl, some (.str ⟨#[c]⟩), some (.int (u : Int)), some (.int (at_ - (u : Int))), some (.ref tq), (at_ - (u : Int)), _, addT T (lo c) (at_ - (u : Int), at_), rfl, same_upd (s12.trans s1315) bl, D16, L16, fun x => ?_, by omega, by omega⟩
          unfold addT
          have := t8 x
          by_cases e : x = lo c
          · rw [if_pos e, List.length_append, List.length_singleton]
            omega
          · rw [if_neg e]
            omega
      · rintro σ H8 ⟨v6, v7, v8, v9, at_, B8, T, rfl, s8, D8, L8, t8, w1, w2⟩
        rw [tx_size] at D8 t8
        rw [take_snoc hr1, tot_snoc]
        exact ⟨_, _, _, _, _, _, B8, T, rfl, s8, D8.le (by omega), L8, t8⟩
    · rintro σ H7 ⟨v4, v5, v6, v7, v8, v9, B7, T, rfl, s7, D7, L7, t7⟩
      rw [List.length_map, List.take_length] at D7
      refine ⟨_, rfl, _, rfl, by show 2 ≤ sizeLine; decide, fun p hp => ?_⟩
      have bp := D7.fr hp
      exact q _ _ p l T b (s7.trans (same_new bp)) ((D7.new hp).le (by have := rok.tot; omega)) upd_same (by omega) (L7.same (same_new bp))
end
end K54
namespace K54
open PySem PySem.Calls PySem.Spec PyProof.Rows PyProof.V L2 PySem.W
/-! ### list(zip(text, list)) -/
section
variable {prog : Program} {w : World} {A : Around} {E : Value → Shared → Prop} {s : Shared} {z TI TO i1 i2 T : Addr} {fp1 fp2 : List Addr} {n1 n2 i : Nat} {P1 P2 : Nat → Value → Prop} {St1 St2 : Nat → Heap → Prop} {a1 a2 : Value} {f : Bool} {oT : Obj}
theorem zipH_next_item {Q : Value → Shared → Prop} (S : ZipSep2 z TI TO i1 i2 fp1 fp2) (D1 : Draws prog w A i1 fp1 n1 P1 St1) (D2 : Draws prog w A i2 fp2 n2 P2 St2)
    (hz : IsZipHeld s.heap z TI TO T f) (hT : s.heap.get? T = some oT) (hTI : IsTupOf2 s.heap TI (.ref i1) (.ref i2)) (st1 : St1 i s.heap) (st2 : St2 i s.heap) (hlt1 : i < n1) (hlt2 : i < n2)
    (hQ : ∀ x1 x2 h' tk, P1 i x1 → P2 i x2 → IsZipHeld h' z TI TO T true → St1 (i + 1) h' → St2 (i + 1) h' → IsTupOf2 h' s.heap.objs.size x1 x2 → h'.objs.size = s.heap.objs.size + 1 →
      (∀ c o, c ≠ z → c ≠ i1 → c ≠ i2 → s.heap.get? c = some o → h'.get? c = some o) → Q (.ref s.heap.objs.size) { s with heap := h', toks := tk }) :
    wpAny (model prog w) A (Builtin.«zip.__next__» ⟨[.ref z], []⟩) (fun fin s' => ∃ v, fin = .done (.ret v) ∧ Q v s') E s := by
  obtain ⟨hp, g, d, tk0, os⟩ := s
  show wpAny _ _ (field (.ref z) 2 >>= _) _ _ _
  refine wpAny_bind (wpAny_field hz rfl (x := .bool false) rfl ?_)
  show wpAny _ _ (field (.ref z) 3 >>= _) _ _ _
  refine wpAny_bind (wpAny_field hz rfl (x := .ref TI) rfl ?_)
  refine wpAny_bind (wpAny_seqItems hTI rfl ?_)
  show wpAny _ _ (Builtin.SmallTypes.ownedTupleIsFree (.ref z) >>= _) _ _ _
  refine wpAny_bind (wpAny_tupleHeld_zip hz hT fun g0 hz0 hs0 => ?_)
  replace hs0 : Heap.SameBut z hp g0 := hs0
  simp only [Bool.false_eq_true, if_false]
  refine wpAny_bind ?_
  rw [← Array.forIn_toList]
  simp only [List.forIn_cons, List.forIn_nil]
  refine wpAny_bind (wpAny_bind (wpAny_holding ?_))
  show wpAny _ _ (Builtin.SmallTypes.nextOf (.ref i1) >>= _) _ _ ⟨g0, g, d, tk0, os⟩
  refine wpAny_bind (D1.item i _ _ _ hlt1 (D1.over st1 hs0 S.zf1) fun x1 p1 tk1 hx1 sn1 hp1 => wpAny_pure ?_)
  replace hp1 : Heap.SameBut i1 g0 p1 := hp1
  refine wpAny_pure ?_
  refine wpAny_bind (wpAny_bind (wpAny_holding ?_))
  show wpAny _ _ (Builtin.SmallTypes.nextOf (.ref i2) >>= _) _ _ ⟨p1, g, d, tk1, os⟩
  refine wpAny_bind (D2.item i _ _ _ hlt2 (D2.over (D2.over st2 hs0 S.zf2) hp1 S.sep1_2) fun x2 p2 tk2 hx2 sn2 hp2 => wpAny_pure ?_)
  replace hp2 : Heap.SameBut i2 p1 p2 := hp2
  refine wpAny_pure (wpAny_pure ?_)
  show wpAny _ _ (newTuple [x1, x2] >>= _) _ _ ⟨p2, g, d, tk2, os⟩
  refine wpAny_bind (wpAny_newTuple ?_)
  have hsz : p2.objs.size = hp.objs.size := by rw [hp2.1, hp1.1, hs0.1]
  have hzz : IsZipHeld p2 z TI TO T true := hp2.extBut _ _ S.zi2 (hp1.extBut _ _ S.zi1 hz0)
  have hkk : ∀ c o, c ≠ z → c ≠ i1 → c ≠ i2 → hp.get? c = some o → p2.get? c = some o := fun c o cz c1 c2 e => hp2.extBut _ _ c2 (hp1.extBut _ _ c1 (hs0.extBut _ _ cz e))
  have hj1 : St1 (i + 1) p2 := D1.over sn1 hp2 S.sep2_1
  have hT8 : IsTupOf2 (p2.push { cls := .type "tuple", data := .seq #[x1, x2] }) p2.objs.size x1 x2 := Heap.get?_push_size _ rfl
  have hz8 : (p2.push { cls := .type "tuple", data := .seq #[x1, x2] }).objs.size = p2.objs.size + 1 := Heap.size_push ..
  refine wpAny_pure ⟨_, rfl, ?_⟩
  show Q (.ref p2.objs.size) _
  rw [hsz] at hT8 hz8 ⊢
  exact hQ x1 x2 _ tk2 hx1 hx2 (Heap.get?_push_of_some _ hzz) (D1.frame _ _ _ hj1 fun b hb o e => Heap.get?_push_of_some _ e) (D2.frame _ _ _ sn2 fun b hb o e => Heap.get?_push_of_some _ e) hT8 hz8 fun c o cz c1 c2 e => Heap.get?_push_of_some _ (hkk c o cz c1 c2 e)
theorem zipH_next_end {Q : Fin → Shared → Prop} (S : ZipSep2 z TI TO i1 i2 fp1 fp2) (D1 : Draws prog w A i1 fp1 n1 P1 St1)
    (hz : IsZipHeld s.heap z TI TO T f) (hT : s.heap.get? T = some oT) (hTI : IsTupOf2 s.heap TI (.ref i1) (.ref i2)) (st1 : St1 n1 s.heap)
    (hE : ∀ h' e, (∀ c o, c ≠ z → c ≠ i1 → s.heap.get? c = some o → h'.get? c = some o) → (∃ o, h'.get? e = some o ∧ o.cls = .type "StopIteration") → E (.ref e) { s with heap := h' }) :
    wpAny (model prog w) A (Builtin.«zip.__next__» ⟨[.ref z], []⟩) Q E s := by
  obtain ⟨hp, g, d, tk0, os⟩ := s
  show wpAny _ _ (field (.ref z) 2 >>= _) _ _ _
  refine wpAny_bind (wpAny_field hz rfl (x := .bool false) rfl ?_)
  show wpAny _ _ (field (.ref z) 3 >>= _) _ _ _
  refine wpAny_bind (wpAny_field hz rfl (x := .ref TI) rfl ?_)
  refine wpAny_bind (wpAny_seqItems hTI rfl ?_)
  show wpAny _ _ (Builtin.SmallTypes.ownedTupleIsFree (.ref z) >>= _) _ _ _
  refine wpAny_bind (wpAny_tupleHeld_zip hz hT fun g0 hz0 hs0 => ?_)
  replace hs0 : Heap.SameBut z hp g0 := hs0
  simp only [Bool.false_eq_true, if_false]
  refine wpAny_bind ?_
  rw [← Array.forIn_toList]
  simp only [List.forIn_cons, List.forIn_nil]
  refine wpAny_bind (wpAny_bind (wpAny_holding ?_))
  show wpAny _ _ (Builtin.SmallTypes.nextOf (.ref i1) >>= _) _ _ ⟨g0, g, d, tk0, os⟩
  refine wpAny_bind (D1.done _ _ _ (D1.over st1 hs0 S.zf1) fun q e hq he => ?_)
  exact hE q e (fun c o c1 c2 x => hq _ _ c2 (hs0.extBut _ _ c1 x)) he
theorem zipH_pyNext_item {Q : Option Value → Shared → Prop} (S : ZipSep2 z TI TO i1 i2 fp1 fp2) (D1 : Draws prog w A.in1 i1 fp1 n1 P1 St1) (D2 : Draws prog w A.in1 i2 fp2 n2 P2 St2)
    (hz : IsZipHeld s.heap z TI TO T f) (hT : s.heap.get? T = some oT) (hTI : IsTupOf2 s.heap TI (.ref i1) (.ref i2)) (st1 : St1 i s.heap) (st2 : St2 i s.heap) (hlt1 : i < n1) (hlt2 : i < n2)
    (hQ : ∀ x1 x2 h' tk, P1 i x1 → P2 i x2 → IsZipHeld h' z TI TO T true → St1 (i + 1) h' → St2 (i + 1) h' → IsTupOf2 h' s.heap.objs.size x1 x2 → h'.objs.size = s.heap.objs.size + 1 →
      (∀ c o, c ≠ z → c ≠ i1 → c ≠ i2 → s.heap.get? c = some o → h'.get? c = some o) → Q (some (.ref s.heap.objs.size)) { s with heap := h', toks := tk }) :
    wpAny (model prog w) A (pyNext (.ref z)) Q E s := by
  have hTy : s.TypeIs (.ref z) "zip" := ⟨_, hz, rfl⟩
  unfold pyNext
  exact wpAny_bind (wpAny_attempt (wpAny_callSpecial?_slot (name := Str.ofString "__next__") hTy PySem.F.slot_zip_next
    (wpAny_call_entry PySem.F.slot_zip_next hTy PySem.F.entry_zip_next
      (zipH_next_item S D1 D2 hz hT hTI st1 st2 hlt1 hlt2 fun x1 x2 h' tk y1 y2 b1 d1 d2 b5 b6 b7 => wpAny_pure (hQ x1 x2 h' tk y1 y2 b1 d1 d2 b5 b6 b7)) (PySem.F.args_zip_next_1 _))))
theorem zipH_pyNext_end {Q : Option Value → Shared → Prop} (S : ZipSep2 z TI TO i1 i2 fp1 fp2) (D1 : Draws prog w A.in1 i1 fp1 n1 P1 St1)
    (hz : IsZipHeld s.heap z TI TO T f) (hT : s.heap.get? T = some oT) (hTI : IsTupOf2 s.heap TI (.ref i1) (.ref i2)) (st1 : St1 n1 s.heap)
    (hQ : ∀ h', (∀ c o, c ≠ z → c ≠ i1 → s.heap.get? c = some o → h'.get? c = some o) → Q none { s with heap := h' }) : wpAny (model prog w) A (pyNext (.ref z)) Q E s := by
  have hTy : s.TypeIs (.ref z) "zip" := ⟨_, hz, rfl⟩
  unfold pyNext
  refine wpAny_bind (wpAny_attempt (wpAny_callSpecial?_slot (name := Str.ofString "__next__") hTy PySem.F.slot_zip_next
    (wpAny_call_entry PySem.F.slot_zip_next hTy PySem.F.entry_zip_next (zipH_next_end S D1 hz hT hTI st1 fun h' e hk he => ?_) (PySem.F.args_zip_next_1 _))))
  obtain ⟨o, ho, hc⟩ := he
  refine wpAny_bind (wpAny_isInstance (T := "StopIteration") (b := true) ⟨o, ho, hc⟩ isSubtype_stop ?_)
  exact wpAny_pure (hQ _ hk)
/-- a zip in the midst of its turns; the tuples that it gave out lie from lo on -/
def ZS (z TI TO i1 i2 : Addr) (St1 St2 : Nat → Heap → Prop) (lo : Addr) (i : Nat) (h : Heap) : Prop :=
  IsTupOf2 h TI (.ref i1) (.ref i2) ∧ St1 i h ∧ St2 i h ∧ ((IsZip h z TI TO .none ∧ ∃ a b, IsTupOf2 h TO a b) ∨ ∃ T f oT, IsZipHeld h z TI TO T f ∧ h.get? T = some oT ∧ lo ≤ T)
theorem zs_item {lo : Addr} {Q : Option Value → Shared → Prop} (S : ZipSep2 z TI TO i1 i2 fp1 fp2) (D1 : Draws prog w A.in1 i1 fp1 n1 P1 St1) (D2 : Draws prog w A.in1 i2 fp2 n2 P2 St2) (st : ZS z TI TO i1 i2 St1 St2 lo i s.heap) (hlo : lo ≤ s.heap.objs.size) (hz0 : z < lo) (h10 : i1 < lo) (h20 : i2 < lo)
    (hlt1 : i < n1) (hlt2 : i < n2)
    (hQ : ∀ x1 x2 h' tk, P1 i x1 → P2 i x2 → ZS z TI TO i1 i2 St1 St2 lo (i + 1) h' → IsTupOf2 h' s.heap.objs.size x1 x2 → h'.objs.size = s.heap.objs.size + 1 →
      (∀ c o, c ≠ z → c ≠ TO → c ≠ i1 → c ≠ i2 → s.heap.get? c = some o → h'.get? c = some o) → Q (some (.ref s.heap.objs.size)) { s with heap := h', toks := tk }) :
    wpAny (model prog w) A (pyNext (.ref z)) Q E s := by
  obtain ⟨hTI, st1, st2, ⟨hz, a, b, hTO⟩ | ⟨T, f, oT, hz, hT, hTlo⟩⟩ := st
  · refine wpAny_pyNext_zipD2_item S D1 D2 hz hTI hTO st1 st2 hlt1 hlt2 fun x1 x2 h' tk hp1 hp2 hz' hTO' st1' st2' hT' hsz hk => ?_
    exact hQ x1 x2 h' tk hp1 hp2 ⟨hk _ _ S.TIz S.TITO S.TIi1 S.TIi2 hTI, st1', st2', .inr ⟨_, false, _, hz', hT', hlo⟩⟩ hT' hsz hk
  · refine zipH_pyNext_item S D1 D2 hz hT hTI st1 st2 hlt1 hlt2 fun x1 x2 h' tk hp1 hp2 hz' st1' st2' hT' hsz hk => ?_
    exact hQ x1 x2 h' tk hp1 hp2 ⟨hk _ _ S.TIz S.TIi1 S.TIi2 hTI, st1', st2', .inr ⟨T, true, oT, hz', hk _ _ (Nat.ne_of_gt (Nat.lt_of_lt_of_le hz0 hTlo)) (Nat.ne_of_gt (Nat.lt_of_lt_of_le h10 hTlo)) (Nat.ne_of_gt (Nat.lt_of_lt_of_le h20 hTlo)) hT, hTlo⟩⟩ hT' hsz fun c o c1 _ c3 c4 e => hk c o c1 c3 c4 e
theorem zs_end {lo : Addr} {Q : Option Value → Shared → Prop} (S : ZipSep2 z TI TO i1 i2 fp1 fp2) (D1 : Draws prog w A.in1 i1 fp1 n1 P1 St1) (D2 : Draws prog w A.in1 i2 fp2 n1 P2 St2) (st : ZS z TI TO i1 i2 St1 St2 lo n1 s.heap)
    (hQ : ∀ h' tk, (∀ c o, c ≠ z → c ≠ TO → c ≠ i1 → c ≠ i2 → s.heap.get? c = some o → h'.get? c = some o) → Q none { s with heap := h', toks := tk }) : wpAny (model prog w) A (pyNext (.ref z)) Q E s := by
  obtain ⟨hTI, st1, st2, ⟨hz, a, b, hTO⟩ | ⟨T, f, oT, hz, hT, hTlo⟩⟩ := st
  · exact wpAny_pyNext_zipD2_end S D1 D2 hz hTI hTO st1 st2 (Nat.le_refl _) (Nat.le_refl _) (.inl rfl) hQ
  · exact zipH_pyNext_end S D1 hz hT hTI st1 fun h' hk => hQ h' s.toks fun c o c1 _ c3 _ e => hk c o c1 c3 e
theorem ZS.frame {lo L : Addr} {h h' : Heap} (D1 : Draws prog w A.in1 i1 fp1 n1 P1 St1) (D2 : Draws prog w A.in1 i2 fp2 n2 P2 St2) (st : ZS z TI TO i1 i2 St1 St2 lo i h) (k : ∀ b o, b ≠ L → h.get? b = some o → h'.get? b = some o)
    (l1 : L ∉ fp1) (l2 : L ∉ fp2) (lz : L ≠ z) (lTI : L ≠ TI) (lTO : L ≠ TO) (ll : L < lo) : ZS z TI TO i1 i2 St1 St2 lo i h' := by
  obtain ⟨hTI, st1, st2, hh⟩ := st
  refine ⟨k _ _ (Ne.symm lTI) hTI, D1.frame _ _ _ st1 fun b hb o e => k b o (fun q => l1 (q ▸ hb)) e, D2.frame _ _ _ st2 fun b hb o e => k b o (fun q => l2 (q ▸ hb)) e, ?_⟩
  rcases hh with ⟨hz, a, b, hTO⟩ | ⟨T, f, oT, hz, hT, hTlo⟩
  · exact .inl ⟨k _ _ (Ne.symm lz) hz, a, b, k _ _ (Ne.symm lTO) hTO⟩
  · exact .inr ⟨T, f, oT, k _ _ (Ne.symm lz) hz, k _ _ (Nat.ne_of_gt (Nat.lt_of_lt_of_le ll hTlo)) hT, hTlo⟩
theorem ne_lo {a lo b : Addr} (h1 : a < lo) (h2 : lo ≤ b) : b ≠ a := Nat.ne_of_gt (Nat.lt_of_lt_of_le h1 h2)
/-- the tuples that were given out -/
structure LzG (P1 P2 : Nat → Value → Prop) (lo : Addr) (h : Heap) (as : List Addr) : Prop where
  rise : as.Pairwise (· < ·)
  above : ∀ a ∈ as, lo ≤ a
  pairs : ∀ (j : Nat) (a : Addr), as[j]? = some a → ∃ x y, P1 j x ∧ P2 j y ∧ h.get? a = some { cls := .type "tuple", data := .seq #[x, y] }
theorem LzG.there {lo : Addr} {h : Heap} {as : List Addr} (g : LzG P1 P2 lo h as) {a : Addr} (ha : a ∈ as) : a < h.objs.size := by
  obtain ⟨j, hj⟩ := List.mem_iff_getElem?.mp ha
  obtain ⟨_, _, _, _, e⟩ := g.pairs j a hj
  exact Heap.lt_size e
theorem LzG.keep {lo : Addr} {h h' : Heap} {as : List Addr} (g : LzG P1 P2 lo h as) (k : ∀ b o, lo ≤ b → h.get? b = some o → h'.get? b = some o) : LzG P1 P2 lo h' as :=
  ⟨g.rise, g.above, fun j a hj => let ⟨x, y, p1, p2, e⟩ := g.pairs j a hj; ⟨x, y, p1, p2, k a _ (g.above a (List.mem_of_getElem? hj)) e⟩⟩
end
section
variable {prog : Program} {w : World} {A : Around} {s : Shared} {R : Result → Shared → Prop} {z TI TO i1 i2 : Addr} {fp1 fp2 : List Addr} {n : Nat} {P1 P2 : Nat → Value → Prop} {St1 St2 : Nat → Heap → Prop}
theorem lz_loop {L lo : Addr} (S : ZipSep2 z TI TO i1 i2 fp1 fp2) (D1 : Draws prog w A.in1.in1 i1 fp1 n P1 St1) (D2 : Draws prog w A.in1.in1 i2 fp2 n P2 St2) (l1 : L ∉ fp1) (l2 : L ∉ fp2) (lz : L ≠ z) (lTI : L ≠ TI) (lTO : L ≠ TO) (li1 : L ≠ i1) (li2 : L ≠ i2)
    (ll : L < lo) (hz0 : z < lo) (hTO0 : TO < lo) (h10 : i1 < lo) (h20 : i2 < lo) (hn : n ≤ sizeLine) (res : Value) {h₁ : Heap}
    (hR : ∀ h' tk acc c as, (∀ b o, b ≠ L → b ≠ z → b ≠ TO → b ≠ i1 → b ≠ i2 → h₁.get? b = some o → h'.get? b = some o) → h'.get? L = some { cls := .type "list", dict := none, data := .seq acc c, slots := #[] } → as.length = n → LzG P1 P2 lo h' as →
      acc.toList = as.map Value.ref → R (.ok (.ret res)) { s with heap := h', toks := tk }) :
    ∀ (k i : Nat) (h : Heap) (tk c : Nat) (acc : Array Value) (as : List Addr), n - i = k → i ≤ n → ZS z TI TO i1 i2 St1 St2 lo i h → (∀ b o, b ≠ L → b ≠ z → b ≠ TO → b ≠ i1 → b ≠ i2 → h₁.get? b = some o → h.get? b = some o) →
      h.get? L = some { cls := .type "list", dict := none, data := .seq acc c, slots := #[] } → acc.toList = as.map Value.ref → as.length = i → LzG P1 P2 lo h as → lo ≤ h.objs.size →
      codeAny (model prog w) A (.builtin "list.extend.loop" ⟨[.ref L, .ref z, res], []⟩) R { s with heap := h, toks := tk } := by
  intro k
  induction k with
  | zero =>
    intro i h tk c acc as hk hi hst hkeep hL hacc hal hG hlo
    have hin : i = n := by omega
    subst hin
    refine codeAny_builtin PySem.F.entry_extend_loop ?_
    rw [Around.under_plainId PySem.F.plain_extend_loop _]
    show wpAny _ A.in1 (pyNext (.ref z) >>= _) _ _ _
    refine wpAny_bind (zs_end (s := { s with heap := h, toks := tk }) (A := A.in1) S D1 D2 hst fun h' tk' hk' => ?_)
    refine wpAny_pure (hR h' tk' acc c as (fun b o b1 b2 b3 b4 b5 e => hk' b o b2 b3 b4 b5 (hkeep b o b1 b2 b3 b4 b5 e)) (hk' L _ lz lTO li1 li2 hL) hal (hG.keep fun b o hb e => hk' b o (ne_lo hz0 hb) (ne_lo hTO0 hb) (ne_lo h10 hb) (ne_lo h20 hb) e) hacc)
  | succ k ih =>
    intro i h tk c acc as hk hi hst hkeep hL hacc hal hG hlo
    have hlt : i < n := by omega
    have hsz : acc.size = i := by rw [← Array.length_toList, hacc, List.length_map, hal]
    refine codeAny_builtin PySem.F.entry_extend_loop ?_
    rw [Around.under_plainId PySem.F.plain_extend_loop _]
    show wpAny _ A.in1 (pyNext (.ref z) >>= _) _ _ _
    refine wpAny_bind (zs_item (s := { s with heap := h, toks := tk }) (A := A.in1) S D1 D2 hst hlo hz0 h10 h20 hlt hlt fun x1 x2 h' tk' hp1 hp2 hst' ht hz hkp => ?_)
    dsimp only at ht hz hkp ⊢
    have hL' := hkp L _ lz lTO li1 li2 hL
    have up : ∀ b o, b ≠ L → h'.get? b = some o → (h'.update L (Obj.mapSeq (·.push (Value.ref h.objs.size)))).get? b = some o := fun b o hb e => (Heap.get?_update_other _ _ (Ne.symm hb)).trans e
    have hLl : L < h.objs.size := Heap.lt_size hL
    show wpAny _ A.in1 (updateSeq L (·.push (Value.ref h.objs.size)) >>= _) _ _ _
    refine wpAny_bind ?_
    refine wpAny_updateSeq hL' rfl (wpAny_pure ⟨plainId_quiet PySem.F.plain_extend_loop _, ih (i + 1) _ tk' _ (acc.push (Value.ref h.objs.size)) (as ++ [h.objs.size]) (by omega) hlt (hst'.frame (A := A.in1) D1 D2 up l1 l2 lz lTI lTO ll)
      (fun b o b1 b2 b3 b4 b5 e => up b o b1 (hkp b o b2 b3 b4 b5 (hkeep b o b1 b2 b3 b4 b5 e))) (Heap.get?_update_self _ hL' rfl) (by rw [Array.toList_push, hacc, List.map_append]; rfl) (by rw [List.length_append, hal]; rfl) ⟨?_, ?_, ?_⟩ ?_⟩) (by rw [hsz]; omega) (by show (acc.push (Value.ref h.objs.size)).size ≤ sizeLine + 1; rw [Array.size_push, hsz]; omega)
    · refine List.pairwise_append.mpr ⟨hG.rise, List.pairwise_singleton _ _, fun a ha b hb => ?_⟩
      rw [List.mem_singleton.mp hb]
      exact hG.there ha
    · intro a ha
      rcases List.mem_append.mp ha with ha | ha
      · exact hG.above a ha
      · rw [List.mem_singleton.mp ha]; exact hlo
    · intro j b hj
      rcases Nat.lt_trichotomy j as.length with h1 | h1 | h1
      · rw [List.getElem?_append_left h1] at hj
        obtain ⟨x, y, q1, q2, e3⟩ := hG.pairs j b hj
        have hb := hG.above b (List.mem_of_getElem? hj)
        exact ⟨x, y, q1, q2, up b _ (ne_lo ll hb) (hkp b _ (ne_lo hz0 hb) (ne_lo hTO0 hb) (ne_lo h10 hb) (ne_lo h20 hb) e3)⟩
      · subst h1
        have hb : h.objs.size = b := by simpa using hj
        subst hb
        exact ⟨x1, x2, by rw [hal]; exact hp1, by rw [hal]; exact hp2, up _ _ (Nat.ne_of_gt hLl) ht⟩
      · have hnone : (as ++ [h.objs.size])[j]? = none := List.getElem?_eq_none (by rw [List.length_append, List.length_singleton]; omega)
        rw [hnone] at hj; cases hj
    · have e : (h'.update L (Obj.mapSeq (·.push (Value.ref h.objs.size)))).get? h.objs.size = _ := up _ _ (Nat.ne_of_gt hLl) ht
      exact Nat.le_of_lt (Nat.lt_of_le_of_lt hlo (Heap.lt_size e))
theorem nolen_zip : typeLookup (.type "zip") "__len__" = pure none := by rw [typeLookup_type, builtinLookup_eq_fast]; kernel_rfl
theorem nohint_zip : typeLookup (.type "zip") "__length_hint__" = pure none := by rw [typeLookup_type, builtinLookup_eq_fast]; kernel_rfl
theorem lz_extend {L lo : Addr} {tyz : s.TypeIs (.ref z) "zip"} (S : ZipSep2 z TI TO i1 i2 fp1 fp2) (D1 : Draws prog w A.in1.in1 i1 fp1 n P1 St1) (D2 : Draws prog w A.in1.in1 i2 fp2 n P2 St2) (l1 : L ∉ fp1) (l2 : L ∉ fp2) (lz : L ≠ z) (lTI : L ≠ TI) (lTO : L ≠ TO) (li1 : L ≠ i1) (li2 : L ≠ i2)
    (ll : L < lo) (hz0 : z < lo) (hTO0 : TO < lo) (h10 : i1 < lo) (h20 : i2 < lo) (hn : n ≤ sizeLine) (res : Value) (c₀ : Nat) (hlo : lo = s.heap.objs.size) (hz : IsZip s.heap z TI TO .none) (st : ZS z TI TO i1 i2 St1 St2 lo 0 s.heap) (hL : s.heap.get? L = some { cls := .type "list", data := .seq #[] c₀ })
    (hR : ∀ h' tk acc c as, (∀ b o, b ≠ L → b ≠ z → b ≠ TO → b ≠ i1 → b ≠ i2 → s.heap.get? b = some o → h'.get? b = some o) → h'.get? L = some { cls := .type "list", dict := none, data := .seq acc c, slots := #[] } → as.length = n → LzG P1 P2 lo h' as →
      acc.toList = as.map Value.ref → R (.ok (.ret res)) { s with heap := h', toks := tk }) :
    wpAny (model prog w) A.in1 (Builtin.List.listExtendWith (.ref L) (.ref z) res)
      (fun fin s' => match fin with | .done f => R (.ok f) s' | .again c' => c'.quiet = true ∧ codeAny (model prog w) A c' R s') (fun e s' => R (.error e) s') s := by
  unfold Builtin.List.listExtendWith
  refine wpAny_bind (wpAny_typeOf tyz ?_)
  have h1 : Builtin.List.listSameRef (.ref L) (.ref z) = false := by simp [Builtin.List.listSameRef, lz]
  have h2 : (Value.type "zip" == Value.type "list") = false := by decide
  have h3 : (Value.type "zip" == Value.type "tuple") = false := by decide
  simp only [h1, h2, h3, Bool.or_false, Bool.false_eq_true, if_false]
  refine wpAny_bind (wpAny_pyIter_zip hz ?_)
  refine wpAny_bind (wpAny_holding ?_)
  unfold Builtin.List.listLengthHint
  refine wpAny_bind (wpAny_specialOf tyz nolen_zip ?_)
  show wpAny _ A.in1 (specialOf (Value.ref z) (Str.ofString "__length_hint__") >>= _) _ _ _
  refine wpAny_bind (wpAny_specialOf tyz nohint_zip ?_)
  refine wpAny_pure ?_
  show wpAny _ A.in1 (PySem.rule "list.extend.makes-room" >>= fun _ => Builtin.List.listTouch (.ref L) >>= fun _ =>
    again (.builtin "list.extend.loop" ⟨[.ref L, .ref z, res], []⟩)) _ _ _
  refine wpAny_bind (wpAny_rule ?_)
  refine wpAny_bind ?_
  show wpAny _ A.in1 (updateSeq L (·.push .none) >>= fun _ => updateSeq L (·.pop)) _ _ _
  refine wpAny_bind (wpAny_updateSeq hL rfl ?_)
  have hS₂ := Heap.get?_update_self (Obj.mapSeq (·.push Value.none)) hL rfl
  refine wpAny_updateSeq (hz := by seq_fits) hS₂ rfl ?_
  have hS₃ := Heap.get?_update_self (Obj.mapSeq (·.pop)) hS₂ rfl
  have oth : ∀ b o, b ≠ L → s.heap.get? b = some o → ((s.heap.update L (Obj.mapSeq (·.push Value.none))).update L (Obj.mapSeq (·.pop))).get? b = some o :=
    fun b o hb e => (Heap.get?_update_other _ _ (Ne.symm hb)).trans ((Heap.get?_update_other _ _ (Ne.symm hb)).trans e)
  refine wpAny_pure ⟨plainId_quiet PySem.F.plain_extend_loop _, ?_⟩
  refine lz_loop (lo := lo) (s := s) (h₁ := s.heap) (A := A) S D1 D2 l1 l2 lz lTI lTO li1 li2 ll hz0 hTO0 h10 h20 hn res hR n 0 _ _ _ #[] [] (Nat.sub_zero _) (Nat.zero_le _) (st.frame (A := A.in1) D1 D2 oth l1 l2 lz lTI lTO ll) (fun b o b1 _ _ _ _ e => oth b o b1 e) hS₃ rfl rfl
    ⟨List.Pairwise.nil, (fun _ ha => nomatch ha), (fun j a hj => by simp at hj)⟩ ?_
  rw [hlo]
  refine Nat.le_of_eq ?_
  exact (Eq.trans (Heap.size_update ..) (Heap.size_update ..)).symm
theorem lz_init {L lo : Addr} {tyz : s.TypeIs (.ref z) "zip"} (S : ZipSep2 z TI TO i1 i2 fp1 fp2) (D1 : Draws prog w A.in1.in1 i1 fp1 n P1 St1) (D2 : Draws prog w A.in1.in1 i2 fp2 n P2 St2) (l1 : L ∉ fp1) (l2 : L ∉ fp2) (lz : L ≠ z) (lTI : L ≠ TI) (lTO : L ≠ TO) (li1 : L ≠ i1) (li2 : L ≠ i2)
    (ll : L < lo) (hz0 : z < lo) (hTO0 : TO < lo) (h10 : i1 < lo) (h20 : i2 < lo) (hn : n ≤ sizeLine) (hlo : lo = s.heap.objs.size) (hz : IsZip s.heap z TI TO .none) (st : ZS z TI TO i1 i2 St1 St2 lo 0 s.heap) (hL : s.heap.get? L = some { cls := .type "list", data := .seq #[] })
    (hR : ∀ h' tk acc c as, (∀ b o, b ≠ L → b ≠ z → b ≠ TO → b ≠ i1 → b ≠ i2 → s.heap.get? b = some o → h'.get? b = some o) → h'.get? L = some { cls := .type "list", dict := none, data := .seq acc c, slots := #[] } → as.length = n → LzG P1 P2 lo h' as →
      acc.toList = as.map Value.ref → R (.ok (.ret .none)) { s with heap := h', toks := tk }) :
    wpAny (model prog w) A.in1 (Builtin.«list.__init__» ⟨[.ref L, .ref z], []⟩)
      (fun fin s' => match fin with | .done f => R (.ok f) s' | .again c' => c'.quiet = true ∧ codeAny (model prog w) A c' R s') (fun e s' => R (.error e) s') s := by
  show wpAny _ A.in1 (do let old ← Builtin.List.listItems (.ref L); Builtin.List.listUpdate (.ref L) (fun _ => #[]); letGo old.toList.reverse; Builtin.List.listExtendWith (.ref L) (.ref z) .none) _ _ s
  refine wpAny_bind ?_
  unfold Builtin.List.listItems
  refine wpAny_bind (wpAny_seqItems hL rfl (wpAny_pure ?_))
  show wpAny _ A.in1 (updateSeq L (fun _ => #[]) >>= fun _ => letGo (#[] : Array Value).toList.reverse >>= fun _ => Builtin.List.listExtendWith (.ref L) (.ref z) .none) _ _ s
  refine wpAny_bind (wpAny_updateSeq hL rfl ?_)
  have hS₂ := Heap.get?_update_self (Obj.mapSeq (fun _ => (#[] : Array Value))) hL rfl
  have oth : ∀ b o, b ≠ L → s.heap.get? b = some o → (s.heap.update L (Obj.mapSeq (fun _ => (#[] : Array Value)))).get? b = some o :=
    fun b o hb e => (Heap.get?_update_other _ _ (Ne.symm hb)).trans e
  refine wpAny_bind (wpAny_letGo ?_)
  refine lz_extend (lo := lo) (tyz := ⟨_, oth _ _ (Ne.symm lz) hz, rfl⟩) S D1 D2 l1 l2 lz lTI lTO li1 li2 ll hz0 hTO0 h10 h20 hn .none _ (hlo.trans (Heap.size_update ..).symm) (oth _ _ (Ne.symm lz) hz) (st.frame (A := A.in1) D1 D2 oth l1 l2 lz lTI lTO ll) hS₂ fun h' tk acc c as hk hS' hl hG hacc => ?_
  exact hR h' tk acc c as (fun b o b1 b2 b3 b4 b5 e => hk b o b1 b2 b3 b4 b5 (oth b o b1 e)) hS' hl hG hacc
end
section
variable {prog : Program} {w : World} {A : Around} {E : Value → Shared → Prop} {s : Shared} {z TI TO i1 i2 : Addr} {fp1 fp2 : List Addr} {n : Nat} {P1 P2 : Nat → Value → Prop} {St1 St2 : Nat → Heap → Prop}
theorem lz_call {Q : Value → Shared → Prop} (S : ZipSep2 z TI TO i1 i2 fp1 fp2) (D1 : Draws prog w A.in1.in1.in1 i1 fp1 n P1 St1) (D2 : Draws prog w A.in1.in1.in1 i2 fp2 n P2 St2) (f1 : ∀ b ∈ fp1, b < s.heap.objs.size) (f2 : ∀ b ∈ fp2, b < s.heap.objs.size)
    (hz0 : z < s.heap.objs.size) (hTI0 : TI < s.heap.objs.size) (hTO0 : TO < s.heap.objs.size) (hn : n ≤ sizeLine) (hz : IsZip s.heap z TI TO .none) (hTI : IsTupOf2 s.heap TI (.ref i1) (.ref i2)) {a b : Value} (hTO : IsTupOf2 s.heap TO a b) (st1 : St1 0 s.heap) (st2 : St2 0 s.heap)
    (hQ : ∀ h' tk acc c as, (∀ b o, b ≠ z → b ≠ TO → b ≠ i1 → b ≠ i2 → s.heap.get? b = some o → h'.get? b = some o) → h'.get? s.heap.objs.size = some { cls := .type "list", dict := none, data := .seq acc c, slots := #[] } → as.length = n → LzG P1 P2 (s.heap.objs.size + 1) h' as →
      acc.toList = as.map Value.ref → Q (.ref s.heap.objs.size) { s with heap := h', toks := tk }) :
    wpAny (model prog w) A (call (.type "list") [.ref z]) Q E s := by
  refine callType_codes (Q₁ := fun obj s₁ => obj = .ref s.heap.objs.size ∧ s₁ = { s with heap := s.heap.push { cls := .type "list", data := .seq #[] } }) PySem.F.called_list (PySem.F.typeCall_list_1 _) PySem.F.entry_list_init
    (code_list_new _ ⟨rfl, rfl⟩) fun obj s₁ h₁ => ?_
  obtain ⟨rfl, rfl⟩ := h₁
  have hL : (s.heap.push { cls := .type "list", data := .seq #[] }).get? s.heap.objs.size = some { cls := .type "list", data := .seq #[] } := Heap.get?_push_size _ rfl
  have kp : ∀ b o, s.heap.get? b = some o → (s.heap.push { cls := .type "list", data := .seq #[] }).get? b = some o := fun b o e => Heap.get?_push_of_some _ e
  have m1 := f1 _ S.mem1
  have m2 := f2 _ S.mem2
  refine ⟨⟨_, hL, rfl⟩, PySem.F.args_list_init_2 _ _, lz_init (A := A.in1) (lo := s.heap.objs.size + 1) (tyz := ⟨_, kp _ _ hz, rfl⟩) S D1 D2 (fun h => Nat.lt_irrefl _ (f1 _ h)) (fun h => Nat.lt_irrefl _ (f2 _ h)) (Nat.ne_of_gt hz0) (Nat.ne_of_gt hTI0) (Nat.ne_of_gt hTO0) (Nat.ne_of_gt m1) (Nat.ne_of_gt m2)
    (Nat.lt_succ_self _) (Nat.lt_succ_of_lt hz0) (Nat.lt_succ_of_lt hTO0) (Nat.lt_succ_of_lt m1) (Nat.lt_succ_of_lt m2) hn (Heap.size_push ..).symm (kp _ _ hz) ⟨kp _ _ hTI, D1.frame _ _ _ st1 (fun b _ o e => kp b o e), D2.frame _ _ _ st2 (fun b _ o e => kp b o e), .inl ⟨kp _ _ hz, a, b, kp _ _ hTO⟩⟩ hL fun h' tk acc c as hk hS' hl hG hacc => ?_⟩
  exact ⟨rfl, hQ h' tk acc c as (fun b o b2 b3 b4 b5 e => hk b o (Nat.ne_of_lt (Heap.lt_size e)) b2 b3 b4 b5 (kp b o e)) hS' hl hG hacc⟩
end
section
variable {X : Cx}
theorem pairs_laid {pins : List (Addr × Obj)} {σ : L2.St} {H : Hp} {s : Shared} {h' : Heap} {tk : Nat} {L : Addr} {kvs : List (Key × V)} {acc : Array Value} {c : Nat} {as : List Addr} (I : Inv X pins σ H s) (hz : kvs.length ≤ sizeLine)
    (hk : ∀ b o, s.heap.get? b = some o → h'.get? b = some o) (hL : s.heap.objs.size ≤ L) (hS : h'.get? L = some { cls := .type "list", dict := none, data := .seq acc c, slots := #[] }) (hl : as.length = kvs.length) (rise : as.Pairwise (· < ·)) (above : ∀ a ∈ as, L < a)
    (hG : ∀ (j : Nat) (a : Addr) (q : Key × V), as[j]? = some a → kvs[j]? = some q → ∃ x y, RelV (kV q.1) x ∧ RelV q.2 y ∧ h'.get? a = some { cls := .type "tuple", data := .seq #[x, y] }) (hacc : acc.toList = as.map Value.ref) :
    ∃ H' : Hp, Same H H' ∧ H L = none ∧ H' L = some (.lst (as.map V.ref)) ∧ Tps pairV H' as kvs ∧ Inv X pins σ H' { s with heap := h', toks := tk } := by
  have hSn : L ∉ as := fun z => Nat.lt_irrefl _ (above _ z)
  have nd : as.Nodup := List.Pairwise.imp (fun {a b} (h : a < b) => Nat.ne_of_lt h) rise
  have new : ∀ t ∈ as, H t = none := fun t ht => I.hok.fresh (Nat.le_of_lt (Nat.lt_of_le_of_lt hL (above t ht)))
  have newS : H L = none := I.hok.fresh hL
  have atP := LiI.putT_at as kvs (upd H L (.lst (as.map V.ref))) hl nd
  have off : ∀ b, b ∉ as → b ≠ L → LiI.putT (upd H L (.lst (as.map V.ref))) as kvs b = H b := fun b h1 h2 => by rw [LiI.putT_off as kvs _ h1, upd_ne h2]
  have low : ∀ b o, s.heap.get? b = some o → b ∉ as ∧ b ≠ L := fun b o e => ⟨fun z => absurd (Heap.lt_size e) (Nat.not_lt.mpr (Nat.le_of_lt (Nat.lt_of_le_of_lt hL (above b z)))), fun z => absurd (Heap.lt_size e) (Nat.not_lt.mpr (z ▸ hL))⟩
  have kp : ∀ b u, H b = some u → (LiI.putT (upd H L (.lst (as.map V.ref))) as kvs) b = some u := fun b u e => by
    rw [off b (fun z => by rw [new b z] at e; cases e) (fun z => by rw [z, newS] at e; cases e)]
    exact e
  have eS : LiI.putT (upd H L (.lst (as.map V.ref))) as kvs L = some (.lst (as.map V.ref)) := by rw [LiI.putT_off as kvs _ hSn, upd_same]
  refine ⟨LiI.putT (upd H L (.lst (as.map V.ref))) as kvs, kp, newS, eS, ⟨hl, fun k t q h1 h2 => ?_⟩, ?_⟩
  · obtain ⟨q', e1, e2⟩ := LiI.paired_get atP h1
    rw [h2] at e1
    cases e1
    exact e2
  refine I.call' (ch := []) rfl ⟨fun b o q _ _ _ => hk b o q, fun b o q _ _ _ => ⟨o.slots, hk b o q⟩, fun b o q n _ => ?_, fun b o q _ => ⟨o, hk b o q⟩, fun b xs q => kp b _ q, fun b o u q => kp b _ q, fun b ps q => ⟨#[], by rw [kp b _ q]; simp⟩⟩ (fun b u q => ?_) I.bare fun b z => by simp at z
  · obtain ⟨z1, z2⟩ := low b o q
    rw [off b z1 z2]
    exact n
  · by_cases hb : b ∈ as
    · obtain ⟨j, pk, e1, e2, e3⟩ := LiI.paired_ix atP hb
      rw [e3] at q
      cases q
      obtain ⟨x, y, f1, f2, f3⟩ := hG j b pk e1 e2
      exact ⟨by show 2 ≤ sizeLine; decide, [x, y], .cons f1 (.cons f2 .nil), ⟨_, f3, rfl, _, rfl⟩⟩
    · by_cases hb2 : b = L
      · rw [hb2] at q ⊢
        rw [eS] at q
        cases q
        refine ⟨by rw [List.length_map]; omega, acc.toList, c, by rw [hacc]; exact LiI.vals_refs as, ?_⟩
        rw [Array.toArray_toList]
        exact hS
      · rw [off b hb hb2] at q
        exact (I.hok b u q).stay (fun d v _ y => hk d v y) (fun d y => kp d _ y) fun d xs y => kp d _ y
/-- the pairs of a text's signs and a list's items -/
def zkL (cs : List Nat) (ys : List V) : List (Key × V) := (cs.map fun c => (Sum.inr (tx [c]) : Key)).zip ys
def tListZip (K : PySem.W.Frag) (ta : TA) : TE := fun σ H Q => ta σ H fun vs H1 => ∃ (cs : List Nat) (b : Addr) (ys : List V), vs = [.str (tx cs), .ref b] ∧ SqL K H1 b ys ∧ cs.length = ys.length ∧ cs.length ≤ 1000 ∧
  ∀ H' p ts, Same H1 H' → H1 p = none → H' p = some (.lst (ts.map V.ref)) → Tps pairV H' ts (zkL cs ys) → Q (.ref p) H'
theorem pe_listZip {e e2 : Expr} {ta : TA} {p p2 pos pos2 : Pos} (hc : X.calm = true) (hgl : Gl X "list") (hml : X.mg "list" = none) (hgz : Gl X "zip") (hmz : X.mg "zip" = none) (ha : PA X [e, e2] ta)
    (hs : starEach [e, e2] X.env = (false, eval e X.env) :: starEach [e2] X.env := by rfl) (hpl : (backTo pos2 (starEach [e2] X.env)).any (·.1) = false := by rfl) :
    PE X (.Call (.Name "list" p) [.Call (.Name "zip" p2) [e, e2] [] pos2] [] pos) (tListZip X.K ta) := by
  refine ⟨fun pins s σ H Q I h => ?_⟩
  refine Call_ (ld_blt I hgl hml PyProof.Rows.boot_list (PyProof.Rows.callWith_type1 (PyProof.Rows.args_cons ?_ rfl) rfl rfl))
  refine Call_ (ld_blt I hgz hmz PyProof.Rows.boot_zip (PyProof.Rows.callWith_type1 (thn (ha.run pos2 pins s σ H _ I h) fun us s1 ⟨vs, H1, I1, r1, q1⟩ => ?_) hs hpl))
  obtain ⟨cs, b, ys, ex, hqy, hlen, h1000, q⟩ := q1
  subst ex
  cases r1 with
  | cons r rr =>
    cases rr with
    | cons r' rr =>
      cases rr
      obtain ⟨t, rfl⟩ := r
      cases r'
      obtain ⟨its, rv, p1, _⟩ := I1.list hqy
      have lb := p1.lt
      have hh : X.A.handled = none := I1.ok.hd hc
      have li := rv.length
      refine zip_begins2 (begins_text (tx cs) t) (begins_list b its.toArray) trivial p1.isList fun h' hz hTI hTO h1 h2 hsz hk => PyProof.Rows.args_nil ?_
      have S := zip_sep2 (N := s1.heap.objs.size) (fp1 := []) (fp2 := [b]) (fun c hc => by cases hc) (fun c hc => by rw [List.mem_singleton.mp hc]; exact lb)
      have D1 := Draws.text (prog := X.prog) (w := X.w) (A := X.A.in1.in1.in1) hh s1.heap.objs.size (tx cs) t
      have D2 := Draws.list (prog := X.prog) (w := X.w) (A := X.A.in1.in1.in1) hh (s1.heap.objs.size + 1) b (Nat.ne_of_lt (Nat.lt_succ_of_lt lb)) its.toArray
      have en1 : (tx cs).cps.size = cs.length := tx_size cs
      have en2 : its.toArray.size = cs.length := by rw [List.size_toArray, ← li, hlen]
      rw [en1] at D1
      rw [en2] at D2
      refine lz_call (s := { s1 with heap := h' }) S D1 D2 (fun c hc => ?_) (fun c hc => ?_) ?_ ?_ ?_ (Nat.le_of_lt (small1000 h1000)) hz hTI hTO ⟨_, h1, rfl, rfl⟩ ⟨⟨_, h2, rfl, rfl⟩, p1.isList.at fun o e => hk _ _ e⟩ fun h'' tk acc c as hk2 hL hal hG hacc => ?_
      · rw [List.mem_singleton.mp hc]
        show s1.heap.objs.size < h'.objs.size
        rw [hsz]
        omega
      · show c < h'.objs.size
        rw [hsz]
        rcases List.mem_cons.mp hc with e | hc
        · rw [e]; exact Nat.add_lt_add_left (by decide : 1 < 5) _
        · rw [List.mem_singleton.mp hc]; exact Nat.lt_of_lt_of_le lb (Nat.le_add_right _ _)
      · show s1.heap.objs.size + 4 < h'.objs.size
        rw [hsz]
        omega
      · show s1.heap.objs.size + 2 < h'.objs.size
        rw [hsz]
        omega
      · show s1.heap.objs.size + 3 < h'.objs.size
        rw [hsz]
        omega
      · have kall : ∀ b o, s1.heap.get? b = some o → h''.get? b = some o := fun b o e => by
          have hb := Heap.lt_size e
          exact hk2 b o (Nat.ne_of_lt (Nat.lt_of_lt_of_le hb (Nat.le_add_right _ _))) (Nat.ne_of_lt (Nat.lt_of_lt_of_le hb (Nat.le_add_right _ _))) (Nat.ne_of_lt hb) (Nat.ne_of_lt (Nat.lt_of_lt_of_le hb (Nat.le_add_right _ _))) (hk b o e)
        have lz : (zkL cs ys).length = cs.length := by
          unfold zkL
          rw [List.length_zip, List.length_map]
          omega
        obtain ⟨H', k1, k2, k3, k4, J⟩ := pairs_laid (tk := tk) (L := h'.objs.size) (kvs := zkL cs ys) I1 (by rw [lz]; exact Nat.le_of_lt (small1000 h1000)) kall (by rw [hsz]; exact Nat.le_add_right _ _) hL (by rw [hal, lz]) hG.rise (fun a ha => hG.above a ha) (fun j a kq e1 e2 => by
          obtain ⟨x, y, ⟨c0, u, hc0, rfl⟩, hy, e3⟩ := hG.pairs j a e1
          have hc1 := tx_get hc0
          unfold zkL at e2
          obtain ⟨g1, g2⟩ := List.getElem?_zip_eq_some.mp e2
          rw [List.getElem?_map, hc1] at g1
          have g1' := Option.some.inj g1
          rw [List.getElem?_toArray] at hy
          obtain ⟨y', ey, ry⟩ := rv.get g2
          rw [hy] at ey
          cases ey
          refine ⟨_, _, ?_, ry, e3⟩
          rw [← g1']
          exact ⟨u, rfl⟩) hacc
        exact ⟨.ref _, H', J, rfl, q H' _ as k1 k2 k3 k4⟩
end
end K54
namespace K54
open PySem PySem.Spec PyProof.Rows L2
/-! ### what the law does to rows -/
theorem pm_perm {rs : List (List Nat)} {s : List Nat} (hs : s.Perm (List.range rs.length)) : (pm [] s rs).Perm rs := by
  have e : (List.range rs.length).map (fun k => rs.getD k []) = rs := by
    refine List.ext_getElem (by rw [List.length_map, List.length_range]) fun i h1 h2 => ?_
    rw [List.getElem_map, List.getElem_range, List.getD_eq_getElem?_getD, List.getElem?_eq_getElem h2]
    rfl
  have := hs.map (fun k => rs.getD k [])
  rw [e] at this
  exact this
theorem tot_perm {rs rs' : List (List Nat)} (h : rs.Perm rs') : tot rs = tot rs' := by
  unfold tot
  exact (h.map List.length).sum_nat
theorem rowsOk_perm {rs : List (List Nat)} {s : List Nat} (h : RowsOk rs) (hs : s.Perm (List.range rs.length)) : RowsOk (pm [] s rs) := by
  have p := pm_perm hs
  exact ⟨fun r hr => h.ok r (p.mem_iff.mp hr), by rw [tot_perm p]; exact h.tot, by rw [p.length_eq]; exact h.pos, by rw [p.length_eq]; exact h.len⟩
theorem tot_map (f : Nat → Nat) : ∀ rs : List (List Nat), tot (rs.map (List.map f)) = tot rs
  | [] => rfl
  | r :: rs => by
    have := tot_map f rs
    unfold tot at this ⊢
    rw [List.map_cons, List.map_cons, List.sum_cons, this, List.map_cons, List.sum_cons, List.length_map]
theorem rowsOk_map {rs : List (List Nat)} {f : Nat → Nat} (h : RowsOk rs) (hf : ∀ c, isStp c = true → isStp (f c) = true) : RowsOk (rs.map (List.map f)) := by
  refine ⟨fun r hr c hc => ?_, by rw [tot_map]; exact h.tot, by rw [List.length_map]; exact h.pos, by rw [List.length_map]; exact h.len⟩
  obtain ⟨r', hr', rfl⟩ := List.mem_map.mp hr
  obtain ⟨d, hd, rfl⟩ := List.mem_map.mp hc
  exact hf d (h.ok r' hr' d hd)
theorem rowsOk_tail {rs : List (List Nat)} (h : RowsOk rs) (h2 : 1 < rs.length) : RowsOk rs.tail := by
  cases rs with
  | nil => simp at h2
  | cons r rs =>
    refine ⟨fun q hq => h.ok q (List.mem_cons_of_mem _ hq), ?_, ?_, ?_⟩
    · have := h.tot
      have e : tot (r :: rs) = r.length + tot rs := by unfold tot; rw [List.map_cons, List.sum_cons]
      show tot rs ≤ 8
      omega
    · rw [List.length_cons] at h2
      show 1 ≤ rs.length
      omega
    · have := h.len
      rw [List.length_cons] at this
      show rs.length ≤ 4
      omega
theorem rowsOk_dup {rs : List (List Nat)} (h : RowsOk rs) (h3 : rs.length ≤ 3) (ht : tot rs + (rs.headD []).length < 9) : RowsOk (rs ++ [rs.headD []]) := by
  refine ⟨fun q hq => ?_, by rw [tot_snoc]; omega, by rw [List.length_append, List.length_singleton]; omega, by rw [List.length_append, List.length_singleton]; omega⟩
  rcases List.mem_append.mp hq with hq | hq
  · exact h.ok q hq
  · rw [List.mem_singleton] at hq
    rw [hq]
    cases rs with
    | nil => exact fun c hc => by cases hc
    | cons r rs => exact h.ok r (List.mem_cons_self ..)
/-! ### other names for the lines -/
def renF (zs : List Nat) (c : Nat) : Nat := if 97 ≤ c then zs.getD (c - 97) 0 else ctr (zs.getD (c - 65) 0)
def renG (zs : List Nat) (x : Nat) : Nat := if x = zs.getD 0 0 then 97 else if x = zs.getD 1 0 then 98 else if x = zs.getD 2 0 then 99 else 100
theorem ren_all {zs : List Nat} (h : zs.Perm [97, 98, 99, 100]) : ∀ c, isStp c = true → isF (renF zs c) = isF c ∧ renG zs (lo (renF zs c)) = lo c ∧ lo (renF zs c) = renF zs (lo c) ∧ isStp (renF zs c) = true := by
  have l4 : zs.length = 4 := h.length_eq
  have nd : zs.Nodup := h.nodup_iff.mpr (by decide)
  have mem : ∀ x ∈ zs, x ∈ [97, 98, 99, 100] := fun x hx => h.mem_iff.mp hx
  match zs, l4 with
  | [a, b, c, d], _ =>
    have key : ∀ x ∈ [97, 98, 99, 100], isF x = true ∧ lo x = x ∧ isStp x = true ∧ isF (ctr x) = false ∧ lo (ctr x) = x ∧ isStp (ctr x) = true := by decide
    have ka := key a (mem a (by simp))
    have kb := key b (mem b (by simp))
    have kc := key c (mem c (by simp))
    have kd := key d (mem d (by simp))
    simp only [List.nodup_cons, List.mem_cons, List.not_mem_nil, or_false, not_or, not_false_eq_true, and_true, List.nodup_nil] at nd
    obtain ⟨⟨n1, n2, n3⟩, ⟨n4, n5⟩, n6⟩ := nd
    have g1 : renG [a, b, c, d] a = 97 := if_pos rfl
    have g2 : renG [a, b, c, d] b = 98 := by
      show (if b = a then 97 else if b = b then 98 else if b = c then 99 else 100) = 98
      rw [if_neg (show ¬ b = a from fun e => n1 e.symm), if_pos (show b = b from rfl)]
    have g3 : renG [a, b, c, d] c = 99 := by
      show (if c = a then 97 else if c = b then 98 else if c = c then 99 else 100) = 99
      rw [if_neg (show ¬ c = a from fun e => n2 e.symm), if_neg (show ¬ c = b from fun e => n4 e.symm), if_pos (show c = c from rfl)]
    have g4 : renG [a, b, c, d] d = 100 := by
      show (if d = a then 97 else if d = b then 98 else if d = c then 99 else 100) = 100
      rw [if_neg (show ¬ d = a from fun e => n3 e.symm), if_neg (show ¬ d = b from fun e => n5 e.symm), if_neg (show ¬ d = c from fun e => n6 e.symm)]
    intro x hx
    have hx := stp_cases hx
    simp only [List.mem_cons, List.not_mem_nil, or_false] at hx
    rcases hx with rfl | rfl | rfl | rfl | rfl | rfl | rfl | rfl
    · exact ⟨ka.2.2.2.1, by show renG [a, b, c, d] (lo (ctr a)) = 97; rw [ka.2.2.2.2.1, g1], ka.2.2.2.2.1, ka.2.2.2.2.2⟩
    · exact ⟨kb.2.2.2.1, by show renG [a, b, c, d] (lo (ctr b)) = 98; rw [kb.2.2.2.2.1, g2], kb.2.2.2.2.1, kb.2.2.2.2.2⟩
    · exact ⟨kc.2.2.2.1, by show renG [a, b, c, d] (lo (ctr c)) = 99; rw [kc.2.2.2.2.1, g3], kc.2.2.2.2.1, kc.2.2.2.2.2⟩
    · exact ⟨kd.2.2.2.1, by show renG [a, b, c, d] (lo (ctr d)) = 100; rw [kd.2.2.2.2.1, g4], kd.2.2.2.2.1, kd.2.2.2.2.2⟩
    · exact ⟨ka.1, by show renG [a, b, c, d] (lo a) = 97; rw [ka.2.1, g1], ka.2.1, ka.2.2.1⟩
    · exact ⟨kb.1, by show renG [a, b, c, d] (lo b) = 98; rw [kb.2.1, g2], kb.2.1, kb.2.2.1⟩
    · exact ⟨kc.1, by show renG [a, b, c, d] (lo c) = 99; rw [kc.2.1, g3], kc.2.1, kc.2.2.1⟩
    · exact ⟨kd.1, by show renG [a, b, c, d] (lo d) = 100; rw [kd.2.1, g4], kd.2.1, kd.2.2.1⟩
theorem ren_get {zs : List Nat} (h : zs.Perm [97, 98, 99, 100]) : ∀ c, isStp c = true → valV (mergeK [] (zkL [97, 98, 99, 100] (zs.map cV) ++ zkL [65, 66, 67, 68] ((zs.map ctr).map cV))) (Sum.inr (tx [c])) = some (cV (renF zs c)) := by
  have l4 : zs.length = 4 := h.length_eq
  match zs, l4 with
  | [a, b, c, d], _ =>
    intro x hx
    have hx := stp_cases hx
    simp only [List.mem_cons, List.not_mem_nil, or_false] at hx
    rcases hx with rfl | rfl | rfl | rfl | rfl | rfl | rfl | rfl <;> rfl
theorem orders_ren2 {rs : List (List Nat)} {zs : List Nat} (h : RowsOk rs) (hz : zs.Perm [97, 98, 99, 100]) : ordersL (rs.map (List.map (renF zs))) = ordersL rs :=
  orders_ren (f := renF zs) (g := renG zs) h.ok (fun c hc => (ren_all hz c hc).1) (fun c hc => (ren_all hz c hc).2.1) (fun c hc => (ren_all hz c hc).2.2.1)
/-! ### a comprehension over the orders -/
theorem lc_tups {K : PySem.W.Frag} {ea : Addr} {ts : List Addr} {os : List (List Int)} {g : TG} {te : TE} {vs : List Nat} {σ : L2.St} {H : Hp} {D : Addr} {Qd : Hp → Prop} (ha : H ea = some (.lst (ts.map V.ref))) (hts : Tps iV H ts os) (hl : os.length ≤ 300) (hD : H D = none) (Φ : List Int → List Int)
    (hs : ∀ (i : Nat) (t : Addr) (o : List Int) (H1 : Hp) (Qc : VK), os[i]? = some o → Same H H1 → H1 t = some (.tup (iV o)) → (∀ u H4, Same H1 H4 → H4 u = some (.tup (iV (Φ o))) → Qc (.ref u) H4) → g (.ref t) (wipe σ vs) H1 fun σ2 H2 => wipe σ2 vs = wipe σ vs ∧ tYes σ2 H2 fun b H3 => if b = true then te σ2 H3 Qc else False)
    (hd : ∀ H' us, Same H H' → H' D = some (.lst (us.map V.ref)) → Tps iV H' us (os.map Φ) → Qd H')
    (hg : ∀ v σ H (R R' : L2.St → Hp → Prop), (∀ σ2 H2, R σ2 H2 → R' σ2 H2) → g v σ H R → g v σ H R') :
    ∃ W : Nat → Nat → Hp → Prop, (∃ m, W 0 m (upd H D (.lst []))) ∧ ∀ i m H, W i m H →
      ((Itl K ea).stop i H ∧ Qd H) ∨ ((Itl K ea).go i H ∧ ∃ Nx : Hp → Prop, (∀ H', Nx H' → ∃ m', m' < m ∧ W (i + 1) m' H') ∧ ∀ x H', (Itl K ea).yld i H x H' → g x (wipe σ vs) H' fun σ2 H2 => wipe σ2 vs = wipe σ vs ∧ tYes σ2 H2 fun b H3 =>
        if b = true then te σ2 H3 fun y H4 => ∃ acc, H4 D = some (.lst acc) ∧ acc.length < sizeLine ∧ Nx (upd H4 D (.lst (acc ++ [y]))) else Nx H3) := by
  refine lc_it (walk_list (xs := ts.map V.ref)) (fun i H' => Same H H' ∧ ∃ us : List Addr, H' D = some (.lst (us.map V.ref)) ∧ Tps iV H' us ((os.take i).map Φ)) ⟨same_new hD, [], upd_same, Tps.nil⟩ (fun i H' _ h => SqL.of (h.1 _ _ ha)) ?_ ?_
  · rintro i x H1' H1 hi ⟨s1, us, hus, hts1⟩ ⟨rfl, hx⟩
    obtain ⟨t, o, rfl, ht1, ho, htup⟩ := (hts.of_same s1).get hx
    refine hg _ _ _ _ _ (fun σ2 H2 h => ?_) (hs i t o H1 (fun y H4 => ∃ acc, H4 D = some (.lst acc) ∧ acc.length < sizeLine ∧ (Same H (upd H4 D (.lst (acc ++ [y]))) ∧ ∃ us : List Addr, (upd H4 D (.lst (acc ++ [y]))) D = some (.lst (us.map V.ref)) ∧ Tps iV (upd H4 D (.lst (acc ++ [y]))) us ((os.take (i + 1)).map Φ))) ho s1 htup fun u H4 s4 hu => ?_)
    · exact h
    · have hus4 := s4 _ _ hus
      refine ⟨_, hus4, by rw [List.length_map, hts1.len, List.length_map, List.length_take]; exact small1000 (by omega), same_upd (s1.trans s4) hD, us ++ [u], by rw [upd_same, List.map_append]; rfl, ?_⟩
      rw [take_snoc ho, List.map_append]
      refine Tps.snoc ((hts1.of_same s4).lst hus4) ?_
      rw [upd_ne (ne_of hu hus4 (by intro z; cases z))]
      exact hu
  · rintro H1 ⟨s1, us, hus, hts1⟩
    have e1 : os.take (ts.map V.ref).length = os := by rw [List.length_map, hts.len, List.take_length]
    rw [e1] at hts1
    exact hd H1 us s1 hus hts1
theorem gName_mono {i : Nat} : ∀ v σ H (R R' : L2.St → Hp → Prop), (∀ σ2 H2, R σ2 H2 → R' σ2 H2) → gName i v σ H R → gName i v σ H R' := fun v σ H R R' h r => h _ _ r
end K54
namespace K54
open PySem PySem.Spec PyProof.Rows L2
theorem Dw.big {N : Nat} {d g : Addr} {B H : Hp} (h : Dw N d g B H) : ∃ B', Same B B' ∧ Dw N d g B' H ∧ (∀ x o, H x = some o → (∀ k, o ≠ .dK k) → (∀ k, o ≠ .lst k) → B' x = some o) ∧
    ∀ H0 M B0, Same H0 H → Dw M d g B0 H0 → ∀ x o, H0 x = none → H x = some o → B' x = some o := by
  obtain ⟨x, l, ls, t, e1, e2, e3, nlg, e4⟩ := h.hd
  obtain ⟨gs, f1, f2⟩ := h.hg
  have at1 : ∀ y o, H y = some o → y ≠ d → y ≠ g → y ≠ l → (fun a => if a = d ∨ a = g ∨ a = l then none else H a) y = some o := fun y o e n1 n2 n3 => by
    show (if y = d ∨ y = g ∨ y = l then none else H y) = some o
    rw [if_neg (fun z => z.elim n1 fun z => z.elim n2 n3)]
    exact e
  refine ⟨fun a => if a = d ∨ a = g ∨ a = l then none else H a, fun c o hc => at1 c o (h.same _ _ hc) (h.nd hc) (h.ng hc) (fun z => by rw [z, e3] at hc; cases hc), ⟨fun c o hc => ?_, if_pos (.inl rfl), if_pos (.inr (.inl rfl)), ⟨x, l, ls, t, e1, e2, if_pos (.inr (.inr rfl)), nlg, e4⟩, gs, f1, f2⟩, fun y o e n1 n2 => at1 y o e (fun z => ?_) (fun z => ?_) (fun z => ?_), fun H0 M B0 s0 D0 y o e0 e => at1 y o e (fun z => ?_) (fun z => ?_) (fun z => ?_)⟩
  · have hc : (if c = d ∨ c = g ∨ c = l then none else H c) = some o := hc
    by_cases q : c = d ∨ c = g ∨ c = l
    · rw [if_pos q] at hc
      cases hc
    · rw [if_neg q] at hc
      exact hc
  · rw [z, e1] at e
    exact n1 _ (Option.some.inj e).symm
  · rw [z, f1] at e
    exact n2 _ (Option.some.inj e).symm
  · rw [z, e2] at e
    exact n2 _ (Option.some.inj e).symm
  · obtain ⟨x0, l0, ls0, t0, g1, _⟩ := D0.hd
    rw [z, g1] at e0
    cases e0
  · obtain ⟨gs0, g1, _⟩ := D0.hg
    rw [z, g1] at e0
    cases e0
  · obtain ⟨x0, l0, ls0, t0, g1, g2, _⟩ := D0.hd
    have g3 := s0 _ _ g1
    rw [e1] at g3
    have g4 : dK x g l t = dK x0 g l0 t0 := by
      injection (Option.some.inj g3)
    have g5 := congrArg (fun k => valV k (Sum.inr ("lumps" : Str))) g4
    have g6 : some (V.ref l) = some (V.ref l0) := by
      rw [← dK_lumps x g l t, ← dK_lumps x0 g l0 t0]
      exact g5
    have g7 : l = l0 := by
      injection g6 with g6
      injection g6
    rw [z, g7, g2] at e0
    cases e0
def unI : V → Nat
  | .int i => i.toNat
  | _ => 0
end K54
namespace K54
open PySem PySem.Spec PyProof.Rows L2
/-! ### the law -/
def rTupOf (K : PySem.W.Frag) : List V → Hp → VK → Prop := fun xs H Q => ∃ p ys, xs = [.ref p] ∧ ((SqL K H p ys ∧ ∀ l, H l = none → Q (.ref l) (upd H l (.tup ys))) ∨ (SqT K H p ys ∧ Q (.ref p) H))
def rJoin (K : PySem.W.Frag) : V → List V → Hp → VK → Prop := fun x xs H Q => ∃ a p, ∃ ys : List Str, x = .str a ∧ xs = [.ref p] ∧ (SqL K H p (ys.map V.str) ∨ SqT K H p (ys.map V.str)) ∧
  (ys.map (·.length)).sum + ys.length * a.length ≤ 16777216 ∧ Q (.str (Txt.join a ys)) H
section
variable {X : Cx}
theorem pe_joinR {o e : Expr} {to te : TE} {apos pos : Pos} (ho : PE X o to) (he : PE X e te) (hs : starEach [e] X.env = [(false, eval e X.env)] := by rfl) (hbase : attributeBase o "join" X.env (eval o X.env) = eval o X.env := by rfl) (hline : (apos.endLine == pos.line) = true := by rfl) :
    PE X (.Call (.Attribute o "join" apos) [e] [] pos) (tM1 (rJoin X.K) to te) := pe_join ho he hs hbase hline
theorem call_tupOf : CallR X (.type "tuple") (rTupOf X.K) := call_tuple_of
end
def scOne : Scope := { kind := .function, names := [(".0", .local), ("_law_one", .cell), ("tuple", .globalImplicit), ("_law_spots", .cell)], isGenerator := false, isCoroutine := false }
def scRow2 : Scope := { kind := .function, names := [(".0", .local), ("_law_row_here", .local), ("_law_fresh", .cell)], isGenerator := false, isCoroutine := false }
def scDen : Scope := { kind := .function, names := [(".0", .local), ("_law_one", .local), ("_law_dense", .globalImplicit)], isGenerator := false, isCoroutine := false }
theorem cut_tail (xs : List V) (h : 1 ≤ xs.length) : cutV xs (some 1) none = xs.tail := by
  have e : HT.sIx xs.length 0 (some 1) = 1 := by
    have := HT.sIx_nat xs.length 0 1
    rw [Nat.min_eq_left h] at this
    exact this
  unfold cutV
  rw [e, HT.sIx_none, List.drop_one, List.take_of_length_le (by rw [List.length_tail]; exact Nat.le_refl _)]
def spLaw (K : PySem.W.Frag) : Sp := fun vs H Q _ => ∃ (a : Addr) (ns : List Int), vs = [.ref a] ∧ SqL K H a (ns.map V.int) ∧ ns.length ≤ 63 ∧ ∀ H', Q (.bl true) H'
section
variable {P : Program} {w : World} {K : PySem.W.Frag} {mg : Str → Option Value} {base : Heap} {C f : Addr} {fd : FuncData}
abbrev NLaw : List Str := ["_law_script", "_law_draw", "_law_letters", "_law_rows", "_law_every", "_law_spots", "_law_names", "_law_fresh", "_law_swapped_here", "_law_turn", "_law_lines_here", "_law_begin_here", "_law_one", "_law_k", "_law_name", "_law_row_here", "_law_step", "_law_place_here"]
theorem scLaw : FnScope NLaw ["_law_script"] (defScope s_law) := ⟨rfl, rfl, rfl, by decide +kernel, rfl, by decide +kernel, by decide +kernel⟩
/-- what the law calls -/
structure LawD (P : Program) (w : World) (K : PySem.W.Frag) (mg : Str → Option Value) (base : Heap) : Prop where
  begun : Df P w K mg base "_law_begun" 1 ["_law_script"] (spBegun K)
  pick : Df P w K mg base "_law_pick" 2 ["_law_draw", "_law_some_here"] spPick
  shuffled : Df P w K mg base "_law_shuffled" 2 ["_law_draw", "_law_some_here"] spShuffled
  swapped : Df P w K mg base "_law_swapped" 2 ["_law_text"] spSwapped
  some : Df P w K mg base "_law_some" 3 ["_law_draw", "_law_many"] spSome
  part : Df P w K mg base "_law_part" 4 ["_law_draw", "_law_letters", "_law_steps", "_law_most"] spPart
  orders : Df P w K mg base "orders" 9 ["rows"] spOrders
  same : Df P w K mg base "_law_same" 10 ["_law_found", "_law_rows"] spSame
  denseL : Df P w K mg base "_law_dense" 1 ["_law_order"] spDenseL
  denseT : Df P w K mg base "_law_dense" 1 ["_law_order"] spDenseT
  made : Df P w K mg base "_law_made" 3 ["_law_draw", "_law_rows"] spMade
  lines : Df P w K mg base "_law_lines" 3 ["_law_draw", "_law_letters", "_law_many", "_law_wide"] spLines
  moment : Df P w K mg base "_law_moment" 3 ["_law_draw", "_law_wide"] spMoment
  ends : Df P w K mg base "_law_ends" 3 ["_law_lines_here", "_law_rows", "_law_moment_here"] spEndsL
  order_of : Df P w K mg base "_law_order_of" 2 ["_law_moments"] spOrderOf
theorem ok_law (G : Txt mg) (L : LawD P w K mg base) (F : FnP K "law" s_law f fd) : FnOk P w K mg base CX0 11 f fd ["_law_script"] (spLaw K) := by
  refine F.ok scLaw (fun vs H Q E h => ?_) (fun cdv A outer s H vs Q E hr h => ?_)
  · obtain ⟨a, ns, rfl, _⟩ := h
    rfl
  · obtain ⟨a, ns, rfl, ha, hl, q⟩ := h
    have hu65 : (A.deeper (envOfC "law" (defScope s_law) s.heap.objs.size f cdv)).units + 65 < cLine := by have := hr.un; omega
    have hu64 : (A.deeper (envOfC "law" (defScope s_law) s.heap.objs.size f cdv)).units + 64 < cLine := by have := hr.un; omega
    have hu1 : (A.deeper (envOfC "law" (defScope s_law) s.heap.objs.size f cdv)).units + 1 < cLine := by have := hr.un; omega
    refine ⟨_, PSs.nox (pss_cons (ps_set (i := 1) scLaw.nd rfl (Or.inl rfl) (pe_callD L.begun (hr.mono (by decide)) rfl (pa_cons (pv 0) pa_nil)))
      (pss_cons (ps_set (i := 2) scLaw.nd rfl (Or.inl rfl) (pe_callD L.some (hr.mono (by decide)) rfl (pa_cons (pv 1) (pa_cons pe_int pa_nil))))
      (pss_cons (ps_set (i := 3) scLaw.nd rfl (Or.inr rfl) (pe_callD L.part (hr.mono (by decide)) rfl (pa_cons (pv 1) (pa_cons (pv 2) (pa_cons (pe_callD L.pick (hr.mono (by decide)) rfl (pa_cons (pv 1) (pa_cons (pe_lst (pa_cons pe_int (pa_cons pe_int (pa_cons pe_int (pa_cons pe_int pa_nil))))) pa_nil))) (pa_cons pe_int pa_nil))))))
      (pss_cons (ps_asg (pe_tup (pa_cons (pe_callD L.orders (hr.mono (by decide)) rfl (pa_cons (pv 3) pa_nil)) (pa_cons (pe_callD L.shuffled (hr.mono (by decide)) rfl (pa_cons (pv 1) (pa_cons (pe_listRg rfl (by rfl) G.list (prg_1 (by rfl) G.range (pe_callB call_len_seq (by rfl) G.len PySem.boot_len (pa_cons (pv 3) pa_nil)))) pa_nil))) pa_nil)))
          (pg_tup rfl (pgs_cons (pg_name (i := 4) scLaw.nd rfl (Or.inl rfl)) (pgs_cons (pg_name (i := 5) scLaw.nd rfl (Or.inr rfl)) pgs_nil))))
      (pss_cons (ps_if (pt_not (pt_val (pe_callD L.same hr rfl (pa_cons
            (pe_lc (own := [("_law_one", 12)]) rfl scLaw.nd (pi_list (pv 4)) (blkOk_by (own := [("_law_one", 12)]) (N := NLaw) (sc := defScope s_law) (by decide +kernel)) (g := gName 12) (fun _ _ _ _ _ => pg_name (i := 12) scLaw.nd rfl (Or.inr rfl)) (fun _ _ _ _ _ => pts_nil)
              (te := tCB (rTupOf K) (tCons (tLc (iList K (tVar 5)) (gName 13) tYes (tOp (rIxT K) (tVar 12) (tVar 13)) [13]) tNil))
              (fun _ _ _ _ _ => pe_callTy call_tupOf (by rfl) G.tuple (by decide +kernel) (pa_cons (pe_lc (own := [("_law_k", 13)]) rfl scLaw.nd (pi_list (pv 5)) (blkOk_by (own := [("_law_k", 13)]) (N := NLaw) (by show blkC NLaw scOne _ _ = true; decide +kernel)) (g := gName 13)
                (fun _ _ _ _ _ => pg_name (i := 13) scLaw.nd rfl (Or.inl rfl)) (fun _ _ _ _ _ => pts_nil) (fun _ _ _ _ _ => pe_ix (r := rIxT K) ix_tup (pv 12) (pv 13) (fun _ _ => rfl))) pa_nil)))
            (pa_cons (pe_lc (own := [("_law_k", 13)]) rfl scLaw.nd (pi_list (pv 5)) (blkOk_by (own := [("_law_k", 13)]) (N := NLaw) (sc := defScope s_law) (by decide +kernel)) (fun _ _ _ _ _ => pg_name (i := 13) scLaw.nd rfl (Or.inl rfl)) (fun _ _ _ _ _ => pts_nil)
              (fun _ _ _ _ _ => pe_ix (r := rIxL K) ix_list (pv 3) (pv 13) (fun _ _ => rfl))) pa_nil))))) (pss_one (ps_ret pe_bl)) pss_nil)
      (pss_cons (ps_set (i := 6) scLaw.nd rfl (Or.inl rfl) (pe_callD L.shuffled (hr.mono (by decide)) rfl (pa_cons (pv 1) (pa_cons (pe_callTy (cr_listStr rfl) (by rfl) G.list (by decide +kernel) (pa_cons pe_str pa_nil)) pa_nil))))
      (pss_cons (ps_set (i := 7) scLaw.nd rfl (Or.inr rfl) (pe_callTy (call_dictP rfl) (by rfl) G.dict (by decide +kernel) (pa_cons (pe_op op_cat (pe_listZip rfl (by rfl) G.list (by rfl) G.zip (pa_cons pe_str (pa_cons (pv 6) pa_nil)))
            (pe_listZip rfl (by rfl) G.list (by rfl) G.zip (pa_cons pe_str (pa_cons (pe_lc (own := [("_law_name", 14)]) rfl scLaw.nd (pi_list (pv 6)) (blkOk_by (own := [("_law_name", 14)]) (N := NLaw) (sc := defScope s_law) (by decide +kernel)) (fun _ _ _ _ _ => pg_name (i := 14) scLaw.nd rfl (Or.inl rfl)) (fun _ _ _ _ _ => pts_nil)
              (fun _ _ _ _ _ => pe_upper (pv 14))) pa_nil)))) pa_nil)))
      (pss_cons (ps_if (pt_cmpR (op_neD hu64) (pe_callD L.orders (hr.mono (by decide)) rfl (pa_cons
            (pe_lc (own := [("_law_row_here", 15)]) rfl scLaw.nd (pi_list (pv 3)) (blkOk_by (own := [("_law_row_here", 15)]) (N := NLaw) (sc := defScope s_law) (by decide +kernel)) (g := gName 15) (fun _ _ _ _ _ => pg_name (i := 15) scLaw.nd rfl (Or.inl rfl)) (fun _ _ _ _ _ => pts_nil)
              (te := tM1 (rJoin K) (tC (.str "")) (tLc (iStr (tVar 15)) (gName 16) tYes (tDGet (tVar 7) (tVar 16)) [16]))
              (fun _ _ _ _ _ => pe_joinR pe_str (pe_lc (own := [("_law_step", 16)]) rfl scLaw.nd (pi_str (pv 15)) (blkOk_by (own := [("_law_step", 16)]) (N := NLaw) (by show blkC NLaw scRow2 _ _ = true; decide +kernel)) (g := gName 16)
                (fun _ _ _ _ _ => pg_name (i := 16) scLaw.nd rfl (Or.inl rfl)) (fun _ _ _ _ _ => pts_nil) (fun _ _ _ _ _ => pe_dget hu1 (pv 7) (pv 16) (fun _ _ => rfl))))) pa_nil)) (pv 4) (nomark _)) (pss_one (ps_ret pe_bl)) pss_nil)
      (pss_cons (ps_setLc (i := 8) (own := [("_law_row_here", 15)]) rfl scLaw.nd rfl rfl (sw_true rfl rfl rfl (by decide +kernel)) (pi_list (pv 3)) (blkOk_by (own := [("_law_row_here", 15)]) (N := NLaw) (sc := defScope s_law) (by decide +kernel)) (fun _ _ _ _ _ => pg_name (i := 15) scLaw.nd rfl (Or.inl rfl)) (fun _ _ _ _ _ => pts_nil)
          (fun _ _ _ _ _ => pe_callD L.swapped (hr.mono (by decide)) rfl (pa_cons (pv 15) pa_nil)))
      (pss_cons (ps_if (pt_not (pt_val (pe_callD L.same hr rfl (pa_cons
            (pe_lc (own := [("_law_one", 12)]) rfl scLaw.nd (pi_list (pv 4)) (blkOk_by (own := [("_law_one", 12)]) (N := NLaw) (sc := defScope s_law) (by decide +kernel)) (g := gName 12) (fun _ _ _ _ _ => pg_name (i := 12) scLaw.nd rfl (Or.inl rfl)) (fun _ _ _ _ _ => pts_nil)
              (te := tCall spDenseL [] E0 (tCons (tLc (iTup K (tVar 12)) (gName 17) tYes (tOp (rI0 fun i j => .int (i - j)) (tC (.int 0)) (tVar 17)) [17]) tNil))
              (fun _ _ _ _ _ => pe_callD L.denseL (hr.mono (by decide)) rfl (pa_cons (pe_lc (own := [("_law_place_here", 17)]) rfl scLaw.nd (pi_tup (pv 12)) (blkOk_by (own := [("_law_place_here", 17)]) (N := NLaw) (by show blkC NLaw scDen _ _ = true; decide +kernel)) (g := gName 17)
                (fun _ _ _ _ _ => pg_name (i := 17) scLaw.nd rfl (Or.inl rfl)) (fun _ _ _ _ _ => pts_nil) (fun _ _ _ _ _ => pe_op op_sub pe_int (pv 17))) pa_nil)))
            (pa_cons (pv 8) pa_nil))))) (pss_one (ps_ret pe_bl)) pss_nil)
      (pss_cons (ps_cut (ps_if (PW.pt (pw_and (pt_cmpR op_gt (pe_callB call_len_seq (by rfl) G.len PySem.boot_len (pa_cons (pv 3) pa_nil)) pe_int (nomark _)) (pw_and1 (pt_not (pt_val (pe_callD L.same hr rfl (pa_cons
            (pe_lc (own := [("_law_one", 12)]) rfl scLaw.nd (pi_list (pv 4)) (blkOk_by (own := [("_law_one", 12)]) (N := NLaw) (sc := defScope s_law) (by decide +kernel)) (g := gName 12) (fun _ _ _ _ _ => pg_name (i := 12) scLaw.nd rfl (Or.inl rfl)) (fun _ _ _ _ _ => pts_nil)
              (fun _ _ _ _ _ => pe_callD L.denseT (hr.mono (by decide)) rfl (pa_cons (pe_slice (r := rSlA K) sl_tupA (pv 12) (po_some pe_int) po_none) pa_nil)))
            (pa_cons (pe_slice (r := rSlL K) sl_list (pv 3) (po_some pe_int) po_none) pa_nil)))))))) (pss_one (ps_ret pe_bl)) pss_nil))
      (pss_cons (ps_cut (ps_if (pt_cmpR op_lt (pe_op op_add (pe_callB call_len_str (by rfl) G.len PySem.boot_len (pa_cons (pe_join pe_str (pv 3)) pa_nil)) (pe_callB call_len_str (by rfl) G.len PySem.boot_len (pa_cons (pe_ix (r := rIxL K) ix_list (pv 3) pe_int (fun _ _ => rfl)) pa_nil))) pe_int (nomark _))
          (pss_one (ps_if (pt_not (pt_val (pe_callD L.same hr rfl (pa_cons
            (pe_lc (own := [("_law_one", 12)]) rfl scLaw.nd (pi_list (pv 4)) (blkOk_by (own := [("_law_one", 12)]) (N := NLaw) (sc := defScope s_law) (by decide +kernel)) (g := gName 12) (fun _ _ _ _ _ => pg_name (i := 12) scLaw.nd rfl (Or.inl rfl)) (fun _ _ _ _ _ => pts_nil)
              (fun _ _ _ _ _ => pe_op (r := rCatA K) op_catA (pv 12) (pe_tup (pa_cons (pe_ix (r := rIxT K) ix_tup (pv 12) pe_int (fun _ _ => rfl)) pa_nil))))
            (pa_cons (pe_op op_cat (pv 3) (pe_lst (pa_cons (pe_ix (r := rIxL K) ix_list (pv 3) pe_int (fun _ _ => rfl)) pa_nil))) pa_nil))))) (pss_one (ps_ret pe_bl)) pss_nil)) pss_nil))
      (pss_cons (ps_for PassesOwn.never rfl (pi_range1 (by rfl) G.range (pa_cons pe_int pa_nil)) (pg_name (i := 9) scLaw.nd rfl (Or.inl rfl))
          (pss_cons (ps_asg (pe_callD L.made (hr.mono (by decide)) rfl (pa_cons (pv 1) (pa_cons (pv 3) pa_nil))) (pg_tup rfl (pgs_cons (pg_name (i := 10) scLaw.nd rfl (Or.inl rfl)) (pgs_cons (pg_name (i := 11) scLaw.nd rfl (Or.inl rfl)) pgs_nil))))
          (pss_cons (ps_cut (ps_if (pt_cmpR op_lt (pv 9) pe_int (nomark _)) (pss_one (ps_par rfl scLaw.nd (i := 10) (j := 11) rfl rfl (by decide) rfl rfl (pa_cons
              (pe_callD L.lines (hr.mono (by decide)) rfl (pa_cons (pv 1) (pa_cons (pv 2) (pa_cons pe_int (pa_cons (pe_callD L.pick (hr.mono (by decide)) rfl (pa_cons (pv 1) (pa_cons (pe_lst (pa_cons pe_int (pa_cons pe_int (pa_cons pe_int pa_nil)))) pa_nil))) pa_nil)))))
              (pa_cons (pe_callD L.moment (hr.mono (by decide)) rfl (pa_cons (pv 1) (pa_cons pe_int pa_nil))) pa_nil)) (by rfl))) pss_nil))
          (pss_one (ps_if (pt_cmpR (op_notInD hu65) (pe_callD L.order_of (hr.mono (by decide)) rfl (pa_cons (pe_callD L.ends (hr.mono (by decide)) rfl (pa_cons (pv 10) (pa_cons (pv 3) (pa_cons (pv 11) pa_nil)))) pa_nil)) (pv 4) (by rfl)) (pss_one (ps_ret pe_bl)) pss_nil)))))
      (pss_one (ps_ret pe_bl))))))))))))))), ?_⟩
    refine ⟨_, rfl, a, ns, rfl, ha, hl, fun H1 d g s1 D1 => ?_⟩
    refine ⟨_, rfl, d, g, H, 0, 4, rfl, by decide, D1, by decide, by decide, fun H2 z D2 hz => ?_⟩
    refine ⟨_, rfl, _, rfl, _, rfl, by show 4 ≤ sizeLine; decide, fun c hc => ?_⟩
    have bc := D2.fr hc
    have D3 := D2.new (o := .lst [V.int 4, V.int 5, V.int 6, V.int 7]) hc
    refine ⟨d, g, _, _, _, rfl, by decide, D3, .inl ⟨c, _, rfl, upd_same, by show 0 < 4; decide, by show 4 ≤ 1000; decide, fun H4 v D4 hv => ?_⟩⟩
    have hv2 : ∃ u : Nat, v = V.int (u : Int) ∧ u ≤ 7 := by
      simp only [List.mem_cons, List.not_mem_nil, or_false] at hv
      rcases hv with rfl | rfl | rfl | rfl
      · exact ⟨4, rfl, by decide⟩
      · exact ⟨5, rfl, by decide⟩
      · exact ⟨6, rfl, by decide⟩
      · exact ⟨7, rfl, by decide⟩
    obtain ⟨u, rfl, hu7⟩ := hv2
    have D5 : Dw 17 d g H H4 := D4.down (same_new bc)
    refine ⟨d, g, H, 17, u, 3, z, rfl, by decide, D5, hz, hu7, by decide, by decide, fun H5 B5 ra rs s5 D6 hra r1 r3 rt rz => ?_⟩
    have rok : RowsOk rs := ⟨fun r hr => (rz r hr).1, by omega, r1, by omega⟩
    -- every, spots
    refine ⟨_, rfl, ra, rs, rfl, D6.same _ _ hra, rok, fun H6 ea ts s6 hfr hea hts => ?_⟩
    have D7 := D6.on s6
    obtain ⟨B7, s7, D8, big1, big2⟩ := D7.big
    have bea : B7 ea = some (.lst (ts.map V.ref)) := big2 _ _ _ s6 D6 _ _ hfr hea
    have bts : Tps iV B7 ts (ordersL rs) := ⟨hts.len, fun k t x e1 e2 => big1 _ _ (hts.at_ k t x e1 e2) (by intro k z; cases z) (by intro k z; cases z)⟩
    have bra := s7 _ _ hra
    refine ⟨_, rfl, _, rfl, ra, _, rfl, .inl (SqL.of (D8.same _ _ bra)), _, rfl, .of_le (Int.le_refl _) (by rw [List.length_map]; omega) (by decide) (by rw [List.length_map]; omega), fun p0 hp0 => ?_⟩
    rw [List.length_map]
    have D9 := D8.new (o := .lst (rgV 0 (rs.length : Nat))) hp0
    have bp0 := D8.fr hp0
    refine ⟨d, g, p0, _, _, _, rfl, by decide, D9, upd_same, by rw [rgV_length]; omega, fun H7 B8 sa ys s8 D10 hsa _ hpm => ?_⟩
    have fI : rgV 0 ((rs.length : Nat) : Int) = (List.range rs.length).map fun (k : Nat) => V.int (k : Int) := by
      rw [rgV_rngI]
      unfold rngI
      rw [List.map_map]
      rfl
    rw [fI] at hpm
    obtain ⟨sp, psp, rfl⟩ := perm_map_inv (g := unI) (fun c => by show ((c : Int)).toNat = c; exact Int.toNat_natCast c) hpm
    refine ⟨by show 2 ≤ sizeLine; decide, fun p1 hp1 => ⟨p1, _, rfl, SqT.of upd_same, rfl, _, _, rfl, _, _, rfl, rfl, ?_⟩⟩
    have D11 := D10.on (same_new (o := .tup [V.ref ea, V.ref sa]) hp1)
    have sB : Same B7 B8 := (same_new bp0).trans s8
    have bra8 := sB _ _ bra
    have bea8 := sB _ _ bea
    have bts8 := bts.of_same sB
    have sp_lt : ∀ k ∈ sp, k < rs.length := fun k hk => List.mem_range.mp (psp.mem_iff.mp hk)
    have lsp : sp.length = rs.length := by rw [psp.length_eq, List.length_range]
    have lor : (ordersL rs).length ≤ 256 := by
      unfold ordersL
      exact Nat.le_trans (List.length_filter_le _ _) (ranksL_len _ rok.len)
    have lo3 : (ordersL rs).length ≤ 300 := by omega
    have olen : ∀ {i : Nat} {o : List Int}, (ordersL rs)[i]? = some o → o.length = rs.length := fun {i o} e => (mem_ranks.mp (mem_orders.mp (List.mem_of_getElem? e)).1).1
    generalize upd H7 p1 (.tup [V.ref ea, V.ref sa]) = H8 at D11
    clear D10 hp1 D9 hp0 D8 D7 D6 D5 D4 D3 D2 D1
    -- the rows in another order
    have K1 := D11.same
    refine ⟨_, rfl, ea, rfl, ⟨_, SqL.of (K1 _ _ bea8)⟩, fun E1 hE1 => ?_⟩
    refine lc_tups (K := K) (K1 _ _ bea8) (bts8.of_same K1) lo3 hE1 (K54.pm 0 sp) ?_ ?_ gName_mono
    · intro i t o G1 Qc ho sg ht hQ
      refine ⟨rfl, ?_⟩
      have hsg := sg _ _ (K1 _ _ hsa)
      refine ⟨_, rfl, sa, rfl, ⟨_, SqL.of hsg⟩, fun D2 hD2 => ?_⟩
      refine lc_it (walk_list (xs := sp.map fun (k : Nat) => V.int (k : Int))) (fun j H' => Same G1 H' ∧ H' D2 = some (.lst (((K54.pm 0 sp o).take j).map V.int))) ⟨same_new hD2, upd_same⟩ (fun j H' _ h => SqL.of (h.1 _ _ hsg)) ?_ ?_
      · rintro j x G2' G2 hj ⟨sg2, d2⟩ ⟨rfl, hx⟩
        rw [List.getElem?_map] at hx
        obtain ⟨k, hk, rfl⟩ := Option.map_eq_some_iff.mp hx
        have kl : k < o.length := by rw [olen ho]; exact sp_lt k (List.mem_of_getElem? hk)
        have eo : (iV o)[k]? = some (V.int (o.getD k 0)) := by
          unfold iV
          rw [List.getElem?_map, List.getD_eq_getElem?_getD, List.getElem?_eq_getElem kl]
          rfl
        have ep : (K54.pm 0 sp o)[j]? = some (o.getD k 0) := by
          unfold K54.pm
          rw [List.getElem?_map, hk]
          rfl
        have lp : (K54.pm 0 sp o).length ≤ 4 := by
          unfold K54.pm
          rw [List.length_map, lsp]
          exact rok.len
        refine ⟨rfl, ?_⟩
        refine ⟨_, rfl, _, rfl, t, _, _, _, rfl, rfl, SqT.of (sg2 _ _ ht), atI_nat eo, _, d2, by rw [List.length_map, List.length_take]; exact small1000 (by omega), same_upd sg2 hD2, ?_⟩
        rw [upd_same, take_snoc ep, List.map_append]
        rfl
      · rintro G2 ⟨sg2, d2⟩
        have e1 : (K54.pm 0 sp o).take (sp.map fun (k : Nat) => V.int (k : Int)).length = K54.pm 0 sp o := by
          refine List.take_of_length_le ?_
          unfold K54.pm
          rw [List.length_map, List.length_map]
          exact Nat.le_refl _
        rw [e1] at d2
        exact ⟨D2, _, rfl, .inl ⟨SqL.of d2, fun l hl => hQ l _ (sg2.trans (same_new hl)) upd_same⟩⟩
    intro H9 us s9 hE1' hus
    have hrows9 := s9 _ _ (K1 _ _ bra8)
    have hsa9 := s9 _ _ (K1 _ _ hsa)
    refine ⟨_, rfl, sa, rfl, ⟨_, SqL.of hsa9⟩, fun E2 hE2 => ?_⟩
    refine lc_it (walk_list (xs := sp.map fun (k : Nat) => V.int (k : Int))) (fun j H' => Same H9 H' ∧ H' E2 = some (.lst (((K54.pm [] sp rs).take j).map sV))) ⟨same_new hE2, upd_same⟩ (fun j H' _ h => SqL.of (h.1 _ _ hsa9)) ?_ ?_
    · rintro j x G2' G2 hj ⟨sg2, d2⟩ ⟨rfl, hx⟩
      rw [List.getElem?_map] at hx
      obtain ⟨k, hk, rfl⟩ := Option.map_eq_some_iff.mp hx
      have kl := sp_lt k (List.mem_of_getElem? hk)
      have er : (rs.map sV)[k]? = some (sV (rs.getD k [])) := by
        rw [List.getElem?_map, List.getD_eq_getElem?_getD, List.getElem?_eq_getElem kl]
        rfl
      have ep : (K54.pm [] sp rs)[j]? = some (rs.getD k []) := by
        unfold K54.pm
        rw [List.getElem?_map, hk]
        rfl
      have lp : (K54.pm [] sp rs).length ≤ 4 := by
        unfold K54.pm
        rw [List.length_map, lsp]
        exact rok.len
      refine ⟨rfl, ?_⟩
      refine ⟨_, rfl, _, rfl, ra, _, _, _, rfl, rfl, SqL.of (sg2 _ _ hrows9), atI_nat er, _, d2, by rw [List.length_map, List.length_take]; exact small1000 (by omega), same_upd sg2 hE2, ?_⟩
      rw [upd_same, take_snoc ep, List.map_append]
      rfl
    rintro H10 ⟨s10, d10⟩
    have e10 : (K54.pm [] sp rs).take (sp.map fun (k : Nat) => V.int (k : Int)).length = K54.pm [] sp rs := by
      refine List.take_of_length_le ?_
      unfold K54.pm
      rw [List.length_map, List.length_map]
      exact Nat.le_refl _
    rw [e10] at d10
    refine ⟨E1, E2, us, _, K54.pm [] sp rs, rfl, s10 _ _ hE1', hus.of_same s10, by rw [List.length_map]; exact lo3, d10, rowsOk_perm rok psp, orders_perm psp, fun H11 s11 => ⟨_, rfl, ?_⟩⟩
    refine iteF ?_
    have D12 := D11.on (s9.trans (s10.trans s11))
    clear hE1' hus d10 hsa9 hrows9
    -- names
    refine ⟨_, rfl, [97, 98, 99, 100], by rw [abcd_eq], by decide, fun p2 hp2 => ?_⟩
    have D13 := D12.new (o := .lst ([97, 98, 99, 100].map cV)) hp2
    have bp2 := D12.fr hp2
    refine ⟨d, g, p2, _, _, _, rfl, by decide, D13, upd_same, by decide, fun H12 B9 na ys s12 D14 hna _ hpn => ?_⟩
    obtain ⟨zs, pz, rfl⟩ := perm_map_inv unC_cV hpn
    have sB9 : Same B8 B9 := (same_new bp2).trans s12
    have bra9 := sB9 _ _ bra8
    have bea9 := sB9 _ _ bea8
    have bts9 := bts8.of_same sB9
    have lz : zs.length = 4 := pz.length_eq
    clear D13 D12 D11 hpn
    have K2 := D14.same
    -- fresh
    refine ⟨_, rfl, [97, 98, 99, 100], na, zs.map cV, by rw [abcd_eq], SqL.of (K2 _ _ hna), by rw [List.length_map, lz]; rfl, by decide, fun H13 q1 t1 s13 fr1 hq1 ht1 => ?_⟩
    refine ⟨_, rfl, na, rfl, ⟨_, SqL.of (s13 _ _ (K2 _ _ hna))⟩, fun E3 hE3 => ?_⟩
    refine lc_it (walk_list (xs := zs.map cV)) (fun j H' => Same H13 H' ∧ H' E3 = some (.lst (((zs.take j).map ctr).map cV))) ⟨same_new hE3, upd_same⟩ (fun j H' _ h => SqL.of (h.1 _ _ (s13 _ _ (K2 _ _ hna)))) ?_ ?_
    · rintro j x G2' G2 hj ⟨sg2, d2⟩ ⟨rfl, hx⟩
      rw [List.getElem?_map] at hx
      obtain ⟨k, hk, rfl⟩ := Option.map_eq_some_iff.mp hx
      have kz := pz.mem_iff.mp (List.mem_of_getElem? hk)
      have kk : isStp k = true ∧ isF k = true := by
        have key : ∀ x ∈ [97, 98, 99, 100], isStp x = true ∧ isF x = true := by decide
        exact key k kz
      refine ⟨rfl, ?_⟩
      refine ⟨_, rfl, ⟨_, rfl⟩, tx [k], rfl, rfl, by rw [tx_length]; show 1 ≤ 5592405; decide, ?_⟩
      rw [up_stp kk.2 kk.1]
      refine ⟨_, d2, by rw [List.length_map, List.length_map, List.length_take]; exact small1000 (by omega), same_upd sg2 hE3, ?_⟩
      rw [upd_same, take_snoc hk, List.map_append, List.map_append]
      rfl
    rintro H14 ⟨s14, d14⟩
    rw [List.length_map, List.take_length] at d14
    have ABCD_eq : ("ABCD" : Str) = tx [65, 66, 67, 68] := by decide +kernel
    refine ⟨[65, 66, 67, 68], E3, (zs.map ctr).map cV, by rw [ABCD_eq], SqL.of d14, by rw [List.length_map, List.length_map, lz]; rfl, by decide, fun H15 q2 t2 s15 fr2 hq2 ht2 => ?_⟩
    refine ⟨q1, q2, _, _, rfl, rfl, s15 _ _ (s14 _ _ hq1), hq2, ?_, fun q3 hq3 => ?_⟩
    · rw [List.length_map, List.length_map, ht1.len, ht2.len]
      unfold zkL
      rw [List.length_zip, List.length_zip]
      exact Nat.le_of_lt (small1000 (by simp only [List.length_map, List.length_cons, List.length_nil]; omega))
    have ht12 : Tps pairV (upd H15 q3 (.lst (t1.map V.ref ++ t2.map V.ref))) (t1 ++ t2) (zkL [97, 98, 99, 100] (zs.map cV) ++ zkL [65, 66, 67, 68] ((zs.map ctr).map cV)) := (((ht1.of_same s14).of_same s15).new hq3).append (ht2.new hq3)
    refine ⟨q3, t1 ++ t2, _, rfl, by rw [List.map_append]; exact SqL.of upd_same, Paired.mono (fun t kv h => SqT.of h) (tps_paired ht12), fun fr hfr => ?_⟩
    have D15 := D14.on (s13.trans (s14.trans (s15.trans ((same_new (o := .lst (t1.map V.ref ++ t2.map V.ref)) hq3).trans (same_new (o := .dK (mergeK [] (zkL [97, 98, 99, 100] (zs.map cV) ++ zkL [65, 66, 67, 68] ((zs.map ctr).map cV)))) hfr)))))
    have hfr2 : (upd (upd H15 q3 (.lst (t1.map V.ref ++ t2.map V.ref))) fr (.dK (mergeK [] (zkL [97, 98, 99, 100] (zs.map cV) ++ zkL [65, 66, 67, 68] ((zs.map ctr).map cV))))) fr = some (.dK (mergeK [] (zkL [97, 98, 99, 100] (zs.map cV) ++ zkL [65, 66, 67, 68] ((zs.map ctr).map cV)))) := upd_same
    generalize upd (upd H15 q3 (.lst (t1.map V.ref ++ t2.map V.ref))) fr (.dK (mergeK [] (zkL [97, 98, 99, 100] (zs.map cV) ++ zkL [65, 66, 67, 68] ((zs.map ctr).map cV)))) = H16 at D15 hfr2
    clear ht12 hq2 ht2 hq1 ht1 D14 d14
    have K3 := D15.same
    -- the rows with other names
    have bra10 := K3 _ _ bra9
    have row8 : ∀ r ∈ rs, r.length ≤ 8 := fun r hr => by
      have h1 : r.length ≤ tot rs := by
        unfold tot
        exact mem_le_sum (List.mem_map_of_mem hr)
      have := rok.tot
      omega
    have rl4 := rok.len
    refine ⟨_, rfl, ra, rfl, ⟨_, SqL.of bra10⟩, fun E4 hE4 => ?_⟩
    refine lc_it (walk_list (xs := rs.map sV)) (fun j H' => Same H16 H' ∧ H' E4 = some (.lst (((rs.take j).map (List.map (renF zs))).map sV))) ⟨same_new hE4, upd_same⟩ (fun j H' _ h => SqL.of (h.1 _ _ bra10)) ?_ ?_
    · rintro j x G2' G2 hj ⟨sg2, d2⟩ ⟨rfl, hx⟩
      rw [List.getElem?_map] at hx
      obtain ⟨r, hr1, rfl⟩ := Option.map_eq_some_iff.mp hx
      have hm := List.mem_of_getElem? hr1
      have rk := rok.ok r hm
      have r8 := row8 r hm
      rw [List.length_map] at hj
      refine ⟨rfl, ?_⟩
      refine ⟨⟨_, rfl⟩, _, rfl, _, rfl, fun D2 hD2 => lc_it walk_str (fun i H' => Same G2 H' ∧ H' D2 = some (.lst (((r.take i).map fun c => tx [renF zs c]).map V.str))) ⟨same_new hD2, upd_same⟩ (fun _ _ _ _ => trivial) ?_ ?_⟩
      · rintro i2 x2 G3' G3 hi2 ⟨sg3, d3⟩ ⟨rfl, c, hc, rfl⟩
        have hc' := tx_get hc
        rw [tx_size] at hi2
        have cs := rk c (List.mem_of_getElem? hc')
        have dg : DGet G3 fr (.str (tx [c])) (some (cV (renF zs c))) := ren_get pz c cs ▸ DGet.k (k := Sum.inr (tx [c])) (sg3 _ _ (sg2 _ _ hfr2))
        refine ⟨rfl, ?_⟩
        refine ⟨_, rfl, _, rfl, fr, _, rfl, dg, _, d3, by rw [List.length_map, List.length_map, List.length_take]; exact small1000 (by omega), same_upd sg3 hD2, ?_⟩
        rw [upd_same, take_snoc hc', List.map_append, List.map_append]
        rfl
      · rintro G3 ⟨sg3, d3⟩
        rw [tx_size, List.take_length] at d3
        have e1 : (r.map fun c => tx [renF zs c]) = (r.map fun c => [renF zs c]).map tx := by rw [List.map_map]; rfl
        rw [e1] at d3
        refine ⟨_, D2, _, rfl, rfl, .inl (SqL.of d3), join_size _ (by rw [flat_one, List.length_map]; omega), ?_⟩
        rw [join_tx, flat_one]
        refine ⟨_, sg3 _ _ d2, by rw [List.length_map, List.length_map, List.length_take]; exact small1000 (by omega), same_upd (sg2.trans sg3) hE4, ?_⟩
        rw [upd_same, take_snoc hr1, List.map_append, List.map_append]
        rfl
    rintro H17 ⟨s17, d17⟩
    rw [List.length_map, List.take_length] at d17
    refine ⟨E4, rs.map (List.map (renF zs)), rfl, d17, rowsOk_map rok (fun c hc => (ren_all pz c hc).2.2.2), fun H18 w1 ws s18 _ hw1 hws => ?_⟩
    rw [orders_ren2 rok pz] at hws
    have s178 := s17.trans s18
    refine ⟨_, rfl, .list (pT (ordersL rs)), .list (pT (ordersL rs)), .lst (SqL.of hw1) (dp_pT hws), .lst (SqL.of (s178 _ _ (K3 _ _ bea9))) (dp_pT ((bts9.of_same K3).of_same s178)), shaped_T _, shaped_T _, _, rfl, ?_⟩
    rw [PyData.eqv, eqv_pT, decide_eq_true (show ordersL rs = ordersL rs from rfl)]
    refine iteF ?_
    have D16 := D15.on s178
    clear d17 hws hw1 D15 hE4 bra10
    have K4 := D16.same
    -- the letters swapped
    have bra11 := K4 _ _ bra9
    refine ⟨_, rfl, ra, rfl, ⟨_, SqL.of bra11⟩, fun E5 hE5 => ?_⟩
    refine lc_it (walk_list (xs := rs.map sV)) (fun j H' => Same H18 H' ∧ H' E5 = some (.lst (((rs.take j).map (List.map ctr)).map sV))) ⟨same_new hE5, upd_same⟩ (fun j H' _ h => SqL.of (h.1 _ _ bra11)) ?_ ?_
    · rintro j x G2' G2 hj ⟨sg2, d2⟩ ⟨rfl, hx⟩
      rw [List.getElem?_map] at hx
      obtain ⟨r, hr1, rfl⟩ := Option.map_eq_some_iff.mp hx
      have hm := List.mem_of_getElem? hr1
      have r8 := row8 r hm
      rw [List.length_map] at hj
      refine ⟨rfl, ?_⟩
      refine ⟨_, rfl, r, rfl, rok.ok r hm, by omega, fun G3 sg3 => ?_⟩
      refine ⟨_, sg3 _ _ d2, by rw [List.length_map, List.length_map, List.length_take]; exact small1000 (by omega), same_upd (sg2.trans sg3) hE5, ?_⟩
      rw [upd_same, take_snoc hr1, List.map_append, List.map_append]
      rfl
    rintro H19 ⟨s19, d19⟩
    rw [List.length_map, List.take_length] at d19
    have bea12 := s19 _ _ (K4 _ _ bea9)
    have bts12 := (bts9.of_same K4).of_same s19
    refine ⟨_, rfl, ea, rfl, ⟨_, SqL.of bea12⟩, fun E6 hE6 => ?_⟩
    refine lc_tups (K := K) bea12 bts12 lo3 hE6 (fun o => dense (negO o)) ?_ ?_ gName_mono
    · intro i t o G1 Qc ho sg ht hQ
      refine ⟨rfl, ?_⟩
      have lo4 : o.length ≤ 4 := by rw [olen ho]; exact rl4
      refine ⟨_, rfl, t, rfl, ⟨_, SqT.of ht⟩, fun D2 hD2 => ?_⟩
      refine lc_it (walk_tup (xs := o.map V.int)) (fun j H' => Same G1 H' ∧ H' D2 = some (.lst (((negO o).take j).map V.int))) ⟨same_new hD2, upd_same⟩ (fun j H' _ h => SqT.of (h.1 _ _ ht)) ?_ ?_
      · rintro j x G2' G2 hj ⟨sg2, d2⟩ ⟨rfl, hx⟩
        rw [List.getElem?_map] at hx
        obtain ⟨y, hy, rfl⟩ := Option.map_eq_some_iff.mp hx
        rw [List.length_map] at hj
        have ep : (negO o)[j]? = some (0 - y) := by
          unfold negO
          rw [List.getElem?_map, hy]
          rfl
        refine ⟨rfl, ?_⟩
        refine ⟨_, rfl, _, _, rfl, rfl, _, d2, by rw [List.length_map, List.length_take]; exact small1000 (by omega), same_upd sg2 hD2, ?_⟩
        rw [upd_same, take_snoc ep, List.map_append]
        rfl
      · rintro G2 ⟨sg2, d2⟩
        have ln : (negO o).length = o.length := by unfold negO; rw [List.length_map]
        have e1 : (negO o).take (o.map V.int).length = negO o := by rw [List.length_map, ← ln, List.take_length]
        rw [e1] at d2
        exact ⟨D2, negO o, rfl, d2, by omega, fun G3 p sg3 hp => hQ p G3 (sg2.trans sg3) hp⟩
    intro H20 us2 s20 hE6' hus2
    refine ⟨_, rfl, E6, E5, us2, _, rs.map (List.map ctr), rfl, hE6', hus2, by rw [List.length_map]; exact lo3, s20 _ _ d19, rowsOk_map rok (fun c hc => (ctr_stp hc).2.2.1), orders_swap rok.ok, fun H21 s21 => ⟨_, rfl, ?_⟩⟩
    refine iteF ?_
    have D17 := D16.on (s19.trans (s20.trans s21))
    clear hE6' hus2 d19 bea12 bts12 D16 bra11
    have K5 := D17.same
    have h0 : rs[0]? = some (rs.headD []) := by
      cases rs with
      | nil => simp at r1
      | cons r rs => rfl
    have er0 : (rs.map sV)[0]? = some (sV (rs.headD [])) := by rw [List.getElem?_map, h0]; rfl
    have ft : rs.flatten.length = tot rs := by unfold tot; rw [List.length_flatten]
    -- one row less
    refine ⟨fun σ' H' => σ' = [some (V.ref a), some (V.ref d), some (V.str (tx z)), some (V.ref ra), some (V.ref ea), some (V.ref sa), some (V.ref na), some (V.ref fr), some (V.ref E5), none, none, none, none, none, none, none, none, none] ∧ Same H21 H', ?_, ?_⟩
    · refine ⟨_, rfl, ra, _, rfl, .inl (SqL.of (K5 _ _ bra9)), _, _, rfl, rfl, _, rfl, ?_⟩
      rw [List.length_map]
      by_cases h1 : (1 : Int) < ((rs.length : Nat) : Int)
      · rw [decide_eq_true h1]
        refine iteT ?_
        refine ⟨_, rfl, ea, rfl, ⟨_, SqL.of (K5 _ _ bea9)⟩, fun E7 hE7 => ?_⟩
        refine lc_tups (K := K) (K5 _ _ bea9) (bts9.of_same K5) lo3 hE7 (fun o => dense o.tail) ?_ ?_ gName_mono
        · intro i t o G1 Qc ho sg ht hQ
          have lo1 := olen ho
          have liV : (iV o).length = o.length := by unfold iV; rw [List.length_map]
          refine ⟨rfl, ?_⟩
          refine ⟨_, rfl, _, rfl, t, _, rfl, SqT.of ht, fun hw => ?_, fun _ p hp => ?_⟩
          · exfalso
            have hw1 : HT.sIx (iV o).length 0 (some ((1 : Nat) : Int)) = 0 := hw.1
            rw [HT.sIx_nat, liV] at hw1
            omega
          · rw [cut_tail _ (by rw [liV]; omega)]
            have et : (iV o).tail = o.tail.map V.int := by unfold iV; rw [List.map_tail]
            rw [et]
            exact ⟨p, o.tail, rfl, upd_same, by rw [List.length_tail]; omega, fun G3 p3 sg3 hp3 => hQ p3 G3 ((same_new hp).trans sg3) hp3⟩
        intro H22 us s22 hE7' hus
        refine ⟨_, rfl, _, rfl, ra, _, rfl, SqL.of (s22 _ _ (K5 _ _ bra9)), fun p hp => ?_⟩
        rw [cut_tail _ (by rw [List.length_map]; omega)]
        refine ⟨E7, p, us, _, rs.tail, rfl, (same_new hp) _ _ hE7', hus.of_same (same_new hp), by rw [List.length_map]; exact lo3, by rw [upd_same, List.map_tail], rowsOk_tail rok (by omega), orders_tail, fun H23 s23 => ⟨_, rfl, ?_⟩⟩
        refine iteF ?_
        exact ⟨rfl, s22.trans ((same_new hp).trans s23)⟩
      · rw [decide_eq_false h1]
        refine iteF (iteF ?_)
        exact ⟨rfl, Same.refl _⟩
    rintro _ H22 ⟨rfl, s22⟩
    have D18 := D17.on s22
    clear D17
    have K6 := D18.same
    -- one row twice
    refine ⟨fun σ' H' => σ' = [some (V.ref a), some (V.ref d), some (V.str (tx z)), some (V.ref ra), some (V.ref ea), some (V.ref sa), some (V.ref na), some (V.ref fr), some (V.ref E5), none, none, none, none, none, none, none, none, none] ∧ Same H22 H', ?_, ?_⟩
    · have em : rs.map sV = (rs.map tx).map V.str := by rw [List.map_map]; rfl
      have t8 := rok.tot
      refine ⟨⟨_, rfl⟩, _, rfl, _, ra, rs.map tx, rfl, rfl, .inl (by rw [← em]; exact SqL.of (K6 _ _ bra9)), join_size _ (by rw [ft]; omega), _, rfl, by rw [join_tx, tx_length, ft]; exact Nat.le_of_lt (small1000 (by omega)), ?_⟩
      refine ⟨_, rfl, ra, _, _, _, rfl, rfl, SqL.of (K6 _ _ bra9), atI_nat (j := 0) er0, _, rfl, ?_, ?_⟩
      · rw [tx_length]
        have := row8 _ (List.mem_of_getElem? h0)
        exact Nat.le_of_lt (small1000 (by omega))
      refine ⟨_, _, rfl, rfl, _, _, rfl, rfl, _, rfl, ?_⟩
      rw [join_tx, tx_length, tx_length, ft]
      by_cases hlt : ((tot rs : Nat) : Int) + (((rs.headD []).length : Nat) : Int) < 9
      · rw [decide_eq_true hlt]
        refine iteT ?_
        refine ⟨_, rfl, ea, rfl, ⟨_, SqL.of (K6 _ _ bea9)⟩, fun E7 hE7 => ?_⟩
        refine lc_tups (K := K) (K6 _ _ bea9) (bts9.of_same K6) lo3 hE7 dup ?_ ?_ gName_mono
        · intro i t o G1 Qc ho sg ht hQ
          have lo1 := olen ho
          have eo0 : (iV o)[0]? = some (V.int (o.headD 0)) := by
            cases o with
            | nil => simp at lo1; omega
            | cons y o => rfl
          refine ⟨rfl, ?_⟩
          refine ⟨_, rfl, _, rfl, t, _, _, _, rfl, rfl, SqT.of ht, atI_nat (j := 0) eo0, by show 1 ≤ sizeLine; decide, fun T hT => ?_⟩
          refine ⟨t, T, iV o, [V.int (o.headD 0)], rfl, rfl, SqT.of ((same_new hT) _ _ ht), SqT.of upd_same, ?_, (fun e => ?_), (fun _ z => by cases z), fun _ _ p hp => ?_⟩
          · unfold iV
            rw [List.length_map]
            exact Nat.le_of_lt (small1000 (by show o.length + 1 ≤ 1000; omega))
          · have := congrArg List.length e
            unfold iV at this
            rw [List.length_map, List.length_nil] at this
            omega
          · refine hQ p _ ((same_new hT).trans (same_new hp)) ?_
            rw [upd_same]
            unfold dup iV
            rw [List.map_append]
            rfl
        intro H23 us s23 hE7' hus
        have bra12 := s23 _ _ (K6 _ _ bra9)
        refine ⟨_, rfl, _, rfl, ra, _, _, _, rfl, rfl, SqL.of bra12, atI_nat (j := 0) er0, by show 1 ≤ sizeLine; decide, fun b2 hb2 => ⟨ra, b2, _, _, rfl, rfl, (same_new hb2) _ _ bra12, upd_same, ?_, fun p hp => ?_⟩⟩
        · rw [List.length_map]
          exact Nat.le_of_lt (small1000 (by show rs.length + 1 ≤ 1000; omega))
        have sbp := (same_new (o := .lst [sV (rs.headD [])]) hb2).trans (same_new (o := .lst (rs.map sV ++ [sV (rs.headD [])])) hp)
        refine ⟨E7, p, us, _, rs ++ [rs.headD []], rfl, sbp _ _ hE7', hus.of_same sbp, by rw [List.length_map]; exact lo3, by rw [upd_same, List.map_append]; rfl, rowsOk_dup rok r3 (by omega), orders_dup (by omega), fun H24 s24 => ⟨_, rfl, ?_⟩⟩
        refine iteF ?_
        exact ⟨rfl, s23.trans (sbp.trans s24)⟩
      · rw [decide_eq_false hlt]
        refine iteF ?_
        exact ⟨rfl, Same.refl _⟩
    rintro _ H23 ⟨rfl, s23⟩
    have D19 : Dw 200 d g B9 H23 := (D18.on s23).le (by decide)
    clear D18
    -- timetables
    refine ⟨40, rfl, by decide, by decide, for_it walk_range (fun i σ H' => ∃ (v9 v10 v11 : Option V) (B' : Hp), σ = [some (V.ref a), some (V.ref d), some (V.str (tx z)), some (V.ref ra), some (V.ref ea), some (V.ref sa), some (V.ref na), some (V.ref fr), some (V.ref E5), v9, v10, v11, none, none, none, none, none, none] ∧ Same B9 B' ∧ Dw (200 + 256 * i) d g B' H')
      ⟨none, none, none, B9, rfl, Same.refl _, D19⟩ (fun _ _ _ _ _ => trivial) ?_ ?_⟩
    · rintro i x σ E1' E1 hi ⟨v9, v10, v11, B', rfl, s9, D20⟩ ⟨rfl, rfl⟩
      have hi : i < 40 := hi
      refine ⟨_, rfl, _, rfl, d, g, ra, B', _, rs, rfl, by omega, D20, s9 _ _ bra9, rok, fun E2 B1 p l T b s10 D21 hp hb8 Ln => ?_⟩
      refine ⟨p, _, rfl, SqT.of (D21.same _ _ hp), rfl, _, _, rfl, _, _, rfl, rfl, ?_⟩
      have s11 := s9.trans s10
      have rabcd : ∀ r ∈ rs, ∀ c ∈ r, abcd (lo c) := fun r hr c hc => (lo_stp (rok.ok r hr c hc)).1
      refine ⟨fun σ' H' => ∃ (B2 : Hp) (l : Addr) (S : Nat → Prop) (T : Tab) (t : Int), σ' = [some (V.ref a), some (V.ref d), some (V.str (tx z)), some (V.ref ra), some (V.ref ea), some (V.ref sa), some (V.ref na), some (V.ref fr), some (V.ref E5), some (V.int ((0 : Int) + (i : Nat))), some (V.ref l), some (mV t), none, none, none, none, none, none] ∧ Same B9 B2 ∧ Dw (200 + 256 * i + 220) d g B2 H' ∧ Lns B2 l S T ∧ (∀ r ∈ rs, ∀ c ∈ r, S (lo c)) ∧ -BB ≤ t ∧ t ≤ BB, ?_, ?_⟩
      · have bb := BB_big
        refine ⟨_, rfl, _, _, rfl, rfl, _, rfl, ?_⟩
        by_cases h8 : ((0 : Int) + (i : Nat)) < 8
        · rw [decide_eq_true h8]
          refine iteT ?_
          refine ⟨_, rfl, _, rfl, _, rfl, by show 3 ≤ sizeLine; decide, fun c hc => ?_⟩
          have bc := D21.fr hc
          have D22 := D21.new (o := .lst [V.int 3, V.int 6, V.int 12]) hc
          refine ⟨d, g, _, _, _, rfl, by omega, D22, .inl ⟨c, _, rfl, upd_same, by show 0 < 3; decide, by show 3 ≤ 1000; decide, fun E3 v D23 hv => ?_⟩⟩
          have hv2 : ∃ u : Nat, v = V.int (u : Int) ∧ 1 ≤ u ∧ u ≤ 12 := by
            simp only [List.mem_cons, List.not_mem_nil, or_false] at hv
            rcases hv with rfl | rfl | rfl
            · exact ⟨3, rfl, by decide, by decide⟩
            · exact ⟨6, rfl, by decide, by decide⟩
            · exact ⟨12, rfl, by decide, by decide⟩
          obtain ⟨u, rfl, hu1, hu12⟩ := hv2
          have D24 := D23.down (same_new bc)
          refine ⟨d, g, B1, _, 8, u, z, rfl, by omega, D24, hz, by decide, hu1, by omega, fun E4 B3 l' T' s12 D25 Ln2 => ?_⟩
          refine ⟨_, rfl, d, g, B3, _, 8, rfl, by omega, D25, by decide, by decide, fun E5' t D26 ht1 ht2 => ⟨_, _, rfl, ?_⟩⟩
          exact ⟨B3, l', _, T', t, rfl, s11.trans s12, D26.le (by omega), Ln2, fun r hr c hc => (rz r hr).2 c hc, ht1, ht2⟩
        · rw [decide_eq_false h8]
          refine iteF ?_
          refine ⟨B1, l, abcd, T, b, ?_, s11, D21.le (by omega), Ln, rabcd, by omega, by omega⟩
          rw [mV_int (by omega) (by omega)]
          rfl
      · rintro _ E3 ⟨B2, l, S, T, t, rfl, s12, D22, Ln, hS, t1, t2⟩
        have bra13 := D22.same _ _ (s12 _ _ bra9)
        have ht : In BB t := ⟨t1, t2⟩
        refine ⟨_, rfl, _, rfl, _, rfl, l, ra, S, T, rs, t, rfl, Ln.same D22.same, bra13, by omega, fun r hr => ⟨rok.ok r hr, hS r hr⟩, fun E4 p s13 hp => ?_⟩
        refine ⟨p, rs.map (goT BB T t), rfl, hp, fun y hy => ?_, by rw [List.length_map]; omega, fun E5' p2 s14 hp2 => ?_⟩
        · obtain ⟨r, hr, rfl⟩ := List.mem_map.mp hy
          exact goT_in Ln.good r ht
        · have s1314 := s13.trans s14
          have K7 := (D22.on s1314).same
          refine ⟨_, rfl, .tuple (pI (dense (rs.map (goT BB T t)))), pT (ordersL rs), .tup (SqT.of hp2) (dp_pI _), .lst (SqL.of (K7 _ _ (s12 _ _ bea9))) (dp_pT ((bts9.of_same s12).of_same K7)), shaped_TI _, shaped_T _, _, rfl, ?_⟩
          rw [any_eqv, decide_eq_true (table_mem (rs := rs) Ln.good ht)]
          refine iteF ?_
          exact ⟨_, _, _, B2, rfl, s12, (D22.on s1314).le (by omega)⟩
    · rintro σ H24 ⟨v9, v10, v11, B', rfl, _, _⟩
      exact q H24
end
end K54
namespace K54H
open PySem PySem.Spec PyProof.Rows L2 K54
def mkD (at_ : Str × Option Str) (x q : Str) (st : Stmt) : He.DefD := ⟨at_, x, q, defArgs st, defBody st, defScope st, [], []⟩
def d_is_row : He.DefD := mkD ("is_row", none) "is_row" "is_row" s_is_row
def d_never_slower : He.DefD := mkD ("never_slower", none) "never_slower" "never_slower" s_never_slower
def d_row_values : He.DefD := mkD ("row_values", none) "row_values" "row_values" s_row_values
def d_step_rules : He.DefD := mkD ("step_rules", none) "step_rules" "step_rules" s_step_rules
def d_O_init : He.DefD := mkD ("Order", some "__init__") "__init__" "Order.__init__" s_O_init
def d_O_is_upto : He.DefD := mkD ("Order", some "is_upto") "is_upto" "Order.is_upto" s_O_is_upto
def d_O_is_below : He.DefD := mkD ("Order", some "is_below") "is_below" "Order.is_below" s_O_is_below
def d_O_with_more : He.DefD := mkD ("Order", some "with_more") "with_more" "Order.with_more" s_O_with_more
def d_O_put : He.DefD := mkD ("Order", some "put") "put" "Order.put" s_O_put
def d_O_go_through : He.DefD := mkD ("Order", some "go_through") "go_through" "Order.go_through" s_O_go_through
def d_O_use_rules : He.DefD := mkD ("Order", some "use_rules") "use_rules" "Order.use_rules" s_O_use_rules
def d_O_close : He.DefD := mkD ("Order", some "close") "close" "Order.close" s_O_close
def d_O_is_contrary : He.DefD := mkD ("Order", some "is_contrary") "is_contrary" "Order.is_contrary" s_O_is_contrary
def d_is_open : He.DefD := mkD ("is_open", none) "is_open" "is_open" s_is_open
def d_bits : He.DefD := mkD ("bits", none) "bits" "bits" s_bits
def d_weight : He.DefD := mkD ("weight", none) "weight" "weight" s_weight
def d_premises : He.DefD := mkD ("premises", none) "premises" "premises" s_premises
def d_chosen : He.DefD := mkD ("chosen", none) "chosen" "chosen" s_chosen
def d_first_open : He.DefD := mkD ("first_open", none) "first_open" "first_open" s_first_open
def d_tried : He.DefD := mkD ("tried", none) "tried" "tried" s_tried
def d_completed : He.DefD := mkD ("completed", none) "completed" "completed" s_completed
def d_need_rows : He.DefD := mkD ("need_rows", none) "need_rows" "need_rows" s_need_rows
def d_values_of : He.DefD := mkD ("values_of", none) "values_of" "values_of" s_values_of
def d_known_of : He.DefD := mkD ("known_of", none) "known_of" "known_of" s_known_of
def d_whole_order : He.DefD := mkD ("whole_order", none) "whole_order" "whole_order" s_whole_order
def d_with_ends : He.DefD := mkD ("with_ends", none) "with_ends" "with_ends" s_with_ends
def d_order_behind : He.DefD := mkD ("order_behind", none) "order_behind" "order_behind" s_order_behind
def d_ranks : He.DefD := mkD ("ranks", none) "ranks" "ranks" s_ranks
def d_orders : He.DefD := mkD ("orders", none) "orders" "orders" s_orders
def d_law_begun : He.DefD := mkD ("_law_begun", none) "_law_begun" "_law_begun" s_law_begun
def d_law_next : He.DefD := mkD ("_law_next", none) "_law_next" "_law_next" s_law_next
def d_law_pick : He.DefD := mkD ("_law_pick", none) "_law_pick" "_law_pick" s_law_pick
def d_law_shuffled : He.DefD := mkD ("_law_shuffled", none) "_law_shuffled" "_law_shuffled" s_law_shuffled
def d_law_other : He.DefD := mkD ("_law_other", none) "_law_other" "_law_other" s_law_other
def d_law_swapped : He.DefD := mkD ("_law_swapped", none) "_law_swapped" "_law_swapped" s_law_swapped
def d_law_some : He.DefD := mkD ("_law_some", none) "_law_some" "_law_some" s_law_some
def d_law_row : He.DefD := mkD ("_law_row", none) "_law_row" "_law_row" s_law_row
def d_law_rides : He.DefD := mkD ("_law_rides", none) "_law_rides" "_law_rides" s_law_rides
def d_law_moment : He.DefD := mkD ("_law_moment", none) "_law_moment" "_law_moment" s_law_moment
def d_law_end : He.DefD := mkD ("_law_end", none) "_law_end" "_law_end" s_law_end
def d_law_begin : He.DefD := mkD ("_law_begin", none) "_law_begin" "_law_begin" s_law_begin
def d_law_go : He.DefD := mkD ("_law_go", none) "_law_go" "_law_go" s_law_go
def d_law_lines : He.DefD := mkD ("_law_lines", none) "_law_lines" "_law_lines" s_law_lines
def d_law_place : He.DefD := mkD ("_law_place", none) "_law_place" "_law_place" s_law_place
def d_law_order_of : He.DefD := mkD ("_law_order_of", none) "_law_order_of" "_law_order_of" s_law_order_of
def d_law_part : He.DefD := mkD ("_law_part", none) "_law_part" "_law_part" s_law_part
def d_law_ends : He.DefD := mkD ("_law_ends", none) "_law_ends" "_law_ends" s_law_ends
def d_law_dense : He.DefD := mkD ("_law_dense", none) "_law_dense" "_law_dense" s_law_dense
def d_law_same : He.DefD := mkD ("_law_same", none) "_law_same" "_law_same" s_law_same
def d_law_made : He.DefD := mkD ("_law_made", none) "_law_made" "_law_made" s_law_made
def d_law : He.DefD := mkD ("law", none) "law" "law" s_law
def fn : List He.DefD := [d_is_row, d_never_slower, d_row_values, d_step_rules, d_O_init, d_O_is_upto, d_O_is_below, d_O_with_more, d_O_put, d_O_go_through, d_O_use_rules, d_O_close, d_O_is_contrary, d_is_open, d_bits, d_weight, d_premises, d_chosen, d_first_open, d_tried, d_completed, d_need_rows, d_values_of, d_known_of, d_whole_order, d_with_ends, d_order_behind, d_ranks, d_orders, d_law_begun, d_law_next, d_law_pick, d_law_shuffled, d_law_other, d_law_swapped, d_law_some, d_law_row, d_law_rides, d_law_moment, d_law_end, d_law_begin, d_law_go, d_law_lines, d_law_place, d_law_order_of, d_law_part, d_law_ends, d_law_dense, d_law_same, d_law_made, d_law]
def fa : List He.Fa := [.free "isinstance", .free "len", .free "all", .free "sum", .free "any", .free "range",
  .free "sorted", .free "set", .free "list", .free "tuple", .free "dict", .free "zip",
  .free "enumerate", .free "abs", .free "int", .free "min", .free "str", .glo "is_row",
  .glo "never_slower", .glo "row_values", .glo "step_rules", .glo "is_open", .glo "bits", .glo "weight",
  .glo "premises", .glo "chosen", .glo "first_open", .glo "tried", .glo "completed", .glo "need_rows",
  .glo "values_of", .glo "known_of", .glo "whole_order", .glo "with_ends", .glo "order_behind", .glo "ranks",
  .glo "orders", .glo "_law_begun", .glo "_law_next", .glo "_law_pick", .glo "_law_shuffled", .glo "_law_other",
  .glo "_law_swapped", .glo "_law_some", .glo "_law_row", .glo "_law_rides", .glo "_law_moment", .glo "_law_end",
  .glo "_law_begin", .glo "_law_go", .glo "_law_lines", .glo "_law_place", .glo "_law_order_of", .glo "_law_part",
  .glo "_law_ends", .glo "_law_dense", .glo "_law_same", .glo "_law_made", .glo "law", .glo "Order",
  .int "MOST_STEPS_rows" 60, .int "MOST_LOOKED_AT" 12, .int "MOST_ROWS" 4, .int "MOST_STEPS_orders" 8, .str "LINKS" "abcd", .str "STEPS" "ABCDabcd",
  .cls "Order", .mkr "Order", .keep "Order", .noat "Order" "rules", .noat "Order" "joints", .noat "Order" "upto",
  .noat "Order" "below", .meth "Order" "is_upto", .meth "Order" "is_below", .meth "Order" "with_more", .meth "Order" "put", .meth "Order" "go_through",
  .meth "Order" "use_rules", .meth "Order" "close", .meth "Order" "is_contrary"]
def loose : List Str := (["OrderError", "NoRow", "TooMany", "LINKS", "STEPS", "MOST_STEPS_rows", "is_row", "never_slower", "row_values", "step_rules", "Order", "MOST_LOOKED_AT"] : List Str) ++ (["is_open", "bits", "weight", "premises", "chosen", "first_open", "tried", "completed", "MOST_ROWS", "MOST_STEPS_orders", "need_rows", "values_of"] : List Str) ++ (["known_of", "whole_order", "with_ends", "order_behind", "ranks", "orders", "_law_begun", "_law_next", "_law_pick", "_law_shuffled", "_law_other", "_law_swapped"] : List Str) ++ (["_law_some", "_law_row", "_law_rides", "_law_moment", "_law_end", "_law_begin", "_law_go", "_law_lines", "_law_place", "_law_order_of", "_law_part", "_law_ends"] : List Str) ++ (["_law_dense", "_law_same", "_law_made"] : List Str)
abbrev R : PySem.W.OpenRow := PySem.W.OpenLaw.row PySem.Challenge.rw_newsinorder_k54_whole_orders_turned_and
abbrev hk : PySem.W.Hook := He.hookD 6 fa fn
def ob (s : PySem.W.SharedT) : He.AlD := He.obsDG 6 fa fn (HandSHeadRun.getT s)
theorem ob_eq (s : PySem.W.SharedT) : ob s = hk.obs s.abs := He.obsDG_eq (HandSHeadRun.getT_eq s)
theorem run (w : World) : HandSHeadRun.RunEq R (PySem.W.view R.prog [57]) hk ob 4000 loose w := by
  intro os
  kernel_rfl
theorem facts {P : Program} {w : World} {K : PySem.W.Frag} {h : Heap} {mg : Str → Option Value} {f : Addr} (X : K.In h) (G : h.Ns mainGlobals mg) (hfa : mg ("law" : Str) = some (.ref f)) (c : He.SaysD fa fn K) :
    ∃ fd : FuncData, (∀ (s : Shared) (v : Value), BindsTo s fd ⟨[v], []⟩ [("_law_script", v)]) ∧ ∀ base : Heap, K.In base → base.Ns mainGlobals mg → FnOk P w K mg base CX0 11 f fd ["_law_script"] (spLaw K) := by
  have T : OC K (He.ga K "Order") := ⟨He.cls_ok (c.fact 66 (f := .cls "Order") rfl), He.noat_ok (c.fact 69 (f := .noat "Order" "rules") rfl), He.noat_ok (c.fact 70 (f := .noat "Order" "joints") rfl), He.noat_ok (c.fact 71 (f := .noat "Order" "upto") rfl), He.noat_ok (c.fact 72 (f := .noat "Order" "below") rfl)⟩
  have GT : Txt mg := ⟨He.free_ok X G (c.fact 0 (f := .free "isinstance") rfl), He.free_ok X G (c.fact 1 (f := .free "len") rfl), He.free_ok X G (c.fact 2 (f := .free "all") rfl), He.free_ok X G (c.fact 3 (f := .free "sum") rfl), He.free_ok X G (c.fact 4 (f := .free "any") rfl), He.free_ok X G (c.fact 5 (f := .free "range") rfl), He.free_ok X G (c.fact 6 (f := .free "sorted") rfl), He.free_ok X G (c.fact 7 (f := .free "set") rfl), He.free_ok X G (c.fact 8 (f := .free "list") rfl), He.free_ok X G (c.fact 9 (f := .free "tuple") rfl), He.free_ok X G (c.fact 10 (f := .free "dict") rfl), He.free_ok X G (c.fact 11 (f := .free "zip") rfl), He.free_ok X G (c.fact 12 (f := .free "enumerate") rfl), He.free_ok X G (c.fact 13 (f := .free "abs") rfl), He.free_ok X G (c.fact 14 (f := .free "int") rfl), He.free_ok X G (c.fact 15 (f := .free "min") rfl), He.free_ok X G (c.fact 16 (f := .free "str") rfl), He.int_ok X G (c.fact 60 (f := .int "MOST_STEPS_rows" 60) rfl), He.int_ok X G (c.fact 61 (f := .int "MOST_LOOKED_AT" 12) rfl), He.int_ok X G (c.fact 62 (f := .int "MOST_ROWS" 4) rfl), He.int_ok X G (c.fact 63 (f := .int "MOST_STEPS_orders" 8) rfl), He.str_ok X G (c.fact 64 (f := .str "LINKS" "abcd") rfl), He.str_ok X G (c.fact 65 (f := .str "STEPS" "ABCDabcd") rfl)⟩
  have gO : mg "Order" = some (.ref (He.ga K "Order")) := He.glo_ok X G (c.fact 59 (f := .glo "Order") rfl)
  obtain ⟨fd0, F0⟩ := c.def_ 0 (d := d_is_row) rfl
  obtain ⟨fd1, F1⟩ := c.def_ 1 (d := d_never_slower) rfl
  obtain ⟨fd2, F2⟩ := c.def_ 2 (d := d_row_values) rfl
  obtain ⟨fd3, F3⟩ := c.def_ 3 (d := d_step_rules) rfl
  obtain ⟨fd4, F4⟩ := c.def_ 4 (d := d_O_init) rfl
  obtain ⟨fd5, F5⟩ := c.def_ 5 (d := d_O_is_upto) rfl
  obtain ⟨fd6, F6⟩ := c.def_ 6 (d := d_O_is_below) rfl
  obtain ⟨fd7, F7⟩ := c.def_ 7 (d := d_O_with_more) rfl
  obtain ⟨fd8, F8⟩ := c.def_ 8 (d := d_O_put) rfl
  obtain ⟨fd9, F9⟩ := c.def_ 9 (d := d_O_go_through) rfl
  obtain ⟨fd10, F10⟩ := c.def_ 10 (d := d_O_use_rules) rfl
  obtain ⟨fd11, F11⟩ := c.def_ 11 (d := d_O_close) rfl
  obtain ⟨fd12, F12⟩ := c.def_ 12 (d := d_O_is_contrary) rfl
  obtain ⟨fd13, F13⟩ := c.def_ 13 (d := d_is_open) rfl
  obtain ⟨fd14, F14⟩ := c.def_ 14 (d := d_bits) rfl
  obtain ⟨fd15, F15⟩ := c.def_ 15 (d := d_weight) rfl
  obtain ⟨fd16, F16⟩ := c.def_ 16 (d := d_premises) rfl
  obtain ⟨fd17, F17⟩ := c.def_ 17 (d := d_chosen) rfl
  obtain ⟨fd18, F18⟩ := c.def_ 18 (d := d_first_open) rfl
  obtain ⟨fd19, F19⟩ := c.def_ 19 (d := d_tried) rfl
  obtain ⟨fd20, F20⟩ := c.def_ 20 (d := d_completed) rfl
  obtain ⟨fd21, F21⟩ := c.def_ 21 (d := d_need_rows) rfl
  obtain ⟨fd22, F22⟩ := c.def_ 22 (d := d_values_of) rfl
  obtain ⟨fd23, F23⟩ := c.def_ 23 (d := d_known_of) rfl
  obtain ⟨fd24, F24⟩ := c.def_ 24 (d := d_whole_order) rfl
  obtain ⟨fd25, F25⟩ := c.def_ 25 (d := d_with_ends) rfl
  obtain ⟨fd26, F26⟩ := c.def_ 26 (d := d_order_behind) rfl
  obtain ⟨fd27, F27⟩ := c.def_ 27 (d := d_ranks) rfl
  obtain ⟨fd28, F28⟩ := c.def_ 28 (d := d_orders) rfl
  obtain ⟨fd29, F29⟩ := c.def_ 29 (d := d_law_begun) rfl
  obtain ⟨fd30, F30⟩ := c.def_ 30 (d := d_law_next) rfl
  obtain ⟨fd31, F31⟩ := c.def_ 31 (d := d_law_pick) rfl
  obtain ⟨fd32, F32⟩ := c.def_ 32 (d := d_law_shuffled) rfl
  obtain ⟨fd33, F33⟩ := c.def_ 33 (d := d_law_other) rfl
  obtain ⟨fd34, F34⟩ := c.def_ 34 (d := d_law_swapped) rfl
  obtain ⟨fd35, F35⟩ := c.def_ 35 (d := d_law_some) rfl
  obtain ⟨fd36, F36⟩ := c.def_ 36 (d := d_law_row) rfl
  obtain ⟨fd37, F37⟩ := c.def_ 37 (d := d_law_rides) rfl
  obtain ⟨fd38, F38⟩ := c.def_ 38 (d := d_law_moment) rfl
  obtain ⟨fd39, F39⟩ := c.def_ 39 (d := d_law_end) rfl
  obtain ⟨fd40, F40⟩ := c.def_ 40 (d := d_law_begin) rfl
  obtain ⟨fd41, F41⟩ := c.def_ 41 (d := d_law_go) rfl
  obtain ⟨fd42, F42⟩ := c.def_ 42 (d := d_law_lines) rfl
  obtain ⟨fd43, F43⟩ := c.def_ 43 (d := d_law_place) rfl
  obtain ⟨fd44, F44⟩ := c.def_ 44 (d := d_law_order_of) rfl
  obtain ⟨fd45, F45⟩ := c.def_ 45 (d := d_law_part) rfl
  obtain ⟨fd46, F46⟩ := c.def_ 46 (d := d_law_ends) rfl
  obtain ⟨fd47, F47⟩ := c.def_ 47 (d := d_law_dense) rfl
  obtain ⟨fd48, F48⟩ := c.def_ 48 (d := d_law_same) rfl
  obtain ⟨fd49, F49⟩ := c.def_ 49 (d := d_law_made) rfl
  obtain ⟨fd50, F50⟩ := c.def_ 50 (d := d_law) rfl
  have e := hfa.symm.trans (He.glo_ok X G (c.fact 58 (f := .glo "law") rfl))
  cases e
  have b := FunD.bindsA (ps := ["_law_script"]) F50 fun _ _ _ _ _ _ us hl => match us, hl with | [_], _ => rfl
  refine ⟨fd50, fun s v => b s [v] rfl, fun base _ _ => ?_⟩
  have D_init : DfI P w K mg base (He.ga K "Order") 1 ["self", "rules", "joints", "upto", "below"] (spInit (He.ga K "Order")) := ⟨_, _, ok_init T F4, He.mkr_ok (c.fact 67 (f := .mkr "Order") rfl), (F4.bindsN fun _ _ _ _ _ _ us hl => match us, hl with | [_, _, _, _, _], _ => rfl)⟩
  have M_is_upto : DfM P w K mg base (He.ga K "Order") "is_upto" 1 ["self", "i", "j"] (spUpto (He.ga K "Order")) := ⟨_, _, ok_upto T F5, He.meth_ok (c.fact 73 (f := .meth "Order" "is_upto") rfl), (F5.bindsN fun _ _ _ _ _ _ us hl => match us, hl with | [_, _, _], _ => rfl)⟩
  have M_is_below : DfM P w K mg base (He.ga K "Order") "is_below" 1 ["self", "i", "j"] (spBelow (He.ga K "Order")) := ⟨_, _, ok_below T F6, He.meth_ok (c.fact 74 (f := .meth "Order" "is_below") rfl), (F6.bindsN fun _ _ _ _ _ _ us hl => match us, hl with | [_, _, _], _ => rfl)⟩
  have M_put : DfM P w K mg base (He.ga K "Order") "put" 1 ["self", "i", "j", "is_strict"] (spPut (He.ga K "Order")) := ⟨_, _, ok_put T F8, He.meth_ok (c.fact 76 (f := .meth "Order" "put") rfl), (F8.bindsN fun _ _ _ _ _ _ us hl => match us, hl with | [_, _, _, _], _ => rfl)⟩
  have M_is_contrary : DfM P w K mg base (He.ga K "Order") "is_contrary" 2 ["self"] (spContr (He.ga K "Order")) := ⟨_, _, ok_contr T GT M_is_below F12, He.meth_ok (c.fact 80 (f := .meth "Order" "is_contrary") rfl), (F12.bindsN fun _ _ _ _ _ _ us hl => match us, hl with | [_], _ => rfl)⟩
  have M_go_through : DfM P w K mg base (He.ga K "Order") "go_through" 2 ["self"] (spGo (He.ga K "Order")) := ⟨_, _, ok_go T GT M_is_upto M_is_below F9, He.meth_ok (c.fact 77 (f := .meth "Order" "go_through") rfl), (F9.bindsN fun _ _ _ _ _ _ us hl => match us, hl with | [_], _ => rfl)⟩
  have M_use_rules : DfM P w K mg base (He.ga K "Order") "use_rules" 2 ["self"] (spRules (He.ga K "Order")) := ⟨_, _, ok_rules T M_is_upto M_is_below M_put F10, He.meth_ok (c.fact 78 (f := .meth "Order" "use_rules") rfl), (F10.bindsN fun _ _ _ _ _ _ us hl => match us, hl with | [_], _ => rfl)⟩
  have M_close : DfM P w K mg base (He.ga K "Order") "close" 3 ["self"] (spClose (He.ga K "Order")) := ⟨_, _, ok_close T GT M_is_contrary M_go_through M_use_rules F11, He.meth_ok (c.fact 79 (f := .meth "Order" "close") rfl), (F11.bindsN fun _ _ _ _ _ _ us hl => match us, hl with | [_], _ => rfl)⟩
  have M_with_more : DfM P w K mg base (He.ga K "Order") "with_more" 4 ["self", "i", "j", "is_strict"] (spMore (He.ga K "Order")) := ⟨_, _, ok_more T GT gO D_init M_put M_close F7, He.meth_ok (c.fact 75 (f := .meth "Order" "with_more") rfl), (F7.bindsN fun _ _ _ _ _ _ us hl => match us, hl with | [_, _, _, _], _ => rfl)⟩
  have D_is_open : Df P w K mg base "is_open" 2 ["order", "i", "j"] (spOpen (He.ga K "Order")) := ⟨_, _, ok_open T M_is_upto M_is_below F13, He.glo_ok X G (c.fact 21 (f := .glo "is_open") rfl), F13.kp, (F13.bindsN fun _ _ _ _ _ _ us hl => match us, hl with | [_, _, _], _ => rfl)⟩
  have D_bits : Df P w K mg base "bits" 1 ["number"] spBits := ⟨_, _, ok_bits  F14, He.glo_ok X G (c.fact 22 (f := .glo "bits") rfl), F14.kp, (F14.bindsN fun _ _ _ _ _ _ us hl => match us, hl with | [_], _ => rfl)⟩
  have D_weight : Df P w K mg base "weight" 3 ["order"] (spWeight (He.ga K "Order")) := ⟨_, _, ok_weight T GT M_is_contrary D_bits F15, He.glo_ok X G (c.fact 23 (f := .glo "weight") rfl), F15.kp, (F15.bindsN fun _ _ _ _ _ _ us hl => match us, hl with | [_], _ => rfl)⟩
  have D_first_open : Df P w K mg base "first_open" 3 ["order"] (spFirst (He.ga K "Order")) := ⟨_, _, ok_first T GT D_is_open F18, He.glo_ok X G (c.fact 26 (f := .glo "first_open") rfl), F18.kp, (F18.bindsN fun _ _ _ _ _ _ us hl => match us, hl with | [_], _ => rfl)⟩
  have D_premises : Df P w K mg base "premises" 3 ["order"] (spPrem (He.ga K "Order")) := ⟨_, _, ok_prem T GT D_is_open F16, He.glo_ok X G (c.fact 24 (f := .glo "premises") rfl), F16.kp, (F16.bindsN fun _ _ _ _ _ _ us hl => match us, hl with | [_], _ => rfl)⟩
  have D_chosen : Df P w K mg base "chosen" 5 ["order"] (spChosen (He.ga K "Order")) := ⟨_, _, ok_chosen T GT D_premises D_weight M_with_more D_first_open F17, He.glo_ok X G (c.fact 25 (f := .glo "chosen") rfl), F17.kp, (F17.bindsN fun _ _ _ _ _ _ us hl => match us, hl with | [_], _ => rfl)⟩
  have D_tried : Df P w K mg base "tried" 5 ["order", "i", "j"] (spTried (He.ga K "Order")) := ⟨_, _, ok_tried T M_with_more M_is_contrary F19, He.glo_ok X G (c.fact 27 (f := .glo "tried") rfl), F19.kp, (F19.bindsN fun _ _ _ _ _ _ us hl => match us, hl with | [_, _, _], _ => rfl)⟩
  have D_completed : Df P w K mg base "completed" 6 ["order"] (spCompleted (He.ga K "Order")) := ⟨_, _, ok_completed D_premises D_first_open D_tried F20, He.glo_ok X G (c.fact 28 (f := .glo "completed") rfl), F20.kp, (F20.bindsN fun _ _ _ _ _ _ us hl => match us, hl with | [_], _ => rfl)⟩
  have D_whole_order : Df P w K mg base "whole_order" 7 ["known"] (spWhole (He.ga K "Order")) := ⟨_, _, ok_whole T M_with_more M_is_contrary D_completed D_chosen F24, He.glo_ok X G (c.fact 32 (f := .glo "whole_order") rfl), F24.kp, (F24.bindsN fun _ _ _ _ _ _ us hl => match us, hl with | [_], _ => rfl)⟩
  have D_with_ends : Df P w K mg base "with_ends" 5 ["known", "ends", "order"] (spEnds (He.ga K "Order")) := ⟨_, _, ok_ends T GT M_with_more M_is_contrary F25, He.glo_ok X G (c.fact 33 (f := .glo "with_ends") rfl), F25.kp, (F25.bindsN fun _ _ _ _ _ _ us hl => match us, hl with | [_, _, _], _ => rfl)⟩
  have D_is_row : Df P w K mg base "is_row" 1 ["thing"] spIsRow := ⟨_, _, ok_isrow GT F0, He.glo_ok X G (c.fact 17 (f := .glo "is_row") rfl), F0.kp, (F0.bindsN fun _ _ _ _ _ _ us hl => match us, hl with | [_], _ => rfl)⟩
  have D_never_slower : Df P w K mg base "never_slower" 1 ["facts"] spSlow := ⟨_, _, ok_slow GT F1, He.glo_ok X G (c.fact 18 (f := .glo "never_slower") rfl), F1.kp, (F1.bindsN fun _ _ _ _ _ _ us hl => match us, hl with | [_], _ => rfl)⟩
  have D_row_values : Df P w K mg base "row_values" 1 ["row", "start", "found"] spRowV := ⟨_, _, ok_rowv GT F2, He.glo_ok X G (c.fact 19 (f := .glo "row_values") rfl), F2.kp, (F2.bindsN fun _ _ _ _ _ _ us hl => match us, hl with | [_, _, _], _ => rfl)⟩
  have D_step_rules : Df P w K mg base "step_rules" 1 ["listed", "slower"] spStep := ⟨_, _, ok_step GT F3, He.glo_ok X G (c.fact 20 (f := .glo "step_rules") rfl), F3.kp, (F3.bindsN fun _ _ _ _ _ _ us hl => match us, hl with | [_, _], _ => rfl)⟩
  have D_values_of : Df P w K mg base "values_of" 2 ["rows"] spValues := ⟨_, _, ok_values D_row_values F22, He.glo_ok X G (c.fact 30 (f := .glo "values_of") rfl), F22.kp, (F22.bindsN fun _ _ _ _ _ _ us hl => match us, hl with | [_], _ => rfl)⟩
  have D_known_of : Df P w K mg base "known_of" 4 ["listed"] (spKnown (He.ga K "Order")) := ⟨_, _, ok_known T GT gO D_init M_put M_close D_step_rules D_never_slower F23, He.glo_ok X G (c.fact 31 (f := .glo "known_of") rfl), F23.kp, (F23.bindsN fun _ _ _ _ _ _ us hl => match us, hl with | [_], _ => rfl)⟩
  have D_need_rows : Df P w K mg base "need_rows" 2 ["rows"] spNeed := ⟨_, _, ok_need GT D_is_row F21, He.glo_ok X G (c.fact 29 (f := .glo "need_rows") rfl), F21.kp, (F21.bindsN fun _ _ _ _ _ _ us hl => match us, hl with | [_], _ => rfl)⟩
  have D_order_behind : Df P w K mg base "order_behind" 8 ["rows", "order"] spBehind := ⟨_, _, ok_behind T M_is_contrary D_values_of D_known_of D_with_ends D_whole_order F26, He.glo_ok X G (c.fact 34 (f := .glo "order_behind") rfl), F26.kp, (F26.bindsN fun _ _ _ _ _ _ us hl => match us, hl with | [_, _], _ => rfl)⟩
  have D_ranks : Df P w K mg base "ranks" 1 ["many"] spRanks := ⟨_, _, ok_ranks GT F27, He.glo_ok X G (c.fact 35 (f := .glo "ranks") rfl), F27.kp, (F27.bindsN fun _ _ _ _ _ _ us hl => match us, hl with | [_], _ => rfl)⟩
  have D_orders : Df P w K mg base "orders" 9 ["rows"] spOrders := ⟨_, _, ok_orders GT D_need_rows D_ranks D_order_behind F28, He.glo_ok X G (c.fact 36 (f := .glo "orders") rfl), F28.kp, (F28.bindsN fun _ _ _ _ _ _ us hl => match us, hl with | [_], _ => rfl)⟩
  have D_law_begun : Df P w K mg base "_law_begun" 1 ["_law_script"] (spBegun K) := ⟨_, _, ok_begun GT F29, He.glo_ok X G (c.fact 37 (f := .glo "_law_begun") rfl), F29.kp, (F29.bindsN fun _ _ _ _ _ _ us hl => match us, hl with | [_], _ => rfl)⟩
  have D_law_next : Df P w K mg base "_law_next" 1 ["_law_draw", "_law_many"] spNext := ⟨_, _, ok_next GT F30, He.glo_ok X G (c.fact 38 (f := .glo "_law_next") rfl), F30.kp, (F30.bindsN fun _ _ _ _ _ _ us hl => match us, hl with | [_, _], _ => rfl)⟩
  have D_law_pick : Df P w K mg base "_law_pick" 2 ["_law_draw", "_law_some_here"] spPick := ⟨_, _, ok_pick GT D_law_next F31, He.glo_ok X G (c.fact 39 (f := .glo "_law_pick") rfl), F31.kp, (F31.bindsN fun _ _ _ _ _ _ us hl => match us, hl with | [_, _], _ => rfl)⟩
  have D_law_other : Df P w K mg base "_law_other" 1 ["_law_step"] spOther := ⟨_, _, ok_other  F33, He.glo_ok X G (c.fact 41 (f := .glo "_law_other") rfl), F33.kp, (F33.bindsN fun _ _ _ _ _ _ us hl => match us, hl with | [_], _ => rfl)⟩
  have D_law_swapped : Df P w K mg base "_law_swapped" 2 ["_law_text"] spSwapped := ⟨_, _, ok_swapped D_law_other F34, He.glo_ok X G (c.fact 42 (f := .glo "_law_swapped") rfl), F34.kp, (F34.bindsN fun _ _ _ _ _ _ us hl => match us, hl with | [_], _ => rfl)⟩
  have D_law_shuffled : Df P w K mg base "_law_shuffled" 2 ["_law_draw", "_law_some_here"] spShuffled := ⟨_, _, ok_shuffled GT D_law_next F32, He.glo_ok X G (c.fact 40 (f := .glo "_law_shuffled") rfl), F32.kp, (F32.bindsN fun _ _ _ _ _ _ us hl => match us, hl with | [_, _], _ => rfl)⟩
  have D_law_some : Df P w K mg base "_law_some" 3 ["_law_draw", "_law_many"] spSome := ⟨_, _, ok_some GT D_law_next D_law_shuffled F35, He.glo_ok X G (c.fact 43 (f := .glo "_law_some") rfl), F35.kp, (F35.bindsN fun _ _ _ _ _ _ us hl => match us, hl with | [_, _], _ => rfl)⟩
  have D_law_row : Df P w K mg base "_law_row" 3 ["_law_draw", "_law_letters", "_law_many"] spRow := ⟨_, _, ok_row GT D_law_next D_law_pick D_law_other F36, He.glo_ok X G (c.fact 44 (f := .glo "_law_row") rfl), F36.kp, (F36.bindsN fun _ _ _ _ _ _ us hl => match us, hl with | [_, _, _], _ => rfl)⟩
  have D_law_rides : Df P w K mg base "_law_rides" 2 ["_law_draw", "_law_many", "_law_wide"] spRides := ⟨_, _, ok_rides GT D_law_next F37, He.glo_ok X G (c.fact 45 (f := .glo "_law_rides") rfl), F37.kp, (F37.bindsN fun _ _ _ _ _ _ us hl => match us, hl with | [_, _, _], _ => rfl)⟩
  have D_law_moment : Df P w K mg base "_law_moment" 3 ["_law_draw", "_law_wide"] spMoment := ⟨_, _, ok_moment GT D_law_next D_law_pick F38, He.glo_ok X G (c.fact 46 (f := .glo "_law_moment") rfl), F38.kp, (F38.bindsN fun _ _ _ _ _ _ us hl => match us, hl with | [_, _], _ => rfl)⟩
  have D_law_end : Df P w K mg base "_law_end" 1 ["_law_rides_here", "_law_moment_here"] spEnd := ⟨_, _, ok_end GT F39, He.glo_ok X G (c.fact 47 (f := .glo "_law_end") rfl), F39.kp, (F39.bindsN fun _ _ _ _ _ _ us hl => match us, hl with | [_, _], _ => rfl)⟩
  have D_law_begin : Df P w K mg base "_law_begin" 1 ["_law_rides_here", "_law_moment_here"] spBegin := ⟨_, _, ok_begin GT F40, He.glo_ok X G (c.fact 48 (f := .glo "_law_begin") rfl), F40.kp, (F40.bindsN fun _ _ _ _ _ _ us hl => match us, hl with | [_, _], _ => rfl)⟩
  have D_denseL : Df P w K mg base "_law_dense" 1 ["_law_order"] spDenseL := ⟨_, _, ok_denseL GT F47, He.glo_ok X G (c.fact 55 (f := .glo "_law_dense") rfl), F47.kp, (F47.bindsN fun _ _ _ _ _ _ us hl => match us, hl with | [_], _ => rfl)⟩
  have D_denseT : Df P w K mg base "_law_dense" 1 ["_law_order"] spDenseT := ⟨_, _, ok_denseT GT F47, He.glo_ok X G (c.fact 55 (f := .glo "_law_dense") rfl), F47.kp, (F47.bindsN fun _ _ _ _ _ _ us hl => match us, hl with | [_], _ => rfl)⟩
  have D_law_place : Df P w K mg base "_law_place" 1 ["_law_moment_here"] spPlace := ⟨_, _, ok_place  F43, He.glo_ok X G (c.fact 51 (f := .glo "_law_place") rfl), F43.kp, (F43.bindsN fun _ _ _ _ _ _ us hl => match us, hl with | [_], _ => rfl)⟩
  have D_law_order_of : Df P w K mg base "_law_order_of" 2 ["_law_moments"] spOrderOf := ⟨_, _, ok_order_of GT D_law_place F44, He.glo_ok X G (c.fact 52 (f := .glo "_law_order_of") rfl), F44.kp, (F44.bindsN fun _ _ _ _ _ _ us hl => match us, hl with | [_], _ => rfl)⟩
  have D_law_go : Df P w K mg base "_law_go" 2 ["_law_lines_here", "_law_row_here", "_law_moment_here"] spGoL := ⟨_, _, ok_goL D_law_end D_law_begin F41, He.glo_ok X G (c.fact 49 (f := .glo "_law_go") rfl), F41.kp, (F41.bindsN fun _ _ _ _ _ _ us hl => match us, hl with | [_, _, _], _ => rfl)⟩
  have D_law_ends : Df P w K mg base "_law_ends" 3 ["_law_lines_here", "_law_rows", "_law_moment_here"] spEndsL := ⟨_, _, ok_endsL D_law_go F46, He.glo_ok X G (c.fact 54 (f := .glo "_law_ends") rfl), F46.kp, (F46.bindsN fun _ _ _ _ _ _ us hl => match us, hl with | [_, _, _], _ => rfl)⟩
  have D_law_part : Df P w K mg base "_law_part" 4 ["_law_draw", "_law_letters", "_law_steps", "_law_most"] spPart := ⟨_, _, ok_part GT D_law_next D_law_pick D_law_row F45, He.glo_ok X G (c.fact 53 (f := .glo "_law_part") rfl), F45.kp, (F45.bindsN fun _ _ _ _ _ _ us hl => match us, hl with | [_, _, _, _], _ => rfl)⟩
  have D_law_same : Df P w K mg base "_law_same" 10 ["_law_found", "_law_rows"] spSame := ⟨_, _, ok_same D_orders F48, He.glo_ok X G (c.fact 56 (f := .glo "_law_same") rfl), F48.kp, (F48.bindsN fun _ _ _ _ _ _ us hl => match us, hl with | [_, _], _ => rfl)⟩
  have D_law_lines : Df P w K mg base "_law_lines" 3 ["_law_draw", "_law_letters", "_law_many", "_law_wide"] spLines := ⟨_, _, ok_lines GT D_law_rides F42, He.glo_ok X G (c.fact 50 (f := .glo "_law_lines") rfl), F42.kp, (F42.bindsN fun _ _ _ _ _ _ us hl => match us, hl with | [_, _, _, _], _ => rfl)⟩
  have D_law_made : Df P w K mg base "_law_made" 3 ["_law_draw", "_law_rows"] spMade := ⟨_, _, ok_made D_law_next D_law_pick F49, He.glo_ok X G (c.fact 57 (f := .glo "_law_made") rfl), F49.kp, (F49.bindsN fun _ _ _ _ _ _ us hl => match us, hl with | [_, _], _ => rfl)⟩
  exact ok_law GT ⟨D_law_begun, D_law_pick, D_law_shuffled, D_law_swapped, D_law_some, D_law_part, D_orders, D_law_same, D_denseL, D_denseT, D_law_made, D_law_lines, D_law_moment, D_law_ends, D_law_order_of⟩ F50
end K54H
open PySem PySem.W PySem.Calls PyProof.Rows
theorem PySem.Challenge.cw_newsinorder_k54_whole_orders_turned_and_holds : PySem.Challenge.rw_newsinorder_k54_whole_orders_turned_and.Holds := by
  w_on; o_law
  refine HandSHeadRun.head_any (r := OpenLaw.row PySem.Challenge.rw_newsinorder_k54_whole_orders_turned_and) (q := view (OpenLaw.row PySem.Challenge.rw_newsinorder_k54_whole_orders_turned_and).prog [57]) (H := K54H.hk) (ob := K54H.ob) (M := 4000) (loose := K54H.loose) (d := HandSHeadRun.topDef (OpenLaw.row PySem.Challenge.rw_newsinorder_k54_whole_orders_turned_and).prog 57) (kwd := []) K54H.ob_eq
    (by kernel_rfl) (fun s => by kernel_rfl) K54H.run (by kernel_rfl) (by kernel_rfl) (by kernel_rfl) (by rfl) (by first | assumption | decide +kernel) (by decide +kernel) ⟨rfl, rfl, rfl, rfl, rfl, by decide +kernel⟩ ?hw ?hc
  case hw => w_witness2
  case hc =>
    refine L2.walk_ofE (l := PySem.Challenge.rw_newsinorder_k54_whole_orders_turned_and) (n := 63) (k := 11) (x := "_law_script") (CX := L2.CX0) rfl (by decide) (by kernel_rfl) ⟨rfl, by decide, by decide⟩ ?F (fun _ _ _ _ z => z)
    intro w mg fa h Y G hmg0
    obtain ⟨K, KX, c⟩ := Y
    have hmg : mg ("law" : PySem.Str) = some (.ref fa) := by
      have e : (HandSHeadRun.topDef (OpenLaw.row PySem.Challenge.rw_newsinorder_k54_whole_orders_turned_and).prog 57).name = ("law" : PySem.Str) := by kernel_rfl
      rw [← e]
      exact hmg0
    obtain ⟨fd, hb, hF⟩ := K54H.facts (P := (PySem.Challenge.rw_newsinorder_k54_whole_orders_turned_and).prog) (w := w) KX G hmg c
    exact ⟨K, fd, K54.spLaw K, KX, hb, fun H a ns hl _ hS => ⟨a, ns, rfl, hS, hl, fun _ => rfl⟩, hF⟩
