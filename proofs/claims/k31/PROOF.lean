import PyProof.Rows.All
import PySem.Challenge.RW_latestword_k31_whole_slips_passed_by_sli
import PyProof.TupleKey
import HandS.Base
import Wide.All
import OpenK.AllK
import Wide.FinOn
import HandS.ForMost
import HandS.Walk
import HandS.Deep
import HandS.TupMul
import HandS.TupAny
import HandS.IsInst
import HandS.More
import HandS.DictComp
import HandS.Flow
import KE.GoesEnum
import KE.KDictCopyH
import KE.KDictKeyed
import KE.KeyNested
set_option Elab.async false
set_option linter.all false
set_option maxRecDepth 100000
set_option maxHeartbeats 4000000
/-! K31M: the mirror of slips in plain Lean, and its laws. -/
namespace K31
/-- a name: none, or a work and a label -/
abbrev Nm := Option (Nat × Nat)
structure Slip where
  f : List Nm
  s : List (List Nm)
  t : List (List (List Nm))
  deriving DecidableEq
def row0 (n : Nat) : List Nm := List.replicate n none
def mat0 (n : Nat) : List (List Nm) := List.replicate n (row0 n)
def blank (n : Nat) : Slip := ⟨row0 n, mat0 n, List.replicate n (mat0 n)⟩
/-- one turn of is_known -/
def knB (one other : Slip) (d at_ : Nat) : Bool :=
  (one.f.getD at_ none).isSome && (other.f.contains (one.f.getD at_ none) && decide ((one.s.getD at_ []).getD d none = one.f.getD d none))
def known (one other : Slip) (d : Nat) : Bool :=
  if one.f.getD d none = none then false else ((List.range one.f.length).map (knB one other d)).any id
/-- the other one has the newer news -/
def isOther (one other : Slip) (d : Nat) : Bool :=
  if one.f.getD d none = other.f.getD d none then false
  else if one.f.getD d none = none then true
  else if other.f.getD d none = none then false
  else known one other d
def nwStep (sl : List Slip) (d : Nat) (best at_ : Nat) : Nat := if isOther (sl.getD best (blank 0)) (sl.getD at_ (blank 0)) d then at_ else best
def nwTo (sl : List Slip) (d k : Nat) : Nat := (List.range' 1 k).foldl (nwStep sl d) 0
def newest (sl : List Slip) (d : Nat) : Nat := nwTo sl d (sl.length - 1)
theorem nwTo_succ (sl : List Slip) (d k : Nat) : nwTo sl d (k + 1) = nwStep sl d (nwTo sl d k) (1 + k) := by
  unfold nwTo
  rw [List.range'_concat, List.foldl_append]
  simp
theorem nwTo_lt (sl : List Slip) (d : Nat) : ∀ k, k < sl.length → nwTo sl d k < sl.length
  | 0, h => by simpa [nwTo] using h
  | k + 1, h => by
    rw [nwTo_succ]
    unfold nwStep
    split
    · omega
    · exact nwTo_lt sl d k (by omega)
theorem newest_lt {sl : List Slip} (d : Nat) (h : 0 < sl.length) : newest sl d < sl.length := nwTo_lt sl d _ (by omega)
/-- all names of the third news of some slips -/
def namesOf1 (s : Slip) : List Nm := (s.t.map List.flatten).flatten
def namesOf (sl : List Slip) : List Nm := (sl.map namesOf1).flatten
/-- the least label -/
def lbl (ns : List Nm) (w : Nat) : Nat := ((List.range (ns.length + 1)).find? fun l => !ns.contains (some (w, l))).getD 0
theorem subset_len {α : Type} [DecidableEq α] : ∀ (l m : List α), l.Nodup → (∀ x ∈ l, x ∈ m) → l.length ≤ m.length
  | [], _, _, _ => Nat.zero_le _
  | x :: r, m, hn, hs => by
    obtain ⟨h1, h2⟩ := List.nodup_cons.mp hn
    have hx : x ∈ m := hs x List.mem_cons_self
    have ih := subset_len r (m.erase x) h2 fun y hy => by
      refine (List.mem_erase_of_ne ?_).mpr (hs y (List.mem_cons_of_mem _ hy))
      rintro rfl
      exact h1 hy
    rw [List.length_erase_of_mem hx] at ih
    have : 0 < m.length := List.length_pos_of_mem hx
    rw [List.length_cons]
    omega
theorem lbl_some (ns : List Nm) (w : Nat) : ∃ l, ((List.range (ns.length + 1)).find? fun l => !ns.contains (some (w, l))) = some l := by
  cases e : (List.range (ns.length + 1)).find? fun l => !ns.contains (some (w, l)) with
  | some l => exact ⟨l, rfl⟩
  | none =>
    have h := List.find?_eq_none.mp e
    have hl := subset_len ((List.range (ns.length + 1)).map fun l => (some (w, l) : Nm)) ns
      (by
        refine List.Pairwise.map _ ?_ List.nodup_range
        intro a b hab e
        cases e
        exact hab rfl) fun x hx => by
      obtain ⟨l, hl, rfl⟩ := List.mem_map.mp hx
      have := h l hl
      simpa using this
    rw [List.length_map, List.length_range] at hl
    omega
theorem lbl_eq (ns : List Nm) (w : Nat) : ((List.range (ns.length + 1)).find? fun l => !ns.contains (some (w, l))) = some (lbl ns w) := by
  obtain ⟨l, e⟩ := lbl_some ns w
  unfold lbl
  rw [e]
  rfl
theorem lbl_not (ns : List Nm) (w : Nat) : ¬ some (w, lbl ns w) ∈ ns := by
  have h := List.find?_some (lbl_eq ns w)
  simpa using h
theorem lbl_le (ns : List Nm) (w : Nat) : lbl ns w ≤ ns.length := by
  have h := List.mem_of_find?_eq_some (lbl_eq ns w)
  rw [List.mem_range] at h
  omega
theorem lbl_least (ns : List Nm) (w l : Nat) (h : l < lbl ns w) : some (w, l) ∈ ns := by
  have e := lbl_eq ns w
  rw [List.find?_range_eq_some] at e
  have q := e.2.2 l h
  simpa using q
/-- the least label hangs on the names alone, none left out or not -/
theorem lbl_congr {ns ms : List Nm} {w : Nat} (h : ∀ l, some (w, l) ∈ ns ↔ some (w, l) ∈ ms) : lbl ns w = lbl ms w := by
  rcases Nat.lt_trichotomy (lbl ns w) (lbl ms w) with q | q | q
  · exact absurd ((h _).mpr (lbl_least ms w _ q)) (lbl_not ns w)
  · exact q
  · exact absurd ((h _).mp (lbl_least ns w _ q)) (lbl_not ms w)
/-! ### one work -/
def src (sl : List Slip) (d : Nat) : Slip := sl.getD (newest sl d) (blank 0)
def first (n : Nat) (lot : List Nat) (name : Nat × Nat) (sl : List Slip) : List Nm := (List.range n).map fun d => if d ∈ lot then some name else (src sl d).f.getD d none
def second (n : Nat) (lot : List Nat) (name : Nat × Nat) (sl : List Slip) : List (List Nm) := (List.range n).map fun d => if d ∈ lot then first n lot name sl else (src sl d).s.getD d []
def third (n : Nat) (lot : List Nat) (name : Nat × Nat) (sl : List Slip) : List (List (List Nm)) := (List.range n).map fun d => if d ∈ lot then second n lot name sl else (src sl d).t.getD d []
def slipNamed (n : Nat) (lot : List Nat) (name : Nat × Nat) (sl : List Slip) : Slip := ⟨first n lot name sl, second n lot name sl, third n lot name sl⟩
def nameFor (w : Nat) (sl : List Slip) : Nat × Nat := (w, lbl (namesOf sl) w)
def slipBehind (n : Nat) (lot : List Nat) (w : Nat) (sl : List Slip) : Slip := slipNamed n lot (nameFor w sl) sl
/-! ### rows of works -/
def setAll (st : List Slip) (lot : List Nat) (x : Slip) : List Slip := lot.foldl (fun st d => st.set d x) st
def ofLot (n : Nat) (st : List Slip) (lot : List Nat) : List Slip := lot.map fun d => st.getD d (blank n)
def step (n : Nat) (works : List (List Nat)) (st : List Slip) (w : Nat) : List Slip :=
  setAll st (works.getD w []) (slipBehind n (works.getD w []) w (ofLot n st (works.getD w [])))
def st0 (n : Nat) : List Slip := List.replicate n (blank n)
def run (n : Nat) (works : List (List Nat)) (row : List Nat) : List Slip := row.foldl (step n works) (st0 n)
theorem run_snoc (n : Nat) (works : List (List Nat)) (row : List Nat) (w : Nat) : run n works (row ++ [w]) = step n works (run n works row) w := by
  unfold run
  rw [List.foldl_append]
  rfl
theorem setAll_length : ∀ (lot : List Nat) (st : List Slip) (x : Slip), (setAll st lot x).length = st.length
  | [], _, _ => rfl
  | d :: r, st, x => by
    show (setAll (st.set d x) r x).length = _
    rw [setAll_length r, List.length_set]
theorem setAll_get : ∀ (lot : List Nat) (st : List Slip) (x : Slip) (d : Nat), (setAll st lot x)[d]? = if d ∈ lot ∧ d < st.length then some x else st[d]?
  | [], st, x, d => by simp [setAll]
  | c :: r, st, x, d => by
    show (setAll (st.set c x) r x)[d]? = _
    rw [setAll_get r, List.length_set, List.getElem?_set]
    by_cases h1 : d ∈ r
    · by_cases h2 : d < st.length
      · simp [h1, h2]
      · simp [h1, h2]
        intro e1
        omega
    · by_cases h3 : c = d
      · subst h3
        by_cases h2 : c < st.length
        · simp [h1, h2]
        · simp [h1, h2]
      · have h3' : ¬ d = c := fun e => h3 e.symm
        simp [h1, h3, h3']
theorem step_length (n : Nat) (works : List (List Nat)) (st : List Slip) (w : Nat) : (step n works st w).length = st.length := setAll_length _ _ _
theorem run_length (n : Nat) (works : List (List Nat)) : ∀ row : List Nat, (run n works row).length = n := by
  have h : ∀ (row : List Nat) (st : List Slip), (row.foldl (step n works) st).length = st.length := by
    intro row
    induction row with
    | nil => intro st; rfl
    | cons w r ih => intro st; rw [List.foldl_cons, ih, step_length]
  intro row
  unfold run
  rw [h]
  simp [st0]
/-- apart works commute -/
def Apart (la lb : List Nat) : Prop := ∀ d, d ∈ la → ¬ d ∈ lb
theorem ofLot_apart {n : Nat} {st : List Slip} {la lb : List Nat} (x : Slip) (h : Apart la lb) : ofLot n (setAll st la x) lb = ofLot n st lb := by
  unfold ofLot
  refine List.map_congr_left fun d hd => ?_
  rw [List.getD_eq_getElem?_getD, List.getD_eq_getElem?_getD, setAll_get, if_neg]
  exact fun z => h d z.1 hd
theorem setAll_comm {st : List Slip} {la lb : List Nat} (x y : Slip) (h : Apart la lb) : setAll (setAll st la x) lb y = setAll (setAll st lb y) la x := by
  refine List.ext_getElem? fun d => ?_
  rw [setAll_get, setAll_get, setAll_get, setAll_get, setAll_length, setAll_length]
  by_cases h1 : d ∈ la
  · have h2 := h d h1
    by_cases h3 : d < st.length <;> simp [h1, h2, h3]
  · by_cases h2 : d ∈ lb
    · by_cases h3 : d < st.length <;> simp [h1, h2, h3]
    · simp [h1, h2]
theorem step_comm {n : Nat} {works : List (List Nat)} {st : List Slip} {a b : Nat} (h : Apart (works.getD a []) (works.getD b [])) : step n works (step n works st a) b = step n works (step n works st b) a := by
  have h' : Apart (works.getD b []) (works.getD a []) := fun d hb ha => h d ha hb
  unfold step
  rw [ofLot_apart _ h, ofLot_apart _ h', setAll_comm _ _ h]
theorem run_swap {n : Nat} {works : List (List Nat)} {a b : Nat} (pre post : List Nat) (h : Apart (works.getD a []) (works.getD b [])) :
    run n works (pre ++ b :: a :: post) = run n works (pre ++ a :: b :: post) := by
  unfold run
  rw [List.foldl_append, List.foldl_append, List.foldl_cons, List.foldl_cons, List.foldl_cons, List.foldl_cons, step_comm h]
/-! ### what is right -/
def NmOk (m : Nat) : Nm → Prop
  | none => True
  | some (w, l) => w < m ∧ l ≤ 1296
def RowOk (n m : Nat) (r : List Nm) : Prop := r.length = n ∧ ∀ x ∈ r, NmOk m x
def MatOk (n m : Nat) (r : List (List Nm)) : Prop := r.length = n ∧ ∀ x ∈ r, RowOk n m x
def CubOk (n m : Nat) (r : List (List (List Nm))) : Prop := r.length = n ∧ ∀ x ∈ r, MatOk n m x
structure SlipOk (n m : Nat) (z : Slip) : Prop where
  fO : RowOk n m z.f
  sO : MatOk n m z.s
  tO : CubOk n m z.t
def StOk (n m : Nat) (st : List Slip) : Prop := st.length = n ∧ ∀ s ∈ st, SlipOk n m s
structure OffOk (n : Nat) (works : List (List Nat)) : Prop where
  n1 : 1 ≤ n
  n6 : n ≤ 6
  w1 : 1 ≤ works.length
  w10 : works.length ≤ 10
  ne : ∀ lot ∈ works, lot ≠ []
  lt : ∀ lot ∈ works, ∀ d ∈ lot, d < n
  asc : ∀ lot ∈ works, lot.Pairwise (· < ·)
theorem row0_ok (n m : Nat) : RowOk n m (row0 n) := ⟨List.length_replicate, fun x hx => by
  rw [(List.mem_replicate.mp hx).2]
  exact True.intro⟩
theorem mat0_ok (n m : Nat) : MatOk n m (mat0 n) := ⟨List.length_replicate, fun x hx => by
  rw [(List.mem_replicate.mp hx).2]
  exact row0_ok n m⟩
theorem blank_ok (n m : Nat) : SlipOk n m (blank n) := ⟨row0_ok n m, mat0_ok n m, List.length_replicate, fun x hx => by
  rw [(List.mem_replicate.mp hx).2]
  exact mat0_ok n m⟩
theorem st0_ok (n m : Nat) : StOk n m (st0 n) := ⟨List.length_replicate, fun x hx => by
  rw [(List.mem_replicate.mp hx).2]
  exact blank_ok n m⟩
theorem getD_mem {α : Type} {l : List α} {i : Nat} {d : α} (h : i < l.length) : l.getD i d ∈ l := by
  rw [List.getD_eq_getElem?_getD, List.getElem?_eq_getElem h]
  exact List.getElem_mem h
theorem flatten_len {α : Type} {k : Nat} : ∀ (l : List (List α)), (∀ x ∈ l, x.length ≤ k) → l.flatten.length ≤ l.length * k
  | [], _ => by simp
  | x :: r, h => by
    rw [List.flatten_cons, List.length_append, List.length_cons, Nat.succ_mul]
    have h1 := h x List.mem_cons_self
    have h2 := flatten_len r fun y hy => h y (List.mem_cons_of_mem _ hy)
    omega
theorem names1_len {n m : Nat} {s : Slip} (h : SlipOk n m s) (h6 : n ≤ 6) : (namesOf1 s).length ≤ 216 := by
  unfold namesOf1
  have h1 := flatten_len (k := 36) (s.t.map List.flatten) fun x hx => by
    obtain ⟨mt, hm, rfl⟩ := List.mem_map.mp hx
    obtain ⟨l1, q⟩ := h.tO.2 mt hm
    have h2 := flatten_len (k := 6) mt fun y hy => by rw [(q y hy).1]; exact h6
    have : mt.length * 6 ≤ 6 * 6 := Nat.mul_le_mul (by omega) (Nat.le_refl _)
    omega
  rw [List.length_map, h.tO.1] at h1
  have : n * 36 ≤ 6 * 36 := Nat.mul_le_mul h6 (Nat.le_refl _)
  omega
theorem names_len {n m : Nat} {sl : List Slip} (h : ∀ s ∈ sl, SlipOk n m s) (h6 : n ≤ 6) (hl : sl.length ≤ 6) : (namesOf sl).length ≤ 1296 := by
  unfold namesOf
  have h1 := flatten_len (k := 216) (sl.map namesOf1) fun x hx => by
    obtain ⟨s, hs, rfl⟩ := List.mem_map.mp hx
    exact names1_len (h s hs) h6
  rw [List.length_map] at h1
  have : sl.length * 216 ≤ 6 * 216 := Nat.mul_le_mul hl (Nat.le_refl _)
  omega
theorem src_ok {n m : Nat} {sl : List Slip} (h : ∀ s ∈ sl, SlipOk n m s) (hne : 0 < sl.length) (d : Nat) : SlipOk n m (src sl d) := h _ (getD_mem (newest_lt d hne))
theorem slipNamed_ok {n m : Nat} {lot : List Nat} {name : Nat × Nat} {sl : List Slip} (h : ∀ s ∈ sl, SlipOk n m s) (hne : 0 < sl.length) (hn : NmOk m (some name)) : SlipOk n m (slipNamed n lot name sl) := by
  have h1 : RowOk n m (first n lot name sl) := by
    refine ⟨by unfold first; simp, fun x hx => ?_⟩
    obtain ⟨d, hd, rfl⟩ := List.mem_map.mp hx
    rw [List.mem_range] at hd
    have so := src_ok h hne d
    split
    · exact hn
    · exact so.fO.2 _ (getD_mem (by rw [so.fO.1]; exact hd))
  have h2 : MatOk n m (second n lot name sl) := by
    refine ⟨by unfold second; simp, fun x hx => ?_⟩
    obtain ⟨d, hd, rfl⟩ := List.mem_map.mp hx
    rw [List.mem_range] at hd
    have so := src_ok h hne d
    split
    · exact h1
    · exact so.sO.2 _ (getD_mem (by rw [so.sO.1]; exact hd))
  refine ⟨h1, h2, by unfold slipNamed third; simp, fun x hx => ?_⟩
  obtain ⟨d, hd, rfl⟩ := List.mem_map.mp hx
  rw [List.mem_range] at hd
  have so := src_ok h hne d
  split
  · exact h2
  · exact so.tO.2 _ (getD_mem (by rw [so.tO.1]; exact hd))
theorem nameFor_ok {n m w : Nat} {sl : List Slip} (h : ∀ s ∈ sl, SlipOk n m s) (h6 : n ≤ 6) (hl : sl.length ≤ 6) (hw : w < m) : NmOk m (some (nameFor w sl)) :=
  ⟨hw, Nat.le_trans (lbl_le _ _) (names_len h h6 hl)⟩
theorem slipBehind_ok {n m w : Nat} {lot : List Nat} {sl : List Slip} (h : ∀ s ∈ sl, SlipOk n m s) (hne : 0 < sl.length) (h6 : n ≤ 6) (hl : sl.length ≤ 6) (hw : w < m) : SlipOk n m (slipBehind n lot w sl) :=
  slipNamed_ok h hne (nameFor_ok h h6 hl hw)
theorem asc_len : ∀ {lot : List Nat} {k n : Nat}, lot.Pairwise (· < ·) → (∀ d ∈ lot, k ≤ d ∧ d < n) → lot.length ≤ n - k
  | [], _, _, _, _ => by simp
  | x :: r, k, n, hp, hb => by
    obtain ⟨h1, h2⟩ := List.pairwise_cons.mp hp
    have hx := hb x List.mem_cons_self
    have ih := asc_len (lot := r) (k := x + 1) (n := n) h2 fun d hd => ⟨h1 d hd, (hb d (List.mem_cons_of_mem _ hd)).2⟩
    rw [List.length_cons]
    omega
theorem OffOk.lot {n : Nat} {works : List (List Nat)} (o : OffOk n works) {w : Nat} (h : w < works.length) : works.getD w [] ∈ works := getD_mem h
theorem OffOk.len6 {n : Nat} {works : List (List Nat)} (o : OffOk n works) {lot : List Nat} (h : lot ∈ works) : lot.length ≤ 6 := by
  have q := asc_len (k := 0) (n := n) (o.asc lot h) fun d hd => ⟨Nat.zero_le _, o.lt lot h d hd⟩
  have := o.n6
  omega
theorem OffOk.pos {n : Nat} {works : List (List Nat)} (o : OffOk n works) {lot : List Nat} (h : lot ∈ works) : 0 < lot.length := List.length_pos_iff.mpr (o.ne lot h)
theorem ofLot_ok {n m : Nat} {st : List Slip} {lot : List Nat} (h : StOk n m st) (hl : ∀ d ∈ lot, d < n) : ∀ s ∈ ofLot n st lot, SlipOk n m s := fun s hs => by
  obtain ⟨d, hd, rfl⟩ := List.mem_map.mp hs
  exact h.2 _ (getD_mem (by rw [h.1]; exact hl d hd))
theorem step_ok {n : Nat} {works : List (List Nat)} (o : OffOk n works) {st : List Slip} {w : Nat} (h : StOk n works.length st) (hw : w < works.length) : StOk n works.length (step n works st w) := by
  have hm := o.lot hw
  refine ⟨by rw [step_length]; exact h.1, fun s hs => ?_⟩
  obtain ⟨i, hi⟩ := List.mem_iff_getElem?.mp hs
  unfold step at hi
  rw [setAll_get] at hi
  split at hi
  · cases hi
    refine slipBehind_ok (ofLot_ok h (o.lt _ hm)) ?_ o.n6 ?_ hw
    · unfold ofLot; rw [List.length_map]; exact o.pos hm
    · unfold ofLot; rw [List.length_map]; exact o.len6 hm
  · exact h.2 s (List.mem_of_getElem? hi)
theorem run_ok {n : Nat} {works : List (List Nat)} (o : OffOk n works) : ∀ (row : List Nat), (∀ w ∈ row, w < works.length) → StOk n works.length (run n works row) := by
  have h : ∀ (row : List Nat) (st : List Slip), StOk n works.length st → (∀ w ∈ row, w < works.length) → StOk n works.length (row.foldl (step n works) st) := by
    intro row
    induction row with
    | nil => intro st h _; exact h
    | cons w r ih =>
      intro st h hr
      rw [List.foldl_cons]
      exact ih _ (step_ok o h (hr w List.mem_cons_self)) fun x hx => hr x (List.mem_cons_of_mem _ hx)
  intro row hr
  exact h row _ (st0_ok n _) hr
theorem getD_eq {α : Type} {l : List α} {i : Nat} {x d : α} (h : l[i]? = some x) : l.getD i d = x := by rw [List.getD_eq_getElem?_getD, h]; rfl
/-- behind a work its desks have its name first -/
theorem step_first {n : Nat} {works : List (List Nat)} {st : List Slip} {w d e : Nat} (hl : st.length = n) (hd : d ∈ works.getD w []) (hdn : d < n) (he : e ∈ works.getD w []) (hen : e < n) :
    (((step n works st w).getD d (blank n)).f.getD e none) = some (nameFor w (ofLot n st (works.getD w []))) := by
  have h1 : (step n works st w)[d]? = some (slipBehind n (works.getD w []) w (ofLot n st (works.getD w []))) := by
    unfold step
    rw [setAll_get, if_pos ⟨hd, by rw [hl]; exact hdn⟩]
  rw [getD_eq h1]
  show (first n _ _ _).getD e none = _
  unfold first
  rw [List.getD_eq_getElem?_getD, List.getElem?_map, List.getElem?_range hen]
  show (if e ∈ works.getD w [] then _ else _) = _
  rw [if_pos he]
end K31
/-! K31H: names hash apart. -/
namespace K31
open PySem
/-- the hash of the name (w, l) -/
def hP (w l : Nat) : Int := reduceHash (Builtin.Tuple.tupleHashOf [hashInt (w : Int), hashInt (l : Int)])
def hM : Nat := 18446744073709551616
def hC : Nat := 2 ^^^ (2870177450012600261 ^^^ 3527539)
/-- the sum ahead of the last rotation, times the inverse of the prime -/
def hT (i : Int) : Nat :=
  let u := (i % (hM : Int)).toNat
  let x := (u + (hM - hC)) % hM
  let y := (x * 614540362697595703) % hM
  let z := (y * 2 ^ 33) % hM + y / 2 ^ 31
  (z * 839798700976720815) % hM
def hA (w : Nat) : Nat :=
  let acc := (2870177450012600261 + w * 14029467366897019727) % hM
  let acc := (acc * 2 ^ 31) % hM + acc / 2 ^ 33
  let acc := (acc * 11400714785074694791) % hM
  (acc * 839798700976720815) % hM
def hDec (i : Int) : Nat × Nat :=
  let t := hT i
  match (List.range 10).find? fun w => Nat.ble ((t + (hM - hA w)) % hM) 1296 with
  | some w => (w, (t + (hM - hA w)) % hM)
  | none => (0, 0)
theorem hDec_all : ((List.range 10).all fun w => (List.range 1297).all fun l => decide (hDec (hP w l) = (w, l))) = true := by decide +kernel
theorem hDec_ok {w l : Nat} (hw : w < 10) (hl : l ≤ 1296) : hDec (hP w l) = (w, l) := by
  have h := hDec_all
  rw [List.all_eq_true] at h
  have h1 := h w (List.mem_range.mpr hw)
  rw [List.all_eq_true] at h1
  exact of_decide_eq_true (h1 l (List.mem_range.mpr (by omega)))
theorem hP_inj {w l w' l' : Nat} (hw : w < 10) (hl : l ≤ 1296) (hw' : w' < 10) (hl' : l' ≤ 1296) (e : hP w l = hP w' l') : (w, l) = (w', l') := by
  rw [← hDec_ok hw hl, ← hDec_ok hw' hl', e]
/-- no name hashes as None does -/
theorem hP_none_all : ((List.range 10).all fun w => (List.range 1297).all fun l => decide (¬ hP w l = reduceHash 0xFCA86420)) = true := by decide +kernel
theorem hP_none {w l : Nat} (hw : w < 10) (hl : l ≤ 1296) : ¬ hP w l = reduceHash 0xFCA86420 := by
  have h := hP_none_all
  rw [List.all_eq_true] at h
  have h1 := h w (List.mem_range.mpr hw)
  rw [List.all_eq_true] at h1
  exact of_decide_eq_true (h1 l (List.mem_range.mpr (by omega)))
end K31
/-! K31A: rules that the layer lacks: enumerate of a tuple, x in a tuple of data, (x,) * 1, a range held by a name. -/
namespace K31
open PySem PySem.Spec PyProof.Rows L2
/-! ### x in t, t a tuple of data -/
section
variable {X : Cx}
def rInTD (K : PySem.W.Frag) : R2 := fun x y H Q => ∃ d ds, Dp K H x d ∧ Dp K H y (.tuple ds) ∧ SeqAt.shaped d = true ∧ SeqAt.shaped (.tuple ds) = true ∧ Q (.bl (ds.any fun z => PyData.eqv z d)) H
theorem op_inTD (hu : X.A.units + 65 < cLine) : OpR X (compareOp .In) (rInTD X.K) := by
  intro pins s σ H x y v u Q I rx ry h
  obtain ⟨d, ds, hd, he, sd, se, q⟩ := h
  obtain ⟨as, r1⟩ := Dp.reads I d x v hd rx
  obtain ⟨bs, r2⟩ := Dp.reads I (.tuple ds) y u he ry
  exact SeqAt.in_tuple_reads r2 r1 (SeqAt.canLay_of_shaped se) (SeqAt.canLay_of_shaped sd) (room_in_shaped sd hu) ⟨.bl _, H, I, rfl, q⟩
end
/-! ### a range held by a name -/
section
variable {X : Cx}
theorem cr_range1 : CallR X (.type "range") (fun vs H Q => ∃ j, vs = [V.int j] ∧ ∀ p, H p = none → Q (.ref p) (upd H p (.rng 0 j))) := by
  intro pins s σ H xs us Q I r h
  obtain ⟨j, rfl, q⟩ := h
  obtain ⟨u, rfl, ⟨t, rfl⟩⟩ := vals1 r
  refine call_range_1 ⟨.ref s.heap.objs.size, upd H s.heap.objs.size (.rng 0 j), I.laid (t' := s.toks + 1 + 1) (fun b o e => Heap.get?_push_of_some _ e) (Nat.le_refl _) ?_, rfl, q _ (I.hok.fresh (Nat.le_refl _))⟩
  exact ⟨_, _, _, Heap.get?_push_size _ rfl⟩
def iRngV (te : TE) : TI := fun σ H R => te σ H fun x H1 => ∃ a lo hi, x = .ref a ∧ H1 a = some (.rng lo hi) ∧ (-(2 ^ 62) ≤ lo ∧ lo < 2 ^ 62 ∧ -(2 ^ 62) ≤ hi ∧ hi < 2 ^ 62) ∧ R (Itr lo (hi - lo).toNat) H1
theorem pi_rngV {tg e : Expr} {te : TE} (he : PE X e te) : PI X tg e (iRngV te) := by
  refine ⟨fun pins s σ H R I h => ?_⟩
  refine thn (he.run pins s σ H _ I h) fun v s1 ⟨x, H1, I1, r1, q1⟩ => ?_
  obtain ⟨a, lo, hi, e1, ea, ⟨h1, h2, h3, h4⟩, q⟩ := q1
  subst e1
  cases r1
  obtain ⟨t, u, w', hg⟩ := I1.hok a _ ea
  refine wpAny_pyIter_range (a := lo) (b := hi) (c := 1) (t := t) (u := u) (v := w') hg (small_one h1 h2 h3 h4) ?_
  refine ⟨s1.heap.objs.size, [s1.heap.objs.size], _, _, H1, rfl, I1.kept (t' := s1.toks) fun b o e => Heap.get?_push_of_some _ e, turn_range _ lo (hi - lo).toNat, ?_, fun b hb => ?_, q⟩
  · have e1 : lo + ((0 : Nat) : Int) * 1 = lo := by simp
    have e2 : (((hi - lo).toNat : Nat) : Int) - ((0 : Nat) : Int) = Builtin.Range.rangeSize lo hi 1 := by rw [rangeSize_one]; split <;> omega
    show IsRangeIter _ _ (lo + ((0 : Nat) : Int) * 1) ((((hi - lo).toNat : Nat) : Int) - ((0 : Nat) : Int)) 1
    rw [e1, e2]
    exact Heap.get?_push_size _ rfl
  · have e : b = s1.heap.objs.size := by simpa using hb
    subst e
    exact I1.fpOk (Nat.le_refl _) (I1.hok.fresh (Nat.le_refl _))
end
/-! ### t * 1 -/
theorem tuple_mul1 (l : Addr) (items : Array Value) (n : Nat) (dd : Option Addr) (sl : Array (Option Value)) (u : Tok) :
    Meets (Builtin.«tuple.__mul__» ⟨[.ref l, .int 1 u], []⟩) (fun _ R s => s.heap.get? l = some { cls := .type "tuple", dict := dd, data := .seq items n, slots := sl } ∧
      R (.ok (.ret (Value.ref l))) s) :=
  .of_wp fun prog w A R s h => by
    obtain ⟨hp, g, d, tk, os⟩ := s
    obtain ⟨hl, h⟩ := h
    have f1 := AutoSeq1.idx_int
    have c0 : (decide ((1 : Int) < -(2 ^ 63)) || decide ((1 : Int) ≥ 2 ^ 63)) = false := by decide
    have c1 : (items.isEmpty || (1 : Int) == 1) = true := by simp
    wp_walk using wpAny_loadPart' hl
    repeat (first
      | (refine wpAny_ite_false (decide_eq_false (by rw [c0]; exact Bool.false_ne_true)) ?_; wp_walk using wpAny_loadPart' hl)
      | (refine wpAny_ite_true (decide_eq_true (by exact c1)) ?_; wp_walk using wpAny_loadPart' hl))
    exact ⟨_, rfl, h⟩
def rRep1 (K : PySem.W.Frag) : R2 := fun x y H Q => ∃ l xs, x = .ref l ∧ y = .int 1 ∧ SqT K H l xs ∧ Q (.ref l) H
theorem op_rep1 {X : Cx} : OpR X (binaryOp .Mult) (rRep1 X.K) := by
  intro pins s σ H x y v u Q I rx ry h
  obtain ⟨l, xs, rfl, rfl, hT, q⟩ := h
  cases rx
  obtain ⟨t, rfl⟩ := ry
  obtain ⟨its, r, ⟨⟨cls, dd, data, sl⟩, ho, hc, n, hd⟩, hs⟩ := I.tuple hT
  simp only at hc hd
  subst hc hd
  refine wpAny_binaryOp_repeat_ref (T := "tuple") (U := "int") (by decide) ⟨_, ho, rfl⟩ (fun s' => typeIs_int s' 1 t) noFill_tuple_mul F.fills_int_mul F.slot_int_rmul repeat_tuple F.slot_int_index.lookup
    (call_meets F.slot_int_rmul (typeIs_int s 1 t) F.entry_int_rmul (F.args_int_rmul_2 _ _) (int_rmul_tuple 1 t l its.toArray n dd sl)
      ⟨ho, rfl, ⟨_, ho, rfl⟩, call_meets F.slot_tuple_mul ⟨_, ho, rfl⟩ F.entry_tuple_mul (F.args_tuple_mul_2 _ _) (tuple_mul1 l its.toArray n dd sl t) ⟨ho, ?_⟩⟩)
  exact ⟨.ref l, H, I, rfl, q⟩
/-- (x,) * n, n from 1 on: a new tuple or the same one -/
def rRepN (K : PySem.W.Frag) : R2 := fun x y H Q => ∃ l xs k, x = .ref l ∧ y = .int ((k : Nat) : Int) ∧ SqT K H l xs ∧ xs ≠ [] ∧ 1 ≤ k ∧ k ≤ 1000 ∧ xs.length ≤ 1000 ∧ (k = 1 → Q (.ref l) H) ∧ ∀ p, H p = none → Q (.ref p) (upd H p (.tup (List.replicate k xs).flatten))
theorem op_repN {X : Cx} : OpR X (binaryOp .Mult) (rRepN X.K) := by
  intro pins s σ H x y v u Q I rx ry h
  obtain ⟨l, xs, k, rfl, rfl, hT, hne, h1, h2, h3, qa, qb⟩ := h
  by_cases hk : k = 1
  · subst hk
    exact op_rep1 pins s σ H _ _ v u Q I rx ry ⟨l, xs, rfl, rfl, hT, qa rfl⟩
  · exact op_repT pins s σ H _ _ v u Q I rx ry ⟨l, ((k : Nat) : Int), xs, rfl, rfl, hT, hne, by omega, by omega, h3, fun p hp => qb p hp⟩
/-! ### enumerate(tuple) -/
theorem meets_enumerate_newT (l : Addr) (items : Array Value) (n : Nat) (dct : Option Addr) (sl : Array (Option Value)) :
    Meets (Builtin.«enumerate.__new__» ⟨[.type "enumerate", .ref l], []⟩) (fun _ R s => s.heap.get? l = some { cls := .type "tuple", dict := dct, data := .seq items n, slots := sl } ∧
      R (.ok (.ret (.ref (s.heap.push { cls := .type "tuple_iterator", data := .fields #[.ref l, .int 0 0] }).objs.size)))
        { s with heap := (s.heap.push { cls := .type "tuple_iterator", data := .fields #[.ref l, .int 0 0] }).push { cls := .type "enumerate", data := .fields #[.none, .bool false, .ref s.heap.objs.size, rawInt 0, .none, .none] } }) :=
  .of_wp fun prog w A R s h => by
    obtain ⟨hp, g, d, tk, os⟩ := s; obtain ⟨hl, h⟩ := h
    have hsub := sub_enumerate
    have hL : Heap.IsTuple (Shared.heap ⟨hp, g, d, tk, os⟩) l items := ⟨_, hl, rfl, n, rfl⟩
    wp_walk using wpAny_loadPart' hl
    refine wpAny_stack_any fun st => wpAny_pure ?_
    split
    · rename_i c _ _ _ _ _
      cases (c == Value.type "enumerate")
      · wp_walk using wpAny_loadPart' hl, wpAny_pyIter_tuple hL
        exact ⟨_, rfl, h⟩
      · wp_walk using wpAny_loadPart' hl, wpAny_pyIter_tuple hL
        exact ⟨_, rfl, h⟩
    · wp_walk using wpAny_loadPart' hl, wpAny_pyIter_tuple hL
      exact ⟨_, rfl, h⟩
theorem call_enumerate_tuple {prog : Program} {w : World} {A : Around} {E : Value → Shared → Prop} {s : Shared} {l : Addr} {items : Array Value} {Q : Value → Shared → Prop} (hL : IsTup s.heap l items)
    (h : ∀ h', IsEnum h' (s.heap.objs.size + 1) s.heap.objs.size 0 .none → h'.IsTupleIter s.heap.objs.size l 0 → h'.objs.size = s.heap.objs.size + 2 →
      (∀ b o, s.heap.get? b = some o → h'.get? b = some o) → Q (.ref (s.heap.objs.size + 1)) { s with heap := h' }) :
    wpAny (model prog w) A (call (.type "enumerate") [.ref l]) Q E s := by
  obtain ⟨⟨c, dct, dt, sl⟩, hl, hc, n, hd⟩ := hL
  replace hc : c = .type "tuple" := hc
  replace hd : dt = .seq items n := hd
  subst hc hd
  refine callType_new F.called_enumerate (by decide) (F.typeCall_enumerate_1 _) (F.newCall_enumerate_1 _) (fun obj => F.args_object_init_2 obj _) F.entry_enumerate_new
    (meets_enumerate_newT l items n dct sl) ⟨hl, ?_⟩
  have hz : (s.heap.push { cls := .type "tuple_iterator", data := .fields #[.ref l, .int 0 0] }).objs.size = s.heap.objs.size + 1 := Heap.size_push ..
  show _ ∧ _
  rw [hz]
  have he : IsEnum ((s.heap.push { cls := .type "tuple_iterator", data := .fields #[.ref l, .int 0 0] }).push
      { cls := .type "enumerate", data := .fields #[.none, .bool false, .ref s.heap.objs.size, rawInt 0, .none, .none] }) (s.heap.objs.size + 1) s.heap.objs.size 0 .none := by
    have := Heap.get?_push_size (s.heap.push { cls := .type "tuple_iterator", data := .fields #[.ref l, .int 0 0] })
      (o := { cls := .type "enumerate", data := .fields #[.none, .bool false, .ref s.heap.objs.size, rawInt 0, .none, .none] }) rfl
    rw [hz] at this; exact this
  refine ⟨⟨_, he, rfl⟩, h _ he ⟨_, Heap.get?_push_of_some _ (Heap.get?_push_size _ rfl), rfl, rfl⟩ (by rw [Heap.size_push, hz]) fun b o x => Heap.get?_push_of_some _ (Heap.get?_push_of_some _ x)⟩
/-- the tuple at a, each item in a new pair -/
def IteT (K : PySem.W.Frag) (a : Addr) : It :=
  ⟨fun i H => ∃ (xs : List V) (x : V), SqT K H a xs ∧ xs[i]? = some x, fun i H v H' => ∃ T x, v = .ref T ∧ H T = none ∧ H' = upd H T (.tup [.int (i : Nat), x]) ∧ ∀ xs, SqT K H a xs → xs[i]? = some x, fun i H => ∃ xs : List V, SqT K H a xs ∧ xs.length ≤ i⟩
theorem ne_objs {h : Heap} {a b : Addr} {o u : Obj} (ha : h.get? a = some o) (hb : h.get? b = some u) (d : o.cls ≠ u.cls) : a ≠ b := by
  rintro rfl
  rw [ha] at hb
  cases hb
  exact d rfl
theorem wpAny_pyNext_enum_end_tup {prog : Program} {w : World} {A : Around} {E : Value → Shared → Prop} {s : Shared} {e it t : Addr} {i : Nat} {c : Int} {items : Array Value} {old : Value} {Q : Option Value → Shared → Prop} (hh : A.handled = none)
    (he : IsEnum s.heap e it c old) (hit : s.heap.IsTupleIter it t i) (ht : s.heap.IsTuple t items) (hx : items[i]? = none) (hQ : ∀ h', Heap.ExtBut it s.heap h' → Q none { s with heap := h' }) : wpAny (model prog w) A (pyNext (.ref e)) Q E s := by
  have hT : s.TypeIs (.ref e) "enumerate" := ⟨_, he, rfl⟩
  unfold pyNext
  refine wpAny_bind (wpAny_attempt (wpAny_callSpecial?_slot (name := Str.ofString "__next__") hT F.slot_enumerate_next
    (wpAny_call_entry F.slot_enumerate_next hT F.entry_enumerate_next ?_ (F.args_enumerate_next_1 _))))
  show wpAny _ _ (field (.ref e) 2 >>= _) _ _ _
  refine wpAny_bind (wpAny_field he rfl (x := .ref it) rfl ?_)
  refine wpAny_bind (wpAny_nextOf_tuple_end (A := A.in1) hh hit ht hx fun h' x he' hx' => ?_)
  obtain ⟨o, ho, hc⟩ := hx'
  refine wpAny_bind (wpAny_isInstance (T := "StopIteration") (b := true) ⟨o, ho, hc⟩ isSubtype_stop ?_)
  exact wpAny_pure (hQ _ he')
theorem turn_enumT {P : Program} {w : World} {K : PySem.W.Frag} {elts : List Expr} {kk : Nat} {tpos : Pos} (a e it : Addr) :
    Turn P w K (.Tuple elts kk tpos) (IteT K a) [e, it] e (fun i h => (∃ old, IsEnum h e it ((i : Nat) : Int) old) ∧ h.IsTupleIter it a i ∧ e ≠ it) where
  mem := by simp
  obj := fun i h st b hb => by
    obtain ⟨⟨old, he⟩, ⟨o, ho, hc, hd⟩, _⟩ := st
    have e' : b = e ∨ b = it := by simpa using hb
    rcases e' with z | z
    · rw [z]; exact ⟨_, he, fun v q => nomatch q⟩
    · rw [z]; exact ⟨o, ho, fun v q => by rw [hd] at q; cases q⟩
  keep := fun i h h' st k => let ⟨⟨old, he⟩, hi, hne⟩ := st; ⟨⟨old, k e (by simp) _ he⟩, hi.at fun o q => k it (by simp) o q, hne⟩
  item := by
    intro X hP hw hK hc i pins s σ H E I hf st hg
    subst hP hw hK
    obtain ⟨⟨old, he⟩, hit, hne⟩ := st
    obtain ⟨xs, x, hq, hx⟩ := hg
    obtain ⟨its, rv, p, hz⟩ := I.tuple hq
    obtain ⟨u, hu, ru⟩ := rv.get hx
    have hel : e < s.heap.objs.size := Heap.lt_size he
    have hil : it < s.heap.objs.size := by obtain ⟨_, q, _⟩ := hit; exact Heap.lt_size q
    have pT : s.heap.IsTuple a its.toArray := p
    obtain ⟨oi, hoi, hci, hdi⟩ := id hit
    obtain ⟨op, hop, hcp, _⟩ := id p
    have nai : a ≠ it := ne_objs hop hoi (by rw [hcp, hci]; decide)
    have nea : e ≠ a := ne_objs he hop (by rw [hcp]; show Value.type "enumerate" ≠ Value.type "tuple"; decide)
    refine wpAny_pyNext_enum_itemD (Draws.tuple (A := X.A.in1) (I.ok.hd hc) it a nai its.toArray) he ⟨hit, pT⟩ (by
      have := (List.getElem?_eq_some_iff.mp hu).1
      simpa using this) hne (by simp [hne, nea]) fun y h' tk hy ho hst' hT hsz hk => ?_
    have hit' := hst'.1
    obtain rfl : y = u := by
      have hy' : its[i]? = some y := by simpa using hy
      rw [hu] at hy'
      exact (Option.some.inj hy').symm
    refine ⟨_, rfl, wpAny_letOwnedTupleGo_enum (s := { s with heap := h', toks := tk + 1 }) ho fun h'' he' sb => ?_⟩
    have hT2 : h''.get? s.heap.objs.size = some { cls := .type "tuple", data := .seq #[.int i tk, y] } := (sb.2 _ (Nat.ne_of_gt hel)).trans hT
    have new : ObjOk X.prog X.w (upd H s.heap.objs.size (.tup [.int (i : Nat), x])) h'' s.heap.objs.size (.tup [.int (i : Nat), x]) :=
      ⟨by show 2 ≤ sizeLine; decide, [.int i tk, y], .cons ⟨_, rfl⟩ (.cons ru .nil), ⟨_, hT2, rfl, _, rfl⟩⟩
    have I1 : Inv X pins σ (upd H s.heap.objs.size (.tup [.int (i : Nat), x])) { s with heap := h'', toks := tk + 1 } :=
      I.turnedNew (ch := [e, it]) (fun b ob hb q => (sb.2 b (fun z => hb (by simp [z]))).trans (hk b ob (fun z => hb (by simp [z])) (fun z => hb (by simp [z])) q)) hf (Nat.le_refl _) new
    refine ⟨.ref s.heap.objs.size, _, I1, rfl, ⟨_, x, rfl, I.hok.fresh (Nat.le_refl _), rfl, fun ys hy => by rw [I.tuple_inj hy hq]; exact hx⟩, ⟨⟨y, ?_⟩, hit'.at fun o q => (sb.2 it (Ne.symm hne)).trans q, hne⟩, fun b hb => ?_⟩
    · have e1 : ((i + 1 : Nat) : Int) = (i : Int) + 1 := by omega
      rw [e1]; exact he'
    · have hb' : b < s.heap.objs.size := by
        have e' : b = e ∨ b = it := by simpa using hb
        rcases e' with z | z
        · rw [z]; exact hel
        · rw [z]; exact hil
      rw [upd_ne (Nat.ne_of_lt hb')]
      exact (hf b hb).1
  done := by
    intro X hP hw hK hc i pins s σ H E I hf st hg
    subst hP hw hK
    obtain ⟨⟨old, he⟩, hit, hne⟩ := st
    obtain ⟨xs, hq, hx⟩ := hg
    obtain ⟨its, rv, p, hz⟩ := I.tuple hq
    obtain ⟨f0, f1, f2, f3, f4, f5⟩ := hf it (by simp)
    have hl := rv.length
    have pT : s.heap.IsTuple a its.toArray := p
    obtain ⟨oi, hoi, hci, hdi⟩ := id hit
    obtain ⟨op, hop, hcp, _⟩ := id p
    exact wpAny_pyNext_enum_end_tup (I.ok.hd hc) he hit pT (by simp; omega) fun h' eb => ⟨rfl, I.turned (t' := s.toks) (fun b o hb q => eb b o hb q) f0 f1 f3 f4 f5⟩
  self := fun A i s Q E st h => let ⟨⟨_, he⟩, _⟩ := st; wpAny_pyIter_enum he h
def iEnumT (K : PySem.W.Frag) (ta : TA) : TI := fun σ H R => ta σ H fun vs H1 => ∃ a xs, vs = [.ref a] ∧ SqT K H1 a xs ∧ R (IteT K a) H1
theorem pi_enumT {X : Cx} {e : Expr} {ta : TA} {p pos tpos : Pos} {elts : List Expr} {kk : Nat} (hg : Gl X "enumerate") (hm : X.mg "enumerate" = none) (ha : PA X [e] ta) (hs : starEach [e] X.env = [(false, eval e X.env)] := by rfl) :
    PI X (.Tuple elts kk tpos) (.Call (.Name "enumerate" p) [e] [] pos) (iEnumT X.K ta) := by
  refine ⟨fun pins s σ H R I h => ?_⟩
  refine Call_ (ld_blt I hg hm boot_enumerate (PyProof.Rows.callWith_type1 (thn (ha.run pos pins s σ H _ I h) fun us s1 ⟨vs, H1, I1, r1, q1⟩ => ?_) hs rfl))
  obtain ⟨a, xs, ex, hq, q⟩ := q1
  subst ex
  cases r1 with
  | cons r rr =>
    cases rr
    cases r
    obtain ⟨its, rv, p', hz⟩ := I1.tuple hq
    refine call_enumerate_tuple p' fun h' he hit hsz hk => wpAny_pyIter_enum he ?_
    have I2 : Inv X pins σ H1 { s1 with heap := h' } := I1.kept (t' := s1.toks) hk
    refine ⟨s1.heap.objs.size + 1, [s1.heap.objs.size + 1, s1.heap.objs.size], _, _, H1, rfl, I2, turn_enumT a (s1.heap.objs.size + 1) s1.heap.objs.size, ⟨⟨.none, he⟩, hit, Nat.succ_ne_self _⟩, fun b hb => ?_, q⟩
    have e' : b = s1.heap.objs.size + 1 ∨ b = s1.heap.objs.size := by simpa using hb
    have hle : s1.heap.objs.size ≤ b := by
      rcases e' with z | z
      · rw [z]; exact Nat.le_add_right _ _
      · rw [z]; exact Nat.le_refl _
    exact I1.fpOk hle (I1.hok.fresh hle)
theorem walk_enumT {K : PySem.W.Frag} {a : Addr} {xs : List V} : Walk (IteT K a) xs.length (fun H => SqT K H a xs) (YPair (fun i => some (.int (i : Nat))) (fun i => xs[i]?)) := by
  refine ⟨fun i _ hi q => ⟨xs, xs[i], q, by simp [hi]⟩, fun _ q => ⟨xs, q, Nat.le_refl _⟩, fun i H v H' _ q y => ?_⟩
  obtain ⟨T, x, h1, h2, h3, h4⟩ := y
  exact ⟨T, .int (i : Nat), x, h1, h2, h3, rfl, h4 xs q⟩
end K31
/-! K31B: dicts keyed by names: comprehensions, update. -/
namespace K31
open PySem PySem.Spec PyProof.Rows L2
/-- d[k] = v by a comprehension, the key a tuple -/
theorem d_dictSetT {X : Cx} {pins : List (Addr × Obj)} {σ : L2.St} {H : Hp} {s : Shared} {E : Value → Shared → Prop} {D kb : Addr} {kvs : List (List Key × V)} {k : List Key} {v : V} {u r : Value} {Q : Unit → Shared → Prop} (hu : X.A.units < cLine) (I : Inv X pins σ H s) (hD : H D = some (.dT kvs)) (hk : H kb = some (.tup (k.map kV))) (hz : kvs.length < sizeLine)
    (ry : RelV (.ref kb) u) (rv : RelV v r) (h : ∀ s', Inv X pins σ (upd H D (.dT (putK kvs k v))) s' → Q () s') : wpAny (model X.prog X.w) X.A (dictSet D u r) Q E s := by
  cases (show u = Value.ref kb from ry)
  obtain ⟨z, hd, xs, rel, dd⟩ := dt_of I.hok hD
  have hzv : xs.length ≤ sizeLine := by rw [← Paired.length rel]; exact z
  have hl : (putK kvs k v).length ≤ sizeLine := by have := length_putK kvs k v; omega
  refine wpAny_dictSet_heap (hsz := hzv) (show (tupleKind (mixKind X.prog X.w)).room X.A from hu) (key_of I.hok hk) dd fun h' dd' hs => h _ ?_
  obtain ⟨q, es, ep, hq, h2, h3, h4, _, h5⟩ := dd'
  refine d_write I (by rw [hD]; exact True.intro) hs ⟨q, hq⟩ ⟨hl, hd, _, (rel.put k hk rv).keeps fun c ys ec => ?_, q, es, ep, hq, h2, h3, h4, h5⟩
  rw [upd_ne (ne_of ec hD (fun z => nomatch z))]
  exact ec
section
variable {X : Cx}
/-- {k: v for target in iter if ..}, keys ints or texts: D the new dict -/
def tDcT (wi : TI) (g : TG) (tt : TT) (tk tv : TE) (vs : List Nat) : TE := fun σ H Q => wi σ H fun J H1 => ∀ D, H1 D = none → ∃ W : Nat → Nat → Hp → Prop, (∃ m, W 0 m (upd H1 D (.dT []))) ∧ ∀ i m H, W i m H →
  (J.stop i H ∧ Q (.ref D) H) ∨ (J.go i H ∧ ∃ Nx : Hp → Prop, (∀ H', Nx H' → ∃ m', m' < m ∧ W (i + 1) m' H') ∧ ∀ x H', J.yld i H x H' → g x (wipe σ vs) H' fun σ2 H2 => wipe σ2 vs = wipe σ vs ∧ tt σ2 H2 fun b H3 =>
    if b = true then tk σ2 H3 fun y H4 => tv σ2 H4 fun z H5 => ∃ kvs k kb, y = .ref kb ∧ H5 kb = some (.tup (k.map kV)) ∧ H5 D = some (.dT kvs) ∧ kvs.length < sizeLine ∧ Nx (upd H5 D (.dT (putK kvs k z))) else Nx H3)
theorem dcT_core (hu : X.A.units < cLine) {pins : List (Addr × Obj)} {s : Shared} {σ : L2.St} {H : Hp} {Q : VK} {kx vx tg iter : Expr} {ifs : List Expr} {scope : Scope} {own : List (Str × Nat)} {pos pos' : Pos} {wi : TI} {g : TG} {tt : TT} {tk tv : TE} {use : Option (Value → Sem Unit)} {Qf : Value → Shared → Prop}
    (hc : X.calm = true) (hN : X.N.Nodup) (I : Inv X pins σ H s) (hi : PI X tg iter wi) (ok : BlkOk X.N X.env.scope scope own)
    (hg : ∀ (s : Shared) (H : Hp) (C : Addr) (cl : List (Str × Addr)) (fp : List Addr), PG (X.blk s H scope (compEnvC scope cl C X.env) fp) tg g) (ht : ∀ (s : Shared) (H : Hp) (C : Addr) (cl : List (Str × Addr)) (fp : List Addr), PTs (X.blk s H scope (compEnvC scope cl C X.env) fp) ifs tt)
    (hk : ∀ (s : Shared) (H : Hp) (C : Addr) (cl : List (Str × Addr)) (fp : List Addr), PE (X.blk s H scope (compEnvC scope cl C X.env) fp) kx tk)
    (he : ∀ (s : Shared) (H : Hp) (C : Addr) (cl : List (Str × Addr)) (fp : List Addr), PE (X.blk s H scope (compEnvC scope cl C X.env) fp) vx tv) (hs : ∀ x, foldedSetIterable iter X.env x = pure x)
    (h : tDcT wi g tt tk tv (own.map (·.2)) σ H Q)
    (hRR : ∀ D C s' m H', Inv X pins σ H' s' → Q (.ref D) H' → s'.heap.Ns C m → FpOk X pins H' C → compPost (model X.prog X.w) X.A X.xe use Qf (.ref D) C (.ok .next) s') :
    wpAny (model X.prog X.w) X.A (comprehension (.DictComp kx vx [⟨tg, iter, ifs, 0⟩] scope pos) scope X.env pos' newDict false (eval iter X.env) use) Qf X.xe s := by
  have hfree : ∀ y ∈ scope.names, y.2 = .free → ∃ c, X.env.cells.lookup y.1 = some c := fun y hy e => by
    rcases ok.free y hy e with k | k
    · exact I.ok.has _ (.inl k)
    · exact I.ok.has _ (.inr k)
  refine wpAny_comprehension_free (use := use) rfl hs (closure_ok hfree) ok.kind (fun y hy e => by rw [ok.uniq y hy, e])
    (thn (hi.run pins s σ H _ I h) fun xv s1 hx => thn hx fun itv s2 h2 => ?_)
  obtain ⟨it, fp, tn, J, H2, e, I2, T, st2, f2, q⟩ := h2
  subst e
  refine wpAny_newObj_type (newEnv_comp ?_)
  generalize hD : s2.heap.objs.size = D
  have hDn : H2 D = none := I2.hok.fresh (Nat.le_of_eq hD)
  obtain ⟨W, ⟨m0, w0⟩, turn⟩ := q D hDn
  -- the new list
  generalize hs3 : ({ s2 with heap := s2.heap.push { cls := .type "dict", data := .dict #[] } } : Shared) = s3
  have I3 : Inv X pins σ (upd H2 D (.dT [])) s3 := by
    rw [← hs3]
    refine I2.laid (t' := s2.toks) (fun b o e => Heap.get?_push_of_some _ e) (Nat.le_of_eq hD) ?_
    rw [← hD]
    exact dt_empty s2.heap I2.big
  have h3 : s3.heap = s2.heap.push { cls := .type "dict", data := .dict #[] } := by rw [← hs3]
  have sz : ∀ b ∈ fp, b < s2.heap.objs.size := fun b hb => by
    obtain ⟨o, e, _⟩ := T.obj _ _ st2 b hb
    exact Heap.lt_size e
  have f3 : ∀ b ∈ fp, FpOk X pins (upd H2 D (.dT [])) b ∧ b < s3.heap.objs.size := fun b hb => by
    have hlt := sz b hb
    refine ⟨⟨?_, (f2 b hb).2⟩, by rw [h3, Heap.size_push]; exact Nat.lt_succ_of_lt hlt⟩
    rw [upd_ne (by rw [← hD]; exact Nat.ne_of_lt hlt)]
    exact (f2 b hb).1
  have st3 : tn 0 s3.heap := T.keep _ _ _ st2 fun b _ o e => by rw [h3]; exact Heap.get?_push_of_some _ e
  have I4 := block_start I3 ok hN f3
  have pg := hg s3 (upd H2 D (.dT [])) s3.heap.objs.size (cellsFrom (s3.heap.objs.size + 1) scope.names (cloFrom X.env.cells scope.names [])) fp
  have pt := ht s3 (upd H2 D (.dT [])) s3.heap.objs.size (cellsFrom (s3.heap.objs.size + 1) scope.names (cloFrom X.env.cells scope.names [])) fp
  have pk := hk s3 (upd H2 D (.dT [])) s3.heap.objs.size (cellsFrom (s3.heap.objs.size + 1) scope.names (cloFrom X.env.cells scope.names [])) fp
  have pe := he s3 (upd H2 D (.dT [])) s3.heap.objs.size (cellsFrom (s3.heap.objs.size + 1) scope.names (cloFrom X.env.cells scope.names [])) fp
  show codeAny _ _ (.compStart (.DictComp kx vx [⟨tg, iter, ifs, 0⟩] scope pos) 0 (.ref it) (.ref D) (compEnvC scope (cellsFrom (s3.heap.objs.size + 1) scope.names (cloFrom X.env.cells scope.names [])) s3.heap.objs.size X.env)) (compPost (model X.prog X.w) X.A X.xe use Qf (.ref D) s3.heap.objs.size) { s3 with heap := pushCells (s3.heap.push { cls := .type "dict", data := .dict #[] }) scope.names }
  have nfp : ∀ b ∈ fp, (upd H2 D (.dT [])) b = none := fun b hb => (f3 b hb).1.1
  generalize hce : compEnvC scope (cellsFrom (s3.heap.objs.size + 1) scope.names (cloFrom X.env.cells scope.names [])) s3.heap.objs.size X.env = ce at I4 pg pt pk pe ⊢
  have cL : ce.locals = s3.heap.objs.size := by subst hce; rfl
  generalize hH3 : upd H2 D (.dT []) = H3 at I3 I4 pg pt pk pe w0 nfp f3
  generalize hs4 : ({ s3 with heap := pushCells (s3.heap.push { cls := .type "dict", data := .dict #[] }) scope.names } : Shared) = s4 at I4 ⊢
  have st4 : tn 0 s4.heap := T.keep _ _ _ st3 fun b _ o e => by rw [← hs4]; exact pushCells_keeps _ _ _ _ (Heap.get?_push_of_some _ e)
  have stat : ∀ {σ' : L2.St} {H' : Hp} {s' : Shared}, Inv (X.blk s3 H3 scope ce fp) [] σ' H' s' → (∀ b ∈ fp, H' b = none) → ∀ b ∈ fp, FpOk (X.blk s3 H3 scope ce fp) [] H' b := fun {σ' H' s'} I' hn b hb =>
    ⟨hn b hb, (I'.ok.exf b hb).1, I'.ok.exfs b hb, .inl hb, fun x c e => (I'.ok.exf b hb).2 x c e, fun p hp => absurd (show p ∈ ([] : List (Addr × Obj)) ++ [] from hp) (by simp)⟩
  have loop : codeAny (model X.prog X.w) X.A (.compLoop (.DictComp kx vx [⟨tg, iter, ifs, 0⟩] scope pos) 0 (.ref it) (.ref D) ce) (compPost (model X.prog X.w) X.A X.xe use Qf (.ref D) s3.heap.objs.size) s4 := by
    refine compLoop_anyD (fun n s' => ∃ i H', Inv (X.blk s3 H3 scope ce fp) [] (wipe σ (own.map (·.2))) H' s' ∧ tn i s'.heap ∧ (∀ b ∈ fp, H' b = none) ∧ W i n H') ?_ m0 ⟨0, H3, I4, st4, nfp, w0⟩
    rintro n s5 ⟨i, H5, I5, st5, n5, w5⟩
    rcases turn i n H5 w5 with ⟨stop, qq⟩ | ⟨go, Nx, hNx, step⟩
    · have td := T.done (X.blk s3 H3 scope ce fp) rfl rfl rfl hc i [] s5 _ H5 (fun _ _ => False) I5 (stat I5 n5) st5 stop
      refine thnF td fun r s6 ⟨hr, I6⟩ => ?_
      subst hr
      -- back in the def's context
      have I7 : Inv X pins σ H5 s6 := I3.call' (ch := fp) I6.os I6.base I6.hok I6.bare fun b hb => ⟨(f3 b hb).1.2.2.2.1, (f3 b hb).1.2.1, (f3 b hb).1.2.2.2.2.1, (f3 b hb).1.2.2.2.2.2⟩
      have nC : H5 s3.heap.objs.size = none := by
        have z : H5 ce.locals = none := I6.free
        rw [cL] at z
        exact z
      obtain ⟨m, hn, _⟩ := I6.loc
      have hn : s6.heap.Ns ce.locals m := hn
      rw [cL] at hn
      exact hRR D s3.heap.objs.size s6 m H5 I7 qq hn (I3.fpOk (Nat.le_refl _) nC)
    · have ti := T.item (X.blk s3 H3 scope ce fp) rfl rfl rfl hc i [] s5 _ H5 (fun _ _ => False) I5 (stat I5 n5) st5 go
      refine thnF ti fun r s6 ⟨u, hr, h6⟩ => ?_
      subst hr
      refine thnF h6 fun _ s7 ⟨x, H7, I7, r7, y7, st7, n7⟩ => ?_
      have I7' := I7.pinned (stat I7 n7) (T.obj _ _ st7)
      refine thnF (pg.run _ s7 _ H7 x u _ I7' r7 (step x H7 y7)) fun _ s8 ⟨σ8, H8, I8, hw8, q8⟩ => ?_
      refine thnF (pt.run _ s8 σ8 H8 _ I8 q8) fun b s9 ⟨H9, I9, q9⟩ => ?_
      -- the turn's end
      have fin : ∀ {s' : Shared} {H' : Hp}, Inv (X.blk s3 H3 scope ce fp) ([] ++ pinsAt fp s7.heap) σ8 H' s' → Nx H' → ∃ m, m < n ∧ ∃ i H', Inv (X.blk s3 H3 scope ce fp) [] (wipe σ (own.map (·.2))) H' s' ∧ tn i s'.heap ∧ (∀ b ∈ fp, H' b = none) ∧ W i m H' := fun {s' H'} I' nx => by
        obtain ⟨m', hm, w'⟩ := hNx H' nx
        have pin' : ∀ b ∈ fp, ∀ o, s7.heap.get? b = some o → s'.heap.get? b = some o ∧ H' b = none := fun b hb o e =>
          let z := I'.pin (b, o) (List.mem_append_right _ (List.mem_append_right _ (mem_pinsAt hb e)))
          ⟨z.1, z.2.1⟩
        have hl : (wipe σ (own.map (·.2))).length = σ8.length := by rw [← hw8, wipe_length]
        refine ⟨m', hm, i + 1, H', (I'.unpinned (pins := [])).weak hl (fun j v e => ?_), T.keep _ _ _ st7 fun b hb o e => (pin' b hb o e).1, fun b hb => ?_, w'⟩
        · rw [← hw8] at e
          exact (wipe_some e).1
        · obtain ⟨o, e, _⟩ := T.obj _ _ st7 b hb
          exact (pin' b hb o e).2
      cases b with
      | false =>
        simp only [Bool.false_eq_true, if_false] at q9 ⊢
        exact fin I9 q9
      | true =>
        simp only [if_true] at q9 ⊢
        refine thnF (pk.run _ s9 σ8 H9 _ I9 q9) fun z s10 ⟨yk, H10, I10, r10, q10⟩ => ?_
        refine thnF (pe.run _ s10 σ8 H10 _ I10 q10) fun z2 s11 ⟨yv, H11, I11, r11, kvs, k, kb, ek, ekb, hD11, hz11, nx⟩ => ?_
        subst ek
        exact d_dictSetT (X := X.blk s3 H3 scope ce fp) hu I11 hD11 ekb hz11 r10 r11 fun s12 I12 => fin I12 nx
  exact codeAny_compStart_dict loop (T.self X.A 0 _ _ _ st4 loop)
/-- as a value -/
theorem pe_dcT (hu : X.A.units < cLine) {kx vx tg iter : Expr} {ifs : List Expr} {scope : Scope} {own : List (Str × Nat)} {pos : Pos} {wi : TI} {g : TG} {tt : TT} {tk tv : TE} (hc : X.calm = true) (hN : X.N.Nodup) (hi : PI X tg iter wi) (ok : BlkOk X.N X.env.scope scope own)
    (hg : ∀ (s : Shared) (H : Hp) (C : Addr) (cl : List (Str × Addr)) (fp : List Addr), PG (X.blk s H scope (compEnvC scope cl C X.env) fp) tg g) (ht : ∀ (s : Shared) (H : Hp) (C : Addr) (cl : List (Str × Addr)) (fp : List Addr), PTs (X.blk s H scope (compEnvC scope cl C X.env) fp) ifs tt)
    (hk : ∀ (s : Shared) (H : Hp) (C : Addr) (cl : List (Str × Addr)) (fp : List Addr), PE (X.blk s H scope (compEnvC scope cl C X.env) fp) kx tk)
    (he : ∀ (s : Shared) (H : Hp) (C : Addr) (cl : List (Str × Addr)) (fp : List Addr), PE (X.blk s H scope (compEnvC scope cl C X.env) fp) vx tv) (hs : ∀ x, foldedSetIterable iter X.env x = pure x := by intro _; rfl) :
    PE X (.DictComp kx vx [⟨tg, iter, ifs, 0⟩] scope pos) (tDcT wi g tt tk tv (own.map (·.2))) := by
  refine ⟨fun pins s σ H Q I h => ?_⟩
  rw [arm_eval_DictComp]
  refine dcT_core hu hc hN I hi ok hg ht hk he hs h fun D C s' m H' I' q hn f => ⟨m, hn, fun h'' sb => ?_⟩
  obtain ⟨f0, f1, f2, f3, f4, f5⟩ := f
  exact ⟨.ref D, H', I'.turned (t' := s'.toks) (fun b o hb e => (sb.2 b hb).trans e) f0 f1 f3 f4 f5, rfl, q⟩
/-- over a tuple that stays -/
theorem dcT_tup {K : PySem.W.Frag} {a : Addr} {xs : List V} {g : TG} {tt : TT} {tk tv : TE} {vs : List Nat} {σ : L2.St} {H1 : Hp} {D : Addr} {Qd : Hp → Prop} (Pv : Nat → Hp → Prop) (h0 : Pv 0 (upd H1 D (.dT []))) (hl : ∀ i H, i ≤ xs.length → Pv i H → SqT K H a xs)
    (hs : ∀ i x H, xs[i]? = some x → Pv i H → g x (wipe σ vs) H fun σ2 H2 => wipe σ2 vs = wipe σ vs ∧ tt σ2 H2 fun b H3 =>
      if b = true then tk σ2 H3 fun y H4 => tv σ2 H4 fun z H5 => ∃ kvs k kb, y = .ref kb ∧ H5 kb = some (.tup (k.map kV)) ∧ H5 D = some (.dT kvs) ∧ kvs.length < sizeLine ∧ Pv (i + 1) (upd H5 D (.dT (putK kvs k z))) else Pv (i + 1) H3) (hd : ∀ H, Pv xs.length H → Qd H) :
    ∃ W : Nat → Nat → Hp → Prop, (∃ m, W 0 m (upd H1 D (.dT []))) ∧ ∀ i m H, W i m H →
      ((Itt K a).stop i H ∧ Qd H) ∨ ((Itt K a).go i H ∧ ∃ Nx : Hp → Prop, (∀ H', Nx H' → ∃ m', m' < m ∧ W (i + 1) m' H') ∧ ∀ x H', (Itt K a).yld i H x H' → g x (wipe σ vs) H' fun σ2 H2 => wipe σ2 vs = wipe σ vs ∧ tt σ2 H2 fun b H3 =>
        if b = true then tk σ2 H3 fun y H4 => tv σ2 H4 fun z H5 => ∃ kvs k kb, y = .ref kb ∧ H5 kb = some (.tup (k.map kV)) ∧ H5 D = some (.dT kvs) ∧ kvs.length < sizeLine ∧ Nx (upd H5 D (.dT (putK kvs k z))) else Nx H3) := by
  refine ⟨fun i m H => m = xs.length - i ∧ i ≤ xs.length ∧ Pv i H, ⟨xs.length, by simp, Nat.zero_le _, h0⟩, ?_⟩
  rintro i m H ⟨rfl, hi, p⟩
  have q := hl i H hi p
  by_cases hlt : i < xs.length
  · refine .inr ⟨⟨xs, xs[i], q, by simp [hlt]⟩, Pv (i + 1), fun H' p' => ⟨xs.length - (i + 1), by omega, rfl, hlt, p'⟩, fun x H' y => ?_⟩
    obtain ⟨e, y⟩ := y
    subst e
    exact hs i x _ (y xs q) p
  · have e : i = xs.length := by omega
    subst e
    exact .inl ⟨⟨xs, q, Nat.le_refl _⟩, hd H p⟩
end
/-! ### d.update(d2), keys tuples -/
def mergeT (kvs more : List (List Key × V)) : List (List Key × V) := more.foldl (fun acc kv => putK acc kv.1 kv.2) kvs
theorem KT_merge {H : Hp} : ∀ {more : List (List Key × V)} {rs : List (List Key × Addr × Value)} {kvs : List (List Key × V)} {xs : List (List Key × Addr × Value)}, KT H more rs → KT H kvs xs → KT H (mergeT kvs more) (storedAllH xs rs)
  | [], _, _, _, .nil, h => h
  | _ :: _, _ :: _, _, _, .cons p r, h => by
    show KT H (mergeT (putK _ _ _) _) (storedAllH (storedH _ _ _ _) _)
    refine KT_merge r ?_
    have q := h.put _ p.2.1 p.2.2
    rw [p.1] at q ⊢
    exact q
theorem length_mergeT : ∀ (more kvs : List (List Key × V)), (mergeT kvs more).length ≤ kvs.length + more.length
  | [], kvs => Nat.le_refl _
  | p :: r, kvs => by
    show (mergeT (putK kvs p.1 p.2) r).length ≤ _
    have h1 := length_mergeT r (putK kvs p.1 p.2)
    have h2 := length_putK kvs p.1 p.2
    rw [List.length_cons]
    omega
def hashT (P : Program) (w : World) (k : List Key) : Int := (tupleKind (mixKind P w)).hash k
theorem KT_hash {P : Program} {w : World} {H : Hp} : ∀ {kvs : List (List Key × V)} {xs : List (List Key × Addr × Value)}, KT H kvs xs → (xs.map fun x => (tupleKind (mixKind P w)).hash x.1) = kvs.map fun p => hashT P w p.1
  | [], _, .nil => rfl
  | _ :: _, _ :: _, .cons p r => by
    rw [List.map_cons, List.map_cons, KT_hash r, ← p.1]
    rfl
def rUpdT (P : Program) (w : World) : V → List V → Hp → VK → Prop := fun x vs H Q => ∃ a b kvs more, x = .ref a ∧ vs = [.ref b] ∧ a ≠ b ∧ H a = some (.dT kvs) ∧ H b = some (.dT more) ∧ kvs.length + more.length ≤ sizeLine ∧
  (kvs ≠ [] ∨ (more.map fun p => hashT P w p.1).Nodup) ∧ Q .non (upd H a (.dT (mergeT kvs more)))
theorem mt_updT {X : Cx} (hu : X.A.units + 1 < cLine) : MtR X "dict.update" (rUpdT X.prog X.w) := by
  intro pins s σ H x vs v us Q I r rr h
  obtain ⟨a, b, kvs, more, rfl, rfl, nab, ha, hb, hz, hap, q⟩ := h
  obtain ⟨u, rfl, ru⟩ := Vals.one rr
  cases r
  cases ru
  obtain ⟨z, hd, xs, rel, dd⟩ := dt_of I.hok ha
  obtain ⟨z2, hd2, ys, rel2, dd2⟩ := dt_of I.hok hb
  have l1 := Paired.length rel
  have l2 := Paired.length rel2
  refine call_update_dictH (knd := tupleKind (mixKind X.prog X.w)) (tupleKind_room_in1 hu) nab hd2 dd dd2 ?_ (by omega) fun h' dd' dd2' hs => ?_
  · rcases hap with z | z
    · refine .inl fun e => z ?_
      rw [e] at l1
      exact List.eq_nil_of_length_eq_zero l1
    · refine .inr ⟨fun y hy => ?_, by rw [KT_hash rel2]; exact z⟩
      obtain ⟨_, _, _, _, _, _, _, hk, _⟩ := id dd2
      exact IsTupleKey.typeIs (hk y hy)
  · have hl : (mergeT kvs more).length ≤ sizeLine := Nat.le_trans (length_mergeT more kvs) hz
    obtain ⟨q', es, ep, hq, h2, h3, h4, _, h5⟩ := dd'
    have I' : Inv X pins σ (upd H a (.dT (mergeT kvs more))) { s with heap := h' } := by
      refine d_write (t' := s.toks) I (by rw [ha]; exact True.intro) hs ⟨q', hq⟩ ⟨hl, hd, _, (KT_merge rel2 rel).keeps fun c ys ec => ?_, q', es, ep, hq, h2, h3, h4, h5⟩
      rw [upd_ne (ne_of ec ha (fun z => nomatch z))]
      exact ec
    exact ⟨.non, _, I', rfl, q⟩
theorem hashT_name (P : Program) (w : World) (a b : Nat) : hashT P w [.inl (a : Int), .inl (b : Int)] = hP a b := rfl
end K31
/-! K31C: a dict whose keys are names and None, each with True. -/
namespace K31
open PySem PySem.Spec PyProof.Rows L2
def hN : Nm → Int
  | none => reduceHash 0xFCA86420
  | some (w, l) => hP w l
def vN (p : Nm × Addr) : Value := match p.1 with
  | none => .none
  | some _ => .ref p.2
def entN (p : Nm × Addr) : DictEntry := ⟨hN p.1, vN p, .bool true⟩
def InR : Nm → Prop
  | none => True
  | some (w, l) => w < 10 ∧ l ≤ 1296
theorem hN_inj {x y : Nm} (hx : InR x) (hy : InR y) (e : hN x = hN y) : x = y := by
  cases x with
  | none =>
    cases y with
    | none => rfl
    | some q => exact absurd e.symm (hP_none hy.1 hy.2)
  | some p =>
    cases y with
    | none => exact absurd e (hP_none hx.1 hx.2)
    | some q => exact congrArg some (hP_inj (w := p.1) (l := p.2) (w' := q.1) (l' := q.2) hx.1 hx.2 hy.1 hy.2 e)
abbrev nKey (p : Nat × Nat) : List Key := [.inl (p.1 : Int), .inl (p.2 : Int)]
def KeyIs (P : Program) (W : World) (h : Heap) (x : Nm) (v : Value) : Prop := match x with
  | none => v = .none
  | some p => ∃ a, v = .ref a ∧ (tupleKind (mixKind P W)).is h (nKey p) a
theorem hN_some (P : Program) (W : World) (p : Nat × Nat) : hN (some p) = (tupleKind (mixKind P W)).hash (nKey p) := rfl
theorem filter_one {q : Nat → Bool} {n j : Nat} (hj : j < n) (h1 : q j = true) (h2 : ∀ i, i < n → q i = true → i = j) : (List.range n).filter q = [j] := by
  induction n with
  | zero => omega
  | succ n ih =>
    rw [List.range_succ, List.filter_append]
    by_cases e : j = n
    · subst e
      have e0 : (List.range j).filter q = [] := List.filter_eq_nil_iff.mpr fun i hi hq => by
        have hi' := List.mem_range.mp hi
        have := h2 i (by omega) hq
        omega
      rw [e0]
      simp [h1]
    · rw [ih (by omega) fun i hi hq => h2 i (by omega) hq]
      have : ¬ q n = true := fun hq => e (h2 n (by omega) hq).symm
      simp [this]
section
variable {P : Program} {W : World} {A : Around} {E : Value → Shared → Prop} {s : Shared} {d : Addr} {o : Obj} {es : Array DictEntry} {ep : Nat} {ks : List (Nm × Addr)} {x : Nm} {v : Value}
theorem ent_at (he : es.toList = ks.map entN) (j : Nat) : es[j]? = (ks[j]?).map entN := by
  rw [← Array.getElem?_toList, he, List.getElem?_map]
theorem ent_sz (he : es.toList = ks.map entN) : es.size = ks.length := by
  rw [← Array.length_toList, he, List.length_map]
theorem wpAny_dictFind_nm {Q : Option Nat → Shared → Prop} (hu : A.units < cLine) (ho : s.heap.get? d = some o) (hd : o.data = .dict es ep) (he : es.toList = ks.map entN)
    (hks : ∀ p ∈ ks, InR p.1 ∧ KeyIs P W s.heap p.1 (vN p)) (hnd : (ks.map (·.1)).Nodup) (hx : InR x) (hv : KeyIs P W s.heap x v)
    (h0 : ¬ x ∈ ks.map (·.1) → Q none s) (h1 : ∀ j p, ks[j]? = some p → p.1 = x → Q (some j) s) : wpAny (model P W) A (dictFind d v (hN x)) Q E s := by
  have hsz := ent_sz he
  have notref : ∀ a, v = .ref a → ¬ (es.any fun e => e.key == v && e.hash != hN x) = true := by
    rintro a rfl
    rw [← Array.any_toList, List.any_eq_true]
    rintro ⟨e, hin, hc⟩
    rw [he] at hin
    obtain ⟨p, hp, rfl⟩ := List.mem_map.mp hin
    obtain ⟨_, hk⟩ := hks p hp
    obtain ⟨pn, pa⟩ := p
    simp only [entN, Bool.and_eq_true, beq_iff_eq, bne_iff_ne, ne_eq] at hc
    obtain ⟨c1, c2⟩ := hc
    cases pn with
    | none => cases c1
    | some q =>
      obtain ⟨b, eb, hb⟩ := hk
      rw [c1] at eb
      cases x with
      | none => cases hv
      | some z =>
        obtain ⟨a', ea, ha⟩ := hv
        rw [ea] at eb
        cases eb
        have := (tupleKind (mixKind P W)).inj hb ha
        apply c2
        rw [hN_some P W, hN_some P W, this]
  by_cases hm : x ∈ ks.map (·.1)
  · obtain ⟨p, hp, hpx⟩ := List.mem_map.mp hm
    obtain ⟨j, hj⟩ := List.mem_iff_getElem?.mp hp
    have hjl : j < ks.length := (List.getElem?_eq_some_iff.mp hj).1
    have hpl : placesWithHash es.size (fun i => es[i]?.map (·.hash)) (hN x) = [j] := by
      unfold placesWithHash
      refine filter_one (by omega) ?_ fun i hi hq => ?_
      · show (Option.map (fun x => x.hash) es[j]? == some (hN x)) = true
        rw [ent_at he, hj]
        simp [entN, hpx]
      · replace hq : (Option.map (fun x => x.hash) es[i]? == some (hN x)) = true := hq
        rw [ent_at he] at hq
        have hil : i < ks.length := by omega
        rw [List.getElem?_eq_getElem hil] at hq
        have hq' : hN (ks[i]).1 = hN x := by simpa [entN] using hq
        have e1 := hN_inj (hks _ (List.getElem_mem hil)).1 hx hq'
        have q1 : (ks.map (·.1))[i]? = some x := by rw [List.getElem?_map, List.getElem?_eq_getElem hil]; simp [e1]
        have q2 : (ks.map (·.1))[j]? = some x := by rw [List.getElem?_map, hj]; simp [hpx]
        exact nd_ix hnd q1 q2
    have hej : es[j]? = some (entN p) := by rw [ent_at he, hj]; rfl
    have hQ := h1 j p hj hpx
    obtain ⟨pn, pa⟩ := p
    cases (show pn = x from hpx)
    have hk := (hks _ hp).2
    unfold dictFind
    refine wpAny_holding ?_
    refine wpAny_bind (wpAny_dictEntries ho hd ?_)
    cases x with
    | none =>
      cases (show v = Value.none from hv)
      dsimp only
      rw [hpl]
      have hst : ([j].filterMap fun i => es[i]?.map (·.key)) = [Value.none] := by simp [hej, entN, vN]
      rw [hst, if_pos (by rfl)]
      refine wpAny_bind ?_
      refine wpAny_forIn_list _ (fun rest b s' => s' = s ∧ b = (none, ()) ∧ rest = [j] ∨ (∃ r, b = (some r, ()) ∧ wpAny (model P W) A (pure r) Q E s' ∧ rest = [])) _ ?_ ?_ _ _ (.inl ⟨rfl, rfl, rfl⟩)
      · rintro y rest b s' (⟨rfl, rfl, hr⟩ | ⟨_, _, _, hr⟩)
        · cases hr
          simp only [hej]
          rw [if_pos (by simp [entN])]
          refine wpAny_bind (wpAny_dictEpoch ho hd (wpAny_bind (SeqAt.EqAt.same Value.none _ _ _ _ (wpAny_bind (wpAny_dictEpoch ho hd ?_)))))
          show wpAny _ _ (if (ep != ep) = true then _ else _) _ E _
          rw [if_neg (by simp)]
          exact wpAny_bind (wpAny_rule (wpAny_pure (wpAny_pure hQ)))
        · cases hr
      · rintro b s' (⟨_, _, hr⟩ | ⟨r, rfl, q, _⟩)
        · cases hr
        · exact q
    | some z =>
      obtain ⟨a, rfl, ha⟩ := hv
      obtain ⟨c, ec, hc⟩ := hk
      cases (show Value.ref pa = Value.ref c from ec)
      dsimp only
      rw [hpl]
      have hst : ([j].filterMap fun i => es[i]?.map (·.key)) = [Value.ref pa] := by simp [hej, entN, vN]
      rw [hst, if_neg (by simp [carriedByValue]), if_neg (notref a rfl)]
      have quiet : ∀ {Q' : Bool → Shared → Prop}, Q' false s → wpAny (model P W) A (tableMayTell (.ref a) [Value.ref pa]) Q' E s := fun q =>
        wpAny_tableMayTell_quiet (knd := tupleKind (mixKind P W)) ha (fun v hv => ⟨nKey z, pa, List.mem_singleton.mp hv, hc⟩) q
      by_cases hone : ([Value.ref pa] == [Value.ref a]) = true <;>
      (first | rw [if_pos hone] | rw [if_neg hone]) <;> (first | refine wpAny_bind (wpAny_pure ?_) | refine wpAny_bind (quiet ?_)) <;> (
        rw [if_neg (by simp)]
        refine wpAny_bind ?_
        refine wpAny_forIn_list _ (fun rest b s' => s' = s ∧ b = (none, none) ∧ rest = [j] ∨ (∃ r, b = (some r, none) ∧ wpAny (model P W) A (pure r) Q E s' ∧ rest = [])) _ ?_ ?_ _ _ (.inl ⟨rfl, rfl, rfl⟩)
        · rintro y rest b s' (⟨rfl, rfl, hr⟩ | ⟨_, _, _, hr⟩)
          · cases hr
            simp only [hej]
            rw [if_pos (by simp [entN])]
            refine wpAny_bind (wpAny_dictEpoch ho hd (wpAny_bind ((tupleKind (mixKind P W)).eqBool (x := nKey z) (y := nKey z) hu hc ha (wpAny_bind (wpAny_dictEpoch ho hd ?_)))))
            show wpAny _ _ (if (ep != ep) = true then _ else _) _ E _
            rw [if_neg (by simp), decide_eq_true rfl]
            simp only [Option.isSome_none, Bool.false_eq_true, if_false, if_true]
            refine wpAny_bind (wpAny_rule ?_)
            rw [if_pos (by simp)]
            exact wpAny_pure (wpAny_pure hQ)
          · cases hr
        · rintro b s' (⟨_, _, hr⟩ | ⟨r, rfl, q, _⟩)
          · cases hr
          · exact q)
  · have hQ := h0 hm
    have hpl : placesWithHash es.size (fun i => es[i]?.map (·.hash)) (hN x) = [] := by
      unfold placesWithHash
      refine List.filter_eq_nil_iff.mpr fun i hi hq => ?_
      have hi' := List.mem_range.mp hi
      replace hq : (Option.map (fun x => x.hash) es[i]? == some (hN x)) = true := hq
      rw [ent_at he] at hq
      have hil : i < ks.length := by omega
      rw [List.getElem?_eq_getElem hil] at hq
      have hq' : hN (ks[i]).1 = hN x := by simpa [entN] using hq
      have e1 := hN_inj (hks _ (List.getElem_mem hil)).1 hx hq'
      exact hm (List.mem_map.mpr ⟨_, List.getElem_mem hil, e1⟩)
    unfold dictFind
    refine wpAny_holding ?_
    refine wpAny_bind (wpAny_dictEntries ho hd ?_)
    cases x with
    | none =>
      cases (show v = Value.none from hv)
      dsimp only
      rw [hpl]
      rw [if_pos (by rfl)]
      refine wpAny_bind ?_
      exact wpAny_pure (wpAny_pure hQ)
    | some z =>
      obtain ⟨a, rfl, ha⟩ := hv
      dsimp only
      rw [hpl]
      rw [if_neg (by simp [carriedByValue]), if_neg (notref a rfl)]
      rw [if_neg (by simp)]
      refine wpAny_bind ?_
      unfold tableMayTell
      rw [if_pos (by simp)]
      refine wpAny_pure ?_
      rw [if_neg (by simp)]
      refine wpAny_bind ?_
      exact wpAny_pure (wpAny_pure hQ)
theorem wpAny_pyHash_nm {Q : Int → Shared → Prop} (hu : A.units < cLine) (hv : KeyIs P W s.heap x v) (h : ∀ tk, Q (hN x) { s with toks := tk }) : wpAny (model P W) A (pyHash v) Q E s := by
  cases x with
  | none =>
    cases (show v = Value.none from hv)
    exact pyHash_key .none _ A s Q .none (by simp only [NestedKey.depth]; omega) (h _)
  | some q =>
    obtain ⟨a, rfl, ha⟩ := hv
    exact (tupleKind (mixKind P W)).pyHash hu ha (h _)
def putN (ks : List (Nm × Addr)) (x : Nm) (a : Addr) : List (Nm × Addr) := if x ∈ ks.map (·.1) then ks else ks ++ [(x, a)]
def EntD (h : Heap) (d : Addr) (ks : List (Nm × Addr)) : Prop := ∃ o es ep, h.get? d = some o ∧ o.ExactDict ∧ o.data = .dict es ep ∧ es.toList = ks.map entN
theorem KeyIs.toks {tk : Nat} (hv : KeyIs P W s.heap x v) : KeyIs P W ({ s with toks := tk } : Shared).heap x v := hv
theorem modify_same {α : Type} (f : α → α) : ∀ (l : List α) (j : Nat), (∀ x, l[j]? = some x → f x = x) → l.modify j f = l
  | [], j, _ => by simp
  | a :: r, 0, h => by simp [h a rfl]
  | a :: r, j + 1, h => by
    rw [List.modify_succ_cons, modify_same f r j fun x hx => h x (by simpa using hx)]
theorem wpAny_dictSet_nm {a : Addr} {Q : Unit → Shared → Prop} (hu : A.units < cLine) (hd : EntD s.heap d ks)
    (hks : ∀ p ∈ ks, InR p.1 ∧ KeyIs P W s.heap p.1 (vN p)) (hnd : (ks.map (·.1)).Nodup) (hx : InR x) (hv : KeyIs P W s.heap x v) (hva : v = vN (x, a)) (hz : ks.length ≤ sizeLine)
    (hQ : ∀ h' tk, EntD h' d (putN ks x a) → Heap.SameBut d s.heap h' → Q () { s with heap := h', toks := tk }) : wpAny (model P W) A (dictSet d v (.bool true)) Q E s := by
  obtain ⟨o, es, ep, ho, hc, hdat, he⟩ := hd
  unfold dictSet
  refine wpAny_holding ?_
  refine wpAny_bind (wpAny_pyHash_nm hu hv fun tk => ?_)
  unfold dictSetHashed
  refine wpAny_holding ?_
  refine wpAny_bind (wpAny_dictFind_nm (s := { s with toks := tk }) hu ho hdat he hks hnd hx hv (fun hm => ?_) fun j p hj hp => ?_)
  · refine wpAny_bind (wpAny_rule (wpAny_updateDictKeys (hz := by rw [ent_sz he]; exact hz) (s := { s with toks := tk }) ho hdat (hQ _ _ ⟨_, _, ep + 1, Heap.get?_update_self _ ho (Obj.isFreed_of_dict (Obj.data_mapDictKeys hdat _)),
      hc.mapDictKeys _, Obj.data_mapDictKeys hdat _, ?_⟩ (Heap.SameBut.update ..))))
    unfold putN
    rw [if_neg hm, hva]
    simp [he, entN]
  · refine wpAny_bind (wpAny_rule (wpAny_bind (wpAny_updateDict (s := { s with toks := tk }) ho hdat (wpAny_point (hQ _ _ ⟨_, _, ep, Heap.get?_update_self _ ho (Obj.isFreed_of_dict (Obj.data_mapDict hdat _)),
      hc.mapDict _, Obj.data_mapDict hdat _, ?_⟩ (Heap.SameBut.update ..))))))
    have hm : x ∈ ks.map (·.1) := List.mem_map.mpr ⟨p, List.mem_of_getElem? hj, hp⟩
    unfold putN
    rw [if_pos hm, Array.toList_modify, he]
    refine modify_same _ _ _ fun e hej => ?_
    rw [List.getElem?_map, hj] at hej
    cases hej
    rfl
theorem EntD.typeIs (x : EntD s.heap d ks) : s.TypeIs (.ref d) "dict" := let ⟨o, _, _, ho, hc, _⟩ := x; ⟨o, ho, hc.1⟩
theorem wpAny_setItem_nm {a : Addr} {Q : Unit → Shared → Prop} (hu : A.units + 1 < cLine) (hd : EntD s.heap d ks)
    (hks : ∀ p ∈ ks, InR p.1 ∧ KeyIs P W s.heap p.1 (vN p)) (hnd : (ks.map (·.1)).Nodup) (hx : InR x) (hv : KeyIs P W s.heap x v) (hva : v = vN (x, a)) (hz : ks.length ≤ sizeLine)
    (hQ : ∀ h' tk, EntD h' d (putN ks x a) → Heap.SameBut d s.heap h' → Q () { s with heap := h', toks := tk }) : wpAny (model P W) A (setItem (.ref d) v (.bool true)) Q E s := by
  unfold setItem
  refine wpAny_holding ?_
  refine wpAny_bind (wpAny_sequenceKey hd.typeIs (by decide) ?_)
  refine wpAny_bind (wpAny_callSpecial?_slot (name := Str.ofString "__setitem__") hd.typeIs slot_dict_setitem
    (wpAny_call_entry slot_dict_setitem hd.typeIs entry_dict_setitem ?_ (args_dict_setitem _ _ _)))
  show wpAny _ _ (Builtin.Dict.notOrdered "__setitem__" ⟨[.ref d, v, .bool true], []⟩ >>= _) _ _ s
  refine wpAny_bind (wpAny_notOrdered_dict hd.typeIs ?_)
  show wpAny _ _ (dictSet d v (.bool true) >>= _) _ _ s
  exact wpAny_bind (wpAny_dictSet_nm (a := a) (A := A.in1) (show A.in1.units < cLine from hu) hd hks hnd hx hv hva hz fun h' tk hm' hs' => wpAny_pure ⟨.none, rfl, wpAny_pure (hQ h' tk hm' hs')⟩)
theorem wpAny_in_nm {Q : Value → Shared → Prop} (hu : A.units + 1 < cLine) (hsys : (d == sysModules) = false) (hd : EntD s.heap d ks)
    (hks : ∀ p ∈ ks, InR p.1 ∧ KeyIs P W s.heap p.1 (vN p)) (hnd : (ks.map (·.1)).Nodup) (hx : InR x) (hv : KeyIs P W s.heap x v)
    (hQ : ∀ tk, Q (.bool (decide (x ∈ ks.map (·.1)))) { s with toks := tk }) : wpAny (model P W) A (compareOp .In v (.ref d)) Q E s := by
  show wpAny _ _ (do return .bool (← contains (.ref d) v)) Q E s
  refine wpAny_bind ?_
  unfold contains
  refine wpAny_holding ?_
  refine wpAny_bind (wpAny_specialOf hd.typeIs slot_dict_contains.lookup ?_)
  show wpAny _ _ (if (some (Value.builtin "dict.__contains__") == some Value.none) = true then _ else _) _ E s
  rw [if_neg (by rw [beq_builtin_none]; exact Bool.false_ne_true)]
  refine wpAny_bind (wpAny_callSpecialUnlessNone?_slot (name := Str.ofString "__contains__") hd.typeIs slot_dict_contains
    (wpAny_call_entry slot_dict_contains hd.typeIs entry_dict_contains ?_ (args_dict_contains _ _)))
  show wpAny _ _ (dictGet d v >>= _) _ _ s
  obtain ⟨o, es, ep, ho, hc, hdat, he⟩ := hd
  refine wpAny_bind ?_
  unfold dictGet
  refine wpAny_holding ?_
  refine wpAny_bind (wpAny_pyHash_nm (A := A.in1) (show A.in1.units < cLine from hu) hv fun tk => ?_)
  refine wpAny_bind (wpAny_dictFind_nm (A := A.in1) (s := { s with toks := tk }) (show A.in1.units < cLine from hu) ho hdat he hks hnd hx hv (fun hm => ?_) fun j p hj hp => ?_)
  · refine wpAny_pure ?_
    show wpAny _ _ (Builtin.Dict.pendingKey? d v >>= _) _ _ _
    have q := hQ tk
    rw [decide_eq_false hm] at q
    exact wpAny_bind (wpAny_pendingKey_other hsys (wpAny_pure ⟨_, rfl, wpAny_truthy_bool (wpAny_pure q)⟩))
  · have hm : x ∈ ks.map (·.1) := List.mem_map.mpr ⟨p, List.mem_of_getElem? hj, hp⟩
    have q := hQ tk
    rw [decide_eq_true hm] at q
    refine wpAny_bind (wpAny_dictEntries (s := { s with toks := tk }) ho hdat ?_)
    rw [ent_at he, hj]
    refine wpAny_pure ?_
    show wpAny _ _ (ret (.bool true)) _ _ _
    exact wpAny_pure ⟨_, rfl, wpAny_truthy_bool (wpAny_pure q)⟩
end
/-! ### over the layer -/
def NmD (d : Addr) (ks : List (Nm × Addr)) : HO := .ext fun h => (d == sysModules) = false ∧ EntD h d ks
theorem NmD.ok {P : Program} {W : World} {H : Hp} {h : Heap} {d : Addr} {ks : List (Nm × Addr)} (h0 : (d == sysModules) = false) (h1 : EntD h d ks) : ObjOk P W H h d (NmD d ks) := by
  obtain ⟨o, es, ep, ho, r⟩ := id h1
  refine ⟨⟨h0, h1⟩, ⟨o, ho⟩, fun h1 h2 hp hk => ?_⟩
  obtain ⟨_, o', es', ep', ho', r'⟩ := hp
  exact ⟨h0, o', es', ep', hk _ ho', r'⟩
/-- v is the name x -/
def NmAt (H : Hp) (v : V) : Nm → Prop
  | none => v = .non
  | some p => ∃ a, v = .ref a ∧ H a = some (.tup [.int (p.1 : Int), .int (p.2 : Int)])
def adr : V → Addr
  | .ref a => a
  | _ => 0
theorem NmAt.key {P : Program} {W : World} {H : Hp} {h : Heap} (ok : HOk P W H h) {v : V} {u : Value} {x : Nm} (hv : NmAt H v x) (r : RelV v u) : KeyIs P W h x u ∧ u = vN (x, adr v) := by
  cases x with
  | none =>
    cases (show v = V.non from hv)
    cases (show u = Value.none from r)
    exact ⟨rfl, rfl⟩
  | some p =>
    obtain ⟨a, rfl, ha⟩ := hv
    cases (show u = Value.ref a from r)
    exact ⟨⟨a, rfl, key_of (ks := nKey p) ok ha⟩, rfl⟩
def NGood (H : Hp) (ks : List (Nm × Addr)) : Prop := (∀ p ∈ ks, InR p.1 ∧ (∀ q, p.1 = some q → H p.2 = some (.tup [.int (q.1 : Int), .int (q.2 : Int)]))) ∧ (ks.map (·.1)).Nodup
theorem NGood.keys {P : Program} {W : World} {H : Hp} {h : Heap} (ok : HOk P W H h) {ks : List (Nm × Addr)} (g : NGood H ks) : ∀ p ∈ ks, InR p.1 ∧ KeyIs P W h p.1 (vN p) := fun p hp => by
  obtain ⟨h1, h2⟩ := g.1 p hp
  refine ⟨h1, ?_⟩
  obtain ⟨x, a⟩ := p
  cases x with
  | none => exact rfl
  | some q => exact ⟨a, rfl, key_of (ks := nKey q) ok (h2 q rfl)⟩
theorem NGood.put {H : Hp} {ks : List (Nm × Addr)} (g : NGood H ks) {x : Nm} {v : V} (hx : InR x) (hv : NmAt H v x) : NGood H (putN ks x (adr v)) := by
  unfold putN
  split
  · exact g
  · rename_i hm
    refine ⟨fun p hp => ?_, ?_⟩
    · rcases List.mem_append.mp hp with q | q
      · exact g.1 p q
      · cases List.mem_singleton.mp q
        refine ⟨hx, fun z e => ?_⟩
        cases (show x = some z from e)
        obtain ⟨a, rfl, ha⟩ := hv
        exact ha
    · rw [List.map_append]
      exact nd_snoc g.2 hm
theorem NGood.keep {H H' : Hp} {ks : List (Nm × Addr)} (g : NGood H ks) (k : ∀ b xs, H b = some (.tup xs) → H' b = some (.tup xs)) : NGood H' ks := ⟨fun p hp => ⟨(g.1 p hp).1, fun q e => k _ _ ((g.1 p hp).2 q e)⟩, g.2⟩
section
variable {X : Cx}
def tNewN : TE := fun _ H Q => ∀ p, H p = none → Q (.ref p) (upd H p (NmD p []))
theorem pe_dnewN {pos : Pos} : PE X (.Dict [] [] pos) tNewN := ⟨fun pins s σ H Q I h =>
  wpAny_Dict_empty ⟨.ref s.heap.objs.size, _, I.laid (a := s.heap.objs.size) (o := NmD s.heap.objs.size []) (t' := s.toks) (fun _ _ q => Heap.get?_push_of_some _ q) (Nat.le_refl _)
    (NmD.ok (beq_eq_false_iff_ne.mpr (Ne.symm (Nat.ne_of_lt I.big))) ⟨_, #[], 0, Heap.get?_push_size _ rfl, ⟨rfl, rfl, rfl⟩, rfl, rfl⟩), rfl, h _ (I.hok.fresh (Nat.le_refl _))⟩⟩
def rSetNm : V → V → V → Hp → (Hp → Prop) → Prop := fun o i v H Q => ∃ d ks x, o = .ref d ∧ NmAt H i x ∧ InR x ∧ v = .bl true ∧ H d = some (NmD d ks) ∧ NGood H ks ∧ ks.length < sizeLine ∧ Q (upd H d (NmD d (putN ks x (adr i))))
theorem set_nm (hu : X.A.units + 1 < cLine) : PSet X rSetNm := by
  intro pins s σ H o i v ov iv u Q I r1 r2 r3 h
  obtain ⟨d, ks, x, rfl, hi, hx, rfl, hd, g, hz, q⟩ := h
  cases r1
  cases (show u = Value.bool true from r3)
  obtain ⟨⟨hs, hE⟩, _⟩ := I.hok d _ hd
  obtain ⟨hk, hva⟩ := hi.key (P := X.prog) (W := X.w) I.hok r2
  refine wpAny_setItem_nm (a := adr i) hu hE (g.keys I.hok) g.2 hx hk hva (Nat.le_of_lt hz) fun h' tk hE' sb => ?_
  have he : ∃ q, h'.get? d = some q := let ⟨q, _, _, hq, _⟩ := hE'; ⟨q, hq⟩
  exact ⟨_, d_write I (by rw [hd]; exact True.intro) sb he (NmD.ok hs hE'), q⟩
def rInNm : R2 := fun x y H Q => ∃ d ks z, NmAt H x z ∧ InR z ∧ y = .ref d ∧ H d = some (NmD d ks) ∧ NGood H ks ∧ Q (.bl (decide (z ∈ ks.map (·.1)))) H
theorem op_inNm (hu : X.A.units + 1 < cLine) : OpR X (compareOp .In) rInNm := by
  intro pins s σ H x y v u Q I rx ry h
  obtain ⟨d, ks, z, hx, hz, rfl, hd, g, q⟩ := h
  cases ry
  obtain ⟨⟨hs, hE⟩, _⟩ := I.hok d _ hd
  obtain ⟨hk, _⟩ := hx.key (P := X.prog) (W := X.w) I.hok rx
  exact wpAny_in_nm hu hs hE (g.keys I.hok) g.2 hz hk fun tk => ⟨.bl _, H, I.tok tk, rfl, q⟩
end
end K31
/-! K31R: slips, rows, offices as they lie in the heap. -/
namespace K31
open PySem L2
/-! ### heaps: tuples and instances stay -/
def Kp (H H' : Hp) : Prop := (∀ b xs, H b = some (.tup xs) → H' b = some (.tup xs)) ∧ ∀ b C dx fs, H b = some (.ins C dx fs) → H' b = some (.ins C dx fs)
theorem Kp.refl (H : Hp) : Kp H H := ⟨fun _ _ h => h, fun _ _ _ _ h => h⟩
theorem Kp.trans {H H1 H2 : Hp} (a : Kp H H1) (b : Kp H1 H2) : Kp H H2 := ⟨fun c xs h => b.1 c xs (a.1 c xs h), fun c C dx fs h => b.2 c C dx fs (a.2 c C dx fs h)⟩
theorem _root_.L2.Same.kp {H H' : Hp} (e : Same H H') : Kp H H' := ⟨fun _ _ h => e _ _ h, fun _ _ _ _ h => e _ _ h⟩
theorem _root_.L2.Same.new {H : Hp} {p : Addr} {o : HO} (h : H p = none) : Same H (upd H p o) := fun a u e => by
  rw [upd_ne (ne_of_none e h)]
  exact e
/-- an object that H does not know may change -/
theorem _root_.L2.Same.mut {H H' : Hp} {p : Addr} {o : HO} (e : Same H H') (h : H p = none) : Same H (upd H' p o) := fun a u ha => by
  rw [upd_ne (ne_of_none ha h)]
  exact e a u ha
theorem Kp.upd {H : Hp} {p : Addr} {o : HO} (h1 : ∀ xs, H p ≠ some (.tup xs)) (h2 : ∀ C dx fs, H p ≠ some (.ins C dx fs)) : Kp H (upd H p o) :=
  ⟨fun b xs h => by
    rw [upd_ne (by rintro rfl; exact h1 xs h)]
    exact h, fun b C dx fs h => by
    rw [upd_ne (by rintro rfl; exact h2 C dx fs h)]
    exact h⟩
theorem Kp.new {H : Hp} {p : Addr} {o : HO} (h : H p = none) : Kp H (L2.upd H p o) := Same.kp (Same.new h)
theorem Kp.lst {H : Hp} {p : Addr} {xs : List V} {o : HO} (h : H p = some (.lst xs)) : Kp H (L2.upd H p o) := Kp.upd (fun _ e => by rw [h] at e; cases e) fun _ _ _ e => by rw [h] at e; cases e
theorem Kp.dT {H : Hp} {p : Addr} {kvs : List (List Key × V)} {o : HO} (h : H p = some (.dT kvs)) : Kp H (L2.upd H p o) := Kp.upd (fun _ e => by rw [h] at e; cases e) fun _ _ _ e => by rw [h] at e; cases e
theorem Kp.nmD {H : Hp} {p d : Addr} {ks : List (Nm × Addr)} {o : HO} (h : H p = some (NmD d ks)) : Kp H (L2.upd H p o) := Kp.upd (fun _ e => by rw [h] at e; cases e) fun _ _ _ e => by rw [h] at e; cases e
/-! ### lists in pairs -/
section
variable {α β : Type} {R : β → α → Prop}
theorem pr_get : ∀ {xs : List β} {ds : List α} {i : Nat} {d : α}, Paired R xs ds → ds[i]? = some d → ∃ x, xs[i]? = some x ∧ R x d
  | _, _, _, _, .nil, e => by simp at e
  | _, _, 0, _, .cons r _, e => by
    simp at e
    subst e
    exact ⟨_, rfl, r⟩
  | _, _, i + 1, _, .cons _ t, e => by
    obtain ⟨x, h1, h2⟩ := pr_get (i := i) t (by simpa using e)
    exact ⟨x, by simpa using h1, h2⟩
theorem pr_got : ∀ {xs : List β} {ds : List α} {i : Nat} {x : β}, Paired R xs ds → xs[i]? = some x → ∃ d, ds[i]? = some d ∧ R x d
  | _, _, _, _, .nil, e => by simp at e
  | _, _, 0, _, .cons r _, e => by
    simp at e
    subst e
    exact ⟨_, rfl, r⟩
  | _, _, i + 1, _, .cons _ t, e => by
    obtain ⟨x, h1, h2⟩ := pr_got (i := i) t (by simpa using e)
    exact ⟨x, by simpa using h1, h2⟩
theorem pr_of : ∀ {xs : List β} {ds : List α}, xs.length = ds.length → (∀ (i : Nat) x d, xs[i]? = some x → ds[i]? = some d → R x d) → Paired R xs ds
  | [], [], _, _ => .nil
  | [], _ :: _, h, _ => by simp at h
  | _ :: _, [], h, _ => by simp at h
  | x :: xs, d :: ds, h, k => .cons (k 0 x d rfl rfl) (pr_of (by simpa using h) fun i y e h1 h2 => k (i + 1) y e (by simpa using h1) (by simpa using h2))
theorem pr_range {f : Nat → α} {acc : List β} {n : Nat} (hl : acc.length = n) (h : ∀ (i : Nat) y, acc[i]? = some y → R y (f i)) : Paired R acc ((List.range n).map f) :=
  pr_of (by simp [hl]) fun i x d hx hd => by
    rw [List.getElem?_map] at hd
    have hi : i < n := by
      have := (List.getElem?_eq_some_iff.mp hx).1
      omega
    rw [List.getElem?_range hi] at hd
    cases hd
    exact h i x hx
theorem pr_map {γ : Type} {f : γ → α} {acc : List β} {ds : List γ} (hl : acc.length = ds.length) (h : ∀ (i : Nat) y d, acc[i]? = some y → ds[i]? = some d → R y (f d)) : Paired R acc (ds.map f) :=
  pr_of (by simp [hl]) fun i x d hx hd => by
    rw [List.getElem?_map] at hd
    cases e : ds[i]? with
    | none => rw [e] at hd; cases hd
    | some c =>
      rw [e] at hd
      cases hd
      exact h i x c hx e
theorem pr_rep {x : β} {d : α} (r : R x d) : ∀ n : Nat, Paired R (List.replicate n x) (List.replicate n d)
  | 0 => .nil
  | n + 1 => .cons r (pr_rep r n)
end
theorem rep_flat {α : Type} (x : α) : ∀ n : Nat, (List.replicate n [x]).flatten = List.replicate n x
  | 0 => rfl
  | n + 1 => by
    rw [List.replicate_succ, List.flatten_cons, rep_flat x n]
    rfl
/-! ### what lies in the heap -/
theorem NmAt.mono {H H' : Hp} {v : V} {x : Nm} (k : Kp H H') (h : NmAt H v x) : NmAt H' v x := by
  cases x with
  | none => exact h
  | some p =>
    obtain ⟨a, e, ha⟩ := h
    exact ⟨a, e, k.1 _ _ ha⟩
def TupOf {α : Type} (R : Hp → V → α → Prop) (H : Hp) (v : V) (ds : List α) : Prop := ∃ a xs, v = .ref a ∧ H a = some (.tup xs) ∧ Paired (R H) xs ds
theorem TupOf.mono {α : Type} {R : Hp → V → α → Prop} (m : ∀ {H H' : Hp} {v : V} {d : α}, Kp H H' → R H v d → R H' v d) {H H' : Hp} {v : V} {ds : List α} (k : Kp H H') (h : TupOf R H v ds) : TupOf R H' v ds := by
  obtain ⟨a, xs, e, ha, p⟩ := h
  exact ⟨a, xs, e, k.1 _ _ ha, Paired.mapP p fun _ _ q => m k q⟩
abbrev RowAt : Hp → V → List Nm → Prop := TupOf NmAt
abbrev MatAt : Hp → V → List (List Nm) → Prop := TupOf RowAt
abbrev CubAt : Hp → V → List (List (List Nm)) → Prop := TupOf MatAt
theorem RowAt.mono {H H' : Hp} {v : V} {d : List Nm} (k : Kp H H') (h : RowAt H v d) : RowAt H' v d := TupOf.mono (R := NmAt) NmAt.mono k h
theorem MatAt.mono {H H' : Hp} {v : V} {d : List (List Nm)} (k : Kp H H') (h : MatAt H v d) : MatAt H' v d := TupOf.mono (R := RowAt) RowAt.mono k h
theorem CubAt.mono {H H' : Hp} {v : V} {d : List (List (List Nm))} (k : Kp H H') (h : CubAt H v d) : CubAt H' v d := TupOf.mono (R := MatAt) MatAt.mono k h
def SlipAt (H : Hp) (v : V) (s : Slip) : Prop := ∃ a x y z, v = .ref a ∧ H a = some (.tup [x, y, z]) ∧ RowAt H x s.f ∧ MatAt H y s.s ∧ CubAt H z s.t
theorem SlipAt.mono {H H' : Hp} {v : V} {s : Slip} (k : Kp H H') (h : SlipAt H v s) : SlipAt H' v s := by
  obtain ⟨a, x, y, z, e, ha, h1, h2, h3⟩ := h
  exact ⟨a, x, y, z, e, k.1 _ _ ha, h1.mono k, h2.mono k, h3.mono k⟩
abbrev StAt : Hp → V → List Slip → Prop := TupOf SlipAt
theorem StAt.mono {H H' : Hp} {v : V} {d : List Slip} (k : Kp H H') (h : StAt H v d) : StAt H' v d := TupOf.mono (R := SlipAt) SlipAt.mono k h
def nats (l : List Nat) : List V := l.map fun (d : Nat) => V.int (d : Int)
def LotAt (H : Hp) (v : V) (l : List Nat) : Prop := ∃ a, v = .ref a ∧ H a = some (.tup (nats l))
theorem LotAt.mono {H H' : Hp} {v : V} {l : List Nat} (k : Kp H H') (h : LotAt H v l) : LotAt H' v l := by
  obtain ⟨a, e, ha⟩ := h
  exact ⟨a, e, k.1 _ _ ha⟩
abbrev WorksAt : Hp → V → List (List Nat) → Prop := TupOf LotAt
theorem WorksAt.mono {H H' : Hp} {v : V} {d : List (List Nat)} (k : Kp H H') (h : WorksAt H v d) : WorksAt H' v d := TupOf.mono (R := LotAt) LotAt.mono k h
def PartsAt (H : Hp) (v : V) (n : Nat) (ws : List (List Nat)) : Prop := ∃ a w, v = .ref a ∧ H a = some (.tup [.int (n : Int), w]) ∧ WorksAt H w ws
theorem PartsAt.mono {H H' : Hp} {v : V} {n : Nat} {ws : List (List Nat)} (k : Kp H H') (h : PartsAt H v n ws) : PartsAt H' v n ws := by
  obtain ⟨a, w, e, ha, hw⟩ := h
  exact ⟨a, w, e, k.1 _ _ ha, hw.mono k⟩
/-- an office's attributes -/
def ofl (n : Nat) (w : V) (l1 l2 : Addr) : List (Str × V) := [(("desks" : Str), V.int (n : Int)), (("works" : Str), w), (("kept_own" : Str), V.ref l1), (("kept_meets" : Str), V.ref l2)]
def OfficeAt (C : Addr) (H : Hp) (v : V) (n : Nat) (ws : List (List Nat)) : Prop := ∃ p dx w l1 l2, v = .ref p ∧ H p = some (.ins C dx (ofl n w l1 l2)) ∧ WorksAt H w ws
theorem OfficeAt.mono {C : Addr} {H H' : Hp} {v : V} {n : Nat} {ws : List (List Nat)} (k : Kp H H') (h : OfficeAt C H v n ws) : OfficeAt C H' v n ws := by
  obtain ⟨p, dx, w, l1, l2, e, hp, hw⟩ := h
  exact ⟨p, dx, w, l1, l2, e, k.2 _ _ _ _ hp, hw.mono k⟩
theorem ofl_desks (n : Nat) (w : V) (l1 l2 : Addr) : (ofl n w l1 l2).lookup ("desks" : Str) = some (.int (n : Int)) := by rfl
theorem ofl_works (n : Nat) (w : V) (l1 l2 : Addr) : (ofl n w l1 l2).lookup ("works" : Str) = some w := by rfl
/-! ### data -/
def encN : Nm → PyData
  | none => .none
  | some p => .tuple [.int (p.1 : Int), .int (p.2 : Int)]
def encR (r : List Nm) : PyData := .tuple (r.map encN)
def encM (m : List (List Nm)) : PyData := .tuple (m.map encR)
def encC (c : List (List (List Nm))) : PyData := .tuple (c.map encM)
def encS (s : Slip) : PyData := .tuple [encR s.f, encM s.s, encC s.t]
def encSt (st : List Slip) : PyData := .tuple (st.map encS)
section
variable {K : PySem.W.Frag} {H : Hp} {v : V}
theorem NmAt.dp {x : Nm} (h : NmAt H v x) : Dp K H v (encN x) := by
  cases x with
  | none =>
    cases (show v = V.non from h)
    exact .non
  | some p =>
    obtain ⟨a, rfl, ha⟩ := h
    exact .tup (SqT.of ha) (.cons (.int _) (.cons (.int _) .nil))
theorem TupOf.dp {α : Type} {R : Hp → V → α → Prop} {e : α → PyData} (m : ∀ {v : V} {d : α}, R H v d → Dp K H v (e d)) {ds : List α} (h : TupOf R H v ds) : Dp K H v (.tuple (ds.map e)) := by
  obtain ⟨a, xs, rfl, ha, p⟩ := h
  refine .tup (SqT.of ha) ?_
  clear ha
  induction p with
  | nil => exact .nil
  | cons h _ ih => exact .cons (m h) ih
theorem RowAt.dp {r : List Nm} (h : RowAt H v r) : Dp K H v (encR r) := TupOf.dp NmAt.dp h
theorem MatAt.dp {r : List (List Nm)} (h : MatAt H v r) : Dp K H v (encM r) := TupOf.dp RowAt.dp h
theorem CubAt.dp {r : List (List (List Nm))} (h : CubAt H v r) : Dp K H v (encC r) := TupOf.dp MatAt.dp h
theorem SlipAt.dp {s : Slip} (h : SlipAt H v s) : Dp K H v (encS s) := by
  obtain ⟨a, x, y, z, rfl, ha, h1, h2, h3⟩ := h
  exact .tup (SqT.of ha) (.cons h1.dp (.cons h2.dp (.cons h3.dp .nil)))
theorem StAt.dp {s : List Slip} (h : StAt H v s) : Dp K H v (encSt s) := TupOf.dp SlipAt.dp h
end
theorem lay_all {α : Type} {e : α → PyData} (h : ∀ x, (e x).canLay0 = true) : ∀ l : List α, PyData.canLayAll0 (l.map e) = true
  | [] => by simp [PyData.canLayAll0]
  | x :: r => by simp [PyData.canLayAll0, h x, lay_all h r]
theorem depth_all {α : Type} {e : α → PyData} {k : Nat} (h : ∀ x, (e x).depth ≤ k) : ∀ l : List α, PyData.depthAll (l.map e) ≤ k
  | [] => by simp [PyData.depthAll]
  | x :: r => by
    have h1 := h x
    have h2 := depth_all h r
    simp only [List.map_cons, PyData.depthAll]
    omega
theorem tup_lay {ds : List PyData} (h : PyData.canLayAll0 ds = true) : (PyData.tuple ds).canLay0 = true := by simp only [PyData.canLay0]; exact h
theorem tup_depth {ds : List PyData} {k : Nat} (h : PyData.depthAll ds ≤ k) : (PyData.tuple ds).depth ≤ k + 1 := by simp only [PyData.depth]; omega
theorem encN_lay (x : Nm) : (encN x).canLay0 = true := by cases x <;> simp [encN, PyData.canLay0, PyData.canLayAll0]
theorem encN_depth (x : Nm) : (encN x).depth ≤ 1 := by cases x <;> simp [encN, PyData.depth, PyData.depthAll]
theorem encR_lay (x : List Nm) : (encR x).canLay0 = true := tup_lay (lay_all encN_lay x)
theorem encR_depth (x : List Nm) : (encR x).depth ≤ 2 := tup_depth (depth_all encN_depth x)
theorem encM_lay (x : List (List Nm)) : (encM x).canLay0 = true := tup_lay (lay_all encR_lay x)
theorem encM_depth (x : List (List Nm)) : (encM x).depth ≤ 3 := tup_depth (depth_all encR_depth x)
theorem encC_lay (x : List (List (List Nm))) : (encC x).canLay0 = true := tup_lay (lay_all encM_lay x)
theorem encC_depth (x : List (List (List Nm))) : (encC x).depth ≤ 4 := tup_depth (depth_all encM_depth x)
theorem encS_lay (s : Slip) : (encS s).canLay0 = true := by
  refine tup_lay ?_
  simp only [PyData.canLayAll0, encR_lay, encM_lay, encC_lay, Bool.and_true]
theorem encS_depth (s : Slip) : (encS s).depth ≤ 5 := by
  refine tup_depth ?_
  have h1 := encR_depth s.f
  have h2 := encM_depth s.s
  have h3 := encC_depth s.t
  simp only [PyData.depthAll]
  omega
theorem encSt_lay (x : List Slip) : (encSt x).canLay0 = true := tup_lay (lay_all encS_lay x)
theorem encSt_depth (x : List Slip) : (encSt x).depth ≤ 6 := tup_depth (depth_all encS_depth x)
theorem shaped_of {d : PyData} {k : Nat} (h1 : d.canLay0 = true) (h2 : d.depth ≤ k) (h3 : k ≤ 64) : SeqAt.shaped d = true := by
  show (d.canLay0 && decide (d.depth ≤ 64)) = true
  rw [Bool.and_eq_true]
  exact ⟨h1, decide_eq_true (by omega)⟩
theorem encN_shaped (x : Nm) : SeqAt.shaped (encN x) = true := shaped_of (encN_lay x) (encN_depth x) (by decide)
theorem encR_shaped (x : List Nm) : SeqAt.shaped (encR x) = true := shaped_of (encR_lay x) (encR_depth x) (by decide)
theorem encS_shaped (x : Slip) : SeqAt.shaped (encS x) = true := shaped_of (encS_lay x) (encS_depth x) (by decide)
theorem encSt_shaped (x : List Slip) : SeqAt.shaped (encSt x) = true := shaped_of (encSt_lay x) (encSt_depth x) (by decide)
theorem encN_eqv (x y : Nm) : PyData.eqv (encN x) (encN y) = decide (x = y) := by
  cases x with
  | none => cases y <;> simp [encN, PyData.eqv]
  | some p =>
    cases y with
    | none => simp [encN, PyData.eqv]
    | some q =>
      obtain ⟨a, b⟩ := p
      obtain ⟨c, d⟩ := q
      have e : PyData.eqv (encN (some (a, b))) (encN (some (c, d))) = (((a : Int) == (c : Int)) && (((b : Int) == (d : Int)) && true)) := by simp only [encN, PyData.eqv, PyData.eqvAll]
      rw [e]
      by_cases h1 : a = c
      · by_cases h2 : b = d
        · subst h1 h2; simp
        · have q : ((b : Int) == (d : Int)) = false := beq_eq_false_iff_ne.mpr (by omega)
          rw [q, Bool.false_and, Bool.and_false]
          exact (decide_eq_false fun z => h2 (by cases z; rfl)).symm
      · have q : ((a : Int) == (c : Int)) = false := beq_eq_false_iff_ne.mpr (by omega)
        rw [q, Bool.false_and]
        exact (decide_eq_false fun z => h1 (by cases z; rfl)).symm
theorem encN_any (x : Nm) : ∀ r : List Nm, ((r.map encN).any fun z => PyData.eqv z (encN x)) = r.contains x
  | [] => rfl
  | y :: r => by
    rw [List.map_cons, List.any_cons, encN_any x r, encN_eqv, List.contains_cons]
    by_cases e : y = x
    · subst e; simp
    · have e' : ¬ x = y := fun z => e z.symm
      simp [e, e']
/-! ### comprehensions that make new things alone -/
section
variable {J : It} {n : Nat} {G : Hp → Prop} {Y : Nat → Hp → V → Hp → Prop} {P : Nat → V → Hp → Prop} {te : TE} {σ : L2.St} {H1 : Hp} {D : Addr} {Qd : Hp → Prop}
theorem acc_step {acc : List V} {i : Nat} {y : V} {H H4 : Hp} (hP : ∀ i y H H', Kp H H' → P i y H → P i y H') (hacc : H D = some (.lst acc)) (hl : acc.length = i) (hp : ∀ (j : Nat) y, acc[j]? = some y → P j y H) (s4 : Same H H4) (py : P i y H4) :
    ∀ (j : Nat) z, (acc ++ [y])[j]? = some z → P j z (upd H4 D (.lst (acc ++ [y]))) := fun j z hz => by
  have kk : Kp H4 (upd H4 D (.lst (acc ++ [y]))) := Kp.lst (s4 _ _ hacc)
  by_cases hj : j < acc.length
  · rw [List.getElem?_append_left hj] at hz
    exact hP _ _ _ _ (s4.kp.trans kk) (hp j z hz)
  · rw [List.getElem?_append_right (by omega)] at hz
    have hj' : j - acc.length = 0 := by
      have := (List.getElem?_eq_some_iff.mp hz).1
      simp at this
      omega
    rw [hj'] at hz
    cases hz
    have : j = i := by omega
    subst this
    exact hP _ _ _ _ kk py
theorem wipe1 (σ : L2.St) (k : Nat) (x : Option V) : wipe ((wipe σ [k]).set k x) [k] = wipe σ [k] := by
  simp [wipe, List.set_set]
theorem wipe2 (σ : L2.St) {k l : Nat} (h : k ≠ l) (x y : Option V) : wipe (((wipe σ [k, l]).set k x).set l y) [k, l] = wipe σ [k, l] := by
  show (((((σ.set l none).set k none).set k x).set l y).set l none).set k none = (σ.set l none).set k none
  rw [List.set_set, List.set_set, List.set_comm x none h, List.set_set, List.set_set]
/-- one name, no test: each turn makes one value of which P is true -/
theorem lc_one (w : Walk J n G Y) {k : Nat} (hD : H1 D = none) (hn : n ≤ 10000) (hG : ∀ H, Same H1 H → G H) (hP : ∀ i y H H', Kp H H' → P i y H → P i y H')
    (turn : ∀ (i : Nat) x H H' (Nx : V → Hp → Prop), i < n → Same H1 H → Y i H x H' → (∀ y H4, Same H H4 → P i y H4 → Nx y H4) → te ((wipe σ [k]).set k (some x)) H' Nx)
    (hd : ∀ acc H, Same H1 H → H D = some (.lst acc) → acc.length = n → (∀ (i : Nat) y, acc[i]? = some y → P i y H) → Qd H) :
    ∃ W : Nat → Nat → Hp → Prop, (∃ m, W 0 m (upd H1 D (.lst []))) ∧ ∀ i m H, W i m H →
      (J.stop i H ∧ Qd H) ∨ (J.go i H ∧ ∃ Nx : Hp → Prop, (∀ H', Nx H' → ∃ m', m' < m ∧ W (i + 1) m' H') ∧ ∀ x H', J.yld i H x H' → gName k x (wipe σ [k]) H' fun σ2 H2 => wipe σ2 [k] = wipe σ [k] ∧ tYes σ2 H2 fun b H3 =>
        if b = true then te σ2 H3 fun y H4 => ∃ acc, H4 D = some (.lst acc) ∧ acc.length < sizeLine ∧ Nx (upd H4 D (.lst (acc ++ [y]))) else Nx H3) := by
  refine lc_it w (fun i H => Same H1 H ∧ ∃ acc, H D = some (.lst acc) ∧ acc.length = i ∧ ∀ (j : Nat) y, acc[j]? = some y → P j y H) ⟨Same.new hD, [], upd_same, rfl, fun j y h => by simp at h⟩ (fun i H _ p => hG H p.1) ?_ ?_
  · rintro i x H H' hi ⟨sH, acc, hacc, hl, hp⟩ hy
    have q := turn i x H H' (fun y H4 => ∃ acc, H4 D = some (.lst acc) ∧ acc.length < sizeLine ∧ (Same H1 (upd H4 D (.lst (acc ++ [y]))) ∧ ∃ acc', upd H4 D (.lst (acc ++ [y])) D = some (.lst acc') ∧ acc'.length = i + 1 ∧ ∀ (j : Nat) z, acc'[j]? = some z → P j z (upd H4 D (.lst (acc ++ [y]))))) hi sH hy fun y H4 s4 py => ⟨acc, s4 _ _ hacc, by rw [sizeLine_eq]; omega, (sH.trans s4).mut hD, acc ++ [y], upd_same, by rw [List.length_append, List.length_singleton, hl], acc_step hP hacc hl hp s4 py⟩
    exact ⟨wipe1 σ k _, q⟩
  · rintro H ⟨sH, acc, hacc, hl, hp⟩
    exact hd acc H sH hacc hl hp
/-- a pair of names, no test -/
theorem lc_two {K : PySem.W.Frag} {xs ys : Nat → Option V} (w : Walk J n G (YPair xs ys)) {k l : Nat} (hkl : k ≠ l) (hD : H1 D = none) (hn : n ≤ 10000) (hG : ∀ H, Same H1 H → G H) (hP : ∀ i y H H', Kp H H' → P i y H → P i y H')
    (turn : ∀ (i : Nat) x z H H' (Nx : V → Hp → Prop), i < n → Same H1 H → Same H H' → xs i = some x → ys i = some z → (∀ y H4, Same H' H4 → P i y H4 → Nx y H4) → te (((wipe σ [k, l]).set k (some x)).set l (some z)) H' Nx)
    (hd : ∀ acc H, Same H1 H → H D = some (.lst acc) → acc.length = n → (∀ (i : Nat) y, acc[i]? = some y → P i y H) → Qd H) :
    ∃ W : Nat → Nat → Hp → Prop, (∃ m, W 0 m (upd H1 D (.lst []))) ∧ ∀ i m H, W i m H →
      (J.stop i H ∧ Qd H) ∨ (J.go i H ∧ ∃ Nx : Hp → Prop, (∀ H', Nx H' → ∃ m', m' < m ∧ W (i + 1) m' H') ∧ ∀ x H', J.yld i H x H' → gTup K 2 (gCons (gName k) (gCons (gName l) gNil)) x (wipe σ [k, l]) H' fun σ2 H2 => wipe σ2 [k, l] = wipe σ [k, l] ∧ tYes σ2 H2 fun b H3 =>
        if b = true then te σ2 H3 fun y H4 => ∃ acc, H4 D = some (.lst acc) ∧ acc.length < sizeLine ∧ Nx (upd H4 D (.lst (acc ++ [y]))) else Nx H3) := by
  refine lc_it w (fun i H => Same H1 H ∧ ∃ acc, H D = some (.lst acc) ∧ acc.length = i ∧ ∀ (j : Nat) y, acc[j]? = some y → P j y H) ⟨Same.new hD, [], upd_same, rfl, fun j y h => by simp at h⟩ (fun i H _ p => hG H p.1) ?_ ?_
  · rintro i v H H' hi ⟨sH, acc, hacc, hl, hp⟩ ⟨T, x, z, rfl, hT, rfl, hx, hz⟩
    have q := turn i x z H (upd H T (.tup [x, z])) (fun y H4 => ∃ acc, H4 D = some (.lst acc) ∧ acc.length < sizeLine ∧ (Same H1 (upd H4 D (.lst (acc ++ [y]))) ∧ ∃ acc', upd H4 D (.lst (acc ++ [y])) D = some (.lst acc') ∧ acc'.length = i + 1 ∧ ∀ (j : Nat) z, acc'[j]? = some z → P j z (upd H4 D (.lst (acc ++ [y]))))) hi sH (Same.new hT) hx hz fun y H4 s4 py => by
      have s5 : Same H H4 := (Same.new hT).trans s4
      exact ⟨acc, s5 _ _ hacc, by rw [sizeLine_eq]; omega, (sH.trans s5).mut hD, acc ++ [y], upd_same, by rw [List.length_append, List.length_singleton, hl], acc_step hP hacc hl hp s5 py⟩
    exact ⟨T, _, rfl, SqT.of upd_same, rfl, x, _, rfl, z, _, rfl, rfl, wipe2 σ hkl _ _, q⟩
  · rintro H ⟨sH, acc, hacc, hl, hp⟩
    exact hd acc H sH hacc hl hp
end
theorem bools_of {acc : List V} {n : Nat} {f : Nat → Bool} (hl : acc.length = n) (h : ∀ (i : Nat) y, acc[i]? = some y → y = V.bl (f i)) : acc = ((List.range n).map f).map V.bl := by
  refine List.ext_getElem? fun i => ?_
  by_cases hi : i < n
  · have e := List.getElem?_eq_getElem (l := acc) (i := i) (by omega)
    rw [e, h i _ e, List.getElem?_map, List.getElem?_map, List.getElem?_range hi]
    rfl
  · rw [List.getElem?_eq_none (by omega), List.getElem?_eq_none (by simp; omega)]
theorem all_true (n : Nat) : (((List.range n).map fun _ => true).all id) = true := by simp
end K31
/-! K31D: the text by places; what its defs are; calls in short words. -/
namespace K31
open PySem PySem.Spec PyProof.Rows L2
def top (i : Nat) : Stmt := PySem.Challenge.pw_latestword_k31_whole_slips_passed_by_sli.main.body.getD i (.Pass ⟨0, 0, 0, 0⟩)
theorem bt_len : bootBuiltins "len" = some (.builtin "len") := by decide +kernel
theorem bt_isinstance : bootBuiltins "isinstance" = some (.builtin "isinstance") := by decide +kernel
theorem bt_any : bootBuiltins "any" = some (.builtin "any") := by decide +kernel
theorem bt_all : bootBuiltins "all" = some (.builtin "all") := by decide +kernel
theorem bt_abs : bootBuiltins "abs" = some (.builtin "abs") := by decide +kernel
theorem bt_sorted : bootBuiltins "sorted" = some (.builtin "sorted") := by decide +kernel
theorem bt_int : bootBuiltins "int" = some (.type "int") := by decide +kernel
theorem bt_bool : bootBuiltins "bool" = some (.type "bool") := by decide +kernel
theorem bt_str : bootBuiltins "str" = some (.type "str") := by decide +kernel
theorem bt_list : bootBuiltins "list" = some (.type "list") := by decide +kernel
theorem bt_tuple : bootBuiltins "tuple" = some (.type "tuple") := by decide +kernel
theorem bt_range : bootBuiltins "range" = some (.type "range") := by decide +kernel
theorem bt_enumerate : bootBuiltins "enumerate" = some (.type "enumerate") := by decide +kernel
/-- the built-ins that the text reads are still the built-ins; the constants -/
structure Txt (K : PySem.W.Frag) (mg : Str → Option Value) : Prop where
  z_len : mg "len" = none
  z_isinstance : mg "isinstance" = none
  z_any : mg "any" = none
  z_all : mg "all" = none
  z_abs : mg "abs" = none
  z_sorted : mg "sorted" = none
  z_int : mg "int" = none
  z_bool : mg "bool" = none
  z_str : mg "str" = none
  z_list : mg "list" = none
  z_tuple : mg "tuple" = none
  z_range : mg "range" = none
  z_enumerate : mg "enumerate" = none
  c_MOST_DESKS : ∃ t, mg "MOST_DESKS" = some (.int 6 t)
  c_MOST_WORKS : ∃ t, mg "MOST_WORKS" = some (.int 10 t)
/-- the class Office -/
structure Ofc (K : PySem.W.Frag) (C : Addr) : Prop where
  cl : Cls K C
  nD : NoAttr K C "desks"
  nW : NoAttr K C "works"
  nO : NoAttr K C "kept_own"
  nM : NoAttr K C "kept_meets"
/-- a def of the top -/
structure Df (K : PySem.W.Frag) (mg : Str → Option Value) (x : Str) (st : Stmt) (ps : List Str) : Prop where
  ex : ∃ f fd, Fun K x x st f fd ∧ Binds K fd ps [] ∧ mg x = some (.ref f)
/-- .. that keeps a promise -/
structure Fx (P : Program) (w : World) (K : PySem.W.Frag) (mg : Str → Option Value) (base : Heap) (x : Str) (st : Stmt) (ps : List Str) (k : Nat) (sp : Sp) : Prop where
  ex : ∃ f fd, Fun K x x st f fd ∧ Binds K fd ps [] ∧ mg x = some (.ref f) ∧ FnOk P w K mg base CX0 k f fd ps sp
section
variable {P : Program} {w : World} {K : PySem.W.Frag} {mg : Str → Option Value} {base : Heap} {x : Str} {st : Stmt} {ps : List Str} {k : Nat} {sp : Sp}
theorem Df.fx (D : Df K mg x st ps) (h : ∀ f fd, Fun K x x st f fd → FnOk P w K mg base CX0 k f fd ps sp) : Fx P w K mg base x st ps k sp := by
  obtain ⟨f, fd, F, b, m⟩ := D.ex
  exact ⟨f, fd, F, b, m, h f fd F⟩
/-- THE RULE for a def, its body as a term -/
theorem Df.ok {N : List Str} (D : Df K mg x st ps) (S : FnScope N ps (defScope st)) (len : ∀ vs H Q E, sp vs H Q E → vs.length = ps.length)
    (hbody : ∀ (f : Addr) (cdv : Value) (A : Around) (outer : List Env) (s : Shared) (H : Hp) (vs : List V) (Q : VK) (E : XK), Room k (A.deeper (envOfC x (defScope st) s.heap.objs.size f cdv)) → sp vs H Q E →
      ∃ t, PSs (cxOf CX0 P w K mg base N x (defScope st) f cdv A outer s H E).nox (defBody st) t ∧ t { nx := fun _ H' => Q .non H', rt := Q } (L2.start N vs) H) : Fx P w K mg base x st ps (k + 1) sp :=
  D.fx fun f fd F => F.ok S len fun cdv A outer s H vs Q E hr h => hbody f cdv A outer s H vs Q E hr h
end
section
variable {X : Cx} {x : Str} {st : Stmt} {ps : List Str} {k : Nat} {sp : Sp} {p pos : Pos} {e : Expr} {es : List Expr} {t : TA}
/-- f(e, ..), f a def of the top that raises nothing -/
theorem pe_fx (F : Fx X.prog X.w X.K X.mg X.base x st ps k sp) (hr : Room k X.A) (ha : PA X (e :: es) t) (hg : Gl X x := by rfl)
    (hdb : (x == ("__debug__" : Str)) = false := by decide) (he : starEach (e :: es) X.env = (false, eval e X.env) :: starEach es X.env := by rfl) (hpl : (backTo pos (starEach es X.env)).any (·.1) = false := by rfl) :
    PE X (.Call (.Name x p) (e :: es) [] pos) (tCall sp [] E0 t) := by
  obtain ⟨f, fd, F1, b, m, G⟩ := F.ex
  exact pe_call G hr hg m F1.kp b .nil pass0 ha hdb he hpl
end
/-- what a class's making keeps -/
structure Mx (P : Program) (w : World) (K : PySem.W.Frag) (mg : Str → Option Value) (base : Heap) (x : Str) (C : Addr) (ps : List Str) (k : Nat) (sp : Sp) : Prop where
  ex : ∃ f fd, Mk K C f ∧ Binds K fd ps [] ∧ mg x = some (.ref C) ∧ FnOk P w K mg base CX0 k f fd ps sp
theorem pe_mkx {X : Cx} {x : Str} {C : Addr} {ps : List Str} {k : Nat} {sp : Sp} {p pos : Pos} {e : Expr} {es : List Expr} {t : TA} (F : Mx X.prog X.w X.K X.mg X.base x C ps k sp) (hr : Room (k + 1) X.A) (ha : PA X (e :: es) t) (hg : Gl X x := by rfl)
    (hdb : (x == ("__debug__" : Str)) = false := by decide) (he : starEach (e :: es) X.env = (false, eval e X.env) :: starEach es X.env := by rfl) (hpl : (backTo pos (starEach es X.env)).any (·.1) = false := by rfl) :
    PE X (.Call (.Name x p) (e :: es) [] pos) (tMake C sp [] E0 t) := by
  obtain ⟨f, fd, M, b, m, G⟩ := F.ex
  exact pe_make M G hr hg m b .nil pass0 ha hdb he hpl
/-! ### a module's constant -/
theorem pe_cst {X : Cx} {x : Str} {i : Int} {pos : Pos} (h : ∃ t, X.mg x = some (.int i t)) (hg : Gl X x := by rfl) (hd : (x == ("__debug__" : Str)) = false := by decide) : PE X (.Name x pos) (tC (.int i)) := by
  obtain ⟨t, e⟩ := h
  exact pe_glob hg e ⟨t, rfl⟩ hd
/-! ### isinstance -/
theorem rd_isi {K : PySem.W.Frag} {x : V} {T T' : String} {b : Bool} {H : Hp} {Q : VK} (ty : TyX K H x (.type T')) (e : kitB T' T = some b) (q : Q (.bl b) H) : rIsi K [x, .ty T] H Q :=
  ⟨x, .ty T, .type T', .type T, b, rfl, .ty T, ty, kit_ty e, q⟩
theorem k_ii : kitB "int" "int" = some true := by decide +kernel
theorem k_ib : kitB "int" "bool" = some false := by decide +kernel
theorem k_is : kitB "int" "str" = some false := by decide +kernel
theorem k_it : kitB "int" "tuple" = some false := by decide +kernel
theorem k_il : kitB "int" "list" = some false := by decide +kernel
theorem k_tt : kitB "tuple" "tuple" = some true := by decide +kernel
theorem k_tl : kitB "tuple" "list" = some false := by decide +kernel
/-! ### what a def that only makes new things hands back -/
def Ret (H : Hp) (Q : VK) (R : V → Hp → Prop) : Prop := ∀ v H', Same H H' → R v H' → Q v H'
theorem Ret.go {H H1 : Hp} {Q : VK} {R : V → Hp → Prop} (k : Ret H Q R) (e : Same H H1) (k' : ∀ v H', Same H1 H' → R v H' → R v H') : Ret H1 Q R := fun v H' s r => k v H' (e.trans s) r
/-! ### a list or a tuple walked -/
def iSeq (K : PySem.W.Frag) (tl : TE) : TI := fun σ H R => tl σ H fun x H1 => ∃ a xs, x = .ref a ∧ (SqL K H1 a xs ∨ SqT K H1 a xs) ∧
  ∀ (J : It) (G : Hp → Prop), Walk J xs.length G (YAt xs) → (∀ H', (∀ o, H1 a = some o → H' a = some o) → G H') → R J H1
theorem rd_keep {H H' : Hp} {a : Addr} {u : HO} (k : ∀ o, H a = some o → H' a = some o) (h : Rd H a u) : Rd H' a u := by
  rcases h with h | ⟨o, h⟩
  · exact .inl (k _ h)
  · exact .inr ⟨o, k _ h⟩
theorem pi_seq {X : Cx} {tg l : Expr} {tl : TE} (hl : PE X l tl) : PI X tg l (iSeq X.K tl) := by
  refine ⟨fun pins s σ H R I h => ?_⟩
  refine thn (hl.run pins s σ H _ I h) fun v s1 ⟨x, H1, I1, r1, q1⟩ => ?_
  obtain ⟨a, xs, e, hq, q⟩ := q1
  subst e
  cases r1
  rcases hq with hq | hq
  · obtain ⟨its, rv, p, hz⟩ := I1.list hq
    refine wpAny_pyIter_list p.isList ?_
    refine ⟨s1.heap.objs.size, [s1.heap.objs.size], _, _, H1, rfl, I1.kept (t' := s1.toks) fun b o e => Heap.get?_push_of_some _ e, turn_list a _, ⟨_, Heap.get?_push_size _ rfl, rfl, rfl⟩, fun b hb => ?_, q _ _ walk_list fun H' k => hq.imp (rd_keep k) id⟩
    have e : b = s1.heap.objs.size := by simpa using hb
    subst e
    exact I1.fpOk (Nat.le_refl _) (I1.hok.fresh (Nat.le_refl _))
  · obtain ⟨its, rv, p, hz⟩ := I1.tuple hq
    refine wpAny_pyIter_tuple (show s1.heap.IsTuple a its.toArray from p) ?_
    refine ⟨s1.heap.objs.size, [s1.heap.objs.size], _, _, H1, rfl, I1.kept (t' := s1.toks) fun b o e => Heap.get?_push_of_some _ e, turn_tuple a _, ⟨_, Heap.get?_push_size _ rfl, rfl, rfl⟩, fun b hb => ?_, q _ _ walk_tup fun H' k => hq.imp (rd_keep k) id⟩
    have e : b = s1.heap.objs.size := by simpa using hb
    subst e
    exact I1.fpOk (Nat.le_refl _) (I1.hok.fresh (Nat.le_refl _))
/-- a list or a tuple of slips -/
def SeqOf (H : Hp) (v : V) (xs : List V) : Prop := ∃ a, v = .ref a ∧ (H a = some (.lst xs) ∨ H a = some (.tup xs))
theorem SeqOf.mono {H H' : Hp} {v : V} {xs : List V} (e : Same H H') (h : SeqOf H v xs) : SeqOf H' v xs := by
  obtain ⟨a, ev, h⟩ := h
  exact ⟨a, ev, h.imp (e _ _) (e _ _)⟩
def SlsAt (H : Hp) (v : V) (sl : List Slip) : Prop := ∃ xs, SeqOf H v xs ∧ Paired (SlipAt H) xs sl
theorem SlsAt.mono {H H' : Hp} {v : V} {sl : List Slip} (e : Same H H') (h : SlsAt H v sl) : SlsAt H' v sl := by
  obtain ⟨xs, h1, h2⟩ := h
  exact ⟨xs, h1.mono e, Paired.mapP h2 fun _ _ q => q.mono e.kp⟩
/-! ### places -/
theorem atI_at {α : Type} {xs : List α} {z : Int} {j : Nat} {v : α} (e : z = (j : Int)) (h : xs[j]? = some v) : atI xs z = some v := by
  rw [e]
  exact atI_nat h
theorem nats_get {l : List Nat} {i : Nat} {x : V} (h : (nats l)[i]? = some x) : ∃ d, l[i]? = some d ∧ x = .int ((d : Nat) : Int) := by
  unfold nats at h
  rw [List.getElem?_map] at h
  cases e : l[i]? with
  | none => rw [e] at h; cases h
  | some d =>
    rw [e] at h
    cases h
    exact ⟨d, rfl, rfl⟩
theorem nats_at {l : List Nat} {i : Nat} (h : i < l.length) : (nats l)[i]? = some (.int ((l[i] : Nat) : Int)) := by
  unfold nats
  rw [List.getElem?_map, List.getElem?_eq_getElem h]
  rfl
theorem nats_len (l : List Nat) : (nats l).length = l.length := by unfold nats; rw [List.length_map]
/-! ### the rules with the fragment named (within comprehensions) -/
section
variable {X : Cx} {K : PySem.W.Frag} (h : X.K = K)
include h
theorem ix_tupK : IxR X (rIxT K) := h ▸ ix_tup
theorem ix_listK : IxR X (rIxL K) := h ▸ ix_list
theorem ix_seqK : IxR X (rIx K) := h ▸ ix_seq
theorem lenK : CallR X (.builtin "len") (fun xs H Q => ∃ p ys, xs = [.ref p] ∧ (SqL K H p ys ∨ SqT K H p ys) ∧ Q (.int ys.length) H) := h ▸ call_len_seq
theorem isiK : CallR X (.builtin "isinstance") (rIsi K) := h ▸ call_isi
theorem isiTK : CallR X (.builtin "isinstance") (rIsiT K) := h ▸ call_isiT
theorem anyK (hc : X.calm = true) : CallR X (.builtin "any") (rAny K) := h ▸ cr_any hc
theorem allK (hc : X.calm = true) : CallR X (.builtin "all") (rAll K) := h ▸ cr_all hc
theorem tupleK : CallR X (.type "tuple") (fun xs H Q => ∃ p ys, xs = [.ref p] ∧ ((SqL K H p ys ∧ ∀ l, H l = none → Q (.ref l) (upd H l (.tup ys))) ∨ (SqT K H p ys ∧ Q (.ref p) H))) := h ▸ call_tuple_of
theorem sortedK : CallR X (.builtin "sorted") (rSorted K) := h ▸ cr_sorted
theorem inK : OpR X (compareOp .In) (rIn K false) := h ▸ op_in_seq
theorem eqDK (hu : X.A.units + 64 < cLine) : OpR X (compareOp .Eq) (rEqD K) := h ▸ op_eqD hu
theorem neDK (hu : X.A.units + 64 < cLine) : OpR X (compareOp .NotEq) (rNeD K) := h ▸ op_neD hu
theorem inTDK (hu : X.A.units + 65 < cLine) : OpR X (compareOp .In) (rInTD K) := h ▸ op_inTD hu
theorem repNK : OpR X (binaryOp .Mult) (rRepN K) := h ▸ op_repN
theorem catAK : OpR X (binaryOp .Add) (rCatA K) := h ▸ op_catA
theorem sl_tupAK : SlR X (rSlA K) := h ▸ sl_tupA
theorem sl_listK : SlR X (rSlL K) := h ▸ sl_list
end
section
variable {X : Cx} {K : PySem.W.Frag} {tg l e : Expr} {tl ta : TE} {f : Str} {pos : Pos}
theorem pi_tupK (h : X.K = K) (hl : PE X l tl) : PI X tg l (iTup K tl) := h ▸ pi_tup hl
theorem pi_listK (h : X.K = K) (hl : PE X l tl) : PI X tg l (iList K tl) := h ▸ pi_list hl
theorem pi_seqK (h : X.K = K) (hl : PE X l tl) : PI X tg l (iSeq K tl) := h ▸ pi_seq hl
theorem pi_enumTK (h : X.K = K) {ta : TA} {p tpos : Pos} {elts : List Expr} {kk : Nat} (hg : Gl X "enumerate") (hm : X.mg "enumerate" = none) (ha : PA X [e] ta) (hs : starEach [e] X.env = [(false, eval e X.env)] := by rfl) :
    PI X (.Tuple elts kk tpos) (.Call (.Name "enumerate" p) [e] [] pos) (iEnumT K ta) := h ▸ pi_enumT hg hm ha hs
theorem pe_fldK (h : X.K = K) (he : PE X e ta) (hb : attributeBase e f X.env (eval e X.env) = eval e X.env) : PE X (.Attribute e f pos) (tFld K ta f) := h ▸ pe_fld he hb
theorem pg_tupK (h : X.K = K) {es : List Expr} {k : Nat} {t : TGs} {n : Nat} (hc : X.calm = true) (ht : PGs X es t)
    (hn : (assignEach es X.env).length = n := by rfl) (hst : (assignEach es X.env).findIdx? (·.1) = none := by rfl) : PG X (.Tuple es k pos) (gTup K n t) := h ▸ pg_tup hc ht hn hst
theorem pe_appK (h : X.K = K) {o : Expr} {to : TE} {es : List Expr} {t : TA} {apos cpos : Pos} (ho : PE X o to) (ha : PA X (e :: es) t)
    (hbase : attributeBase o "append" X.env (eval o X.env) = eval o X.env := by rfl)
    (hfew : ((backTo cpos (starEach (e :: es) X.env)).all (fun x => !x.1) && (backToKw cpos (keywordEach [] X.env)).all (fun x => x.1.isSome)
      && decide ((e :: es).length + ([] : List Keyword).length + (if ([] : List Keyword).isEmpty then 0 else 1) < 30)) = true := by rfl)
    (hline : (apos.endLine == cpos.line) = true := by rfl) (hs : starEach (e :: es) X.env = (false, eval e X.env) :: starEach es X.env := by rfl) (hplain : (backTo cpos (starEach es X.env)).any (·.1) = false := by rfl) :
    PE X (.Call (.Attribute o "append" apos) (e :: es) [] cpos) (tBM K "list" rAppend to t) := h ▸ pe_bm PySem.F.plainAttrs_list PySem.F.slot_list_append PySem.F.type_list_append mt_append ho ha hbase hfew hline hs hplain
end
end K31
/-! K31E1: checks. -/
namespace K31
open PySem PySem.Spec PyProof.Rows L2
def sp_is_integer : Sp := fun vs H Q _ => ∃ i : Int, vs = [.int i] ∧ Q (.bl true) H
def sp_is_within : Sp := fun vs H Q _ => ∃ i a b : Int, vs = [.int i, .int a, .int b] ∧ Q (.bl (decide (a ≤ i) && decide (i ≤ b))) H
def sp_is_pair : Sp := fun vs H Q _ => ∃ a xs, vs = [.ref a] ∧ H a = some (.tup xs) ∧ Q (.bl (decide (xs.length = 2))) H
def sp_is_lot : Sp := fun vs H Q _ => ∃ v l n, vs = [v, .int ((n : Nat) : Int)] ∧ LotAt H v l ∧ (∀ d ∈ l, d < n) ∧ l.Pairwise (· < ·) ∧ l.length ≤ 100 ∧ Ret H Q fun v _ => v = .bl true
section
variable {P : Program} {w : World} {K : PySem.W.Frag} {mg : Str → Option Value} {base : Heap}
/-- slots [(0, 'thing')] cells [] -/
abbrev s_is_integer : Stmt := (top 8)
theorem sc_is_integer : FnScope ["thing"] ["thing"] (defScope s_is_integer) := ⟨rfl, rfl, rfl, by decide +kernel, rfl, by decide +kernel, by decide +kernel⟩
theorem fx_is_integer (D : Df K mg "is_integer" s_is_integer ["thing"]) (T : Txt K mg) : Fx P w K mg base "is_integer" s_is_integer ["thing"] 1 sp_is_integer := by
  refine D.ok sc_is_integer (fun vs H Q E h => ?_) (fun f cdv A outer s H vs Q E hr h => ?_)
  · obtain ⟨i, rfl, _⟩ := h
    rfl
  · obtain ⟨i, rfl, k⟩ := h
    refine ⟨_, (pss_one (ps_ret (pe_and (pe_callB (isiK (K := K) rfl) (by rfl) T.z_isinstance bt_isinstance (pa_cons (pv 0) (pa_cons (pe_bltn (v := .ty "int") (by rfl) T.z_int bt_int rfl) pa_nil))) (pe_one (pe_not (pe_callB (isiK (K := K) rfl) (by rfl) T.z_isinstance bt_isinstance (pa_cons (pv 0) (pa_cons (pe_bltn (v := .ty "bool") (by rfl) T.z_bool bt_bool rfl) pa_nil)))))))), ?_⟩
    refine ⟨_, rfl, _, _, _, _, true, rfl, .ty _, .base (.int _), kit_ty k_ii, true, rfl, iteT ?_⟩
    exact ⟨_, rfl, _, _, _, _, false, rfl, .ty _, .base (.int _), kit_ty k_ib, false, rfl, k⟩
/-- slots [(0, 'thing'), (1, 'least'), (2, 'most')] cells [] -/
abbrev s_is_within : Stmt := (top 9)
theorem sc_is_within : FnScope ["thing", "least", "most"] ["thing", "least", "most"] (defScope s_is_within) := ⟨rfl, rfl, rfl, by decide +kernel, rfl, by decide +kernel, by decide +kernel⟩
theorem fx_is_within (D : Df K mg "is_within" s_is_within ["thing", "least", "most"]) (T : Txt K mg) (F_is_integer : Fx P w K mg base "is_integer" s_is_integer ["thing"] 1 sp_is_integer) :
    Fx P w K mg base "is_within" s_is_within ["thing", "least", "most"] 2 sp_is_within := by
  refine D.ok sc_is_within (fun vs H Q E h => ?_) (fun f cdv A outer s H vs Q E hr h => ?_)
  · obtain ⟨i, a, b, rfl, _⟩ := h
    rfl
  · obtain ⟨i, a, b, rfl, k⟩ := h
    refine ⟨_, (pss_one (ps_ret (pe_and (pe_fx F_is_integer (hr.mono (by decide)) (pa_cons (pv 0) pa_nil)) (pe_one (pe_chain op_le op_le (pv 1) (pv 0) (pv 2)))))), ?_⟩
    refine ⟨_, rfl, i, rfl, true, rfl, iteT ?_⟩
    refine ⟨_, rfl, _, rfl, _, _, rfl, rfl, _, rfl, ?_⟩
    refine ite2 (fun h1 => ?_) fun h1 => ?_
    · refine ⟨_, rfl, _, _, rfl, rfl, ?_⟩
      rw [h1, Bool.true_and] at k
      exact k
    · have h1 : decide (a ≤ i) = false := by simpa using h1
      rw [h1, Bool.false_and] at k
      exact k
/-- slots [(0, 'thing')] cells [] -/
abbrev s_is_pair : Stmt := (top 10)
theorem sc_is_pair : FnScope ["thing"] ["thing"] (defScope s_is_pair) := ⟨rfl, rfl, rfl, by decide +kernel, rfl, by decide +kernel, by decide +kernel⟩
theorem fx_is_pair (D : Df K mg "is_pair" s_is_pair ["thing"]) (T : Txt K mg) : Fx P w K mg base "is_pair" s_is_pair ["thing"] 1 sp_is_pair := by
  refine D.ok sc_is_pair (fun vs H Q E h => ?_) (fun f cdv A outer s H vs Q E hr h => ?_)
  · obtain ⟨a, xs, rfl, _⟩ := h
    rfl
  · obtain ⟨a, xs, rfl, ha, k⟩ := h
    refine ⟨_, (pss_one (ps_ret (pe_and (pe_callB (isiK (K := K) rfl) (by rfl) T.z_isinstance bt_isinstance (pa_cons (pv 0) (pa_cons (pe_bltn (v := .ty "tuple") (by rfl) T.z_tuple bt_tuple rfl) pa_nil))) (pe_one (pe_cmpR op_eq (pe_callB (lenK (K := K) rfl) (by rfl) T.z_len bt_len (pa_cons (pv 0) pa_nil)) pe_int (nomark _)))))), ?_⟩
    refine ⟨_, rfl, _, _, _, _, true, rfl, .ty _, .base (.tup ha), kit_ty k_tt, true, rfl, iteT ?_⟩
    refine ⟨_, rfl, a, _, rfl, .inr (SqT.of ha), rfl, ?_⟩
    have e : decide (V.int ((xs.length : Nat) : Int) = V.int 2) = decide (xs.length = 2) := by
      by_cases q : xs.length = 2
      · rw [q]; rfl
      · rw [decide_eq_false q]
        refine decide_eq_false fun z => q ?_
        injection z with z
        omega
    show Q (.bl (decide (V.int ((xs.length : Nat) : Int) = V.int 2))) H
    rw [e]
    exact k
/-- slots [(0, 'thing'), (1, 'below'), (2, 'item'), (3, 'at')] cells ['below', 'thing'] -/
abbrev s_is_lot : Stmt := (top 11)
theorem sc_is_lot : FnScope ["thing", "below", "item", "at"] ["thing", "below"] (defScope s_is_lot) := ⟨rfl, rfl, rfl, by decide +kernel, rfl, by decide +kernel, by decide +kernel⟩
theorem fx_is_lot (D : Df K mg "is_lot" s_is_lot ["thing", "below"]) (T : Txt K mg) (F_is_within : Fx P w K mg base "is_within" s_is_within ["thing", "least", "most"] 2 sp_is_within) :
    Fx P w K mg base "is_lot" s_is_lot ["thing", "below"] 3 sp_is_lot := by
  refine D.ok sc_is_lot (fun vs H Q E h => ?_) (fun f cdv A outer s H vs Q E hr h => ?_)
  · obtain ⟨v, l, n, rfl, _⟩ := h
    rfl
  · obtain ⟨v, l, n, rfl, ⟨a, rfl, ha⟩, hlt, hasc, hlen, k⟩ := h
    have hl100 : (nats l).length ≤ 10000 := by unfold nats; rw [List.length_map]; omega
    refine ⟨_, (pss_cons (ps_if (PW.pt (pw_or (pt_not (pt_val (pe_callB (isiK (K := K) rfl) (by rfl) T.z_isinstance bt_isinstance (pa_cons (pv 0) (pa_cons (pe_bltn (v := .ty "tuple") (by rfl) T.z_tuple bt_tuple rfl) pa_nil))))) (pw_or1 (pt_not (pt_val (pe_callB (allK (K := K) rfl rfl) (by rfl) T.z_all bt_all (pa_cons (pe_lc (own := [("item", 2)]) rfl sc_is_lot.nd (pi_tupK (K := K) rfl (pv 0)) (blkOk_by (N := ["thing", "below", "item", "at"]) (sc := (defScope s_is_lot)) (by decide +kernel)) (fun _ _ _ _ _ => (pg_name (i := 2) sc_is_lot.nd rfl (Or.inl rfl))) (fun _ _ _ _ _ => pts_nil) (fun _ _ _ _ _ => (pe_fx F_is_within (hr.mono (by decide)) (pa_cons (pv 2) (pa_cons pe_int (pa_cons (pe_op op_sub (pv 1) pe_int) pa_nil)))))) pa_nil))))))) (pss_one (ps_ret pe_bl)) pss_nil)
        (pss_one (ps_ret (pe_callB (allK (K := K) rfl rfl) (by rfl) T.z_all bt_all (pa_cons (pe_lc (own := [("at", 3)]) rfl sc_is_lot.nd (pi_range2 rfl T.z_range (pa_cons pe_int (pa_cons (pe_callB (lenK (K := K) rfl) (by rfl) T.z_len bt_len (pa_cons (pv 0) pa_nil)) pa_nil))) (blkOk_by (N := ["thing", "below", "item", "at"]) (sc := (defScope s_is_lot)) (by decide +kernel)) (fun _ _ _ _ _ => (pg_name (i := 3) sc_is_lot.nd rfl (Or.inl rfl))) (fun _ _ _ _ _ => pts_nil) (fun _ _ _ _ _ => (pe_cmpR op_lt (pe_ix (ix_tupK (K := K) rfl) (pv 0) (pe_op op_sub (pv 3) pe_int) (fun _ _ => rfl)) (pe_ix (ix_tupK (K := K) rfl) (pv 0) (pv 3) (fun _ _ => rfl)) (nomark _)))) pa_nil))))), ?_⟩
    refine ⟨_, rfl, _, _, _, _, true, rfl, .ty _, .base (.tup ha), kit_ty k_tt, true, rfl, iteF ?_⟩
    refine ⟨_, rfl, a, rfl, ⟨_, SqT.of ha⟩, fun D hD => ?_⟩
    refine lc_one (walk_tup (xs := nats l)) (P := fun _ y _ => y = V.bl true) hD hl100 (fun H' s' => SqT.of (s' _ _ ha)) (fun _ _ _ _ _ h => h) ?_ ?_
    · rintro i x H1 H2 Nx hi sH ⟨rfl, hx⟩ kN
      obtain ⟨d, hd, rfl⟩ := nats_get hx
      have hdn := hlt d (List.mem_of_getElem? hd)
      refine ⟨_, rfl, _, rfl, _, _, rfl, rfl, _, _, _, rfl, kN _ _ (Same.refl _) ?_⟩
      rw [decide_eq_true (show (0 : Int) ≤ (d : Int) by omega), decide_eq_true (show (d : Int) ≤ (n : Int) - 1 by omega)]
      rfl
    · intro acc H1 s1 hD1 hl hP
      refine ⟨D, _, rfl, SqL.of (by rw [hD1, bools_of (f := fun _ => true) hl hP]), ?_⟩
      rw [all_true]
      refine ⟨true, rfl, iteF ?_⟩
      have ha1 := s1 _ _ ha
      refine ⟨_, rfl, a, _, rfl, .inr (SqT.of ha1), _, _, rfl, ⟨by decide, by decide, by omega, by omega⟩, fun D2 hD2 => ?_⟩
      have hnl : (nats l).length = l.length := by unfold nats; rw [List.length_map]
      refine lc_one walk_range (P := fun _ y _ => y = V.bl true) hD2 (by omega) (fun H' s' => True.intro) (fun _ _ _ _ _ h => h) ?_ ?_
      · rintro i x H3 H4 Nx hi sH ⟨rfl, rfl⟩ kN
        have ha3 := sH _ _ ha1
        have hi1 : i < l.length := by omega
        have hi2 : i + 1 < l.length := by omega
        refine ⟨_, rfl, _, rfl, _, _, rfl, rfl, a, _, _, _, rfl, rfl, SqT.of ha3, atI_at (j := i) (by omega) (nats_at hi1), _, rfl, _, rfl, a, _, _, _, rfl, rfl, SqT.of ha3, atI_at (j := i + 1) (by omega) (nats_at hi2), _, _, rfl, rfl, kN _ _ (Same.refl _) ?_⟩
        have q := List.pairwise_iff_getElem.mp hasc i (i + 1) hi1 hi2 (by omega)
        exact congrArg V.bl (decide_eq_true (by omega))
      · intro acc H3 s3 hD3 hl3 hP3
        refine ⟨D2, _, rfl, SqL.of (by rw [hD3, bools_of (f := fun _ => true) hl3 hP3]), ?_⟩
        rw [all_true]
        exact k _ _ (s1.trans s3) rfl
end
end K31
/-! K31E2: offices. -/
namespace K31
open PySem PySem.Spec PyProof.Rows L2
def sp_are_works : Sp := fun vs H Q _ => ∃ v n ws, vs = [.int ((n : Nat) : Int), v] ∧ WorksAt H v ws ∧ OffOk n ws ∧ Ret H Q fun v _ => v = .bl true
def sp_is_work (C : Addr) : Sp := fun vs H Q _ => ∃ o n ws i, vs = [o, .int i] ∧ OfficeAt C H o n ws ∧ Q (.bl (decide (0 ≤ i) && decide (i ≤ (ws.length : Int) - 1))) H
def sp_check_work (C : Addr) : Sp := fun vs H Q _ => ∃ o n ws i, vs = [o, .int ((i : Nat) : Int)] ∧ OfficeAt C H o n ws ∧ i < ws.length ∧ Q .non H
def sp_check_desk (C : Addr) : Sp := fun vs H Q _ => ∃ o n ws i, vs = [o, .int ((i : Nat) : Int)] ∧ OfficeAt C H o n ws ∧ i < n ∧ Q .non H
def sp_is_row_of (C : Addr) : Sp := fun vs H Q _ => ∃ o n ws r row, vs = [o, r] ∧ OfficeAt C H o n ws ∧ LotAt H r row ∧ (∀ w ∈ row, w < ws.length) ∧ row.length ≤ 100 ∧ Ret H Q fun v _ => v = .bl true
def sp_check_row (C : Addr) : Sp := fun vs H Q _ => ∃ o n ws r row, vs = [o, r] ∧ OfficeAt C H o n ws ∧ LotAt H r row ∧ (∀ w ∈ row, w < ws.length) ∧ row.length ≤ 100 ∧ Ret H Q fun v _ => v = .non
section
variable {P : Program} {w : World} {K : PySem.W.Frag} {mg : Str → Option Value} {base : Heap} {C : Addr}
/-- slots [(0, 'desks'), (1, 'thing'), (2, 'lot')] cells ['desks'] -/
abbrev s_are_works : Stmt := (top 15)
theorem sc_are_works : FnScope ["desks", "thing", "lot"] ["desks", "thing"] (defScope s_are_works) := ⟨rfl, rfl, rfl, by decide +kernel, rfl, by decide +kernel, by decide +kernel⟩
theorem fx_are_works (D : Df K mg "are_works" s_are_works ["desks", "thing"]) (T : Txt K mg) (F_is_lot : Fx P w K mg base "is_lot" s_is_lot ["thing", "below"] 3 sp_is_lot) :
    Fx P w K mg base "are_works" s_are_works ["desks", "thing"] 4 sp_are_works := by
  refine D.ok sc_are_works (fun vs H Q E h => ?_) (fun f cdv A outer s H vs Q E hr h => ?_)
  · obtain ⟨v, n, ws, rfl, _⟩ := h
    rfl
  · obtain ⟨v, n, ws, rfl, ⟨a, xs, rfl, ha, hp⟩, ok, k⟩ := h
    have hxl : xs.length = ws.length := Paired.length hp
    have h1 := ok.w1
    have h10 := ok.w10
    refine ⟨_, (pss_cons (ps_if (PW.pt (pw_or (pt_not (pt_val (pe_callB (isiK (K := K) rfl) (by rfl) T.z_isinstance bt_isinstance (pa_cons (pv 1) (pa_cons (pe_bltn (v := .ty "tuple") (by rfl) T.z_tuple bt_tuple rfl) pa_nil))))) (pw_or1 (pt_not (pt_chain op_le op_le pe_int (pe_callB (lenK (K := K) rfl) (by rfl) T.z_len bt_len (pa_cons (pv 1) pa_nil)) (pe_cst T.c_MOST_WORKS)))))) (pss_one (ps_ret pe_bl)) pss_nil)
        (pss_one (ps_ret (pe_callB (allK (K := K) rfl rfl) (by rfl) T.z_all bt_all (pa_cons (pe_lc (own := [("lot", 2)]) rfl sc_are_works.nd (pi_tupK (K := K) rfl (pv 1)) (blkOk_by (N := ["desks", "thing", "lot"]) (sc := (defScope s_are_works)) (by decide +kernel)) (fun _ _ _ _ _ => (pg_name (i := 2) sc_are_works.nd rfl (Or.inl rfl))) (fun _ _ _ _ _ => pts_nil) (fun _ _ _ _ _ => (pe_and (pe_fx F_is_lot (hr.mono (by decide)) (pa_cons (pv 2) (pa_cons (pv 0) pa_nil))) (pe_one (pe_cmpR op_gt (pe_callB (lenK (K := K) rfl) (by rfl) T.z_len bt_len (pa_cons (pv 2) pa_nil)) pe_int (nomark _)))))) pa_nil))))), ?_⟩
    refine ⟨_, rfl, _, _, _, _, true, rfl, .ty _, .base (.tup ha), kit_ty k_tt, true, rfl, iteF ?_⟩
    refine ⟨_, rfl, a, _, rfl, .inr (SqT.of ha), _, _, rfl, rfl, _, rfl, ?_⟩
    rw [if_pos (decide_eq_true (by omega))]
    refine ⟨_, _, rfl, rfl, true, congrArg V.bl (decide_eq_true (by omega)), iteF ?_⟩
    refine ⟨_, rfl, a, rfl, ⟨_, SqT.of ha⟩, fun D2 hD2 => ?_⟩
    refine lc_one (walk_tup (xs := xs)) (P := fun _ y _ => y = V.bl true) hD2 (by omega) (fun H' s' => SqT.of (s' _ _ ha)) (fun _ _ _ _ _ h => h) ?_ ?_
    · rintro i x H1 H2 Nx hi sH ⟨rfl, hx⟩ kN
      obtain ⟨lot, hlot, b, rfl, hb⟩ := pr_got hp hx
      have hm : lot ∈ ws := List.mem_of_getElem? hlot
      have hb1 := sH _ _ hb
      refine ⟨_, rfl, _, rfl, _, lot, n, rfl, ⟨b, rfl, hb1⟩, ok.lt lot hm, ok.asc lot hm, Nat.le_trans (ok.len6 hm) (by decide), fun v H' s' e => ⟨true, e, ?_⟩⟩
      refine iteT ⟨_, rfl, b, _, rfl, .inr (SqT.of (s' _ _ hb1)), _, _, rfl, rfl, kN _ _ s' ?_⟩
      have q := ok.pos hm
      rw [nats_len]
      exact congrArg V.bl (decide_eq_true (by omega))
    · intro acc H1 s1 hD1 hl hP
      refine ⟨D2, _, rfl, SqL.of (by rw [hD1, bools_of (f := fun _ => true) hl hP]), ?_⟩
      rw [all_true]
      exact k _ _ s1 rfl
/-- slots [(0, 'office'), (1, 'thing')] cells [] -/
abbrev s_is_work : Stmt := (top 17)
theorem sc_is_work : FnScope ["office", "thing"] ["office", "thing"] (defScope s_is_work) := ⟨rfl, rfl, rfl, by decide +kernel, rfl, by decide +kernel, by decide +kernel⟩
theorem fx_is_work (D : Df K mg "is_work" s_is_work ["office", "thing"]) (T : Txt K mg) (O : Ofc K C) (F_is_within : Fx P w K mg base "is_within" s_is_within ["thing", "least", "most"] 2 sp_is_within) :
    Fx P w K mg base "is_work" s_is_work ["office", "thing"] 3 (sp_is_work C) := by
  refine D.ok sc_is_work (fun vs H Q E h => ?_) (fun f cdv A outer s H vs Q E hr h => ?_)
  · obtain ⟨o, n, ws, i, rfl, _⟩ := h
    rfl
  · obtain ⟨o, n, ws, i, rfl, ⟨p, dx, wv, l1, l2, rfl, hp, aw, xs, rfl, haw, hpr⟩, k⟩ := h
    refine ⟨_, (pss_one (ps_ret (pe_fx F_is_within (hr.mono (by decide)) (pa_cons (pv 1) (pa_cons pe_int (pa_cons (pe_op op_sub (pe_callB (lenK (K := K) rfl) (by rfl) T.z_len bt_len (pa_cons (pe_fldK (K := K) rfl (pv 0) rfl) pa_nil)) pe_int) pa_nil)))))), ?_⟩
    refine ⟨_, rfl, _, rfl, p, C, dx, _, _, rfl, hp, O.cl, O.nW, ofl_works _ _ _ _, aw, _, rfl, .inr (SqT.of haw), _, _, rfl, rfl, _, _, _, rfl, ?_⟩
    rw [Paired.length hpr]
    exact k
/-- slots [(0, 'office'), (1, 'thing')] cells [] -/
abbrev s_check_work : Stmt := (top 18)
theorem sc_check_work : FnScope ["office", "thing"] ["office", "thing"] (defScope s_check_work) := ⟨rfl, rfl, rfl, by decide +kernel, rfl, by decide +kernel, by decide +kernel⟩
theorem fx_check_work (D : Df K mg "check_work" s_check_work ["office", "thing"]) (T : Txt K mg) (F_is_work : Fx P w K mg base "is_work" s_is_work ["office", "thing"] 3 (sp_is_work C)) :
    Fx P w K mg base "check_work" s_check_work ["office", "thing"] 4 (sp_check_work C) := by
  refine D.ok sc_check_work (fun vs H Q E h => ?_) (fun f cdv A outer s H vs Q E hr h => ?_)
  · obtain ⟨o, n, ws, i, rfl, _⟩ := h
    rfl
  · obtain ⟨o, n, ws, i, rfl, ho, hi, k⟩ := h
    refine ⟨_, (pss_one (ps_if (pt_not (pt_val (pe_fx F_is_work (hr.mono (by decide)) (pa_cons (pv 0) (pa_cons (pv 1) pa_nil))))) (pss_one ps_never) pss_nil)), ?_⟩
    refine ⟨_, rfl, _, rfl, _, _, _, _, rfl, ho, true, congrArg V.bl ?_, iteF k⟩
    rw [decide_eq_true (show (0 : Int) ≤ (i : Int) by omega), decide_eq_true (show (i : Int) ≤ (ws.length : Int) - 1 by omega)]
    rfl
/-- slots [(0, 'office'), (1, 'thing')] cells [] -/
abbrev s_check_desk : Stmt := (top 19)
theorem sc_check_desk : FnScope ["office", "thing"] ["office", "thing"] (defScope s_check_desk) := ⟨rfl, rfl, rfl, by decide +kernel, rfl, by decide +kernel, by decide +kernel⟩
theorem fx_check_desk (D : Df K mg "check_desk" s_check_desk ["office", "thing"]) (T : Txt K mg) (O : Ofc K C) (F_is_within : Fx P w K mg base "is_within" s_is_within ["thing", "least", "most"] 2 sp_is_within) :
    Fx P w K mg base "check_desk" s_check_desk ["office", "thing"] 3 (sp_check_desk C) := by
  refine D.ok sc_check_desk (fun vs H Q E h => ?_) (fun f cdv A outer s H vs Q E hr h => ?_)
  · obtain ⟨o, n, ws, i, rfl, _⟩ := h
    rfl
  · obtain ⟨o, n, ws, i, rfl, ⟨p, dx, wv, l1, l2, rfl, hp, hw⟩, hi, k⟩ := h
    refine ⟨_, (pss_one (ps_if (pt_not (pt_val (pe_fx F_is_within (hr.mono (by decide)) (pa_cons (pv 1) (pa_cons pe_int (pa_cons (pe_op op_sub (pe_fldK (K := K) rfl (pv 0) rfl) pe_int) pa_nil)))))) (pss_one ps_never) pss_nil)), ?_⟩
    refine ⟨_, rfl, _, rfl, p, C, dx, _, _, rfl, hp, O.cl, O.nD, ofl_desks _ _ _ _, _, _, rfl, rfl, _, _, _, rfl, true, congrArg V.bl ?_, iteF k⟩
    rw [decide_eq_true (show (0 : Int) ≤ (i : Int) by omega), decide_eq_true (show (i : Int) ≤ (n : Int) - 1 by omega)]
    rfl
/-- slots [(0, 'office'), (1, 'thing'), (2, 'work')] cells ['office'] -/
abbrev s_is_row_of : Stmt := (top 20)
theorem sc_is_row_of : FnScope ["office", "thing", "work"] ["office", "thing"] (defScope s_is_row_of) := ⟨rfl, rfl, rfl, by decide +kernel, rfl, by decide +kernel, by decide +kernel⟩
theorem fx_is_row_of (D : Df K mg "is_row_of" s_is_row_of ["office", "thing"]) (T : Txt K mg) (F_is_work : Fx P w K mg base "is_work" s_is_work ["office", "thing"] 3 (sp_is_work C)) :
    Fx P w K mg base "is_row_of" s_is_row_of ["office", "thing"] 4 (sp_is_row_of C) := by
  refine D.ok sc_is_row_of (fun vs H Q E h => ?_) (fun f cdv A outer s H vs Q E hr h => ?_)
  · obtain ⟨o, n, ws, r, row, rfl, _⟩ := h
    rfl
  · obtain ⟨o, n, ws, r, row, rfl, ho, ⟨a, rfl, ha⟩, hw, hlen, k⟩ := h
    have hnl := nats_len row
    refine ⟨_, (pss_one (ps_ret (pe_and (pe_callB (isiK (K := K) rfl) (by rfl) T.z_isinstance bt_isinstance (pa_cons (pv 1) (pa_cons (pe_bltn (v := .ty "tuple") (by rfl) T.z_tuple bt_tuple rfl) pa_nil))) (pe_one (pe_callB (allK (K := K) rfl rfl) (by rfl) T.z_all bt_all (pa_cons (pe_lc (own := [("work", 2)]) rfl sc_is_row_of.nd (pi_tupK (K := K) rfl (pv 1)) (blkOk_by (N := ["office", "thing", "work"]) (sc := (defScope s_is_row_of)) (by decide +kernel)) (fun _ _ _ _ _ => (pg_name (i := 2) sc_is_row_of.nd rfl (Or.inl rfl))) (fun _ _ _ _ _ => pts_nil) (fun _ _ _ _ _ => (pe_fx F_is_work (hr.mono (by decide)) (pa_cons (pv 0) (pa_cons (pv 2) pa_nil))))) pa_nil)))))), ?_⟩
    refine ⟨_, rfl, _, _, _, _, true, rfl, .ty _, .base (.tup ha), kit_ty k_tt, true, rfl, iteT ?_⟩
    refine ⟨_, rfl, a, rfl, ⟨_, SqT.of ha⟩, fun D2 hD2 => ?_⟩
    refine lc_one (walk_tup (xs := nats row)) (P := fun _ y _ => y = V.bl true) hD2 (by omega) (fun H' s' => SqT.of (s' _ _ ha)) (fun _ _ _ _ _ h => h) ?_ ?_
    · rintro i x H1 H2 Nx hi sH ⟨rfl, hx⟩ kN
      obtain ⟨d, hd, rfl⟩ := nats_get hx
      have hdw := hw d (List.mem_of_getElem? hd)
      refine ⟨_, rfl, _, rfl, _, _, _, _, rfl, ho.mono sH.kp, kN _ _ (Same.refl _) (congrArg V.bl ?_)⟩
      rw [decide_eq_true (show (0 : Int) ≤ (d : Int) by omega), decide_eq_true (show (d : Int) ≤ (ws.length : Int) - 1 by omega)]
      rfl
    · intro acc H1 s1 hD1 hl hP
      refine ⟨D2, _, rfl, SqL.of (by rw [hD1, bools_of (f := fun _ => true) hl hP]), ?_⟩
      rw [all_true]
      exact k _ _ s1 rfl
/-- slots [(0, 'office'), (1, 'thing')] cells [] -/
abbrev s_check_row : Stmt := (top 21)
theorem sc_check_row : FnScope ["office", "thing"] ["office", "thing"] (defScope s_check_row) := ⟨rfl, rfl, rfl, by decide +kernel, rfl, by decide +kernel, by decide +kernel⟩
theorem fx_check_row (D : Df K mg "check_row" s_check_row ["office", "thing"]) (T : Txt K mg) (F_is_row_of : Fx P w K mg base "is_row_of" s_is_row_of ["office", "thing"] 4 (sp_is_row_of C)) :
    Fx P w K mg base "check_row" s_check_row ["office", "thing"] 5 (sp_check_row C) := by
  refine D.ok sc_check_row (fun vs H Q E h => ?_) (fun f cdv A outer s H vs Q E hr h => ?_)
  · obtain ⟨o, n, ws, r, row, rfl, _⟩ := h
    rfl
  · obtain ⟨o, n, ws, r, row, rfl, ho, hro, hw, hlen, k⟩ := h
    refine ⟨_, (pss_one (ps_if (pt_not (pt_val (pe_fx F_is_row_of (hr.mono (by decide)) (pa_cons (pv 0) (pa_cons (pv 1) pa_nil))))) (pss_one ps_never) pss_nil)), ?_⟩
    exact ⟨_, rfl, _, rfl, _, _, _, _, _, rfl, ho, hro, hw, hlen, fun v H' s' e => ⟨true, e, iteF (k _ _ s' rfl)⟩⟩
end
end K31
/-! K31E3: Office.__init__. -/
namespace K31
open PySem PySem.Spec PyProof.Rows L2
def sp_init (C : Addr) : Sp := fun vs H Q _ => ∃ p dx v n ws, vs = [.ref p, .int ((n : Nat) : Int), v] ∧ H p = some (.ins C dx []) ∧ WorksAt H v ws ∧ OffOk n ws ∧
  ∀ H' l1 l2, (∀ b o, b ≠ p → H b = some o → H' b = some o) → H' p = some (.ins C dx (ofl n v l1 l2)) → Q .non H'
/-- behind H0 all but what lies at p stands, and p has the attributes fs -/
def InvO (C p dx : Addr) (H0 H : Hp) (fs : List (Str × V)) : Prop := (∀ b o, b ≠ p → H0 b = some o → H b = some o) ∧ H p = some (.ins C dx fs)
section
variable {C p dx : Addr} {H0 H : Hp} {fs fs' : List (Str × V)}
theorem InvO.put (h : InvO C p dx H0 H fs) : InvO C p dx H0 (upd H p (.ins C dx fs')) fs' := ⟨fun b o nb e => by rw [upd_ne nb]; exact h.1 b o nb e, upd_same⟩
theorem InvO.mut {l : Addr} {o : HO} (h : InvO C p dx H0 H fs) (hl : H0 l = none) (np : p ≠ l) : InvO C p dx H0 (upd H l o) fs :=
  ⟨fun b u nb e => by rw [upd_ne (ne_of_none e hl)]; exact h.1 b u nb e, by rw [upd_ne np]; exact h.2⟩
theorem InvO.same {H' : Hp} (h : InvO C p dx H0 H fs) (s : Same H H') : InvO C p dx H0 H' fs := ⟨fun b o nb e => s _ _ (h.1 b o nb e), s _ _ h.2⟩
theorem InvO.free {l : Addr} (h : InvO C p dx H0 H fs) (hl : H l = none) : p ≠ l ∧ H0 l = none := by
  have np : p ≠ l := ne_of_none h.2 hl
  refine ⟨np, ?_⟩
  cases e : H0 l with
  | none => rfl
  | some o =>
    rw [h.1 l o (Ne.symm np) e] at hl
    cases hl
theorem InvO.tup {a : Addr} {xs : List V} (h : InvO C p dx H0 H fs) {fs0 : List (Str × V)} (hp : H0 p = some (.ins C dx fs0)) (ha : H0 a = some (.tup xs)) : H a = some (.tup xs) := h.1 _ _ (by
  rintro rfl
  rw [hp] at ha
  cases ha) ha
end
theorem nats_flat : ∀ l : List Nat, (nats l).all flatV = true
  | [] => rfl
  | d :: r => by
    show (flatV (V.int _) && (nats r).all flatV) = true
    rw [nats_flat r]
    rfl
theorem bools_ex : ∀ {acc : List V}, (∀ (i : Nat) y, acc[i]? = some y → ∃ b, y = V.bl b) → ∃ bs : List Bool, acc = bs.map V.bl
  | [], _ => ⟨[], rfl⟩
  | x :: r, h => by
    obtain ⟨b, e⟩ := h 0 x rfl
    obtain ⟨bs, eb⟩ := bools_ex (acc := r) fun i y hy => h (i + 1) y (by simpa using hy)
    exact ⟨b :: bs, by rw [e, eb]; rfl⟩
theorem s_dw : ¬ (("desks" : Str) = "works") := by decide +kernel
theorem s_do : ¬ (("desks" : Str) = "kept_own") := by decide +kernel
theorem s_dm : ¬ (("desks" : Str) = "kept_meets") := by decide +kernel
theorem s_wo : ¬ (("works" : Str) = "kept_own") := by decide +kernel
theorem s_wm : ¬ (("works" : Str) = "kept_meets") := by decide +kernel
theorem s_om : ¬ (("kept_own" : Str) = "kept_meets") := by decide +kernel
theorem s_ow : ¬ (("kept_own" : Str) = "works") := by decide +kernel
theorem s_od : ¬ (("kept_own" : Str) = "desks") := by decide +kernel
theorem s_mo : ¬ (("kept_meets" : Str) = "kept_own") := by decide +kernel
theorem s_mw : ¬ (("kept_meets" : Str) = "works") := by decide +kernel
theorem s_md : ¬ (("kept_meets" : Str) = "desks") := by decide +kernel
def of1 (n : Nat) : List (Str × V) := [(("desks" : Str), V.int (n : Int))]
def of2 (n : Nat) (w : V) : List (Str × V) := [(("desks" : Str), V.int (n : Int)), (("works" : Str), w)]
def of3 (n : Nat) (w : V) (l1 : Addr) : List (Str × V) := [(("desks" : Str), V.int (n : Int)), (("works" : Str), w), (("kept_own" : Str), V.ref l1)]
theorem put1 (n : Nat) : putF "desks" (.int (n : Int)) [] = of1 n := rfl
theorem put2 (n : Nat) (w : V) : putF "works" w (of1 n) = of2 n w := by
  show (if ("desks" : Str) = "works" then _ else _) = _
  rw [if_neg s_dw]
  rfl
theorem put3 (n : Nat) (w : V) (l1 : Addr) : putF "kept_own" (.ref l1) (of2 n w) = of3 n w l1 := by
  show (if ("desks" : Str) = "kept_own" then _ else ((("desks" : Str), V.int (n : Int)) :: (if ("works" : Str) = "kept_own" then _ else _))) = _
  rw [if_neg s_do, if_neg s_wo]
  rfl
theorem put4 (n : Nat) (w : V) (l1 l2 : Addr) : putF "kept_meets" (.ref l2) (of3 n w l1) = ofl n w l1 l2 := by
  show (if ("desks" : Str) = "kept_meets" then _ else ((("desks" : Str), V.int (n : Int)) :: (if ("works" : Str) = "kept_meets" then _ else ((("works" : Str), w) :: (if ("kept_own" : Str) = "kept_meets" then _ else _))))) = _
  rw [if_neg s_dm, if_neg s_wm, if_neg s_om]
  rfl
theorem of3_own (n : Nat) (w : V) (l1 : Addr) : (of3 n w l1).lookup ("kept_own" : Str) = some (.ref l1) := by rfl
theorem ofl_meets (n : Nat) (w : V) (l1 l2 : Addr) : (ofl n w l1 l2).lookup ("kept_meets" : Str) = some (.ref l2) := by rfl
section
variable {P : Program} {w : World} {K : PySem.W.Frag} {mg : Str → Option Value} {base : Heap} {C : Addr}
/-- slots [(0, 'self'), (1, 'desks'), (2, 'works'), (3, 'desk'), (4, 'lot'), (5, 'work'), (6, 'other')] cells ['desk', 'lot'] -/
abbrev s_Office___init : Stmt := (inClass (top 16) 0)
theorem sc_Office___init : FnScope ["self", "desks", "works", "desk", "lot", "work", "other"] ["self", "desks", "works"] (defScope s_Office___init) := ⟨rfl, rfl, rfl, by decide +kernel, rfl, by decide +kernel, by decide +kernel⟩
theorem fn_init {f : Addr} {fd : FuncData} (F : Fun K "__init__" "Office.__init__" s_Office___init f fd) (T : Txt K mg) (O : Ofc K C)
    (F_is_within : Fx P w K mg base "is_within" s_is_within ["thing", "least", "most"] 2 sp_is_within) (F_are_works : Fx P w K mg base "are_works" s_are_works ["desks", "thing"] 4 sp_are_works) :
    FnOk P w K mg base CX0 5 f fd ["self", "desks", "works"] (sp_init C) := by
  refine F.ok sc_Office___init (fun vs H Q E h => ?_) (fun cdv A outer s H vs Q E hr h => ?_)
  · obtain ⟨p, dx, v, n, ws, rfl, _⟩ := h
    rfl
  · obtain ⟨p, dx, v, n, ws, rfl, hp, hW, ok, k⟩ := h
    obtain ⟨aw, xs, rfl, haw, hpr⟩ := id hW
    have hxl : xs.length = ws.length := Paired.length hpr
    have h1 := ok.n1
    have h6 := ok.n6
    have h10 := ok.w10
    refine ⟨_, (pss_cons (ps_if (pt_not (pt_val (pe_fx F_is_within (hr.mono (by decide)) (pa_cons (pv 1) (pa_cons pe_int (pa_cons (pe_cst T.c_MOST_DESKS) pa_nil)))))) (pss_one ps_never) pss_nil)
        (pss_cons (ps_if (pt_not (pt_val (pe_fx F_are_works (hr.mono (by decide)) (pa_cons (pv 1) (pa_cons (pv 2) pa_nil))))) (pss_one ps_never) pss_nil)
        (pss_cons (ps_fld (pv 0) (pv 1) rfl)
        (pss_cons (ps_fld (pv 0) (pv 2) rfl)
        (pss_cons (ps_fld (pv 0) (pe_lst pa_nil) rfl)
        (pss_cons (ps_for PassesOwn.never rfl (pi_range1 rfl T.z_range (pa_cons (pv 1) pa_nil)) (pg_name (i := 3) sc_Office___init.nd rfl (Or.inr rfl)) (pss_one (ps_expr (pe_appK (K := K) rfl (pe_fldK (K := K) rfl (pv 0) rfl) (pa_cons (pe_callTy (tupleK (K := K) rfl) (by rfl) T.z_tuple bt_tuple (pa_cons (pe_lc (own := [("work", 5), ("lot", 4)]) rfl sc_Office___init.nd (pi_enumTK (K := K) rfl rfl T.z_enumerate (pa_cons (pv 2) pa_nil)) (blkOk_by (N := ["self", "desks", "works", "desk", "lot", "work", "other"]) (sc := (defScope s_Office___init)) (by decide +kernel)) (fun _ _ _ _ _ => (pg_tupK (K := K) (n := 2) rfl rfl (pgs_cons (pg_name (i := 5) sc_Office___init.nd rfl (Or.inl rfl)) (pgs_cons (pg_name (i := 4) sc_Office___init.nd rfl (Or.inl rfl)) pgs_nil)))) (fun _ _ _ _ _ => (pts_one (pt_cmpR (inK (K := K) rfl) (pv 3) (pv 4) (by rfl)))) (fun _ _ _ _ _ => (pv 5))) pa_nil)) pa_nil)))))
        (pss_cons (ps_fld (pv 0) (pe_lst pa_nil) rfl)
        (pss_one (ps_for PassesOwn.never rfl (pi_tupK (K := K) rfl (pv 2)) (pg_name (i := 4) sc_Office___init.nd rfl (Or.inr rfl)) (pss_one (ps_expr (pe_appK (K := K) rfl (pe_fldK (K := K) rfl (pv 0) rfl) (pa_cons (pe_lc (own := [("other", 6)]) rfl sc_Office___init.nd (pi_tupK (K := K) rfl (pv 2)) (blkOk_by (N := ["self", "desks", "works", "desk", "lot", "work", "other"]) (sc := (defScope s_Office___init)) (by decide +kernel)) (fun _ _ _ _ _ => (pg_name (i := 6) sc_Office___init.nd rfl (Or.inr rfl))) (fun _ _ _ _ _ => pts_nil) (fun _ _ _ _ _ => (pe_callB (anyK (K := K) rfl rfl) (by rfl) T.z_any bt_any (pa_cons (pe_lc (own := [("desk", 3)]) rfl sc_Office___init.nd (pi_tupK (K := K) rfl (pv 4)) (blkOk_by (N := ["self", "desks", "works", "desk", "lot", "work", "other"]) (sc := (relS _ (defScope s_Office___init))) (by decide +kernel)) (fun _ _ _ _ _ => (pg_name (i := 3) sc_Office___init.nd rfl (Or.inl rfl))) (fun _ _ _ _ _ => pts_nil) (fun _ _ _ _ _ => (pe_cmpR (inK (K := K) rfl) (pv 3) (pv 6) (by rfl)))) pa_nil)))) pa_nil))))))))))))), ?_⟩
    refine ⟨_, rfl, _, _, _, rfl, true, congrArg V.bl (by rw [decide_eq_true (show (1 : Int) ≤ (n : Int) by omega), decide_eq_true (show (n : Int) ≤ 6 by omega)]; rfl), iteF ?_⟩
    refine ⟨_, rfl, _, rfl, _, n, ws, rfl, hW, ok, fun v1 H1 s1 e1 => ⟨true, e1, iteF ?_⟩⟩
    have I1 : InvO C p dx H H1 [] := ⟨fun b o _ e => s1 _ _ e, s1 _ _ hp⟩
    refine ⟨_, rfl, _, rfl, p, C, dx, [], rfl, I1.2, O.cl, O.nD, (by show 0 < 1000; decide), ?_⟩
    rw [put1]
    have I2 := I1.put (fs' := of1 n)
    refine ⟨_, rfl, _, rfl, p, C, dx, of1 n, rfl, I2.2, O.cl, O.nW, (by show 1 < 1000; decide), ?_⟩
    rw [put2]
    have I3 := I2.put (fs' := of2 n (.ref aw))
    refine ⟨Nat.zero_le _, fun l1 hl1 => ?_⟩
    obtain ⟨np1, h01⟩ := I3.free hl1
    have I4 := I3.mut (o := .lst []) h01 np1
    refine ⟨_, rfl, p, C, dx, of2 n (.ref aw), rfl, I4.2, O.cl, O.nO, (by show 2 < 1000; decide), ?_⟩
    rw [put3]
    have I5 := I4.put (fs' := of3 n (.ref aw) l1)
    have e5 : (upd (upd (upd (upd H1 p (.ins C dx (of1 n))) p (.ins C dx (of2 n (.ref aw)))) l1 (.lst [])) p (.ins C dx (of3 n (.ref aw) l1))) l1 = some (.lst []) := by
      rw [upd_ne (Ne.symm np1), upd_same]
    generalize (upd (upd (upd (upd H1 p (.ins C dx (of1 n))) p (.ins C dx (of2 n (.ref aw)))) l1 (.lst [])) p (.ins C dx (of3 n (.ref aw) l1))) = H5 at I5 e5
    refine ⟨_, rfl, _, rfl, by omega, by omega, ?_⟩
    refine for_it walk_range (fun i σ H' => (∃ d, σ = [some (.ref p), some (.int (n : Int)), some (.ref aw), d, none, none, none]) ∧ InvO C p dx H H' (of3 n (.ref aw) l1) ∧ ∃ ys, H' l1 = some (.lst ys) ∧ ys.length = i)
      ⟨⟨none, rfl⟩, I5, [], e5, rfl⟩ (fun _ _ _ _ _ => True.intro) ?_ ?_
    · rintro i x σ H7 H6 hi ⟨⟨d, rfl⟩, I6, ys, hys, hyl⟩ ⟨rfl, rfl⟩
      have haw6 := I6.tup hp haw
      refine ⟨_, rfl, p, C, dx, _, _, rfl, I6.2, O.cl, O.nO, of3_own _ _ _, .inl ⟨rfl, _, SqL.of hys⟩, _, rfl, aw, xs, rfl, SqT.of haw6, fun D2 hD2 => ?_⟩
      refine lc_it walk_enumT (fun j H' => Same H6 H' ∧ ∃ acc, H' D2 = some (.lst acc) ∧ acc.length ≤ j) ⟨Same.new hD2, [], upd_same, Nat.le_refl _⟩ (fun j H' _ q => SqT.of (q.1 _ _ haw6)) ?_ ?_
      · rintro j y H8 H9 hj ⟨s8, acc, hacc, hl⟩ ⟨Tt, x, z, rfl, hT, rfl, hx, hz⟩
        cases hx
        obtain ⟨lot, hlot, b, rfl, hb⟩ := pr_got hpr hz
        have s9 := s8.trans (Same.new (o := .tup [.int (j : Int), .ref b]) hT)
        have hb9 := s9 _ _ (I6.tup hp hb)
        refine ⟨Tt, _, rfl, SqT.of upd_same, rfl, _, _, rfl, _, _, rfl, rfl, wipe2 _ (by decide) _ _, ?_⟩
        refine ⟨_, rfl, _, rfl, b, _, rfl, .inr (SqT.of hb9), rfl, nats_flat lot, _, rfl, ?_⟩
        have hacc9 : upd H8 Tt (.tup [.int (j : Int), .ref b]) D2 = some (.lst acc) := Same.new hT _ _ hacc
        refine ite2 (fun _ => ?_) fun _ => ?_
        · refine ⟨_, rfl, acc, hacc9, by rw [sizeLine_eq]; omega, s9.mut hD2, _, upd_same, ?_⟩
          rw [List.length_append, List.length_singleton]
          omega
        · exact ⟨s9, acc, hacc9, by omega⟩
      · rintro H8 ⟨s8, acc, hacc, hl⟩
        refine ⟨D2, acc, rfl, .inl ⟨SqL.of hacc, fun t ht => ?_⟩⟩
        have I8 := I6.same s8
        obtain ⟨npt, h0t⟩ := I8.free ht
        have s9 := s8.trans (Same.new (o := .tup acc) ht)
        refine ⟨l1, ys, _, rfl, rfl, s9 _ _ hys, by rw [sizeLine_eq]; omega, ⟨_, rfl⟩, ?_, _, upd_same, ?_⟩
        · exact (I6.same s9).mut h01 np1
        · rw [List.length_append, List.length_singleton, hyl]
    · rintro σ H6 ⟨⟨d, rfl⟩, I6, ys, hys, hyl⟩
      refine ⟨Nat.zero_le _, fun l2 hl2 => ?_⟩
      obtain ⟨np2, h02⟩ := I6.free hl2
      have I7 := I6.mut (o := .lst []) h02 np2
      refine ⟨_, rfl, p, C, dx, of3 n (.ref aw) l1, rfl, I7.2, O.cl, O.nM, (by show 3 < 1000; decide), ?_⟩
      rw [put4]
      have I8 := I7.put (fs' := ofl n (.ref aw) l1 l2)
      have e8 : (upd (upd H6 l2 (.lst [])) p (.ins C dx (ofl n (.ref aw) l1 l2))) l2 = some (.lst []) := by
        rw [upd_ne (Ne.symm np2), upd_same]
      generalize (upd (upd H6 l2 (.lst [])) p (.ins C dx (ofl n (.ref aw) l1 l2))) = H8 at I8 e8
      refine ⟨_, rfl, aw, rfl, ⟨_, SqT.of (I8.tup hp haw)⟩, ?_⟩
      refine for_it (walk_tup (xs := xs)) (fun i σ H' => (∃ d e, σ = [some (.ref p), some (.int (n : Int)), some (.ref aw), d, e, none, none]) ∧ InvO C p dx H H' (ofl n (.ref aw) l1 l2) ∧ ∃ ys, H' l2 = some (.lst ys) ∧ ys.length = i)
        ⟨⟨_, none, rfl⟩, I8, [], e8, rfl⟩ (fun i σ H' _ q => SqT.of (q.2.1.tup hp haw)) ?_ ?_
      · rintro i x σ H10 H9 hi ⟨⟨d, e, rfl⟩, I9, zs, hzs, hzl⟩ ⟨rfl, hx⟩
        obtain ⟨lot, hlot, b, rfl, hb⟩ := pr_got hpr hx
        have haw9 := I9.tup hp haw
        have hb9 := I9.tup hp hb
        have hm : lot ∈ ws := List.mem_of_getElem? hlot
        refine ⟨_, rfl, p, C, dx, _, _, rfl, I9.2, O.cl, O.nM, ofl_meets _ _ _ _, .inl ⟨rfl, _, SqL.of hzs⟩, _, rfl, aw, rfl, ⟨_, SqT.of haw9⟩, fun D2 hD2 => ?_⟩
        refine lc_one (walk_tup (xs := xs)) (P := fun _ _ _ => True) hD2 (by omega) (fun H' s' => SqT.of (s' _ _ haw9)) (fun _ _ _ _ _ h => h) ?_ ?_
        · rintro j y H12 H11 Nx hj s11 ⟨rfl, hy⟩ kN
          obtain ⟨lot2, hlot2, b2, rfl, hb2⟩ := pr_got hpr hy
          have hb2' := s11 _ _ (I9.tup hp hb2)
          have hb' := s11 _ _ hb9
          refine ⟨_, rfl, b, rfl, ⟨_, SqT.of hb'⟩, fun D3 hD3 => ?_⟩
          refine lc_one (walk_tup (xs := nats lot)) (P := fun _ y _ => ∃ c, y = V.bl c) hD3 (by rw [nats_len]; exact Nat.le_trans (ok.len6 hm) (by decide)) (fun H' s' => SqT.of (s' _ _ hb')) (fun _ _ _ _ _ h => h) ?_ ?_
          · rintro m z H14 H13 Nx2 hm2 s13 ⟨rfl, hz⟩ kN2
            obtain ⟨dd, hdd, rfl⟩ := nats_get hz
            exact ⟨_, rfl, _, rfl, b2, _, rfl, .inr (SqT.of (s13 _ _ hb2')), rfl, nats_flat lot2, kN2 _ _ (Same.refl _) ⟨_, rfl⟩⟩
          · intro acc H13 s13 hD13 hl13 hP13
            obtain ⟨bs, ebs⟩ := bools_ex hP13
            exact ⟨D3, bs, rfl, SqL.of (by rw [hD13, ebs]), kN _ _ s13 True.intro⟩
        · intro acc H11 s11 hD11 hl11 _
          refine ⟨l2, zs, _, rfl, rfl, s11 _ _ hzs, by rw [sizeLine_eq]; omega, ⟨_, _, rfl⟩, ?_, _, upd_same, ?_⟩
          · exact (I9.same s11).mut h02 np2
          · rw [List.length_append, List.length_singleton, hzl]
      · rintro σ H9 ⟨⟨d, e, rfl⟩, I9, zs, hzs, hzl⟩
        exact k H9 l1 l2 I9.1 I9.2
end
end K31
/-! K31E4: slips: blank ones, which is newer. -/
namespace K31
open PySem PySem.Spec PyProof.Rows L2
def sp_blank_of (C : Addr) : Sp := fun vs H Q _ => ∃ o n ws, vs = [o] ∧ OfficeAt C H o n ws ∧ 1 ≤ n ∧ n ≤ 6 ∧ Ret H Q fun v H' => SlipAt H' v (blank n)
def sp_is_known : Sp := fun vs H Q _ => ∃ o1 o2 s t d n m, vs = [o1, o2, .int ((d : Nat) : Int)] ∧ SlipAt H o1 s ∧ SlipAt H o2 t ∧ SlipOk n m s ∧ SlipOk n m t ∧ d < n ∧ n ≤ 6 ∧ Ret H Q fun v _ => v = .bl (known s t d)
def sp_word_for : Sp := fun vs H Q _ => ∃ o1 o2 s t d n m, vs = [o1, o2, .int ((d : Nat) : Int)] ∧ SlipAt H o1 s ∧ SlipAt H o2 t ∧ SlipOk n m s ∧ SlipOk n m t ∧ d < n ∧ n ≤ 6 ∧
  Ret H Q fun v _ => ∃ x : Str, v = .str x ∧ decide (x = "other") = isOther s t d
def sp_newest : Sp := fun vs H Q _ => ∃ o sl d n m, vs = [o, .int ((d : Nat) : Int)] ∧ SlsAt H o sl ∧ (∀ s ∈ sl, SlipOk n m s) ∧ 0 < sl.length ∧ sl.length ≤ 6 ∧ d < n ∧ n ≤ 6 ∧ Ret H Q fun v _ => v = .int ((newest sl d : Nat) : Int)
theorem hr65 {k : Nat} {A : Around} (hr : Room k A) : A.units + 65 < cLine := by have := hr.un; omega
theorem hr1 {k : Nat} {A : Around} (hr : Room k A) : A.units + 1 < cLine := by have := hr.un; omega
theorem hr0 {k : Nat} {A : Around} (hr : Room k A) : A.units < cLine := by have := hr.un; omega
theorem rd_rep {K : PySem.W.Frag} {H : Hp} {Q : VK} {t : Addr} {x : V} {n : Nat} (ht : H t = some (.tup [x])) (h1 : 1 ≤ n) (h6 : n ≤ 6) (q : ∀ p H', Same H H' → H' p = some (.tup (List.replicate n x)) → Q (.ref p) H') : rRepN K (.ref t) (.int ((n : Nat) : Int)) H Q :=
  ⟨t, [x], n, rfl, rfl, SqT.of ht, by simp, h1, by omega, by simp, fun e => q t H (Same.refl _) (by rw [e]; exact ht), fun p hp => q p _ (Same.new hp) (by rw [upd_same, rep_flat])⟩
theorem get_of {α : Type} {l : List α} {i : Nat} (h : i < l.length) (x : α) : l[i]? = some (l.getD i x) := by
  rw [List.getD_eq_getElem?_getD, List.getElem?_eq_getElem h]
  rfl
theorem NmAt.non_iff {H : Hp} {v : V} {x : Nm} (h : NmAt H v x) : decide (v = .non) = decide (x = none) := by
  cases x with
  | none =>
    cases (show v = V.non from h)
    rfl
  | some p =>
    obtain ⟨a, rfl, _⟩ := h
    rfl
theorem rd_ixSeq {K : PySem.W.Frag} {H : Hp} {Q : VK} {v x : V} {xs : List V} {i : Nat} (h : SeqOf H v xs) (hx : xs[i]? = some x) (q : Q x H) : rIx K v (.int ((i : Nat) : Int)) H Q := by
  obtain ⟨a, rfl, h⟩ := h
  rcases h with h | h
  · exact .inl ⟨a, xs, _, x, rfl, rfl, SqL.of h, atI_nat hx, q⟩
  · exact .inr (.inl ⟨a, xs, _, x, rfl, rfl, SqT.of h, atI_nat hx, q⟩)
theorem rd_lenSeq {K : PySem.W.Frag} {H : Hp} {v : V} {xs : List V} (h : SeqOf H v xs) : ∃ a, v = .ref a ∧ (SqL K H a xs ∨ SqT K H a xs) := by
  obtain ⟨a, rfl, h⟩ := h
  exact ⟨a, rfl, h.imp SqL.of SqT.of⟩
section
variable {P : Program} {w : World} {K : PySem.W.Frag} {mg : Str → Option Value} {base : Heap} {C : Addr}
/-- slots [(0, 'office'), (1, 'row')] cells [] -/
abbrev s_blank_of : Stmt := (top 23)
theorem sc_blank_of : FnScope ["office", "row"] ["office"] (defScope s_blank_of) := ⟨rfl, rfl, rfl, by decide +kernel, rfl, by decide +kernel, by decide +kernel⟩
theorem fx_blank_of (D : Df K mg "blank_of" s_blank_of ["office"]) (T : Txt K mg) (O : Ofc K C) : Fx P w K mg base "blank_of" s_blank_of ["office"] 1 (sp_blank_of C) := by
  refine D.ok sc_blank_of (fun vs H Q E h => ?_) (fun f cdv A outer s H vs Q E hr h => ?_)
  · obtain ⟨o, n, ws, rfl, _⟩ := h
    rfl
  · obtain ⟨o, n, ws, rfl, ho, h1, h6, k⟩ := h
    refine ⟨_, (pss_cons (ps_set (i := 1) sc_blank_of.nd rfl (Or.inl rfl) (pe_op (repNK (K := K) rfl) (pe_tup (pa_cons pe_non pa_nil)) (pe_fldK (K := K) rfl (pv 0) rfl)))
        (pss_one (ps_ret (pe_tup (pa_cons (pv 1) (pa_cons (pe_op (repNK (K := K) rfl) (pe_tup (pa_cons (pv 1) pa_nil)) (pe_fldK (K := K) rfl (pv 0) rfl)) (pa_cons (pe_op (repNK (K := K) rfl) (pe_tup (pa_cons (pe_op (repNK (K := K) rfl) (pe_tup (pa_cons (pv 1) pa_nil)) (pe_fldK (K := K) rfl (pv 0) rfl)) pa_nil)) (pe_fldK (K := K) rfl (pv 0) rfl)) pa_nil))))))), ?_⟩
    refine ⟨(by show 1 ≤ sizeLine; decide), fun t ht => ?_⟩
    have S1 : Same H (upd H t (.tup [.non])) := Same.new ht
    obtain ⟨p, dx, wv, l1, l2, rfl, hp, hw⟩ := id ho
    refine ⟨_, rfl, p, C, dx, _, _, rfl, S1 _ _ hp, O.cl, O.nD, ofl_desks _ _ _ _, ?_⟩
    refine rd_rep (upd_same) h1 h6 fun r H2 S2 hr2 => ?_
    have R2 : RowAt H2 (.ref r) (row0 n) := ⟨r, _, rfl, hr2, pr_rep (show NmAt H2 .non none from rfl) n⟩
    have S12 := S1.trans S2
    refine ⟨_, rfl, _, rfl, (by show 1 ≤ sizeLine; decide), fun t2 ht2 => ?_⟩
    have S3 : Same H2 (upd H2 t2 (.tup [.ref r])) := Same.new ht2
    refine ⟨_, rfl, p, C, dx, _, _, rfl, S3 _ _ (S12 _ _ hp), O.cl, O.nD, ofl_desks _ _ _ _, ?_⟩
    refine rd_rep (upd_same) h1 h6 fun m1 H3 S4 hm1 => ?_
    have S13 := S12.trans (S3.trans S4)
    have M1 : MatAt H3 (.ref m1) (mat0 n) := ⟨m1, _, rfl, hm1, pr_rep (R2.mono (S3.trans S4).kp) n⟩
    refine ⟨_, rfl, (by show 1 ≤ sizeLine; decide), fun t3 ht3 => ?_⟩
    have S5 : Same H3 (upd H3 t3 (.tup [.ref r])) := Same.new ht3
    refine ⟨_, rfl, p, C, dx, _, _, rfl, S5 _ _ (S13 _ _ hp), O.cl, O.nD, ofl_desks _ _ _ _, ?_⟩
    refine rd_rep (upd_same) h1 h6 fun m2 H4 S6 hm2 => ?_
    have S35 := S5.trans S6
    have S14 := S13.trans S35
    have M2 : MatAt H4 (.ref m2) (mat0 n) := ⟨m2, _, rfl, hm2, pr_rep (R2.mono ((S3.trans S4).trans S35).kp) n⟩
    refine ⟨(by show 1 ≤ sizeLine; decide), fun t4 ht4 => ?_⟩
    have S7 : Same H4 (upd H4 t4 (.tup [.ref m2])) := Same.new ht4
    refine ⟨_, rfl, p, C, dx, _, _, rfl, S7 _ _ (S14 _ _ hp), O.cl, O.nD, ofl_desks _ _ _ _, ?_⟩
    refine rd_rep (upd_same) h1 h6 fun c H5 S8 hc => ?_
    have S78 := S7.trans S8
    have C5 : CubAt H5 (.ref c) (List.replicate n (mat0 n)) := ⟨c, _, rfl, hc, pr_rep (M2.mono S78.kp) n⟩
    refine ⟨(by show 3 ≤ sizeLine; decide), fun z hz => ?_⟩
    have S9 : Same H5 (upd H5 z (.tup [.ref r, .ref m1, .ref c])) := Same.new hz
    refine k _ _ (S14.trans (S78.trans S9)) ?_
    exact ⟨z, _, _, _, rfl, upd_same, R2.mono (((S3.trans S4).trans S35).trans (S78.trans S9)).kp, M1.mono (S35.trans (S78.trans S9)).kp, C5.mono S9.kp⟩
/-- slots [(0, 'one'), (1, 'other'), (2, 'desk'), (3, 'name'), (4, 'at'), (5, 'top')] cells ['desk', 'name', 'one', 'other'] -/
abbrev s_is_known : Stmt := (top 25)
theorem sc_is_known : FnScope ["one", "other", "desk", "name", "at", "top"] ["one", "other", "desk"] (defScope s_is_known) := ⟨rfl, rfl, rfl, by decide +kernel, rfl, by decide +kernel, by decide +kernel⟩
theorem fx_is_known (D : Df K mg "is_known" s_is_known ["one", "other", "desk"]) (T : Txt K mg) : Fx P w K mg base "is_known" s_is_known ["one", "other", "desk"] 1 sp_is_known := by
  refine D.ok sc_is_known (fun vs H Q E h => ?_) (fun f cdv A outer s H vs Q E hr h => ?_)
  · obtain ⟨o1, o2, s1, t1, d, n, m, rfl, _⟩ := h
    rfl
  · obtain ⟨o1, o2, s1, t1, d, n, m, rfl, h1, h2, ok1, ok2, hd, h6, k⟩ := h
    have hu65 := hr65 hr
    obtain ⟨a1, x1, y1, z1, rfl, ha1, ⟨af, fs, rfl, haf, hf⟩, ⟨am, ms, rfl, ham, hm⟩, _⟩ := h1
    obtain ⟨a2, x2, y2, z2, rfl, ha2, hrow2, _⟩ := h2
    have hfl : fs.length = n := (Paired.length hf).trans ok1.fO.1
    obtain ⟨nv, hnv, hnm⟩ := pr_get hf (get_of (x := none) (by rw [ok1.fO.1]; exact hd))
    refine ⟨_, (pss_cons (ps_set (i := 3) sc_is_known.nd rfl (Or.inr rfl) (pe_ix (ix_tupK (K := K) rfl) (pe_ix (ix_tupK (K := K) rfl) (pv 0) pe_int (fun _ _ => rfl)) (pv 2) (fun _ _ => rfl)))
        (pss_cons (ps_if (pt_cmpR op_isN (pv 3) pe_non (nomark _)) (pss_one (ps_ret pe_bl)) pss_nil)
        (pss_one (ps_ret (pe_callB (anyK (K := K) rfl rfl) (by rfl) T.z_any bt_any (pa_cons (pe_lc (own := [("at", 4), ("top", 5)]) rfl sc_is_known.nd (pi_enumTK (K := K) rfl rfl T.z_enumerate (pa_cons (pe_ix (ix_tupK (K := K) rfl) (pv 0) pe_int (fun _ _ => rfl)) pa_nil)) (blkOk_by (N := ["one", "other", "desk", "name", "at", "top"]) (sc := (defScope s_is_known)) (by decide +kernel)) (fun _ _ _ _ _ => (pg_tupK (K := K) (n := 2) rfl rfl (pgs_cons (pg_name (i := 4) sc_is_known.nd rfl (Or.inl rfl)) (pgs_cons (pg_name (i := 5) sc_is_known.nd rfl (Or.inl rfl)) pgs_nil)))) (fun _ _ _ _ _ => pts_nil) (fun _ _ _ _ _ => (pe_and (pe_cmpR op_notN (pv 5) pe_non (nomark _)) (pe_and (pe_cmpR (inTDK (K := K) rfl hu65) (pv 5) (pe_ix (ix_tupK (K := K) rfl) (pv 1) pe_int (fun _ _ => rfl)) (by rfl)) (pe_one (pe_cmpR (eqDK (K := K) rfl hr.units) (pe_ix (ix_tupK (K := K) rfl) (pe_ix (ix_tupK (K := K) rfl) (pe_ix (ix_tupK (K := K) rfl) (pv 0) pe_int (fun _ _ => rfl)) (pv 4) (fun _ _ => rfl)) (pv 2) (fun _ _ => rfl)) (pv 3) (nomark _))))))) pa_nil)))))), ?_⟩
    refine ⟨_, rfl, a1, _, _, _, rfl, rfl, SqT.of ha1, atI_at (j := 0) rfl rfl, _, rfl, af, _, _, _, rfl, rfl, SqT.of haf, atI_nat hnv, ?_⟩
    refine ⟨_, rfl, rfl, _, rfl, ?_⟩
    rw [hnm.non_iff]
    refine ite2 (fun q => ?_) fun q => ?_
    · have q := of_decide_eq_true q
      refine k _ _ (Same.refl _) ?_
      unfold known
      rw [if_pos q]
    · have q : ¬ s1.f.getD d none = none := fun z => q (decide_eq_true z)
      refine ⟨_, rfl, a1, _, _, _, rfl, rfl, SqT.of ha1, atI_at (j := 0) rfl rfl, af, fs, rfl, SqT.of haf, fun D2 hD2 => ?_⟩
      refine lc_two (walk_enumT (xs := fs)) (P := fun i y _ => y = V.bl (knB s1 t1 d i)) (by decide) hD2 (by omega) (fun H' s' => SqT.of (s' _ _ haf)) (fun _ _ _ _ _ h => h) ?_ ?_
      · rintro i x z H1 H2 Nx hi S1 S2 hx hz kN
        cases hx
        have hin : i < n := by omega
        have S12 := S1.trans S2
        obtain ⟨nm, hnm2, ht⟩ := pr_got hf hz
        have ei : s1.f.getD i none = nm := getD_eq hnm2
        have hz2 := ht.mono S12.kp
        refine ⟨_, rfl, rfl, _, rfl, ?_⟩
        rw [hz2.non_iff]
        refine ite2 (fun q1 => ?_) fun q1 => ?_
        · have q1 : decide (nm = none) = false := by simpa using q1
          obtain ⟨ag, gs, eg, hag, hg⟩ := hrow2.mono S12.kp
          have drow : Dp K H2 x2 (.tuple (t1.f.map encN)) := RowAt.dp (r := t1.f) ⟨ag, gs, eg, hag, hg⟩
          refine ⟨_, rfl, _, rfl, a2, _, _, _, rfl, rfl, SqT.of (S12 _ _ ha2), atI_at (j := 0) rfl rfl, encN nm, t1.f.map encN, hz2.dp, drow, encN_shaped _, encR_shaped t1.f, _, rfl, ?_⟩
          rw [encN_any]
          refine ite2 (fun q2 => ?_) fun q2 => ?_
          · obtain ⟨mv, hmv, hmr⟩ := pr_get hm (get_of (x := []) (i := i) (by rw [ok1.sO.1]; exact hin))
            have rowk : RowOk n m (s1.s.getD i []) := ok1.sO.2 _ (getD_mem (by rw [ok1.sO.1]; exact hin))
            obtain ⟨ar, rs, rfl, har, hr2⟩ := hmr.mono S12.kp
            obtain ⟨ev, hev, hen⟩ := pr_get hr2 (get_of (x := none) (i := d) (by rw [rowk.1]; exact hd))
            refine ⟨_, rfl, a1, _, _, _, rfl, rfl, SqT.of (S12 _ _ ha1), atI_at (j := 1) rfl rfl, _, rfl, am, _, _, _, rfl, rfl, SqT.of (S12 _ _ ham), atI_nat hmv, _, rfl, ar, _, _, _, rfl, rfl, SqT.of har, atI_nat hev, _, rfl, _, _, hen.dp, (hnm.mono S12.kp).dp, encN_shaped _, encN_shaped _, ?_⟩
            refine kN _ _ (Same.refl _) (congrArg V.bl ?_)
            unfold knB
            rw [ei, q2, encN_eqv]
            have e1 : nm.isSome = true := by
              cases nm with
              | none => cases q1
              | some _ => rfl
            rw [e1]
            rfl
          · have q2 : t1.f.contains nm = false := by simpa using q2
            refine kN _ _ (Same.refl _) (congrArg V.bl ?_)
            unfold knB
            rw [ei, q2, Bool.false_and, Bool.and_false]
        · have q1 : nm = none := by simpa using q1
          refine kN _ _ (Same.refl _) (congrArg V.bl ?_)
          unfold knB
          rw [ei, q1]
          rfl
      · intro acc H1 S1 hD1 hl hP
        refine ⟨D2, _, rfl, SqL.of (by rw [hD1, bools_of (f := knB s1 t1 d) hl hP]), ?_⟩
        refine k _ _ S1 (congrArg V.bl ?_)
        unfold known
        rw [if_neg q, hfl, ok1.fO.1]
/-- slots [(0, 'one'), (1, 'other'), (2, 'desk')] cells [] -/
abbrev s_word_for : Stmt := (top 24)
theorem sc_word_for : FnScope ["one", "other", "desk"] ["one", "other", "desk"] (defScope s_word_for) := ⟨rfl, rfl, rfl, by decide +kernel, rfl, by decide +kernel, by decide +kernel⟩
theorem fx_word_for (D : Df K mg "word_for" s_word_for ["one", "other", "desk"]) (T : Txt K mg) (F_is_known : Fx P w K mg base "is_known" s_is_known ["one", "other", "desk"] 1 sp_is_known) :
    Fx P w K mg base "word_for" s_word_for ["one", "other", "desk"] 2 sp_word_for := by
  refine D.ok sc_word_for (fun vs H Q E h => ?_) (fun f cdv A outer s H vs Q E hr h => ?_)
  · obtain ⟨o1, o2, s1, t1, d, n, m, rfl, _⟩ := h
    rfl
  · obtain ⟨o1, o2, s1, t1, d, n, m, rfl, h1, h2, ok1, ok2, hd, h6, k⟩ := h
    obtain ⟨a1, x1, y1, z1, rfl, ha1, ⟨af, fs, rfl, haf, hf⟩, _⟩ := id h1
    obtain ⟨a2, x2, y2, z2, rfl, ha2, ⟨ag, gs, rfl, hag, hg⟩, _⟩ := id h2
    obtain ⟨nv, hnv, hnm⟩ := pr_get hf (get_of (x := none) (i := d) (by rw [ok1.fO.1]; exact hd))
    obtain ⟨mv, hmv, hmm⟩ := pr_get hg (get_of (x := none) (i := d) (by rw [ok2.fO.1]; exact hd))
    refine ⟨_, (pss_cons (ps_if (pt_cmpR (eqDK (K := K) rfl hr.units) (pe_ix (ix_tupK (K := K) rfl) (pe_ix (ix_tupK (K := K) rfl) (pv 0) pe_int (fun _ _ => rfl)) (pv 2) (fun _ _ => rfl)) (pe_ix (ix_tupK (K := K) rfl) (pe_ix (ix_tupK (K := K) rfl) (pv 1) pe_int (fun _ _ => rfl)) (pv 2) (fun _ _ => rfl)) (nomark _)) (pss_one (ps_ret pe_str)) pss_nil)
        (pss_cons (ps_if (pt_cmpR op_isN (pe_ix (ix_tupK (K := K) rfl) (pe_ix (ix_tupK (K := K) rfl) (pv 0) pe_int (fun _ _ => rfl)) (pv 2) (fun _ _ => rfl)) pe_non (nomark _)) (pss_one (ps_ret pe_str)) pss_nil)
        (pss_cons (ps_if (pt_cmpR op_isN (pe_ix (ix_tupK (K := K) rfl) (pe_ix (ix_tupK (K := K) rfl) (pv 1) pe_int (fun _ _ => rfl)) (pv 2) (fun _ _ => rfl)) pe_non (nomark _)) (pss_one (ps_ret pe_str)) pss_nil)
        (pss_one (ps_ret (pe_ifExp (pt_val (pe_fx F_is_known (hr.mono (by decide)) (pa_cons (pv 0) (pa_cons (pv 1) (pa_cons (pv 2) pa_nil))))) pe_str pe_str)))))), ?_⟩
    refine ⟨_, rfl, a1, _, _, _, rfl, rfl, SqT.of ha1, atI_at (j := 0) rfl rfl, _, rfl, af, _, _, _, rfl, rfl, SqT.of haf, atI_nat hnv,
      _, rfl, a2, _, _, _, rfl, rfl, SqT.of ha2, atI_at (j := 0) rfl rfl, _, rfl, ag, _, _, _, rfl, rfl, SqT.of hag, atI_nat hmv, _, _, hnm.dp, hmm.dp, encN_shaped _, encN_shaped _, _, rfl, ?_⟩
    rw [encN_eqv]
    refine ite2 (fun q => ?_) fun q => ?_
    · have q := of_decide_eq_true q
      refine k _ _ (Same.refl _) ⟨_, rfl, ?_⟩
      unfold isOther
      rw [if_pos q]
      decide +kernel
    · have q : ¬ s1.f.getD d none = t1.f.getD d none := fun z => q (decide_eq_true z)
      refine ⟨_, rfl, a1, _, _, _, rfl, rfl, SqT.of ha1, atI_at (j := 0) rfl rfl, _, rfl, af, _, _, _, rfl, rfl, SqT.of haf, atI_nat hnv, rfl, _, rfl, ?_⟩
      rw [hnm.non_iff]
      refine ite2 (fun q1 => ?_) fun q1 => ?_
      · have q1 := of_decide_eq_true q1
        refine k _ _ (Same.refl _) ⟨_, rfl, ?_⟩
        unfold isOther
        rw [if_neg q, if_pos q1]
        decide +kernel
      · have q1 : ¬ s1.f.getD d none = none := fun z => q1 (decide_eq_true z)
        refine ⟨_, rfl, a2, _, _, _, rfl, rfl, SqT.of ha2, atI_at (j := 0) rfl rfl, _, rfl, ag, _, _, _, rfl, rfl, SqT.of hag, atI_nat hmv, rfl, _, rfl, ?_⟩
        rw [hmm.non_iff]
        refine ite2 (fun q2 => ?_) fun q2 => ?_
        · have q2 := of_decide_eq_true q2
          refine k _ _ (Same.refl _) ⟨_, rfl, ?_⟩
          unfold isOther
          rw [if_neg q, if_neg q1, if_pos q2]
          decide +kernel
        · have q2 : ¬ t1.f.getD d none = none := fun z => q2 (decide_eq_true z)
          refine ⟨_, rfl, _, rfl, _, rfl, _, _, s1, t1, d, n, m, rfl, h1, h2, ok1, ok2, hd, h6, fun v H1 S1 e => ⟨_, e, ?_⟩⟩
          have e1 : isOther s1 t1 d = known s1 t1 d := by
            unfold isOther
            rw [if_neg q, if_neg q1, if_neg q2]
          refine ite2 (fun q3 => ?_) fun q3 => ?_
          · refine k _ _ S1 ⟨_, rfl, ?_⟩
            rw [e1, q3]
            decide +kernel
          · have q3 : known s1 t1 d = false := by simpa using q3
            refine k _ _ S1 ⟨_, rfl, ?_⟩
            rw [e1, q3]
            decide +kernel
/-- slots [(0, 'slips'), (1, 'desk'), (2, 'best'), (3, 'at')] cells [] -/
abbrev s_newest : Stmt := (top 26)
theorem sc_newest : FnScope ["slips", "desk", "best", "at"] ["slips", "desk"] (defScope s_newest) := ⟨rfl, rfl, rfl, by decide +kernel, rfl, by decide +kernel, by decide +kernel⟩
theorem fx_newest (D : Df K mg "newest" s_newest ["slips", "desk"]) (T : Txt K mg) (F_word_for : Fx P w K mg base "word_for" s_word_for ["one", "other", "desk"] 2 sp_word_for) :
    Fx P w K mg base "newest" s_newest ["slips", "desk"] 3 sp_newest := by
  refine D.ok sc_newest (fun vs H Q E h => ?_) (fun f cdv A outer s H vs Q E hr h => ?_)
  · obtain ⟨o, sl, d, n, m, rfl, _⟩ := h
    rfl
  · obtain ⟨o, sl, d, n, m, rfl, ⟨xs, hS, hp⟩, ok, h0, hl6, hd, h6, k⟩ := h
    have hxl : xs.length = sl.length := Paired.length hp
    obtain ⟨ao, eo, hSq⟩ := rd_lenSeq (K := K) hS
    refine ⟨_, (pss_cons (ps_set (i := 2) sc_newest.nd rfl (Or.inl rfl) pe_int)
        (pss_cons (ps_for PassesOwn.never rfl (pi_range2 rfl T.z_range (pa_cons pe_int (pa_cons (pe_callB (lenK (K := K) rfl) (by rfl) T.z_len bt_len (pa_cons (pv 0) pa_nil)) pa_nil))) (pg_name (i := 3) sc_newest.nd rfl (Or.inl rfl)) (pss_one (ps_if (pt_cmpR op_eq (pe_fx F_word_for (hr.mono (by decide)) (pa_cons (pe_ix (ix_seqK (K := K) rfl) (pv 0) (pv 2) (fun _ _ => rfl)) (pa_cons (pe_ix (ix_seqK (K := K) rfl) (pv 0) (pv 3) (fun _ _ => rfl)) (pa_cons (pv 1) pa_nil)))) pe_str (nomark _)) (pss_one (ps_set (i := 2) sc_newest.nd rfl (Or.inl rfl) (pv 3))) pss_nil)))
        (pss_one (ps_ret (pv 2))))), ?_⟩
    refine ⟨_, rfl, ao, xs, by rw [eo], hSq, _, _, rfl, ⟨by decide, by decide, by omega, by omega⟩, ?_⟩
    refine for_it walk_range (fun i σ H' => (∃ x, σ = [some o, some (.int (d : Int)), some (.int ((nwTo sl d i : Nat) : Int)), x]) ∧ Same H H') ⟨⟨none, rfl⟩, Same.refl _⟩ (fun _ _ _ _ _ => True.intro) ?_ ?_
    · rintro i x σ H1 H2 hi ⟨⟨y, rfl⟩, S1⟩ ⟨rfl, hx⟩
      have hx : x = V.int (((1 + i : Nat) : Nat) : Int) := hx.trans (congrArg V.int (by omega))
      subst hx
      have hi1 : 1 + i < sl.length := by omega
      have hb : nwTo sl d i < sl.length := nwTo_lt sl d i (by omega)
      obtain ⟨bv, hbv, hbs⟩ := pr_get hp (get_of (x := blank 0) hb)
      obtain ⟨cv, hcv, hcs⟩ := pr_get hp (get_of (x := blank 0) hi1)
      have hS1 := hS.mono S1
      refine ⟨_, rfl, _, rfl, ?_⟩
      refine rd_ixSeq hS1 hbv ?_
      refine ⟨_, rfl, _, rfl, ?_⟩
      refine rd_ixSeq hS1 hcv ?_
      refine ⟨_, rfl, _, _, _, _, d, n, m, rfl, hbs.mono S1.kp, hcs.mono S1.kp, ok _ (getD_mem hb), ok _ (getD_mem hi1), hd, h6, fun v H3 S3 e3 => ?_⟩
      obtain ⟨z, rfl, ez⟩ := e3
      have es : decide (V.str z = V.str "other") = decide (z = "other") := by
        by_cases q : z = "other"
        · rw [q]; simp
        · rw [decide_eq_false q]
          exact decide_eq_false fun c => q (V.str.inj c)
      refine ⟨rfl, _, rfl, ?_⟩
      rw [es, ez]
      refine ite2 (fun q => ?_) fun q => ?_
      · refine ⟨_, rfl, ⟨some (.int (((1 + i : Nat) : Nat) : Int)), ?_⟩, S1.trans S3⟩
        rw [nwTo_succ]
        unfold nwStep
        rw [if_pos q]
        rfl
      · refine ⟨⟨some (.int (((1 + i : Nat) : Nat) : Int)), ?_⟩, S1.trans S3⟩
        rw [nwTo_succ]
        unfold nwStep
        rw [if_neg q]
        rfl
    · rintro σ H1 ⟨⟨y, rfl⟩, S1⟩
      refine ⟨_, rfl, k _ _ S1 ?_⟩
      have e : ((xs.length : Int) - 1).toNat = sl.length - 1 := by omega
      show V.int ((nwTo sl d ((xs.length : Int) - 1).toNat : Nat) : Int) = _
      rw [e]
      rfl
end
end K31
/-! K31E5: label_behind. -/
namespace K31
open PySem PySem.Spec PyProof.Rows L2
def sp_label_behind : Sp := fun vs H Q _ => ∃ o sl a n m, vs = [.int ((a : Nat) : Int), o] ∧ SlsAt H o sl ∧ (∀ s ∈ sl, SlipOk n m s) ∧ sl.length ≤ 6 ∧ n ≤ 6 ∧ a < m ∧ m ≤ 10 ∧ Ret H Q fun v _ => v = .int ((lbl (namesOf sl) a : Nat) : Int)
theorem NmOk.inR {m : Nat} {x : Nm} (hm : m ≤ 10) (h : NmOk m x) : InR x := by
  cases x with
  | none => exact True.intro
  | some p => exact ⟨Nat.lt_of_lt_of_le h.1 hm, h.2⟩
theorem nKey_inj {p q : Nat × Nat} (e : nKey p = nKey q) : p = q := by
  obtain ⟨a, b⟩ := p
  obtain ⟨c, d⟩ := q
  have e1 : (Sum.inl (a : Int) : Key) = Sum.inl (c : Int) := (List.cons.inj e).1
  have e2 : (Sum.inl (b : Int) : Key) = Sum.inl (d : Int) := (List.cons.inj (List.cons.inj e).2).1
  have e1 := Sum.inl.inj e1
  have e2 := Sum.inl.inj e2
  have : a = c := by omega
  have : b = d := by omega
  subst_vars
  rfl
theorem keys_put {kvs : List (List Key × V)} {k : List Key} {v : V} : (k ∈ kvs.map (·.1) ∧ (putK kvs k v).map (·.1) = kvs.map (·.1)) ∨ (k ∉ kvs.map (·.1) ∧ (putK kvs k v).map (·.1) = kvs.map (·.1) ++ [k]) := by
  have ha : ((kvs.any fun kv => decide (kv.1 = k)) = true) ↔ k ∈ kvs.map (·.1) := by
    rw [List.any_eq_true]
    constructor
    · rintro ⟨x, hx, e⟩
      exact List.mem_map.mpr ⟨x, hx, of_decide_eq_true e⟩
    · intro h
      obtain ⟨x, hx, e⟩ := List.mem_map.mp h
      exact ⟨x, hx, decide_eq_true e⟩
  unfold putK
  by_cases h : k ∈ kvs.map (·.1)
  · refine .inl ⟨h, ?_⟩
    rw [if_pos (ha.mpr h), List.map_map]
    refine List.map_congr_left fun x _ => ?_
    by_cases e : x.1 = k <;> simp [e]
  · refine .inr ⟨h, ?_⟩
    rw [if_neg (fun q => h (ha.mp q)), List.map_append]
    rfl
theorem mem_put {kvs : List (List Key × V)} {k key : List Key} {v : V} : key ∈ (putK kvs k v).map (·.1) ↔ key ∈ kvs.map (·.1) ∨ key = k := by
  rcases keys_put (kvs := kvs) (k := k) (v := v) with ⟨h, e⟩ | ⟨h, e⟩
  · rw [e]
    exact ⟨.inl, fun q => q.elim id fun e => e ▸ h⟩
  · rw [e, List.mem_append, List.mem_singleton]
theorem nodup_put {kvs : List (List Key × V)} {k : List Key} {v : V} (h : (kvs.map (·.1)).Nodup) : ((putK kvs k v).map (·.1)).Nodup := by
  rcases keys_put (kvs := kvs) (k := k) (v := v) with ⟨hk, e⟩ | ⟨hk, e⟩
  · rw [e]
    exact h
  · rw [e]
    exact nd_snoc h hk
theorem mem_merge : ∀ {more kvs : List (List Key × V)} {key : List Key}, key ∈ (mergeT kvs more).map (·.1) ↔ key ∈ kvs.map (·.1) ∨ key ∈ more.map (·.1)
  | [], kvs, key => by
    show key ∈ kvs.map (·.1) ↔ _
    simp
  | x :: r, kvs, key => by
    show key ∈ (mergeT (putK kvs x.1 x.2) r).map (·.1) ↔ _
    rw [mem_merge, mem_put, List.map_cons, List.mem_cons, or_assoc]
def KeysOf (kvs : List (List Key × V)) (ns : List Nm) : Prop := ∀ key, key ∈ kvs.map (·.1) ↔ ∃ p, key = nKey p ∧ some p ∈ ns
theorem KeysOf.merge {kvs more : List (List Key × V)} {ns ms : List Nm} (h1 : KeysOf kvs ns) (h2 : KeysOf more ms) : KeysOf (mergeT kvs more) (ns ++ ms) := fun key => by
  rw [mem_merge, h1 key, h2 key]
  constructor
  · rintro (⟨p, e, h⟩ | ⟨p, e, h⟩)
    · exact ⟨p, e, List.mem_append_left _ h⟩
    · exact ⟨p, e, List.mem_append_right _ h⟩
  · rintro ⟨p, e, h⟩
    rcases List.mem_append.mp h with h | h
    · exact .inl ⟨p, e, h⟩
    · exact .inr ⟨p, e, h⟩
theorem KeysOf.put {kvs : List (List Key × V)} {ns : List Nm} {p : Nat × Nat} {v : V} (h : KeysOf kvs ns) : KeysOf (putK kvs (nKey p) v) (ns ++ [some p]) := fun key => by
  rw [mem_put, h key]
  constructor
  · rintro (⟨q, e, hq⟩ | e)
    · exact ⟨q, e, List.mem_append_left _ hq⟩
    · exact ⟨p, e, List.mem_append_right _ List.mem_cons_self⟩
  · rintro ⟨q, e, hq⟩
    rcases List.mem_append.mp hq with hq | hq
    · exact .inl ⟨q, e, hq⟩
    · have hq := List.mem_singleton.mp hq
      cases hq
      exact .inr e
theorem KeysOf.skip {kvs : List (List Key × V)} {ns : List Nm} (h : KeysOf kvs ns) : KeysOf kvs (ns ++ [none]) := fun key => by
  rw [h key]
  constructor
  · rintro ⟨p, e, hp⟩
    exact ⟨p, e, List.mem_append_left _ hp⟩
  · rintro ⟨p, e, hp⟩
    rcases List.mem_append.mp hp with hp | hp
    · exact ⟨p, e, hp⟩
    · cases List.mem_singleton.mp hp
theorem hash_nodup (P : Program) (W : World) : ∀ {kvs : List (List Key × V)}, (kvs.map (·.1)).Nodup → (∀ key ∈ kvs.map (·.1), ∃ p, key = nKey p ∧ InR (some p)) → (kvs.map fun x => hashT P W x.1).Nodup
  | [], _, _ => List.nodup_nil
  | x :: r, hn, hk => by
    rw [List.map_cons] at hn
    obtain ⟨h1, h2⟩ := List.nodup_cons.mp hn
    rw [List.map_cons]
    refine List.nodup_cons.mpr ⟨fun hm => ?_, hash_nodup P W h2 fun key h => hk key (List.mem_cons_of_mem _ h)⟩
    obtain ⟨y, hy, e⟩ := List.mem_map.mp hm
    obtain ⟨p, ep, rp⟩ := hk x.1 List.mem_cons_self
    obtain ⟨q, eq, rq⟩ := hk y.1 (List.mem_cons_of_mem _ (List.mem_map.mpr ⟨y, hy, rfl⟩))
    have e : hashT P W y.1 = hashT P W x.1 := e
    rw [ep, eq] at e
    have e' : hP q.1 q.2 = hP p.1 p.2 := e
    have := hP_inj rq.1 rq.2 rp.1 rp.2 e'
    have : q = p := this
    subst this
    exact h1 (List.mem_map.mpr ⟨y, hy, eq.trans ep.symm⟩)
def UsedAt (H : Hp) (du : Addr) (ns : List Nm) (c : Nat) : Prop := ∃ kvs, H du = some (.dT kvs) ∧ KeysOf kvs ns ∧ kvs.length ≤ c
theorem take_succ_some {α : Type} {l : List α} {i : Nat} {x : α} (h : l[i]? = some x) : l.take (i + 1) = l.take i ++ [x] := by
  rw [List.take_add_one, h]
  rfl
section
variable {P : Program} {w : World} {K : PySem.W.Frag} {mg : Str → Option Value} {base : Heap} {C : Addr}
/-- slots [(0, 'work'), (1, 'slips'), (2, 'used'), (3, 'held'), (4, 'label'), (5, 'rows'), (6, 'row'), (7, 'name')] cells [] -/
abbrev s_label_behind : Stmt := (top 27)
theorem sc_label_behind : FnScope ["work", "slips", "used", "held", "label", "rows", "row", "name"] ["work", "slips"] (defScope s_label_behind) := ⟨rfl, rfl, rfl, by decide +kernel, rfl, by decide +kernel, by decide +kernel⟩
theorem fx_label_behind (D : Df K mg "label_behind" s_label_behind ["work", "slips"]) (T : Txt K mg) : Fx P w K mg base "label_behind" s_label_behind ["work", "slips"] 1 sp_label_behind := by
  refine D.ok sc_label_behind (fun vs H Q E h => ?_) (fun f cdv A outer s H vs Q E hr h => ?_)
  · obtain ⟨o, sl, a, n, m, rfl, _⟩ := h
    rfl
  · obtain ⟨o, sl, a, n, m, rfl, ⟨xs, hS, hp⟩, ok, hl6, h6, ha, hm10, k⟩ := h
    have hu1 := hr1 hr
    have hu0 := hr0 hr
    have hxl : xs.length = sl.length := Paired.length hp
    refine ⟨_, (pss_cons (ps_set (i := 2) sc_label_behind.nd rfl (Or.inl rfl) pe_dnewT)
        (pss_cons (ps_for PassesOwn.never rfl (pi_seqK (K := K) rfl (pv 1)) (pg_name (i := 3) sc_label_behind.nd rfl (Or.inl rfl)) (pss_one (ps_for PassesOwn.never rfl (pi_tupK (K := K) rfl (pe_ix (ix_tupK (K := K) rfl) (pv 3) pe_int (fun _ _ => rfl))) (pg_name (i := 5) sc_label_behind.nd rfl (Or.inl rfl)) (pss_one (ps_for PassesOwn.never rfl (pi_tupK (K := K) rfl (pv 5)) (pg_name (i := 6) sc_label_behind.nd rfl (Or.inl rfl)) (pss_one (ps_expr (pe_bm PySem.F.plainAttrs_dict PySem.F.slot_dict_update PySem.F.type_dict_update (mt_updT hu1) (pv 2) (pa_cons (pe_dcT (own := [("name", 7)]) hu0 rfl sc_label_behind.nd (pi_tupK (K := K) rfl (pv 6)) (blkOk_by (N := ["work", "slips", "used", "held", "label", "rows", "row", "name"]) (sc := (defScope s_label_behind)) (by decide +kernel)) (fun _ _ _ _ _ => (pg_name (i := 7) sc_label_behind.nd rfl (Or.inl rfl))) (fun _ _ _ _ _ => (pts_one (pt_cmpR op_notN (pv 7) pe_non (nomark _)))) (fun _ _ _ _ _ => (pv 7)) (fun _ _ _ _ _ => pe_bl)) pa_nil)))))))))
        (pss_cons (ps_set (i := 4) sc_label_behind.nd rfl (Or.inl rfl) pe_int)
        (pss_cons (ps_while PassesOwn.never (pt_cmp (pc_din hu1 (pe_tup (pa_cons (pv 0) (pa_cons (pv 4) pa_nil))) (pv 2)) (by rfl)) (pss_one (ps_aug (i := 4) sc_label_behind.nd rfl (Or.inl rfl) pe_int ip_add)))
        (pss_one (ps_ret (pv 4))))))), ?_⟩
    intro du hdu
    obtain ⟨ao, eo, hSq⟩ := id hS
    subst eo
    have names1296 : (namesOf sl).length ≤ 1296 := names_len ok h6 hl6
    have hao : ∀ o, H ao = some o → (upd H du (.dT [])) ao = some o := fun o e => Same.new hdu _ _ e
    refine ⟨_, rfl, ao, xs, rfl, (hSq.imp (fun q => SqL.of (hao _ q)) (fun q => SqT.of (hao _ q))), fun J G wk hG => ?_⟩
    have known : ∃ o, H ao = some o := hSq.elim (fun q => ⟨_, q⟩) (fun q => ⟨_, q⟩)
    refine for_it wk (fun i σ H' => (∃ x y z, σ = [some (.int (a : Int)), some (.ref ao), some (.ref du), x, none, y, z, none]) ∧ Same H H' ∧ UsedAt H' du (namesOf (sl.take i)) (i * 216))
      ⟨⟨_, _, _, rfl⟩, Same.new hdu, [], upd_same, fun key => by simp [namesOf], Nat.le_refl _⟩ (fun i σ H' _ q => hG _ fun o e => ?_) ?_ ?_
    · obtain ⟨o', e'⟩ := known
      rw [hao _ e'] at e
      cases e
      exact q.2.1 _ _ e'
    · rintro i x σ H1 H2 hi ⟨⟨x0, y0, z0, rfl⟩, S1, U1⟩ ⟨rfl, hx⟩
      obtain ⟨s1, hs1, hat⟩ := pr_got hp hx
      have ok1 := ok s1 (List.mem_of_getElem? hs1)
      obtain ⟨a1, v1, v2, v3, rfl, ha1, _, _, ⟨ac, cs, rfl, hac, hc⟩⟩ := hat
      refine ⟨_, rfl, a1, _, _, _, rfl, rfl, SqT.of (S1 _ _ ha1), atI_at (j := 2) rfl rfl, ac, rfl, ⟨_, SqT.of (S1 _ _ hac)⟩, ?_⟩
      have et : namesOf (sl.take (i + 1)) = namesOf (sl.take i) ++ namesOf1 s1 := by
        unfold namesOf
        rw [take_succ_some hs1, List.map_append, List.flatten_append]
        simp
      rw [et]
      have hcl : cs.length = s1.t.length := Paired.length hc
      refine for_it (walk_tup (xs := cs)) (fun j σ H' => (∃ x y z, σ = [some (.int (a : Int)), some (.ref ao), some (.ref du), x, none, y, z, none]) ∧ Same H H' ∧ UsedAt H' du (namesOf (sl.take i) ++ ((s1.t.take j).map List.flatten).flatten) (i * 216 + j * 36))
        ⟨⟨_, _, _, rfl⟩, S1, by simpa using U1⟩ (fun j σ H' _ q => SqT.of (q.2.1 _ _ hac)) ?_ ?_
      · rintro j x σ H3 H4 hj ⟨⟨x1, y1, z1, rfl⟩, S3, U3⟩ ⟨rfl, hx⟩
        obtain ⟨mt, hmt, ⟨am, ms, rfl, ham, hm⟩⟩ := pr_got hc hx
        refine ⟨_, rfl, am, rfl, ⟨_, SqT.of (S3 _ _ ham)⟩, ?_⟩
        have et2 : ((s1.t.take (j + 1)).map List.flatten).flatten = ((s1.t.take j).map List.flatten).flatten ++ mt.flatten := by
          rw [take_succ_some hmt, List.map_append, List.flatten_append]
          simp
        rw [et2, ← List.append_assoc]
        generalize namesOf (sl.take i) ++ ((s1.t.take j).map List.flatten).flatten = ns at U3 ⊢
        have hml : ms.length = mt.length := Paired.length hm
        have okm : MatOk n m mt := ok1.tO.2 mt (List.mem_of_getElem? hmt)
        refine for_it (walk_tup (xs := ms)) (fun k σ H' => (∃ x y z, σ = [some (.int (a : Int)), some (.ref ao), some (.ref du), x, none, y, z, none]) ∧ Same H H' ∧ UsedAt H' du (ns ++ (mt.take k).flatten) (i * 216 + j * 36 + k * 6))
          ⟨⟨_, _, _, rfl⟩, S3, by simpa using U3⟩ (fun j σ H' _ q => SqT.of (q.2.1 _ _ ham)) ?_ ?_
        · rintro r x σ H5 H6 hr5 ⟨⟨x2, y2, z2, rfl⟩, S5, U5⟩ ⟨rfl, hx⟩
          obtain ⟨row, hrow, ⟨ar, rs, rfl, har, hrr⟩⟩ := pr_got hm hx
          have okr : RowOk n m row := okm.2 row (List.mem_of_getElem? hrow)
          have hrl : rs.length = row.length := Paired.length hrr
          obtain ⟨kvs, hkv, kof, kle⟩ := U5
          have et3 : (mt.take (r + 1)).flatten = (mt.take r).flatten ++ row := by
            rw [take_succ_some hrow, List.flatten_append]
            simp
          rw [et3, ← List.append_assoc]
          generalize ns ++ (mt.take r).flatten = ms2 at kof kle ⊢
          have har6 := S5 _ _ har
          refine ⟨_, rfl, .inr (.inr (.inl ⟨rfl, .inr ⟨_, hkv⟩⟩)), _, rfl, ar, rfl, ⟨_, SqT.of har6⟩, fun D2 hD2 => ?_⟩
          refine dcT_tup (xs := rs) (fun q H' => Same H6 H' ∧ ∃ kvs2, H' D2 = some (.dT kvs2) ∧ (kvs2.map (·.1)).Nodup ∧ KeysOf kvs2 (row.take q) ∧ kvs2.length ≤ q)
            ⟨Same.new hD2, [], upd_same, List.nodup_nil, fun key => by simp, Nat.le_refl _⟩ (fun q H' _ z => SqT.of (z.1 _ _ har6)) ?_ ?_
          · rintro q y H7 hy ⟨S7, kvs2, hk2, nd2, ko2, kl2⟩
            obtain ⟨nm, hnm, hat⟩ := pr_got hrr hy
            have hql : q < row.length := (List.getElem?_eq_some_iff.mp hnm).1
            refine ⟨rfl, _, rfl, rfl, _, rfl, ?_⟩
            cases nm with
            | none =>
              cases (show y = V.non from hat)
              refine iteF ⟨S7, kvs2, hk2, nd2, ?_, by omega⟩
              rw [take_succ_some hnm]
              exact ko2.skip
            | some pr =>
              obtain ⟨b, rfl, hb⟩ := hat
              refine iteT ⟨_, rfl, kvs2, nKey pr, b, rfl, S7 _ _ (S5 _ _ hb), hk2, ?_, S7.mut hD2, _, upd_same, nodup_put nd2, ?_, ?_⟩
              · rw [sizeLine_eq]
                have := okr.1
                omega
              · rw [take_succ_some hnm]
                exact ko2.put
              · have := length_putK kvs2 (nKey pr) (.bl true)
                omega
          · rintro H7 ⟨S7, kvs2, hk2, nd2, ko2, kl2⟩
            rw [hrl] at ko2 kl2
            rw [List.take_length] at ko2
            have hkv7 := S7 _ _ hkv
            have ndu : du ≠ D2 := ne_of_none hkv hD2
            refine ⟨du, D2, kvs, kvs2, rfl, rfl, ndu, hkv7, hk2, ?_, .inr (hash_nodup _ _ nd2 fun key hk => ?_), ⟨_, _, _, rfl⟩, (S5.trans S7).mut hdu, _, upd_same, kof.merge ko2, ?_⟩
            · rw [sizeLine_eq]
              have := okr.1
              have := okm.1
              have := ok1.tO.1
              omega
            · obtain ⟨pr, e, hpr⟩ := (ko2 key).mp hk
              exact ⟨pr, e, (okr.2 _ hpr).inR hm10⟩
            · have := length_mergeT kvs2 kvs
              have := okr.1
              omega
        · rintro σ H5 ⟨⟨x2, y2, z2, rfl⟩, S5, U5⟩
          rw [hml, List.take_length] at U5
          obtain ⟨kvs, u1, u2, u3⟩ := U5
          have := okm.1
          exact ⟨⟨_, _, _, rfl⟩, S5, kvs, u1, u2, by omega⟩
      · rintro σ H3 ⟨⟨x1, y1, z1, rfl⟩, S3, U3⟩
        rw [hcl, List.take_length] at U3
        obtain ⟨kvs, u1, u2, u3⟩ := U3
        have := ok1.tO.1
        exact ⟨⟨_, _, _, rfl⟩, S3, kvs, u1, u2, by omega⟩
    · rintro σ H1 ⟨⟨x0, y0, z0, rfl⟩, S1, ⟨kvs, hkv, kof, _⟩⟩
      rw [hxl, List.take_length] at kof
      have mem : ∀ l, ((valV kvs (nKey (a, l))).isSome = true) ↔ some (a, l) ∈ namesOf sl := fun l => by
        rw [← valV_any, List.any_eq_true]
        constructor
        · rintro ⟨z, hz, e⟩
          obtain ⟨pr, ep, hp⟩ := (kof (nKey (a, l))).mp (List.mem_map.mpr ⟨z, hz, of_decide_eq_true e⟩)
          rw [← nKey_inj ep] at hp
          exact hp
        · intro h
          obtain ⟨z, hz, e⟩ := List.mem_map.mp ((kof (nKey (a, l))).mpr ⟨_, rfl, h⟩)
          exact ⟨z, hz, decide_eq_true e⟩
      refine ⟨fun mm σ H' => ∃ l, mm = lbl (namesOf sl) a - l ∧ l ≤ lbl (namesOf sl) a ∧ σ = [some (.int (a : Int)), some (.ref ao), some (.ref du), x0, some (.int ((l : Nat) : Int)), y0, z0, none] ∧ Same H H' ∧ H' du = some (.dT kvs), ⟨_, 0, rfl, Nat.zero_le _, rfl, S1, hkv⟩, ?_⟩
      rintro mm σ H2 ⟨l, rfl, hl, rfl, S2, hkv2⟩
      refine ⟨_, rfl, _, rfl, (by show 2 ≤ sizeLine; decide), fun t ht => ?_⟩
      have S3 : Same H2 (upd H2 t (.tup [.int (a : Int), .int (l : Int)])) := Same.new ht
      refine ⟨_, rfl, du, _, rfl, DGet.t (k := nKey (a, l)) (S3 _ _ hkv2) upd_same, _, rfl, ?_⟩
      refine ite2 (fun q => ?_) fun q => ?_
      · have hm := (mem l).mp q
        have hlt : l < lbl (namesOf sl) a := by
          rcases Nat.lt_or_ge l (lbl (namesOf sl) a) with z | z
          · exact z
          · have e : l = lbl (namesOf sl) a := by omega
            rw [e] at hm
            exact absurd hm (lbl_not _ _)
        refine ⟨fun σ' H' => ∃ mm', mm' < lbl (namesOf sl) a - l ∧ _, fun σ' H' z => z, _, rfl, _, _, rfl, rfl, lbl (namesOf sl) a - (l + 1), by omega, l + 1, rfl, by omega, rfl, S2.trans S3, S3 _ _ hkv2⟩
      · have hn : ¬ some (a, l) ∈ namesOf sl := fun z => q ((mem l).mpr z)
        have e : l = lbl (namesOf sl) a := by
          rcases Nat.lt_or_ge l (lbl (namesOf sl) a) with z | z
          · exact absurd (lbl_least _ _ _ z) hn
          · omega
        refine ⟨_, rfl, k _ _ (S2.trans S3) ?_⟩
        rw [e]
end
end K31
/-! K31E6: slip_named, slip_behind. -/
namespace K31
open PySem PySem.Spec PyProof.Rows L2
def sp_slip_named (C : Addr) : Sp := fun vs H Q _ => ∃ o nv v n ws w l m sl, vs = [o, nv, v] ∧ OfficeAt C H o n ws ∧ NmAt H nv (some (w, l)) ∧ w < ws.length ∧ OffOk n ws ∧ SlsAt H v sl ∧ (∀ s ∈ sl, SlipOk n m s) ∧ 0 < sl.length ∧ sl.length ≤ 6 ∧
  Ret H Q fun v H' => SlipAt H' v (slipNamed n (ws.getD w []) (w, l) sl)
def sp_slip_behind (C : Addr) : Sp := fun vs H Q _ => ∃ o v n ws w sl, vs = [o, .int ((w : Nat) : Int), v] ∧ OfficeAt C H o n ws ∧ w < ws.length ∧ OffOk n ws ∧ SlsAt H v sl ∧ (∀ s ∈ sl, SlipOk n ws.length s) ∧ 0 < sl.length ∧ sl.length ≤ 6 ∧
  Ret H Q fun v H' => SlipAt H' v (slipBehind n (ws.getD w []) w sl)
/-- what a source is -/
def SrcAt (lot : List Nat) (sl : List Slip) (i : Nat) (y : V) (H : Hp) : Prop := (i ∈ lot ∧ y = .non) ∨ (¬ i ∈ lot ∧ SlipAt H y (src sl i))
theorem SrcAt.mono {lot : List Nat} {sl : List Slip} {i : Nat} {y : V} {H H' : Hp} (k : Kp H H') (h : SrcAt lot sl i y H) : SrcAt lot sl i y H' := h.imp id fun q => ⟨q.1, q.2.mono k⟩
theorem in_nats {d : Nat} : ∀ {l : List Nat}, inV (.int (d : Int)) (nats l) = decide (d ∈ l)
  | [] => by simp [inV, nats]
  | x :: r => by
    have ih := in_nats (d := d) (l := r)
    show (eqV (.int (x : Int)) (.int (d : Int)) || inV (.int (d : Int)) (nats r)) = _
    rw [ih]
    show (((x : Int) == (d : Int)) || _) = _
    by_cases e : d = x
    · subst e; simp
    · have q : ((x : Int) == (d : Int)) = false := beq_eq_false_iff_ne.mpr (by omega)
      rw [q]
      simp [e]
theorem rd_in {K : PySem.W.Frag} {H : Hp} {Q : VK} {a : Addr} {lot : List Nat} {d : Nat} (ha : H a = some (.tup (nats lot))) (q : Q (.bl (decide (d ∈ lot))) H) : rIn K false (.int ((d : Nat) : Int)) (.ref a) H Q := by
  refine ⟨a, _, rfl, .inr (SqT.of ha), rfl, nats_flat lot, ?_⟩
  show Q (.bl (inV _ _)) H
  rw [in_nats]
  exact q
section
variable {P : Program} {w : World} {K : PySem.W.Frag} {mg : Str → Option Value} {base : Heap} {C : Addr}
/-- slots [(0, 'office'), (1, 'name'), (2, 'slips'), (3, 'lot'), (4, 'desks'), (5, 'sources'), (6, 'first'), (7, 'second'), (8, 'third'), (9, 'desk')] cells ['first', 'lot', 'name', 'second', 'slips', 'sources'] -/
abbrev s_slip_named : Stmt := (top 28)
theorem sc_slip_named : FnScope ["office", "name", "slips", "lot", "desks", "sources", "first", "second", "third", "desk"] ["office", "name", "slips"] (defScope s_slip_named) := ⟨rfl, rfl, rfl, by decide +kernel, rfl, by decide +kernel, by decide +kernel⟩
theorem fx_slip_named (D : Df K mg "slip_named" s_slip_named ["office", "name", "slips"]) (T : Txt K mg) (O : Ofc K C) (F_newest : Fx P w K mg base "newest" s_newest ["slips", "desk"] 3 sp_newest) :
    Fx P w K mg base "slip_named" s_slip_named ["office", "name", "slips"] 4 (sp_slip_named C) := by
  refine D.ok sc_slip_named (fun vs H Q E h => ?_) (fun f cdv A outer s H vs Q E hr h => ?_)
  · obtain ⟨o, nv, v, n, ws, w, l, m, sl, rfl, _⟩ := h
    rfl
  · obtain ⟨o, nv, v, n, ws, w0, l, m, sl, rfl, ⟨p, dx, wv, l1, l2, rfl, hp, aw, wxs, rfl, haw, hw⟩, ⟨an, rfl, han⟩, hwl, ook, hS, ok, h0, hl6, k⟩ := h
    obtain ⟨xs, hSq, hpr⟩ := id hS
    have h6 := ook.n6
    have h1 := ook.n1
    obtain ⟨lv, hlv, al, rfl, hal⟩ := pr_get hw (get_of hwl [])
    generalize elot : ws.getD w0 [] = lot at hal k
    refine ⟨_, (pss_cons (ps_set (i := 3) sc_slip_named.nd rfl (Or.inr rfl) (pe_ix (ix_tupK (K := K) rfl) (pe_fldK (K := K) rfl (pv 0) rfl) (pe_ix (ix_tupK (K := K) rfl) (pv 1) pe_int (fun _ _ => rfl)) (fun _ _ => rfl)))
        (pss_cons (ps_set (i := 4) sc_slip_named.nd rfl (Or.inl rfl) (pe_callTy cr_range1 (by rfl) T.z_range bt_range (pa_cons (pe_fldK (K := K) rfl (pv 0) rfl) pa_nil)))
        (pss_cons (ps_set (i := 5) sc_slip_named.nd rfl (Or.inr rfl) (pe_lc (own := [("desk", 9)]) rfl sc_slip_named.nd (pi_rngV (pv 4)) (blkOk_by (N := ["office", "name", "slips", "lot", "desks", "sources", "first", "second", "third", "desk"]) (sc := (defScope s_slip_named)) (by decide +kernel)) (fun _ _ _ _ _ => (pg_name (i := 9) sc_slip_named.nd rfl (Or.inl rfl))) (fun _ _ _ _ _ => pts_nil) (fun _ _ _ _ _ => (pe_ifExp (pt_cmpR (inK (K := K) rfl) (pv 9) (pv 3) (by rfl)) pe_non (pe_ix (ix_seqK (K := K) rfl) (pv 2) (pe_fx F_newest (hr.mono (by decide)) (pa_cons (pv 2) (pa_cons (pv 9) pa_nil))) (fun _ _ => rfl))))))
        (pss_cons (ps_set (i := 6) sc_slip_named.nd rfl (Or.inr rfl) (pe_callTy (tupleK (K := K) rfl) (by rfl) T.z_tuple bt_tuple (pa_cons (pe_lc (own := [("desk", 9)]) rfl sc_slip_named.nd (pi_rngV (pv 4)) (blkOk_by (N := ["office", "name", "slips", "lot", "desks", "sources", "first", "second", "third", "desk"]) (sc := (defScope s_slip_named)) (by decide +kernel)) (fun _ _ _ _ _ => (pg_name (i := 9) sc_slip_named.nd rfl (Or.inl rfl))) (fun _ _ _ _ _ => pts_nil) (fun _ _ _ _ _ => (pe_ifExp (pt_cmpR op_isN (pe_ix (ix_listK (K := K) rfl) (pv 5) (pv 9) (fun _ _ => rfl)) pe_non (nomark _)) (pv 1) (pe_ix (ix_tupK (K := K) rfl) (pe_ix (ix_tupK (K := K) rfl) (pe_ix (ix_listK (K := K) rfl) (pv 5) (pv 9) (fun _ _ => rfl)) pe_int (fun _ _ => rfl)) (pv 9) (fun _ _ => rfl))))) pa_nil)))
        (pss_cons (ps_set (i := 7) sc_slip_named.nd rfl (Or.inr rfl) (pe_callTy (tupleK (K := K) rfl) (by rfl) T.z_tuple bt_tuple (pa_cons (pe_lc (own := [("desk", 9)]) rfl sc_slip_named.nd (pi_rngV (pv 4)) (blkOk_by (N := ["office", "name", "slips", "lot", "desks", "sources", "first", "second", "third", "desk"]) (sc := (defScope s_slip_named)) (by decide +kernel)) (fun _ _ _ _ _ => (pg_name (i := 9) sc_slip_named.nd rfl (Or.inl rfl))) (fun _ _ _ _ _ => pts_nil) (fun _ _ _ _ _ => (pe_ifExp (pt_cmpR op_isN (pe_ix (ix_listK (K := K) rfl) (pv 5) (pv 9) (fun _ _ => rfl)) pe_non (nomark _)) (pv 6) (pe_ix (ix_tupK (K := K) rfl) (pe_ix (ix_tupK (K := K) rfl) (pe_ix (ix_listK (K := K) rfl) (pv 5) (pv 9) (fun _ _ => rfl)) pe_int (fun _ _ => rfl)) (pv 9) (fun _ _ => rfl))))) pa_nil)))
        (pss_cons (ps_set (i := 8) sc_slip_named.nd rfl (Or.inl rfl) (pe_callTy (tupleK (K := K) rfl) (by rfl) T.z_tuple bt_tuple (pa_cons (pe_lc (own := [("desk", 9)]) rfl sc_slip_named.nd (pi_rngV (pv 4)) (blkOk_by (N := ["office", "name", "slips", "lot", "desks", "sources", "first", "second", "third", "desk"]) (sc := (defScope s_slip_named)) (by decide +kernel)) (fun _ _ _ _ _ => (pg_name (i := 9) sc_slip_named.nd rfl (Or.inl rfl))) (fun _ _ _ _ _ => pts_nil) (fun _ _ _ _ _ => (pe_ifExp (pt_cmpR op_isN (pe_ix (ix_listK (K := K) rfl) (pv 5) (pv 9) (fun _ _ => rfl)) pe_non (nomark _)) (pv 7) (pe_ix (ix_tupK (K := K) rfl) (pe_ix (ix_tupK (K := K) rfl) (pe_ix (ix_listK (K := K) rfl) (pv 5) (pv 9) (fun _ _ => rfl)) pe_int (fun _ _ => rfl)) (pv 9) (fun _ _ => rfl))))) pa_nil)))
        (pss_one (ps_ret (pe_tup (pa_cons (pv 6) (pa_cons (pv 7) (pa_cons (pv 8) pa_nil)))))))))))), ?_⟩
    refine ⟨_, rfl, p, C, dx, _, _, rfl, hp, O.cl, O.nW, ofl_works _ _ _ _, _, rfl, an, _, _, _, rfl, rfl, SqT.of han, atI_at (j := 0) rfl rfl, aw, _, _, _, rfl, rfl, SqT.of haw, atI_nat hlv, ?_⟩
    refine ⟨_, rfl, p, C, dx, _, _, rfl, hp, O.cl, O.nD, ofl_desks _ _ _ _, _, rfl, fun r hrn => ?_⟩
    have S1 : Same H (upd H r (.rng 0 (n : Int))) := Same.new hrn
    have hrr : upd H r (.rng 0 (n : Int)) r = some (.rng 0 (n : Int)) := upd_same
    generalize upd H r (.rng 0 (n : Int)) = H1 at S1 hrr
    refine ⟨_, rfl, r, _, _, rfl, hrr, ⟨by decide, by decide, by omega, by omega⟩, fun D1 hD1 => ?_⟩
    refine lc_one walk_range (P := fun i y H => SrcAt lot sl i y H) hD1 (by omega) (fun _ _ => True.intro) (fun i y H H' kp h => h.mono kp) ?_ ?_
    · rintro i x H2 H3 Nx hi S2 ⟨rfl, hx⟩ kN
      have hx : x = V.int ((i : Nat) : Int) := hx.trans (congrArg V.int (by omega))
      subst hx
      have hin : i < n := by omega
      have S12 := S1.trans S2
      refine ⟨_, rfl, _, rfl, ?_⟩
      refine rd_in (S12 _ _ hal) ⟨_, rfl, ?_⟩
      refine ite2 (fun q => ?_) fun q => ?_
      · exact kN _ _ (Same.refl _) (.inl ⟨of_decide_eq_true q, rfl⟩)
      · have q : ¬ i ∈ lot := fun z => q (decide_eq_true z)
        obtain ⟨bv, hbv, hbs⟩ := pr_get hpr (get_of (newest_lt i h0) (blank 0))
        refine ⟨_, rfl, _, rfl, _, rfl, v, sl, i, n, m, rfl, hS.mono S12, ok, h0, hl6, hin, h6, fun v3 H4 S4 e => ?_⟩
        subst e
        refine rd_ixSeq (hSq.mono (S12.trans S4)) hbv (kN _ _ S4 (.inr ⟨q, ?_⟩))
        exact hbs.mono (S12.trans S4).kp
    · intro srcs H2 S2 hD2 hsl hsP
      have S12 := S1.trans S2
      have hsl : srcs.length = n := by omega
      have look : ∀ i, i < n → (i ∈ lot ∧ srcs[i]? = some .non) ∨ (¬ i ∈ lot ∧ ∃ a x y z, srcs[i]? = some (.ref a) ∧ H2 a = some (.tup [x, y, z]) ∧ RowAt H2 x (src sl i).f ∧ MatAt H2 y (src sl i).s ∧ CubAt H2 z (src sl i).t) := fun i hi => by
        have e := List.getElem?_eq_getElem (l := srcs) (i := i) (by omega)
        rcases hsP i _ e with ⟨q, h⟩ | ⟨q, a, x, y, z, h, r⟩
        · exact .inl ⟨q, by rw [e, h]⟩
        · exact .inr ⟨q, a, x, y, z, by rw [e, h], r⟩
      have hr2 := S2 _ _ hrr
      have ss : ∀ i, SlipOk n m (src sl i) := fun i => src_ok ok h0 i
      refine ⟨_, rfl, r, _, _, rfl, hr2, ⟨by decide, by decide, by omega, by omega⟩, fun D2 hDn => ?_⟩
      refine lc_one walk_range (P := fun i y H => NmAt H y (if i ∈ lot then some (w0, l) else (src sl i).f.getD i none)) hDn (by omega) (fun _ _ => True.intro) (fun i y H H' kp h => h.mono kp) ?_ ?_
      · rintro i x H3 H4 Nx hi S3 ⟨rfl, hx⟩ kN
        have hx : x = V.int ((i : Nat) : Int) := hx.trans (congrArg V.int (by omega))
        subst hx
        have hin : i < n := by omega
        rcases look i hin with ⟨q, hv⟩ | ⟨q, a, x, y, z, hv, ha, hrw, hmt, hcb⟩
        · refine ⟨_, rfl, _, rfl, D1, _, _, _, rfl, rfl, SqL.of (S3 _ _ hD2), atI_nat hv, rfl, _, rfl, iteT ⟨_, rfl, kN _ _ (Same.refl _) ?_⟩⟩
          rw [if_pos q]
          exact ⟨an, rfl, S3 _ _ (S12 _ _ han)⟩
        · obtain ⟨ar, rs, rfl, har, hpr2⟩ := hrw
          obtain ⟨nv, hnv, hnm⟩ := pr_get hpr2 (get_of (x := none) (by rw [(ss i).fO.1]; exact hin))
          refine ⟨_, rfl, _, rfl, D1, _, _, _, rfl, rfl, SqL.of (S3 _ _ hD2), atI_nat hv, rfl, _, rfl, iteF ⟨_, rfl, _, rfl, D1, _, _, _, rfl, rfl, SqL.of (S3 _ _ hD2), atI_nat hv, a, _, _, _, rfl, rfl, SqT.of (S3 _ _ ha), atI_at (j := 0) rfl rfl, _, rfl, ar, _, _, _, rfl, rfl, SqT.of (S3 _ _ har), atI_nat hnv, kN _ _ (Same.refl _) ?_⟩⟩
          rw [if_neg q]
          exact hnm.mono S3.kp
      · intro fs H3 S3 hD3 hfl hfP
        refine ⟨D2, fs, rfl, .inl ⟨SqL.of hD3, fun a1 ha1 => ?_⟩⟩
        have S4 : Same H3 (upd H3 a1 (.tup fs)) := Same.new ha1
        have R1 : RowAt (upd H3 a1 (.tup fs)) (.ref a1) (first n lot (w0, l) sl) := ⟨a1, fs, rfl, upd_same, pr_range (by omega) fun i y hy => (hfP i y hy).mono S4.kp⟩
        generalize upd H3 a1 (.tup fs) = H4 at S4 R1
        have S24 := S3.trans S4
        refine ⟨_, rfl, r, _, _, rfl, S24 _ _ hr2, ⟨by decide, by decide, by omega, by omega⟩, fun D3 hDn3 => ?_⟩
        refine lc_one walk_range (P := fun i y H => RowAt H y (if i ∈ lot then first n lot (w0, l) sl else (src sl i).s.getD i [])) hDn3 (by omega) (fun _ _ => True.intro) (fun i y H H' kp h => h.mono kp) ?_ ?_
        · rintro i x H5 H6 Nx hi S5 ⟨rfl, hx⟩ kN
          have hx : x = V.int ((i : Nat) : Int) := hx.trans (congrArg V.int (by omega))
          subst hx
          have hin : i < n := by omega
          have S25 := S24.trans S5
          rcases look i hin with ⟨q, hv⟩ | ⟨q, a, x, y, z, hv, ha, hrw, hmt, hcb⟩
          · refine ⟨_, rfl, _, rfl, D1, _, _, _, rfl, rfl, SqL.of (S25 _ _ hD2), atI_nat hv, rfl, _, rfl, iteT ⟨_, rfl, kN _ _ (Same.refl _) ?_⟩⟩
            rw [if_pos q]
            exact R1.mono S5.kp
          · obtain ⟨ar, rs, rfl, har, hpr2⟩ := hmt
            obtain ⟨nv, hnv, hnm⟩ := pr_get hpr2 (get_of (x := []) (by rw [(ss i).sO.1]; exact hin))
            refine ⟨_, rfl, _, rfl, D1, _, _, _, rfl, rfl, SqL.of (S25 _ _ hD2), atI_nat hv, rfl, _, rfl, iteF ⟨_, rfl, _, rfl, D1, _, _, _, rfl, rfl, SqL.of (S25 _ _ hD2), atI_nat hv, a, _, _, _, rfl, rfl, SqT.of (S25 _ _ ha), atI_at (j := 1) rfl rfl, _, rfl, ar, _, _, _, rfl, rfl, SqT.of (S25 _ _ har), atI_nat hnv, kN _ _ (Same.refl _) ?_⟩⟩
            rw [if_neg q]
            exact RowAt.mono S25.kp hnm
        · intro ms H5 S5 hD5 hml hmP
          refine ⟨D3, ms, rfl, .inl ⟨SqL.of hD5, fun a2 ha2 => ?_⟩⟩
          have S6 : Same H5 (upd H5 a2 (.tup ms)) := Same.new ha2
          have R2 : MatAt (upd H5 a2 (.tup ms)) (.ref a2) (second n lot (w0, l) sl) := ⟨a2, ms, rfl, upd_same, pr_range (by omega) fun i y hy => (hmP i y hy).mono S6.kp⟩
          generalize upd H5 a2 (.tup ms) = H6 at S6 R2
          have S26 := S24.trans (S5.trans S6)
          have R1 := R1.mono (S5.trans S6).kp
          refine ⟨_, rfl, r, _, _, rfl, S26 _ _ hr2, ⟨by decide, by decide, by omega, by omega⟩, fun D4 hDn4 => ?_⟩
          refine lc_one walk_range (P := fun i y H => MatAt H y (if i ∈ lot then second n lot (w0, l) sl else (src sl i).t.getD i [])) hDn4 (by omega) (fun _ _ => True.intro) (fun i y H H' kp h => h.mono kp) ?_ ?_
          · rintro i x H7 H8 Nx hi S7 ⟨rfl, hx⟩ kN
            have hx : x = V.int ((i : Nat) : Int) := hx.trans (congrArg V.int (by omega))
            subst hx
            have hin : i < n := by omega
            have S27 := S26.trans S7
            rcases look i hin with ⟨q, hv⟩ | ⟨q, a, x, y, z, hv, ha, hrw, hmt, hcb⟩
            · refine ⟨_, rfl, _, rfl, D1, _, _, _, rfl, rfl, SqL.of (S27 _ _ hD2), atI_nat hv, rfl, _, rfl, iteT ⟨_, rfl, kN _ _ (Same.refl _) ?_⟩⟩
              rw [if_pos q]
              exact R2.mono S7.kp
            · obtain ⟨ar, rs, rfl, har, hpr2⟩ := hcb
              obtain ⟨nv, hnv, hnm⟩ := pr_get hpr2 (get_of (x := []) (by rw [(ss i).tO.1]; exact hin))
              refine ⟨_, rfl, _, rfl, D1, _, _, _, rfl, rfl, SqL.of (S27 _ _ hD2), atI_nat hv, rfl, _, rfl, iteF ⟨_, rfl, _, rfl, D1, _, _, _, rfl, rfl, SqL.of (S27 _ _ hD2), atI_nat hv, a, _, _, _, rfl, rfl, SqT.of (S27 _ _ ha), atI_at (j := 2) rfl rfl, _, rfl, ar, _, _, _, rfl, rfl, SqT.of (S27 _ _ har), atI_nat hnv, kN _ _ (Same.refl _) ?_⟩⟩
              rw [if_neg q]
              exact MatAt.mono S27.kp hnm
          · intro cs H7 S7 hD7 hcl hcP
            refine ⟨D4, cs, rfl, .inl ⟨SqL.of hD7, fun a3 ha3 => ?_⟩⟩
            have S8 : Same H7 (upd H7 a3 (.tup cs)) := Same.new ha3
            have R3 : CubAt (upd H7 a3 (.tup cs)) (.ref a3) (third n lot (w0, l) sl) := ⟨a3, cs, rfl, upd_same, pr_range (by omega) fun i y hy => (hcP i y hy).mono S8.kp⟩
            generalize upd H7 a3 (.tup cs) = H8 at S8 R3
            have S68 := S7.trans S8
            refine ⟨_, rfl, _, rfl, _, rfl, (by show 3 ≤ sizeLine; decide), fun z hz => ?_⟩
            have S9 : Same H8 (upd H8 z (.tup [.ref a1, .ref a2, .ref a3])) := Same.new hz
            refine k _ _ (S12.trans (S26.trans (S68.trans S9))) ?_
            exact ⟨z, _, _, _, rfl, upd_same, R1.mono (S68.trans S9).kp, R2.mono (S68.trans S9).kp, R3.mono S9.kp⟩
/-- slots [(0, 'office'), (1, 'work'), (2, 'slips')] cells [] -/
abbrev s_slip_behind : Stmt := (top 29)
theorem sc_slip_behind : FnScope ["office", "work", "slips"] ["office", "work", "slips"] (defScope s_slip_behind) := ⟨rfl, rfl, rfl, by decide +kernel, rfl, by decide +kernel, by decide +kernel⟩
theorem fx_slip_behind (D : Df K mg "slip_behind" s_slip_behind ["office", "work", "slips"]) (T : Txt K mg) (F_slip_named : Fx P w K mg base "slip_named" s_slip_named ["office", "name", "slips"] 4 (sp_slip_named C))
    (F_label_behind : Fx P w K mg base "label_behind" s_label_behind ["work", "slips"] 1 sp_label_behind) :
    Fx P w K mg base "slip_behind" s_slip_behind ["office", "work", "slips"] 5 (sp_slip_behind C) := by
  refine D.ok sc_slip_behind (fun vs H Q E h => ?_) (fun f cdv A outer s H vs Q E hr h => ?_)
  · obtain ⟨o, v, n, ws, w, sl, rfl, _⟩ := h
    rfl
  · obtain ⟨o, v, n, ws, w0, sl, rfl, hO, hwl, ook, hS, ok, h0, hl6, k⟩ := h
    refine ⟨_, (pss_one (ps_ret (pe_fx F_slip_named (hr.mono (by decide)) (pa_cons (pv 0) (pa_cons (pe_tup (pa_cons (pv 1) (pa_cons (pe_fx F_label_behind (hr.mono (by decide)) (pa_cons (pv 1) (pa_cons (pv 2) pa_nil))) pa_nil))) (pa_cons (pv 2) pa_nil)))))), ?_⟩
    refine ⟨_, rfl, _, rfl, _, rfl, _, rfl, v, sl, w0, n, ws.length, rfl, hS, ok, hl6, ook.n6, hwl, ook.w10, fun v1 H1 S1 e => ?_⟩
    subst e
    refine ⟨(by show 2 ≤ sizeLine; decide), fun t ht => ?_⟩
    have S2 : Same H1 (upd H1 t (.tup [.int (w0 : Int), .int ((lbl (namesOf sl) w0 : Nat) : Int)])) := Same.new ht
    have S12 := S1.trans S2
    exact ⟨_, rfl, o, _, v, n, ws, w0, _, ws.length, sl, rfl, hO.mono S12.kp, ⟨t, rfl, upd_same⟩, hwl, ook, hS.mono S12, ok, h0, hl6, fun v3 H3 S3 h3 => k _ _ (S12.trans S3) h3⟩
end
end K31
/-! K31E7: is_slip and what it asks; blank_slip; passed. -/
namespace K31
open PySem PySem.Spec PyProof.Rows L2
def sp_is_name (C : Addr) : Sp := fun vs H Q _ => ∃ o v n ws x, vs = [o, v] ∧ OfficeAt C H o n ws ∧ NmAt H v x ∧ NmOk ws.length x ∧ Q (.bl true) H
def sp_are_names (C : Addr) : Sp := fun vs H Q _ => ∃ o v n ws r, vs = [o, v] ∧ OfficeAt C H o n ws ∧ n ≤ 6 ∧ RowAt H v r ∧ RowOk n ws.length r ∧ Ret H Q fun v _ => v = .bl true
def sp_are_rows_of_names (C : Addr) : Sp := fun vs H Q _ => ∃ o v n ws r, vs = [o, v] ∧ OfficeAt C H o n ws ∧ n ≤ 6 ∧ MatAt H v r ∧ MatOk n ws.length r ∧ Ret H Q fun v _ => v = .bl true
def sp_is_slip (C : Addr) : Sp := fun vs H Q _ => ∃ o v n ws s, vs = [o, v] ∧ OfficeAt C H o n ws ∧ n ≤ 6 ∧ SlipAt H v s ∧ SlipOk n ws.length s ∧ Ret H Q fun v _ => v = .bl true
def sp_passed (C : Addr) : Sp := fun vs H Q _ => ∃ o v n ws w sl, vs = [o, .int ((w : Nat) : Int), v] ∧ OfficeAt C H o n ws ∧ w < ws.length ∧ OffOk n ws ∧ StAt H v sl ∧ (∀ s ∈ sl, SlipOk n ws.length s) ∧ sl.length = (ws.getD w []).length ∧
  Ret H Q fun v H' => SlipAt H' v (slipBehind n (ws.getD w []) w sl)
theorem dec_ints {a b : Int} (h : a = b) : decide (V.int a = V.int b) = true := decide_eq_true (congrArg V.int h)
section
variable {P : Program} {w : World} {K : PySem.W.Frag} {mg : Str → Option Value} {base : Heap} {C : Addr}
/-- slots [(0, 'office'), (1, 'thing')] cells [] -/
abbrev s_is_name : Stmt := (top 31)
theorem sc_is_name : FnScope ["office", "thing"] ["office", "thing"] (defScope s_is_name) := ⟨rfl, rfl, rfl, by decide +kernel, rfl, by decide +kernel, by decide +kernel⟩
theorem fx_is_name (D : Df K mg "is_name" s_is_name ["office", "thing"]) (T : Txt K mg) (F_is_pair : Fx P w K mg base "is_pair" s_is_pair ["thing"] 1 sp_is_pair)
    (F_is_work : Fx P w K mg base "is_work" s_is_work ["office", "thing"] 3 (sp_is_work C)) (F_is_within : Fx P w K mg base "is_within" s_is_within ["thing", "least", "most"] 2 sp_is_within) :
    Fx P w K mg base "is_name" s_is_name ["office", "thing"] 4 (sp_is_name C) := by
  refine D.ok sc_is_name (fun vs H Q E h => ?_) (fun f cdv A outer s H vs Q E hr h => ?_)
  · obtain ⟨o, v, n, ws, x, rfl, _⟩ := h
    rfl
  · obtain ⟨o, v, n, ws, x, rfl, hO, hx, ok, k⟩ := h
    refine ⟨_, (pss_cons (ps_if (pt_cmpR op_isN (pv 1) pe_non (nomark _)) (pss_one (ps_ret pe_bl)) pss_nil)
        (pss_one (ps_ret (pe_and (pe_fx F_is_pair (hr.mono (by decide)) (pa_cons (pv 1) pa_nil)) (pe_and (pe_fx F_is_work (hr.mono (by decide)) (pa_cons (pv 0) (pa_cons (pe_ix (ix_tupK (K := K) rfl) (pv 1) pe_int (fun _ _ => rfl)) pa_nil))) (pe_one (pe_fx F_is_within (hr.mono (by decide)) (pa_cons (pe_ix (ix_tupK (K := K) rfl) (pv 1) pe_int (fun _ _ => rfl)) (pa_cons pe_int (pa_cons (pe_ix (ix_tupK (K := K) rfl) (pv 1) pe_int (fun _ _ => rfl)) pa_nil)))))))))), ?_⟩
    refine ⟨_, rfl, rfl, _, rfl, ?_⟩
    rw [hx.non_iff]
    cases x with
    | none => exact iteT k
    | some p =>
      obtain ⟨a, rfl, ha⟩ := hx
      obtain ⟨ok1, ok2⟩ := ok
      refine iteF ⟨_, rfl, a, _, rfl, ha, true, rfl, iteT ?_⟩
      refine ⟨_, rfl, _, rfl, a, _, _, _, rfl, rfl, SqT.of ha, atI_at (j := 0) rfl rfl, o, n, ws, _, rfl, hO, true, congrArg V.bl ?_, iteT ?_⟩
      · rw [decide_eq_true (show (0 : Int) ≤ (p.1 : Int) by omega), decide_eq_true (show (p.1 : Int) ≤ (ws.length : Int) - 1 by omega)]
        rfl
      · refine ⟨_, rfl, a, _, _, _, rfl, rfl, SqT.of ha, atI_at (j := 1) rfl rfl, _, rfl, a, _, _, _, rfl, rfl, SqT.of ha, atI_at (j := 1) rfl rfl, _, _, _, rfl, ?_⟩
        rw [decide_eq_true (show (0 : Int) ≤ (p.2 : Int) by omega), decide_eq_true (show (p.2 : Int) ≤ (p.2 : Int) by omega)]
        exact k
/-- slots [(0, 'office'), (1, 'thing'), (2, 'name')] cells ['office'] -/
abbrev s_are_names : Stmt := (top 32)
theorem sc_are_names : FnScope ["office", "thing", "name"] ["office", "thing"] (defScope s_are_names) := ⟨rfl, rfl, rfl, by decide +kernel, rfl, by decide +kernel, by decide +kernel⟩
theorem fx_are_names (D : Df K mg "are_names" s_are_names ["office", "thing"]) (T : Txt K mg) (O : Ofc K C) (F_is_name : Fx P w K mg base "is_name" s_is_name ["office", "thing"] 4 (sp_is_name C)) :
    Fx P w K mg base "are_names" s_are_names ["office", "thing"] 5 (sp_are_names C) := by
  refine D.ok sc_are_names (fun vs H Q E h => ?_) (fun f cdv A outer s H vs Q E hr h => ?_)
  · obtain ⟨o, v, n, ws, x, rfl, _⟩ := h
    rfl
  · obtain ⟨o, v, n, ws, r, rfl, hO, h6, ⟨a, xs, rfl, ha, hp⟩, ok, k⟩ := h
    have hxl : xs.length = r.length := Paired.length hp
    have hrl := ok.1
    obtain ⟨p, dx, wv, l1, l2, rfl, hpo, hw⟩ := id hO
    refine ⟨_, (pss_one (ps_ret (pe_and (pe_callB (isiK (K := K) rfl) (by rfl) T.z_isinstance bt_isinstance (pa_cons (pv 1) (pa_cons (pe_bltn (v := .ty "tuple") (by rfl) T.z_tuple bt_tuple rfl) pa_nil))) (pe_and (pe_cmpR op_eq (pe_callB (lenK (K := K) rfl) (by rfl) T.z_len bt_len (pa_cons (pv 1) pa_nil)) (pe_fldK (K := K) rfl (pv 0) rfl) (nomark _)) (pe_one (pe_callB (allK (K := K) rfl rfl) (by rfl) T.z_all bt_all (pa_cons (pe_lc (own := [("name", 2)]) rfl sc_are_names.nd (pi_tupK (K := K) rfl (pv 1)) (blkOk_by (N := ["office", "thing", "name"]) (sc := (defScope s_are_names)) (by decide +kernel)) (fun _ _ _ _ _ => (pg_name (i := 2) sc_are_names.nd rfl (Or.inl rfl))) (fun _ _ _ _ _ => pts_nil) (fun _ _ _ _ _ => (pe_fx F_is_name (hr.mono (by decide)) (pa_cons (pv 0) (pa_cons (pv 2) pa_nil))))) pa_nil))))))), ?_⟩
    refine ⟨_, rfl, _, _, _, _, true, rfl, .ty _, .base (.tup ha), kit_ty k_tt, true, rfl, iteT ?_⟩
    refine ⟨_, rfl, a, _, rfl, .inr (SqT.of ha), _, rfl, p, C, dx, _, _, rfl, hpo, O.cl, O.nD, ofl_desks _ _ _ _, rfl, true, congrArg V.bl (dec_ints (by omega)), iteT ?_⟩
    refine ⟨_, rfl, a, rfl, ⟨_, SqT.of ha⟩, fun D2 hD2 => ?_⟩
    refine lc_one (walk_tup (xs := xs)) (P := fun _ y _ => y = V.bl true) hD2 (by omega) (fun H' s' => SqT.of (s' _ _ ha)) (fun _ _ _ _ _ h => h) ?_ ?_
    · rintro i x H1 H2 Nx hi sH ⟨rfl, hx⟩ kN
      obtain ⟨d, hd, hnm⟩ := pr_got hp hx
      exact ⟨_, rfl, _, rfl, _, _, n, ws, d, rfl, hO.mono sH.kp, hnm.mono sH.kp, ok.2 d (List.mem_of_getElem? hd), kN _ _ (Same.refl _) rfl⟩
    · intro acc H1 s1 hD1 hl hP
      refine ⟨D2, _, rfl, SqL.of (by rw [hD1, bools_of (f := fun _ => true) hl hP]), ?_⟩
      rw [all_true]
      exact k _ _ s1 rfl
/-- slots [(0, 'office'), (1, 'thing'), (2, 'row')] cells ['office'] -/
abbrev s_are_rows_of_names : Stmt := (top 33)
theorem sc_are_rows_of_names : FnScope ["office", "thing", "row"] ["office", "thing"] (defScope s_are_rows_of_names) := ⟨rfl, rfl, rfl, by decide +kernel, rfl, by decide +kernel, by decide +kernel⟩
theorem fx_are_rows_of_names (D : Df K mg "are_rows_of_names" s_are_rows_of_names ["office", "thing"]) (T : Txt K mg) (O : Ofc K C) (F_are_names : Fx P w K mg base "are_names" s_are_names ["office", "thing"] 5 (sp_are_names C)) :
    Fx P w K mg base "are_rows_of_names" s_are_rows_of_names ["office", "thing"] 6 (sp_are_rows_of_names C) := by
  refine D.ok sc_are_rows_of_names (fun vs H Q E h => ?_) (fun f cdv A outer s H vs Q E hr h => ?_)
  · obtain ⟨o, v, n, ws, x, rfl, _⟩ := h
    rfl
  · obtain ⟨o, v, n, ws, r, rfl, hO, h6, ⟨a, xs, rfl, ha, hp⟩, ok, k⟩ := h
    have hxl : xs.length = r.length := Paired.length hp
    have hrl := ok.1
    obtain ⟨p, dx, wv, l1, l2, rfl, hpo, hw⟩ := id hO
    refine ⟨_, (pss_one (ps_ret (pe_and (pe_callB (isiK (K := K) rfl) (by rfl) T.z_isinstance bt_isinstance (pa_cons (pv 1) (pa_cons (pe_bltn (v := .ty "tuple") (by rfl) T.z_tuple bt_tuple rfl) pa_nil))) (pe_and (pe_cmpR op_eq (pe_callB (lenK (K := K) rfl) (by rfl) T.z_len bt_len (pa_cons (pv 1) pa_nil)) (pe_fldK (K := K) rfl (pv 0) rfl) (nomark _)) (pe_one (pe_callB (allK (K := K) rfl rfl) (by rfl) T.z_all bt_all (pa_cons (pe_lc (own := [("row", 2)]) rfl sc_are_rows_of_names.nd (pi_tupK (K := K) rfl (pv 1)) (blkOk_by (N := ["office", "thing", "row"]) (sc := (defScope s_are_rows_of_names)) (by decide +kernel)) (fun _ _ _ _ _ => (pg_name (i := 2) sc_are_rows_of_names.nd rfl (Or.inl rfl))) (fun _ _ _ _ _ => pts_nil) (fun _ _ _ _ _ => (pe_fx F_are_names (hr.mono (by decide)) (pa_cons (pv 0) (pa_cons (pv 2) pa_nil))))) pa_nil))))))), ?_⟩
    refine ⟨_, rfl, _, _, _, _, true, rfl, .ty _, .base (.tup ha), kit_ty k_tt, true, rfl, iteT ?_⟩
    refine ⟨_, rfl, a, _, rfl, .inr (SqT.of ha), _, rfl, p, C, dx, _, _, rfl, hpo, O.cl, O.nD, ofl_desks _ _ _ _, rfl, true, congrArg V.bl (dec_ints (by omega)), iteT ?_⟩
    refine ⟨_, rfl, a, rfl, ⟨_, SqT.of ha⟩, fun D2 hD2 => ?_⟩
    refine lc_one (walk_tup (xs := xs)) (P := fun _ y _ => y = V.bl true) hD2 (by omega) (fun H' s' => SqT.of (s' _ _ ha)) (fun _ _ _ _ _ h => h) ?_ ?_
    · rintro i x H1 H2 Nx hi sH ⟨rfl, hx⟩ kN
      obtain ⟨d, hd, hnm⟩ := pr_got hp hx
      exact ⟨_, rfl, _, rfl, _, _, n, ws, d, rfl, hO.mono sH.kp, h6, RowAt.mono sH.kp hnm, ok.2 d (List.mem_of_getElem? hd), fun v3 H3 S3 e => kN _ _ S3 e⟩
    · intro acc H1 s1 hD1 hl hP
      refine ⟨D2, _, rfl, SqL.of (by rw [hD1, bools_of (f := fun _ => true) hl hP]), ?_⟩
      rw [all_true]
      exact k _ _ s1 rfl
/-- slots [(0, 'office'), (1, 'thing'), (2, 'rows')] cells ['office'] -/
abbrev s_is_slip : Stmt := (top 34)
theorem sc_is_slip : FnScope ["office", "thing", "rows"] ["office", "thing"] (defScope s_is_slip) := ⟨rfl, rfl, rfl, by decide +kernel, rfl, by decide +kernel, by decide +kernel⟩
theorem fx_is_slip (D : Df K mg "is_slip" s_is_slip ["office", "thing"]) (T : Txt K mg) (O : Ofc K C) (F_are_names : Fx P w K mg base "are_names" s_are_names ["office", "thing"] 5 (sp_are_names C))
    (F_are_rows_of_names : Fx P w K mg base "are_rows_of_names" s_are_rows_of_names ["office", "thing"] 6 (sp_are_rows_of_names C)) :
    Fx P w K mg base "is_slip" s_is_slip ["office", "thing"] 7 (sp_is_slip C) := by
  refine D.ok sc_is_slip (fun vs H Q E h => ?_) (fun f cdv A outer s H vs Q E hr h => ?_)
  · obtain ⟨o, v, n, ws, x, rfl, _⟩ := h
    rfl
  · obtain ⟨o, v, n, ws, sp, rfl, hO, h6, ⟨a, x, y, z, rfl, ha, hR, hM, hC⟩, ok, k⟩ := h
    obtain ⟨ac, cs, rfl, hac, hpc⟩ := id hC
    have hcl : cs.length = sp.t.length := Paired.length hpc
    have htl := ok.tO.1
    obtain ⟨p, dx, wv, l1, l2, rfl, hpo, hw⟩ := id hO
    refine ⟨_, (pss_cons (ps_if (PW.pt (pw_or (pt_not (pt_val (pe_callB (isiK (K := K) rfl) (by rfl) T.z_isinstance bt_isinstance (pa_cons (pv 1) (pa_cons (pe_bltn (v := .ty "tuple") (by rfl) T.z_tuple bt_tuple rfl) pa_nil))))) (pw_or (pt_cmpR op_ne (pe_callB (lenK (K := K) rfl) (by rfl) T.z_len bt_len (pa_cons (pv 1) pa_nil)) pe_int (nomark _)) (pw_or1 (pt_not (pt_val (pe_fx F_are_names (hr.mono (by decide)) (pa_cons (pv 0) (pa_cons (pe_ix (ix_tupK (K := K) rfl) (pv 1) pe_int (fun _ _ => rfl)) pa_nil))))))))) (pss_one (ps_ret pe_bl)) pss_nil)
        (pss_cons (ps_if (PW.pt (pw_or (pt_not (pt_val (pe_fx F_are_rows_of_names (hr.mono (by decide)) (pa_cons (pv 0) (pa_cons (pe_ix (ix_tupK (K := K) rfl) (pv 1) pe_int (fun _ _ => rfl)) pa_nil))))) (pw_or (pt_not (pt_val (pe_callB (isiK (K := K) rfl) (by rfl) T.z_isinstance bt_isinstance (pa_cons (pe_ix (ix_tupK (K := K) rfl) (pv 1) pe_int (fun _ _ => rfl)) (pa_cons (pe_bltn (v := .ty "tuple") (by rfl) T.z_tuple bt_tuple rfl) pa_nil))))) (pw_or1 (pt_cmpR op_ne (pe_callB (lenK (K := K) rfl) (by rfl) T.z_len bt_len (pa_cons (pe_ix (ix_tupK (K := K) rfl) (pv 1) pe_int (fun _ _ => rfl)) pa_nil)) (pe_fldK (K := K) rfl (pv 0) rfl) (nomark _)))))) (pss_one (ps_ret pe_bl)) pss_nil)
        (pss_one (ps_ret (pe_callB (allK (K := K) rfl rfl) (by rfl) T.z_all bt_all (pa_cons (pe_lc (own := [("rows", 2)]) rfl sc_is_slip.nd (pi_tupK (K := K) rfl (pe_ix (ix_tupK (K := K) rfl) (pv 1) pe_int (fun _ _ => rfl))) (blkOk_by (N := ["office", "thing", "rows"]) (sc := (defScope s_is_slip)) (by decide +kernel)) (fun _ _ _ _ _ => (pg_name (i := 2) sc_is_slip.nd rfl (Or.inl rfl))) (fun _ _ _ _ _ => pts_nil) (fun _ _ _ _ _ => (pe_fx F_are_rows_of_names (hr.mono (by decide)) (pa_cons (pv 0) (pa_cons (pv 2) pa_nil))))) pa_nil)))))), ?_⟩
    refine ⟨_, rfl, _, _, _, _, true, rfl, .ty _, .base (.tup ha), kit_ty k_tt, true, rfl, iteF ?_⟩
    refine ⟨_, rfl, a, _, rfl, .inr (SqT.of ha), rfl, false, rfl, iteF ?_⟩
    refine ⟨_, rfl, _, rfl, a, _, _, _, rfl, rfl, SqT.of ha, atI_at (j := 0) rfl rfl, _, _, n, ws, sp.f, rfl, hO, h6, hR, ok.fO, fun v1 H1 S1 e => ⟨true, e, iteF ?_⟩⟩
    have ha1 := S1 _ _ ha
    refine ⟨_, rfl, _, rfl, a, _, _, _, rfl, rfl, SqT.of ha1, atI_at (j := 1) rfl rfl, _, _, n, ws, sp.s, rfl, hO.mono S1.kp, h6, hM.mono S1.kp, ok.sO, fun v2 H2 S2 e => ⟨true, e, iteF ?_⟩⟩
    have S12 := S1.trans S2
    have ha2 := S12 _ _ ha
    have hac2 := S12 _ _ hac
    refine ⟨_, rfl, a, _, _, _, rfl, rfl, SqT.of ha2, atI_at (j := 2) rfl rfl, _, _, _, _, true, rfl, .ty _, .base (.tup hac2), kit_ty k_tt, true, rfl, iteF ?_⟩
    refine ⟨_, rfl, a, _, _, _, rfl, rfl, SqT.of ha2, atI_at (j := 2) rfl rfl, ac, _, rfl, .inr (SqT.of hac2), _, rfl, p, C, dx, _, _, rfl, S12 _ _ hpo, O.cl, O.nD, ofl_desks _ _ _ _, rfl, false, congrArg V.bl ?_, iteF ?_⟩
    · rw [dec_ints (by omega)]
      rfl
    refine ⟨_, rfl, a, _, _, _, rfl, rfl, SqT.of ha2, atI_at (j := 2) rfl rfl, ac, rfl, ⟨_, SqT.of hac2⟩, fun D2 hD2 => ?_⟩
    refine lc_one (walk_tup (xs := cs)) (P := fun _ y _ => y = V.bl true) hD2 (by omega) (fun H' s' => SqT.of (s' _ _ hac2)) (fun _ _ _ _ _ h => h) ?_ ?_
    · rintro i x H3 H4 Nx hi sH ⟨rfl, hx⟩ kN
      obtain ⟨d, hd, hnm⟩ := pr_got hpc hx
      have S13 := S12.trans sH
      exact ⟨_, rfl, _, rfl, _, _, n, ws, d, rfl, hO.mono S13.kp, h6, MatAt.mono S13.kp hnm, ok.tO.2 d (List.mem_of_getElem? hd), fun v3 H3 S3 e => kN _ _ S3 e⟩
    · intro acc H3 s3 hD1 hl hP
      refine ⟨D2, _, rfl, SqL.of (by rw [hD1, bools_of (f := fun _ => true) hl hP]), ?_⟩
      rw [all_true]
      exact k _ _ (S12.trans s3) rfl
/-- slots [(0, 'office')] cells [] -/
abbrev s_blank_slip : Stmt := (top 36)
theorem sc_blank_slip : FnScope ["office"] ["office"] (defScope s_blank_slip) := ⟨rfl, rfl, rfl, by decide +kernel, rfl, by decide +kernel, by decide +kernel⟩
theorem fx_blank_slip (D : Df K mg "blank_slip" s_blank_slip ["office"]) (T : Txt K mg) (F_blank_of : Fx P w K mg base "blank_of" s_blank_of ["office"] 1 (sp_blank_of C)) :
    Fx P w K mg base "blank_slip" s_blank_slip ["office"] 2 (sp_blank_of C) := by
  refine D.ok sc_blank_slip (fun vs H Q E h => ?_) (fun f cdv A outer s H vs Q E hr h => ?_)
  · obtain ⟨o, n, ws, rfl, _⟩ := h
    rfl
  · obtain ⟨o, n, ws, rfl, ho, h1, h6, k⟩ := h
    refine ⟨_, (pss_one (ps_ret (pe_fx F_blank_of (hr.mono (by decide)) (pa_cons (pv 0) pa_nil)))), ?_⟩
    exact ⟨_, rfl, o, n, ws, rfl, ho, h1, h6, fun v1 H1 S1 h => k _ _ S1 h⟩
/-- slots [(0, 'office'), (1, 'work'), (2, 'slips'), (3, 'thing')] cells ['office'] -/
abbrev s_passed : Stmt := (top 37)
theorem sc_passed : FnScope ["office", "work", "slips", "thing"] ["office", "work", "slips"] (defScope s_passed) := ⟨rfl, rfl, rfl, by decide +kernel, rfl, by decide +kernel, by decide +kernel⟩
theorem fx_passed (D : Df K mg "passed" s_passed ["office", "work", "slips"]) (T : Txt K mg) (O : Ofc K C) (F_check_work : Fx P w K mg base "check_work" s_check_work ["office", "thing"] 4 (sp_check_work C))
    (F_is_slip : Fx P w K mg base "is_slip" s_is_slip ["office", "thing"] 7 (sp_is_slip C)) (F_slip_behind : Fx P w K mg base "slip_behind" s_slip_behind ["office", "work", "slips"] 5 (sp_slip_behind C)) :
    Fx P w K mg base "passed" s_passed ["office", "work", "slips"] 8 (sp_passed C) := by
  refine D.ok sc_passed (fun vs H Q E h => ?_) (fun f cdv A outer s H vs Q E hr h => ?_)
  · obtain ⟨o, v, n, ws, w, sl, rfl, _⟩ := h
    rfl
  · obtain ⟨o, v, n, ws, w0, sl, rfl, hO, hwl, ook, ⟨a, xs, rfl, ha, hpr⟩, ok, hlen, k⟩ := h
    have hxl : xs.length = sl.length := Paired.length hpr
    have hm := ook.lot hwl
    have hl6 := ook.len6 hm
    have hl0 := ook.pos hm
    obtain ⟨p, dx, wv, l1, l2, rfl, hpo, aw, wxs, rfl, haw, hw⟩ := id hO
    obtain ⟨lv, hlv, al, rfl, hal⟩ := pr_get hw (get_of hwl [])
    refine ⟨_, (pss_cons (ps_expr (pe_fx F_check_work (hr.mono (by decide)) (pa_cons (pv 0) (pa_cons (pv 1) pa_nil))))
        (pss_cons (ps_if (PW.pt (pw_or (pt_not (pt_val (pe_callB (isiK (K := K) rfl) (by rfl) T.z_isinstance bt_isinstance (pa_cons (pv 2) (pa_cons (pe_bltn (v := .ty "tuple") (by rfl) T.z_tuple bt_tuple rfl) pa_nil))))) (pw_or1 (pt_cmpR op_ne (pe_callB (lenK (K := K) rfl) (by rfl) T.z_len bt_len (pa_cons (pv 2) pa_nil)) (pe_callB (lenK (K := K) rfl) (by rfl) T.z_len bt_len (pa_cons (pe_ix (ix_tupK (K := K) rfl) (pe_fldK (K := K) rfl (pv 0) rfl) (pv 1) (fun _ _ => rfl)) pa_nil)) (nomark _))))) (pss_one ps_never) pss_nil)
        (pss_cons (ps_if (pt_not (pt_val (pe_callB (allK (K := K) rfl rfl) (by rfl) T.z_all bt_all (pa_cons (pe_lc (own := [("thing", 3)]) rfl sc_passed.nd (pi_tupK (K := K) rfl (pv 2)) (blkOk_by (N := ["office", "work", "slips", "thing"]) (sc := (defScope s_passed)) (by decide +kernel)) (fun _ _ _ _ _ => (pg_name (i := 3) sc_passed.nd rfl (Or.inl rfl))) (fun _ _ _ _ _ => pts_nil) (fun _ _ _ _ _ => (pe_fx F_is_slip (hr.mono (by decide)) (pa_cons (pv 0) (pa_cons (pv 3) pa_nil))))) pa_nil)))) (pss_one ps_never) pss_nil)
        (pss_one (ps_ret (pe_fx F_slip_behind (hr.mono (by decide)) (pa_cons (pv 0) (pa_cons (pv 1) (pa_cons (pv 2) pa_nil))))))))), ?_⟩
    refine ⟨_, rfl, _, rfl, _, n, ws, w0, rfl, hO, hwl, ?_⟩
    refine ⟨_, rfl, _, _, _, _, true, rfl, .ty _, .base (.tup ha), kit_ty k_tt, true, rfl, iteF ?_⟩
    refine ⟨_, rfl, a, _, rfl, .inr (SqT.of ha), _, rfl, p, C, dx, _, _, rfl, hpo, O.cl, O.nW, ofl_works _ _ _ _, _, rfl, aw, _, _, _, rfl, rfl, SqT.of haw, atI_nat hlv, al, _, rfl, .inr (SqT.of hal), rfl, false, congrArg V.bl ?_, iteF ?_⟩
    · rw [dec_ints (by rw [nats_len]; omega)]
      rfl
    refine ⟨_, rfl, a, rfl, ⟨_, SqT.of ha⟩, fun D2 hD2 => ?_⟩
    refine lc_one (walk_tup (xs := xs)) (P := fun _ y _ => y = V.bl true) hD2 (by omega) (fun H' s' => SqT.of (s' _ _ ha)) (fun _ _ _ _ _ h => h) ?_ ?_
    · rintro i x H1 H2 Nx hi sH ⟨rfl, hx⟩ kN
      obtain ⟨d, hd, hnm⟩ := pr_got hpr hx
      exact ⟨_, rfl, _, rfl, _, _, n, ws, d, rfl, hO.mono sH.kp, ook.n6, hnm.mono sH.kp, ok d (List.mem_of_getElem? hd), fun v3 H3 S3 e => kN _ _ S3 e⟩
    · intro acc H1 s1 hD1 hl hP
      refine ⟨D2, _, rfl, SqL.of (by rw [hD1, bools_of (f := fun _ => true) hl hP]), ?_⟩
      rw [all_true]
      refine ⟨true, rfl, iteF ?_⟩
      exact ⟨_, rfl, _, rfl, _, rfl, _, _, n, ws, w0, sl, rfl, hO.mono s1.kp, hwl, ook, ⟨xs, ⟨a, rfl, .inr (s1 _ _ ha)⟩, Paired.mapP hpr fun _ _ q => q.mono s1.kp⟩, ok, by omega, by omega, fun v3 H3 S3 h => k _ _ (s1.trans S3) h⟩
end
end K31
/-! K31E8: run_slips, slip. -/
namespace K31
open PySem PySem.Spec PyProof.Rows L2
def sp_run_slips (C : Addr) : Sp := fun vs H Q _ => ∃ o r n ws row, vs = [o, r] ∧ OfficeAt C H o n ws ∧ OffOk n ws ∧ LotAt H r row ∧ (∀ w ∈ row, w < ws.length) ∧ row.length ≤ 100 ∧
  Ret H Q fun v H' => ∃ a x y, v = .ref a ∧ H' a = some (.tup [x, y]) ∧ StAt H' x (run n ws row)
def sp_slip (C : Addr) : Sp := fun vs H Q _ => ∃ o r n ws row d, vs = [o, r, .int ((d : Nat) : Int)] ∧ OfficeAt C H o n ws ∧ OffOk n ws ∧ LotAt H r row ∧ (∀ w ∈ row, w < ws.length) ∧ row.length ≤ 100 ∧ d < n ∧
  Ret H Q fun v H' => SlipAt H' v ((run n ws row).getD d (blank n))
theorem pr_set {β α : Type} {R : β → α → Prop} {x : β} {d : α} (r : R x d) : ∀ {xs : List β} {ds : List α} (i : Nat), Paired R xs ds → Paired R (xs.set i x) (ds.set i d)
  | _, _, _, .nil => .nil
  | _, _, 0, .cons _ t => .cons r t
  | _, _, i + 1, .cons h t => .cons h (pr_set r i t)
theorem ixN_nat {n j : Nat} (h : j < n) : ixN n (j : Int) = some j := by
  unfold ixN
  rw [if_pos (by omega), if_pos (by omega)]
  rfl
theorem setAll_snoc (st : List Slip) (l : List Nat) (d : Nat) (x : Slip) : setAll st (l ++ [d]) x = (setAll st l x).set d x := by
  unfold setAll
  rw [List.foldl_append]
  rfl
/-- a list of slips held at an own place -/
def HeldAt (H0 : Hp) (l : Addr) (H : Hp) (st : List Slip) : Prop := H0 l = none ∧ ∃ ss, H l = some (.lst ss) ∧ Paired (SlipAt H) ss st
theorem HeldAt.keep {H0 H H' : Hp} {l : Addr} {st : List Slip} (h : HeldAt H0 l H st) (s : Same H H') : HeldAt H0 l H' st := by
  obtain ⟨h0, ss, h1, h2⟩ := h
  exact ⟨h0, ss, s _ _ h1, Paired.mapP h2 fun _ _ q => q.mono s.kp⟩
theorem HeldAt.other {H0 H : Hp} {l m : Addr} {st : List Slip} {ys : List V} {o : HO} (h : HeldAt H0 l H st) (ne : l ≠ m) (hm : H m = some (.lst ys)) : HeldAt H0 l (upd H m o) st := by
  obtain ⟨h0, ss, h1, h2⟩ := h
  exact ⟨h0, ss, (upd_ne ne).trans h1, Paired.mapP h2 fun _ _ q => q.mono (Kp.lst hm)⟩
theorem behind_at {n : Nat} {lot : List Nat} {w : Nat} {sl : List Slip} {d : Nat} (hd : d ∈ lot) (hn : d < n) : (slipBehind n lot w sl).f[d]? = some (some (nameFor w sl)) := by
  show (first n lot (nameFor w sl) sl)[d]? = _
  unfold first
  rw [List.getElem?_map, List.getElem?_range hn]
  show some (if d ∈ lot then _ else _) = _
  rw [if_pos hd]
theorem st0_pr {H : Hp} {acc : List V} {n : Nat} (hl : acc.length = n) (h : ∀ (i : Nat) y, acc[i]? = some y → SlipAt H y (blank n)) : Paired (SlipAt H) acc (st0 n) :=
  pr_of (by rw [hl]; unfold st0; rw [List.length_replicate]) fun i x d hx hd => by
    have e : d = blank n := (List.mem_replicate.mp (List.mem_of_getElem? hd)).2
    rw [e]
    exact h i x hx
section
variable {P : Program} {w : World} {K : PySem.W.Frag} {mg : Str → Option Value} {base : Heap} {C : Addr}
/-- slots [(0, 'office'), (1, 'row'), (2, 'slips'), (3, 'told'), (4, 'work'), (5, 'lot'), (6, 'later'), (7, 'desk')] cells ['office', 'slips'] -/
abbrev s_run_slips : Stmt := (top 30)
theorem sc_run_slips : FnScope ["office", "row", "slips", "told", "work", "lot", "later", "desk"] ["office", "row"] (defScope s_run_slips) := ⟨rfl, rfl, rfl, by decide +kernel, rfl, by decide +kernel, by decide +kernel⟩
theorem fx_run_slips (D : Df K mg "run_slips" s_run_slips ["office", "row"]) (T : Txt K mg) (O : Ofc K C) (F_blank_of : Fx P w K mg base "blank_of" s_blank_of ["office"] 1 (sp_blank_of C))
    (F_slip_behind : Fx P w K mg base "slip_behind" s_slip_behind ["office", "work", "slips"] 5 (sp_slip_behind C)) :
    Fx P w K mg base "run_slips" s_run_slips ["office", "row"] 6 (sp_run_slips C) := by
  refine D.ok sc_run_slips (fun vs H Q E h => ?_) (fun f cdv A outer s H vs Q E hr h => ?_)
  · obtain ⟨o, r, n, ws, row, rfl, _⟩ := h
    rfl
  · obtain ⟨o, r, n, ws, row, rfl, hO, ook, ⟨ar, rfl, har⟩, hrow, hlen, k⟩ := h
    have h6 := ook.n6
    have h1 := ook.n1
    obtain ⟨p, dx, wv, l1, l2, rfl, hp, aw, wxs, rfl, haw, hw⟩ := id hO
    refine ⟨_, (pss_cons (ps_set (i := 2) sc_run_slips.nd rfl (Or.inr rfl) (pe_lc (own := [("desk", 7)]) rfl sc_run_slips.nd (pi_range1 rfl T.z_range (pa_cons (pe_fldK (K := K) rfl (pv 0) rfl) pa_nil)) (blkOk_by (N := ["office", "row", "slips", "told", "work", "lot", "later", "desk"]) (sc := (defScope s_run_slips)) (by decide +kernel)) (fun _ _ _ _ _ => (pg_name (i := 7) sc_run_slips.nd rfl (Or.inl rfl))) (fun _ _ _ _ _ => pts_nil) (fun _ _ _ _ _ => (pe_fx F_blank_of (hr.mono (by decide)) (pa_cons (pv 0) pa_nil)))))
        (pss_cons (ps_set (i := 3) sc_run_slips.nd rfl (Or.inl rfl) (pe_lst pa_nil))
        (pss_cons (ps_for PassesOwn.never rfl (pi_tupK (K := K) rfl (pv 1)) (pg_name (i := 4) sc_run_slips.nd rfl (Or.inl rfl)) (pss_cons (ps_set (i := 5) sc_run_slips.nd rfl (Or.inl rfl) (pe_ix (ix_tupK (K := K) rfl) (pe_fldK (K := K) rfl (pv 0) rfl) (pv 4) (fun _ _ => rfl)))
        (pss_cons (ps_set (i := 6) sc_run_slips.nd rfl (Or.inl rfl) (pe_fx F_slip_behind (hr.mono (by decide)) (pa_cons (pv 0) (pa_cons (pv 4) (pa_cons (pe_lc (own := [("desk", 7)]) rfl sc_run_slips.nd (pi_tupK (K := K) rfl (pv 5)) (blkOk_by (N := ["office", "row", "slips", "told", "work", "lot", "later", "desk"]) (sc := (defScope s_run_slips)) (by decide +kernel)) (fun _ _ _ _ _ => (pg_name (i := 7) sc_run_slips.nd rfl (Or.inl rfl))) (fun _ _ _ _ _ => pts_nil) (fun _ _ _ _ _ => (pe_ix (ix_listK (K := K) rfl) (pv 2) (pv 7) (fun _ _ => rfl)))) pa_nil)))))
        (pss_cons (ps_expr (pe_appK (K := K) rfl (pv 3) (pa_cons (pe_ix (ix_tupK (K := K) rfl) (pe_ix (ix_tupK (K := K) rfl) (pe_ix (ix_tupK (K := K) rfl) (pv 6) pe_int (fun _ _ => rfl)) (pe_ix (ix_tupK (K := K) rfl) (pv 5) pe_int (fun _ _ => rfl)) (fun _ _ => rfl)) pe_int (fun _ _ => rfl)) pa_nil)))
        (pss_one (ps_for PassesOwn.never rfl (pi_tupK (K := K) rfl (pv 5)) (pg_name (i := 7) sc_run_slips.nd rfl (Or.inl rfl)) (pss_one (ps_asg (pv 6) (pg_sub (pv 2) (pv 7) set_list)))))))))
        (pss_one (ps_ret (pe_tup (pa_cons (pe_callTy (tupleK (K := K) rfl) (by rfl) T.z_tuple bt_tuple (pa_cons (pv 2) pa_nil)) (pa_cons (pe_callTy (tupleK (K := K) rfl) (by rfl) T.z_tuple bt_tuple (pa_cons (pv 3) pa_nil)) pa_nil)))))))), ?_⟩
    refine ⟨_, rfl, p, C, dx, _, _, rfl, hp, O.cl, O.nD, ofl_desks _ _ _ _, _, rfl, by omega, by omega, fun Ls hLs => ?_⟩
    refine lc_one walk_range (P := fun i y H => SlipAt H y (blank n)) hLs (by omega) (fun _ _ => True.intro) (fun i y H H' kp h => h.mono kp) ?_ ?_
    · rintro i x H1 H2 Nx hi S1 ⟨rfl, hx⟩ kN
      exact ⟨_, rfl, _, n, ws, rfl, hO.mono S1.kp, h1, h6, fun v4 H4 S4 h4 => kN _ _ S4 h4⟩
    · intro acc H1 S1 hD1 hal hP
      have hal : acc.length = n := by omega
      have HL : HeldAt H Ls H1 (st0 n) := ⟨hLs, acc, hD1, st0_pr hal hP⟩
      refine ⟨Nat.zero_le _, fun Lt hLt => ?_⟩
      have nLT : Ls ≠ Lt := ne_of_none hD1 hLt
      have hLt0 : H Lt = none := S1.free hLt
      have S2 : Same H (upd H1 Lt (.lst [])) := S1.mut hLt0
      have HL2 : HeldAt H Ls (upd H1 Lt (.lst [])) (st0 n) := HL.keep (Same.new hLt)
      have hT2 : ∃ ts, upd H1 Lt (.lst []) Lt = some (.lst ts) ∧ ts.length = 0 := ⟨[], upd_same, rfl⟩
      generalize upd H1 Lt (.lst []) = H2 at S2 HL2 hT2
      refine ⟨_, rfl, ar, rfl, ⟨_, SqT.of (S2 _ _ har)⟩, ?_⟩
      refine for_it (walk_tup (xs := nats row)) (fun i σ H' => (∃ a b c d, σ = [some (.ref p), some (.ref ar), some (.ref Ls), some (.ref Lt), a, b, c, d]) ∧ Same H H' ∧ HeldAt H Ls H' (run n ws (row.take i)) ∧ ∃ ts, H' Lt = some (.lst ts) ∧ ts.length = i)
        ⟨⟨_, _, _, _, rfl⟩, S2, HL2, hT2⟩ (fun i σ H' _ q => SqT.of (q.2.1 _ _ har)) ?_ ?_
      · rintro i x σ H3 H4 hi ⟨⟨a, b, c, d, rfl⟩, S4, HL4, ts, hts, htl⟩ ⟨rfl, hx⟩
        obtain ⟨w0, hw0, rfl⟩ := nats_get hx
        have hwl := hrow w0 (List.mem_of_getElem? hw0)
        have hm := ook.lot hwl
        have et : run n ws (row.take (i + 1)) = step n ws (run n ws (row.take i)) w0 := by
          rw [take_succ_some hw0, run_snoc]
        rw [et]
        have hst : StOk n ws.length (run n ws (row.take i)) := run_ok ook _ fun z hz => hrow z (List.mem_of_mem_take hz)
        unfold step
        generalize run n ws (row.take i) = st at HL4 hst ⊢
        obtain ⟨lv, hlv, al, rfl, hal0⟩ := pr_get hw (get_of hwl [])
        have hl6 := ook.len6 hm
        have hl0 := ook.pos hm
        have hlt := ook.lt _ hm
        generalize elot : ws.getD w0 [] = lot at hal0 hl6 hl0 hlt hm ⊢
        have hi100 : i < row.length := by rw [nats_len] at hi; exact hi
        refine ⟨_, rfl, p, C, dx, _, _, rfl, S4 _ _ hp, O.cl, O.nW, ofl_works _ _ _ _, _, rfl, aw, _, _, _, rfl, rfl, SqT.of (S4 _ _ haw), atI_nat hlv, ?_⟩
        refine ⟨_, rfl, _, rfl, _, rfl, al, rfl, ⟨_, SqT.of (S4 _ _ hal0)⟩, fun D3 hD3 => ?_⟩
        refine lc_one (walk_tup (xs := nats lot)) (P := fun j y H => SlipAt H y (st.getD (lot.getD j 0) (blank n))) hD3 (by rw [nats_len]; omega) (fun H' s' => SqT.of (s' _ _ (S4 _ _ hal0))) (fun i y H H' kp h => h.mono kp) ?_ ?_
        · rintro j x H5 H6 Nx hj S5 ⟨rfl, hx⟩ kN
          obtain ⟨d0, hd0, rfl⟩ := nats_get hx
          have hdn := hlt d0 (List.mem_of_getElem? hd0)
          obtain ⟨_, ss, hss, hpr⟩ := HL4
          obtain ⟨bv, hbv, hbs⟩ := pr_get hpr (get_of (x := blank n) (i := d0) (by rw [hst.1]; exact hdn))
          refine ⟨_, rfl, _, rfl, Ls, _, _, _, rfl, rfl, SqL.of (S5 _ _ hss), atI_nat hbv, kN _ _ (Same.refl _) ?_⟩
          rw [getD_eq hd0]
          exact hbs.mono S5.kp
        · intro acc5 H5 S5 hD5 hl5 hP5
          rw [nats_len] at hl5
          have hSl : SlsAt H5 (.ref D3) (ofLot n st lot) := ⟨acc5, ⟨D3, rfl, .inl hD5⟩, pr_map hl5 fun j y d0 hy hd0 => by
            have q := hP5 j y hy
            rw [getD_eq hd0] at q
            exact q⟩
          have S45 := S4.trans S5
          have okl := ofLot_ok hst hlt
          have lenl : (ofLot n st lot).length = lot.length := by unfold ofLot; rw [List.length_map]
          refine ⟨_, _, n, ws, w0, _, rfl, hO.mono S45.kp, hwl, ook, hSl, okl, by omega, by omega, fun lv6 H6 S6 h6' => ?_⟩
          rw [elot] at h6'
          obtain ⟨d0, hd0⟩ : ∃ d0, lot[0]? = some d0 := ⟨_, List.getElem?_eq_getElem hl0⟩
          have hdm := List.mem_of_getElem? hd0
          have hdn := hlt d0 hdm
          have hd0' : (nats lot)[0]? = some (.int ((d0 : Nat) : Int)) := by
            unfold nats
            rw [List.getElem?_map, hd0]
            rfl
          obtain ⟨az, x1, y1, z1, rfl, haz, ⟨af, fs, rfl, haf, hfp⟩, hM, hC⟩ := id h6'
          obtain ⟨nv, hnv, an, rfl, han⟩ := pr_get hfp (behind_at hdm hdn)
          have S56 := S5.trans S6
          have S46 := S45.trans S6
          refine ⟨_, rfl, .inl ⟨rfl, _, SqL.of (S56 _ _ hts)⟩, _, rfl, az, _, _, _, rfl, rfl, SqT.of haz, atI_at (j := 0) rfl rfl, _, rfl, al, _, _, _, rfl, rfl, SqT.of (S46 _ _ hal0), atI_at (j := 0) rfl hd0', af, _, _, _, rfl, rfl, SqT.of haf, atI_nat hnv, an, _, _, _, rfl, rfl, SqT.of han, atI_at (j := 1) rfl rfl, Lt, ts, _, rfl, rfl, S56 _ _ hts, by rw [sizeLine_eq]; omega, ?_⟩
          have HL6 := HL4.keep S56
          have HL7 := HL6.other (o := .lst (ts ++ [V.int ((nameFor w0 (ofLot n st lot)).2 : Int)])) nLT (S56 _ _ hts)
          have S7 := S46.mut (o := .lst (ts ++ [V.int ((nameFor w0 (ofLot n st lot)).2 : Int)])) hLt0
          have hsl7 := h6'.mono (Kp.lst (o := .lst (ts ++ [V.int ((nameFor w0 (ofLot n st lot)).2 : Int)])) (S56 _ _ hts))
          have hT7 : ∃ ts', upd H6 Lt (.lst (ts ++ [V.int ((nameFor w0 (ofLot n st lot)).2 : Int)])) Lt = some (.lst ts') ∧ ts'.length = i + 1 := ⟨_, upd_same, by rw [List.length_append, List.length_singleton, htl]⟩
          generalize upd H6 Lt (.lst (ts ++ [V.int ((nameFor w0 (ofLot n st lot)).2 : Int)])) = H7 at HL7 S7 hsl7 hT7
          generalize slipBehind n lot w0 (ofLot n st lot) = later at hsl7
          refine ⟨_, rfl, al, rfl, ⟨_, SqT.of (S7 _ _ hal0)⟩, ?_⟩
          refine for_it (walk_tup (xs := nats lot)) (fun j σ H' => (∃ d, σ = [some (.ref p), some (.ref ar), some (.ref Ls), some (.ref Lt), some (.int (w0 : Int)), some (.ref al), some (.ref az), d]) ∧ Same H H' ∧ HeldAt H Ls H' (setAll st (lot.take j) later) ∧ SlipAt H' (.ref az) later ∧ ∃ ts, H' Lt = some (.lst ts) ∧ ts.length = i + 1)
            ⟨⟨_, rfl⟩, S7, HL7, hsl7, hT7⟩ (fun i σ H' _ q => SqT.of (q.2.1 _ _ hal0)) ?_ ?_
          · rintro j x σ H9 H8 hj ⟨⟨d, rfl⟩, S8, HL8, hs8, ts8, hts8, htl8⟩ ⟨rfl, hx⟩
            obtain ⟨d1, hd1, rfl⟩ := nats_get hx
            have hd1n := hlt d1 (List.mem_of_getElem? hd1)
            obtain ⟨hLs0, ss8, hss8, hpr8⟩ := HL8
            have hssl : ss8.length = n := by rw [Paired.length hpr8, setAll_length, hst.1]
            refine ⟨_, rfl, _, rfl, _, rfl, Ls, ss8, _, d1, rfl, rfl, hss8, ixN_nat (by omega), ⟨_, rfl⟩, S8.mut hLs, ⟨hLs0, _, upd_same, ?_⟩, hs8.mono (Kp.lst hss8), ts8, (upd_ne (Ne.symm nLT)).trans hts8, htl8⟩
            rw [take_succ_some hd1, setAll_snoc]
            exact pr_set (hs8.mono (Kp.lst hss8)) _ (Paired.mapP hpr8 fun _ _ q => q.mono (Kp.lst hss8))
          · rintro σ H8 ⟨⟨d, rfl⟩, S8, HL8, hs8, hT8⟩
            rw [nats_len, List.take_length] at HL8
            exact ⟨⟨_, _, _, _, rfl⟩, S8, HL8, hT8⟩
      · rintro σ H3 ⟨⟨a, b, c, d, rfl⟩, S3, ⟨_, ss, hss, hpr⟩, ts, hts, htl⟩
        rw [nats_len, List.take_length] at hpr
        refine ⟨_, rfl, Ls, ss, rfl, .inl ⟨SqL.of hss, fun t ht => ?_⟩⟩
        have S4 : Same H3 (upd H3 t (.tup ss)) := Same.new ht
        refine ⟨_, rfl, Lt, ts, rfl, .inl ⟨SqL.of (S4 _ _ hts), fun t2 ht2 => ?_⟩⟩
        have S5 : Same (upd H3 t (.tup ss)) (upd (upd H3 t (.tup ss)) t2 (.tup ts)) := Same.new ht2
        refine ⟨(by show 2 ≤ sizeLine; decide), fun z hz => ?_⟩
        have S6 : Same (upd (upd H3 t (.tup ss)) t2 (.tup ts)) (upd (upd (upd H3 t (.tup ss)) t2 (.tup ts)) z (.tup [.ref t, .ref t2])) := Same.new hz
        have S46 := S4.trans (S5.trans S6)
        refine k _ _ (S3.trans S46) ⟨z, _, _, rfl, upd_same, t, ss, rfl, (S5.trans S6) _ _ upd_same, Paired.mapP hpr fun _ _ q => q.mono S46.kp⟩
/-- slots [(0, 'office'), (1, 'row'), (2, 'desk')] cells [] -/
abbrev s_slip : Stmt := (top 35)
theorem sc_slip : FnScope ["office", "row", "desk"] ["office", "row", "desk"] (defScope s_slip) := ⟨rfl, rfl, rfl, by decide +kernel, rfl, by decide +kernel, by decide +kernel⟩
theorem fx_slip (D : Df K mg "slip" s_slip ["office", "row", "desk"]) (T : Txt K mg) (F_check_row : Fx P w K mg base "check_row" s_check_row ["office", "thing"] 5 (sp_check_row C))
    (F_check_desk : Fx P w K mg base "check_desk" s_check_desk ["office", "thing"] 3 (sp_check_desk C)) (F_run_slips : Fx P w K mg base "run_slips" s_run_slips ["office", "row"] 6 (sp_run_slips C)) :
    Fx P w K mg base "slip" s_slip ["office", "row", "desk"] 7 (sp_slip C) := by
  refine D.ok sc_slip (fun vs H Q E h => ?_) (fun f cdv A outer s H vs Q E hr h => ?_)
  · obtain ⟨o, r, n, ws, row, d, rfl, _⟩ := h
    rfl
  · obtain ⟨o, r, n, ws, row, d, rfl, hO, ook, hR, hrow, hlen, hd, k⟩ := h
    refine ⟨_, (pss_cons (ps_expr (pe_fx F_check_row (hr.mono (by decide)) (pa_cons (pv 0) (pa_cons (pv 1) pa_nil))))
        (pss_cons (ps_expr (pe_fx F_check_desk (hr.mono (by decide)) (pa_cons (pv 0) (pa_cons (pv 2) pa_nil))))
        (pss_one (ps_ret (pe_ix (ix_tupK (K := K) rfl) (pe_ix (ix_tupK (K := K) rfl) (pe_fx F_run_slips (hr.mono (by decide)) (pa_cons (pv 0) (pa_cons (pv 1) pa_nil))) pe_int (fun _ _ => rfl)) (pv 2) (fun _ _ => rfl)))))), ?_⟩
    refine ⟨_, rfl, _, rfl, o, n, ws, r, row, rfl, hO, hR, hrow, hlen, fun v1 H1 S1 _ => ?_⟩
    refine ⟨_, rfl, _, rfl, o, n, ws, d, rfl, hO.mono S1.kp, hd, ?_⟩
    refine ⟨_, rfl, _, rfl, o, r, n, ws, row, rfl, hO.mono S1.kp, ook, hR.mono S1.kp, hrow, hlen, fun v2 H2 S2 h2 => ?_⟩
    obtain ⟨a, x, y, rfl, ha, b, ss, rfl, hb, hpr⟩ := h2
    obtain ⟨bv, hbv, hbs⟩ := pr_get hpr (get_of (x := blank n) (i := d) (by rw [run_length]; exact hd))
    exact ⟨a, _, _, _, rfl, rfl, SqT.of ha, atI_at (j := 0) rfl rfl, _, rfl, b, _, _, _, rfl, rfl, SqT.of hb, atI_nat hbv, k _ _ (S1.trans S2) hbs⟩
end
end K31
/-! K31F1: the law's dice. -/
namespace K31
open PySem PySem.Spec PyProof.Rows L2
/-- all but the place g stands -/
def Rb (g : Addr) (H H' : Hp) : Prop := ∀ b o, b ≠ g → H b = some o → H' b = some o
/-- the dice at g: the cells at c, a place, a held number, a state, a count -/
def Dice (c : Addr) (cells : List Int) (g : Addr) (H : Hp) : Prop := (∃ (d1 : Nat) (d2 d3 d4 : Int), H g = some (.lst [.ref c, .int (d1 : Int), .int d2, .int d3, .int d4]) ∧ 0 ≤ d3 ∧ d3 < 2147483647) ∧ H c = some (.lst (cells.map V.int))
/-- behind H0 the dice alone was touched -/
def Gs (c : Addr) (cells : List Int) (g : Addr) (H0 H : Hp) : Prop := Rb g H0 H ∧ Dice c cells g H
section
variable {c g : Addr} {cells : List Int} {H H' H0 H1 : Hp}
theorem Rb.refl (g : Addr) (H : Hp) : Rb g H H := fun _ _ _ h => h
theorem Rb.trans (a : Rb g H H1) (b : Rb g H1 H') : Rb g H H' := fun x o ne h => b x o ne (a x o ne h)
theorem _root_.L2.Same.rb (s : Same H H') : Rb g H H' := fun b o _ h => s b o h
theorem Dice.ne (h : Dice c cells g H) : c ≠ g := by
  rintro rfl
  obtain ⟨⟨d1, d2, d3, d4, e, _⟩, e2⟩ := h
  rw [e] at e2
  cases cells with
  | nil =>
    have e3 := HO.lst.inj (Option.some.inj e2)
    cases e3
  | cons z r =>
    have e3 := HO.lst.inj (Option.some.inj e2)
    rw [List.map_cons] at e3
    have e4 := (List.cons.inj e3).1
    cases e4
theorem Dice.known (h : Dice c cells g H) : ∃ xs, H g = some (.lst xs) := by
  obtain ⟨⟨d1, d2, d3, d4, e, _⟩, _⟩ := h
  exact ⟨_, e⟩
theorem Dice.same (h : Dice c cells g H) (s : Same H H') : Dice c cells g H' := by
  obtain ⟨⟨d1, d2, d3, d4, e, r⟩, e2⟩ := h
  exact ⟨⟨d1, d2, d3, d4, s _ _ e, r⟩, s _ _ e2⟩
theorem Rb.kp (h : Rb g H H') (d : Dice c cells g H) : Kp H H' := by
  obtain ⟨xs, e⟩ := d.known
  refine ⟨fun b ys hb => h b _ ?_ hb, fun b C dx fs hb => h b _ ?_ hb⟩
  · rintro rfl
    rw [e] at hb
    cases hb
  · rintro rfl
    rw [e] at hb
    cases hb
theorem Gs.refl (d : Dice c cells g H) : Gs c cells g H H := ⟨Rb.refl g H, d⟩
theorem Gs.trans (a : Gs c cells g H H1) (b : Gs c cells g H1 H') : Gs c cells g H H' := ⟨a.1.trans b.1, b.2⟩
theorem Gs.same (a : Gs c cells g H H1) (s : Same H1 H') : Gs c cells g H H' := ⟨a.1.trans s.rb, a.2.same s⟩
theorem Gs.kp (a : Gs c cells g H H') (d : Dice c cells g H) : Kp H H' := a.1.kp d
theorem Gs.free {l : Addr} (a : Gs c cells g H H') (h : H' l = none) : H l = none := by
  cases e : H l with
  | none => rfl
  | some o =>
    by_cases q : l = g
    · subst q
      obtain ⟨xs, z⟩ := a.2.known
      rw [z] at h
      cases h
    · rw [a.1 l o q e] at h
      cases h
theorem Dice.away {l : Addr} (d : Dice c cells g H) (h : H l = none) : g ≠ l ∧ c ≠ l := by
  obtain ⟨xs, e⟩ := d.known
  exact ⟨ne_of_none e h, ne_of_none d.2 h⟩
theorem Gs.mut {l : Addr} {o : HO} (a : Gs c cells g H H') (d : Dice c cells g H) (h : H l = none) : Gs c cells g H (upd H' l o) := by
  obtain ⟨n1, n2⟩ := d.away h
  obtain ⟨⟨d1, d2, d3, d4, e, r⟩, e2⟩ := a.2
  exact ⟨fun b u ne hb => (upd_ne (ne_of_none hb h)).trans (a.1 b u ne hb), ⟨d1, d2, d3, d4, (upd_ne n1).trans e, r⟩, (upd_ne n2).trans e2⟩
/-- a place that is not the dice's -/
theorem Gs.get {l : Addr} {o : HO} (a : Gs c cells g H H') (ne : l ≠ g) (h : H l = some o) : H' l = some o := a.1 _ _ ne h
end
theorem seq_cut {t u : TS} {D : Ends} {σ : L2.St} {H : Hp} (I : L2.St → Hp → Prop) (h1 : ∀ T : L2.St → Hp → Prop, (∀ σ' H', I σ' H' → T σ' H') → t { D with nx := T } σ H) (h2 : ∀ σ' H', I σ' H' → u D σ' H') : tSeq t u D σ H := h1 _ h2
theorem cut_take (xs : List V) (k : Nat) : cutV xs none (some ((k : Nat) : Int)) = xs.take k := by
  unfold cutV
  rw [HT.sIx_none, HT.sIx_nat, List.drop_zero, Nat.sub_zero]
  rcases Nat.le_total k xs.length with h | h
  · rw [Nat.min_eq_left h]
  · rw [Nat.min_eq_right h, List.take_length, List.take_of_length_le h]
theorem ints_ex : ∀ {acc : List V}, (∀ (i : Nat) y, acc[i]? = some y → ∃ b, y = V.int b) → ∃ bs : List Int, acc = bs.map V.int
  | [], _ => ⟨[], rfl⟩
  | x :: r, h => by
    obtain ⟨b, e⟩ := h 0 x rfl
    obtain ⟨bs, eb⟩ := ints_ex (acc := r) fun i y hy => h (i + 1) y (by simpa using hy)
    exact ⟨b :: bs, by rw [e, eb]; rfl⟩
theorem emod_nat (a : Int) {s : Nat} (h : 1 ≤ s) : ∃ r : Nat, a % (s : Int) = (r : Int) ∧ r < s := by
  have q1 := Int.emod_nonneg a (show (s : Int) ≠ 0 by omega)
  have q2 := Int.emod_lt_of_pos a (show (0 : Int) < (s : Int) by omega)
  exact ⟨(a % (s : Int)).toNat, by omega, by omega⟩
def sp_dice (K : PySem.W.Frag) : Sp := fun vs H Q _ => ∃ l ns, vs = [.ref l] ∧ SqL K H l (List.map V.int ns) ∧ Ret H Q fun v H' => ∃ g c cells, v = .ref g ∧ Dice c cells g H'
def sp_draw : Sp := fun vs H Q _ => ∃ c cells g s, vs = [.ref g, .int ((s : Nat) : Int)] ∧ Dice c cells g H ∧ 1 ≤ s ∧ s ≤ 1000 ∧ ∀ (r : Nat) H', Gs c cells g H H' → r < s → Q (.int (r : Int)) H'
theorem Dice.put {c g : Addr} {cells : List Int} {H0 H : Hp} (a : Gs c cells g H0 H) {d1 : Nat} {d2 d3 d4 : Int} {xs : List V} (e : xs = [.ref c, .int (d1 : Int), .int d2, .int d3, .int d4]) (h0 : 0 ≤ d3) (h1 : d3 < 2147483647) : Gs c cells g H0 (upd H g (.lst xs)) :=
  ⟨fun b u ne hb => (upd_ne ne).trans (a.1 b u ne hb), ⟨d1, d2, d3, d4, by rw [e]; exact upd_same, h0, h1⟩, (upd_ne a.2.ne).trans a.2.2⟩
section
variable {P : Program} {w : World} {K : PySem.W.Frag} {mg : Str → Option Value} {base : Heap} {C : Addr}
/-- slots [(0, '_law_script'), (1, '_law_cell')] cells [] -/
abbrev s_law_dice : Stmt := (top 39)
theorem sc_law_dice : FnScope ["_law_script", "_law_cell"] ["_law_script"] (defScope s_law_dice) := ⟨rfl, rfl, rfl, by decide +kernel, rfl, by decide +kernel, by decide +kernel⟩
theorem fx_law_dice (D : Df K mg "_law_dice" s_law_dice ["_law_script"]) (T : Txt K mg) : Fx P w K mg base "_law_dice" s_law_dice ["_law_script"] 1 (sp_dice K) := by
  refine D.ok sc_law_dice (fun vs H Q E h => ?_) (fun f cdv A outer s H vs Q E hr h => ?_)
  · obtain ⟨l, ns, rfl, _⟩ := h
    rfl
  · obtain ⟨l, ns, rfl, hl, k⟩ := h
    refine ⟨_, (pss_one (ps_ret (pe_lst (pa_cons (pe_lc (own := [("_law_cell", 1)]) rfl sc_law_dice.nd (pi_listK (K := K) rfl (pe_slice (sl_listK (K := K) rfl) (pv 0) po_none (po_some pe_int))) (blkOk_by (N := ["_law_script", "_law_cell"]) (sc := (defScope s_law_dice)) (by decide +kernel)) (fun _ _ _ _ _ => (pg_name (i := 1) sc_law_dice.nd rfl (Or.inl rfl))) (fun _ _ _ _ _ => pts_nil) (fun _ _ _ _ _ => (pe_callB call_abs (by rfl) T.z_abs bt_abs (pa_cons (pe_callTy call_int1 (by rfl) T.z_int bt_int (pa_cons (pv 1) pa_nil)) pa_nil)))) (pa_cons pe_int (pa_cons pe_int (pa_cons pe_int (pa_cons pe_int pa_nil)))))))), ?_⟩
    refine ⟨_, rfl, _, rfl, l, _, rfl, hl, fun p hp => ?_⟩
    have S1 : Same H (upd H p (.lst (cutV (List.map V.int ns) none (some 63)))) := Same.new hp
    have e1 : upd H p (.lst (cutV (List.map V.int ns) none (some 63))) p = some (.lst ((ns.take 63).map V.int)) := by
      rw [upd_same, show (63 : Int) = ((63 : Nat) : Int) from rfl, cut_take, List.map_take]
    generalize upd H p (.lst (cutV (List.map V.int ns) none (some 63))) = H1 at S1 e1
    refine ⟨p, rfl, ⟨_, SqL.of e1⟩, fun D1 hD1 => ?_⟩
    refine lc_one (walk_list (xs := (ns.take 63).map V.int)) (P := fun _ y _ => ∃ z, y = V.int z) hD1 (by rw [List.length_map, List.length_take]; omega) (fun H' s' => SqL.of (s' _ _ e1)) (fun _ _ _ _ _ h => h) ?_ ?_
    · rintro i x H2 H3 Nx hi S2 ⟨rfl, hx⟩ kN
      rw [List.getElem?_map] at hx
      cases e : (ns.take 63)[i]? with
      | none => rw [e] at hx; cases hx
      | some z =>
        rw [e] at hx
        cases hx
        exact ⟨_, rfl, .inl ⟨_, rfl, _, rfl, kN _ _ (Same.refl _) ⟨_, rfl⟩⟩⟩
    · intro acc H2 S2 hD2 hl2 hP2
      obtain ⟨zs, rfl⟩ := ints_ex hP2
      refine ⟨(by show 5 ≤ sizeLine; decide), fun g hg => ?_⟩
      refine k _ _ ((S1.trans S2).trans (Same.new hg)) ⟨g, D1, zs, rfl, ⟨0, 0, 1, 0, upd_same, by decide, by decide⟩, (upd_ne (ne_of_none hD2 hg)).trans hD2⟩
/-- slots [(0, '_law_dice_here'), (1, '_law_sides'), (2, '_law_mixed'), (3, '_law_cell'), (4, '_law_digit')] cells [] -/
abbrev s_law_draw : Stmt := (top 40)
theorem sc_law_draw : FnScope ["_law_dice_here", "_law_sides", "_law_mixed", "_law_cell", "_law_digit"] ["_law_dice_here", "_law_sides"] (defScope s_law_draw) := ⟨rfl, rfl, rfl, by decide +kernel, rfl, by decide +kernel, by decide +kernel⟩
theorem fx_law_draw (D : Df K mg "_law_draw" s_law_draw ["_law_dice_here", "_law_sides"]) (T : Txt K mg) : Fx P w K mg base "_law_draw" s_law_draw ["_law_dice_here", "_law_sides"] 1 sp_draw := by
  refine D.ok sc_law_draw (fun vs H Q E h => ?_) (fun f cdv A outer s H vs Q E hr h => ?_)
  · obtain ⟨c, cells, g, s, rfl, _⟩ := h
    rfl
  · obtain ⟨c, cells, g, sd, rfl, hd, h1, h1000, k⟩ := h
    refine ⟨_, (pss_cons (ps_if (PW.pt (pw_and (pt_cmpR op_eq (pe_ix (ix_listK (K := K) rfl) (pv 0) pe_int (fun _ _ => rfl)) pe_int (nomark _)) (pw_and1 (pt_cmpR op_lt (pe_ix (ix_listK (K := K) rfl) (pv 0) pe_int (fun _ _ => rfl)) (pe_callB (lenK (K := K) rfl) (by rfl) T.z_len bt_len (pa_cons (pe_ix (ix_listK (K := K) rfl) (pv 0) pe_int (fun _ _ => rfl)) pa_nil)) (nomark _))))) (pss_cons (ps_set (i := 3) sc_law_draw.nd rfl (Or.inl rfl) (pe_ix (ix_listK (K := K) rfl) (pe_ix (ix_listK (K := K) rfl) (pv 0) pe_int (fun _ _ => rfl)) (pe_ix (ix_listK (K := K) rfl) (pv 0) pe_int (fun _ _ => rfl)) (fun _ _ => rfl)))
        (pss_cons (ps_asg (pe_op op_add (pe_ix (ix_listK (K := K) rfl) (pv 0) pe_int (fun _ _ => rfl)) pe_int) (pg_sub (pv 0) pe_int set_list))
        (pss_one (ps_if (pt_cmpR op_ge (pv 3) (pe_op op_pow pe_int pe_int) (nomark _)) (pss_one (ps_asg (pv 3) (pg_sub (pv 0) pe_int set_list))) (pss_one (ps_asg (pe_op op_mod (pe_callTy call_int1 (by rfl) T.z_int bt_int (pa_cons (pe_op op_add (pe_op op_add (pe_op op_mul (pe_ix (ix_listK (K := K) rfl) (pv 0) pe_int (fun _ _ => rfl)) pe_int) (pe_op op_mul (pv 3) pe_int)) (pe_ix (ix_listK (K := K) rfl) (pv 0) pe_int (fun _ _ => rfl))) pa_nil)) pe_int) (pg_sub (pv 0) pe_int set_list))))))) pss_nil)
        (pss_cons (ps_if (pt_cmpR op_gt (pe_ix (ix_listK (K := K) rfl) (pv 0) pe_int (fun _ _ => rfl)) pe_int (nomark _)) (pss_cons (ps_set (i := 4) sc_law_draw.nd rfl (Or.inl rfl) (pe_op op_mod (pe_callTy call_int1 (by rfl) T.z_int bt_int (pa_cons (pe_ix (ix_listK (K := K) rfl) (pv 0) pe_int (fun _ _ => rfl)) pa_nil)) (pv 1)))
        (pss_cons (ps_asg (pe_op op_fdiv (pe_callTy call_int1 (by rfl) T.z_int bt_int (pa_cons (pe_ix (ix_listK (K := K) rfl) (pv 0) pe_int (fun _ _ => rfl)) pa_nil)) (pv 1)) (pg_sub (pv 0) pe_int set_list))
        (pss_one (ps_ret (pv 4))))) pss_nil)
        (pss_cons (ps_asg (pe_op op_add (pe_ix (ix_listK (K := K) rfl) (pv 0) pe_int (fun _ _ => rfl)) pe_int) (pg_sub (pv 0) pe_int set_list))
        (pss_cons (ps_asg (pe_op op_mod (pe_callTy call_int1 (by rfl) T.z_int bt_int (pa_cons (pe_op op_add (pe_op op_add (pe_op op_mul (pe_ix (ix_listK (K := K) rfl) (pv 0) pe_int (fun _ _ => rfl)) pe_int) (pe_op op_mul (pe_ix (ix_listK (K := K) rfl) (pv 0) pe_int (fun _ _ => rfl)) pe_int)) pe_int) pa_nil)) pe_int) (pg_sub (pv 0) pe_int set_list))
        (pss_cons (ps_set (i := 2) sc_law_draw.nd rfl (Or.inl rfl) (pe_op op_mod (pe_callTy call_int1 (by rfl) T.z_int bt_int (pa_cons (pe_op op_mul (pe_ix (ix_listK (K := K) rfl) (pv 0) pe_int (fun _ _ => rfl)) (pe_op op_add (pe_op op_fdiv (pe_ix (ix_listK (K := K) rfl) (pv 0) pe_int (fun _ _ => rfl)) pe_int) pe_int)) pa_nil)) pe_int))
        (pss_cons (ps_set (i := 2) sc_law_draw.nd rfl (Or.inl rfl) (pe_op op_mod (pe_callTy call_int1 (by rfl) T.z_int bt_int (pa_cons (pe_op op_mul (pv 2) (pe_op op_add (pe_op op_fdiv (pv 2) pe_int) pe_int)) pa_nil)) pe_int))
        (pss_one (ps_ret (pe_op op_mod (pe_callTy call_int1 (by rfl) T.z_int bt_int (pa_cons (pe_op op_fdiv (pv 2) pe_int) pa_nil)) (pv 1)))))))))), ?_⟩
    refine seq_cut (fun σ' H' => (∃ x, σ' = [some (.ref g), some (.int (sd : Int)), none, x, none]) ∧ Gs c cells g H H') (fun TT hT => ?_) ?_
    · have G0 := Gs.refl hd
      obtain ⟨⟨d1, d2, d3, d4, hg, hd3, hd3'⟩, hc⟩ := id hd
      refine ⟨_, rfl, g, _, _, _, rfl, rfl, SqL.of hg, atI_at (j := 2) rfl rfl, rfl, _, rfl, ?_⟩
      refine ite2 (fun _ => ?_) fun _ => iteF (hT _ _ ⟨⟨_, rfl⟩, G0⟩)
      refine ⟨_, rfl, g, _, _, _, rfl, rfl, SqL.of hg, atI_at (j := 1) rfl rfl, _, rfl, g, _, _, _, rfl, rfl, SqL.of hg, atI_at (j := 0) rfl rfl, c, _, rfl, .inl (SqL.of hc), _, _, rfl, rfl, _, rfl, ?_⟩
      refine ite2 (fun q => ?_) fun _ => hT _ _ ⟨⟨_, rfl⟩, G0⟩
      have q : d1 < (cells.map V.int).length := by
        have := of_decide_eq_true q
        omega
      have hz : (cells.map V.int)[d1]? = some (V.int (cells[d1]'(by simpa using q))) := by
        rw [List.getElem?_map, List.getElem?_eq_getElem (by simpa using q)]
        rfl
      generalize cells[d1]'(by simpa using q) = z at hz
      refine ⟨_, rfl, g, _, _, _, rfl, rfl, SqL.of hg, atI_at (j := 0) rfl rfl, _, rfl, g, _, _, _, rfl, rfl, SqL.of hg, atI_at (j := 1) rfl rfl, c, _, _, _, rfl, rfl, SqL.of hc, atI_nat hz, ?_⟩
      refine ⟨_, rfl, g, _, _, _, rfl, rfl, SqL.of hg, atI_at (j := 1) rfl rfl, _, _, rfl, rfl, _, rfl, g, _, 1, 1, rfl, rfl, hg, rfl, ?_⟩
      have G1 : Gs c cells g H (upd H g (.lst [.ref c, .int ((d1 + 1 : Nat) : Int), .int d2, .int d3, .int d4])) := Dice.put G0 rfl hd3 hd3'
      have hg1 : upd H g (.lst [.ref c, .int ((d1 + 1 : Nat) : Int), .int d2, .int d3, .int d4]) g = some (.lst [.ref c, .int ((d1 + 1 : Nat) : Int), .int d2, .int d3, .int d4]) := upd_same
      refine ⟨_, rfl, _, _, rfl, rfl, ⟨by decide, by decide, by decide⟩, _, _, rfl, rfl, _, rfl, ?_⟩
      refine ite2 (fun _ => ?_) fun _ => ?_
      · exact ⟨_, rfl, _, rfl, g, _, 2, 2, rfl, rfl, hg1, rfl, hT _ _ ⟨⟨_, rfl⟩, Dice.put G1 (d1 := d1 + 1) rfl hd3 hd3'⟩⟩
      · refine ⟨_, rfl, g, _, _, _, rfl, rfl, SqL.of hg1, atI_at (j := 3) rfl rfl, _, _, rfl, rfl, .inr ⟨by decide, by decide⟩, _, rfl, _, _, rfl, rfl, .inr ⟨by decide, by decide⟩, _, _, rfl, rfl, _, rfl, g, _, _, _, rfl, rfl, SqL.of hg1, atI_at (j := 1) rfl rfl, _, _, rfl, rfl, .inl ⟨_, rfl, _, _, rfl, rfl, (by show (0 : Int) < 2147483647; decide), _, rfl, g, _, 3, 3, rfl, rfl, hg1, rfl, hT _ _ ⟨⟨_, rfl⟩, Dice.put G1 (d1 := d1 + 1) rfl ?_ ?_⟩⟩⟩
        · exact Int.emod_nonneg _ (by decide)
        · exact Int.emod_lt_of_pos _ (by decide)
    · rintro σ' H1 ⟨⟨x, rfl⟩, G1⟩
      obtain ⟨⟨d1, d2, d3, d4, hg, hd3, hd3'⟩, hc⟩ := id G1.2
      have sp : (0 : Int) < (sd : Int) := by omega
      refine seq_cut (fun σ' H' => σ' = [some (.ref g), some (.int (sd : Int)), none, x, none] ∧ H' = H1) (fun TT hT => ?_) ?_
      · refine ⟨_, rfl, g, _, _, _, rfl, rfl, SqL.of hg, atI_at (j := 2) rfl rfl, _, _, rfl, rfl, _, rfl, ?_⟩
        refine ite2 (fun _ => ?_) fun _ => hT _ _ ⟨rfl, rfl⟩
        refine ⟨_, rfl, g, _, _, _, rfl, rfl, SqL.of hg, atI_at (j := 2) rfl rfl, .inl ⟨_, rfl, _, rfl, _, _, rfl, rfl, sp, ?_⟩⟩
        refine ⟨_, rfl, g, _, _, _, rfl, rfl, SqL.of hg, atI_at (j := 2) rfl rfl, .inl ⟨_, rfl, _, rfl, _, _, rfl, rfl, ⟨sp, by omega⟩, _, rfl, g, _, 2, 2, rfl, rfl, hg, rfl, ?_⟩⟩
        refine ⟨_, rfl, ?_⟩
        have q1 := Int.emod_nonneg d2 (show (sd : Int) ≠ 0 by omega)
        have q2 := Int.emod_lt_of_pos d2 sp
        have e : d2 % (sd : Int) = (((d2 % (sd : Int)).toNat : Nat) : Int) := by omega
        show Q (.int (d2 % (sd : Int))) _
        rw [e]
        exact k _ _ (Dice.put G1 rfl hd3 hd3') (by omega)
      · rintro σ' H2 ⟨rfl, rfl⟩
        refine ⟨_, rfl, g, _, _, _, rfl, rfl, SqL.of hg, atI_at (j := 4) rfl rfl, _, _, rfl, rfl, _, rfl, g, _, 4, 4, rfl, rfl, hg, rfl, ?_⟩
        have G2 : Gs c cells g H (upd H2 g (.lst [.ref c, .int (d1 : Int), .int d2, .int d3, .int (d4 + 1)])) := Dice.put G1 rfl hd3 hd3'
        have hg2 : upd H2 g (.lst [.ref c, .int (d1 : Int), .int d2, .int d3, .int (d4 + 1)]) g = some (.lst [.ref c, .int (d1 : Int), .int d2, .int d3, .int (d4 + 1)]) := upd_same
        refine ⟨_, rfl, g, _, _, _, rfl, rfl, SqL.of hg2, atI_at (j := 3) rfl rfl, _, _, rfl, rfl, .inr ⟨by decide, by decide⟩, _, rfl, g, _, _, _, rfl, rfl, SqL.of hg2, atI_at (j := 4) rfl rfl, _, _, rfl, rfl, .inr ⟨by decide, by decide⟩, _, _, rfl, rfl, _, _, rfl, rfl, .inl ⟨_, rfl, _, _, rfl, rfl, (by show (0 : Int) < 2147483647; decide), _, rfl, g, _, 3, 3, rfl, rfl, hg2, rfl, ?_⟩⟩
        generalize ez : (fun i j => V.int (i % j)) _ (2147483647 : Int) = zz
        have hz : ∃ z : Int, zz = .int z ∧ 0 ≤ z ∧ z < 2147483647 := ⟨_, ez.symm, Int.emod_nonneg _ (by decide), Int.emod_lt_of_pos _ (by decide)⟩
        obtain ⟨z, rfl, hz1, hz2⟩ := hz
        have G3 : Gs c cells g H (upd (upd H2 g (.lst [.ref c, .int (d1 : Int), .int d2, .int d3, .int (d4 + 1)])) g (.lst [.ref c, .int (d1 : Int), .int d2, .int z, .int (d4 + 1)])) := Dice.put G2 rfl hz1 hz2
        have hg3 : upd (upd H2 g (.lst [.ref c, .int (d1 : Int), .int d2, .int d3, .int (d4 + 1)])) g (.lst [.ref c, .int (d1 : Int), .int d2, .int z, .int (d4 + 1)]) g = some (.lst [.ref c, .int (d1 : Int), .int d2, .int z, .int (d4 + 1)]) := upd_same
        refine ⟨_, rfl, g, _, _, _, rfl, rfl, SqL.of hg3, atI_at (j := 3) rfl rfl, _, rfl, g, _, _, _, rfl, rfl, SqL.of hg3, atI_at (j := 3) rfl rfl, _, _, rfl, rfl, ⟨by decide, by decide⟩, _, _, rfl, rfl, _, _, rfl, rfl, .inl ⟨by omega, by omega⟩, .inl ⟨_, rfl, _, _, rfl, rfl, (by show (0 : Int) < 2147483399; decide), ?_⟩⟩
        generalize ey : (fun i j => V.int (i % j)) _ (2147483399 : Int) = yy
        have hy : ∃ y : Int, yy = .int y ∧ 0 ≤ y ∧ y < 2147483399 := ⟨_, ey.symm, Int.emod_nonneg _ (by decide), Int.emod_lt_of_pos _ (by decide)⟩
        obtain ⟨y, rfl, hy1, hy2⟩ := hy
        refine ⟨_, rfl, _, rfl, _, _, rfl, rfl, ⟨by decide, by decide⟩, _, _, rfl, rfl, _, _, rfl, rfl, .inl ⟨by omega, by omega⟩, .inl ⟨_, rfl, _, _, rfl, rfl, (by show (0 : Int) < 2147483563; decide), ?_⟩⟩
        refine ⟨_, rfl, _, _, rfl, rfl, ⟨by decide, by decide⟩, .inl ⟨_, rfl, _, rfl, _, _, rfl, rfl, sp, ?_⟩⟩
        generalize ex : (fun i j => V.int (i % j)) _ (sd : Int) = xx
        have hx : ∃ r : Nat, xx = .int (r : Int) ∧ r < sd := by
          obtain ⟨r, e, hlt⟩ := emod_nat (y * (y / 2003 + 40693) % 2147483563 / 16) h1
          exact ⟨r, ex.symm.trans (congrArg V.int e), hlt⟩
        obtain ⟨r, rfl, hr2⟩ := hx
        exact k _ _ G3 hr2
end
end K31
/-! K31F2: the law's parts, row, office. -/
namespace K31
open PySem PySem.Spec PyProof.Rows L2
def LotOk (n : Nat) (lot : List Nat) : Prop := lot ≠ [] ∧ (∀ d ∈ lot, d < n) ∧ lot.Pairwise (· < ·)
/-- an own list of lots -/
def LotsAt (H0 : Hp) (n b k : Nat) (v : V) (H : Hp) : Prop := ∃ L xs ws, v = .ref L ∧ H0 L = none ∧ H L = some (.lst xs) ∧ Paired (LotAt H) xs ws ∧ (∀ lot ∈ ws, LotOk n lot) ∧ k ≤ ws.length ∧ ws.length ≤ b
def sp_parts : Sp := fun vs H Q _ => ∃ c cells g most, vs = [.ref g, .int ((most : Nat) : Int)] ∧ Dice c cells g H ∧ 1 ≤ most ∧ most ≤ 6 ∧ ∀ v H' n ws, Gs c cells g H H' → PartsAt H' v n ws → OffOk n ws → Q v H'
def sp_some_parts : Sp := fun vs H Q _ => ∃ c cells g, vs = [.ref g] ∧ Dice c cells g H ∧ ∀ v H' n ws, Gs c cells g H H' → PartsAt H' v n ws → OffOk n ws → Q v H'
def sp_row : Sp := fun vs H Q _ => ∃ c cells g v n ws most, vs = [.ref g, v, .int ((most : Nat) : Int)] ∧ Dice c cells g H ∧ PartsAt H v n ws ∧ OffOk n ws ∧ most ≤ 100 ∧
  ∀ v H' row, Gs c cells g H H' → LotAt H' v row → (∀ w ∈ row, w < ws.length) → row.length ≤ most → Q v H'
def sp_made (C : Addr) : Sp := fun vs H Q _ => ∃ v n ws, vs = [v] ∧ PartsAt H v n ws ∧ OffOk n ws ∧ Ret H Q fun v H' => OfficeAt C H' v n ws
def sp_meets : Sp := fun vs H Q _ => ∃ v n ws a b, vs = [v, .int ((a : Nat) : Int), .int ((b : Nat) : Int)] ∧ PartsAt H v n ws ∧ OffOk n ws ∧ a < ws.length ∧ b < ws.length ∧ Ret H Q fun v _ => ∃ q : Bool, v = .bl q ∧ (q = false → Apart (ws.getD a []) (ws.getD b []))
theorem pr_ex {α β : Type} {R : β → α → Prop} {ok : α → Prop} : ∀ {xs : List β}, (∀ (i : Nat) x, xs[i]? = some x → ∃ d, R x d ∧ ok d) → ∃ ds, Paired R xs ds ∧ ∀ d ∈ ds, ok d
  | [], _ => ⟨[], .nil, fun d h => by cases h⟩
  | x :: r, h => by
    obtain ⟨d, h1, h2⟩ := h 0 x rfl
    obtain ⟨ds, h3, h4⟩ := pr_ex (xs := r) fun i y hy => h (i + 1) y (by simpa using hy)
    refine ⟨d :: ds, .cons h1 h3, fun e he => ?_⟩
    rcases List.mem_cons.mp he with q | q
    · rw [q]; exact h2
    · exact h4 e q
theorem pr_take {α β : Type} {R : β → α → Prop} : ∀ {xs : List β} {ds : List α} (k : Nat), Paired R xs ds → Paired R (xs.take k) (ds.take k)
  | _, _, 0, _ => by simpa using Paired.nil
  | _, _, k + 1, .nil => .nil
  | _, _, k + 1, .cons h t => .cons h (pr_take k t)
theorem sorted_lot {n d e : Nat} (hd : d < n) (he : e < n) (ne : d ≠ e) {ns : List Int} (hp : ns.Perm [(d : Int), (e : Int)]) (hs : ns.Pairwise (· ≤ ·)) : ∃ lot, ns.map V.int = nats lot ∧ LotOk n lot := by
  have hl := hp.length_eq
  match ns, hl with
  | [x, y], _ =>
    have hx : x ∈ [(d : Int), (e : Int)] := hp.mem_iff.mp (by simp)
    have hy : y ∈ [(d : Int), (e : Int)] := hp.mem_iff.mp (by simp)
    have hn : [x, y].Nodup := hp.nodup_iff.mpr (by
      simp
      omega)
    simp at hx hy hn hs
    refine ⟨[x.toNat, y.toNat], ?_, by simp, fun z hz => ?_, ?_⟩
    · show [V.int x, V.int y] = [V.int ((x.toNat : Nat) : Int), V.int ((y.toNat : Nat) : Int)]
      rw [Int.toNat_of_nonneg (by omega), Int.toNat_of_nonneg (by omega)]
    · simp at hz
      omega
    · simp
      omega
theorem nats_snoc (l : List Nat) (d : Nat) : nats l ++ [V.int (d : Int)] = nats (l ++ [d]) := by
  unfold nats
  rw [List.map_append]
  rfl
theorem asc_snoc {l : List Nat} {d : Nat} (h : l.Pairwise (· < ·)) (hl : ∀ x ∈ l, x < d) : (l ++ [d]).Pairwise (· < ·) := by
  rw [List.pairwise_append]
  refine ⟨h, by simp, fun a ha b hb => ?_⟩
  rw [List.mem_singleton.mp hb]
  exact hl a ha
theorem any_of {acc : List V} {n : Nat} {f : Nat → Bool} : (((List.range n).map f).any id = false) → ∀ i, i < n → f i = false := by
  intro h i hi
  have := List.any_eq_false.mp h (f i) (List.mem_map.mpr ⟨i, List.mem_range.mpr hi, rfl⟩)
  simpa using this
section
variable {P : Program} {w : World} {K : PySem.W.Frag} {mg : Str → Option Value} {base : Heap} {C : Addr}
/-- slots [(0, '_law_dice_here'), (1, '_law_most'), (2, '_law_desks'), (3, '_law_kind'), (4, '_law_lots'), (5, '_law_turn'), (6, '_law_lot'), (7, '_law_desk')] cells ['_law_desks', '_law_dice_here'] -/
abbrev s_law_parts : Stmt := (top 41)
theorem sc_law_parts : FnScope ["_law_dice_here", "_law_most", "_law_desks", "_law_kind", "_law_lots", "_law_turn", "_law_lot", "_law_desk"] ["_law_dice_here", "_law_most"] (defScope s_law_parts) := ⟨rfl, rfl, rfl, by decide +kernel, rfl, by decide +kernel, by decide +kernel⟩
theorem fx_law_parts (D : Df K mg "_law_parts" s_law_parts ["_law_dice_here", "_law_most"]) (T : Txt K mg) (F_law_draw : Fx P w K mg base "_law_draw" s_law_draw ["_law_dice_here", "_law_sides"] 1 sp_draw) :
    Fx P w K mg base "_law_parts" s_law_parts ["_law_dice_here", "_law_most"] 2 sp_parts := by
  refine D.ok sc_law_parts (fun vs H Q E h => ?_) (fun f cdv A outer s H vs Q E hr h => ?_)
  · obtain ⟨c, cells, g, most, rfl, _⟩ := h
    rfl
  · obtain ⟨c, cells, g, most, rfl, hd, hm1, hm6, k⟩ := h
    refine ⟨_, (pss_cons (ps_set (i := 2) sc_law_parts.nd rfl (Or.inr rfl) (pe_op op_add pe_int (pe_fx F_law_draw (hr.mono (by decide)) (pa_cons (pv 0) (pa_cons (pv 1) pa_nil)))))
        (pss_cons (ps_set (i := 3) sc_law_parts.nd rfl (Or.inl rfl) (pe_fx F_law_draw (hr.mono (by decide)) (pa_cons (pv 0) (pa_cons pe_int pa_nil))))
        (pss_cons (ps_set (i := 4) sc_law_parts.nd rfl (Or.inl rfl) (pe_lst pa_nil))
        (pss_cons (ps_if (PW.pt (pw_and (pt_cmpR op_eq (pv 3) pe_int (nomark _)) (pw_and1 (pt_cmpR op_gt (pv 2) pe_int (nomark _))))) (pss_one (ps_setLc (i := 4) (own := [("_law_desk", 7)]) rfl sc_law_parts.nd rfl rfl (sw_true rfl rfl rfl (by decide +kernel)) (pi_range1 rfl T.z_range (pa_cons (pv 2) pa_nil)) (blkOk_by (N := ["_law_dice_here", "_law_most", "_law_desks", "_law_kind", "_law_lots", "_law_turn", "_law_lot", "_law_desk"]) (sc := (defScope s_law_parts)) (by decide +kernel)) (fun _ _ _ _ _ => (pg_name (i := 7) sc_law_parts.nd rfl (Or.inl rfl))) (fun _ _ _ _ _ => pts_nil) (fun _ _ _ _ _ => (pe_callTy (tupleK (K := K) rfl) (by rfl) T.z_tuple bt_tuple (pa_cons (pe_callB (sortedK (K := K) rfl) (by rfl) T.z_sorted bt_sorted (pa_cons (pe_lst (pa_cons (pv 7) (pa_cons (pe_op op_mod (pe_callTy call_int1 (by rfl) T.z_int bt_int (pa_cons (pe_op op_add (pv 7) pe_int) pa_nil)) (pv 2)) pa_nil))) pa_nil)) pa_nil))))) pss_nil)
        (pss_cons (ps_if (pt_cmpR op_eq (pv 3) pe_int (nomark _)) (pss_one (ps_setLc (i := 4) (own := [("_law_desk", 7)]) rfl sc_law_parts.nd rfl rfl (sw_true rfl rfl rfl (by decide +kernel)) (pi_range1 rfl T.z_range (pa_cons (pv 2) pa_nil)) (blkOk_by (N := ["_law_dice_here", "_law_most", "_law_desks", "_law_kind", "_law_lots", "_law_turn", "_law_lot", "_law_desk"]) (sc := (defScope s_law_parts)) (by decide +kernel)) (fun _ _ _ _ _ => (pg_name (i := 7) sc_law_parts.nd rfl (Or.inl rfl))) (fun _ _ _ _ _ => pts_nil) (fun _ _ _ _ _ => (pe_tup (pa_cons (pv 7) pa_nil))))) pss_nil)
        (pss_cons (ps_if (PW.pt (pw_and (pt_cmpR op_eq (pv 3) pe_int (nomark _)) (pw_and1 (pt_cmpR op_gt (pv 2) pe_int (nomark _))))) (pss_one (ps_setLc (i := 4) (own := [("_law_desk", 7)]) rfl sc_law_parts.nd rfl rfl (sw_true rfl rfl rfl (by decide +kernel)) (pi_range2 rfl T.z_range (pa_cons pe_int (pa_cons (pv 2) pa_nil))) (blkOk_by (N := ["_law_dice_here", "_law_most", "_law_desks", "_law_kind", "_law_lots", "_law_turn", "_law_lot", "_law_desk"]) (sc := (defScope s_law_parts)) (by decide +kernel)) (fun _ _ _ _ _ => (pg_name (i := 7) sc_law_parts.nd rfl (Or.inl rfl))) (fun _ _ _ _ _ => pts_nil) (fun _ _ _ _ _ => (pe_tup (pa_cons pe_int (pa_cons (pv 7) pa_nil)))))) pss_nil)
        (pss_cons (ps_for PassesOwn.never rfl (pi_range1 rfl T.z_range (pa_cons (pe_op op_add pe_int (pe_fx F_law_draw (hr.mono (by decide)) (pa_cons (pv 0) (pa_cons pe_int pa_nil)))) pa_nil)) (pg_name (i := 5) sc_law_parts.nd rfl (Or.inl rfl)) (pss_cons (ps_set (i := 6) sc_law_parts.nd rfl (Or.inl rfl) (pe_callTy (tupleK (K := K) rfl) (by rfl) T.z_tuple bt_tuple (pa_cons (pe_lc (own := [("_law_desk", 7)]) rfl sc_law_parts.nd (pi_range1 rfl T.z_range (pa_cons (pv 2) pa_nil)) (blkOk_by (N := ["_law_dice_here", "_law_most", "_law_desks", "_law_kind", "_law_lots", "_law_turn", "_law_lot", "_law_desk"]) (sc := (defScope s_law_parts)) (by decide +kernel)) (fun _ _ _ _ _ => (pg_name (i := 7) sc_law_parts.nd rfl (Or.inl rfl))) (fun _ _ _ _ _ => (pts_one (pt_cmpR op_eq (pe_fx F_law_draw (hr.mono (by decide)) (pa_cons (pv 0) (pa_cons pe_int pa_nil))) pe_int (nomark _)))) (fun _ _ _ _ _ => (pv 7))) pa_nil)))
        (pss_one (ps_expr (pe_appK (K := K) rfl (pv 4) (pa_cons (pe_ifExp (pt_cmpR op_gt (pe_callB (lenK (K := K) rfl) (by rfl) T.z_len bt_len (pa_cons (pv 6) pa_nil)) pe_int (nomark _)) (pv 6) (pe_tup (pa_cons (pe_fx F_law_draw (hr.mono (by decide)) (pa_cons (pv 0) (pa_cons (pv 2) pa_nil))) pa_nil))) pa_nil))))))
        (pss_one (ps_ret (pe_tup (pa_cons (pv 2) (pa_cons (pe_callTy (tupleK (K := K) rfl) (by rfl) T.z_tuple bt_tuple (pa_cons (pe_slice (sl_listK (K := K) rfl) (pv 4) po_none (po_some pe_int)) pa_nil)) pa_nil)))))))))))), ?_⟩
    refine seq_cut (fun σ' H' => ∃ n : Nat, 1 ≤ n ∧ n ≤ 6 ∧ σ' = [some (.ref g), some (.int (most : Int)), some (.int (n : Int)), none, none, none, none, none] ∧ Gs c cells g H H') (fun TT hT => ?_) ?_
    · exact ⟨_, rfl, _, rfl, c, cells, g, most, rfl, hd, hm1, by omega, fun r H1 G1 hr1 => ⟨_, _, rfl, rfl, hT _ _ ⟨1 + r, by omega, by omega, rfl, G1⟩⟩⟩
    rintro σ' H1 ⟨n, h1, h6, rfl, G1⟩
    refine seq_cut (fun σ' H' => ∃ kd : Nat, σ' = [some (.ref g), some (.int (most : Int)), some (.int (n : Int)), some (.int (kd : Int)), none, none, none, none] ∧ Gs c cells g H H') (fun TT hT => ?_) ?_
    · exact ⟨_, rfl, c, cells, g, 4, rfl, G1.2, by decide, by decide, fun r H2 G2 hr1 => hT _ _ ⟨r, rfl, G1.trans G2⟩⟩
    rintro σ' H2 ⟨kd, rfl, G2⟩
    refine seq_cut (fun σ' H' => (∃ v, σ' = [some (.ref g), some (.int (most : Int)), some (.int (n : Int)), some (.int (kd : Int)), some v, none, none, none] ∧ LotsAt H n 6 0 v H') ∧ Gs c cells g H H') (fun TT hT => ?_) ?_
    · exact ⟨Nat.zero_le _, fun L hL => hT _ _ ⟨⟨_, rfl, L, [], [], rfl, G2.free hL, upd_same, .nil, (fun lot h => by cases h), Nat.le_refl _, by decide⟩, G2.same (Same.new hL)⟩⟩
    rintro σ' H3 ⟨⟨v3, rfl, L3⟩, G3⟩
    refine seq_cut (fun σ' H' => (∃ v, σ' = [some (.ref g), some (.int (most : Int)), some (.int (n : Int)), some (.int (kd : Int)), some v, none, none, none] ∧ LotsAt H n 6 0 v H') ∧ Gs c cells g H H') (fun TT hT => ?_) ?_
    · refine ⟨_, rfl, rfl, _, rfl, ?_⟩
      refine ite2 (fun _ => ?_) fun _ => iteF (hT _ _ ⟨⟨_, rfl, L3⟩, G3⟩)
      refine ⟨_, rfl, _, _, rfl, rfl, _, rfl, ?_⟩
      refine ite2 (fun q => ?_) fun _ => hT _ _ ⟨⟨_, rfl, L3⟩, G3⟩
      have q := of_decide_eq_true q
      refine ⟨_, rfl, _, rfl, by omega, by omega, fun L hL => ?_⟩
      refine lc_one walk_range (P := fun i y H => ∃ lot, LotAt H y lot ∧ LotOk n lot) hL (by omega) (fun _ _ => True.intro) (fun i y H H' kp h => by
        obtain ⟨lot, h1, h2⟩ := h
        exact ⟨lot, h1.mono kp, h2⟩) ?_ ?_
      · rintro i x H4 H5 Nx hi S4 ⟨rfl, hx⟩ kN
        have hx : x = V.int ((i : Nat) : Int) := hx.trans (congrArg V.int (by omega))
        subst hx
        have hin : i < n := by omega
        refine ⟨_, rfl, _, rfl, _, _, rfl, rfl, .inl ⟨_, rfl, _, rfl, _, _, rfl, rfl, (by show (0 : Int) < (n : Int); omega), (by show 2 ≤ sizeLine; decide), fun l hl => ?_⟩⟩
        refine ⟨l, [(i : Int), ((i : Int) + 1) % (n : Int)], rfl, SqL.of upd_same, (by show 2 < 64; decide), fun ns p hperm hsort hp => ?_⟩
        refine ⟨p, _, rfl, .inl ⟨SqL.of upd_same, fun t ht => kN _ _ ((Same.new hl).trans ((Same.new hp).trans (Same.new ht))) ?_⟩⟩
        have e : ((i : Int) + 1) % (n : Int) = (((i + 1) % n : Nat) : Int) := rfl
        rw [e] at hperm
        have hne : i ≠ (i + 1) % n := by
          rcases Nat.lt_or_ge (i + 1) n with z | z
          · rw [Nat.mod_eq_of_lt z]; omega
          · have z2 : i + 1 = n := by omega
            rw [z2, Nat.mod_self]
            omega
        obtain ⟨lot, e2, ok⟩ := sorted_lot hin (Nat.mod_lt _ (by omega)) hne hperm hsort
        exact ⟨lot, ⟨t, rfl, by rw [upd_same, e2]⟩, ok⟩
      · intro acc H4 S4 hD4 hl4 hP4
        obtain ⟨ws, hpr, hok⟩ := pr_ex hP4
        exact hT _ _ ⟨⟨_, rfl, L, acc, ws, rfl, G3.free hL, hD4, hpr, hok, Nat.zero_le _, by rw [← Paired.length hpr]; omega⟩, G3.same S4⟩
    rintro σ' H4 ⟨⟨v4, rfl, L4⟩, G4⟩
    clear L3 G3
    refine seq_cut (fun σ' H' => (∃ v, σ' = [some (.ref g), some (.int (most : Int)), some (.int (n : Int)), some (.int (kd : Int)), some v, none, none, none] ∧ LotsAt H n 6 0 v H') ∧ Gs c cells g H H') (fun TT hT => ?_) ?_
    · refine ⟨_, rfl, rfl, _, rfl, ?_⟩
      refine ite2 (fun _ => ?_) fun _ => hT _ _ ⟨⟨_, rfl, L4⟩, G4⟩
      refine ⟨_, rfl, _, rfl, by omega, by omega, fun L hL => ?_⟩
      refine lc_one walk_range (P := fun i y H => ∃ lot, LotAt H y lot ∧ LotOk n lot) hL (by omega) (fun _ _ => True.intro) (fun i y H H' kp h => by
        obtain ⟨lot, h1, h2⟩ := h
        exact ⟨lot, h1.mono kp, h2⟩) ?_ ?_
      · rintro i x H5 H6 Nx hi S5 ⟨rfl, hx⟩ kN
        have hx : x = V.int ((i : Nat) : Int) := hx.trans (congrArg V.int (by omega))
        subst hx
        have hin : i < n := by omega
        exact ⟨_, rfl, (by show 1 ≤ sizeLine; decide), fun t ht => kN _ _ (Same.new ht) ⟨[i], ⟨t, rfl, upd_same⟩, by simp, fun z hz => by rw [List.mem_singleton.mp hz]; exact hin, by simp⟩⟩
      · intro acc H5 S5 hD5 hl5 hP5
        obtain ⟨ws, hpr, hok⟩ := pr_ex hP5
        exact hT _ _ ⟨⟨_, rfl, L, acc, ws, rfl, G4.free hL, hD5, hpr, hok, Nat.zero_le _, by rw [← Paired.length hpr]; omega⟩, G4.same S5⟩
    rintro σ' H5 ⟨⟨v5, rfl, L5⟩, G5⟩
    clear L4 G4
    refine seq_cut (fun σ' H' => (∃ v, σ' = [some (.ref g), some (.int (most : Int)), some (.int (n : Int)), some (.int (kd : Int)), some v, none, none, none] ∧ LotsAt H n 6 0 v H') ∧ Gs c cells g H H') (fun TT hT => ?_) ?_
    · refine ⟨_, rfl, rfl, _, rfl, ?_⟩
      refine ite2 (fun _ => ?_) fun _ => iteF (hT _ _ ⟨⟨_, rfl, L5⟩, G5⟩)
      refine ⟨_, rfl, _, _, rfl, rfl, _, rfl, ?_⟩
      refine ite2 (fun q => ?_) fun _ => hT _ _ ⟨⟨_, rfl, L5⟩, G5⟩
      have q := of_decide_eq_true q
      refine ⟨_, rfl, _, _, rfl, ⟨by decide, by decide, by omega, by omega⟩, fun L hL => ?_⟩
      refine lc_one walk_range (P := fun i y H => ∃ lot, LotAt H y lot ∧ LotOk n lot) hL (by omega) (fun _ _ => True.intro) (fun i y H H' kp h => by
        obtain ⟨lot, h1, h2⟩ := h
        exact ⟨lot, h1.mono kp, h2⟩) ?_ ?_
      · rintro i x H6 H7 Nx hi S6 ⟨rfl, hx⟩ kN
        have hx : x = V.int ((1 + i : Nat) : Int) := hx.trans (congrArg V.int (by omega))
        subst hx
        have hin : 1 + i < n := by omega
        exact ⟨_, rfl, (by show 2 ≤ sizeLine; decide), fun t ht => kN _ _ (Same.new ht) ⟨[0, 1 + i], ⟨t, rfl, upd_same⟩, by simp, fun z hz => by
          simp at hz
          omega, by
          simp
          omega⟩⟩
      · intro acc H6 S6 hD6 hl6 hP6
        obtain ⟨ws, hpr, hok⟩ := pr_ex hP6
        exact hT _ _ ⟨⟨_, rfl, L, acc, ws, rfl, G5.free hL, hD6, hpr, hok, Nat.zero_le _, by rw [← Paired.length hpr]; omega⟩, G5.same S6⟩
    rintro σ' H6 ⟨⟨v6, rfl, L6⟩, G6⟩
    clear L5 G5
    refine ⟨_, rfl, c, cells, g, 4, rfl, G6.2, by decide, by decide, fun r0 H7 G67 hr0 => ⟨_, _, rfl, rfl, _, rfl, by omega, by omega, ?_⟩⟩
    have G7 := G6.trans G67
    have keep : ∀ {b k : Nat} {v : V} {Ha Hb : Hp}, LotsAt H n b k v Ha → Gs c cells g H Ha → Gs c cells g Ha Hb → LotsAt H n b k v Hb := by
      rintro b k v Ha Hb ⟨L, xs, ws, rfl, h0, hL, hpr, r⟩ Ga Gb
      have ne : L ≠ g := by
        rintro rfl
        obtain ⟨ys, e⟩ := hd.known
        rw [e] at h0
        cases h0
      exact ⟨L, xs, ws, rfl, h0, Gb.get ne hL, Paired.mapP hpr fun _ _ q => q.mono (Gb.kp Ga.2), r⟩
    have L7 := keep L6 G6 G67
    refine for_it walk_range (fun i σ H' => (∃ v a b, σ = [some (.ref g), some (.int (most : Int)), some (.int (n : Int)), some (.int (kd : Int)), some v, a, b, none] ∧ LotsAt H n (6 + i) i v H') ∧ Gs c cells g H H')
      ⟨⟨_, _, _, rfl, L7⟩, G7⟩ (fun _ _ _ _ _ => True.intro) ?_ ?_
    · rintro i x σ H9 H8 hi ⟨⟨v8, a, b, rfl, L8⟩, G8⟩ ⟨rfl, hx⟩
      clear L6 L7 G6 G67 G7
      have hi4 : i < 4 := by omega
      refine ⟨_, rfl, _, rfl, by omega, by omega, fun D2 hD2 => ?_⟩
      have hg2 : g ≠ D2 ∧ c ≠ D2 := G8.2.away hD2
      refine lc_it walk_range (fun j H' => Gs c cells g H8 H' ∧ ∃ lot : List Nat, H' D2 = some (.lst (nats lot)) ∧ (∀ d ∈ lot, d < j) ∧ lot.Pairwise (· < ·) ∧ lot.length ≤ j) ⟨(Gs.refl G8.2).mut G8.2 hD2, [], upd_same, by simp, by simp, Nat.le_refl _⟩ (fun _ _ _ _ => True.intro) ?_ ?_
      · rintro j y H10 H11 hj ⟨G10, lot, hl10, hlt, hasc, hle⟩ ⟨rfl, hy⟩
        have hy : y = V.int ((j : Nat) : Int) := hy.trans (congrArg V.int (by omega))
        subst hy
        refine ⟨wipe1 _ _ _, ?_⟩
        refine ⟨_, rfl, c, cells, g, 2, rfl, G10.2, by decide, by decide, fun r H12 G12 hr2 => ⟨rfl, _, rfl, ?_⟩⟩
        have hl12 := G12.get (Ne.symm hg2.1) hl10
        have G82 := G10.trans G12
        refine ite2 (fun _ => ?_) fun _ => ?_
        · refine ⟨_, rfl, _, hl12, by rw [nats_len, sizeLine_eq]; omega, G82.mut G8.2 hD2, lot ++ [j], by rw [upd_same, nats_snoc], fun z hz => ?_, asc_snoc hasc hlt, by rw [List.length_append, List.length_singleton]; omega⟩
          rcases List.mem_append.mp hz with z1 | z1
          · exact Nat.lt_succ_of_lt (hlt z z1)
          · rw [List.mem_singleton.mp z1]
            exact Nat.lt_succ_self j
        · exact ⟨G82, lot, hl12, fun z hz => Nat.lt_succ_of_lt (hlt z hz), hasc, by omega⟩
      · rintro H10 ⟨G10, lot, hl10, hlt, hasc, hle⟩
        have hlt : ∀ d ∈ lot, d < n := fun d h => by
          have := hlt d h
          omega
        have L10 := keep L8 G8 G10
        have G10' := G8.trans G10
        refine ⟨D2, _, rfl, .inl ⟨SqL.of hl10, fun t ht => ?_⟩⟩
        have S11 : Same H10 (upd H10 t (.tup (nats lot))) := Same.new ht
        have ht11 : upd H10 t (.tup (nats lot)) t = some (.tup (nats lot)) := upd_same
        generalize upd H10 t (.tup (nats lot)) = H11 at S11 ht11
        have L11 := keep L10 G10' ((Gs.refl G10'.2).same S11)
        have G11 := G10'.same S11
        obtain ⟨L, xs, ws, rfl, h0, hL, hpr, hok, hk1, hk2⟩ := L11
        have neL : L ≠ g := by
          rintro rfl
          obtain ⟨ys, e⟩ := hd.known
          rw [e] at h0
          cases h0
        have hxl := Paired.length hpr
        have add : ∀ (H12 : Hp) (t : Addr) (lot : List Nat), Gs c cells g H11 H12 → H12 t = some (.tup (nats lot)) → LotOk n lot → Gs c cells g H (upd H12 L (.lst (xs ++ [.ref t]))) ∧ LotsAt H n (6 + (i + 1)) (i + 1) (.ref L) (upd H12 L (.lst (xs ++ [.ref t]))) := by
          intro H12 t lot G12 h12 ok
          have hL12 := G12.get neL hL
          have kp2 : Kp H12 (upd H12 L (.lst (xs ++ [.ref t]))) := Kp.lst hL12
          refine ⟨(G11.trans G12).mut hd h0, L, _, ws ++ [lot], rfl, h0, upd_same, Paired.snoc (Paired.mapP hpr fun _ _ q => q.mono ((G12.kp G11.2).trans kp2)) ⟨t, rfl, kp2.1 _ _ h12⟩, fun z hz => ?_, ?_, ?_⟩
          · rcases List.mem_append.mp hz with z1 | z1
            · exact hok z z1
            · rw [List.mem_singleton.mp z1]
              exact ok
          · rw [List.length_append, List.length_singleton]; omega
          · rw [List.length_append, List.length_singleton]; omega
        refine ⟨_, rfl, .inl ⟨rfl, _, SqL.of hL⟩, _, rfl, t, _, rfl, .inr (SqT.of ht11), _, _, rfl, rfl, _, rfl, ?_⟩
        refine ite2 (fun q => ?_) fun _ => ?_
        · have q := of_decide_eq_true q
          rw [nats_len] at q
          have hne : lot ≠ [] := by
            rintro rfl
            simp at q
          obtain ⟨a1, a2⟩ := add H11 t lot (Gs.refl G11.2) ht11 ⟨hne, hlt, hasc⟩
          exact ⟨_, rfl, L, xs, _, rfl, rfl, hL, by rw [sizeLine_eq]; omega, ⟨_, _, _, rfl, a2⟩, a1⟩
        · refine ⟨_, rfl, _, rfl, c, cells, g, n, rfl, G11.2, h1, by omega, fun r2 H12 G12 hr2 => ?_⟩
          refine ⟨(by show 1 ≤ sizeLine; decide), fun t2 ht2 => ?_⟩
          have S13 : Same H12 (upd H12 t2 (.tup [.int (r2 : Int)])) := Same.new ht2
          obtain ⟨a1, a2⟩ := add (upd H12 t2 (.tup [.int (r2 : Int)])) t2 [r2] (G12.same S13) upd_same ⟨by simp, fun z hz => by rw [List.mem_singleton.mp hz]; exact hr2, by simp⟩
          exact ⟨L, xs, _, rfl, rfl, S13 _ _ (G12.get neL hL), by rw [sizeLine_eq]; omega, ⟨_, _, _, rfl, a2⟩, a1⟩
    · rintro σ H8 ⟨⟨v8, a, b, rfl, L, xs, ws, rfl, h0, hL, hpr, hok, hk1, hk2⟩, G8⟩
      refine ⟨_, rfl, _, rfl, _, rfl, L, xs, rfl, SqL.of hL, fun p hp => ⟨p, _, rfl, .inl ⟨SqL.of upd_same, fun t ht => ⟨(by show 2 ≤ sizeLine; decide), fun z hz => ?_⟩⟩⟩⟩
      have S : Same H8 (upd (upd (upd H8 p (.lst (cutV xs none (some 10)))) t (.tup (cutV xs none (some 10)))) z (.tup [.int (n : Int), .ref t])) := (Same.new hp).trans ((Same.new ht).trans (Same.new hz))
      have e10 : cutV xs none (some 10) = xs.take 10 := cut_take xs 10
      refine k _ _ n (ws.take 10) (G8.same S) ⟨z, _, rfl, upd_same, t, _, rfl, (upd_ne (ne_of_none upd_same hz)).trans upd_same, ?_⟩ ⟨h1, h6, by rw [List.length_take]; omega, by rw [List.length_take]; omega, fun lot h => (hok lot (List.mem_of_mem_take h)).1, fun lot h => (hok lot (List.mem_of_mem_take h)).2.1, fun lot h => (hok lot (List.mem_of_mem_take h)).2.2⟩
      have pr := pr_take 10 (Paired.mapP hpr fun _ _ q => q.mono S.kp)
      rw [← e10] at pr
      exact pr
/-- slots [(0, '_law_dice_here')] cells [] -/
abbrev s_law_some_parts : Stmt := (top 43)
theorem sc_law_some_parts : FnScope ["_law_dice_here"] ["_law_dice_here"] (defScope s_law_some_parts) := ⟨rfl, rfl, rfl, by decide +kernel, rfl, by decide +kernel, by decide +kernel⟩
theorem fx_law_some_parts (D : Df K mg "_law_some_parts" s_law_some_parts ["_law_dice_here"]) (T : Txt K mg) (F_law_draw : Fx P w K mg base "_law_draw" s_law_draw ["_law_dice_here", "_law_sides"] 1 sp_draw)
    (F_law_parts : Fx P w K mg base "_law_parts" s_law_parts ["_law_dice_here", "_law_most"] 2 sp_parts) : Fx P w K mg base "_law_some_parts" s_law_some_parts ["_law_dice_here"] 3 sp_some_parts := by
  refine D.ok sc_law_some_parts (fun vs H Q E h => ?_) (fun f cdv A outer s H vs Q E hr h => ?_)
  · obtain ⟨c, cells, g, rfl, _⟩ := h
    rfl
  · obtain ⟨c, cells, g, rfl, hd, k⟩ := h
    refine ⟨_, (pss_one (ps_ret (pe_fx F_law_parts (hr.mono (by decide)) (pa_cons (pv 0) (pa_cons (pe_ifExp (pt_cmpR op_eq (pe_fx F_law_draw (hr.mono (by decide)) (pa_cons (pv 0) (pa_cons pe_int pa_nil))) pe_int (nomark _)) pe_int pe_int) pa_nil))))), ?_⟩
    refine ⟨_, rfl, _, rfl, c, cells, g, 8, rfl, hd, by decide, by decide, fun r H1 G1 hr1 => ⟨rfl, _, rfl, ?_⟩⟩
    refine ite2 (fun _ => ?_) fun _ => ?_
    · exact ⟨c, cells, g, 6, rfl, G1.2, by decide, by decide, fun v H2 n ws G2 hp ok => k v H2 n ws (G1.trans G2) hp ok⟩
    · exact ⟨c, cells, g, 4, rfl, G1.2, by decide, by decide, fun v H2 n ws G2 hp ok => k v H2 n ws (G1.trans G2) hp ok⟩
/-- slots [(0, '_law_dice_here'), (1, '_law_parts_here'), (2, '_law_most'), (3, '_law_turn')] cells ['_law_dice_here', '_law_parts_here'] -/
abbrev s_law_row : Stmt := (top 44)
theorem sc_law_row : FnScope ["_law_dice_here", "_law_parts_here", "_law_most", "_law_turn"] ["_law_dice_here", "_law_parts_here", "_law_most"] (defScope s_law_row) := ⟨rfl, rfl, rfl, by decide +kernel, rfl, by decide +kernel, by decide +kernel⟩
theorem fx_law_row (D : Df K mg "_law_row" s_law_row ["_law_dice_here", "_law_parts_here", "_law_most"]) (T : Txt K mg) (F_law_draw : Fx P w K mg base "_law_draw" s_law_draw ["_law_dice_here", "_law_sides"] 1 sp_draw) :
    Fx P w K mg base "_law_row" s_law_row ["_law_dice_here", "_law_parts_here", "_law_most"] 2 sp_row := by
  refine D.ok sc_law_row (fun vs H Q E h => ?_) (fun f cdv A outer s H vs Q E hr h => ?_)
  · obtain ⟨c, cells, g, v, n, ws, most, rfl, _⟩ := h
    rfl
  · obtain ⟨c, cells, g, v, n, ws, most, rfl, hd, ⟨a, wv, rfl, ha, aw, xs, rfl, haw, hpr⟩, ook, hm, k⟩ := h
    have hxl : xs.length = ws.length := Paired.length hpr
    have w1 := ook.w1
    have w10 := ook.w10
    refine ⟨_, (pss_one (ps_ret (pe_callTy (tupleK (K := K) rfl) (by rfl) T.z_tuple bt_tuple (pa_cons (pe_lc (own := [("_law_turn", 3)]) rfl sc_law_row.nd (pi_range1 rfl T.z_range (pa_cons (pe_fx F_law_draw (hr.mono (by decide)) (pa_cons (pv 0) (pa_cons (pe_op op_add (pv 2) pe_int) pa_nil))) pa_nil)) (blkOk_by (N := ["_law_dice_here", "_law_parts_here", "_law_most", "_law_turn"]) (sc := (defScope s_law_row)) (by decide +kernel)) (fun _ _ _ _ _ => (pg_name (i := 3) sc_law_row.nd rfl (Or.inl rfl))) (fun _ _ _ _ _ => pts_nil) (fun _ _ _ _ _ => (pe_fx F_law_draw (hr.mono (by decide)) (pa_cons (pv 0) (pa_cons (pe_callB (lenK (K := K) rfl) (by rfl) T.z_len bt_len (pa_cons (pe_ix (ix_tupK (K := K) rfl) (pv 1) pe_int (fun _ _ => rfl)) pa_nil)) pa_nil))))) pa_nil)))), ?_⟩
    refine ⟨_, rfl, _, rfl, _, _, rfl, rfl, c, cells, g, most + 1, rfl, hd, by omega, by omega, fun r H1 G1 hr1 => ⟨_, rfl, by omega, by omega, fun D2 hD2 => ?_⟩⟩
    have hg2 := G1.2.away hD2
    refine lc_it walk_range (fun j H' => Gs c cells g H1 H' ∧ ∃ row : List Nat, H' D2 = some (.lst (nats row)) ∧ (∀ w ∈ row, w < ws.length) ∧ row.length = j) ⟨(Gs.refl G1.2).mut G1.2 hD2, [], upd_same, by simp, rfl⟩ (fun _ _ _ _ => True.intro) ?_ ?_
    · rintro j y H10 H11 hj ⟨G10, row, hl10, hlt, hle⟩ ⟨rfl, hy⟩
      refine ⟨wipe1 _ _ _, ?_⟩
      have kp := (G1.trans G10).kp hd
      unfold tYes
      refine iteT ?_
      refine ⟨_, rfl, _, rfl, a, _, _, _, rfl, rfl, SqT.of (kp.1 _ _ ha), atI_at (j := 1) rfl rfl, aw, _, rfl, .inr (SqT.of (kp.1 _ _ haw)), c, cells, g, xs.length, rfl, G10.2, by omega, by omega, fun r2 H12 G12 hr2 => ?_⟩
      have hl12 := G12.get (Ne.symm hg2.1) hl10
      refine ⟨_, hl12, by rw [nats_len, sizeLine_eq]; omega, (G10.trans G12).mut G1.2 hD2, row ++ [r2], by rw [upd_same, nats_snoc], fun z hz => ?_, by rw [List.length_append, List.length_singleton]; omega⟩
      rcases List.mem_append.mp hz with z1 | z1
      · exact hlt z z1
      · rw [List.mem_singleton.mp z1]
        omega
    · rintro H10 ⟨G10, row, hl10, hlt, hle⟩
      refine ⟨D2, _, rfl, .inl ⟨SqL.of hl10, fun t ht => ?_⟩⟩
      refine k _ _ row ((G1.trans G10).same (Same.new ht)) ⟨t, rfl, upd_same⟩ hlt (by omega)
/-- slots [(0, '_law_parts_here')] cells [] -/
abbrev s_law_made : Stmt := (top 42)
theorem sc_law_made : FnScope ["_law_parts_here"] ["_law_parts_here"] (defScope s_law_made) := ⟨rfl, rfl, rfl, by decide +kernel, rfl, by decide +kernel, by decide +kernel⟩
theorem fx_law_made (D : Df K mg "_law_made" s_law_made ["_law_parts_here"]) (T : Txt K mg) (F_init : Mx P w K mg base "Office" C ["self", "desks", "works"] 5 (sp_init C)) :
    Fx P w K mg base "_law_made" s_law_made ["_law_parts_here"] 7 (sp_made C) := by
  refine D.ok sc_law_made (fun vs H Q E h => ?_) (fun f cdv A outer s H vs Q E hr h => ?_)
  · obtain ⟨v, n, ws, rfl, _⟩ := h
    rfl
  · obtain ⟨v, n, ws, rfl, ⟨a, wv, rfl, ha, hW⟩, ook, k⟩ := h
    refine ⟨_, (pss_one (ps_ret (pe_mkx F_init (hr.mono (by decide)) (pa_cons (pe_ix (ix_tupK (K := K) rfl) (pv 0) pe_int (fun _ _ => rfl)) (pa_cons (pe_ix (ix_tupK (K := K) rfl) (pv 0) pe_int (fun _ _ => rfl)) pa_nil))))), ?_⟩
    refine ⟨_, rfl, a, _, _, _, rfl, rfl, SqT.of ha, atI_at (j := 0) rfl rfl, _, rfl, a, _, _, _, rfl, rfl, SqT.of ha, atI_at (j := 1) rfl rfl, fun x dx hx hdx ne => ?_⟩
    have S1 : Same H (upd (upd H dx (.own x)) x (.ins C dx [])) := fun b o e => (upd_ne (ne_of_none e hx)).trans ((upd_ne (ne_of_none e hdx)).trans e)
    refine ⟨x, dx, wv, n, ws, rfl, upd_same, hW.mono S1.kp, ook, fun H' l1 l2 h1 h2 => ⟨rfl, ?_⟩⟩
    have S2 : Same H H' := fun b o e => h1 b o (ne_of_none e hx) (S1 b o e)
    exact k _ _ S2 ⟨x, dx, wv, l1, l2, rfl, h2, hW.mono S2.kp⟩
/-- slots [(0, '_law_parts_here'), (1, '_law_one'), (2, '_law_other'), (3, '_law_desk')] cells ['_law_other', '_law_parts_here'] -/
abbrev s_law_meets : Stmt := (top 45)
theorem sc_law_meets : FnScope ["_law_parts_here", "_law_one", "_law_other", "_law_desk"] ["_law_parts_here", "_law_one", "_law_other"] (defScope s_law_meets) := ⟨rfl, rfl, rfl, by decide +kernel, rfl, by decide +kernel, by decide +kernel⟩
theorem fx_law_meets (D : Df K mg "_law_meets" s_law_meets ["_law_parts_here", "_law_one", "_law_other"]) (T : Txt K mg) :
    Fx P w K mg base "_law_meets" s_law_meets ["_law_parts_here", "_law_one", "_law_other"] 1 sp_meets := by
  refine D.ok sc_law_meets (fun vs H Q E h => ?_) (fun f cdv A outer s H vs Q E hr h => ?_)
  · obtain ⟨v, n, ws, a, b, rfl, _⟩ := h
    rfl
  · obtain ⟨v, n, ws, a, b, rfl, ⟨ap, wv, rfl, hap, aw, xs, rfl, haw, hpr⟩, ook, ha, hb, k⟩ := h
    obtain ⟨av, hav, la, rfl, hla⟩ := pr_get hpr (get_of ha [])
    obtain ⟨bv, hbv, lb, rfl, hlb⟩ := pr_get hpr (get_of hb [])
    have l6 := ook.len6 (ook.lot ha)
    generalize ws.getD a [] = A1 at hla l6 k
    generalize ws.getD b [] = B1 at hlb k
    refine ⟨_, (pss_one (ps_ret (pe_callB (anyK (K := K) rfl rfl) (by rfl) T.z_any bt_any (pa_cons (pe_lc (own := [("_law_desk", 3)]) rfl sc_law_meets.nd (pi_tupK (K := K) rfl (pe_ix (ix_tupK (K := K) rfl) (pe_ix (ix_tupK (K := K) rfl) (pv 0) pe_int (fun _ _ => rfl)) (pv 1) (fun _ _ => rfl))) (blkOk_by (N := ["_law_parts_here", "_law_one", "_law_other", "_law_desk"]) (sc := (defScope s_law_meets)) (by decide +kernel)) (fun _ _ _ _ _ => (pg_name (i := 3) sc_law_meets.nd rfl (Or.inl rfl))) (fun _ _ _ _ _ => pts_nil) (fun _ _ _ _ _ => (pe_cmpR (inK (K := K) rfl) (pv 3) (pe_ix (ix_tupK (K := K) rfl) (pe_ix (ix_tupK (K := K) rfl) (pv 0) pe_int (fun _ _ => rfl)) (pv 2) (fun _ _ => rfl)) (by rfl)))) pa_nil)))), ?_⟩
    refine ⟨_, rfl, ap, _, _, _, rfl, rfl, SqT.of hap, atI_at (j := 1) rfl rfl, _, rfl, aw, _, _, _, rfl, rfl, SqT.of haw, atI_nat hav, la, rfl, ⟨_, SqT.of hla⟩, fun D2 hD2 => ?_⟩
    refine lc_one (walk_tup (xs := nats A1)) (P := fun i y _ => y = V.bl (decide (A1.getD i 0 ∈ B1))) hD2 (by rw [nats_len]; omega) (fun H' s' => SqT.of (s' _ _ hla)) (fun _ _ _ _ _ h => h) ?_ ?_
    · rintro i x H1 H2 Nx hi sH ⟨rfl, hx⟩ kN
      obtain ⟨d, hd, rfl⟩ := nats_get hx
      refine ⟨_, rfl, _, rfl, ap, _, _, _, rfl, rfl, SqT.of (sH _ _ hap), atI_at (j := 1) rfl rfl, _, rfl, aw, _, _, _, rfl, rfl, SqT.of (sH _ _ haw), atI_nat hbv, ?_⟩
      refine rd_in (sH _ _ hlb) (kN _ _ (Same.refl _) ?_)
      rw [getD_eq hd]
    · intro acc H1 s1 hD1 hl hP
      refine ⟨D2, _, rfl, SqL.of (by rw [hD1, bools_of (f := fun i => decide (A1.getD i 0 ∈ B1)) hl hP]), k _ _ s1 ⟨_, rfl, fun q => ?_⟩⟩
      intro d hd1 hd2
      obtain ⟨i, hi⟩ := List.mem_iff_getElem?.mp hd1
      have hil := (List.getElem?_eq_some_iff.mp hi).1
      have z := any_of (acc := []) q i (by rw [nats_len]; exact hil)
      rw [getD_eq hi] at z
      exact (of_decide_eq_false z) hd2
end
end K31
/-! K31F3: the law's comparing, its ledger, its least label. -/
namespace K31
open PySem PySem.Spec PyProof.Rows L2
def sp_whole : Sp := fun vs H Q _ => ∃ a b : Int, vs = [.int a, .int b] ∧ Q (.bl (decide (a = b))) H
def sp_none : Sp := fun _ _ _ _ => False
def sp_same_i : Sp := fun vs H Q _ => ∃ a b : Int, vs = [.int a, .int b] ∧ Ret H Q fun v _ => v = .bl (decide (a = b))
def sp_same_n : Sp := fun vs H Q _ => ∃ p q a b, vs = [.ref p, .ref q] ∧ H p = some (.tup [.int a, .int b]) ∧ H q = some (.tup [.int a, .int b]) ∧ Ret H Q fun v _ => v = .bl true
def LedAt (H : Hp) (v : V) (n : Nat) (ws : List (List Nat)) (row : List Nat) : Prop := ∃ a fs, v = .ref a ∧ H a = some (.lst fs) ∧ fs.length = row.length + 1 ∧ ∀ k, k ≤ row.length → ∃ y, fs[k]? = some y ∧ StAt H y (run n ws (row.take k))
theorem LedAt.mono {H H' : Hp} {v : V} {n : Nat} {ws : List (List Nat)} {row : List Nat} (h : LedAt H v n ws row) (s : Same H H') : LedAt H' v n ws row := by
  obtain ⟨a, fs, e, ha, hl, hk⟩ := h
  refine ⟨a, fs, e, s _ _ ha, hl, fun k hk' => ?_⟩
  obtain ⟨y, h1, h2⟩ := hk k hk'
  exact ⟨y, h1, StAt.mono s.kp h2⟩
def sp_led (C : Addr) : Sp := fun vs H Q _ => ∃ o v r n ws row, vs = [o, v, r] ∧ OfficeAt C H o n ws ∧ PartsAt H v n ws ∧ OffOk n ws ∧ LotAt H r row ∧ (∀ w ∈ row, w < ws.length) ∧ row.length ≤ 100 ∧
  Ret H Q fun v' H' => LedAt H' v' n ws row
def sp_least_label : Sp := fun vs H Q _ => ∃ L xs sl a n m, vs = [.int ((a : Nat) : Int), .ref L] ∧ H L = some (.lst xs) ∧ Paired (SlipAt H) xs sl ∧ (∀ s ∈ sl, SlipOk n m s) ∧ sl.length ≤ 6 ∧ n ≤ 6 ∧ a < m ∧ m ≤ 10 ∧
  Ret H Q fun v _ => v = .int ((lbl (namesOf sl) a : Nat) : Int)
theorem k_itl {K : PySem.W.Frag} : PySem.W.kitAny K (.type "int") [.type "tuple", .type "list"] = some false := kitAny_cons (kit_ty k_it) (fun _ => kitAny_cons (kit_ty k_il) (fun _ => rfl) (fun e => by cases e)) (fun e => by cases e)
theorem k_ttl {K : PySem.W.Frag} : PySem.W.kitAny K (.type "tuple") [.type "tuple", .type "list"] = some true := kitAny_cons (kit_ty k_tt) (fun e => by cases e) (fun _ => rfl)
/-- the dict of names, none among them -/
def UsedN (H : Hp) (du : Addr) (ns : List Nm) (c : Nat) : Prop := ∃ ks, H du = some (NmD du ks) ∧ NGood H ks ∧ (∀ x, x ∈ ks.map (·.1) ↔ x ∈ ns) ∧ ks.length ≤ c
theorem mem_putN {ks : List (Nm × Addr)} {x y : Nm} {a : Addr} : y ∈ (putN ks x a).map (·.1) ↔ y ∈ ks.map (·.1) ∨ y = x := by
  unfold putN
  by_cases h : x ∈ ks.map (·.1)
  · rw [if_pos h]
    exact ⟨.inl, fun q => q.elim id fun e => e ▸ h⟩
  · rw [if_neg h, List.map_append, List.mem_append]
    show _ ∨ y ∈ [x] ↔ _
    rw [List.mem_singleton]
theorem len_putN {ks : List (Nm × Addr)} {x : Nm} {a : Addr} : (putN ks x a).length ≤ ks.length + 1 := by
  unfold putN
  split
  · omega
  · rw [List.length_append, List.length_singleton]
    omega
theorem UsedN.same {H H' : Hp} {du : Addr} {ns : List Nm} {c : Nat} (h : UsedN H du ns c) (s : Same H H') : UsedN H' du ns c := by
  obtain ⟨ks, h1, h2, h3, h4⟩ := h
  exact ⟨ks, s _ _ h1, h2.keep s.kp.1, h3, h4⟩
section
variable {P : Program} {w : World} {K : PySem.W.Frag} {mg : Str → Option Value} {base : Heap} {C : Addr}
/-- slots [(0, '_law_shown'), (1, '_law_due')] cells [] -/
abbrev s_law_whole : Stmt := (top 46)
theorem sc_law_whole : FnScope ["_law_shown", "_law_due"] ["_law_shown", "_law_due"] (defScope s_law_whole) := ⟨rfl, rfl, rfl, by decide +kernel, rfl, by decide +kernel, by decide +kernel⟩
theorem fx_law_whole (D : Df K mg "_law_whole" s_law_whole ["_law_shown", "_law_due"]) (T : Txt K mg) : Fx P w K mg base "_law_whole" s_law_whole ["_law_shown", "_law_due"] 1 sp_whole := by
  refine D.ok sc_law_whole (fun vs H Q E h => ?_) (fun f cdv A outer s H vs Q E hr h => ?_)
  · obtain ⟨a, b, rfl, _⟩ := h
    rfl
  · obtain ⟨a, b, rfl, k⟩ := h
    refine ⟨_, (pss_cons (ps_if (pt_cmpR op_isN (pv 1) pe_non (nomark _)) (pss_one (ps_ret (pe_cmpR op_isN (pv 0) pe_non (nomark _)))) pss_nil)
        (pss_one (ps_ret (pe_and (pe_callB (isiK (K := K) rfl) (by rfl) T.z_isinstance bt_isinstance (pa_cons (pv 0) (pa_cons (pe_bltn (v := .ty "int") (by rfl) T.z_int bt_int rfl) pa_nil))) (pe_and (pe_not (pe_callB (isiK (K := K) rfl) (by rfl) T.z_isinstance bt_isinstance (pa_cons (pv 0) (pa_cons (pe_bltn (v := .ty "bool") (by rfl) T.z_bool bt_bool rfl) pa_nil)))) (pe_one (pe_cmpR op_eq (pv 0) (pv 1) (nomark _)))))))), ?_⟩
    refine ⟨_, rfl, rfl, false, rfl, iteF ?_⟩
    refine ⟨_, rfl, _, _, _, _, true, rfl, .ty _, .base (.int _), kit_ty k_ii, true, rfl, iteT ?_⟩
    refine ⟨_, rfl, _, _, _, _, false, rfl, .ty _, .base (.int _), kit_ty k_ib, false, rfl, true, rfl, iteT ?_⟩
    refine ⟨_, rfl, _, rfl, rfl, ?_⟩
    have e : decide (V.int a = V.int b) = decide (a = b) := by
      by_cases q : a = b
      · rw [q]; simp
      · rw [decide_eq_false q]
        exact decide_eq_false fun z => q (V.int.inj z)
    rw [e]
    exact k
/-- slots [(0, '_law_shown'), (1, '_law_due'), (2, '_law_at')] cells ['_law_due', '_law_shown'] -/
abbrev s_law_same : Stmt := (top 47)
theorem sc_law_same : FnScope ["_law_shown", "_law_due", "_law_at"] ["_law_shown", "_law_due"] (defScope s_law_same) := ⟨rfl, rfl, rfl, by decide +kernel, rfl, by decide +kernel, by decide +kernel⟩
theorem fx_law_same_0 (D : Df K mg "_law_same" s_law_same ["_law_shown", "_law_due"]) : Fx P w K mg base "_law_same" s_law_same ["_law_shown", "_law_due"] 0 sp_none :=
  D.fx fun f fd F => ⟨fun _ _ _ _ h => h.elim, fun _ _ _ _ _ _ _ _ _ _ _ _ _ h => h.elim⟩
theorem fx_law_same_i (D : Df K mg "_law_same" s_law_same ["_law_shown", "_law_due"]) (T : Txt K mg) (F_law_whole : Fx P w K mg base "_law_whole" s_law_whole ["_law_shown", "_law_due"] 1 sp_whole) :
    Fx P w K mg base "_law_same" s_law_same ["_law_shown", "_law_due"] 2 sp_same_i := by
  have F_law_same : Fx P w K mg base "_law_same" s_law_same ["_law_shown", "_law_due"] 0 sp_none := fx_law_same_0 D
  refine D.ok sc_law_same (fun vs H Q E h => ?_) (fun f cdv A outer s H vs Q E hr h => ?_)
  · obtain ⟨a, b, rfl, _⟩ := h
    rfl
  · obtain ⟨a, b, rfl, k⟩ := h
    refine ⟨_, (pss_cons (ps_if (pt_val (pe_callB (isiTK (K := K) rfl) (by rfl) T.z_isinstance bt_isinstance (pa_cons (pv 1) (pa_cons (pe_tup (pa_cons (pe_bltn (v := .ty "tuple") (by rfl) T.z_tuple bt_tuple rfl) (pa_cons (pe_bltn (v := .ty "list") (by rfl) T.z_list bt_list rfl) pa_nil))) pa_nil)))) (pss_cons (ps_if (PW.pt (pw_or (PW.pt (pw_and (pt_not (pt_val (pe_callB (isiK (K := K) rfl) (by rfl) T.z_isinstance bt_isinstance (pa_cons (pv 0) (pa_cons (pe_bltn (v := .ty "tuple") (by rfl) T.z_tuple bt_tuple rfl) pa_nil))))) (pw_and1 (pt_val (pe_callB (isiK (K := K) rfl) (by rfl) T.z_isinstance bt_isinstance (pa_cons (pv 1) (pa_cons (pe_bltn (v := .ty "tuple") (by rfl) T.z_tuple bt_tuple rfl) pa_nil))))))) (pw_or1 (PW.pt (pw_and (pt_not (pt_val (pe_callB (isiK (K := K) rfl) (by rfl) T.z_isinstance bt_isinstance (pa_cons (pv 0) (pa_cons (pe_bltn (v := .ty "list") (by rfl) T.z_list bt_list rfl) pa_nil))))) (pw_and1 (pt_val (pe_callB (isiK (K := K) rfl) (by rfl) T.z_isinstance bt_isinstance (pa_cons (pv 1) (pa_cons (pe_bltn (v := .ty "list") (by rfl) T.z_list bt_list rfl) pa_nil)))))))))) (pss_one (ps_ret pe_bl)) pss_nil)
        (pss_one (ps_ret (pe_and (pe_cmpR op_eq (pe_callB (lenK (K := K) rfl) (by rfl) T.z_len bt_len (pa_cons (pv 0) pa_nil)) (pe_callB (lenK (K := K) rfl) (by rfl) T.z_len bt_len (pa_cons (pv 1) pa_nil)) (nomark _)) (pe_one (pe_callB (allK (K := K) rfl rfl) (by rfl) T.z_all bt_all (pa_cons (pe_lc (own := [("_law_at", 2)]) rfl sc_law_same.nd (pi_range1 rfl T.z_range (pa_cons (pe_callB (lenK (K := K) rfl) (by rfl) T.z_len bt_len (pa_cons (pv 1) pa_nil)) pa_nil)) (blkOk_by (N := ["_law_shown", "_law_due", "_law_at"]) (sc := (defScope s_law_same)) (by decide +kernel)) (fun _ _ _ _ _ => (pg_name (i := 2) sc_law_same.nd rfl (Or.inl rfl))) (fun _ _ _ _ _ => pts_nil) (fun _ _ _ _ _ => (pe_fx F_law_same (hr.mono (by decide)) (pa_cons (pe_ix (ix_tupK (K := K) rfl) (pv 0) (pv 2) (fun _ _ => rfl)) (pa_cons (pe_ix (ix_tupK (K := K) rfl) (pv 1) (pv 2) (fun _ _ => rfl)) pa_nil))))) pa_nil))))))) pss_nil)
        (pss_cons (ps_if (PW.pt (pw_or (pt_val (pe_callB (isiK (K := K) rfl) (by rfl) T.z_isinstance bt_isinstance (pa_cons (pv 1) (pa_cons (pe_bltn (v := .ty "bool") (by rfl) T.z_bool bt_bool rfl) pa_nil)))) (pw_or1 (pt_val (pe_callB (isiK (K := K) rfl) (by rfl) T.z_isinstance bt_isinstance (pa_cons (pv 1) (pa_cons (pe_bltn (v := .ty "str") (by rfl) T.z_str bt_str rfl) pa_nil))))))) (pss_one (ps_ret (pe_and (pe_callB (isiTK (K := K) rfl) (by rfl) T.z_isinstance bt_isinstance (pa_cons (pv 0) (pa_cons (pe_tup (pa_cons (pe_bltn (v := .ty "bool") (by rfl) T.z_bool bt_bool rfl) (pa_cons (pe_bltn (v := .ty "str") (by rfl) T.z_str bt_str rfl) pa_nil))) pa_nil))) (pe_and (pe_cmpR op_eq (pe_callB (isiK (K := K) rfl) (by rfl) T.z_isinstance bt_isinstance (pa_cons (pv 0) (pa_cons (pe_bltn (v := .ty "bool") (by rfl) T.z_bool bt_bool rfl) pa_nil))) (pe_callB (isiK (K := K) rfl) (by rfl) T.z_isinstance bt_isinstance (pa_cons (pv 1) (pa_cons (pe_bltn (v := .ty "bool") (by rfl) T.z_bool bt_bool rfl) pa_nil))) (nomark _)) (pe_one (pe_cmpR op_eq (pv 0) (pv 1) (nomark _))))))) pss_nil)
        (pss_one (ps_ret (pe_fx F_law_whole (hr.mono (by decide)) (pa_cons (pv 0) (pa_cons (pv 1) pa_nil))))))), ?_⟩
    refine ⟨_, rfl, (by show 2 ≤ sizeLine; decide), fun tp htp => ?_⟩
    refine ⟨_, tp, _, _, _, false, rfl, upd_same, .cons (.ty _) (.cons (.ty _) .nil), .base (.int _), k_itl, false, rfl, iteF ?_⟩
    refine ⟨_, rfl, _, _, _, _, false, rfl, .ty _, .base (.int _), kit_ty k_ib, false, rfl, iteF ?_⟩
    refine ⟨_, rfl, _, _, _, _, false, rfl, .ty _, .base (.int _), kit_ty k_is, false, rfl, iteF ?_⟩
    exact ⟨_, rfl, _, rfl, a, b, rfl, k _ _ (Same.new htp) rfl⟩
theorem fx_law_same_n (D : Df K mg "_law_same" s_law_same ["_law_shown", "_law_due"]) (T : Txt K mg) (F_law_whole : Fx P w K mg base "_law_whole" s_law_whole ["_law_shown", "_law_due"] 1 sp_whole) :
    Fx P w K mg base "_law_same" s_law_same ["_law_shown", "_law_due"] 3 sp_same_n := by
  have F_law_same : Fx P w K mg base "_law_same" s_law_same ["_law_shown", "_law_due"] 2 sp_same_i := fx_law_same_i D T F_law_whole
  refine D.ok sc_law_same (fun vs H Q E h => ?_) (fun f cdv A outer s H vs Q E hr h => ?_)
  · obtain ⟨p, q, a, b, rfl, _⟩ := h
    rfl
  · obtain ⟨p, q, a, b, rfl, hp, hq, k⟩ := h
    refine ⟨_, (pss_cons (ps_if (pt_val (pe_callB (isiTK (K := K) rfl) (by rfl) T.z_isinstance bt_isinstance (pa_cons (pv 1) (pa_cons (pe_tup (pa_cons (pe_bltn (v := .ty "tuple") (by rfl) T.z_tuple bt_tuple rfl) (pa_cons (pe_bltn (v := .ty "list") (by rfl) T.z_list bt_list rfl) pa_nil))) pa_nil)))) (pss_cons (ps_if (PW.pt (pw_or (PW.pt (pw_and (pt_not (pt_val (pe_callB (isiK (K := K) rfl) (by rfl) T.z_isinstance bt_isinstance (pa_cons (pv 0) (pa_cons (pe_bltn (v := .ty "tuple") (by rfl) T.z_tuple bt_tuple rfl) pa_nil))))) (pw_and1 (pt_val (pe_callB (isiK (K := K) rfl) (by rfl) T.z_isinstance bt_isinstance (pa_cons (pv 1) (pa_cons (pe_bltn (v := .ty "tuple") (by rfl) T.z_tuple bt_tuple rfl) pa_nil))))))) (pw_or1 (PW.pt (pw_and (pt_not (pt_val (pe_callB (isiK (K := K) rfl) (by rfl) T.z_isinstance bt_isinstance (pa_cons (pv 0) (pa_cons (pe_bltn (v := .ty "list") (by rfl) T.z_list bt_list rfl) pa_nil))))) (pw_and1 (pt_val (pe_callB (isiK (K := K) rfl) (by rfl) T.z_isinstance bt_isinstance (pa_cons (pv 1) (pa_cons (pe_bltn (v := .ty "list") (by rfl) T.z_list bt_list rfl) pa_nil)))))))))) (pss_one (ps_ret pe_bl)) pss_nil)
        (pss_one (ps_ret (pe_and (pe_cmpR op_eq (pe_callB (lenK (K := K) rfl) (by rfl) T.z_len bt_len (pa_cons (pv 0) pa_nil)) (pe_callB (lenK (K := K) rfl) (by rfl) T.z_len bt_len (pa_cons (pv 1) pa_nil)) (nomark _)) (pe_one (pe_callB (allK (K := K) rfl rfl) (by rfl) T.z_all bt_all (pa_cons (pe_lc (own := [("_law_at", 2)]) rfl sc_law_same.nd (pi_range1 rfl T.z_range (pa_cons (pe_callB (lenK (K := K) rfl) (by rfl) T.z_len bt_len (pa_cons (pv 1) pa_nil)) pa_nil)) (blkOk_by (N := ["_law_shown", "_law_due", "_law_at"]) (sc := (defScope s_law_same)) (by decide +kernel)) (fun _ _ _ _ _ => (pg_name (i := 2) sc_law_same.nd rfl (Or.inl rfl))) (fun _ _ _ _ _ => pts_nil) (fun _ _ _ _ _ => (pe_fx F_law_same (hr.mono (by decide)) (pa_cons (pe_ix (ix_tupK (K := K) rfl) (pv 0) (pv 2) (fun _ _ => rfl)) (pa_cons (pe_ix (ix_tupK (K := K) rfl) (pv 1) (pv 2) (fun _ _ => rfl)) pa_nil))))) pa_nil))))))) pss_nil)
        (pss_cons (ps_if (PW.pt (pw_or (pt_val (pe_callB (isiK (K := K) rfl) (by rfl) T.z_isinstance bt_isinstance (pa_cons (pv 1) (pa_cons (pe_bltn (v := .ty "bool") (by rfl) T.z_bool bt_bool rfl) pa_nil)))) (pw_or1 (pt_val (pe_callB (isiK (K := K) rfl) (by rfl) T.z_isinstance bt_isinstance (pa_cons (pv 1) (pa_cons (pe_bltn (v := .ty "str") (by rfl) T.z_str bt_str rfl) pa_nil))))))) (pss_one (ps_ret (pe_and (pe_callB (isiTK (K := K) rfl) (by rfl) T.z_isinstance bt_isinstance (pa_cons (pv 0) (pa_cons (pe_tup (pa_cons (pe_bltn (v := .ty "bool") (by rfl) T.z_bool bt_bool rfl) (pa_cons (pe_bltn (v := .ty "str") (by rfl) T.z_str bt_str rfl) pa_nil))) pa_nil))) (pe_and (pe_cmpR op_eq (pe_callB (isiK (K := K) rfl) (by rfl) T.z_isinstance bt_isinstance (pa_cons (pv 0) (pa_cons (pe_bltn (v := .ty "bool") (by rfl) T.z_bool bt_bool rfl) pa_nil))) (pe_callB (isiK (K := K) rfl) (by rfl) T.z_isinstance bt_isinstance (pa_cons (pv 1) (pa_cons (pe_bltn (v := .ty "bool") (by rfl) T.z_bool bt_bool rfl) pa_nil))) (nomark _)) (pe_one (pe_cmpR op_eq (pv 0) (pv 1) (nomark _))))))) pss_nil)
        (pss_one (ps_ret (pe_fx F_law_whole (hr.mono (by decide)) (pa_cons (pv 0) (pa_cons (pv 1) pa_nil))))))), ?_⟩
    refine ⟨_, rfl, (by show 2 ≤ sizeLine; decide), fun tp htp => ?_⟩
    have S1 : Same H (upd H tp (.tup [.ty "tuple", .ty "list"])) := Same.new htp
    have hp1 := S1 _ _ hp
    have hq1 := S1 _ _ hq
    refine ⟨_, tp, _, _, _, true, rfl, upd_same, .cons (.ty _) (.cons (.ty _) .nil), .base (.tup hq1), k_ttl, true, rfl, iteT ?_⟩
    refine ⟨_, rfl, _, _, _, _, true, rfl, .ty _, .base (.tup hp1), kit_ty k_tt, true, rfl, iteF (iteF ?_)⟩
    refine ⟨_, rfl, _, _, _, _, false, rfl, .ty _, .base (.tup hp1), kit_ty k_tl, false, rfl, iteT ?_⟩
    refine ⟨_, rfl, _, _, _, _, false, rfl, .ty _, .base (.tup hq1), kit_ty k_tl, false, rfl, iteF ?_⟩
    refine ⟨_, rfl, p, _, rfl, .inr (SqT.of hp1), _, rfl, q, _, rfl, .inr (SqT.of hq1), rfl, true, congrArg V.bl (dec_ints rfl), iteT ?_⟩
    refine ⟨_, rfl, q, _, rfl, .inr (SqT.of hq1), _, rfl, (by show (-(2 ^ 62) : Int) ≤ 2; decide), (by show (2 : Int) < 2 ^ 62; decide), fun D2 hD2 => ?_⟩
    refine lc_one walk_range (P := fun _ y _ => y = V.bl true) hD2 (by show 2 ≤ 10000; decide) (fun _ _ => True.intro) (fun _ _ _ _ _ h => h) ?_ ?_
    · rintro i x H2 H3 Nx hi sH ⟨rfl, hx⟩ kN
      have hx : x = V.int ((i : Nat) : Int) := hx.trans (congrArg V.int (by omega))
      subst hx
      have hi2 : i < 2 := hi
      obtain ⟨z, hz⟩ : ∃ z, [V.int a, V.int b][i]? = some (V.int z) := by
        match i, hi2 with
        | 0, _ => exact ⟨a, rfl⟩
        | 1, _ => exact ⟨b, rfl⟩
      refine ⟨_, rfl, _, rfl, p, _, _, _, rfl, rfl, SqT.of (sH _ _ hp1), atI_nat hz, _, rfl, _, rfl, q, _, _, _, rfl, rfl, SqT.of (sH _ _ hq1), atI_nat hz, z, z, rfl, fun v H4 S4 e => kN _ _ S4 ?_⟩
      rw [e, decide_eq_true rfl]
    · intro acc H2 s2 hD3 hl hP
      refine ⟨D2, _, rfl, SqL.of (by rw [hD3, bools_of (f := fun _ => true) hl hP]), ?_⟩
      rw [all_true]
      exact k _ _ (S1.trans s2) rfl
/-- slots [(0, '_law_work'), (1, '_law_slips'), (2, '_law_used'), (3, '_law_held'), (4, '_law_label'), (5, '_law_rows'), (6, '_law_line'), (7, '_law_name')] cells [] -/
abbrev s_law_least_label : Stmt := (top 49)
theorem sc_law_least_label : FnScope ["_law_work", "_law_slips", "_law_used", "_law_held", "_law_label", "_law_rows", "_law_line", "_law_name"] ["_law_work", "_law_slips"] (defScope s_law_least_label) := ⟨rfl, rfl, rfl, by decide +kernel, rfl, by decide +kernel, by decide +kernel⟩
theorem fx_law_least_label (D : Df K mg "_law_least_label" s_law_least_label ["_law_work", "_law_slips"]) (T : Txt K mg) : Fx P w K mg base "_law_least_label" s_law_least_label ["_law_work", "_law_slips"] 1 sp_least_label := by
  refine D.ok sc_law_least_label (fun vs H Q E h => ?_) (fun f cdv A outer s H vs Q E hr h => ?_)
  · obtain ⟨L, xs, sl, a, n, m, rfl, _⟩ := h
    rfl
  · obtain ⟨L, xs, sl, a, n, m, rfl, hL, hp, ok, hl6, h6, ha, hm10, k⟩ := h
    have hu1 := hr1 hr
    have hxl : xs.length = sl.length := Paired.length hp
    refine ⟨_, (pss_cons (ps_set (i := 2) sc_law_least_label.nd rfl (Or.inl rfl) pe_dnewN)
        (pss_cons (ps_for PassesOwn.never rfl (pi_listK (K := K) rfl (pv 1)) (pg_name (i := 3) sc_law_least_label.nd rfl (Or.inl rfl)) (pss_one (ps_for PassesOwn.never rfl (pi_tupK (K := K) rfl (pe_ix (ix_tupK (K := K) rfl) (pv 3) pe_int (fun _ _ => rfl))) (pg_name (i := 5) sc_law_least_label.nd rfl (Or.inl rfl)) (pss_one (ps_for PassesOwn.never rfl (pi_tupK (K := K) rfl (pv 5)) (pg_name (i := 6) sc_law_least_label.nd rfl (Or.inl rfl)) (pss_one (ps_for PassesOwn.never rfl (pi_tupK (K := K) rfl (pv 6)) (pg_name (i := 7) sc_law_least_label.nd rfl (Or.inl rfl)) (pss_one (ps_asg pe_bl (pg_sub (pv 2) (pv 7) (set_nm hu1)))))))))))
        (pss_cons (ps_set (i := 4) sc_law_least_label.nd rfl (Or.inl rfl) pe_int)
        (pss_cons (ps_while PassesOwn.never (pt_cmpR (op_inNm hu1) (pe_tup (pa_cons (pv 0) (pa_cons (pv 4) pa_nil))) (pv 2) (by rfl)) (pss_one (ps_set (i := 4) sc_law_least_label.nd rfl (Or.inl rfl) (pe_op op_add (pv 4) pe_int))))
        (pss_one (ps_ret (pv 4))))))), ?_⟩
    intro du hdu
    have names1296 : (namesOf sl).length ≤ 1296 := names_len ok h6 hl6
    refine ⟨_, rfl, L, rfl, ⟨_, SqL.of (Same.new hdu _ _ hL)⟩, ?_⟩
    refine for_it (walk_list (xs := xs)) (fun i σ H' => (∃ x y z u, σ = [some (.int (a : Int)), some (.ref L), some (.ref du), x, none, y, z, u]) ∧ Same H H' ∧ UsedN H' du (namesOf (sl.take i)) (i * 216))
      ⟨⟨_, _, _, _, rfl⟩, Same.new hdu, [], upd_same, ⟨(fun p hp => by cases hp), List.nodup_nil⟩, fun key => by simp [namesOf], Nat.le_refl _⟩ (fun i σ H' _ q => SqL.of (q.2.1 _ _ hL)) ?_ ?_
    · rintro i x σ H1 H2 hi ⟨⟨x0, y0, z0, u0, rfl⟩, S1, U1⟩ ⟨rfl, hx⟩
      obtain ⟨s1, hs1, hat⟩ := pr_got hp hx
      have ok1 := ok s1 (List.mem_of_getElem? hs1)
      obtain ⟨a1, v1, v2, v3, rfl, ha1, _, _, ⟨ac, cs, rfl, hac, hc⟩⟩ := hat
      refine ⟨_, rfl, a1, _, _, _, rfl, rfl, SqT.of (S1 _ _ ha1), atI_at (j := 2) rfl rfl, ac, rfl, ⟨_, SqT.of (S1 _ _ hac)⟩, ?_⟩
      have et : namesOf (sl.take (i + 1)) = namesOf (sl.take i) ++ namesOf1 s1 := by
        unfold namesOf
        rw [take_succ_some hs1, List.map_append, List.flatten_append]
        simp
      rw [et]
      have hcl : cs.length = s1.t.length := Paired.length hc
      refine for_it (walk_tup (xs := cs)) (fun j σ H' => (∃ x y z u, σ = [some (.int (a : Int)), some (.ref L), some (.ref du), x, none, y, z, u]) ∧ Same H H' ∧ UsedN H' du (namesOf (sl.take i) ++ ((s1.t.take j).map List.flatten).flatten) (i * 216 + j * 36))
        ⟨⟨_, _, _, _, rfl⟩, S1, by simpa using U1⟩ (fun j σ H' _ q => SqT.of (q.2.1 _ _ hac)) ?_ ?_
      · rintro j x σ H3 H4 hj ⟨⟨x1, y1, z1, u1, rfl⟩, S3, U3⟩ ⟨rfl, hx⟩
        obtain ⟨mt, hmt, ⟨am, ms, rfl, ham, hm⟩⟩ := pr_got hc hx
        refine ⟨_, rfl, am, rfl, ⟨_, SqT.of (S3 _ _ ham)⟩, ?_⟩
        have et2 : ((s1.t.take (j + 1)).map List.flatten).flatten = ((s1.t.take j).map List.flatten).flatten ++ mt.flatten := by
          rw [take_succ_some hmt, List.map_append, List.flatten_append]
          simp
        rw [et2, ← List.append_assoc]
        generalize namesOf (sl.take i) ++ ((s1.t.take j).map List.flatten).flatten = ns at U3 ⊢
        have hml : ms.length = mt.length := Paired.length hm
        have okm : MatOk n m mt := ok1.tO.2 mt (List.mem_of_getElem? hmt)
        refine for_it (walk_tup (xs := ms)) (fun k σ H' => (∃ x y z u, σ = [some (.int (a : Int)), some (.ref L), some (.ref du), x, none, y, z, u]) ∧ Same H H' ∧ UsedN H' du (ns ++ (mt.take k).flatten) (i * 216 + j * 36 + k * 6))
          ⟨⟨_, _, _, _, rfl⟩, S3, by simpa using U3⟩ (fun j σ H' _ q => SqT.of (q.2.1 _ _ ham)) ?_ ?_
        · rintro r x σ H5 H6 hr5 ⟨⟨x2, y2, z2, u2, rfl⟩, S5, U5⟩ ⟨rfl, hx⟩
          obtain ⟨row, hrow, ⟨ar, rs, rfl, har, hrr⟩⟩ := pr_got hm hx
          have okr : RowOk n m row := okm.2 row (List.mem_of_getElem? hrow)
          have hrl : rs.length = row.length := Paired.length hrr
          refine ⟨_, rfl, ar, rfl, ⟨_, SqT.of (S5 _ _ har)⟩, ?_⟩
          have et3 : (mt.take (r + 1)).flatten = (mt.take r).flatten ++ row := by
            rw [take_succ_some hrow, List.flatten_append]
            simp
          rw [et3, ← List.append_assoc]
          generalize ns ++ (mt.take r).flatten = ms2 at U5 ⊢
          refine for_it (walk_tup (xs := rs)) (fun q σ H' => (∃ x y z u, σ = [some (.int (a : Int)), some (.ref L), some (.ref du), x, none, y, z, u]) ∧ Same H H' ∧ UsedN H' du (ms2 ++ row.take q) (i * 216 + j * 36 + r * 6 + q))
            ⟨⟨_, _, _, _, rfl⟩, S5, by simpa using U5⟩ (fun j σ H' _ q => SqT.of (q.2.1 _ _ har)) ?_ ?_
          · rintro q x σ H8 H7 hq ⟨⟨x3, y3, z3, u3, rfl⟩, S7, ks, hks, good, hmem, hle⟩ ⟨rfl, hx⟩
            obtain ⟨nm, hnm, hat⟩ := pr_got hrr hx
            have inr : InR nm := (okr.2 _ (List.mem_of_getElem? hnm)).inR hm10
            have hat7 := hat.mono S7.kp
            have b1 := okr.1
            have b2 := okm.1
            have b3 := ok1.tO.1
            refine ⟨_, rfl, _, rfl, du, ks, nm, rfl, hat7, inr, rfl, hks, good, by rw [sizeLine_eq]; omega, ⟨_, _, _, _, rfl⟩, S7.mut hdu, _, upd_same, (good.put inr hat7).keep (Kp.nmD hks).1, fun y => ?_, ?_⟩
            · rw [mem_putN, hmem, take_succ_some hnm, ← List.append_assoc, List.mem_append (s := ms2 ++ row.take q), List.mem_singleton]
            · have := len_putN (ks := ks) (x := nm) (a := adr x)
              omega
          · rintro σ H7 ⟨⟨x3, y3, z3, u3, rfl⟩, S7, U7⟩
            rw [hrl, List.take_length] at U7
            obtain ⟨ks, u1, u2, u3, u4⟩ := U7
            have := okr.1
            exact ⟨⟨_, _, _, _, rfl⟩, S7, ks, u1, u2, u3, by omega⟩
        · rintro σ H5 ⟨⟨x2, y2, z2, u2, rfl⟩, S5, U5⟩
          rw [hml, List.take_length] at U5
          obtain ⟨kvs, u1, u2, u3, u4⟩ := U5
          have := okm.1
          exact ⟨⟨_, _, _, _, rfl⟩, S5, kvs, u1, u2, u3, by omega⟩
      · rintro σ H3 ⟨⟨x1, y1, z1, u1, rfl⟩, S3, U3⟩
        rw [hcl, List.take_length] at U3
        obtain ⟨kvs, u1, u2, u3, u4⟩ := U3
        have := ok1.tO.1
        exact ⟨⟨_, _, _, _, rfl⟩, S3, kvs, u1, u2, u3, by omega⟩
    · rintro σ H1 ⟨⟨x0, y0, z0, u0, rfl⟩, S1, U1⟩
      rw [hxl, List.take_length] at U1
      refine ⟨fun mm σ H' => ∃ l, mm = lbl (namesOf sl) a - l ∧ l ≤ lbl (namesOf sl) a ∧ σ = [some (.int (a : Int)), some (.ref L), some (.ref du), x0, some (.int ((l : Nat) : Int)), y0, z0, u0] ∧ Same H H' ∧ UsedN H' du (namesOf sl) (sl.length * 216), ⟨_, 0, rfl, Nat.zero_le _, rfl, S1, U1⟩, ?_⟩
      rintro mm σ H2 ⟨l, rfl, hl, rfl, S2, U2⟩
      refine ⟨_, rfl, _, rfl, (by show 2 ≤ sizeLine; decide), fun t ht => ?_⟩
      have S3 : Same H2 (upd H2 t (.tup [.int (a : Int), .int (l : Int)])) := Same.new ht
      have U3 := U2.same S3
      obtain ⟨ks, hks, good, hmem, hle⟩ := id U3
      have hl2 := lbl_le (namesOf sl) a
      refine ⟨_, rfl, du, ks, some (a, l), ⟨t, rfl, upd_same⟩, ⟨by omega, by omega⟩, rfl, hks, good, _, rfl, ?_⟩
      refine ite2 (fun q => ?_) fun q => ?_
      · have hm := (hmem _).mp (of_decide_eq_true q)
        have hlt : l < lbl (namesOf sl) a := by
          rcases Nat.lt_or_ge l (lbl (namesOf sl) a) with z | z
          · exact z
          · have e : l = lbl (namesOf sl) a := by omega
            rw [e] at hm
            exact absurd hm (lbl_not _ _)
        refine ⟨fun σ' H' => ∃ mm', mm' < lbl (namesOf sl) a - l ∧ _, fun σ' H' z => z, _, rfl, _, _, rfl, rfl, lbl (namesOf sl) a - (l + 1), by omega, l + 1, rfl, by omega, rfl, S2.trans S3, U3⟩
      · have hn : ¬ some (a, l) ∈ namesOf sl := fun z => q (decide_eq_true ((hmem _).mpr z))
        have e : l = lbl (namesOf sl) a := by
          rcases Nat.lt_or_ge l (lbl (namesOf sl) a) with z | z
          · exact absurd (lbl_least _ _ _ z) hn
          · omega
        refine ⟨_, rfl, k _ _ (S2.trans S3) ?_⟩
        rw [e]
end
end K31
/-! K31F4: the law's ledger. -/
namespace K31
open PySem PySem.Spec PyProof.Rows L2
section
variable {P : Program} {w : World} {K : PySem.W.Frag} {mg : Str → Option Value} {base : Heap} {C : Addr}
/-- slots [(0, '_law_office'), (1, '_law_parts_here'), (2, '_law_row_here'), (3, '_law_here'), (4, '_law_found'), (5, '_law_work'), (6, '_law_later'), (7, '_law_desk')] cells ['_law_here', '_law_office'] -/
abbrev s_law_led : Stmt := (top 48)
theorem sc_law_led : FnScope ["_law_office", "_law_parts_here", "_law_row_here", "_law_here", "_law_found", "_law_work", "_law_later", "_law_desk"] ["_law_office", "_law_parts_here", "_law_row_here"] (defScope s_law_led) := ⟨rfl, rfl, rfl, by decide +kernel, rfl, by decide +kernel, by decide +kernel⟩
theorem fx_law_led (D : Df K mg "_law_led" s_law_led ["_law_office", "_law_parts_here", "_law_row_here"]) (T : Txt K mg) (F_blank_slip : Fx P w K mg base "blank_slip" s_blank_slip ["office"] 2 (sp_blank_of C))
    (F_passed : Fx P w K mg base "passed" s_passed ["office", "work", "slips"] 8 (sp_passed C)) :
    Fx P w K mg base "_law_led" s_law_led ["_law_office", "_law_parts_here", "_law_row_here"] 9 (sp_led C) := by
  refine D.ok sc_law_led (fun vs H Q E h => ?_) (fun f cdv A outer s H vs Q E hr h => ?_)
  · obtain ⟨o, v, r, n, ws, row, rfl, _⟩ := h
    rfl
  · obtain ⟨o, v, r, n, ws, row, rfl, hO, ⟨ap, wv, rfl, hap, aw, wxs, rfl, haw, hw⟩, ook, ⟨ar, rfl, har⟩, hrow, hlen, k⟩ := h
    have h6 := ook.n6
    have h1 := ook.n1
    refine ⟨_, (pss_cons (ps_set (i := 3) sc_law_led.nd rfl (Or.inr rfl) (pe_lc (own := [("_law_desk", 7)]) rfl sc_law_led.nd (pi_range1 rfl T.z_range (pa_cons (pe_ix (ix_tupK (K := K) rfl) (pv 1) pe_int (fun _ _ => rfl)) pa_nil)) (blkOk_by (N := ["_law_office", "_law_parts_here", "_law_row_here", "_law_here", "_law_found", "_law_work", "_law_later", "_law_desk"]) (sc := (defScope s_law_led)) (by decide +kernel)) (fun _ _ _ _ _ => (pg_name (i := 7) sc_law_led.nd rfl (Or.inl rfl))) (fun _ _ _ _ _ => pts_nil) (fun _ _ _ _ _ => (pe_fx F_blank_slip (hr.mono (by decide)) (pa_cons (pv 0) pa_nil)))))
        (pss_cons (ps_set (i := 4) sc_law_led.nd rfl (Or.inl rfl) (pe_lst (pa_cons (pe_callTy (tupleK (K := K) rfl) (by rfl) T.z_tuple bt_tuple (pa_cons (pv 3) pa_nil)) pa_nil)))
        (pss_cons (ps_for PassesOwn.never rfl (pi_tupK (K := K) rfl (pv 2)) (pg_name (i := 5) sc_law_led.nd rfl (Or.inl rfl)) (pss_cons (ps_set (i := 6) sc_law_led.nd rfl (Or.inl rfl) (pe_fx F_passed (hr.mono (by decide)) (pa_cons (pv 0) (pa_cons (pv 5) (pa_cons (pe_callTy (tupleK (K := K) rfl) (by rfl) T.z_tuple bt_tuple (pa_cons (pe_lc (own := [("_law_desk", 7)]) rfl sc_law_led.nd (pi_tupK (K := K) rfl (pe_ix (ix_tupK (K := K) rfl) (pe_ix (ix_tupK (K := K) rfl) (pv 1) pe_int (fun _ _ => rfl)) (pv 5) (fun _ _ => rfl))) (blkOk_by (N := ["_law_office", "_law_parts_here", "_law_row_here", "_law_here", "_law_found", "_law_work", "_law_later", "_law_desk"]) (sc := (defScope s_law_led)) (by decide +kernel)) (fun _ _ _ _ _ => (pg_name (i := 7) sc_law_led.nd rfl (Or.inl rfl))) (fun _ _ _ _ _ => pts_nil) (fun _ _ _ _ _ => (pe_ix (ix_listK (K := K) rfl) (pv 3) (pv 7) (fun _ _ => rfl)))) pa_nil)) pa_nil)))))
        (pss_cons (ps_for PassesOwn.never rfl (pi_tupK (K := K) rfl (pe_ix (ix_tupK (K := K) rfl) (pe_ix (ix_tupK (K := K) rfl) (pv 1) pe_int (fun _ _ => rfl)) (pv 5) (fun _ _ => rfl))) (pg_name (i := 7) sc_law_led.nd rfl (Or.inl rfl)) (pss_one (ps_asg (pv 6) (pg_sub (pv 3) (pv 7) set_list))))
        (pss_one (ps_expr (pe_appK (K := K) rfl (pv 4) (pa_cons (pe_callTy (tupleK (K := K) rfl) (by rfl) T.z_tuple bt_tuple (pa_cons (pv 3) pa_nil)) pa_nil)))))))
        (pss_one (ps_ret (pv 4)))))), ?_⟩
    refine ⟨_, rfl, ap, _, _, _, rfl, rfl, SqT.of hap, atI_at (j := 0) rfl rfl, _, rfl, by omega, by omega, fun Ls hLs => ?_⟩
    refine lc_one walk_range (P := fun i y H => SlipAt H y (blank n)) hLs (by omega) (fun _ _ => True.intro) (fun i y H H' kp h => h.mono kp) ?_ ?_
    · rintro i x H1 H2 Nx hi S1 ⟨rfl, hx⟩ kN
      exact ⟨_, rfl, _, n, ws, rfl, hO.mono S1.kp, h1, h6, fun v4 H4 S4 h4 => kN _ _ S4 h4⟩
    · intro acc H1 S1 hD1 hal hP
      have hal : acc.length = n := by omega
      have HL : HeldAt H Ls H1 (st0 n) := ⟨hLs, acc, hD1, st0_pr hal hP⟩
      refine ⟨_, rfl, Ls, acc, rfl, .inl ⟨SqL.of hD1, fun t0 ht0 => ⟨(by show 1 ≤ sizeLine; decide), fun Lt hLt => ?_⟩⟩⟩
      have St1 : Same H1 (upd H1 t0 (.tup acc)) := Same.new ht0
      have ST0 : StAt (upd H1 t0 (.tup acc)) (.ref t0) (st0 n) := ⟨t0, acc, rfl, upd_same, Paired.mapP (st0_pr hal hP) fun _ _ q => q.mono St1.kp⟩
      have hLt1 : H1 Lt = none := St1.free hLt
      have nLT : Ls ≠ Lt := ne_of_none hD1 hLt1
      have hLt0 : H Lt = none := S1.free hLt1
      have Sn : Same (upd H1 t0 (.tup acc)) (upd (upd H1 t0 (.tup acc)) Lt (.lst [.ref t0])) := Same.new hLt
      have S2 : Same H (upd (upd H1 t0 (.tup acc)) Lt (.lst [.ref t0])) := (S1.trans St1).trans Sn
      have HL2 : HeldAt H Ls (upd (upd H1 t0 (.tup acc)) Lt (.lst [.ref t0])) (st0 n) := HL.keep (St1.trans Sn)
      have hT2 : ∃ ts, upd (upd H1 t0 (.tup acc)) Lt (.lst [.ref t0]) Lt = some (.lst ts) ∧ ts.length = 0 + 1 ∧ ∀ k, k ≤ 0 → ∃ y, ts[k]? = some y ∧ StAt (upd (upd H1 t0 (.tup acc)) Lt (.lst [.ref t0])) y (run n ws (row.take k)) := ⟨[.ref t0], upd_same, rfl, fun k hk => by
        have e : k = 0 := by omega
        subst e
        exact ⟨_, rfl, ST0.mono Sn.kp⟩⟩
      generalize upd (upd H1 t0 (.tup acc)) Lt (.lst [.ref t0]) = H2 at S2 HL2 hT2
      clear ST0 Sn HL
      refine ⟨_, rfl, ar, rfl, ⟨_, SqT.of (S2 _ _ har)⟩, ?_⟩
      refine for_it (walk_tup (xs := nats row)) (fun i σ H' => (∃ a b c, σ = [some o, some (.ref ap), some (.ref ar), some (.ref Ls), some (.ref Lt), a, b, c]) ∧ Same H H' ∧ HeldAt H Ls H' (run n ws (row.take i)) ∧ ∃ ts, H' Lt = some (.lst ts) ∧ ts.length = i + 1 ∧ ∀ k, k ≤ i → ∃ y, ts[k]? = some y ∧ StAt H' y (run n ws (row.take k)))
        ⟨⟨_, _, _, rfl⟩, S2, HL2, hT2⟩ (fun i σ H' _ q => SqT.of (q.2.1 _ _ har)) ?_ ?_
      · rintro i x σ H3 H4 hi ⟨⟨a, b, c, rfl⟩, S4, HL4, ts, hts, htl, htk⟩ ⟨rfl, hx⟩
        obtain ⟨w0, hw0, rfl⟩ := nats_get hx
        have hwl := hrow w0 (List.mem_of_getElem? hw0)
        have hm := ook.lot hwl
        have hst : StOk n ws.length (run n ws (row.take i)) := run_ok ook _ fun z hz => hrow z (List.mem_of_mem_take hz)
        have et : run n ws (row.take (i + 1)) = setAll (run n ws (row.take i)) (ws.getD w0 []) (slipBehind n (ws.getD w0 []) w0 (ofLot n (run n ws (row.take i)) (ws.getD w0 []))) := by
          rw [take_succ_some hw0, run_snoc]
          rfl
        obtain ⟨lv, hlv, al, rfl, hal0⟩ := pr_get hw (get_of hwl [])
        have hl6 := ook.len6 hm
        have hl0 := ook.pos hm
        have hlt := ook.lt _ hm
        generalize elot : ws.getD w0 [] = lot at hal0 hl6 hl0 hlt hm et
        generalize est : run n ws (row.take i) = st at HL4 hst et
        have hi100 : i < row.length := by rw [nats_len] at hi; exact hi
        refine ⟨_, rfl, _, rfl, _, rfl, ap, _, _, _, rfl, rfl, SqT.of (S4 _ _ hap), atI_at (j := 1) rfl rfl, _, rfl, aw, _, _, _, rfl, rfl, SqT.of (S4 _ _ haw), atI_nat hlv, al, rfl, ⟨_, SqT.of (S4 _ _ hal0)⟩, fun D3 hD3 => ?_⟩
        refine lc_one (walk_tup (xs := nats lot)) (P := fun j y H => SlipAt H y (st.getD (lot.getD j 0) (blank n))) hD3 (by rw [nats_len]; omega) (fun H' s' => SqT.of (s' _ _ (S4 _ _ hal0))) (fun i y H H' kp h => h.mono kp) ?_ ?_
        · rintro j x H5 H6 Nx hj S5 ⟨rfl, hx⟩ kN
          obtain ⟨d0, hd0, rfl⟩ := nats_get hx
          have hdn := hlt d0 (List.mem_of_getElem? hd0)
          obtain ⟨_, ss, hss, hpr⟩ := HL4
          obtain ⟨bv, hbv, hbs⟩ := pr_get hpr (get_of (x := blank n) (i := d0) (by rw [hst.1]; exact hdn))
          refine ⟨_, rfl, _, rfl, Ls, _, _, _, rfl, rfl, SqL.of (S5 _ _ hss), atI_nat hbv, kN _ _ (Same.refl _) ?_⟩
          rw [getD_eq hd0]
          exact hbs.mono S5.kp
        · intro acc5 H5 S5 hD5 hl5 hP5
          rw [nats_len] at hl5
          have hPr : Paired (SlipAt H5) acc5 (ofLot n st lot) := pr_map hl5 fun j y d0 hy hd0 => by
            have q := hP5 j y hy
            rw [getD_eq hd0] at q
            exact q
          refine ⟨D3, acc5, rfl, .inl ⟨SqL.of hD5, fun t5 ht5 => ?_⟩⟩
          have S5b : Same H5 (upd H5 t5 (.tup acc5)) := Same.new ht5
          have hSt : StAt (upd H5 t5 (.tup acc5)) (.ref t5) (ofLot n st lot) := ⟨t5, acc5, rfl, upd_same, Paired.mapP hPr fun _ _ q => q.mono S5b.kp⟩
          have S45 := S4.trans (S5.trans S5b)
          have okl := ofLot_ok hst hlt
          have lenl : (ofLot n st lot).length = lot.length := by unfold ofLot; rw [List.length_map]
          refine ⟨_, _, n, ws, w0, _, rfl, hO.mono S45.kp, hwl, ook, hSt, okl, by rw [elot]; exact lenl, fun lv6 H6 S6 h6' => ?_⟩
          rw [elot] at h6'
          have S46 := S45.trans S6
          have HL6 := HL4.keep ((S5.trans S5b).trans S6)
          have hT6 : ∃ ts, H6 Lt = some (.lst ts) ∧ ts.length = i + 1 ∧ ∀ k, k ≤ i → ∃ y, ts[k]? = some y ∧ StAt H6 y (run n ws (row.take k)) := ⟨ts, ((S5.trans S5b).trans S6) _ _ hts, htl, fun k hk => by
            obtain ⟨y, h1, h2⟩ := htk k hk
            exact ⟨y, h1, StAt.mono ((S5.trans S5b).trans S6).kp h2⟩⟩
          generalize slipBehind n lot w0 (ofLot n st lot) = later at h6' et
          refine ⟨_, rfl, ap, _, _, _, rfl, rfl, SqT.of (S46 _ _ hap), atI_at (j := 1) rfl rfl, _, rfl, aw, _, _, _, rfl, rfl, SqT.of (S46 _ _ haw), atI_nat hlv, al, rfl, ⟨_, SqT.of (S46 _ _ hal0)⟩, ?_⟩
          refine for_it (walk_tup (xs := nats lot)) (fun j σ H' => (∃ d, σ = [some o, some (.ref ap), some (.ref ar), some (.ref Ls), some (.ref Lt), some (.int (w0 : Int)), some lv6, d]) ∧ Same H H' ∧ HeldAt H Ls H' (setAll st (lot.take j) later) ∧ SlipAt H' lv6 later ∧ ∃ ts, H' Lt = some (.lst ts) ∧ ts.length = i + 1 ∧ ∀ k, k ≤ i → ∃ y, ts[k]? = some y ∧ StAt H' y (run n ws (row.take k)))
            ⟨⟨_, rfl⟩, S46, HL6, h6', hT6⟩ (fun i σ H' _ q => SqT.of (q.2.1 _ _ hal0)) ?_ ?_
          · rintro j x σ H9 H8 hj ⟨⟨d, rfl⟩, S8, HL8, hs8, ts8, hts8, htl8, htk8⟩ ⟨rfl, hx⟩
            obtain ⟨d1, hd1, rfl⟩ := nats_get hx
            have hd1n := hlt d1 (List.mem_of_getElem? hd1)
            obtain ⟨hLs0, ss8, hss8, hpr8⟩ := HL8
            have hssl : ss8.length = n := by rw [Paired.length hpr8, setAll_length, hst.1]
            refine ⟨_, rfl, _, rfl, _, rfl, Ls, ss8, _, d1, rfl, rfl, hss8, ixN_nat (by omega), ⟨_, rfl⟩, S8.mut hLs, ⟨hLs0, _, upd_same, ?_⟩, hs8.mono (Kp.lst hss8), ts8, (upd_ne (Ne.symm nLT)).trans hts8, htl8, fun k hk => ?_⟩
            · rw [take_succ_some hd1, setAll_snoc]
              exact pr_set (hs8.mono (Kp.lst hss8)) _ (Paired.mapP hpr8 fun _ _ q => q.mono (Kp.lst hss8))
            · obtain ⟨y, h1, h2⟩ := htk8 k hk
              exact ⟨y, h1, StAt.mono (Kp.lst hss8) h2⟩
          · rintro σ H8 ⟨⟨d, rfl⟩, S8, HL8, hs8, ts8, hts8, htl8, htk8⟩
            rw [nats_len, List.take_length, ← et] at HL8
            obtain ⟨_, ss8, hss8, hpr8⟩ := id HL8
            refine ⟨_, rfl, .inl ⟨rfl, _, SqL.of hts8⟩, _, rfl, Ls, ss8, rfl, .inl ⟨SqL.of hss8, fun t9 ht9 => ?_⟩⟩
            have S9 : Same H8 (upd H8 t9 (.tup ss8)) := Same.new ht9
            have hts9 := S9 _ _ hts8
            have hSt9 : StAt (upd H8 t9 (.tup ss8)) (.ref t9) (run n ws (row.take (i + 1))) := ⟨t9, ss8, rfl, upd_same, Paired.mapP hpr8 fun _ _ q => q.mono S9.kp⟩
            have HL9 := HL8.keep S9
            have S89 := S8.trans S9
            have htk9 : ∀ k, k ≤ i → ∃ y, ts8[k]? = some y ∧ StAt (upd H8 t9 (.tup ss8)) y (run n ws (row.take k)) := fun k hk => by
              obtain ⟨y, h1, h2⟩ := htk8 k hk
              exact ⟨y, h1, StAt.mono S9.kp h2⟩
            generalize upd H8 t9 (.tup ss8) = H9 at hts9 hSt9 HL9 S89 htk9
            refine ⟨Lt, ts8, _, rfl, rfl, hts9, by rw [sizeLine_eq]; omega, ⟨_, _, _, rfl⟩, S89.mut hLt0, HL9.other nLT hts9, _, upd_same, by rw [List.length_append, List.length_singleton]; omega, fun k hk => ?_⟩
            rcases Nat.lt_or_ge i k with z | z
            · have e : k = i + 1 := by omega
              subst e
              exact ⟨.ref t9, by rw [List.getElem?_append_right (by omega), htl8, Nat.sub_self]; rfl, hSt9.mono (Kp.lst hts9)⟩
            · obtain ⟨y, h1, h2⟩ := htk9 k z
              exact ⟨y, by rw [List.getElem?_append_left (by omega)]; exact h1, StAt.mono (Kp.lst hts9) h2⟩
      · rintro σ H3 ⟨⟨a, b, c, rfl⟩, S3, _, ts, hts, htl, htk⟩
        rw [nats_len] at htl htk
        exact ⟨_, rfl, k _ _ S3 ⟨Lt, ts, rfl, hts, htl, htk⟩⟩
end
end K31
/-! K31F5: the law. -/
namespace K31
open PySem PySem.Spec PyProof.Rows L2
def sp_law (K : PySem.W.Frag) : Sp := fun vs H Q _ => ∃ (a : Addr) (ns : List Int), vs = [.ref a] ∧ SqL K H a (ns.map V.int) ∧ ∀ H', Q (.bl true) H'
/-- what a turn of the law holds -/
def Fct (C c : Addr) (cells : List Int) (g : Addr) (H : Hp) (pp ov rv : V) (n : Nat) (ws : List (List Nat)) (row : List Nat) : Prop := Dice c cells g H ∧ PartsAt H pp n ws ∧ OfficeAt C H ov n ws ∧ LotAt H rv row
section
variable {C c g : Addr} {cells : List Int} {H H' : Hp} {pp ov rv lv : V} {n : Nat} {ws : List (List Nat)} {row : List Nat}
theorem Fct.gs (h : Fct C c cells g H pp ov rv n ws row) (s : Gs c cells g H H') : Fct C c cells g H' pp ov rv n ws row := by
  obtain ⟨h1, h2, h3, h4⟩ := h
  have kp := s.kp h1
  exact ⟨s.2, h2.mono kp, h3.mono kp, h4.mono kp⟩
theorem Fct.same (h : Fct C c cells g H pp ov rv n ws row) (s : Same H H') : Fct C c cells g H' pp ov rv n ws row := h.gs ((Gs.refl h.1).same s)
theorem LedAt.gs (h : LedAt H lv n ws row) (d : Dice c cells g H) (s : Gs c cells g H H') : LedAt H' lv n ws row := by
  have kp := s.kp d
  obtain ⟨a, fs, e, ha, hl, hk⟩ := h
  have ne : a ≠ g := by
    rintro rfl
    obtain ⟨⟨d1, d2, d3, d4, hg, _⟩, hc⟩ := d
    rw [hg] at ha
    have ha := HO.lst.inj (Option.some.inj ha)
    obtain ⟨y, h1, h2⟩ := hk 0 (Nat.zero_le _)
    rw [← ha] at h1
    cases h1
    obtain ⟨b, ys, e2, hb, _⟩ := h2
    cases e2
    rw [hc] at hb
    cases hb
  refine ⟨a, fs, e, s.get ne ha, hl, fun k hk' => ?_⟩
  obtain ⟨y, h1, h2⟩ := hk k hk'
  exact ⟨y, h1, StAt.mono kp h2⟩
end
theorem nats_take (l : List Nat) (m : Nat) : (nats l).take m = nats (l.take m) := by
  unfold nats
  rw [List.map_take]
theorem nats_drop (l : List Nat) (m : Nat) : (nats l).drop m = nats (l.drop m) := by
  unfold nats
  rw [List.map_drop]
theorem nats_app (l r : List Nat) : nats l ++ nats r = nats (l ++ r) := by
  unfold nats
  rw [List.map_append]
theorem nats_nil {l : List Nat} (h : nats l = []) : l = [] := by
  unfold nats at h
  exact List.map_eq_nil_iff.mp h
theorem rd_take {K : PySem.W.Frag} {H : Hp} {Q : VK} {a : Addr} {row : List Nat} {m : Nat} (ha : H a = some (.tup (nats row))) (hm : m ≤ row.length) (q : ∀ v H', Same H H' → LotAt H' v (row.take m) → Q v H') : rSlA K (.ref a) none (some ((m : Nat) : Int)) H Q := by
  refine ⟨a, _, rfl, SqT.of ha, fun h => q _ _ (Same.refl _) ⟨a, rfl, ?_⟩, fun _ p hp => q _ _ (Same.new hp) ⟨p, rfl, ?_⟩⟩
  · have h2 := h.2
    rw [HT.sIx_nat, nats_len] at h2
    rw [ha, List.take_of_length_le (by omega)]
  · rw [upd_same, cut_take, nats_take]
theorem rd_drop {K : PySem.W.Frag} {H : Hp} {Q : VK} {a : Addr} {row : List Nat} {m : Nat} (ha : H a = some (.tup (nats row))) (hm : m ≤ row.length) (q : ∀ v H', Same H H' → LotAt H' v (row.drop m) → Q v H') : rSlA K (.ref a) (some ((m : Nat) : Int)) none H Q := by
  refine ⟨a, _, rfl, SqT.of ha, fun h => q _ _ (Same.refl _) ⟨a, rfl, ?_⟩, fun _ p hp => q _ _ (Same.new hp) ⟨p, rfl, ?_⟩⟩
  · have h2 := h.1
    rw [HT.sIx_nat, nats_len] at h2
    have e : m = 0 := by omega
    rw [ha, e, List.drop_zero]
  · rw [upd_same]
    unfold cutV
    rw [HT.sIx_none, HT.sIx_nat, nats_len, Nat.min_eq_left hm, List.take_of_length_le (by rw [List.length_drop, nats_len]; omega), nats_drop]
theorem rd_cat {K : PySem.W.Frag} {H : Hp} {Q : VK} {u v : V} {la lb : List Nat} (ha : LotAt H u la) (hb : LotAt H v lb) (hl : la.length + lb.length ≤ 1000) (q : ∀ v H', Same H H' → LotAt H' v (la ++ lb) → Q v H') : rCatA K u v H Q := by
  obtain ⟨a, rfl, ha⟩ := ha
  obtain ⟨b, rfl, hb⟩ := hb
  refine ⟨a, b, _, _, rfl, rfl, SqT.of ha, SqT.of hb, by rw [nats_len, nats_len, sizeLine_eq]; omega, fun e => q _ _ (Same.refl _) ⟨b, rfl, ?_⟩, fun _ e => q _ _ (Same.refl _) ⟨a, rfl, ?_⟩, fun _ _ p hp => q _ _ (Same.new hp) ⟨p, rfl, ?_⟩⟩
  · rw [hb, nats_nil e, List.nil_append]
  · rw [ha, nats_nil e, List.append_nil]
  · rw [upd_same, nats_app]
theorem atI_neg1 {α : Type} {xs : List α} {v : α} {j : Nat} (hl : xs.length = j + 1) (h : xs[j]? = some v) : atI xs (-1) = some v := by
  have e : ixN xs.length (-1) = some j := by
    unfold ixN
    rw [hl, if_neg (by decide), if_pos (by omega)]
    congr 1
    omega
  unfold atI
  rw [e]
  exact h
section
variable {P : Program} {w : World} {K : PySem.W.Frag} {mg : Str → Option Value} {base : Heap} {C : Addr}
/-- slots [(0, '_law_script'), (1, '_law_dice_here'), (2, '_law_turn'), (3, '_law_parts_here'), (4, '_law_office'), (5, '_law_row_here'), (6, '_law_led_here'), (7, '_law_moment'), (8, '_law_place'), (9, '_law_desk'), (10, '_law_mine'), (11, '_law_name'), (12, '_law_other')] cells ['_law_led_here', '_law_place'] -/
abbrev s_law : Stmt := (top 50)
theorem sc_law : FnScope ["_law_script", "_law_dice_here", "_law_turn", "_law_parts_here", "_law_office", "_law_row_here", "_law_led_here", "_law_moment", "_law_place", "_law_desk", "_law_mine", "_law_name", "_law_other"] ["_law_script"] (defScope s_law) := ⟨rfl, rfl, rfl, by decide +kernel, rfl, by decide +kernel, by decide +kernel⟩
theorem fx_law (D : Df K mg "law" s_law ["_law_script"]) (T : Txt K mg) (F_law_dice : Fx P w K mg base "_law_dice" s_law_dice ["_law_script"] 1 (sp_dice K)) (F_law_draw : Fx P w K mg base "_law_draw" s_law_draw ["_law_dice_here", "_law_sides"] 1 sp_draw)
    (F_law_some_parts : Fx P w K mg base "_law_some_parts" s_law_some_parts ["_law_dice_here"] 3 sp_some_parts) (F_law_made : Fx P w K mg base "_law_made" s_law_made ["_law_parts_here"] 7 (sp_made C))
    (F_law_row : Fx P w K mg base "_law_row" s_law_row ["_law_dice_here", "_law_parts_here", "_law_most"] 2 sp_row) (F_law_led : Fx P w K mg base "_law_led" s_law_led ["_law_office", "_law_parts_here", "_law_row_here"] 9 (sp_led C))
    (F_slip : Fx P w K mg base "slip" s_slip ["office", "row", "desk"] 7 (sp_slip C)) (F_law_least_label : Fx P w K mg base "_law_least_label" s_law_least_label ["_law_work", "_law_slips"] 1 sp_least_label)
    (F_law_same : Fx P w K mg base "_law_same" s_law_same ["_law_shown", "_law_due"] 3 sp_same_n) (F_law_meets : Fx P w K mg base "_law_meets" s_law_meets ["_law_parts_here", "_law_one", "_law_other"] 1 sp_meets) :
    Fx P w K mg base "law" s_law ["_law_script"] 10 (sp_law K) := by
  refine D.ok sc_law (fun vs H Q E h => ?_) (fun f cdv A outer s H vs Q E hr h => ?_)
  · obtain ⟨a, ns, rfl, _⟩ := h
    rfl
  · obtain ⟨a, ns, rfl, hS, k⟩ := h
    refine ⟨_, (pss_cons (ps_set (i := 1) sc_law.nd rfl (Or.inl rfl) (pe_fx F_law_dice (hr.mono (by decide)) (pa_cons (pv 0) pa_nil)))
        (pss_cons (ps_for PassesOwn.never rfl (pi_range1 rfl T.z_range (pa_cons pe_int pa_nil)) (pg_name (i := 2) sc_law.nd rfl (Or.inl rfl)) (pss_cons (ps_set (i := 3) sc_law.nd rfl (Or.inl rfl) (pe_fx F_law_some_parts (hr.mono (by decide)) (pa_cons (pv 1) pa_nil)))
        (pss_cons (ps_set (i := 4) sc_law.nd rfl (Or.inl rfl) (pe_fx F_law_made (hr.mono (by decide)) (pa_cons (pv 3) pa_nil)))
        (pss_cons (ps_set (i := 5) sc_law.nd rfl (Or.inl rfl) (pe_fx F_law_row (hr.mono (by decide)) (pa_cons (pv 1) (pa_cons (pv 3) (pa_cons (pe_ifExp (pt_cmpR op_eq (pe_fx F_law_draw (hr.mono (by decide)) (pa_cons (pv 1) (pa_cons pe_int pa_nil))) pe_int (nomark _)) pe_int pe_int) pa_nil)))))
        (pss_cons (ps_set (i := 6) sc_law.nd rfl (Or.inr rfl) (pe_fx F_law_led (hr.mono (by decide)) (pa_cons (pv 4) (pa_cons (pv 3) (pa_cons (pv 5) pa_nil)))))
        (pss_cons (ps_for PassesOwn.never rfl (pi_listK (K := K) rfl (pe_lst (pa_cons (pe_callB (lenK (K := K) rfl) (by rfl) T.z_len bt_len (pa_cons (pv 5) pa_nil)) (pa_cons (pe_fx F_law_draw (hr.mono (by decide)) (pa_cons (pv 1) (pa_cons (pe_op op_add (pe_callB (lenK (K := K) rfl) (by rfl) T.z_len bt_len (pa_cons (pv 5) pa_nil)) pe_int) pa_nil))) (pa_cons (pe_fx F_law_draw (hr.mono (by decide)) (pa_cons (pv 1) (pa_cons (pe_op op_add (pe_callB (lenK (K := K) rfl) (by rfl) T.z_len bt_len (pa_cons (pv 5) pa_nil)) pe_int) pa_nil))) pa_nil))))) (pg_name (i := 7) sc_law.nd rfl (Or.inl rfl)) (pss_cons (ps_set (i := 9) sc_law.nd rfl (Or.inl rfl) (pe_fx F_law_draw (hr.mono (by decide)) (pa_cons (pv 1) (pa_cons (pe_ix (ix_tupK (K := K) rfl) (pv 3) pe_int (fun _ _ => rfl)) pa_nil))))
        (pss_one (ps_if (pt_cmpR (neDK (K := K) rfl hr.units) (pe_ix (ix_tupK (K := K) rfl) (pe_ix (ix_listK (K := K) rfl) (pv 6) (pv 7) (fun _ _ => rfl)) (pv 9) (fun _ _ => rfl)) (pe_fx F_slip (hr.mono (by decide)) (pa_cons (pv 4) (pa_cons (pe_slice (sl_tupAK (K := K) rfl) (pv 5) po_none (po_some (pv 7))) (pa_cons (pv 9) pa_nil)))) (nomark _)) (pss_one (ps_ret pe_bl)) pss_nil))))
        (pss_cons (ps_for PassesOwn.never rfl (pi_range1 rfl T.z_range (pa_cons (pe_callB (lenK (K := K) rfl) (by rfl) T.z_len bt_len (pa_cons (pv 5) pa_nil)) pa_nil)) (pg_name (i := 8) sc_law.nd rfl (Or.inr rfl)) (pss_cons (ps_set (i := 10) sc_law.nd rfl (Or.inl rfl) (pe_ix (ix_tupK (K := K) rfl) (pe_ix (ix_tupK (K := K) rfl) (pv 3) pe_int (fun _ _ => rfl)) (pe_ix (ix_tupK (K := K) rfl) (pv 5) (pv 8) (fun _ _ => rfl)) (fun _ _ => rfl)))
        (pss_cons (ps_set (i := 11) sc_law.nd rfl (Or.inl rfl) (pe_tup (pa_cons (pe_ix (ix_tupK (K := K) rfl) (pv 5) (pv 8) (fun _ _ => rfl)) (pa_cons (pe_fx F_law_least_label (hr.mono (by decide)) (pa_cons (pe_ix (ix_tupK (K := K) rfl) (pv 5) (pv 8) (fun _ _ => rfl)) (pa_cons (pe_lc (own := [("_law_desk", 9)]) rfl sc_law.nd (pi_tupK (K := K) rfl (pv 10)) (blkOk_by (N := ["_law_script", "_law_dice_here", "_law_turn", "_law_parts_here", "_law_office", "_law_row_here", "_law_led_here", "_law_moment", "_law_place", "_law_desk", "_law_mine", "_law_name", "_law_other"]) (sc := (defScope s_law)) (by decide +kernel)) (fun _ _ _ _ _ => (pg_name (i := 9) sc_law.nd rfl (Or.inl rfl))) (fun _ _ _ _ _ => pts_nil) (fun _ _ _ _ _ => (pe_ix (ix_tupK (K := K) rfl) (pe_ix (ix_listK (K := K) rfl) (pv 6) (pv 8) (fun _ _ => rfl)) (pv 9) (fun _ _ => rfl)))) pa_nil))) pa_nil))))
        (pss_one (ps_if (pt_not (pt_val (pe_fx F_law_same (hr.mono (by decide)) (pa_cons (pe_ix (ix_tupK (K := K) rfl) (pe_ix (ix_tupK (K := K) rfl) (pe_ix (ix_tupK (K := K) rfl) (pe_ix (ix_listK (K := K) rfl) (pv 6) (pe_op op_add (pv 8) pe_int) (fun _ _ => rfl)) (pe_ix (ix_tupK (K := K) rfl) (pv 10) (pe_un un_neg pe_int) (fun _ _ => rfl)) (fun _ _ => rfl)) pe_int (fun _ _ => rfl)) (pe_ix (ix_tupK (K := K) rfl) (pv 10) pe_int (fun _ _ => rfl)) (fun _ _ => rfl)) (pa_cons (pv 11) pa_nil))))) (pss_one (ps_ret pe_bl)) pss_nil)))))
        (pss_one (ps_for PassesOwn.never rfl (pi_range2 rfl T.z_range (pa_cons pe_int (pa_cons (pe_callB (lenK (K := K) rfl) (by rfl) T.z_len bt_len (pa_cons (pv 5) pa_nil)) pa_nil))) (pg_name (i := 8) sc_law.nd rfl (Or.inr rfl)) (pss_one (ps_if (pt_not (pt_val (pe_fx F_law_meets (hr.mono (by decide)) (pa_cons (pv 3) (pa_cons (pe_ix (ix_tupK (K := K) rfl) (pv 5) (pe_op op_sub (pv 8) pe_int) (fun _ _ => rfl)) (pa_cons (pe_ix (ix_tupK (K := K) rfl) (pv 5) (pv 8) (fun _ _ => rfl)) pa_nil)))))) (pss_cons (ps_set (i := 12) sc_law.nd rfl (Or.inl rfl) (pe_op (catAK (K := K) rfl) (pe_op (catAK (K := K) rfl) (pe_slice (sl_tupAK (K := K) rfl) (pv 5) po_none (po_some (pe_op op_sub (pv 8) pe_int))) (pe_tup (pa_cons (pe_ix (ix_tupK (K := K) rfl) (pv 5) (pv 8) (fun _ _ => rfl)) (pa_cons (pe_ix (ix_tupK (K := K) rfl) (pv 5) (pe_op op_sub (pv 8) pe_int) (fun _ _ => rfl)) pa_nil)))) (pe_slice (sl_tupAK (K := K) rfl) (pv 5) (po_some (pe_op op_add (pv 8) pe_int)) po_none)))
        (pss_cons (ps_if (pt_cmpR (neDK (K := K) rfl hr.units) (pe_ix (ix_listK (K := K) rfl) (pe_fx F_law_led (hr.mono (by decide)) (pa_cons (pv 4) (pa_cons (pv 3) (pa_cons (pv 12) pa_nil)))) (pe_un un_neg pe_int) (fun _ _ => rfl)) (pe_ix (ix_listK (K := K) rfl) (pv 6) (pe_un un_neg pe_int) (fun _ _ => rfl)) (nomark _)) (pss_one (ps_ret pe_bl)) pss_nil)
        (pss_one ps_break))) pss_nil)))))))))))
        (pss_one (ps_ret pe_bl)))), ?_⟩
    refine ⟨_, rfl, a, ns, rfl, hS, fun gv H1 S1 hg => ?_⟩
    obtain ⟨g, c, cells, rfl, hd1⟩ := hg
    refine ⟨_, rfl, (by show (-(2 ^ 62) : Int) ≤ 2; decide), (by show (2 : Int) < 2 ^ 62; decide), ?_⟩
    refine for_it walk_range (fun i σ H' => (∃ x2 x3 x4 x5 x6 x7 x8 x9 x10 x11 x12, σ = [some (.ref a), some (.ref g), x2, x3, x4, x5, x6, x7, x8, x9, x10, x11, x12]) ∧ Dice c cells g H')
      ⟨⟨_, _, _, _, _, _, _, _, _, _, _, rfl⟩, hd1⟩ (fun _ _ _ _ _ => True.intro) ?_ ?_
    rotate_left
    · rintro σ H2 ⟨⟨x2, x3, x4, x5, x6, x7, x8, x9, x10, x11, x12, rfl⟩, _⟩
      exact k _
    rintro i x σ Hx H0 hi ⟨⟨x2, x3, x4, x5, x6, x7, x8, x9, x10, x11, x12, rfl⟩, hd⟩ ⟨rfl, hx⟩
    clear hx
    refine ⟨_, rfl, c, cells, g, rfl, hd, fun pp H2 n ws G2 hP2 ook => ?_⟩
    refine ⟨_, rfl, pp, n, ws, rfl, hP2, ook, fun ov H3 S3 hO3 => ?_⟩
    have hd3 := G2.2.same S3
    have hP3 := hP2.mono S3.kp
    have n1 := ook.n1
    have n6 := ook.n6
    have w10 := ook.w10
    dsimp only
    refine seq_cut (fun σ' H' => ∃ rv row, σ' = [some (.ref a), some (.ref g), some x, some pp, some ov, some rv, x6, x7, x8, x9, x10, x11, x12] ∧ Fct C c cells g H' pp ov rv n ws row ∧ (∀ w ∈ row, w < ws.length) ∧ row.length ≤ 60) (fun TT hT => ?_) ?_
    · refine ⟨_, rfl, _, rfl, _, rfl, c, cells, g, 12, rfl, hd3, by decide, by decide, fun r H4 G4 hr4 => ⟨rfl, _, rfl, ?_⟩⟩
      have kp4 := G4.kp hd3
      refine ite2 (fun _ => ?_) fun _ => ?_
      · exact ⟨c, cells, g, pp, n, ws, 60, rfl, G4.2, hP3.mono kp4, ook, by decide, fun rv H5 row G5 hR hrow hlen => hT _ _ ⟨rv, row, rfl, ⟨G5.2, hP3.mono (kp4.trans (G5.kp G4.2)), hO3.mono (kp4.trans (G5.kp G4.2)), hR⟩, hrow, hlen⟩⟩
      · exact ⟨c, cells, g, pp, n, ws, 16, rfl, G4.2, hP3.mono kp4, ook, by decide, fun rv H5 row G5 hR hrow hlen => hT _ _ ⟨rv, row, rfl, ⟨G5.2, hP3.mono (kp4.trans (G5.kp G4.2)), hO3.mono (kp4.trans (G5.kp G4.2)), hR⟩, hrow, by omega⟩⟩
    rintro σ' H4 ⟨rv, row, rfl, F4, hrow, hlen⟩
    clear hd3 hP3 hO3 S3 hP2 G2 hd
    refine ⟨_, rfl, _, rfl, _, rfl, ov, pp, rv, n, ws, row, rfl, F4.2.2.1, F4.2.1, ook, F4.2.2.2, hrow, by omega, fun lv H5 S5 hL5 => ?_⟩
    have F5 := F4.same S5
    clear F4 S5
    obtain ⟨ap, wv, rfl, _⟩ := id F5.2.1
    obtain ⟨ar, rfl, _⟩ := id F5.2.2.2
    obtain ⟨al, _, rfl, _⟩ := id hL5
    have run_of : ∀ m, StOk n ws.length (run n ws (row.take m)) := fun m => run_ok ook _ fun z hz => hrow z (List.mem_of_mem_take hz)
    dsimp only
    refine seq_cut (fun σ' H' => (∃ x7 x8 x9 x10 x11 x12, σ' = [some (.ref a), some (.ref g), some x, some (.ref ap), some ov, some (.ref ar), some (.ref al), x7, x8, x9, x10, x11, x12]) ∧ Fct C c cells g H' (.ref ap) ov (.ref ar) n ws row ∧ LedAt H' (.ref al) n ws row) (fun TT hT => ?_) ?_
    · obtain ⟨_, e, har5⟩ := id F5.2.2.2
      cases e
      refine ⟨_, rfl, ar, _, rfl, .inr (SqT.of har5), _, rfl, _, rfl, ar, _, rfl, .inr (SqT.of har5), _, _, rfl, rfl, c, cells, g, (nats row).length + 1, rfl, F5.1, by omega, by rw [nats_len]; omega, fun r1 H6 G6 hr1 => ?_⟩
      have F6 := F5.gs G6
      have L6 := hL5.gs F5.1 G6
      obtain ⟨_, e, har6⟩ := id F6.2.2.2
      cases e
      refine ⟨_, rfl, _, rfl, ar, _, rfl, .inr (SqT.of har6), _, _, rfl, rfl, c, cells, g, (nats row).length + 1, rfl, F6.1, by omega, by rw [nats_len]; omega, fun r2 H7 G7 hr2 => ?_⟩
      have F7 := F6.gs G7
      have L7 := L6.gs F6.1 G7
      refine ⟨(by show 3 ≤ sizeLine; decide), fun ml hml => ?_⟩
      have nml : ml ≠ g := Ne.symm (F7.1.away hml).1
      have S8 : Same H7 (upd H7 ml (.lst [.int ((nats row).length : Int), .int (r1 : Int), .int (r2 : Int)])) := Same.new hml
      have F8 := F7.same S8
      have L8 := L7.mono S8
      have hml8 : upd H7 ml (.lst [.int ((nats row).length : Int), .int (r1 : Int), .int (r2 : Int)]) ml = some (.lst [.int ((nats row).length : Int), .int (r1 : Int), .int (r2 : Int)]) := upd_same
      refine ⟨ml, rfl, ⟨_, SqL.of hml8⟩, ?_⟩
      refine for_it (walk_list (xs := [.int ((nats row).length : Int), .int (r1 : Int), .int (r2 : Int)])) (fun j σ H' => ((∃ x7 x8 x9 x10 x11 x12, σ = [some (.ref a), some (.ref g), some x, some (.ref ap), some ov, some (.ref ar), some (.ref al), x7, x8, x9, x10, x11, x12]) ∧ Fct C c cells g H' (.ref ap) ov (.ref ar) n ws row ∧ LedAt H' (.ref al) n ws row) ∧ H' ml = some (.lst [.int ((nats row).length : Int), .int (r1 : Int), .int (r2 : Int)]))
        ⟨⟨⟨_, _, _, _, _, _, rfl⟩, F8, L8⟩, hml8⟩ (fun _ _ _ _ q => SqL.of q.2) ?_ (fun σ H h => hT _ _ h.1)
      clear F5 F6 F7 F8 hL5 L6 L7 L8 hml8 S8 G6 G7 har5 har6
      rintro j y σ Ha H8 hj ⟨⟨⟨y7, y8, y9, y10, y11, y12, rfl⟩, F8, L8⟩, hml8⟩ ⟨rfl, hy⟩
      obtain ⟨m, rfl, hm⟩ : ∃ m : Nat, y = .int (m : Int) ∧ m ≤ row.length := by
        have hj3 : j < 3 := hj
        match j, hj3, hy with
        | 0, _, hy =>
          cases hy
          exact ⟨_, rfl, by rw [nats_len]; omega⟩
        | 1, _, hy =>
          cases hy
          exact ⟨_, rfl, by rw [nats_len] at hr1; omega⟩
        | 2, _, hy =>
          cases hy
          exact ⟨_, rfl, by rw [nats_len] at hr2; omega⟩
      obtain ⟨_, _, e, hap, _⟩ := id F8.2.1
      cases e
      refine ⟨_, rfl, _, rfl, ap, _, _, _, rfl, rfl, SqT.of hap, atI_at (j := 0) rfl rfl, c, cells, g, n, rfl, F8.1, n1, by omega, fun d H9 G9 hd9 => ?_⟩
      have F9 := F8.gs G9
      have L9 := L8.gs F8.1 G9
      have hml9 := G9.get nml hml8
      obtain ⟨_, e, har9⟩ := id F9.2.2.2
      cases e
      obtain ⟨_, fs, e, hal, hfl, hfk⟩ := id L9
      cases e
      obtain ⟨y, hy1, sa, ss, rfl, hsa, hss⟩ := hfk m hm
      obtain ⟨sv, hsv, hslip⟩ := pr_get hss (get_of (x := blank n) (i := d) (by rw [run_length]; exact hd9))
      refine ⟨_, rfl, _, rfl, al, _, _, _, rfl, rfl, SqL.of hal, atI_nat hy1, _, rfl, sa, _, _, _, rfl, rfl, SqT.of hsa, atI_nat hsv, _, rfl, _, rfl, _, rfl, (m : Int), rfl, ?_⟩
      refine rd_take har9 hm fun tv H10 S10 hT10 => ?_
      have F10 := F9.same S10
      refine ⟨_, rfl, ov, tv, n, ws, row.take m, d, rfl, F10.2.2.1, ook, hT10, fun z hz => hrow z (List.mem_of_mem_take hz), by rw [List.length_take]; omega, hd9, fun sv2 H11 S11 hs2 => ?_⟩
      refine ⟨_, _, (hslip.mono (S10.trans S11).kp).dp, hs2.dp, encS_shaped _, encS_shaped _, _, rfl, ?_⟩
      rw [SeqAt.eqv_refl _ (encS_lay _)]
      exact iteF ⟨⟨⟨_, _, _, _, _, _, rfl⟩, F10.same S11, L9.mono (S10.trans S11)⟩, (S10.trans S11) _ _ hml9⟩
    clear F5 hL5
    rintro σ' H6 ⟨⟨y7, y8, y9, y10, y11, y12, rfl⟩, F6, L6⟩
    refine seq_cut (fun σ' H' => (∃ x7 x8 x9 x10 x11 x12, σ' = [some (.ref a), some (.ref g), some x, some (.ref ap), some ov, some (.ref ar), some (.ref al), x7, x8, x9, x10, x11, x12]) ∧ Fct C c cells g H' (.ref ap) ov (.ref ar) n ws row ∧ LedAt H' (.ref al) n ws row) (fun TT hT => ?_) ?_
    · obtain ⟨_, e, har6⟩ := id F6.2.2.2
      cases e
      have hnl := nats_len row
      refine ⟨_, rfl, ar, _, rfl, .inr (SqT.of har6), _, rfl, by omega, by omega, ?_⟩
      refine for_it walk_range (fun j σ H' => (∃ x7 x8 x9 x10 x11 x12, σ = [some (.ref a), some (.ref g), some x, some (.ref ap), some ov, some (.ref ar), some (.ref al), x7, x8, x9, x10, x11, x12]) ∧ Fct C c cells g H' (.ref ap) ov (.ref ar) n ws row ∧ LedAt H' (.ref al) n ws row)
        ⟨⟨_, _, _, _, _, _, rfl⟩, F6, L6⟩ (fun _ _ _ _ _ => True.intro) ?_ (fun σ H h => hT _ _ h)
      clear F6 L6 har6
      rintro j y σ Ha H7 hj ⟨⟨z7, z8, z9, z10, z11, z12, rfl⟩, F7, L7⟩ ⟨rfl, hy⟩
      have hy : y = V.int ((j : Nat) : Int) := hy.trans (congrArg V.int (by omega))
      subst hy
      have hjr : j < row.length := by omega
      obtain ⟨_, e, har⟩ := id F7.2.2.2
      cases e
      obtain ⟨_, _, e, hap, aw, wxs, rfl, haw, hw⟩ := id F7.2.1
      cases e
      obtain ⟨_, fs, e, hal, hfl, hfk⟩ := id L7
      cases e
      obtain ⟨w0, hw0⟩ : ∃ w0, row[j]? = some w0 := ⟨_, List.getElem?_eq_getElem hjr⟩
      have hw0' : (nats row)[j]? = some (.int ((w0 : Nat) : Int)) := by
        unfold nats
        rw [List.getElem?_map, hw0]
        rfl
      have hwl := hrow w0 (List.mem_of_getElem? hw0)
      have hm := ook.lot hwl
      obtain ⟨lv, hlv, am, rfl, ham⟩ := pr_get hw (get_of hwl [])
      have hl6 := ook.len6 hm
      have hl0 := ook.pos hm
      have hlt := ook.lt _ hm
      have st_ok := run_of j
      have et : run n ws (row.take (j + 1)) = step n ws (run n ws (row.take j)) w0 := by
        rw [take_succ_some hw0, run_snoc]
      obtain ⟨y0, hy0, sa0, ss0, rfl, hsa0, hss0⟩ := hfk j (by omega)
      obtain ⟨y1, hy1, sa1, ss1, rfl, hsa1, hss1⟩ := hfk (j + 1) (by omega)
      have len1 := run_length n ws (row.take (j + 1))
      obtain ⟨d0, hd0⟩ : ∃ d0, (ws.getD w0 [])[0]? = some d0 := ⟨_, List.getElem?_eq_getElem hl0⟩
      obtain ⟨dl, hdl⟩ : ∃ dl, (ws.getD w0 [])[(ws.getD w0 []).length - 1]? = some dl := ⟨_, List.getElem?_eq_getElem (by omega)⟩
      have hd0m := List.mem_of_getElem? hd0
      have hdlm := List.mem_of_getElem? hdl
      have fst := step_first (n := n) (works := ws) (st := run n ws (row.take j)) (w := w0) (d := dl) (e := d0) st_ok.1 hdlm (hlt dl hdlm) hd0m (hlt d0 hd0m)
      rw [← et] at fst
      have ok1 : SlipOk n ws.length ((run n ws (row.take (j + 1))).getD dl (blank n)) := (run_of (j + 1)).2 _ (getD_mem (by rw [len1]; exact hlt dl hdlm))
      generalize run n ws (row.take (j + 1)) = st1 at fst hss1 len1 ok1
      generalize run n ws (row.take j) = st0' at fst hss0 st_ok
      generalize elot : ws.getD w0 [] = lot at ham hl6 hl0 hlt hd0 hdl fst hd0m hdlm hm
      have hd0' : (nats lot)[0]? = some (.int ((d0 : Nat) : Int)) := by
        unfold nats
        rw [List.getElem?_map, hd0]
        rfl
      have hdl' : (nats lot)[lot.length - 1]? = some (.int ((dl : Nat) : Int)) := by
        unfold nats
        rw [List.getElem?_map, hdl]
        rfl
      refine ⟨_, rfl, ap, _, _, _, rfl, rfl, SqT.of hap, atI_at (j := 1) rfl rfl, _, rfl, _, rfl, ar, _, _, _, rfl, rfl, SqT.of har, atI_nat hw0', aw, _, _, _, rfl, rfl, SqT.of haw, atI_nat hlv, ?_⟩
      refine ⟨_, rfl, _, rfl, ar, _, _, _, rfl, rfl, SqT.of har, atI_nat hw0', _, rfl, _, rfl, ar, _, _, _, rfl, rfl, SqT.of har, atI_nat hw0', _, rfl, am, rfl, ⟨_, SqT.of ham⟩, fun D3 hD3 => ?_⟩
      refine lc_one (walk_tup (xs := nats lot)) (P := fun q y H => SlipAt H y (st0'.getD (lot.getD q 0) (blank n))) hD3 (by rw [nats_len]; omega) (fun H' s' => SqT.of (s' _ _ ham)) (fun i y H H' kp h => h.mono kp) ?_ ?_
      · rintro q x' H8 H9 Nx hq S8 ⟨rfl, hx'⟩ kN
        obtain ⟨d1, hd1, rfl⟩ := nats_get hx'
        have hdn := hlt d1 (List.mem_of_getElem? hd1)
        obtain ⟨bv, hbv, hbs⟩ := pr_get hss0 (get_of (x := blank n) (i := d1) (by rw [st_ok.1]; exact hdn))
        refine ⟨_, rfl, _, rfl, al, _, _, _, rfl, rfl, SqL.of (S8 _ _ hal), atI_nat hy0, _, rfl, sa0, _, _, _, rfl, rfl, SqT.of (S8 _ _ hsa0), atI_nat hbv, kN _ _ (Same.refl _) ?_⟩
        rw [getD_eq hd1]
        exact hbs.mono S8.kp
      · intro acc H8 S8 hD8 hl8 hP8
        rw [nats_len] at hl8
        have hPr : Paired (SlipAt H8) acc (ofLot n st0' lot) := pr_map hl8 fun q y d1 hy hd1 => by
          have z := hP8 q y hy
          rw [getD_eq hd1] at z
          exact z
        have okl := ofLot_ok st_ok hlt
        have lenl : (ofLot n st0' lot).length = lot.length := by unfold ofLot; rw [List.length_map]
        refine ⟨D3, acc, ofLot n st0' lot, w0, n, ws.length, rfl, hD8, hPr, okl, by omega, n6, hwl, w10, fun lb H9 S9 e => ?_⟩
        subst e
        refine ⟨(by show 2 ≤ sizeLine; decide), fun t ht => ?_⟩
        have S10 : Same H9 (upd H9 t (.tup [.int (w0 : Int), .int ((lbl (namesOf (ofLot n st0' lot)) w0 : Nat) : Int)])) := Same.new ht
        have ht10 : upd H9 t (.tup [.int (w0 : Int), .int ((lbl (namesOf (ofLot n st0' lot)) w0 : Nat) : Int)]) t = some (.tup [.int (w0 : Int), .int ((lbl (namesOf (ofLot n st0' lot)) w0 : Nat) : Int)]) := upd_same
        generalize upd H9 t (.tup [.int (w0 : Int), .int ((lbl (namesOf (ofLot n st0' lot)) w0 : Nat) : Int)]) = H10 at S10 ht10
        have S := S8.trans (S9.trans S10)
        obtain ⟨sv, hsv, az, u1, u2, u3, rfl, haz, ⟨af, fs1, rfl, haf, hfp⟩, _, _⟩ := pr_get hss1 (get_of (x := blank n) (i := dl) (by rw [len1]; exact hlt dl hdlm))
        obtain ⟨nv, hnv, hnm⟩ := pr_get hfp (get_of (x := none) (i := d0) (by rw [ok1.fO.1]; exact hlt d0 hd0m))
        rw [fst] at hnm
        obtain ⟨an, rfl, han⟩ := hnm
        refine ⟨_, rfl, _, rfl, _, _, rfl, rfl, al, fs, _, _, rfl, rfl, SqL.of (S _ _ hal), atI_at (j := j + 1) rfl hy1, _, rfl, _, rfl, am, _, _, _, rfl, rfl, SqT.of (S _ _ ham), atI_neg1 (j := lot.length - 1) (by rw [nats_len]; omega) hdl', sa1, _, _, _, rfl, rfl, SqT.of (S _ _ hsa1), atI_nat hsv, az, _, _, _, rfl, rfl, SqT.of (S _ _ haz), atI_at (j := 0) rfl rfl, _, rfl, am, _, _, _, rfl, rfl, SqT.of (S _ _ ham), atI_at (j := 0) rfl hd0', af, _, _, _, rfl, rfl, SqT.of (S _ _ haf), atI_nat hnv, _, rfl, an, t, _, _, rfl, S _ _ han, ht10, fun v H11 S11 e => ⟨true, e, iteF ?_⟩⟩
        exact ⟨⟨_, _, _, _, _, _, rfl⟩, F7.same (S.trans S11), L7.mono (S.trans S11)⟩
    clear F6 L6
    rintro σ' H6 ⟨⟨z7, z8, z9, z10, z11, z12, rfl⟩, F6, L6⟩
    obtain ⟨_, e, har6⟩ := id F6.2.2.2
    cases e
    have hnl := nats_len row
    refine ⟨_, rfl, ar, _, rfl, .inr (SqT.of har6), _, _, rfl, ⟨by decide, by decide, by omega, by omega⟩, ?_⟩
    refine for_it walk_range (fun j σ H' => (∃ x7 x8 x9 x10 x11 x12, σ = [some (.ref a), some (.ref g), some x, some (.ref ap), some ov, some (.ref ar), some (.ref al), x7, x8, x9, x10, x11, x12]) ∧ Fct C c cells g H' (.ref ap) ov (.ref ar) n ws row ∧ LedAt H' (.ref al) n ws row)
      ⟨⟨_, _, _, _, _, _, rfl⟩, F6, L6⟩ (fun _ _ _ _ _ => True.intro) ?_ ?_
    rotate_left
    · rintro σ H7 ⟨⟨u7, u8, u9, u10, u11, u12, rfl⟩, F7, L7⟩
      exact ⟨⟨_, _, _, _, _, _, _, _, _, _, _, rfl⟩, F7.1⟩
    clear F6 L6 har6
    rintro j y σ Ha H7 hj ⟨⟨u7, u8, u9, u10, u11, u12, rfl⟩, F7, L7⟩ ⟨rfl, hy⟩
    have hy : y = V.int ((1 + j : Nat) : Int) := hy.trans (congrArg V.int (by omega))
    subst hy
    have hjr : j + 1 < row.length := by omega
    obtain ⟨_, e, har⟩ := id F7.2.2.2
    cases e
    obtain ⟨wa, hwa⟩ : ∃ w0, row[j]? = some w0 := ⟨_, List.getElem?_eq_getElem (by omega)⟩
    obtain ⟨wb, hwb⟩ : ∃ w0, row[1 + j]? = some w0 := ⟨_, List.getElem?_eq_getElem (by omega)⟩
    have hwa' : (nats row)[j]? = some (.int ((wa : Nat) : Int)) := by
      unfold nats
      rw [List.getElem?_map, hwa]
      rfl
    have hwb' : (nats row)[1 + j]? = some (.int ((wb : Nat) : Int)) := by
      unfold nats
      rw [List.getElem?_map, hwb]
      rfl
    have hal' := hrow wa (List.mem_of_getElem? hwa)
    have hbl' := hrow wb (List.mem_of_getElem? hwb)
    refine ⟨_, rfl, _, rfl, _, rfl, _, _, rfl, rfl, ar, _, _, _, rfl, rfl, SqT.of har, atI_at (j := j) (by omega) hwa', _, rfl, _, rfl, ar, _, _, _, rfl, rfl, SqT.of har, atI_nat hwb', _, n, ws, wa, wb, rfl, F7.2.1, ook, hal', hbl', fun mv H8 S8 hmv => ?_⟩
    obtain ⟨q, e, hq⟩ := hmv
    refine ⟨q, e, ?_⟩
    have F8 := F7.same S8
    have L8 := L7.mono S8
    have har8 := S8 _ _ har
    cases q with
    | true => exact iteF ⟨⟨_, _, _, _, _, _, rfl⟩, F8, L8⟩
    | false =>
      have apart := hq rfl
      refine iteT ?_
      refine ⟨_, rfl, _, rfl, _, _, rfl, rfl, (j : Int), congrArg V.int (by omega), ?_⟩
      refine rd_take har8 (by omega) fun tv H9 S9 hT9 => ?_
      have har9 := S9 _ _ har8
      refine ⟨_, rfl, _, rfl, ar, _, _, _, rfl, rfl, SqT.of har9, atI_nat hwb', _, rfl, _, rfl, _, _, rfl, rfl, ar, _, _, _, rfl, rfl, SqT.of har9, atI_at (j := j) (by omega) hwa', (by show 2 ≤ sizeLine; decide), fun t ht => ?_⟩
      have S10 : Same H9 (upd H9 t (.tup [.int (wb : Int), .int (wa : Int)])) := Same.new ht
      have hT10 : LotAt (upd H9 t (.tup [.int (wb : Int), .int (wa : Int)])) (.ref t) [wb, wa] := ⟨t, rfl, upd_same⟩
      refine rd_cat (hT9.mono S10.kp) hT10 (by rw [List.length_take]; show _ + 2 ≤ _; omega) fun cv H11 S11 hC11 => ?_
      have S911 := S9.trans (S10.trans S11)
      refine ⟨_, rfl, _, rfl, _, _, rfl, rfl, ((j + 2 : Nat) : Int), congrArg V.int (by omega), ?_⟩
      dsimp only [tNoPart]
      refine rd_drop (m := j + 2) (S911 _ _ har8) (by omega) fun dv H12 S12 hD12 => ?_
      refine rd_cat (hC11.mono S12.kp) hD12 (by rw [List.length_append, List.length_take, List.length_drop]; show _ + 2 + _ ≤ _; omega) fun ev H13 S13 hE13 => ?_
      have S813 := S911.trans (S12.trans S13)
      have F13 := F8.same S813
      have L13 := L8.mono S813
      have erow : row.take j ++ wa :: wb :: row.drop (j + 2) = row := by
        have e1 : row.drop j = wa :: row.drop (j + 1) := by
          rw [List.drop_eq_getElem_cons (by omega)]
          rw [List.getElem?_eq_getElem (by omega)] at hwa
          rw [Option.some.inj hwa]
        have e2 : row.drop (j + 1) = wb :: row.drop (j + 2) := by
          rw [List.drop_eq_getElem_cons hjr]
          have e3 : row[1 + j]? = row[j + 1]? := by rw [Nat.add_comm]
          rw [e3, List.getElem?_eq_getElem hjr] at hwb
          rw [Option.some.inj hwb]
        rw [← e2, ← e1, List.take_append_drop]
      have eoth : (row.take j ++ [wb, wa]) ++ row.drop (j + 2) = row.take j ++ wb :: wa :: row.drop (j + 2) := by simp
      rw [eoth] at hE13
      have esw := run_swap (n := n) (works := ws) (row.take j) (row.drop (j + 2)) apart
      rw [erow] at esw
      have olen : (row.take j ++ wb :: wa :: row.drop (j + 2)).length = row.length := by
        have z := congrArg List.length erow
        rw [List.length_append, List.length_cons, List.length_cons] at z ⊢
        exact z
      have ovalid : ∀ z ∈ row.take j ++ wb :: wa :: row.drop (j + 2), z < ws.length := fun z hz => by
        rcases List.mem_append.mp hz with q | q
        · exact hrow z (List.mem_of_mem_take q)
        · rcases List.mem_cons.mp q with q | q
          · rw [q]; exact hbl'
          · rcases List.mem_cons.mp q with q | q
            · rw [q]; exact hal'
            · exact hrow z (List.mem_of_mem_drop q)
      generalize row.take j ++ wb :: wa :: row.drop (j + 2) = oth at hE13 esw olen ovalid
      refine ⟨_, rfl, _, rfl, _, rfl, ov, _, ev, n, ws, oth, rfl, F13.2.2.1, F13.2.1, ook, hE13, ovalid, by omega, fun lo H14 S14 hLo => ?_⟩
      obtain ⟨ao, fo, rfl, hao, hfol, hfok⟩ := hLo
      have F14 := F13.same S14
      have L14 := L13.mono S14
      obtain ⟨_, fs, e, hal, hfl, hfk⟩ := id L14
      cases e
      obtain ⟨yo, hyo, hso⟩ := hfok oth.length (Nat.le_refl _)
      obtain ⟨yr, hyr, hsr⟩ := hfk row.length (Nat.le_refl _)
      rw [List.take_length] at hso hsr
      rw [esw] at hso
      refine ⟨_, rfl, ao, _, _, _, rfl, rfl, SqL.of hao, atI_neg1 hfol hyo, _, rfl, _, rfl, al, _, _, _, rfl, rfl, SqL.of hal, atI_neg1 hfl hyr, _, _, hso.dp, hsr.dp, encSt_shaped _, encSt_shaped _, _, rfl, ?_⟩
      rw [SeqAt.eqv_refl _ (encSt_lay _)]
      exact iteF ⟨⟨_, _, _, _, _, _, _, _, _, _, _, rfl⟩, F14.1⟩
end
end K31
/-! K31G: all promises together; what the head tells. -/
namespace K31
open PySem L2
theorem df_mk {K : PySem.W.Frag} {h : Heap} {mg : Str → Option Value} (X : K.In h) (G : h.Ns mainGlobals mg) {x : Str} {st : Stmt} {ps : List Str} {f : Addr} {oc : Value} {od an : Option Addr} {osl : Array (Option Value)} {kV doc pm cdv ct : Value}
    (a : PySem.W.nsIn K mainGlobals x = some (some (.ref f))) (l : K.lookup f = some ⟨oc, od, .func (PySem.W.fnOf x x (defArgs st) (defBody st) (defScope st) .none kV doc pm an cdv ct), osl⟩)
    (c : PySem.W.codeIn K cdv x = true) (k : PySem.W.keepIn K (.ref f) = true)
    (hb : ∀ (kV doc pm : Value) (an : Option Addr) (cdv ct : Value) (us : List Value), us.length = ps.length → bindArgs (PySem.W.fnOf x x (defArgs st) (defBody st) (defScope st) .none kV doc pm an cdv ct) ⟨us, []⟩ = pure (ps.zip us)) : Df K mg x st ps :=
  ⟨f, _, fun_mk l c k, (fun_mk l c k).binds hb, PySem.W.mg_of X G a⟩
/-- a promise for the def at f itself -/
theorem fx_at {P : Program} {w : World} {K : PySem.W.Frag} {mg : Str → Option Value} {base : Heap} {x : Str} {st : Stmt} {ps : List Str} {k : Nat} {sp : Sp} {f : Addr} {fd : FuncData} (F0 : Fun K x x st f fd) (m0 : mg x = some (.ref f)) (G : Fx P w K mg base x st ps k sp) : FnOk P w K mg base CX0 k f fd ps sp := by
  obtain ⟨f', fd', F', b', m', ok⟩ := G.ex
  have e := m0.symm.trans m'
  cases e
  obtain ⟨oc, od, kV, doc, pm, an, cdv, ct, osl, e1, l1, _⟩ := F0.ex
  obtain ⟨oc', od', kV', doc', pm', an', cdv', ct', osl', e2, l2, _⟩ := F'.ex
  have e3 := Option.some.inj (l1.symm.trans l2)
  injection e3 with _ _ e4 _
  injection e4 with e5
  rw [e5]
  exact ok
/-- all that the head tells -/
structure AllD (K : PySem.W.Frag) (mg : Str → Option Value) (C : Addr) : Prop where
  d_is_integer : Df K mg "is_integer" s_is_integer ["thing"]
  d_is_within : Df K mg "is_within" s_is_within ["thing", "least", "most"]
  d_is_pair : Df K mg "is_pair" s_is_pair ["thing"]
  d_is_lot : Df K mg "is_lot" s_is_lot ["thing", "below"]
  d_are_works : Df K mg "are_works" s_are_works ["desks", "thing"]
  d_is_work : Df K mg "is_work" s_is_work ["office", "thing"]
  d_check_work : Df K mg "check_work" s_check_work ["office", "thing"]
  d_check_desk : Df K mg "check_desk" s_check_desk ["office", "thing"]
  d_is_row_of : Df K mg "is_row_of" s_is_row_of ["office", "thing"]
  d_check_row : Df K mg "check_row" s_check_row ["office", "thing"]
  d_blank_of : Df K mg "blank_of" s_blank_of ["office"]
  d_is_known : Df K mg "is_known" s_is_known ["one", "other", "desk"]
  d_word_for : Df K mg "word_for" s_word_for ["one", "other", "desk"]
  d_newest : Df K mg "newest" s_newest ["slips", "desk"]
  d_label_behind : Df K mg "label_behind" s_label_behind ["work", "slips"]
  d_slip_named : Df K mg "slip_named" s_slip_named ["office", "name", "slips"]
  d_slip_behind : Df K mg "slip_behind" s_slip_behind ["office", "work", "slips"]
  d_run_slips : Df K mg "run_slips" s_run_slips ["office", "row"]
  d_is_name : Df K mg "is_name" s_is_name ["office", "thing"]
  d_are_names : Df K mg "are_names" s_are_names ["office", "thing"]
  d_are_rows_of_names : Df K mg "are_rows_of_names" s_are_rows_of_names ["office", "thing"]
  d_is_slip : Df K mg "is_slip" s_is_slip ["office", "thing"]
  d_slip : Df K mg "slip" s_slip ["office", "row", "desk"]
  d_blank_slip : Df K mg "blank_slip" s_blank_slip ["office"]
  d_passed : Df K mg "passed" s_passed ["office", "work", "slips"]
  d_law_dice : Df K mg "_law_dice" s_law_dice ["_law_script"]
  d_law_draw : Df K mg "_law_draw" s_law_draw ["_law_dice_here", "_law_sides"]
  d_law_parts : Df K mg "_law_parts" s_law_parts ["_law_dice_here", "_law_most"]
  d_law_made : Df K mg "_law_made" s_law_made ["_law_parts_here"]
  d_law_some_parts : Df K mg "_law_some_parts" s_law_some_parts ["_law_dice_here"]
  d_law_row : Df K mg "_law_row" s_law_row ["_law_dice_here", "_law_parts_here", "_law_most"]
  d_law_meets : Df K mg "_law_meets" s_law_meets ["_law_parts_here", "_law_one", "_law_other"]
  d_law_whole : Df K mg "_law_whole" s_law_whole ["_law_shown", "_law_due"]
  d_law_same : Df K mg "_law_same" s_law_same ["_law_shown", "_law_due"]
  d_law_led : Df K mg "_law_led" s_law_led ["_law_office", "_law_parts_here", "_law_row_here"]
  d_law_least_label : Df K mg "_law_least_label" s_law_least_label ["_law_work", "_law_slips"]
  d_law : Df K mg "law" s_law ["_law_script"]
  T : Txt K mg
  O : Ofc K C
  I : ∃ f fd, Mk K C f ∧ Fun K "__init__" "Office.__init__" s_Office___init f fd ∧ Binds K fd ["self", "desks", "works"] [] ∧ mg "Office" = some (.ref C)
theorem law_ok {P : Program} {w : World} {K : PySem.W.Frag} {mg : Str → Option Value} {base : Heap} {C : Addr} (A : AllD K mg C) : Fx P w K mg base "law" s_law ["_law_script"] 10 (sp_law K) := by
  have T := A.T
  have O := A.O
  have F_is_integer := fx_is_integer (P := P) (w := w) (base := base) A.d_is_integer T
  have F_is_within := fx_is_within A.d_is_within T F_is_integer
  have F_is_pair := fx_is_pair (P := P) (w := w) (base := base) A.d_is_pair T
  have F_is_lot := fx_is_lot A.d_is_lot T F_is_within
  have F_are_works := fx_are_works A.d_are_works T F_is_lot
  have F_is_work := fx_is_work A.d_is_work T O F_is_within
  have F_check_work := fx_check_work A.d_check_work T F_is_work
  have F_check_desk := fx_check_desk A.d_check_desk T O F_is_within
  have F_is_row_of := fx_is_row_of A.d_is_row_of T F_is_work
  have F_check_row := fx_check_row A.d_check_row T F_is_row_of
  have F_init : Mx P w K mg base "Office" C ["self", "desks", "works"] 5 (sp_init C) := by
    obtain ⟨f, fd, M, F, b, m⟩ := A.I
    exact ⟨f, fd, M, b, m, fn_init F T O F_is_within F_are_works⟩
  have F_blank_of := fx_blank_of (P := P) (w := w) (base := base) A.d_blank_of T O
  have F_is_known := fx_is_known (P := P) (w := w) (base := base) A.d_is_known T
  have F_word_for := fx_word_for A.d_word_for T F_is_known
  have F_newest := fx_newest A.d_newest T F_word_for
  have F_label_behind := fx_label_behind (P := P) (w := w) (base := base) A.d_label_behind T
  have F_slip_named := fx_slip_named A.d_slip_named T O F_newest
  have F_slip_behind := fx_slip_behind A.d_slip_behind T F_slip_named F_label_behind
  have F_is_name := fx_is_name A.d_is_name T F_is_pair F_is_work F_is_within
  have F_are_names := fx_are_names A.d_are_names T O F_is_name
  have F_are_rows_of_names := fx_are_rows_of_names A.d_are_rows_of_names T O F_are_names
  have F_is_slip := fx_is_slip A.d_is_slip T O F_are_names F_are_rows_of_names
  have F_blank_slip := fx_blank_slip A.d_blank_slip T F_blank_of
  have F_passed := fx_passed A.d_passed T O F_check_work F_is_slip F_slip_behind
  have F_run_slips := fx_run_slips A.d_run_slips T O F_blank_of F_slip_behind
  have F_slip := fx_slip A.d_slip T F_check_row F_check_desk F_run_slips
  have F_law_dice := fx_law_dice (P := P) (w := w) (base := base) A.d_law_dice T
  have F_law_draw := fx_law_draw (P := P) (w := w) (base := base) A.d_law_draw T
  have F_law_parts := fx_law_parts A.d_law_parts T F_law_draw
  have F_law_some_parts := fx_law_some_parts A.d_law_some_parts T F_law_draw F_law_parts
  have F_law_row := fx_law_row A.d_law_row T F_law_draw
  have F_law_made := fx_law_made A.d_law_made T F_init
  have F_law_meets := fx_law_meets (P := P) (w := w) (base := base) A.d_law_meets T
  have F_law_whole := fx_law_whole (P := P) (w := w) (base := base) A.d_law_whole T
  have F_law_same := fx_law_same_n A.d_law_same T F_law_whole
  have F_law_least_label := fx_law_least_label (P := P) (w := w) (base := base) A.d_law_least_label T
  have F_law_led := fx_law_led A.d_law_led T F_blank_slip F_passed
  exact fx_law A.d_law T F_law_dice F_law_draw F_law_some_parts F_law_made F_law_row F_law_led F_slip F_law_least_label F_law_same F_law_meets
set_option maxHeartbeats 40000000 in
theorem all_mk {K : PySem.W.Frag} {h : Heap} {mg : Str → Option Value} {fa : Addr} (X : K.In h) (G : h.Ns mainGlobals mg) (hfa : mg "law" = some (.ref fa))
    {f_is_integer : Addr} {od_is_integer an_is_integer : Option Addr} {sl_is_integer : Array (Option Value)} {oc_is_integer kV_is_integer dc_is_integer pm_is_integer cd_is_integer ct_is_integer : Value}
    {f_is_within : Addr} {od_is_within an_is_within : Option Addr} {sl_is_within : Array (Option Value)} {oc_is_within kV_is_within dc_is_within pm_is_within cd_is_within ct_is_within : Value}
    {f_is_pair : Addr} {od_is_pair an_is_pair : Option Addr} {sl_is_pair : Array (Option Value)} {oc_is_pair kV_is_pair dc_is_pair pm_is_pair cd_is_pair ct_is_pair : Value}
    {f_is_lot : Addr} {od_is_lot an_is_lot : Option Addr} {sl_is_lot : Array (Option Value)} {oc_is_lot kV_is_lot dc_is_lot pm_is_lot cd_is_lot ct_is_lot : Value}
    {f_are_works : Addr} {od_are_works an_are_works : Option Addr} {sl_are_works : Array (Option Value)} {oc_are_works kV_are_works dc_are_works pm_are_works cd_are_works ct_are_works : Value}
    {f_is_work : Addr} {od_is_work an_is_work : Option Addr} {sl_is_work : Array (Option Value)} {oc_is_work kV_is_work dc_is_work pm_is_work cd_is_work ct_is_work : Value}
    {f_check_work : Addr} {od_check_work an_check_work : Option Addr} {sl_check_work : Array (Option Value)} {oc_check_work kV_check_work dc_check_work pm_check_work cd_check_work ct_check_work : Value}
    {f_check_desk : Addr} {od_check_desk an_check_desk : Option Addr} {sl_check_desk : Array (Option Value)} {oc_check_desk kV_check_desk dc_check_desk pm_check_desk cd_check_desk ct_check_desk : Value}
    {f_is_row_of : Addr} {od_is_row_of an_is_row_of : Option Addr} {sl_is_row_of : Array (Option Value)} {oc_is_row_of kV_is_row_of dc_is_row_of pm_is_row_of cd_is_row_of ct_is_row_of : Value}
    {f_check_row : Addr} {od_check_row an_check_row : Option Addr} {sl_check_row : Array (Option Value)} {oc_check_row kV_check_row dc_check_row pm_check_row cd_check_row ct_check_row : Value}
    {f_blank_of : Addr} {od_blank_of an_blank_of : Option Addr} {sl_blank_of : Array (Option Value)} {oc_blank_of kV_blank_of dc_blank_of pm_blank_of cd_blank_of ct_blank_of : Value}
    {f_is_known : Addr} {od_is_known an_is_known : Option Addr} {sl_is_known : Array (Option Value)} {oc_is_known kV_is_known dc_is_known pm_is_known cd_is_known ct_is_known : Value}
    {f_word_for : Addr} {od_word_for an_word_for : Option Addr} {sl_word_for : Array (Option Value)} {oc_word_for kV_word_for dc_word_for pm_word_for cd_word_for ct_word_for : Value}
    {f_newest : Addr} {od_newest an_newest : Option Addr} {sl_newest : Array (Option Value)} {oc_newest kV_newest dc_newest pm_newest cd_newest ct_newest : Value}
    {f_label_behind : Addr} {od_label_behind an_label_behind : Option Addr} {sl_label_behind : Array (Option Value)} {oc_label_behind kV_label_behind dc_label_behind pm_label_behind cd_label_behind ct_label_behind : Value}
    {f_slip_named : Addr} {od_slip_named an_slip_named : Option Addr} {sl_slip_named : Array (Option Value)} {oc_slip_named kV_slip_named dc_slip_named pm_slip_named cd_slip_named ct_slip_named : Value}
    {f_slip_behind : Addr} {od_slip_behind an_slip_behind : Option Addr} {sl_slip_behind : Array (Option Value)} {oc_slip_behind kV_slip_behind dc_slip_behind pm_slip_behind cd_slip_behind ct_slip_behind : Value}
    {f_run_slips : Addr} {od_run_slips an_run_slips : Option Addr} {sl_run_slips : Array (Option Value)} {oc_run_slips kV_run_slips dc_run_slips pm_run_slips cd_run_slips ct_run_slips : Value}
    {f_is_name : Addr} {od_is_name an_is_name : Option Addr} {sl_is_name : Array (Option Value)} {oc_is_name kV_is_name dc_is_name pm_is_name cd_is_name ct_is_name : Value}
    {f_are_names : Addr} {od_are_names an_are_names : Option Addr} {sl_are_names : Array (Option Value)} {oc_are_names kV_are_names dc_are_names pm_are_names cd_are_names ct_are_names : Value}
    {f_are_rows_of_names : Addr} {od_are_rows_of_names an_are_rows_of_names : Option Addr} {sl_are_rows_of_names : Array (Option Value)} {oc_are_rows_of_names kV_are_rows_of_names dc_are_rows_of_names pm_are_rows_of_names cd_are_rows_of_names ct_are_rows_of_names : Value}
    {f_is_slip : Addr} {od_is_slip an_is_slip : Option Addr} {sl_is_slip : Array (Option Value)} {oc_is_slip kV_is_slip dc_is_slip pm_is_slip cd_is_slip ct_is_slip : Value}
    {f_slip : Addr} {od_slip an_slip : Option Addr} {sl_slip : Array (Option Value)} {oc_slip kV_slip dc_slip pm_slip cd_slip ct_slip : Value}
    {f_blank_slip : Addr} {od_blank_slip an_blank_slip : Option Addr} {sl_blank_slip : Array (Option Value)} {oc_blank_slip kV_blank_slip dc_blank_slip pm_blank_slip cd_blank_slip ct_blank_slip : Value}
    {f_passed : Addr} {od_passed an_passed : Option Addr} {sl_passed : Array (Option Value)} {oc_passed kV_passed dc_passed pm_passed cd_passed ct_passed : Value}
    {f_law_dice : Addr} {od_law_dice an_law_dice : Option Addr} {sl_law_dice : Array (Option Value)} {oc_law_dice kV_law_dice dc_law_dice pm_law_dice cd_law_dice ct_law_dice : Value}
    {f_law_draw : Addr} {od_law_draw an_law_draw : Option Addr} {sl_law_draw : Array (Option Value)} {oc_law_draw kV_law_draw dc_law_draw pm_law_draw cd_law_draw ct_law_draw : Value}
    {f_law_parts : Addr} {od_law_parts an_law_parts : Option Addr} {sl_law_parts : Array (Option Value)} {oc_law_parts kV_law_parts dc_law_parts pm_law_parts cd_law_parts ct_law_parts : Value}
    {f_law_made : Addr} {od_law_made an_law_made : Option Addr} {sl_law_made : Array (Option Value)} {oc_law_made kV_law_made dc_law_made pm_law_made cd_law_made ct_law_made : Value}
    {f_law_some_parts : Addr} {od_law_some_parts an_law_some_parts : Option Addr} {sl_law_some_parts : Array (Option Value)} {oc_law_some_parts kV_law_some_parts dc_law_some_parts pm_law_some_parts cd_law_some_parts ct_law_some_parts : Value}
    {f_law_row : Addr} {od_law_row an_law_row : Option Addr} {sl_law_row : Array (Option Value)} {oc_law_row kV_law_row dc_law_row pm_law_row cd_law_row ct_law_row : Value}
    {f_law_meets : Addr} {od_law_meets an_law_meets : Option Addr} {sl_law_meets : Array (Option Value)} {oc_law_meets kV_law_meets dc_law_meets pm_law_meets cd_law_meets ct_law_meets : Value}
    {f_law_whole : Addr} {od_law_whole an_law_whole : Option Addr} {sl_law_whole : Array (Option Value)} {oc_law_whole kV_law_whole dc_law_whole pm_law_whole cd_law_whole ct_law_whole : Value}
    {f_law_same : Addr} {od_law_same an_law_same : Option Addr} {sl_law_same : Array (Option Value)} {oc_law_same kV_law_same dc_law_same pm_law_same cd_law_same ct_law_same : Value}
    {f_law_led : Addr} {od_law_led an_law_led : Option Addr} {sl_law_led : Array (Option Value)} {oc_law_led kV_law_led dc_law_led pm_law_led cd_law_led ct_law_led : Value}
    {f_law_least_label : Addr} {od_law_least_label an_law_least_label : Option Addr} {sl_law_least_label : Array (Option Value)} {oc_law_least_label kV_law_least_label dc_law_least_label pm_law_least_label cd_law_least_label ct_law_least_label : Value}
    {f_law : Addr} {od_law an_law : Option Addr} {sl_law : Array (Option Value)} {oc_law kV_law dc_law pm_law cd_law ct_law : Value}
    {C f_Oinit : Addr} {od_Oinit an_Oinit : Option Addr} {sl_Oinit : Array (Option Value)} {oc_Oinit kV_Oinit dc_Oinit pm_Oinit cd_Oinit ct_Oinit : Value}
    {t6 t10 : Tok}
    (a_is_integer : PySem.W.nsIn K mainGlobals "is_integer" = some (some (.ref f_is_integer))) (l_is_integer : K.lookup f_is_integer = some ⟨oc_is_integer, od_is_integer, .func (PySem.W.fnOf "is_integer" "is_integer" (defArgs s_is_integer) (defBody s_is_integer) (defScope s_is_integer) .none kV_is_integer dc_is_integer pm_is_integer an_is_integer cd_is_integer ct_is_integer), sl_is_integer⟩) (c_is_integer : PySem.W.codeIn K cd_is_integer "is_integer" = true) (k_is_integer : PySem.W.keepIn K (.ref f_is_integer) = true)
    (a_is_within : PySem.W.nsIn K mainGlobals "is_within" = some (some (.ref f_is_within))) (l_is_within : K.lookup f_is_within = some ⟨oc_is_within, od_is_within, .func (PySem.W.fnOf "is_within" "is_within" (defArgs s_is_within) (defBody s_is_within) (defScope s_is_within) .none kV_is_within dc_is_within pm_is_within an_is_within cd_is_within ct_is_within), sl_is_within⟩) (c_is_within : PySem.W.codeIn K cd_is_within "is_within" = true) (k_is_within : PySem.W.keepIn K (.ref f_is_within) = true)
    (a_is_pair : PySem.W.nsIn K mainGlobals "is_pair" = some (some (.ref f_is_pair))) (l_is_pair : K.lookup f_is_pair = some ⟨oc_is_pair, od_is_pair, .func (PySem.W.fnOf "is_pair" "is_pair" (defArgs s_is_pair) (defBody s_is_pair) (defScope s_is_pair) .none kV_is_pair dc_is_pair pm_is_pair an_is_pair cd_is_pair ct_is_pair), sl_is_pair⟩) (c_is_pair : PySem.W.codeIn K cd_is_pair "is_pair" = true) (k_is_pair : PySem.W.keepIn K (.ref f_is_pair) = true)
    (a_is_lot : PySem.W.nsIn K mainGlobals "is_lot" = some (some (.ref f_is_lot))) (l_is_lot : K.lookup f_is_lot = some ⟨oc_is_lot, od_is_lot, .func (PySem.W.fnOf "is_lot" "is_lot" (defArgs s_is_lot) (defBody s_is_lot) (defScope s_is_lot) .none kV_is_lot dc_is_lot pm_is_lot an_is_lot cd_is_lot ct_is_lot), sl_is_lot⟩) (c_is_lot : PySem.W.codeIn K cd_is_lot "is_lot" = true) (k_is_lot : PySem.W.keepIn K (.ref f_is_lot) = true)
    (a_are_works : PySem.W.nsIn K mainGlobals "are_works" = some (some (.ref f_are_works))) (l_are_works : K.lookup f_are_works = some ⟨oc_are_works, od_are_works, .func (PySem.W.fnOf "are_works" "are_works" (defArgs s_are_works) (defBody s_are_works) (defScope s_are_works) .none kV_are_works dc_are_works pm_are_works an_are_works cd_are_works ct_are_works), sl_are_works⟩) (c_are_works : PySem.W.codeIn K cd_are_works "are_works" = true) (k_are_works : PySem.W.keepIn K (.ref f_are_works) = true)
    (a_is_work : PySem.W.nsIn K mainGlobals "is_work" = some (some (.ref f_is_work))) (l_is_work : K.lookup f_is_work = some ⟨oc_is_work, od_is_work, .func (PySem.W.fnOf "is_work" "is_work" (defArgs s_is_work) (defBody s_is_work) (defScope s_is_work) .none kV_is_work dc_is_work pm_is_work an_is_work cd_is_work ct_is_work), sl_is_work⟩) (c_is_work : PySem.W.codeIn K cd_is_work "is_work" = true) (k_is_work : PySem.W.keepIn K (.ref f_is_work) = true)
    (a_check_work : PySem.W.nsIn K mainGlobals "check_work" = some (some (.ref f_check_work))) (l_check_work : K.lookup f_check_work = some ⟨oc_check_work, od_check_work, .func (PySem.W.fnOf "check_work" "check_work" (defArgs s_check_work) (defBody s_check_work) (defScope s_check_work) .none kV_check_work dc_check_work pm_check_work an_check_work cd_check_work ct_check_work), sl_check_work⟩) (c_check_work : PySem.W.codeIn K cd_check_work "check_work" = true) (k_check_work : PySem.W.keepIn K (.ref f_check_work) = true)
    (a_check_desk : PySem.W.nsIn K mainGlobals "check_desk" = some (some (.ref f_check_desk))) (l_check_desk : K.lookup f_check_desk = some ⟨oc_check_desk, od_check_desk, .func (PySem.W.fnOf "check_desk" "check_desk" (defArgs s_check_desk) (defBody s_check_desk) (defScope s_check_desk) .none kV_check_desk dc_check_desk pm_check_desk an_check_desk cd_check_desk ct_check_desk), sl_check_desk⟩) (c_check_desk : PySem.W.codeIn K cd_check_desk "check_desk" = true) (k_check_desk : PySem.W.keepIn K (.ref f_check_desk) = true)
    (a_is_row_of : PySem.W.nsIn K mainGlobals "is_row_of" = some (some (.ref f_is_row_of))) (l_is_row_of : K.lookup f_is_row_of = some ⟨oc_is_row_of, od_is_row_of, .func (PySem.W.fnOf "is_row_of" "is_row_of" (defArgs s_is_row_of) (defBody s_is_row_of) (defScope s_is_row_of) .none kV_is_row_of dc_is_row_of pm_is_row_of an_is_row_of cd_is_row_of ct_is_row_of), sl_is_row_of⟩) (c_is_row_of : PySem.W.codeIn K cd_is_row_of "is_row_of" = true) (k_is_row_of : PySem.W.keepIn K (.ref f_is_row_of) = true)
    (a_check_row : PySem.W.nsIn K mainGlobals "check_row" = some (some (.ref f_check_row))) (l_check_row : K.lookup f_check_row = some ⟨oc_check_row, od_check_row, .func (PySem.W.fnOf "check_row" "check_row" (defArgs s_check_row) (defBody s_check_row) (defScope s_check_row) .none kV_check_row dc_check_row pm_check_row an_check_row cd_check_row ct_check_row), sl_check_row⟩) (c_check_row : PySem.W.codeIn K cd_check_row "check_row" = true) (k_check_row : PySem.W.keepIn K (.ref f_check_row) = true)
    (a_blank_of : PySem.W.nsIn K mainGlobals "blank_of" = some (some (.ref f_blank_of))) (l_blank_of : K.lookup f_blank_of = some ⟨oc_blank_of, od_blank_of, .func (PySem.W.fnOf "blank_of" "blank_of" (defArgs s_blank_of) (defBody s_blank_of) (defScope s_blank_of) .none kV_blank_of dc_blank_of pm_blank_of an_blank_of cd_blank_of ct_blank_of), sl_blank_of⟩) (c_blank_of : PySem.W.codeIn K cd_blank_of "blank_of" = true) (k_blank_of : PySem.W.keepIn K (.ref f_blank_of) = true)
    (a_is_known : PySem.W.nsIn K mainGlobals "is_known" = some (some (.ref f_is_known))) (l_is_known : K.lookup f_is_known = some ⟨oc_is_known, od_is_known, .func (PySem.W.fnOf "is_known" "is_known" (defArgs s_is_known) (defBody s_is_known) (defScope s_is_known) .none kV_is_known dc_is_known pm_is_known an_is_known cd_is_known ct_is_known), sl_is_known⟩) (c_is_known : PySem.W.codeIn K cd_is_known "is_known" = true) (k_is_known : PySem.W.keepIn K (.ref f_is_known) = true)
    (a_word_for : PySem.W.nsIn K mainGlobals "word_for" = some (some (.ref f_word_for))) (l_word_for : K.lookup f_word_for = some ⟨oc_word_for, od_word_for, .func (PySem.W.fnOf "word_for" "word_for" (defArgs s_word_for) (defBody s_word_for) (defScope s_word_for) .none kV_word_for dc_word_for pm_word_for an_word_for cd_word_for ct_word_for), sl_word_for⟩) (c_word_for : PySem.W.codeIn K cd_word_for "word_for" = true) (k_word_for : PySem.W.keepIn K (.ref f_word_for) = true)
    (a_newest : PySem.W.nsIn K mainGlobals "newest" = some (some (.ref f_newest))) (l_newest : K.lookup f_newest = some ⟨oc_newest, od_newest, .func (PySem.W.fnOf "newest" "newest" (defArgs s_newest) (defBody s_newest) (defScope s_newest) .none kV_newest dc_newest pm_newest an_newest cd_newest ct_newest), sl_newest⟩) (c_newest : PySem.W.codeIn K cd_newest "newest" = true) (k_newest : PySem.W.keepIn K (.ref f_newest) = true)
    (a_label_behind : PySem.W.nsIn K mainGlobals "label_behind" = some (some (.ref f_label_behind))) (l_label_behind : K.lookup f_label_behind = some ⟨oc_label_behind, od_label_behind, .func (PySem.W.fnOf "label_behind" "label_behind" (defArgs s_label_behind) (defBody s_label_behind) (defScope s_label_behind) .none kV_label_behind dc_label_behind pm_label_behind an_label_behind cd_label_behind ct_label_behind), sl_label_behind⟩) (c_label_behind : PySem.W.codeIn K cd_label_behind "label_behind" = true) (k_label_behind : PySem.W.keepIn K (.ref f_label_behind) = true)
    (a_slip_named : PySem.W.nsIn K mainGlobals "slip_named" = some (some (.ref f_slip_named))) (l_slip_named : K.lookup f_slip_named = some ⟨oc_slip_named, od_slip_named, .func (PySem.W.fnOf "slip_named" "slip_named" (defArgs s_slip_named) (defBody s_slip_named) (defScope s_slip_named) .none kV_slip_named dc_slip_named pm_slip_named an_slip_named cd_slip_named ct_slip_named), sl_slip_named⟩) (c_slip_named : PySem.W.codeIn K cd_slip_named "slip_named" = true) (k_slip_named : PySem.W.keepIn K (.ref f_slip_named) = true)
    (a_slip_behind : PySem.W.nsIn K mainGlobals "slip_behind" = some (some (.ref f_slip_behind))) (l_slip_behind : K.lookup f_slip_behind = some ⟨oc_slip_behind, od_slip_behind, .func (PySem.W.fnOf "slip_behind" "slip_behind" (defArgs s_slip_behind) (defBody s_slip_behind) (defScope s_slip_behind) .none kV_slip_behind dc_slip_behind pm_slip_behind an_slip_behind cd_slip_behind ct_slip_behind), sl_slip_behind⟩) (c_slip_behind : PySem.W.codeIn K cd_slip_behind "slip_behind" = true) (k_slip_behind : PySem.W.keepIn K (.ref f_slip_behind) = true)
    (a_run_slips : PySem.W.nsIn K mainGlobals "run_slips" = some (some (.ref f_run_slips))) (l_run_slips : K.lookup f_run_slips = some ⟨oc_run_slips, od_run_slips, .func (PySem.W.fnOf "run_slips" "run_slips" (defArgs s_run_slips) (defBody s_run_slips) (defScope s_run_slips) .none kV_run_slips dc_run_slips pm_run_slips an_run_slips cd_run_slips ct_run_slips), sl_run_slips⟩) (c_run_slips : PySem.W.codeIn K cd_run_slips "run_slips" = true) (k_run_slips : PySem.W.keepIn K (.ref f_run_slips) = true)
    (a_is_name : PySem.W.nsIn K mainGlobals "is_name" = some (some (.ref f_is_name))) (l_is_name : K.lookup f_is_name = some ⟨oc_is_name, od_is_name, .func (PySem.W.fnOf "is_name" "is_name" (defArgs s_is_name) (defBody s_is_name) (defScope s_is_name) .none kV_is_name dc_is_name pm_is_name an_is_name cd_is_name ct_is_name), sl_is_name⟩) (c_is_name : PySem.W.codeIn K cd_is_name "is_name" = true) (k_is_name : PySem.W.keepIn K (.ref f_is_name) = true)
    (a_are_names : PySem.W.nsIn K mainGlobals "are_names" = some (some (.ref f_are_names))) (l_are_names : K.lookup f_are_names = some ⟨oc_are_names, od_are_names, .func (PySem.W.fnOf "are_names" "are_names" (defArgs s_are_names) (defBody s_are_names) (defScope s_are_names) .none kV_are_names dc_are_names pm_are_names an_are_names cd_are_names ct_are_names), sl_are_names⟩) (c_are_names : PySem.W.codeIn K cd_are_names "are_names" = true) (k_are_names : PySem.W.keepIn K (.ref f_are_names) = true)
    (a_are_rows_of_names : PySem.W.nsIn K mainGlobals "are_rows_of_names" = some (some (.ref f_are_rows_of_names))) (l_are_rows_of_names : K.lookup f_are_rows_of_names = some ⟨oc_are_rows_of_names, od_are_rows_of_names, .func (PySem.W.fnOf "are_rows_of_names" "are_rows_of_names" (defArgs s_are_rows_of_names) (defBody s_are_rows_of_names) (defScope s_are_rows_of_names) .none kV_are_rows_of_names dc_are_rows_of_names pm_are_rows_of_names an_are_rows_of_names cd_are_rows_of_names ct_are_rows_of_names), sl_are_rows_of_names⟩) (c_are_rows_of_names : PySem.W.codeIn K cd_are_rows_of_names "are_rows_of_names" = true) (k_are_rows_of_names : PySem.W.keepIn K (.ref f_are_rows_of_names) = true)
    (a_is_slip : PySem.W.nsIn K mainGlobals "is_slip" = some (some (.ref f_is_slip))) (l_is_slip : K.lookup f_is_slip = some ⟨oc_is_slip, od_is_slip, .func (PySem.W.fnOf "is_slip" "is_slip" (defArgs s_is_slip) (defBody s_is_slip) (defScope s_is_slip) .none kV_is_slip dc_is_slip pm_is_slip an_is_slip cd_is_slip ct_is_slip), sl_is_slip⟩) (c_is_slip : PySem.W.codeIn K cd_is_slip "is_slip" = true) (k_is_slip : PySem.W.keepIn K (.ref f_is_slip) = true)
    (a_slip : PySem.W.nsIn K mainGlobals "slip" = some (some (.ref f_slip))) (l_slip : K.lookup f_slip = some ⟨oc_slip, od_slip, .func (PySem.W.fnOf "slip" "slip" (defArgs s_slip) (defBody s_slip) (defScope s_slip) .none kV_slip dc_slip pm_slip an_slip cd_slip ct_slip), sl_slip⟩) (c_slip : PySem.W.codeIn K cd_slip "slip" = true) (k_slip : PySem.W.keepIn K (.ref f_slip) = true)
    (a_blank_slip : PySem.W.nsIn K mainGlobals "blank_slip" = some (some (.ref f_blank_slip))) (l_blank_slip : K.lookup f_blank_slip = some ⟨oc_blank_slip, od_blank_slip, .func (PySem.W.fnOf "blank_slip" "blank_slip" (defArgs s_blank_slip) (defBody s_blank_slip) (defScope s_blank_slip) .none kV_blank_slip dc_blank_slip pm_blank_slip an_blank_slip cd_blank_slip ct_blank_slip), sl_blank_slip⟩) (c_blank_slip : PySem.W.codeIn K cd_blank_slip "blank_slip" = true) (k_blank_slip : PySem.W.keepIn K (.ref f_blank_slip) = true)
    (a_passed : PySem.W.nsIn K mainGlobals "passed" = some (some (.ref f_passed))) (l_passed : K.lookup f_passed = some ⟨oc_passed, od_passed, .func (PySem.W.fnOf "passed" "passed" (defArgs s_passed) (defBody s_passed) (defScope s_passed) .none kV_passed dc_passed pm_passed an_passed cd_passed ct_passed), sl_passed⟩) (c_passed : PySem.W.codeIn K cd_passed "passed" = true) (k_passed : PySem.W.keepIn K (.ref f_passed) = true)
    (a_law_dice : PySem.W.nsIn K mainGlobals "_law_dice" = some (some (.ref f_law_dice))) (l_law_dice : K.lookup f_law_dice = some ⟨oc_law_dice, od_law_dice, .func (PySem.W.fnOf "_law_dice" "_law_dice" (defArgs s_law_dice) (defBody s_law_dice) (defScope s_law_dice) .none kV_law_dice dc_law_dice pm_law_dice an_law_dice cd_law_dice ct_law_dice), sl_law_dice⟩) (c_law_dice : PySem.W.codeIn K cd_law_dice "_law_dice" = true) (k_law_dice : PySem.W.keepIn K (.ref f_law_dice) = true)
    (a_law_draw : PySem.W.nsIn K mainGlobals "_law_draw" = some (some (.ref f_law_draw))) (l_law_draw : K.lookup f_law_draw = some ⟨oc_law_draw, od_law_draw, .func (PySem.W.fnOf "_law_draw" "_law_draw" (defArgs s_law_draw) (defBody s_law_draw) (defScope s_law_draw) .none kV_law_draw dc_law_draw pm_law_draw an_law_draw cd_law_draw ct_law_draw), sl_law_draw⟩) (c_law_draw : PySem.W.codeIn K cd_law_draw "_law_draw" = true) (k_law_draw : PySem.W.keepIn K (.ref f_law_draw) = true)
    (a_law_parts : PySem.W.nsIn K mainGlobals "_law_parts" = some (some (.ref f_law_parts))) (l_law_parts : K.lookup f_law_parts = some ⟨oc_law_parts, od_law_parts, .func (PySem.W.fnOf "_law_parts" "_law_parts" (defArgs s_law_parts) (defBody s_law_parts) (defScope s_law_parts) .none kV_law_parts dc_law_parts pm_law_parts an_law_parts cd_law_parts ct_law_parts), sl_law_parts⟩) (c_law_parts : PySem.W.codeIn K cd_law_parts "_law_parts" = true) (k_law_parts : PySem.W.keepIn K (.ref f_law_parts) = true)
    (a_law_made : PySem.W.nsIn K mainGlobals "_law_made" = some (some (.ref f_law_made))) (l_law_made : K.lookup f_law_made = some ⟨oc_law_made, od_law_made, .func (PySem.W.fnOf "_law_made" "_law_made" (defArgs s_law_made) (defBody s_law_made) (defScope s_law_made) .none kV_law_made dc_law_made pm_law_made an_law_made cd_law_made ct_law_made), sl_law_made⟩) (c_law_made : PySem.W.codeIn K cd_law_made "_law_made" = true) (k_law_made : PySem.W.keepIn K (.ref f_law_made) = true)
    (a_law_some_parts : PySem.W.nsIn K mainGlobals "_law_some_parts" = some (some (.ref f_law_some_parts))) (l_law_some_parts : K.lookup f_law_some_parts = some ⟨oc_law_some_parts, od_law_some_parts, .func (PySem.W.fnOf "_law_some_parts" "_law_some_parts" (defArgs s_law_some_parts) (defBody s_law_some_parts) (defScope s_law_some_parts) .none kV_law_some_parts dc_law_some_parts pm_law_some_parts an_law_some_parts cd_law_some_parts ct_law_some_parts), sl_law_some_parts⟩) (c_law_some_parts : PySem.W.codeIn K cd_law_some_parts "_law_some_parts" = true) (k_law_some_parts : PySem.W.keepIn K (.ref f_law_some_parts) = true)
    (a_law_row : PySem.W.nsIn K mainGlobals "_law_row" = some (some (.ref f_law_row))) (l_law_row : K.lookup f_law_row = some ⟨oc_law_row, od_law_row, .func (PySem.W.fnOf "_law_row" "_law_row" (defArgs s_law_row) (defBody s_law_row) (defScope s_law_row) .none kV_law_row dc_law_row pm_law_row an_law_row cd_law_row ct_law_row), sl_law_row⟩) (c_law_row : PySem.W.codeIn K cd_law_row "_law_row" = true) (k_law_row : PySem.W.keepIn K (.ref f_law_row) = true)
    (a_law_meets : PySem.W.nsIn K mainGlobals "_law_meets" = some (some (.ref f_law_meets))) (l_law_meets : K.lookup f_law_meets = some ⟨oc_law_meets, od_law_meets, .func (PySem.W.fnOf "_law_meets" "_law_meets" (defArgs s_law_meets) (defBody s_law_meets) (defScope s_law_meets) .none kV_law_meets dc_law_meets pm_law_meets an_law_meets cd_law_meets ct_law_meets), sl_law_meets⟩) (c_law_meets : PySem.W.codeIn K cd_law_meets "_law_meets" = true) (k_law_meets : PySem.W.keepIn K (.ref f_law_meets) = true)
    (a_law_whole : PySem.W.nsIn K mainGlobals "_law_whole" = some (some (.ref f_law_whole))) (l_law_whole : K.lookup f_law_whole = some ⟨oc_law_whole, od_law_whole, .func (PySem.W.fnOf "_law_whole" "_law_whole" (defArgs s_law_whole) (defBody s_law_whole) (defScope s_law_whole) .none kV_law_whole dc_law_whole pm_law_whole an_law_whole cd_law_whole ct_law_whole), sl_law_whole⟩) (c_law_whole : PySem.W.codeIn K cd_law_whole "_law_whole" = true) (k_law_whole : PySem.W.keepIn K (.ref f_law_whole) = true)
    (a_law_same : PySem.W.nsIn K mainGlobals "_law_same" = some (some (.ref f_law_same))) (l_law_same : K.lookup f_law_same = some ⟨oc_law_same, od_law_same, .func (PySem.W.fnOf "_law_same" "_law_same" (defArgs s_law_same) (defBody s_law_same) (defScope s_law_same) .none kV_law_same dc_law_same pm_law_same an_law_same cd_law_same ct_law_same), sl_law_same⟩) (c_law_same : PySem.W.codeIn K cd_law_same "_law_same" = true) (k_law_same : PySem.W.keepIn K (.ref f_law_same) = true)
    (a_law_led : PySem.W.nsIn K mainGlobals "_law_led" = some (some (.ref f_law_led))) (l_law_led : K.lookup f_law_led = some ⟨oc_law_led, od_law_led, .func (PySem.W.fnOf "_law_led" "_law_led" (defArgs s_law_led) (defBody s_law_led) (defScope s_law_led) .none kV_law_led dc_law_led pm_law_led an_law_led cd_law_led ct_law_led), sl_law_led⟩) (c_law_led : PySem.W.codeIn K cd_law_led "_law_led" = true) (k_law_led : PySem.W.keepIn K (.ref f_law_led) = true)
    (a_law_least_label : PySem.W.nsIn K mainGlobals "_law_least_label" = some (some (.ref f_law_least_label))) (l_law_least_label : K.lookup f_law_least_label = some ⟨oc_law_least_label, od_law_least_label, .func (PySem.W.fnOf "_law_least_label" "_law_least_label" (defArgs s_law_least_label) (defBody s_law_least_label) (defScope s_law_least_label) .none kV_law_least_label dc_law_least_label pm_law_least_label an_law_least_label cd_law_least_label ct_law_least_label), sl_law_least_label⟩) (c_law_least_label : PySem.W.codeIn K cd_law_least_label "_law_least_label" = true) (k_law_least_label : PySem.W.keepIn K (.ref f_law_least_label) = true)
    (a_law : PySem.W.nsIn K mainGlobals "law" = some (some (.ref f_law))) (l_law : K.lookup f_law = some ⟨oc_law, od_law, .func (PySem.W.fnOf "law" "law" (defArgs s_law) (defBody s_law) (defScope s_law) .none kV_law dc_law pm_law an_law cd_law ct_law), sl_law⟩) (c_law : PySem.W.codeIn K cd_law "law" = true) (k_law : PySem.W.keepIn K (.ref f_law) = true)
    (aC : PySem.W.nsIn K mainGlobals "Office" = some (some (.ref C)))
    (a_Oinit : PySem.W.findIn K (.ref C) "__init__" = some (some (.ref f_Oinit))) (i_Oinit : PySem.W.isFn K (.ref f_Oinit) = true) (l_Oinit : K.lookup f_Oinit = some ⟨oc_Oinit, od_Oinit, .func (PySem.W.fnOf "__init__" "Office.__init__" (defArgs s_Office___init) (defBody s_Office___init) (defScope s_Office___init) .none kV_Oinit dc_Oinit pm_Oinit an_Oinit cd_Oinit ct_Oinit), sl_Oinit⟩) (c_Oinit : PySem.W.codeIn K cd_Oinit "Office.__init__" = true) (k_Oinit : PySem.W.keepIn K (.ref f_Oinit) = true)
    (pg : PySem.W.plainGet K C Str.empty = true) (hd : PySem.W.hasDictIn K C = true) (po : PySem.W.plainOver K C = true) (sa : PySem.W.findIn K (.ref C) "__setattr__" = some (some (.builtin "object.__setattr__"))) (mk : PySem.W.makesIn K C = true) (kc : PySem.W.keepIn K (.ref C) = true)
    (nD : PySem.W.findIn K (.ref C) "desks" = some none) (nW : PySem.W.findIn K (.ref C) "works" = some none) (nO : PySem.W.findIn K (.ref C) "kept_own" = some none) (nM : PySem.W.findIn K (.ref C) "kept_meets" = some none)
    (m6 : PySem.W.nsIn K mainGlobals "MOST_DESKS" = some (some (.int 6 t6))) (m10 : PySem.W.nsIn K mainGlobals "MOST_WORKS" = some (some (.int 10 t10)))
    (z_len : PySem.W.nsIn K mainGlobals "len" = some none)
    (z_isinstance : PySem.W.nsIn K mainGlobals "isinstance" = some none)
    (z_any : PySem.W.nsIn K mainGlobals "any" = some none)
    (z_all : PySem.W.nsIn K mainGlobals "all" = some none)
    (z_abs : PySem.W.nsIn K mainGlobals "abs" = some none)
    (z_sorted : PySem.W.nsIn K mainGlobals "sorted" = some none)
    (z_int : PySem.W.nsIn K mainGlobals "int" = some none)
    (z_bool : PySem.W.nsIn K mainGlobals "bool" = some none)
    (z_str : PySem.W.nsIn K mainGlobals "str" = some none)
    (z_list : PySem.W.nsIn K mainGlobals "list" = some none)
    (z_tuple : PySem.W.nsIn K mainGlobals "tuple" = some none)
    (z_range : PySem.W.nsIn K mainGlobals "range" = some none)
    (z_enumerate : PySem.W.nsIn K mainGlobals "enumerate" = some none) :
    ∃ fd : FuncData, (∀ (s : Shared) (v : Value), BindsTo s fd ⟨[v], []⟩ [("_law_script", v)]) ∧ ∀ (P : Program) (w : World) (base : Heap), FnOk P w K mg base CX0 10 fa fd ["_law_script"] (sp_law K) := by
  have e := hfa.symm.trans (PySem.W.mg_of X G a_law)
  cases e
  have D_is_integer : Df K mg "is_integer" s_is_integer ["thing"] := df_mk X G a_is_integer l_is_integer c_is_integer k_is_integer (fun _ _ _ _ _ _ us hl => match us, hl with | [_], _ => rfl)
  have D_is_within : Df K mg "is_within" s_is_within ["thing", "least", "most"] := df_mk X G a_is_within l_is_within c_is_within k_is_within (fun _ _ _ _ _ _ us hl => match us, hl with | [_, _, _], _ => rfl)
  have D_is_pair : Df K mg "is_pair" s_is_pair ["thing"] := df_mk X G a_is_pair l_is_pair c_is_pair k_is_pair (fun _ _ _ _ _ _ us hl => match us, hl with | [_], _ => rfl)
  have D_is_lot : Df K mg "is_lot" s_is_lot ["thing", "below"] := df_mk X G a_is_lot l_is_lot c_is_lot k_is_lot (fun _ _ _ _ _ _ us hl => match us, hl with | [_, _], _ => rfl)
  have D_are_works : Df K mg "are_works" s_are_works ["desks", "thing"] := df_mk X G a_are_works l_are_works c_are_works k_are_works (fun _ _ _ _ _ _ us hl => match us, hl with | [_, _], _ => rfl)
  have D_is_work : Df K mg "is_work" s_is_work ["office", "thing"] := df_mk X G a_is_work l_is_work c_is_work k_is_work (fun _ _ _ _ _ _ us hl => match us, hl with | [_, _], _ => rfl)
  have D_check_work : Df K mg "check_work" s_check_work ["office", "thing"] := df_mk X G a_check_work l_check_work c_check_work k_check_work (fun _ _ _ _ _ _ us hl => match us, hl with | [_, _], _ => rfl)
  have D_check_desk : Df K mg "check_desk" s_check_desk ["office", "thing"] := df_mk X G a_check_desk l_check_desk c_check_desk k_check_desk (fun _ _ _ _ _ _ us hl => match us, hl with | [_, _], _ => rfl)
  have D_is_row_of : Df K mg "is_row_of" s_is_row_of ["office", "thing"] := df_mk X G a_is_row_of l_is_row_of c_is_row_of k_is_row_of (fun _ _ _ _ _ _ us hl => match us, hl with | [_, _], _ => rfl)
  have D_check_row : Df K mg "check_row" s_check_row ["office", "thing"] := df_mk X G a_check_row l_check_row c_check_row k_check_row (fun _ _ _ _ _ _ us hl => match us, hl with | [_, _], _ => rfl)
  have D_blank_of : Df K mg "blank_of" s_blank_of ["office"] := df_mk X G a_blank_of l_blank_of c_blank_of k_blank_of (fun _ _ _ _ _ _ us hl => match us, hl with | [_], _ => rfl)
  have D_is_known : Df K mg "is_known" s_is_known ["one", "other", "desk"] := df_mk X G a_is_known l_is_known c_is_known k_is_known (fun _ _ _ _ _ _ us hl => match us, hl with | [_, _, _], _ => rfl)
  have D_word_for : Df K mg "word_for" s_word_for ["one", "other", "desk"] := df_mk X G a_word_for l_word_for c_word_for k_word_for (fun _ _ _ _ _ _ us hl => match us, hl with | [_, _, _], _ => rfl)
  have D_newest : Df K mg "newest" s_newest ["slips", "desk"] := df_mk X G a_newest l_newest c_newest k_newest (fun _ _ _ _ _ _ us hl => match us, hl with | [_, _], _ => rfl)
  have D_label_behind : Df K mg "label_behind" s_label_behind ["work", "slips"] := df_mk X G a_label_behind l_label_behind c_label_behind k_label_behind (fun _ _ _ _ _ _ us hl => match us, hl with | [_, _], _ => rfl)
  have D_slip_named : Df K mg "slip_named" s_slip_named ["office", "name", "slips"] := df_mk X G a_slip_named l_slip_named c_slip_named k_slip_named (fun _ _ _ _ _ _ us hl => match us, hl with | [_, _, _], _ => rfl)
  have D_slip_behind : Df K mg "slip_behind" s_slip_behind ["office", "work", "slips"] := df_mk X G a_slip_behind l_slip_behind c_slip_behind k_slip_behind (fun _ _ _ _ _ _ us hl => match us, hl with | [_, _, _], _ => rfl)
  have D_run_slips : Df K mg "run_slips" s_run_slips ["office", "row"] := df_mk X G a_run_slips l_run_slips c_run_slips k_run_slips (fun _ _ _ _ _ _ us hl => match us, hl with | [_, _], _ => rfl)
  have D_is_name : Df K mg "is_name" s_is_name ["office", "thing"] := df_mk X G a_is_name l_is_name c_is_name k_is_name (fun _ _ _ _ _ _ us hl => match us, hl with | [_, _], _ => rfl)
  have D_are_names : Df K mg "are_names" s_are_names ["office", "thing"] := df_mk X G a_are_names l_are_names c_are_names k_are_names (fun _ _ _ _ _ _ us hl => match us, hl with | [_, _], _ => rfl)
  have D_are_rows_of_names : Df K mg "are_rows_of_names" s_are_rows_of_names ["office", "thing"] := df_mk X G a_are_rows_of_names l_are_rows_of_names c_are_rows_of_names k_are_rows_of_names (fun _ _ _ _ _ _ us hl => match us, hl with | [_, _], _ => rfl)
  have D_is_slip : Df K mg "is_slip" s_is_slip ["office", "thing"] := df_mk X G a_is_slip l_is_slip c_is_slip k_is_slip (fun _ _ _ _ _ _ us hl => match us, hl with | [_, _], _ => rfl)
  have D_slip : Df K mg "slip" s_slip ["office", "row", "desk"] := df_mk X G a_slip l_slip c_slip k_slip (fun _ _ _ _ _ _ us hl => match us, hl with | [_, _, _], _ => rfl)
  have D_blank_slip : Df K mg "blank_slip" s_blank_slip ["office"] := df_mk X G a_blank_slip l_blank_slip c_blank_slip k_blank_slip (fun _ _ _ _ _ _ us hl => match us, hl with | [_], _ => rfl)
  have D_passed : Df K mg "passed" s_passed ["office", "work", "slips"] := df_mk X G a_passed l_passed c_passed k_passed (fun _ _ _ _ _ _ us hl => match us, hl with | [_, _, _], _ => rfl)
  have D_law_dice : Df K mg "_law_dice" s_law_dice ["_law_script"] := df_mk X G a_law_dice l_law_dice c_law_dice k_law_dice (fun _ _ _ _ _ _ us hl => match us, hl with | [_], _ => rfl)
  have D_law_draw : Df K mg "_law_draw" s_law_draw ["_law_dice_here", "_law_sides"] := df_mk X G a_law_draw l_law_draw c_law_draw k_law_draw (fun _ _ _ _ _ _ us hl => match us, hl with | [_, _], _ => rfl)
  have D_law_parts : Df K mg "_law_parts" s_law_parts ["_law_dice_here", "_law_most"] := df_mk X G a_law_parts l_law_parts c_law_parts k_law_parts (fun _ _ _ _ _ _ us hl => match us, hl with | [_, _], _ => rfl)
  have D_law_made : Df K mg "_law_made" s_law_made ["_law_parts_here"] := df_mk X G a_law_made l_law_made c_law_made k_law_made (fun _ _ _ _ _ _ us hl => match us, hl with | [_], _ => rfl)
  have D_law_some_parts : Df K mg "_law_some_parts" s_law_some_parts ["_law_dice_here"] := df_mk X G a_law_some_parts l_law_some_parts c_law_some_parts k_law_some_parts (fun _ _ _ _ _ _ us hl => match us, hl with | [_], _ => rfl)
  have D_law_row : Df K mg "_law_row" s_law_row ["_law_dice_here", "_law_parts_here", "_law_most"] := df_mk X G a_law_row l_law_row c_law_row k_law_row (fun _ _ _ _ _ _ us hl => match us, hl with | [_, _, _], _ => rfl)
  have D_law_meets : Df K mg "_law_meets" s_law_meets ["_law_parts_here", "_law_one", "_law_other"] := df_mk X G a_law_meets l_law_meets c_law_meets k_law_meets (fun _ _ _ _ _ _ us hl => match us, hl with | [_, _, _], _ => rfl)
  have D_law_whole : Df K mg "_law_whole" s_law_whole ["_law_shown", "_law_due"] := df_mk X G a_law_whole l_law_whole c_law_whole k_law_whole (fun _ _ _ _ _ _ us hl => match us, hl with | [_, _], _ => rfl)
  have D_law_same : Df K mg "_law_same" s_law_same ["_law_shown", "_law_due"] := df_mk X G a_law_same l_law_same c_law_same k_law_same (fun _ _ _ _ _ _ us hl => match us, hl with | [_, _], _ => rfl)
  have D_law_led : Df K mg "_law_led" s_law_led ["_law_office", "_law_parts_here", "_law_row_here"] := df_mk X G a_law_led l_law_led c_law_led k_law_led (fun _ _ _ _ _ _ us hl => match us, hl with | [_, _, _], _ => rfl)
  have D_law_least_label : Df K mg "_law_least_label" s_law_least_label ["_law_work", "_law_slips"] := df_mk X G a_law_least_label l_law_least_label c_law_least_label k_law_least_label (fun _ _ _ _ _ _ us hl => match us, hl with | [_, _], _ => rfl)
  have D_law : Df K mg "law" s_law ["_law_script"] := df_mk X G a_law l_law c_law k_law (fun _ _ _ _ _ _ us hl => match us, hl with | [_], _ => rfl)
  have FI := fun_mk (st := s_Office___init) l_Oinit c_Oinit k_Oinit
  have bI := FI.binds (ps := ["self", "desks", "works"]) fun _ _ _ _ _ _ us hl => match us, hl with | [_, _, _], _ => rfl
  have T : Txt K mg := ⟨PySem.W.mg_none_of X G z_len, PySem.W.mg_none_of X G z_isinstance, PySem.W.mg_none_of X G z_any, PySem.W.mg_none_of X G z_all, PySem.W.mg_none_of X G z_abs, PySem.W.mg_none_of X G z_sorted, PySem.W.mg_none_of X G z_int, PySem.W.mg_none_of X G z_bool, PySem.W.mg_none_of X G z_str, PySem.W.mg_none_of X G z_list, PySem.W.mg_none_of X G z_tuple, PySem.W.mg_none_of X G z_range, PySem.W.mg_none_of X G z_enumerate, ⟨_, PySem.W.mg_of X G m6⟩, ⟨_, PySem.W.mg_of X G m10⟩⟩
  have O : Ofc K C := ⟨⟨pg, hd, po, sa⟩, nD, nW, nO, nM⟩
  have A : AllD K mg C := ⟨D_is_integer, D_is_within, D_is_pair, D_is_lot, D_are_works, D_is_work, D_check_work, D_check_desk, D_is_row_of, D_check_row, D_blank_of, D_is_known, D_word_for, D_newest, D_label_behind, D_slip_named, D_slip_behind, D_run_slips, D_is_name, D_are_names, D_are_rows_of_names, D_is_slip, D_slip, D_blank_slip, D_passed, D_law_dice, D_law_draw, D_law_parts, D_law_made, D_law_some_parts, D_law_row, D_law_meets, D_law_whole, D_law_same, D_law_led, D_law_least_label, D_law, T, O, ⟨_, _, ⟨mk, a_Oinit, i_Oinit, kc⟩, FI, bI, PySem.W.mg_of X G aC⟩⟩
  exact ⟨PySem.W.fnOf "law" "law" (defArgs s_law) (defBody s_law) (defScope s_law) .none kV_law dc_law pm_law an_law cd_law ct_law, fun s v => .of_eq rfl, fun P w base => fx_at (fun_mk (st := s_law) l_law c_law k_law) (PySem.W.mg_of X G a_law) (law_ok A)⟩
theorem walk {l : PySem.W.OpenLaw} {q : Program} {loose : List Str} {XP : (Str → Option Value) → Heap → Prop} {YP : World → Heap → Prop} {d : DefRec} {K : Params → PySem.W.Frag} (hn : l.most = some 63) (hdf : d.params.defaults = [])
    (hY : ∀ (w : World) (h : Heap), YP w h → (K w.params).In h)
    (F : ∀ (w : World) (mg : Str → Option Value) (fa : Addr) (h : Heap), (K w.params).In h → h.Ns mainGlobals mg → mg d.name = some (.ref fa) →
      ∃ fd : FuncData, (∀ (s : Shared) (u : Value), BindsTo s fd ⟨[u], []⟩ [("_law_script", u)]) ∧ ∀ (P : Program) (w' : World) (base : Heap), FnOk P w' (K w.params) mg base CX0 10 fa fd ["_law_script"] (sp_law (K w.params))) :
    PySem.W.WalkO q loose XP YP l.row.toRowW d [] (fun f vs => PySem.call f vs) :=
  L2.walk_of (n := 63) (k := 10) (x := "_law_script") (CX := fun _ => CX0) (sp := fun w => sp_law (K w.params)) hn (by decide) hdf ⟨rfl, by decide, by decide⟩ hY
    (fun w mg fa h X G hm => by
      obtain ⟨fd, hb, hf⟩ := F w mg fa h X G hm
      exact ⟨fd, hb, fun base _ _ => hf l.prog w base⟩)
    (fun _ _ a ns hl _ hS => ⟨a, ns, rfl, hS, fun _ => rfl⟩) fun _ _ _ _ _ z => z
end K31
open PySem PySem.W PyProof.Rows in
set_option maxRecDepth 100000 in
set_option maxHeartbeats 0 in
theorem PySem.Challenge.cw_latestword_k31_whole_slips_passed_by_sli_holds : PySem.Challenge.rw_latestword_k31_whole_slips_passed_by_sli.Holds := by
  w_on; o_law; k_head; (case hw => w_witness2)
  k_fill
  refine K31.walk (l := PySem.Challenge.rw_latestword_k31_whole_slips_passed_by_sli) rfl rfl (fun w h Y => PySem.W.kIn_of Y) ?F
  case F =>
    intro w mg fa h KX G hmg
    refine' K31.all_mk KX G hmg ?a_is_integer ?l_is_integer ?c_is_integer ?k_is_integer ?a_is_within ?l_is_within ?c_is_within ?k_is_within ?a_is_pair ?l_is_pair ?c_is_pair ?k_is_pair ?a_is_lot ?l_is_lot ?c_is_lot ?k_is_lot ?a_are_works ?l_are_works ?c_are_works ?k_are_works ?a_is_work ?l_is_work ?c_is_work ?k_is_work ?a_check_work ?l_check_work ?c_check_work ?k_check_work ?a_check_desk ?l_check_desk ?c_check_desk ?k_check_desk ?a_is_row_of ?l_is_row_of ?c_is_row_of ?k_is_row_of ?a_check_row ?l_check_row ?c_check_row ?k_check_row ?a_blank_of ?l_blank_of ?c_blank_of ?k_blank_of ?a_is_known ?l_is_known ?c_is_known ?k_is_known ?a_word_for ?l_word_for ?c_word_for ?k_word_for ?a_newest ?l_newest ?c_newest ?k_newest ?a_label_behind ?l_label_behind ?c_label_behind ?k_label_behind ?a_slip_named ?l_slip_named ?c_slip_named ?k_slip_named ?a_slip_behind ?l_slip_behind ?c_slip_behind ?k_slip_behind ?a_run_slips ?l_run_slips ?c_run_slips ?k_run_slips ?a_is_name ?l_is_name ?c_is_name ?k_is_name ?a_are_names ?l_are_names ?c_are_names ?k_are_names ?a_are_rows_of_names ?l_are_rows_of_names ?c_are_rows_of_names ?k_are_rows_of_names ?a_is_slip ?l_is_slip ?c_is_slip ?k_is_slip ?a_slip ?l_slip ?c_slip ?k_slip ?a_blank_slip ?l_blank_slip ?c_blank_slip ?k_blank_slip ?a_passed ?l_passed ?c_passed ?k_passed ?a_law_dice ?l_law_dice ?c_law_dice ?k_law_dice ?a_law_draw ?l_law_draw ?c_law_draw ?k_law_draw ?a_law_parts ?l_law_parts ?c_law_parts ?k_law_parts ?a_law_made ?l_law_made ?c_law_made ?k_law_made ?a_law_some_parts ?l_law_some_parts ?c_law_some_parts ?k_law_some_parts ?a_law_row ?l_law_row ?c_law_row ?k_law_row ?a_law_meets ?l_law_meets ?c_law_meets ?k_law_meets ?a_law_whole ?l_law_whole ?c_law_whole ?k_law_whole ?a_law_same ?l_law_same ?c_law_same ?k_law_same ?a_law_led ?l_law_led ?c_law_led ?k_law_led ?a_law_least_label ?l_law_least_label ?c_law_least_label ?k_law_least_label ?a_law ?l_law ?c_law ?k_law ?aC ?a_Oinit ?i_Oinit ?l_Oinit ?c_Oinit ?k_Oinit ?pg ?hd ?po ?sa ?mk ?kc ?nD ?nW ?nO ?nM ?m6 ?m10 ?z_len ?z_isinstance ?z_any ?z_all ?z_abs ?z_sorted ?z_int ?z_bool ?z_str ?z_list ?z_tuple ?z_range ?z_enumerate
    (case a_is_integer => k_is)
    (case l_is_integer => k_is)
    (case c_is_integer => k_is)
    (case k_is_integer => k_is)
    (case a_is_within => k_is)
    (case l_is_within => k_is)
    (case c_is_within => k_is)
    (case k_is_within => k_is)
    (case a_is_pair => k_is)
    (case l_is_pair => k_is)
    (case c_is_pair => k_is)
    (case k_is_pair => k_is)
    (case a_is_lot => k_is)
    (case l_is_lot => k_is)
    (case c_is_lot => k_is)
    (case k_is_lot => k_is)
    (case a_are_works => k_is)
    (case l_are_works => k_is)
    (case c_are_works => k_is)
    (case k_are_works => k_is)
    (case a_is_work => k_is)
    (case l_is_work => k_is)
    (case c_is_work => k_is)
    (case k_is_work => k_is)
    (case a_check_work => k_is)
    (case l_check_work => k_is)
    (case c_check_work => k_is)
    (case k_check_work => k_is)
    (case a_check_desk => k_is)
    (case l_check_desk => k_is)
    (case c_check_desk => k_is)
    (case k_check_desk => k_is)
    (case a_is_row_of => k_is)
    (case l_is_row_of => k_is)
    (case c_is_row_of => k_is)
    (case k_is_row_of => k_is)
    (case a_check_row => k_is)
    (case l_check_row => k_is)
    (case c_check_row => k_is)
    (case k_check_row => k_is)
    (case a_blank_of => k_is)
    (case l_blank_of => k_is)
    (case c_blank_of => k_is)
    (case k_blank_of => k_is)
    (case a_is_known => k_is)
    (case l_is_known => k_is)
    (case c_is_known => k_is)
    (case k_is_known => k_is)
    (case a_word_for => k_is)
    (case l_word_for => k_is)
    (case c_word_for => k_is)
    (case k_word_for => k_is)
    (case a_newest => k_is)
    (case l_newest => k_is)
    (case c_newest => k_is)
    (case k_newest => k_is)
    (case a_label_behind => k_is)
    (case l_label_behind => k_is)
    (case c_label_behind => k_is)
    (case k_label_behind => k_is)
    (case a_slip_named => k_is)
    (case l_slip_named => k_is)
    (case c_slip_named => k_is)
    (case k_slip_named => k_is)
    (case a_slip_behind => k_is)
    (case l_slip_behind => k_is)
    (case c_slip_behind => k_is)
    (case k_slip_behind => k_is)
    (case a_run_slips => k_is)
    (case l_run_slips => k_is)
    (case c_run_slips => k_is)
    (case k_run_slips => k_is)
    (case a_is_name => k_is)
    (case l_is_name => k_is)
    (case c_is_name => k_is)
    (case k_is_name => k_is)
    (case a_are_names => k_is)
    (case l_are_names => k_is)
    (case c_are_names => k_is)
    (case k_are_names => k_is)
    (case a_are_rows_of_names => k_is)
    (case l_are_rows_of_names => k_is)
    (case c_are_rows_of_names => k_is)
    (case k_are_rows_of_names => k_is)
    (case a_is_slip => k_is)
    (case l_is_slip => k_is)
    (case c_is_slip => k_is)
    (case k_is_slip => k_is)
    (case a_slip => k_is)
    (case l_slip => k_is)
    (case c_slip => k_is)
    (case k_slip => k_is)
    (case a_blank_slip => k_is)
    (case l_blank_slip => k_is)
    (case c_blank_slip => k_is)
    (case k_blank_slip => k_is)
    (case a_passed => k_is)
    (case l_passed => k_is)
    (case c_passed => k_is)
    (case k_passed => k_is)
    (case a_law_dice => k_is)
    (case l_law_dice => k_is)
    (case c_law_dice => k_is)
    (case k_law_dice => k_is)
    (case a_law_draw => k_is)
    (case l_law_draw => k_is)
    (case c_law_draw => k_is)
    (case k_law_draw => k_is)
    (case a_law_parts => k_is)
    (case l_law_parts => k_is)
    (case c_law_parts => k_is)
    (case k_law_parts => k_is)
    (case a_law_made => k_is)
    (case l_law_made => k_is)
    (case c_law_made => k_is)
    (case k_law_made => k_is)
    (case a_law_some_parts => k_is)
    (case l_law_some_parts => k_is)
    (case c_law_some_parts => k_is)
    (case k_law_some_parts => k_is)
    (case a_law_row => k_is)
    (case l_law_row => k_is)
    (case c_law_row => k_is)
    (case k_law_row => k_is)
    (case a_law_meets => k_is)
    (case l_law_meets => k_is)
    (case c_law_meets => k_is)
    (case k_law_meets => k_is)
    (case a_law_whole => k_is)
    (case l_law_whole => k_is)
    (case c_law_whole => k_is)
    (case k_law_whole => k_is)
    (case a_law_same => k_is)
    (case l_law_same => k_is)
    (case c_law_same => k_is)
    (case k_law_same => k_is)
    (case a_law_led => k_is)
    (case l_law_led => k_is)
    (case c_law_led => k_is)
    (case k_law_led => k_is)
    (case a_law_least_label => k_is)
    (case l_law_least_label => k_is)
    (case c_law_least_label => k_is)
    (case k_law_least_label => k_is)
    (case a_law => k_is)
    (case l_law => k_is)
    (case c_law => k_is)
    (case k_law => k_is)
    (case aC => k_is)
    (case a_Oinit => k_is)
    (case i_Oinit => k_is)
    (case l_Oinit => k_is)
    (case c_Oinit => k_is)
    (case k_Oinit => k_is)
    (case pg => k_is)
    (case hd => k_is)
    (case po => k_is)
    (case sa => k_is)
    (case mk => k_is)
    (case kc => k_is)
    (case nD => k_is)
    (case nW => k_is)
    (case nO => k_is)
    (case nM => k_is)
    (case m6 => k_is)
    (case m10 => k_is)
    (case z_len => k_is)
    (case z_isinstance => k_is)
    (case z_any => k_is)
    (case z_all => k_is)
    (case z_abs => k_is)
    (case z_sorted => k_is)
    (case z_int => k_is)
    (case z_bool => k_is)
    (case z_str => k_is)
    (case z_list => k_is)
    (case z_tuple => k_is)
    (case z_range => k_is)
    (case z_enumerate => k_is)
