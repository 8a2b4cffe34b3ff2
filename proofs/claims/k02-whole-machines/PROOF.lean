import PyProof.Rows.All
import Wide.All
import OpenK.AllK
import Wide.FinOn
import HandS.ForMost
import HandS.ForExc
import PySem.Challenge.RW_foursfold_k02_whole_machines_whatever_is
import HandS.IsInst
import HandS.Defaults
import HandS.Flow
import HandS.Deep
import KE.KSuper
import KE.KExcSuper
import KE.KExcIs
import HandS.CallSlots
import HandS.TryMany
import HandS.HeadWalk
import PyProof.ReprRoads
import HandS.Iter
import HandS.Zip0
import HandS.Zip
import HandS.Walk
import KE.GoesEnum
import KE.KDictZip
import HandS.Conv
import HandS.TupAny
import HandS.TupMul
import HandS.Codes
import HandS.DictComp
import HandS.Nested
import HandS.Lambda
import HandS.EndTab
import HandS.TupLe
import KE.KStateDown
import HandS.More
import HandS.Head0
import HandS.Head1
import HandS.Head2
import HandS.HeadEnd
import HandS.HeadHook1
import HandS.HeadHook2
import HandS.HeadHook3
import HandS.HeadHook4
set_option Elab.async false
set_option linter.all false
set_option maxRecDepth 100000
section
/-! The text by places. -/
namespace K2
open PySem PySem.Spec PyProof.Rows L2
def top (i : Nat) : Stmt := PySem.Challenge.pw_foursfold_k02_whole_machines_whatever_is.main.body.getD i (.Pass ⟨0, 0, 0, 0⟩)
abbrev sIsInteger : Stmt := top 12
abbrev sIsNumber : Stmt := top 13
abbrev sIsBelow : Stmt := top 14
abbrev sIsSequence : Stmt := top 15
abbrev sIsEnd : Stmt := top 17
abbrev sCheckRows : Stmt := top 18
abbrev sEndsOf : Stmt := top 19
abbrev sUnsoundThree : Stmt := top 20
abbrev sMergerInit : Stmt := inClass (top 21) 0
abbrev sNeedCommand : Stmt := top 22
abbrev sMerged : Stmt := top 23
abbrev sCheckQueue : Stmt := top 24
abbrev sPlacesOf : Stmt := top 25
abbrev sMergeablePlaces : Stmt := top 26
abbrev sIsFolded : Stmt := top 27
abbrev sIsTable : Stmt := top 29
abbrev sCheckMachine : Stmt := top 30
abbrev sDoneBy : Stmt := top 31
abbrev sDoneTable : Stmt := top 32
abbrev sMachineMerger : Stmt := top 33
abbrev sBox : Stmt := top 35
abbrev sTake : Stmt := top 36
abbrev sPick : Stmt := top 37
abbrev sMaps : Stmt := top 38
abbrev sRowsOf : Stmt := top 39
abbrev sAgainst : Stmt := top 40
abbrev sDone : Stmt := top 41
abbrev sHeard : Stmt := top 42
abbrev sPlayed : Stmt := top 43
abbrev sNone : Stmt := top 44
abbrev sLaw : Stmt := top 45
end K2
end
section
set_option maxHeartbeats 200000
/-! The plain law: machines, their mergers, queues. Core Lean alone. -/
set_option autoImplicit false
namespace FM

/-- first f, then g -/
def comp (f g : List Nat) : List Nat := f.map fun x => g.getD x 0
/-- what two commands merge to: some (-1) where they go, none where they do not merge -/
def endOf (n : Nat) (ms : List (List Nat)) (f : List Nat) : Option Int :=
  if f = List.range n then some (-1) else (ms.idxOf? f).map fun i => (i : Int)
def rowsOf (n : Nat) (ms : List (List Nat)) : List (List (Option Int)) := ms.map fun a => ms.map fun b => endOf n ms (comp a b)
def tab (ms : List (List Nat)) (c : Nat) : List Nat := ms.getD c []
def doneBy (n : Nat) (ms : List (List Nat)) (q : List Nat) : List Nat := q.foldl (fun st c => comp st (tab ms c)) (List.range n)

structure Tab (n : Nat) (t : List Nat) : Prop where
  len : t.length = n
  lt : ∀ x ∈ t, x < n
structure Mach (n : Nat) (ms : List (List Nat)) : Prop where
  n1 : 1 ≤ n
  n60 : n ≤ 60
  m1 : 1 ≤ ms.length
  m12 : ms.length ≤ 12
  tabs : ∀ t ∈ ms, Tab n t
  nd : ms.Nodup
  idle : List.range n ∉ ms

theorem comp_len (f g : List Nat) : (comp f g).length = f.length := by simp [comp]
theorem getD_lt {n : Nat} {g : List Nat} (hg : Tab n g) {x : Nat} (hx : x < n) : g.getD x 0 < n := by
  have h : x < g.length := by rw [hg.len]; exact hx
  rw [List.getD_eq_getElem?_getD, List.getElem?_eq_getElem h]
  exact hg.lt _ (List.getElem_mem h)
theorem comp_tab {n : Nat} {f g : List Nat} (hf : Tab n f) (hg : Tab n g) : Tab n (comp f g) := by
  refine ⟨by rw [comp_len]; exact hf.len, fun x hx => ?_⟩
  obtain ⟨y, hy, rfl⟩ := List.mem_map.mp hx
  exact getD_lt hg (hf.lt y hy)
theorem range_tab (n : Nat) : Tab n (List.range n) := ⟨by simp, fun x hx => List.mem_range.mp hx⟩
theorem comp_range_left {n : Nat} {g : List Nat} (hg : Tab n g) : comp (List.range n) g = g := by
  apply List.ext_getElem
  · simp [comp, hg.len]
  · intro i h1 h2
    simp [comp, h2]
theorem comp_range_right {n : Nat} {f : List Nat} (hf : Tab n f) : comp f (List.range n) = f := by
  apply List.ext_getElem
  · simp [comp]
  · intro i h1 h2
    have hb : f[i] < n := hf.lt _ (List.getElem_mem h2)
    simp [comp, hb]
theorem comp_assoc {n : Nat} {f g h : List Nat} (hf : Tab n f) (hg : Tab n g) : comp (comp f g) h = comp f (comp g h) := by
  unfold comp
  rw [List.map_map]
  apply List.map_congr_left
  intro x hx
  have hx' : x < g.length := by rw [hg.len]; exact hf.lt x hx
  simp [hx']
theorem tab_mem {ms : List (List Nat)} {c : Nat} (h : c < ms.length) : tab ms c ∈ ms := by
  unfold tab
  rw [List.getD_eq_getElem?_getD, List.getElem?_eq_getElem h]
  exact List.getElem_mem h
theorem Mach.tab {n : Nat} {ms : List (List Nat)} (M : Mach n ms) {c : Nat} (h : c < ms.length) : Tab n (tab ms c) := M.tabs _ (tab_mem h)

/-! ### the end tells the table -/
/-- the table that an end stands for -/
def tabOf (n : Nat) (ms : List (List Nat)) (e : Int) : List Nat := if e = -1 then List.range n else tab ms e.toNat
theorem idxOf?_some {α : Type} [BEq α] [LawfulBEq α] {l : List α} {x : α} {i : Nat} (h : l.idxOf? x = some i) : l[i]? = some x := by
  rw [List.idxOf?, List.findIdx?_eq_some_iff_getElem] at h
  obtain ⟨h1, h2, _⟩ := h
  rw [List.getElem?_eq_getElem h1]
  exact congrArg some (beq_iff_eq.mp h2)
theorem idxOf?_none {α : Type} [BEq α] [LawfulBEq α] {l : List α} {x : α} (h : l.idxOf? x = none) : x ∉ l := by
  rw [List.idxOf?, List.findIdx?_eq_none_iff] at h
  intro hx
  have := h x hx
  simp at this
theorem idxOf?_mem {α : Type} [BEq α] [LawfulBEq α] {l : List α} {x : α} (h : x ∈ l) : ∃ i, l.idxOf? x = some i := by
  cases e : l.idxOf? x with
  | none => exact absurd h (idxOf?_none e)
  | some i => exact ⟨i, rfl⟩
theorem idxOf?_first {α : Type} [BEq α] [LawfulBEq α] {l : List α} {x : α} {i : Nat} (h : l.idxOf? x = some i) : ∀ j y, j < i → l[j]? = some y → y ≠ x := by
  rw [List.idxOf?, List.findIdx?_eq_some_iff_getElem] at h
  obtain ⟨h1, h2, h3⟩ := h
  intro j y hj hy
  obtain ⟨hjl, e⟩ := List.getElem?_eq_some_iff.mp hy
  have := h3 j hj
  rw [e] at this
  simpa using this
theorem idxOf?_nodup {α : Type} [BEq α] [LawfulBEq α] {l : List α} (nd : l.Nodup) {x : α} {i : Nat} (h : l[i]? = some x) : l.idxOf? x = some i := by
  have hm : x ∈ l := List.mem_of_getElem? h
  obtain ⟨j, hj⟩ := idxOf?_mem hm
  have h2 := idxOf?_some hj
  have e : i = j := by
    obtain ⟨h3, e3⟩ := List.getElem?_eq_some_iff.mp h
    obtain ⟨h4, e4⟩ := List.getElem?_eq_some_iff.mp h2
    exact (List.getElem_inj nd).mp (e3.trans e4.symm)
  rw [e]
  exact hj
theorem endOf_tab {n : Nat} {ms : List (List Nat)} {f : List Nat} {e : Int} (h : endOf n ms f = some e) : tabOf n ms e = f := by
  unfold endOf at h
  split at h
  · rename_i hf
    cases h
    unfold tabOf
    rw [if_pos rfl, hf]
  · cases hi : ms.idxOf? f with
    | none => rw [hi] at h; cases h
    | some i =>
      rw [hi] at h
      have he : (i : Int) = e := Option.some.inj h
      subst he
      have h2 := idxOf?_some hi
      unfold tabOf
      rw [if_neg (by omega)]
      unfold tab
      rw [List.getD_eq_getElem?_getD, Int.toNat_natCast, h2]
      rfl
theorem endOf_range {n : Nat} {ms : List (List Nat)} {f : List Nat} {e : Int} (h : endOf n ms f = some e) : e = -1 ∨ ∃ i : Nat, e = (i : Int) ∧ i < ms.length := by
  unfold endOf at h
  split at h
  · exact .inl (Option.some.inj h).symm
  · cases hi : ms.idxOf? f with
    | none => rw [hi] at h; cases h
    | some i =>
      rw [hi] at h
      have h2 := idxOf?_some hi
      exact .inr ⟨i, (Option.some.inj h).symm, (List.getElem?_eq_some_iff.mp h2).1⟩
/-- the end of a table that stands is its number -/
theorem endOf_self {n : Nat} {ms : List (List Nat)} (M : Mach n ms) {c : Nat} (hc : c < ms.length) : endOf n ms (tab ms c) = some (c : Int) := by
  unfold endOf
  rw [if_neg (fun z => M.idle (by rw [← z]; exact tab_mem hc))]
  have h : ms[c]? = some (tab ms c) := by
    unfold tab
    rw [List.getD_eq_getElem?_getD, List.getElem?_eq_getElem hc]
    rfl
  rw [idxOf?_nodup M.nd h]
  rfl

/-! ### rows -/
def row (rows : List (List (Option Int))) (a b : Nat) : Option Int := (rows.getD a []).getD b none
theorem row_of {n : Nat} {ms : List (List Nat)} {a b : Nat} (ha : a < ms.length) (hb : b < ms.length) : row (rowsOf n ms) a b = endOf n ms (comp (tab ms a) (tab ms b)) := by
  simp [row, rowsOf, tab, ha, hb]
theorem rowsOf_len (n : Nat) (ms : List (List Nat)) : (rowsOf n ms).length = ms.length := by simp [rowsOf]
theorem rowsOf_rows {n : Nat} {ms : List (List Nat)} {r : List (Option Int)} (h : r ∈ rowsOf n ms) : r.length = ms.length := by
  obtain ⟨a, _, rfl⟩ := List.mem_map.mp h
  simp
theorem rowsOf_end {n : Nat} {ms : List (List Nat)} {r : List (Option Int)} (h : r ∈ rowsOf n ms) {e : Int} (he : some e ∈ r) : -1 ≤ e ∧ e < ms.length := by
  obtain ⟨a, _, rfl⟩ := List.mem_map.mp h
  obtain ⟨b, _, hb⟩ := List.mem_map.mp he
  rcases endOf_range hb with z | ⟨i, rfl, hi⟩ <;> omega

/-- three commands by the first merge first, the second first -/
def leftOf (rows : List (List (Option Int))) (x : Int) (c : Nat) : Option Int := if x = -1 then some (c : Int) else row rows x.toNat c
def rightOf (rows : List (List (Option Int))) (a : Nat) (y : Int) : Option Int := if y = -1 then some (a : Int) else row rows a y.toNat
theorem left_eq {n : Nat} {ms : List (List Nat)} (M : Mach n ms) {f : List Nat} {x : Int} (h : endOf n ms f = some x) {c : Nat} (hc : c < ms.length) :
    leftOf (rowsOf n ms) x c = endOf n ms (comp f (tab ms c)) := by
  have ht := endOf_tab h
  unfold leftOf
  rcases endOf_range h with z | ⟨i, z, hi⟩
  · subst z
    rw [if_pos rfl]
    unfold tabOf at ht
    rw [if_pos rfl] at ht
    rw [← ht, comp_range_left (M.tab hc), endOf_self M hc]
  · subst z
    rw [if_neg (by omega), Int.toNat_natCast, row_of hi hc]
    unfold tabOf at ht
    rw [if_neg (by omega), Int.toNat_natCast] at ht
    rw [ht]
theorem right_eq {n : Nat} {ms : List (List Nat)} (M : Mach n ms) {f : List Nat} {y : Int} (h : endOf n ms f = some y) {a : Nat} (ha : a < ms.length) :
    rightOf (rowsOf n ms) a y = endOf n ms (comp (tab ms a) f) := by
  have ht := endOf_tab h
  unfold rightOf
  rcases endOf_range h with z | ⟨i, z, hi⟩
  · subst z
    rw [if_pos rfl]
    unfold tabOf at ht
    rw [if_pos rfl] at ht
    rw [← ht, comp_range_right (M.tab ha), endOf_self M ha]
  · subst z
    rw [if_neg (by omega), Int.toNat_natCast, row_of ha hi]
    unfold tabOf at ht
    rw [if_neg (by omega), Int.toNat_natCast] at ht
    rw [ht]
/-- THE MERGER IS SOUND -/
theorem sound {n : Nat} {ms : List (List Nat)} (M : Mach n ms) {a b c : Nat} (ha : a < ms.length) (hb : b < ms.length) (hc : c < ms.length) {x y : Int}
    (hx : row (rowsOf n ms) a b = some x) (hy : row (rowsOf n ms) b c = some y) : leftOf (rowsOf n ms) x c = rightOf (rowsOf n ms) a y := by
  rw [row_of ha hb] at hx
  rw [row_of hb hc] at hy
  rw [left_eq M hx hc, right_eq M hy ha, comp_assoc (M.tab ha) (M.tab hb)]

/-! ### queues -/
theorem done_fold {n : Nat} {ms : List (List Nat)} (M : Mach n ms) : ∀ (q : List Nat), (∀ c ∈ q, c < ms.length) → ∀ st, Tab n st →
    q.foldl (fun st c => comp st (tab ms c)) st = comp st (doneBy n ms q) ∧ Tab n (doneBy n ms q)
  | [], _, st, hst => ⟨(comp_range_right hst).symm, range_tab n⟩
  | c :: q, h, st, hst => by
    have hc : c < ms.length := h c (List.mem_cons_self ..)
    have hq : ∀ d ∈ q, d < ms.length := fun d hd => h d (List.mem_cons_of_mem _ hd)
    have tc := M.tab hc
    have e1 : doneBy n ms (c :: q) = comp (tab ms c) (doneBy n ms q) := by
      show q.foldl _ (comp (List.range n) (tab ms c)) = _
      rw [comp_range_left tc]
      exact (done_fold M q hq _ tc).1
    have t2 := (done_fold M q hq _ tc).2
    refine ⟨?_, by rw [e1]; exact comp_tab tc t2⟩
    show q.foldl _ (comp st (tab ms c)) = _
    rw [(done_fold M q hq _ (comp_tab hst tc)).1, e1, comp_assoc hst tc]
theorem done_tab {n : Nat} {ms : List (List Nat)} (M : Mach n ms) {q : List Nat} (h : ∀ c ∈ q, c < ms.length) : Tab n (doneBy n ms q) := (done_fold M q h _ (range_tab n)).2
theorem done_app {n : Nat} {ms : List (List Nat)} (M : Mach n ms) {p q : List Nat} (hp : ∀ c ∈ p, c < ms.length) (hq : ∀ c ∈ q, c < ms.length) : doneBy n ms (p ++ q) = comp (doneBy n ms p) (doneBy n ms q) := by
  unfold doneBy
  rw [List.foldl_append]
  exact (done_fold M q hq _ (done_tab M hp)).1
theorem done_one {n : Nat} {ms : List (List Nat)} (M : Mach n ms) {c : Nat} (hc : c < ms.length) : doneBy n ms [c] = tab ms c := comp_range_left (M.tab hc)
theorem done_two {n : Nat} {ms : List (List Nat)} (M : Mach n ms) {a b : Nat} (ha : a < ms.length) : doneBy n ms [a, b] = comp (tab ms a) (tab ms b) := by
  show comp (comp (List.range n) (tab ms a)) (tab ms b) = _
  rw [comp_range_left (M.tab ha)]
/-- the queue behind a merge at the place -/
def fold (q : List Nat) (k : Nat) (e : Int) : List Nat := q.take k ++ (if e = -1 then [] else [e.toNat]) ++ q.drop (k + 2)
theorem fold_ok {n : Nat} {ms : List (List Nat)} (M : Mach n ms) {q : List Nat} (hq : ∀ c ∈ q, c < ms.length) {k a b : Nat} {e : Int} (ha : q[k]? = some a) (hb : q[k + 1]? = some b) (he : row (rowsOf n ms) a b = some e) :
    (∀ c ∈ fold q k e, c < ms.length) ∧ doneBy n ms (fold q k e) = doneBy n ms q ∧ (fold q k e).length < q.length := by
  have al : a < ms.length := hq a (List.mem_of_getElem? ha)
  have bl : b < ms.length := hq b (List.mem_of_getElem? hb)
  rw [row_of al bl] at he
  have ht := endOf_tab he
  have hkl : k + 1 < q.length := (List.getElem?_eq_some_iff.mp hb).1
  have h1 : ∀ c ∈ q.take k, c < ms.length := fun c hc => hq c (List.mem_of_mem_take hc)
  have h3 : ∀ c ∈ q.drop (k + 2), c < ms.length := fun c hc => hq c (List.mem_of_mem_drop hc)
  have hab : ∀ c ∈ [a, b], c < ms.length := by
    intro c hc
    rcases List.mem_cons.mp hc with z | z
    · rw [z]; exact al
    · rw [List.mem_singleton.mp z]; exact bl
  have split : q = q.take k ++ ([a, b] ++ q.drop (k + 2)) := by
    have e1 : q.drop k = a :: q.drop (k + 1) := by
      obtain ⟨h, e⟩ := List.getElem?_eq_some_iff.mp ha
      rw [List.drop_eq_getElem_cons h, e]
    have e2 : q.drop (k + 1) = b :: q.drop (k + 2) := by
      obtain ⟨h, e⟩ := List.getElem?_eq_some_iff.mp hb
      rw [List.drop_eq_getElem_cons h, e]
    have e3 : [a, b] ++ q.drop (k + 2) = q.drop k := by rw [e1, e2]; rfl
    rw [e3, List.take_append_drop]
  have mid : (∀ c ∈ (if e = -1 then [] else [e.toNat]), c < ms.length) ∧ doneBy n ms (if e = -1 then [] else [e.toNat]) = comp (tab ms a) (tab ms b) ∧ (if e = -1 then ([] : List Nat) else [e.toNat]).length ≤ 1 := by
    unfold tabOf at ht
    rcases endOf_range he with z | ⟨i, z, hi⟩
    · subst z
      rw [if_pos rfl] at ht
      rw [if_pos rfl]
      exact ⟨fun c hc => (nomatch hc), ht, Nat.zero_le _⟩
    · subst z
      rw [if_neg (by omega), Int.toNat_natCast] at ht
      rw [if_neg (by omega), Int.toNat_natCast]
      refine ⟨fun c hc => by rw [List.mem_singleton.mp hc]; exact hi, ?_, Nat.le_refl _⟩
      rw [done_one M hi, ht]
  obtain ⟨m1, m2, m3⟩ := mid
  have all : ∀ c ∈ fold q k e, c < ms.length := by
    intro c hc
    unfold fold at hc
    rcases List.mem_append.mp hc with hc | hc
    · rcases List.mem_append.mp hc with hc | hc
      · exact h1 c hc
      · exact m1 c hc
    · exact h3 c hc
  refine ⟨all, ?_, ?_⟩
  · have e4 : doneBy n ms q = comp (doneBy n ms (q.take k)) (comp (doneBy n ms [a, b]) (doneBy n ms (q.drop (k + 2)))) := by
      conv => lhs; rw [split]
      rw [done_app M h1 (fun c hc => (List.mem_append.mp hc).elim (hab c) (h3 c)), done_app M hab h3]
    rw [e4, done_two M al]
    unfold fold
    rw [List.append_assoc, done_app M h1 (fun c hc => (List.mem_append.mp hc).elim (m1 c) (h3 c)), done_app M m1 h3, m2]
  · unfold fold
    rw [List.length_append, List.length_append, List.length_take, List.length_drop]
    omega
/-- the places of a queue -/
def places (rows : List (List (Option Int))) (q : List Nat) : List Nat := (List.range (q.length - 1)).filter fun k => (row rows (q.getD k 0) (q.getD (k + 1) 0)).isSome
theorem mem_places {rows : List (List (Option Int))} {q : List Nat} {k : Nat} (h : k ∈ places rows q) : ∃ a b e, q[k]? = some a ∧ q[k + 1]? = some b ∧ row rows a b = some e := by
  obtain ⟨h1, h2⟩ := List.mem_filter.mp h
  have hk := List.mem_range.mp h1
  have k1 : k < q.length := by omega
  have k2 : k + 1 < q.length := by omega
  obtain ⟨e, he⟩ := Option.isSome_iff_exists.mp h2
  refine ⟨q[k], q[k + 1], e, List.getElem?_eq_getElem k1, List.getElem?_eq_getElem k2, ?_⟩
  simpa [k1, k2] using he
theorem places_nil {rows : List (List (Option Int))} {q : List Nat} (h : q.length ≤ 1) : places rows q = [] := by
  unfold places
  have : q.length - 1 = 0 := by omega
  rw [this]
  rfl

/-! ### what check_machine says -/
/-- a value as check_machine sees it -/
inductive Sh (α : Type) where
  | other
  | seq (xs : List α)
def states (found : List (List Nat)) {α : Type} (w : Sh α) : Nat := match found, w with
  | [], .seq xs => xs.length
  | [], .other => 0
  | f :: _, _ => f.length
/-- item by item: a number, or none -/
def nums (n : Nat) : List (Option Nat) → Option (List Nat)
  | [] => some []
  | some x :: r => if x < n then (nums n r).map (x :: ·) else none
  | none :: _ => none
def isTab (n : Nat) : Sh (Option Nat) → Option (List Nat)
  | .seq xs => if xs.length = n then nums n xs else none
  | .other => none
/-- one step: the new table, or refused -/
def step (found : List (List Nat)) (w : Sh (Option Nat)) : Option (List Nat) :=
  if 1 ≤ states found w ∧ states found w ≤ 60 then
    match isTab (states found w) w with
    | some m => if m ∈ found ∨ m = List.range (states found w) then none else some m
    | none => none
  else none
def chk (found : List (List Nat)) : List (Sh (Option Nat)) → Except Nat (List (List Nat))
  | [] => .ok found
  | w :: r => match step found w with
    | some m => chk (found ++ [m]) r
    | none => .error found.length
def shM (ms : List (List Nat)) : List (Sh (Option Nat)) := ms.map fun m => .seq (m.map some)
theorem nums_some {n : Nat} : ∀ {m : List Nat}, (∀ x ∈ m, x < n) → nums n (m.map some) = some m
  | [], _ => rfl
  | x :: r, h => by
    show (if x < n then (nums n (r.map some)).map (x :: ·) else none) = _
    rw [if_pos (h x (List.mem_cons_self ..)), nums_some fun y hy => h y (List.mem_cons_of_mem _ hy)]
    rfl
theorem nums_tab {n : Nat} : ∀ {xs : List (Option Nat)} {m : List Nat}, nums n xs = some m → xs = m.map some ∧ ∀ x ∈ m, x < n
  | [], m, h => by cases h; exact ⟨rfl, fun x hx => nomatch hx⟩
  | some x :: r, m, h => by
    have h1 : (if x < n then (nums n r).map (x :: ·) else none) = some m := h
    split at h1
    · rename_i hx
      cases e : nums n r with
      | none => rw [e] at h1; cases h1
      | some m' =>
        rw [e] at h1
        have e2 : x :: m' = m := Option.some.inj h1
        subst e2
        obtain ⟨e3, h3⟩ := nums_tab e
        exact ⟨by rw [e3]; rfl, fun y hy => (List.mem_cons.mp hy).elim (fun z => by rw [z]; exact hx) (h3 y)⟩
    · cases h1
  | none :: r, m, h => by cases h
theorem nums_bad {n : Nat} : ∀ {xs : List (Option Nat)}, (∃ o ∈ xs, ∀ x, o = some x → ¬ x < n) → nums n xs = none
  | [], h => by obtain ⟨o, ho, _⟩ := h; cases ho
  | none :: r, _ => rfl
  | some x :: r, h => by
    show (if x < n then (nums n r).map (x :: ·) else none) = none
    split
    · rename_i hx
      obtain ⟨o, ho, hb⟩ := h
      rcases List.mem_cons.mp ho with z | z
      · exact absurd hx (hb x z)
      · rw [nums_bad ⟨o, z, hb⟩]
        rfl
    · rfl
/-- what has been found so far is a machine (or nothing yet) -/
structure Fnd (n : Nat) (ms : List (List Nat)) : Prop where
  tabs : ∀ t ∈ ms, Tab n t
  nd : ms.Nodup
  idle : List.range n ∉ ms
  n1 : 1 ≤ n
  n60 : n ≤ 60
theorem Mach.fnd {n : Nat} {ms : List (List Nat)} (M : Mach n ms) : Fnd n ms := ⟨M.tabs, M.nd, M.idle, M.n1, M.n60⟩
theorem Fnd.mach {n : Nat} {ms : List (List Nat)} (F : Fnd n ms) (h1 : 1 ≤ ms.length) (h2 : ms.length ≤ 12) : Mach n ms := ⟨F.n1, F.n60, h1, h2, F.tabs, F.nd, F.idle⟩
theorem Fnd.take {n : Nat} {ms : List (List Nat)} (F : Fnd n ms) (k : Nat) : Fnd n (ms.take k) :=
  ⟨fun t ht => F.tabs t (List.mem_of_mem_take ht), F.nd.sublist (List.take_sublist ..), fun h => F.idle (List.mem_of_mem_take h), F.n1, F.n60⟩
theorem states_cons {n : Nat} {found : List (List Nat)} (F : Fnd n found) (hne : found ≠ []) {α : Type} (w : Sh α) : states found w = n := by
  cases found with
  | nil => exact absurd rfl hne
  | cons f r => exact (F.tabs f (List.mem_cons_self ..)).len
theorem step_ok {n : Nat} {found : List (List Nat)} {m : List Nat} (F : Fnd n (found ++ [m])) : step found (.seq (m.map some)) = some m := by
  have tm := F.tabs m (List.mem_append_right _ (List.mem_singleton.mpr rfl))
  have es : states found (.seq (m.map some)) = n := by
    cases found with
    | nil => show (m.map some).length = n; rw [List.length_map]; exact tm.len
    | cons f r => exact (F.tabs f (List.mem_append_left _ (List.mem_cons_self ..))).len
  unfold step
  rw [es, if_pos ⟨F.n1, F.n60⟩]
  have ei : isTab n (.seq (m.map some)) = some m := by
    show (if (m.map some).length = n then nums n (m.map some) else none) = _
    rw [if_pos (by rw [List.length_map]; exact tm.len), nums_some tm.lt]
  rw [ei]
  show (if m ∈ found ∨ m = List.range n then none else some m) = some m
  rw [if_neg]
  rintro (h | h)
  · have nd := F.nd
    rw [List.nodup_append] at nd
    exact nd.2.2 m h m (List.mem_singleton.mpr rfl) rfl
  · exact F.idle (List.mem_append_right _ (List.mem_singleton.mpr h.symm))
theorem chk_app {n : Nat} : ∀ (ms : List (List Nat)) (found : List (List Nat)) (r : List (Sh (Option Nat))), (ms ≠ [] → Fnd n (found ++ ms)) → chk found (shM ms ++ r) = chk (found ++ ms) r
  | [], found, r, _ => by
    show chk found r = chk (found ++ []) r
    rw [List.append_nil]
  | m :: ms, found, r, h => by
    have F := h (by simp)
    have e : found ++ m :: ms = (found ++ [m]) ++ ms := by simp
    have F1 : Fnd n (found ++ [m]) := by
      have e1 : found ++ [m] = (found ++ m :: ms).take (found.length + 1) := by rw [e, List.take_left' (by simp)]
      rw [e1]
      exact F.take _
    show (match step found (.seq (m.map some)) with
      | some m => chk (found ++ [m]) (shM ms ++ r)
      | none => .error found.length) = _
    rw [step_ok F1]
    show chk (found ++ [m]) (shM ms ++ r) = _
    rw [chk_app ms (found ++ [m]) r (fun _ => by rw [← e]; exact F), ← e]
theorem chk_ok {n : Nat} {ms : List (List Nat)} (M : Mach n ms) : chk [] (shM ms) = .ok ms := by
  have := chk_app (n := n) ms [] [] (fun _ => M.fnd)
  rw [List.append_nil] at this
  rw [this]
  rfl
theorem chk_bad {n : Nat} {ms : List (List Nat)} (F : Fnd n ms) {w : Sh (Option Nat)} {r : List (Sh (Option Nat))} (h : step ms w = none) : chk [] (shM ms ++ w :: r) = .error ms.length := by
  have := chk_app (n := n) ms [] (w :: r) (fun _ => F)
  rw [this]
  show (match step ms w with
    | some m => chk (ms ++ [m]) r
    | none => .error ms.length) = _
  rw [h]
/-- what chk gives is a machine: the steps' own account -/
theorem step_fnd {found : List (List Nat)} {w : Sh (Option Nat)} {m : List Nat} (h : step found w = some m) (F : found = [] ∨ Fnd (states found w) found) : Fnd (states found w) (found ++ [m]) := by
  unfold step at h
  split at h
  · rename_i hs
    cases ei : isTab (states found w) w with
    | none => rw [ei] at h; cases h
    | some t =>
      rw [ei] at h
      have h1 : (if t ∈ found ∨ t = List.range (states found w) then none else some t) = some m := h
      split at h1
      · cases h1
      · rename_i hno
        cases h1
        have tb : Tab (states found w) m := by
          cases w with
          | other => cases ei
          | seq xs =>
            have h2 : (if xs.length = states found (.seq xs) then nums (states found (.seq xs)) xs else none) = some m := ei
            split at h2
            · rename_i hl
              obtain ⟨e, hlt⟩ := nums_tab h2
              refine ⟨?_, hlt⟩
              rw [← hl, e, List.length_map]
            · cases h2
        have hF : (∀ t ∈ found, Tab (states found w) t) ∧ found.Nodup ∧ List.range (states found w) ∉ found := by
          rcases F with rfl | F
          · exact ⟨fun t ht => (nomatch ht), List.nodup_nil, fun h => (nomatch h)⟩
          · exact ⟨F.tabs, F.nd, F.idle⟩
        refine ⟨fun u hu => ?_, ?_, fun hi => ?_, hs.1, hs.2⟩
        · rcases List.mem_append.mp hu with z | z
          · exact hF.1 u z
          · rw [List.mem_singleton.mp z]; exact tb
        · rw [List.nodup_append]
          exact ⟨hF.2.1, List.nodup_cons.mpr ⟨fun z => (nomatch z), List.nodup_nil⟩, fun a ha b hb e => hno (.inl (by rw [← List.mem_singleton.mp hb, ← e]; exact ha))⟩
        · rcases List.mem_append.mp hi with z | z
          · exact hF.2.2 z
          · exact hno (.inr (List.mem_singleton.mp z).symm)
  · cases h
theorem chk_fnd : ∀ (ws : List (Sh (Option Nat))) (found ms : List (List Nat)), (found = [] ∨ ∃ n, Fnd n found) → chk found ws = .ok ms → ws.length + found.length = ms.length ∧ (ms = [] ∨ ∃ n, Fnd n ms)
  | [], found, ms, F, h => by cases h; exact ⟨by simp, F⟩
  | w :: r, found, ms, F, h => by
    have h1 : (match step found w with
      | some m => chk (found ++ [m]) r
      | none => .error found.length) = Except.ok ms := h
    cases e : step found w with
    | none => rw [e] at h1; cases h1
    | some m =>
      rw [e] at h1
      have F1 : Fnd (states found w) (found ++ [m]) := step_fnd e (by
        rcases F with rfl | ⟨n, F⟩
        · exact .inl rfl
        · by_cases hne : found = []
          · exact .inl hne
          · exact .inr (by rw [states_cons F hne w]; exact F))
      obtain ⟨l, q⟩ := chk_fnd r (found ++ [m]) ms (.inr ⟨_, F1⟩) h1
      refine ⟨?_, q⟩
      rw [List.length_append] at l
      simp only [List.length_cons, List.length_nil] at l ⊢
      omega
/-- the whole: a value that is a sequence of 1 to 12 -/
def chkW (ws : Option (List (Sh (Option Nat)))) : Except Int (List (List Nat)) := match ws with
  | none => .error (-1)
  | some ws => if 1 ≤ ws.length ∧ ws.length ≤ 12 then match chk [] ws with
    | .ok ms => .ok ms
    | .error k => .error (k : Int)
    else .error (-1)
theorem chkW_ok {n : Nat} {ms : List (List Nat)} (M : Mach n ms) : chkW (some (shM ms)) = .ok ms := by
  have hl : (shM ms).length = ms.length := by simp [shM]
  unfold chkW
  show (if 1 ≤ (shM ms).length ∧ (shM ms).length ≤ 12 then _ else _) = _
  rw [hl, if_pos ⟨M.m1, M.m12⟩, chk_ok M]
theorem chkW_bad {n : Nat} {ms : List (List Nat)} (F : Fnd n ms) {w : Sh (Option Nat)} {r : List (Sh (Option Nat))} (h : step ms w = none) (hl : ms.length + 1 + r.length ≤ 12) : chkW (some (shM ms ++ w :: r)) = .error (ms.length : Int) := by
  have e : (shM ms ++ w :: r).length = ms.length + 1 + r.length := by simp [shM]; omega
  unfold chkW
  show (if 1 ≤ (shM ms ++ w :: r).length ∧ (shM ms ++ w :: r).length ≤ 12 then _ else _) = _
  rw [e, if_pos ⟨by omega, hl⟩, chk_bad F h]
theorem chkW_mach {ws : Option (List (Sh (Option Nat)))} {ms : List (List Nat)} (h : chkW ws = .ok ms) : ∃ n, Mach n ms := by
  cases ws with
  | none => cases h
  | some ws =>
    have h1 : (if 1 ≤ ws.length ∧ ws.length ≤ 12 then match chk [] ws with
      | .ok ms => Except.ok ms
      | .error k => .error (k : Int)
      else .error (-1)) = Except.ok ms := h
    split at h1
    · rename_i hl
      cases e : chk [] ws with
      | error k => rw [e] at h1; cases h1
      | ok m =>
        rw [e] at h1
        cases h1
        obtain ⟨l, F⟩ := chk_fnd ws [] ms (.inl rfl) e
        simp only [List.length_nil, Nat.add_zero] at l
        rcases F with rfl | ⟨n, F⟩
        · simp only [List.length_nil] at l; omega
        · exact ⟨n, F.mach (by omega) (by omega)⟩
    · cases h1
end FM
end
section
set_option maxHeartbeats 2000000
/-! Values, heaps, the small defs of the words. -/
namespace K2
open PySem PySem.Spec PyProof.Rows L2
/-- a def of the text, without defaults -/
abbrev Fn (K : PySem.W.Frag) (x : Str) (st : Stmt) (f : Addr) (fd : FuncData) : Prop := FunD K x x (defArgs st) (defBody st) (defScope st) [] [] f fd
/-- the built-in names that the text does not bind -/
structure Blt (mg : Str → Option Value) : Prop where
  isinst : mg "isinstance" = none
  int : mg "int" = none
  bool : mg "bool" = none
  list : mg "list" = none
  tuple : mg "tuple" = none
  len : mg "len" = none
  all : mg "all" = none
  enum : mg "enumerate" = none
  range : mg "range" = none
  zip : mg "zip" = none
  abs : mg "abs" = none
  repr : mg "repr" = none
/-! ### the values that are looked at -/
inductive Kd (K : PySem.W.Frag) (H : Hp) : V → Prop
  | non : Kd K H .non
  | bl (b : Bool) : Kd K H (.bl b)
  | int (i : Int) : Kd K H (.int i)
  | str (x : Str) : Kd K H (.str x)
  | lst {a : Addr} {xs : List V} (h : SqL K H a xs) : Kd K H (.ref a)
  | tup {a : Addr} {xs : List V} (h : SqT K H a xs) : Kd K H (.ref a)
/-- a flat one -/
def flat4 : V → Bool
  | .non => true
  | .bl _ => true
  | .int _ => true
  | .str _ => true
  | _ => false
theorem Kd.flat {K : PySem.W.Frag} {H : Hp} : ∀ {v : V}, flat4 v = true → Kd K H v
  | .non, _ => .non
  | .bl b, _ => .bl b
  | .int i, _ => .int i
  | .str x, _ => .str x
  | .byt _, h => by cases h
  | .flt _, h => by cases h
  | .ref _, h => by cases h
  | .ty _, h => by cases h
theorem _root_.L2.Same.seqT {K : PySem.W.Frag} {H H' : Hp} {a : Addr} {xs : List V} (e : Same H H') (h : SqT K H a xs) : SqT K H' a xs := by
  rcases h with (h | ⟨o, h⟩) | h
  · exact .inl (.inl (e _ _ h))
  · exact .inl (.inr ⟨o, e _ _ h⟩)
  · exact .inr h
theorem Kd.same {K : PySem.W.Frag} {H H' : Hp} {v : V} (e : Same H H') : Kd K H v → Kd K H' v
  | .non => .non
  | .bl b => .bl b
  | .int i => .int i
  | .str x => .str x
  | .lst h => .lst (e.seq h)
  | .tup h => .tup (e.seqT h)
theorem Same.new {H : Hp} {p : Addr} {o : HO} (np : H p = none) : Same H (upd H p o) := fun b u e => by
  rw [upd_ne (ne_of_none e np)]
  exact e
def isIntV : V → Bool
  | .int _ => true
  | _ => false
def isSeqV : V → Bool
  | .ref _ => true
  | _ => false
def isNumV : V → Bool
  | .int i => decide (0 ≤ i)
  | _ => false
def isBelV (v : V) (m : Int) : Bool := match v with
  | .int i => decide (0 ≤ i) && decide (i < m)
  | _ => false
section
variable {K : PySem.W.Frag} {H : Hp}
theorem ty_lst {a : Addr} {xs : List V} (h : SqL K H a xs) : TyX K H (.ref a) (.type "list") := by
  rcases h with (h | ⟨o, h⟩) | ⟨o, its, n, hk, hc, _⟩
  · exact .base (.lst h)
  · exact .base (.frz h)
  · exact .kList hk hc
theorem ty_tup {a : Addr} {xs : List V} (h : SqT K H a xs) : TyX K H (.ref a) (.type "tuple") := by
  rcases h with (h | ⟨o, h⟩) | ⟨o, its, n, hk, hc, _⟩
  · exact .base (.tup h)
  · exact .fTuple h
  · exact .kTuple hk hc
/-- the type of such a value, and what isinstance asks of it -/
theorem Kd.ty {v : V} (k : Kd K H v) : ∃ t : String, TyX K H v (.type t) ∧ PySem.W.kitOne K (.type t) (.type "int") = some (decide (t = "int") || decide (t = "bool")) ∧ PySem.W.kitOne K (.type t) (.type "bool") = some (decide (t = "bool")) ∧
    PySem.W.kitAny K (.type t) [.type "list", .type "tuple"] = some (isSeqV v) ∧ ((decide (t = "int") || decide (t = "bool")) && !decide (t = "bool")) = isIntV v := by
  cases k with
  | non => exact ⟨"NoneType", .base .non, kit_ty (by decide +kernel), kit_ty (by decide +kernel), kitAny_cons (b := false) (kit_ty (by decide +kernel)) (fun _ => kitAny_cons (b := false) (kit_ty (by decide +kernel)) (fun _ => kitAny_nil) (fun z => nomatch z)) (fun z => nomatch z), (show _ = false from by decide)⟩
  | bl b => exact ⟨"bool", .base (.bl b), kit_ty (by decide +kernel), kit_ty (by decide +kernel), kitAny_cons (b := false) (kit_ty (by decide +kernel)) (fun _ => kitAny_cons (b := false) (kit_ty (by decide +kernel)) (fun _ => kitAny_nil) (fun z => nomatch z)) (fun z => nomatch z), (show _ = false from by decide)⟩
  | int i => exact ⟨"int", .base (.int i), kit_ty (by decide +kernel), kit_ty (by decide +kernel), kitAny_cons (b := false) (kit_ty (by decide +kernel)) (fun _ => kitAny_cons (b := false) (kit_ty (by decide +kernel)) (fun _ => kitAny_nil) (fun z => nomatch z)) (fun z => nomatch z), (show _ = true from by decide)⟩
  | str x => exact ⟨"str", .base (.str x), kit_ty (by decide +kernel), kit_ty (by decide +kernel), kitAny_cons (b := false) (kit_ty (by decide +kernel)) (fun _ => kitAny_cons (b := false) (kit_ty (by decide +kernel)) (fun _ => kitAny_nil) (fun z => nomatch z)) (fun z => nomatch z), (show _ = false from by decide)⟩
  | lst h => exact ⟨"list", ty_lst h, kit_ty (by decide +kernel), kit_ty (by decide +kernel), kitAny_cons (b := true) (kit_ty (by decide +kernel)) (fun z => nomatch z) (fun _ => rfl), (show _ = false from by decide)⟩
  | tup h => exact ⟨"tuple", ty_tup h, kit_ty (by decide +kernel), kit_ty (by decide +kernel), kitAny_cons (b := false) (kit_ty (by decide +kernel)) (fun _ => kitAny_cons (b := true) (kit_ty (by decide +kernel)) (fun z => nomatch z) (fun _ => rfl)) (fun z => nomatch z), (show _ = false from by decide)⟩
end
/-! ### promises -/
def spIsInteger (K : PySem.W.Frag) : Sp := fun vs H Q _ => ∃ v, vs = [v] ∧ Kd K H v ∧ Q (.bl (isIntV v)) H
def spIsNumber (K : PySem.W.Frag) : Sp := fun vs H Q _ => ∃ v, vs = [v] ∧ Kd K H v ∧ Q (.bl (isNumV v)) H
def spIsBelow (K : PySem.W.Frag) : Sp := fun vs H Q _ => ∃ v m, vs = [v, .int m] ∧ Kd K H v ∧ Q (.bl (isBelV v m)) H
def spIsSequence (K : PySem.W.Frag) : Sp := fun vs H Q _ => ∃ v, vs = [v] ∧ Kd K H v ∧ ∀ H', Same H H' → Q (.bl (isSeqV v)) H'
section
variable {P : Program} {w : World} {K : PySem.W.Frag} {mg : Str → Option Value} {base : Heap} {f g : Addr} {fd gd : FuncData}
theorem scIsInteger : FnScope ["value"] ["value"] (defScope sIsInteger) := ⟨rfl, rfl, rfl, by decide +kernel, rfl, by decide +kernel, by decide +kernel⟩
theorem ok_is_integer (F : Fn K "is_integer" sIsInteger f fd) (B : Blt mg) : FnOk P w K mg base CX0 1 f fd ["value"] (spIsInteger K) := by
  refine F.ok scIsInteger (fun vs H Q E h => ?_) (fun cdv A outer s H vs Q E hr h => ?_)
  · obtain ⟨v, rfl, _⟩ := h
    rfl
  · obtain ⟨v, rfl, k, q⟩ := h
    obtain ⟨t, ty, t1, t2, _, e⟩ := k.ty
    refine ⟨_, PSs.nox (pss_one (ps_ret (pe_and (pe_callB call_isi (by rfl) B.isinst (by decide +kernel) (pa_cons (pv 0) (pa_cons (pe_bltn (by rfl) B.int (by decide +kernel) (v := .ty "int") rfl) pa_nil)))
      (pe_one (pe_not (pe_callB call_isi (by rfl) B.isinst (by decide +kernel) (pa_cons (pv 0) (pa_cons (pe_bltn (by rfl) B.bool (by decide +kernel) (v := .ty "bool") rfl) pa_nil)))))))), ?_⟩
    refine ⟨_, rfl, v, .ty "int", .type t, .type "int", _, rfl, .ty _, ty, t1, _, rfl, ?_⟩
    rw [← e] at q
    refine ite2 (fun h1 => ?_) (fun h1 => ?_)
    · refine ⟨_, rfl, v, .ty "bool", .type t, .type "bool", _, rfl, .ty _, ty, t2, _, rfl, ?_⟩
      rw [h1, Bool.true_and] at q
      exact q
    · have h2 : (decide (t = "int") || decide (t = "bool")) = false := by simpa using h1
      rw [h2, Bool.false_and] at q
      exact q
theorem scIsNumber : FnScope ["value"] ["value"] (defScope sIsNumber) := ⟨rfl, rfl, rfl, by decide +kernel, rfl, by decide +kernel, by decide +kernel⟩
theorem ok_is_number (F : Fn K "is_number" sIsNumber f fd) (G : Fn K "is_integer" sIsInteger g gd) (mG : mg "is_integer" = some (.ref g)) (B : Blt mg) : FnOk P w K mg base CX0 2 f fd ["value"] (spIsNumber K) := by
  have GG : FnOk P w K mg base CX0 1 g gd ["value"] (spIsInteger K) := ok_is_integer G B
  have bG : Binds K gd ["value"] [] := G.bindsN fun _ _ _ _ _ _ us hl => match us, hl with | [_], _ => rfl
  refine F.ok scIsNumber (fun vs H Q E h => ?_) (fun cdv A outer s H vs Q E hr h => ?_)
  · obtain ⟨v, rfl, _⟩ := h
    rfl
  · obtain ⟨v, rfl, k, q⟩ := h
    refine ⟨_, PSs.nox (pss_one (ps_ret (pe_and (pe_call GG hr rfl mG G.kp bG .nil pass0 (pa_cons (pv 0) pa_nil)) (pe_one (pe_cmp (pc_ge (pv 0) pe_int) rfl))))), ?_⟩
    refine ⟨_, rfl, v, rfl, k, _, rfl, ?_⟩
    cases k with
    | int i => exact iteT ⟨_, rfl, _, _, rfl, rfl, q⟩
    | _ => exact iteF q
theorem scIsBelow : FnScope ["value", "most"] ["value", "most"] (defScope sIsBelow) := ⟨rfl, rfl, rfl, by decide +kernel, rfl, by decide +kernel, by decide +kernel⟩
theorem ok_is_below (F : Fn K "is_below" sIsBelow f fd) (G : FnOk P w K mg base CX0 2 g gd ["value"] (spIsNumber K)) (kG : PySem.W.keepIn K (.ref g) = true) (bG : Binds K gd ["value"] []) (mG : mg "is_number" = some (.ref g)) :
    FnOk P w K mg base CX0 3 f fd ["value", "most"] (spIsBelow K) := by
  refine F.ok scIsBelow (fun vs H Q E h => ?_) (fun cdv A outer s H vs Q E hr h => ?_)
  · obtain ⟨v, m, rfl, _⟩ := h
    rfl
  · obtain ⟨v, m, rfl, k, q⟩ := h
    refine ⟨_, PSs.nox (pss_one (ps_ret (pe_and (pe_call G hr rfl mG kG bG .nil pass0 (pa_cons (pv 0) pa_nil)) (pe_one (pe_cmp (pc_lt (pv 0) (pv 1)) rfl))))), ?_⟩
    refine ⟨_, rfl, v, rfl, k, _, rfl, ?_⟩
    cases k with
    | int i =>
      have q' : Q (.bl (decide (0 ≤ i) && decide (i < m))) H := q
      refine ite2 (fun h1 => ?_) (fun h1 => ?_)
      · have h2 : decide (0 ≤ i) = true := h1
        rw [h2, Bool.true_and] at q'
        exact ⟨_, rfl, _, rfl, _, _, rfl, rfl, q'⟩
      · have h2 : decide (0 ≤ i) = false := by
          have h3 : ¬ decide (0 ≤ i) = true := h1
          simpa using h3
        rw [h2, Bool.false_and] at q'
        exact q'
    | _ => exact iteF q
theorem scIsSequence : FnScope ["value"] ["value"] (defScope sIsSequence) := ⟨rfl, rfl, rfl, by decide +kernel, rfl, by decide +kernel, by decide +kernel⟩
theorem ok_is_sequence (F : Fn K "is_sequence" sIsSequence f fd) (B : Blt mg) : FnOk P w K mg base CX0 1 f fd ["value"] (spIsSequence K) := by
  refine F.ok scIsSequence (fun vs H Q E h => ?_) (fun cdv A outer s H vs Q E hr h => ?_)
  · obtain ⟨v, rfl, _⟩ := h
    rfl
  · obtain ⟨v, rfl, k, q⟩ := h
    refine ⟨_, PSs.nox (pss_one (ps_ret (pe_callB call_isiT (by rfl) B.isinst (by decide +kernel) (pa_cons (pv 0) (pa_cons (pe_tup (pa_cons (pe_bltn (by rfl) B.list (by decide +kernel) (v := .ty "list") rfl) (pa_cons (pe_bltn (by rfl) B.tuple (by decide +kernel) (v := .ty "tuple") rfl) pa_nil))) pa_nil))))), ?_⟩
    refine ⟨_, rfl, (by show 2 ≤ sizeLine; decide), fun p np => ?_⟩
    have sm : Same H (upd H p (.tup [.ty "list", .ty "tuple"])) := Same.new np
    obtain ⟨t, ty, _, _, t3, _⟩ := (k.same sm).ty
    exact ⟨v, p, _, .type t, _, _, rfl, upd_same, .cons (.ty _) (.cons (.ty _) .nil), ty, t3, q _ sm⟩
end
end K2
end
section
set_option maxHeartbeats 4000000
/-! The package's errors with a field `at`: made, raised, caught, read. -/
namespace K2
open PySem PySem.W PySem.Calls PyProof.Rows PySem.HandSPX
/-! ### the text of __init__ -/
def eArgs (p1 p2 : Pos) : Arguments := { posonlyargs := [], args := [{ arg := "self", annotation := none, pos := p1 }, { arg := "at", annotation := none, pos := p2 }], vararg := none, kwonlyargs := [], kw_defaults := [], kwarg := none, defaults := [] }
def eBody (msg : Str) (p0 p1 ap cp cq eq q1 q2 q3 q4 : Pos) : List Stmt :=
  [.Expr (.Call (.Attribute (.Call (.Name "super" p0) [] [] p1) "__init__" ap) [.Constant (.str msg) 0 cp] [] cq) eq, .Assign [.Attribute (.Name "self" q1) "at" q2] (.Name "at" q3) q4]
def eScope : Scope := { kind := .function, names := [(PySem.Str.ofString "self", .local), (PySem.Str.ofString "at", .local), (PySem.Str.ofString "__class__", .free), (PySem.Str.ofString "super", .globalImplicit)], isGenerator := false, isCoroutine := false, more := [] }
/-- what the written part says of such a class x, at C, and of its __init__, at fI -/
structure BadT (P : Program) (K : Frag) (mg : Str → Option Value) (x : Str) (C fI : Addr) : Prop where
  gC : mg x = some (.ref C)
  exc : excInitIn K C veTail "ValueError.__new__" = true
  cls : ∃ cd, clsIn K C = some cd ∧ refsVE cd.mro = true ∧ cd.hasDict = true
  sa : findIn K (.ref C) "__setattr__" = some (some (.builtin "object.__setattr__"))
  ga : findIn K (.ref C) "__getattribute__" = some (some (.builtin "BaseException.__getattribute__"))
  gg : findIn K (.ref C) "__getattr__" = some none
  noN : findIn K (.ref C) "at" = some none
  iC : findIn K (.ref C) "__init__" = some (some (.ref fI))
  tC : typeIn K (.ref fI) = some (.type "function")
  kC : keepIn K (.ref C) = true
  clC : (clsIn K C).isSome = true
  acC : findIn K (.ref C) "__class__" = some (some (.builtin "object.__class__"))
  spC : specialIn K (.builtin "object.__class__") "__get__" = some (some (.builtin "getset_descriptor.__get__"))
  tkC : takesIn K (.builtin "object.__class__") = some true
  obC : mroIn K C (.type "object") = some true
  exC : subIn K (.ref C) (.type "BaseException") = some true
  veC : subIn K (.ref C) (.type "ValueError") = some true
  tyC : typeIn K (.ref C) = some (.type "type")
  hdC : hasDictIn K C = true
  selfC : mroIn K C (.ref C) = some true
  up : ks_superIn K C C "__init__" = some (some (.builtin "ValueError.__init__"))
  any : nsIn K cStatics "thirdparty.any" = some none
  noSup : nsIn K mainGlobals "super" = some none
  topSup : (P.main.scope.names.lookup ("super" : Str)).isSome = false
  fn : ∃ (oc : Value) (od : Option Addr) (qual : Str) (kV doc pm : Value) (an : Option Addr) (cda cc : Addr) (ct : Value) (osl : Array (Option Value)) (msg : Str) (p1 p2 p3 p4 p5 p6 p7 p8 q1 q2 q3 q4 : Pos),
    K.lookup fI = some ⟨oc, od, .func (ksFn "__init__" qual (eArgs p1 p2) (eBody msg p3 p4 p5 p6 p7 p8 q1 q2 q3 q4) eScope .none kV doc pm an (.ref cda) ct cc), osl⟩ ∧ codeIn K (.ref cda) qual = true ∧
    (∃ (ccl : Value) (cdd : Option Addr) (vs : Array Value) (ccs : Array (Option Value)) (file : Str) (tf : Tok), K.lookup cda = some ⟨ccl, cdd, .fields vs, ccs⟩ ∧ vs[2]? = some (.str file tf) ∧ ((P.main.file : Str) == file) = true) ∧
    (∃ (cl : Value) (cld : Option Addr) (csl : Array (Option Value)), K.lookup cc = some ⟨cl, cld, .cell (some (.ref C)), csl⟩) ∧ (p5.endLine == p7.line) = true
/-- what __init__ leaves of a fresh exception at x -/
structure InitEnd (h h' : Heap) (x C dx t1 : Addr) (v : Value) : Prop where
  keep : ∀ b o, b ≠ x → h.get? b = some o → h'.get? b = some o
  obj : h'.get? x = some { cls := .ref C, dict := some dx, data := .fields #[.ref t1, .none, .none, .none, .bool false, .none] }
  dbig : h.objs.size ≤ dx
  dne : dx ≠ x
  ns : h'.Ns1 dx (fun y => if y = "at" then some v else none)
/-- a made one -/
structure OwnMade (h h' : Heap) (e C d : Addr) (v : Value) : Prop where
  keep : ∀ b o, h.get? b = some o → h'.get? b = some o
  new : h.objs.size ≤ e
  obj : ∃ oe vs, h'.get? e = some oe ∧ oe.cls = .ref C ∧ oe.dict = some d ∧ oe.data = .fields vs ∧ vs[1]? = some .none
  dbig : h.objs.size ≤ d
  dne : d ≠ e
  ns : h'.Ns1 d (fun y => if y = "at" then some v else none)
theorem one_size (v : Value) : [v].length ≤ sizeLine := by
  rw [sizeLine_eq]
  exact (by decide : 1 ≤ 16777216)
section
variable {prog : Program} {w : World} {A : Around} {E : Value → Shared → Prop} {R : Result → Shared → Prop} {s : Shared} {K : Frag} {mg mb : Str → Option Value} {x : Str} {C fI : Addr}
/-- a method call on one line whose receiver is a call -/
theorem mcall_he {o : Expr} {m : Str} {apos pos : Pos} {env : Env} {z : Str} {cp : Pos} (hl : (apos.endLine == pos.line) = true) :
    eval (.Call (.Attribute o m apos) [.Constant (.str z) 0 cp] [] pos) env = (do
      let ov ← attributeBase o m env (eval o env)
      standAt apos.atName
      let (f, first) ← holding [ov] (getMethod ov m (L2.plainOf o env))
      callWith pos f first (backTo pos (starEach [.Constant (.str z) 0 cp] env)) []) := by
  rw [arm_eval_Call]
  have q : ∀ ov, methodCall o m apos pos env ov (([.Constant (.str z) 0 cp] : List Expr).length + ([] : List Keyword).length) (backTo pos (starEach [.Constant (.str z) 0 cp] env)) (backToKw pos (keywordEach [] env)) = (do
      let (f, first) ← holding [ov] (getMethod ov m (L2.plainOf o env))
      callWith pos f first (backTo pos (starEach [.Constant (.str z) 0 cp] env)) []) := fun ov => L2.mcall_line (by rfl) hl
  simp only [q]
/-- the bound built-in __init__ at u, called with one value: all but x's object is kept -/
theorem base_init {h : Heap} {g : Array GenState} {dr : Drawn} {t : Nat} {os : OsState} {u e t0 : Addr} {rest : List Value} {Q : Value → Shared → Prop} (X : K.In h) (q : excInitIn K C veTail "ValueError.__new__" = true) (he : h.get? e = some (excO C t0)) (hu : h.get? u = some (kxs_mw "ValueError.__init__" e)) (hz : rest.length ≤ sizeLine)
    (hq : ∀ h' t1, (∀ b o, b ≠ e → h.get? b = some o → h'.get? b = some o) → h'.get? e = some (excO C t1) → Q .none ⟨h', g, dr, t, os⟩) :
    wpAny (model prog w) A (call (.ref u) rest) Q E ⟨h, g, dr, t, os⟩ := by
  obtain ⟨nm, N, qn, bs, bm, hdct, sn, sub, ab, col, dd, k0, k1, k2, k3, k5, hC, hT⟩ := excInit_of X q
  have isW : (Value.type "method-wrapper" == Value.type "method" || Value.type "method-wrapper" == Value.type "builtin_function_or_method" || Value.type "method-wrapper" == Value.type "method-wrapper") = true := by decide
  refine wpAny_call (codeAny_of_tree ?_)
  show wpAny _ A.in1 (callAny (.ref u) ⟨rest, []⟩) _ _ _
  simp only [callAny]
  refine wpAny_bind (wpAny_load hu ?_)
  simp only [kxs_mw, isW, if_true]
  refine KFB.if_so (by decide) ?_
  refine wpAny_bind (check_bound_init PySem.F.excBase_ValueError.toExcCallFacts hC he rfl ?_)
  refine wpAny_bind (wpAny_pure (wpAny_pure ?_))
  refine ⟨plainId_quiet PySem.F.excBase_ValueError.init.plain _, codeAny_builtin PySem.F.excBase_ValueError.initEntry ?_⟩
  exact exc_init_tree (cls := .ref C) (t0 := t0) (dv := none) (c2 := .none) (c3 := .none) (b4 := .bool false) he hz fun h' k e' _ => hq h' h.objs.size k e'
theorem bad_init (T : BadT prog K mg x C fI) {e t0 : Addr} {v : Value} (X : K.In s.heap) (hlim : s.heap.NoLimit) (hg : s.heap.Ns mainGlobals mg) (hb : s.heap.Ns builtinsNs mb) (hbb : ∀ y : Str, y ≠ "__name__" → mb y = bootBuiltins y)
    (hx : s.heap.get? e = some (excO C t0)) (hnx : K.lookup e = none) (hroom : A.depth < recursionLimit)
    (hq : ∀ h' tk dx t1, InitEnd s.heap h' e C dx t1 v → R (.ok (.ret .none)) { s with heap := h', toks := tk }) :
    codeAny (model prog w) A (.call (.ref fI) ⟨[.ref e, v], []⟩) R s := by
  obtain ⟨oc, od, qual, kV, doc, pm, an, cda, cc, ct, osl, msg, p1, p2, p3, p4, p5, p6, p7, p8, q1, q2, q3, q4, lk, hcd, ⟨ccl, cdd, vs, ccs, file, tf, lc, hvs, hfile⟩, ⟨cl, cld, csl, lcc⟩, hline⟩ := T.fn
  obtain ⟨cd, hcl, hmro, hhd⟩ := T.cls
  obtain ⟨oD, hD1, hD2⟩ : ∃ oD, s.heap.get? C = some oD ∧ oD.data = .cls cd := by
    unfold clsIn at hcl
    split at hcl
    · rename_i c d cd' sl ho
      cases hcl
      exact ⟨_, X _ _ ho, rfl⟩
    · cases hcl
  have hal : alongIn K "__init__" ((cd.mro.dropWhile (· != .ref C)).drop 1) = some (some (.builtin "ValueError.__init__")) := by
    have z := T.up
    unfold ks_superIn at z
    rw [hcl] at z
    exact z
  have heC : e ≠ C := fun z => by
    rw [z, hD1] at hx
    cases hx
    cases hD2
  refine ks_codeAny_call_defAt (fd := ksFn "__init__" qual (eArgs p1 p2) (eBody msg p3 p4 p5 p6 p7 p8 q1 q2 q3 q4) eScope .none kV doc pm an (.ref cda) ct cc) (body := eBody msg p3 p4 p5 p6 p7 p8 q1 q2 q3 q4) (binds := [("self", .ref e), ("at", v)])
    hroom (X _ _ lk) rfl hlim (codeRec_of X hcd) rfl (BindsTo.of_eq (by first | rfl | with_unfolding_all rfl)) (show ∀ y ∈ eScope.names, y.2 ≠ .cell by decide) (show ∀ y ∈ ([("self", Value.ref e), ("at", v)] : List (Str × Value)), eScope.names.lookup y.1 = some .local from fun y hy => ?_) (fun h₁ hns k₁ => ?_)
  · rcases List.mem_cons.mp hy with z | z
    · rw [z]; exact (by decide : eScope.names.lookup (PySem.Str.ofString "self") = some .local)
    · rw [List.mem_singleton.mp z]; exact (by decide : eScope.names.lookup (PySem.Str.ofString "at") = some .local)
  have X₁ : K.In h₁ := X.keeps k₁
  have hx₁ := k₁ _ _ hx
  have hs₁ : h₁.Ns mainGlobals mg := hg.keeps k₁
  have hb₁ : h₁.Ns builtinsNs mb := hb.keeps k₁
  have vself : (fun y => ([("self", Value.ref e), ("at", v)] : List (Str × Value)).reverse.lookup y) "self" = some (Value.ref e) := by first | rfl | (simp [List.lookup]; done) | kernel_rfl
  have vat : (fun y => ([("self", Value.ref e), ("at", v)] : List (Str × Value)).reverse.lookup y) "at" = some v := by first | rfl | (simp [List.lookup]; done) | kernel_rfl
  refine ks_wpAt_execs_cons (ks_wpAt_Expr_any (ks_wpAt_MethodCall ?_ (mcall_he hline)))
  refine ks_wpAt_super_base (f := fI) (cc := cda) (fd := ksFn "__init__" qual (eArgs p1 p2) (eBody msg p3 p4 p5 p6 p7 p8 q1 q2 q3 q4) eScope .none kV doc pm an (.ref cda) ct cc) (ar := { arg := "self", annotation := none, pos := p1 }) (by first | rfl | decide) (by first | rfl | decide) (by decide) rfl (X₁ _ _ lk) rfl rfl rfl (X₁ _ _ lc) rfl hvs hfile T.topSup ?_
  refine ks_loadName_global rfl (by first | rfl | decide) (loadGlobal_builtin (mg := mg) (mb := mb) hs₁ (mg_none_of X hg T.noSup) hb₁ ((hbb _ (by decide)).trans (by first | rfl | kernel_rfl)) ⟨rfl, ?_⟩)
  refine wpAny_loadName_free rfl (by first | rfl | decide) rfl ⟨_, X₁ _ _ lcc, rfl⟩ ?_
  refine wpAny_loadName_local rfl (by first | rfl | decide) hns vself ?_
  have hD1' := k₁ _ _ hD1
  refine ks_wpAny_isType_cls hD1' hD2 ⟨rfl, ?_⟩
  refine ks_wpAny_call_super hD1' hD2 hx₁ rfl (fun c z => by cases z) (looks_mroIn X₁ T.selfC) (fun h2 e2 k2 => ?_)
  have X2 : K.In h2 := X₁.keeps k2
  have hx2 := k2 _ _ hx₁
  have hI : Looks (model prog w) h2 (isInstance (.ref e) (.type "ValueError")) true := by
    have I : InstAt h2 e (excO C t0) C none := ⟨hx2, rfl, rfl, trivial⟩
    exact I.type.andThen (looks_subIn X2 T.veC)
  refine kxs_getMethod (K := K) (l₀ := cd.mro) kxs_ValueError e2 (looks_opaque X2 T.any) ((looks_clsIn X2 hcl).andThen .now) rfl X2 hal hI heC (by decide) ?_
  refine kxs_callWith (i := "ValueError.__init__") (x := e) (by rfl) (evalArgs_plain ?_)
  refine Calls.spliced_cons (Calls.Constant_str (k := 0) (pos := p6) ?_)
  refine Calls.spliced_nil ?_
  refine ⟨Heap.get?_push_at rfl rfl, ?_⟩
  refine base_init (t0 := t0) (h := h2.push (kxs_mw "ValueError.__init__" e)) (X2.keeps fun b o z => Heap.get?_push_of_some _ z) T.exc (Heap.get?_push_of_some _ hx2) (Heap.get?_push_at rfl rfl) (one_size _) (fun h3 t1 k3 hx3 => ?_)
  have hL3 : h3.Ns s.heap.objs.size (fun y => ([("self", Value.ref e), ("at", v)] : List (Str × Value)).reverse.lookup y) := by
    obtain ⟨oL, es, ep, hoL, hd, r⟩ := hns
    refine ⟨oL, es, ep, k3 _ _ (fun z => ?_) (Heap.get?_push_of_some _ (k2 _ _ hoL)), hd, r⟩
    exact absurd (Heap.lt_size hx) (by rw [← z]; exact Nat.lt_irrefl _)
  have X3 : K.In h3 := fun b o z => k3 b o (fun q => by rw [q, hnx] at z; cases z) (Heap.get?_push_of_some _ (X2 b o z))
  show _root_.PySem.wpAt _ _ _ (execs [.Assign [.Attribute (.Name "self" q1) "at" q2] (.Name "at" q3) q4] _) _ _ _
  refine wpAt_of_wpAny (wpAny_execs_cons (plainObj_wpAny_Assign_Attribute ?_))
  refine wpAny_Name (wpAny_loadName_local rfl (by first | rfl | decide) hL3 vat ?_) (by decide)
  refine wpAny_Name (wpAny_loadName_local rfl (by first | rfl | decide) hL3 vself ?_) (by decide)
  refine set_plain X3 (ox := excO C t1) (od := none) ⟨hx3, rfl, rfl, trivial⟩ T.sa ?_
  refine exc_osa X3 hx3 hcl hmro hhd T.noN (fun h4 tk4 dx k4 dn dne hx4 hn4 => ?_)
  refine wpAny_execs_nil (hq h4 tk4 dx t1 ⟨fun b o hbe z => k4 b o hbe (k3 b o hbe (Heap.get?_push_of_some _ (k2 b o (k₁ b o z)))), hx4, Nat.le_of_lt (Nat.lt_of_lt_of_le hL3.lt dn), dne, hn4⟩)
theorem bad_made (T : BadT prog K mg x C fI) {v : Value} (X : K.In s.heap) (hlim : s.heap.NoLimit) (hg : s.heap.Ns mainGlobals mg) (hb : s.heap.Ns builtinsNs mb) (hbb : ∀ y : Str, y ≠ "__name__" → mb y = bootBuiltins y) (hroom : A.depth + 1 < recursionLimit)
    (hq : ∀ h' tk e d, OwnMade s.heap h' e C d v → R (.ok (.ret (.ref e))) { s with heap := h', toks := tk }) :
    codeAny (model prog w) A (.call (.ref C) ⟨[v], []⟩) R s := by
  obtain ⟨nm, N, qn, bs, bm, hdct, sn, sub, ab, col, dd, k0, k1, k2, k3, k5, hC, hT⟩ := excInit_of X T.exc
  obtain ⟨hp, g, dr, tk, os⟩ := s
  have k : ∀ b o, hp.get? b = some o → ((hp.push (kdv_tup [v])).push (excO C hp.objs.size)).get? b = some o := fun b o z => Heap.get?_push_of_some _ (Heap.get?_push_of_some _ z)
  have hget : ((hp.push (kdv_tup [v])).push (excO C hp.objs.size)).get? (hp.objs.size + 1) = some (excO C hp.objs.size) := by heap_get
  have hnx : K.lookup (hp.objs.size + 1) = none := by
    cases q : K.lookup (hp.objs.size + 1) with
    | none => rfl
    | some o => exact absurd (Nat.lt_of_succ_lt (Heap.lt_size (X _ _ q))) (Nat.lt_irrefl _)
  refine call_own PySem.F.excBase_ValueError hT hC (looks_findIn X T.iC) (fun self => bind_fn X self T.tC) (one_size v) ?_
  refine bad_init (s := ⟨(hp.push (kdv_tup [v])).push (excO C hp.objs.size), g, dr, tk, os⟩) T (X.keeps k) (hlim.keeps k) (hg.keeps k) (hb.keeps k) hbb hget hnx (show A.depth + 1 < recursionLimit from hroom) fun h' tk' dx t1 M => ?_
  have old : ∀ b o, hp.get? b = some o → h'.get? b = some o := fun b o z => M.keep b o (Nat.ne_of_lt (Nat.lt_succ_of_lt (Heap.lt_size z))) (k b o z)
  have z : hp.objs.size + 1 + 1 ≤ dx := by
    have q := M.dbig
    rw [Heap.size_push, Heap.size_push] at q
    exact q
  exact ⟨rfl, hq h' tk' (hp.objs.size + 1) dx ⟨old, Nat.le_succ _, ⟨_, _, M.obj, rfl, rfl, rfl, rfl⟩, (by show hp.objs.size ≤ dx; omega), M.dne, M.ns⟩⟩
end
end K2
namespace K2
open PySem PySem.Spec PyProof.Rows L2
theorem relO_at {v : V} {v' : Value} (r : RelV v v') (f : Str) : RelO (List.lookup f [(("at" : Str), v)]) (if f = "at" then some v' else none) := by
  by_cases hw : f = "at"
  · subst hw
    rw [if_pos rfl, show List.lookup ("at" : Str) [(("at" : Str), v)] = some v by simp [List.lookup]]
    exact r
  · rw [if_neg hw, show List.lookup f [(("at" : Str), v)] = none by simp [List.lookup, show (f == ("at" : Str)) = false by simpa using hw]]
    trivial
section
variable {X : Cx} {C fI : Addr} {x : Str}
/-- x(e) -/
def tMkBad (C : Addr) (ta : TA) : L2.St → Hp → XK → Prop := fun σ H Q => ta σ H fun vs H1 => ∃ v, vs = [v] ∧ ∀ d, H1 d = none → Q (.ref C) (some d) (upd H1 d (.xd [(("at" : Str), v)]))
theorem pmk_bad {a : Expr} {ta : TA} {p pos : Pos} {k : Nat} (T : BadT X.prog X.K X.mg x C fI) (hr : Room k X.A) (ha : PA X [a] ta) (hgl : Gl X x) (hdb : (x == ("__debug__" : Str)) = false)
    (he : starEach (a :: []) X.env = (false, eval a X.env) :: starEach [] X.env := by rfl) (hpl : (backTo pos (starEach [] X.env)).any (·.1) = false := by rfl) :
    PMk X (.Call (.Name x p) [a] [] pos) (tMkBad C ta) := by
  intro pins s σ H Q I h
  refine wpAny_Call_Name_kw (ld_glob I hgl T.gC ?_ hdb)
  refine PySem.W.callWith_K (h₀ := X.base) I.ok.mod.kin T.kC (thn (ha.run pos pins s σ H _ I h) fun us s1 hh => ?_) he hpl
  obtain ⟨vs, H1, I1, r1, v, ev, q1⟩ := hh
  subst ev
  refine ⟨I1.kIn, ?_⟩
  cases r1 with
  | cons rv rn =>
    rename_i v' us'
    cases rn
    show wpAny _ _ (call (.ref C) [v']) _ _ _
    have hlim := I1.nolimit
    obtain ⟨mb, hb1, hb2⟩ := I1.mod.blt
    have hg1 := I1.mod.glob.keeps I1.bk
    have hb1' := hb1.keeps I1.bk
    obtain ⟨hp, g, dr, tk, os⟩ := s1
    refine wpAny_call (bad_made (mb := mb) T I1.kIn hlim hg1 hb1' hb2 (by have := hr.dp; omega) fun h' tk' e d M => ?_)
    show MkP X pins σ Q (.ref e) ⟨h', g, dr, tk', os⟩
    obtain ⟨oe, fv, hoe, hc, hd, hdat, h1⟩ := M.obj
    obtain ⟨G', g1, g2⟩ := restrict h' fun b => decide (b ≠ e)
    have gk : ∀ b, b ≠ e → G'.get? b = h'.get? b := fun b hb => g1 b (decide_eq_true hb)
    have ge : G'.get? e = none := g2 e (by simp)
    have old : ∀ b o, hp.get? b = some o → G'.get? b = some o := fun b o q => (gk b (Nat.ne_of_lt (Nat.lt_of_lt_of_le (Heap.lt_size q) M.new))).trans (M.keep b o q)
    have ob : ObjOk X.prog X.w (upd H1 d (.xd [(("at" : Str), v)])) G' d (.xd [(("at" : Str), v)]) :=
      ⟨_, M.ns.at (fun o q => (gk d M.dne).trans q), fun f => relO_at rv f⟩
    have J : Inv X pins σ (upd H1 d (.xd [(("at" : Str), v)])) ⟨G', g, dr, tk', os⟩ := I1.laid (t' := tk') old M.dbig ob
    refine ⟨e, oe, fv, ⟨G', g, dr, tk', os⟩, _, .ref C, some d, rfl, J, fun b o q => ?_, ge, hoe, ⟨hc, hd⟩, hdat, h1, ?_, rfl, I1.bare, raises_own T.exC T.tyC, q1 d (I1.hok.fresh M.dbig)⟩
    · by_cases hb : b = e
      · have q' : G'.get? b = some o := q
        rw [hb, ge] at q'
        cases q'
      · exact (gk b hb).symm.trans q
    · rw [upd_ne (Ne.symm M.dne)]
      exact I1.hok.fresh M.new
/-- raise x(e) -/
def tRaiseBad (C : Addr) (W : WX) (ta : TA) : TS := fun _ σ H => tMkBad C ta σ H fun cls d H' => W cls d σ H'
theorem ps_raiseBad {a : Expr} {ta : TA} {W : WX} {p pos pos2 : Pos} {k : Nat} (hc : X.calm = true) (T : BadT X.prog X.K X.mg x C fI) (hr : Room k X.A) (tk : Takes X W) (ha : PA X [a] ta) (hg : Gl X x := by rfl) (hdb : (x == ("__debug__" : Str)) = false := by decide)
    (he : starEach (a :: []) X.env = (false, eval a X.env) :: starEach [] X.env := by rfl) (hpl : (backTo pos (starEach [] X.env)).any (·.1) = false := by rfl) :
    PS X (.Raise (some (.Call (.Name x p) [a] [] pos)) none pos2) (tRaiseBad C W ta) := ps_raise hc tk (pmk_bad T hr ha hg hdb he hpl)
/-- e.at, e the exception that the suite holds (at a; its class cls, its dict d) -/
def tAtBad (C : Addr) (a : Addr) (cls : Value) (d : Option Addr) (te : TE) : TE := fun σ H Q => te σ H fun x H1 => x = .ref a ∧ cls = .ref C ∧ ∃ (dd : Addr) (v : V), d = some dd ∧ H1 dd = some (.xd [(("at" : Str), v)]) ∧ Q v H1
theorem pe_atBad {a : Addr} {oe : Obj} {cls : Value} {d : Option Addr} {pn : List (Addr × Obj)} {e : Expr} {te : TE} {pos : Pos} (T : BadT X.prog X.K X.mg x C fI) (hz : Zc cls d oe) (hf : ∃ vs, oe.data = .fields vs) (he : PE (X.suite a ((a, oe) :: pn)) e te)
    (hb : attributeBase e "at" X.env (eval e X.env) = eval e X.env := by rfl) : PE (X.suite a ((a, oe) :: pn)) (.Attribute e "at" pos) (tAtBad C a cls d te) := by
  refine ⟨fun pins s σ H Q I h => ?_⟩
  refine attr_of hb (thn (he.run pins s σ H _ I h) fun u s1 hh => ?_)
  obtain ⟨y, H1, I1, ry, ey, ec, dd, v, ed, ea, q⟩ := hh
  subst ey
  obtain rfl : u = Value.ref a := ry
  subst ec
  subst ed
  obtain ⟨ha, _⟩ := I1.pin (a, oe) (List.mem_append_left _ List.mem_cons_self)
  obtain ⟨vs, hd⟩ := hf
  obtain ⟨mA, hns, hr⟩ := (show ObjOk X.prog X.w H1 s1.heap dd (.xd [(("at" : Str), v)]) from I1.hok dd _ ea)
  obtain ⟨od, ho, hl⟩ := lookIn_ns hns
  have l : List.lookup ("at" : Str) [(("at" : Str), v)] = some v := by simp [List.lookup]
  obtain ⟨u, hu, ru⟩ := RelO.some_of (v := v) (o := mA "at") (by rw [← l]; exact hr "at")
  have J : PySem.W.InstAt s1.heap a oe C (some od) := ⟨ha, hz.1, by unfold PySem.W.notCls; rw [hd] <;> rfl, by rw [hz.2]; exact ho⟩
  exact HandSPX.exc_get I1.kIn J T.ga T.gg T.exC (PySem.W.findObj_own T.hdC T.noN rfl (by rw [hl, hu])) (handed_of ru) ⟨v, H1, I1.tok _, ru, q⟩
end
end K2
end
section
set_option maxHeartbeats 4000000
/-! try with several clauses that bear one name; isinstance of what is caught. -/
namespace K2
open PySem PySem.Spec PyProof.Rows L2
section
variable {X : Cx} {C fI : Addr} {x : Str}
/-- isinstance(e, c), e the error that the suite holds -/
def rIsBad (K : PySem.W.Frag) (C a : Addr) (cls : Value) (d : Option Addr) : List V → Hp → VK → Prop := fun xs H Q => ∃ (c : V) (cv : Value) (b : Bool) (dd : Addr) (v : V), xs = [.ref a, c] ∧ (∀ u, RelV c u → u = cv) ∧ cls = .ref C ∧ d = some dd ∧ H dd = some (.xd [(("at" : Str), v)]) ∧ PySem.W.kitOne K (.ref C) cv = some b ∧ Q (.bl b) H
theorem call_isBad {a : Addr} {oe : Obj} {cls : Value} {d : Option Addr} {pn : List (Addr × Obj)} (T : BadT X.prog X.K X.mg x C fI) (hz : Zc cls d oe) (hf : ∃ vs, oe.data = .fields vs) : CallR (X.suite a ((a, oe) :: pn)) (.builtin "isinstance") (rIsBad X.K C a cls d) := by
  intro pins s σ H xs us Q I r h
  obtain ⟨c, cv, b, dd, v, rfl, hcv, ec, ed, eH, e, q⟩ := h
  subst ec
  subst ed
  cases r with
  | cons rx rr =>
    cases rr with
    | cons rt rr =>
      cases rr
      cases rx
      have et := hcv _ rt
      subst et
      obtain ⟨hget, _⟩ := I.pin (a, oe) (List.mem_append.mpr (.inl List.mem_cons_self))
      obtain ⟨vs, hd⟩ := hf
      obtain ⟨mA, hns, _⟩ := (show ObjOk X.prog X.w H s.heap dd (.xd [(("at" : Str), v)]) from I.hok dd _ eH)
      obtain ⟨od, ho, _⟩ := lookIn_ns hns
      have J : PySem.W.InstAt s.heap a oe C (some od) := ⟨hget, hz.1, by unfold PySem.W.notCls; rw [hd] <;> rfl, by rw [hz.2]; exact ho⟩
      exact PySem.W.kia_one (PySem.W.kitx_exc T.clC T.ga T.gg T.exC T.acC T.spC T.tkC T.obC) I.kIn J e (fun z => nomatch z) fun tk => ⟨.bl b, H, I.kept (t' := tk) fun _ _ z => z, rfl, q⟩
end
/-- the ends of a suite whose name goes behind it -/
def endsAs (i : Nat) (D : Ends) : Ends := { nx := fun σ H => D.nx (σ.set i none) H, rt := D.rt, bk := fun σ H => D.bk (σ.set i none) H, ct := fun σ H => D.ct (σ.set i none) H }
/-- what the clauses «except c as n» wish of an error of the body, one after the other; none lets one out -/
def wAsMany (K : PySem.W.Frag) (i : Nat) (D : Ends) : List (Value × (Addr → Value → Option Addr → TS)) → WX
  | [] => fun _ _ _ _ => False
  | (c, ts) :: r => fun cls d σ H => ∃ b, PySem.W.exmOne K cls c = some b ∧ (b = true → ∀ a, H a = none → ts a cls d (endsAs i D) (σ.set i (some (.ref a))) H) ∧ (b = false → wAsMany K i D r cls d σ H)
inductive HdsAs (X : Cx) (n : Str) : List ExceptHandler → List (Value × (Addr → Value → Option Addr → TS)) → Prop
  | nil : HdsAs X n [] []
  | cons {x : Str} {c : Value} {ts : Addr → Value → Option Addr → TS} {b₀ : Stmt} {suite : List Stmt} {np pos' : Pos} {hds : List ExceptHandler} {l : List (Value × (Addr → Value → Option Addr → TS))} (hc : Names X x c)
      (hsu : ∀ (a : Addr) (oe : Obj) (cls : Value) (d : Option Addr) (pn : List (Addr × Obj)), Zc cls d oe → (∃ vs, oe.data = .fields vs) → PSs (X.suite a ((a, oe) :: pn)) (b₀ :: suite) (ts a cls d)) (r : HdsAs X n hds l) :
      HdsAs X n (.ExceptHandler (some (.Name x np)) (some n) (b₀ :: suite) pos' :: hds) ((c, ts) :: l)
section
variable {X : Cx} {body : List Stmt} {h₀ : ExceptHandler} {hds : List ExceptHandler} {l : List (Value × (Addr → Value → Option Addr → TS))} {pos : Pos} {tb : WX → TS} {i : Nat} {n : Str}
theorem ps_try_manyAs (hs : X.stack = X.env :: X.outer) (hf : X.env.frame = some X.env.locals) (hN : X.N.Nodup) (hi : X.N[i]? = some n) (hln : X.env.kindOf n = some .local)
    (hb : ∀ (W : WX) (pn : List (Addr × Obj)) (xe : Value → Shared → Prop), Takes (X.tr pn xe) W → PassesOwn (model X.prog X.w) X.A X.env xe → PSs (X.tr pn xe) body (tb W))
    (hh : HdsAs X n (h₀ :: hds) l) : PS X (.Try body (h₀ :: hds) [] [] pos) (fun D σ H => tb (fun cls d σ' H' => σ'.length = X.N.length → wAsMany X.K i D l cls d σ' H') D σ H) := by
  refine ⟨fun pins s σ H D I h => ?_⟩
  have ok := I.ok
  have hfr : X.A.frames = some (X.env :: X.outer) := by rw [ok.frames, hs]
  have back : ∀ f s', SP (X.tr (X.pn ++ pins) (fun e s₁ => wpAny (model X.prog X.w) X.A (noteFrame e X.env) (fun _ s₂ => wpAny (model X.prog X.w) X.A (setFlight e none) (fun _ s₃ =>
      wpAny (model X.prog X.w) X.A (handleBy e X.env (h₀ :: hds)) (SP X pins D) X.xe s₃) X.xe s₂) X.xe s₁)) [] D f s' → SP X pins D f s' := fun f s' q => by
    cases f with
    | next =>
      obtain ⟨σ', H', J, q⟩ := q
      exact ⟨σ', H', J.ofTry ok, q⟩
    | brk =>
      obtain ⟨σ', H', J, q⟩ := q
      exact ⟨σ', H', J.ofTry ok, q⟩
    | cont =>
      obtain ⟨σ', H', J, q⟩ := q
      exact ⟨σ', H', J.ofTry ok, q⟩
    | ret u =>
      obtain ⟨v, σ', H', J, r, q⟩ := q
      exact ⟨v, σ', H', J.ofTry ok, r, q⟩
  refine wpAny_Try_except ?_
  refine wpAny_mono ((hb (fun cls d σ' H' => σ'.length = X.N.length → wAsMany X.K i D l cls d σ' H') (X.pn ++ pins) _ (fun u s' xx => ?_) PassesOwn.looking).run [] s σ H D (I.toTry _) h) (fun f s1 hsp => ?_) (fun e s1 he => he)
  · obtain ⟨a, B, sI, pins', σ', H', cls, d, rfl, J', nb, up, sky, na, os, ag, wsh⟩ := xx
    have J : Inv X pins σ' H' sI := J'.ofTry ok
    rw [show (X.tr (X.pn ++ pins) _).stack = X.env :: X.outer from hs] at sky
    show wpAny (model X.prog X.w) X.A (noteFrame (.ref a) X.env) _ _ _
    refine Sky.land Zc.steady hfr hf sky fun h3 fl3 up3 => ?_
    have J3 : Inv X pins σ' H' { s' with heap := h3 } := J.landed nb fl3.1 (up.trans up3) os ag
    obtain ⟨oe3, vs3, he3, hz3, hd3⟩ := fl3.there
    have nfr : a ∉ frs (X.env :: X.outer) := fun hm => by
      obtain ⟨_, o', e', hnf⟩ := fl3.2.2.1.mem hm
      rw [he3] at e'
      cases e'
      exact hnf _ hd3
    have nL : a ≠ X.env.locals := fun z => nfr (List.mem_filterMap.mpr ⟨X.env, List.mem_cons_self, by rw [hf, z]⟩)
    have nF : a ∉ X.fs := fun hm => by
      obtain ⟨e, he, q⟩ := List.mem_filterMap.mp hm
      exact nfr (List.mem_filterMap.mpr ⟨e, List.mem_cons_of_mem _ he, q⟩)
    have S3 := J3.suite he3 hd3 na nL nF
    have go : ∀ {hds' : List ExceptHandler} {l' : List (Value × (Addr → Value → Option Addr → TS))}, HdsAs X n hds' l' → wAsMany X.K i D l' cls d σ' H' →
        wpAny (model X.prog X.w) X.A (handleBy (.ref a) X.env hds') (SP X pins D) X.xe { s' with heap := h3 } := by
      intro hds' l' hk
      induction hk with
      | nil => intro z; exact False.elim z
      | @cons x c ts b₀ suite np pos' hds2 l2 hc hsu r ih =>
        intro z
        obtain ⟨b, hb1, hyes, hno⟩ := z
        refine wpAny_handleBy_cons (codeAny_handlers_test ?_) (by intro q; cases q)
        have LT : PySem.W.Looks (model X.prog X.w) h3 (typeOf (.ref a)) cls := fun A Q E s k q => wpAny_typeOf_ref (k _ _ he3) (by rw [hz3.1]; exact q)
        have LM := PySem.W.exm_one (M := model X.prog X.w) (J3.kIn) LT hb1
        have test : ∀ {Q : Value → Shared → Prop} {E : Value → Shared → Prop}, Q c { s' with heap := h3 } → wpAny (model X.prog X.w) (X.A.mark (some (.ref a))) (eval (.Name x np) X.env) Q E { s' with heap := h3 } := fun {Q E} q => by
          obtain ⟨hg, hdbg, hm | ⟨hm, hv, hnn⟩⟩ := hc
          · exact ld_glob (X := X.suite a ((a, oe3) :: (X.pn ++ pins))) S3 hg hm q hdbg
          · exact ld_blt (X := X.suite a ((a, oe3) :: (X.pn ++ pins))) S3 hg hm hv q hnn hdbg
        refine test (LM.here ?_)
        cases b with
        | false => exact ih (hno rfl)
        | true =>
          refine codeAny_handlers_suite_as ?_
          refine HandSPX.lands_againZ fl3 fun h4 fl4 up4 => ?_
          have J4 : Inv X pins σ' H' { s' with heap := h4 } := J.landed nb fl4.1 ((up.trans up3).trans up4) os ag
          obtain ⟨oe4, vs4, he4, hz4, hd4⟩ := fl4.there
          have S4 := J4.suite he4 hd4 na nL nF
          refine store_ok (X := X.suite a ((a, oe4) :: (X.pn ++ pins))) (v := .ref a) S4 hN hi (.inl hln) rfl (fun s5 S5 => ?_) (.inr hln)
          refine wpAny_mono ((hsu a oe4 cls d (X.pn ++ pins) hz4 ⟨_, hd4⟩).run [] s5 _ H' (endsAs i D) S5 (hyes rfl a na)) (fun f s6 hsp => ?_) (fun _ _ z => False.elim z)
          cases f with
          | next =>
            obtain ⟨σ6, H6, S6, q6⟩ := hsp
            exact gone_ok (S6.unsuite ok) hN hi hln fun s7 J7 => ⟨_, _, J7, q6⟩
          | brk =>
            obtain ⟨σ6, H6, S6, q6⟩ := hsp
            exact gone_ok (S6.unsuite ok) hN hi hln fun s7 J7 => ⟨_, _, J7, q6⟩
          | cont =>
            obtain ⟨σ6, H6, S6, q6⟩ := hsp
            exact gone_ok (S6.unsuite ok) hN hi hln fun s7 J7 => ⟨_, _, J7, q6⟩
          | ret u =>
            obtain ⟨v6, σ6, H6, S6, r6, q6⟩ := hsp
            exact gone_ok (S6.unsuite ok) hN hi hln fun s7 J7 => ⟨_, _, _, J7, r6, q6⟩
    exact go hh (wsh J'.len)
  · have q := back f s1 hsp
    cases f with
    | next => exact wpAny_execs_nil q
    | brk => exact q
    | cont => exact q
    | ret u => exact q
end
end K2
end
section
set_option maxHeartbeats 4000000
/-! Tables, rows and machines as data: how they stand in the heap, how they compare, how they are shown. -/
namespace K2
open PySem PySem.Spec PyProof.Rows L2
/-! ### values and data -/
def nV (x : Nat) : V := .int (x : Int)
/-- what two commands merge to, as a value -/
def oV : Option Int → V
  | none => .non
  | some i => .int i
def nD (x : Nat) : PyData := .int (x : Int)
def oD : Option Int → PyData
  | none => .none
  | some i => .int i
def tabD (m : List Nat) : PyData := .tuple (m.map nD)
/-- v is the tuple of the numbers m -/
def TupAt (H : Hp) (v : V) (m : List Nat) : Prop := ∃ t, v = .ref t ∧ H t = some (.tup (m.map nV))
abbrev TupsAt (H : Hp) (vs : List V) (ms : List (List Nat)) : Prop := Paired (TupAt H) vs ms
/-- v is the list, the tuple of the ends r -/
def RowL (H : Hp) (v : V) (r : List (Option Int)) : Prop := ∃ t, v = .ref t ∧ H t = some (.lst (r.map oV))
def RowT (H : Hp) (v : V) (r : List (Option Int)) : Prop := ∃ t, v = .ref t ∧ H t = some (.tup (r.map oV))
theorem TupAt.same {H H' : Hp} {v : V} {m : List Nat} (s : Same H H') : TupAt H v m → TupAt H' v m := fun ⟨t, e, h⟩ => ⟨t, e, s _ _ h⟩
theorem RowL.same {H H' : Hp} {v : V} {r : List (Option Int)} (s : Same H H') : RowL H v r → RowL H' v r := fun ⟨t, e, h⟩ => ⟨t, e, s _ _ h⟩
theorem RowT.same {H H' : Hp} {v : V} {r : List (Option Int)} (s : Same H H') : RowT H v r → RowT H' v r := fun ⟨t, e, h⟩ => ⟨t, e, s _ _ h⟩
theorem TupsAt.same {H H' : Hp} {vs : List V} {ms : List (List Nat)} (s : Same H H') (h : TupsAt H vs ms) : TupsAt H' vs ms := Paired.mapP h fun _ _ => TupAt.same s
theorem pAt {α β : Type} {F : α → β → Prop} : ∀ {xs : List α} {ys : List β} {i : Nat} {y : β}, Paired F xs ys → ys[i]? = some y → ∃ x, xs[i]? = some x ∧ F x y
  | _, _, i, y, .nil, e => by simp at e
  | _, _, 0, y, .cons r _, e => by
    have e' : _ = y := Option.some.inj e
    subst e'
    exact ⟨_, rfl, r⟩
  | _, _, i + 1, y, .cons _ t, e => pAt (i := i) t e
theorem pAt2 {α β : Type} {F : α → β → Prop} : ∀ {xs : List α} {ys : List β} {i : Nat} {x : α}, Paired F xs ys → xs[i]? = some x → ∃ y, ys[i]? = some y ∧ F x y
  | _, _, i, x, .nil, e => by simp at e
  | _, _, 0, x, .cons r _, e => by
    have e' : _ = x := Option.some.inj e
    subst e'
    exact ⟨_, rfl, r⟩
  | _, _, i + 1, x, .cons _ t, e => pAt2 (i := i) t e
theorem pSnoc {α β : Type} {F : α → β → Prop} {x : α} {y : β} (r : F x y) : ∀ {xs : List α} {ys : List β}, Paired F xs ys → Paired F (xs ++ [x]) (ys ++ [y])
  | _, _, .nil => .cons r .nil
  | _, _, .cons q t => .cons q (pSnoc r t)
theorem pTake {α β : Type} {F : α → β → Prop} : ∀ {xs : List α} {ys : List β} (n : Nat), Paired F xs ys → Paired F (xs.take n) (ys.take n)
  | _, _, 0, _ => .nil
  | _, _, _ + 1, .nil => .nil
  | _, _, n + 1, .cons r t => .cons r (pTake n t)
/-! ### lists of data -/
theorem canLay_all {ds : List PyData} : (∀ d ∈ ds, d.canLay0 = true) → PyData.canLayAll0 ds = true := by
  induction ds with
  | nil => intro _; simp [PyData.canLayAll0]
  | cons d r ih =>
    intro h
    simp only [PyData.canLayAll0, Bool.and_eq_true]
    exact ⟨h d (List.mem_cons_self ..), ih fun x hx => h x (List.mem_cons_of_mem _ hx)⟩
theorem depth_all {n : Nat} {ds : List PyData} : (∀ d ∈ ds, d.depth ≤ n) → PyData.depthAll ds ≤ n := by
  induction ds with
  | nil => intro _; simp [PyData.depthAll]
  | cons d r ih =>
    intro h
    have h1 := h d (List.mem_cons_self ..)
    have h2 := ih fun x hx => h x (List.mem_cons_of_mem _ hx)
    simp only [PyData.depthAll]
    omega
theorem show_all {ds : List PyData} : (∀ d ∈ ds, d.showable = true) → PyData.showableAll ds = true := by
  induction ds with
  | nil => intro _; simp [PyData.showableAll]
  | cons d r ih =>
    intro h
    simp only [PyData.showableAll, Bool.and_eq_true]
    exact ⟨h d (List.mem_cons_self ..), ih fun x hx => h x (List.mem_cons_of_mem _ hx)⟩
theorem nodict_all {ds : List PyData} : (∀ d ∈ ds, d.hasDict = false) → PyData.hasDictAll ds = false := by
  induction ds with
  | nil => intro _; simp [PyData.hasDictAll]
  | cons d r ih =>
    intro h
    simp only [PyData.hasDictAll, Bool.or_eq_false_iff]
    exact ⟨h d (List.mem_cons_self ..), ih fun x hx => h x (List.mem_cons_of_mem _ hx)⟩
theorem shown_all {n : Nat} {ds : List PyData} : (∀ d ∈ ds, d.shown.length ≤ n) → piled (PyData.shownAll ds) ≤ ds.length * (n + 2) := by
  induction ds with
  | nil => intro _; simp [PyData.shownAll, piled]
  | cons d r ih =>
    intro h
    have h1 := h d (List.mem_cons_self ..)
    have h2 := ih fun x hx => h x (List.mem_cons_of_mem _ hx)
    simp only [PyData.shownAll]
    rw [piled_cons, List.length_cons, Nat.succ_mul]
    omega
theorem listText_le (ts : List Str) : (listText ts).length ≤ 2 + piled ts := by
  cases ts with
  | nil => exact Nat.le_refl 2
  | cons t r =>
    have h := textFrom_length_pos r 1 (("[" : Str) ++ (if (0 : Nat) > 0 then ", " else "" : String) ++ t) (Nat.succ_pos 0)
    have e : ((("[" : Str) ++ (if (0 : Nat) > 0 then ", " else "" : String) ++ t)).length = 1 + t.length := by
      rw [strLen_append, strLen_append]
      rfl
    have h2 : (listText (t :: r)).length = (textFrom 1 (("[" : Str) ++ (if (0 : Nat) > 0 then ", " else "" : String) ++ t) r).length + 1 := by
      show (textFrom 0 "[" (t :: r) ++ "]").length = _
      rw [strLen_append]
      rfl
    rw [h2, h, e, piled_cons]
    omega
theorem tupleText_le (ts : List Str) : (tupleText ts).length ≤ 3 + piled ts := by
  unfold tupleText
  rw [strLen_append, strLen_append]
  have e1 : ((("(" : String) : Str)).length = 1 := rfl
  have e3 : (((if ts.length == 1 then ",)" else ")" : String) : Str)).length ≤ 2 := by split <;> decide
  rw [e1]
  by_cases h : ts = []
  · subst h
    have : (Str.join ", " ([] : List Str)).length = 0 := rfl
    omega
  · have := join_length_add ts h
    omega
/-- a datum that is shown in short, and compares -/
structure Fit (n k : Nat) (d : PyData) : Prop where
  lay : d.canLay0 = true
  dep : d.depth ≤ n
  sho : d.showable = true
  nod : d.hasDict = false
  len : d.shown.length ≤ k
theorem Fit.int {i : Int} (h : i.natAbs < 2 ^ 64) : Fit 0 1921 (.int i) := by
  have hz : i.natAbs.log2 < 1920 := by
    by_cases h0 : i.natAbs = 0
    · rw [h0]; decide
    · exact Nat.lt_of_lt_of_le ((Nat.log2_lt h0).mpr h) (by decide)
  refine ⟨by simp [PyData.canLay0], by simp [PyData.depth], by simp [PyData.showable, hz], by simp [PyData.hasDict], ?_⟩
  simp only [PyData.shown]
  exact int_text_len_1921 hz
theorem Fit.none : Fit 0 1921 .none := ⟨by simp [PyData.canLay0], by simp [PyData.depth], by simp [PyData.showable], by simp [PyData.hasDict], by simp only [PyData.shown]; decide⟩
theorem Fit.tuple {n k m : Nat} {ds : List PyData} (h : ∀ d ∈ ds, Fit n k d) (hm : ds.length ≤ m) : Fit (n + 1) (3 + m * (k + 2)) (.tuple ds) := by
  refine ⟨by simp only [PyData.canLay0]; exact canLay_all fun d hd => (h d hd).lay, ?_, by simp only [PyData.showable]; exact show_all fun d hd => (h d hd).sho, by simp only [PyData.hasDict]; exact nodict_all fun d hd => (h d hd).nod, ?_⟩
  · simp only [PyData.depth]
    have := depth_all fun d hd => (h d hd).dep
    omega
  · simp only [PyData.shown]
    have h1 := tupleText_le (PyData.shownAll ds)
    have h2 := shown_all fun d hd => (h d hd).len
    have h3 := Nat.mul_le_mul_right (k + 2) hm
    omega
theorem Fit.list {n k m : Nat} {ds : List PyData} (h : ∀ d ∈ ds, Fit n k d) (hm : ds.length ≤ m) : Fit (n + 1) (3 + m * (k + 2)) (.list ds) := by
  refine ⟨by simp only [PyData.canLay0]; exact canLay_all fun d hd => (h d hd).lay, ?_, by simp only [PyData.showable]; exact show_all fun d hd => (h d hd).sho, by simp only [PyData.hasDict]; exact nodict_all fun d hd => (h d hd).nod, ?_⟩
  · simp only [PyData.depth]
    have := depth_all fun d hd => (h d hd).dep
    omega
  · simp only [PyData.shown]
    have h1 := listText_le (PyData.shownAll ds)
    have h2 := shown_all fun d hd => (h d hd).len
    have h3 := Nat.mul_le_mul_right (k + 2) hm
    omega
theorem Fit.shaped {n k : Nat} {d : PyData} (f : Fit n k d) (hn : n ≤ 64) : SeqAt.shaped d = true := by
  show (d.canLay0 && decide (d.depth ≤ 64)) = true
  rw [Bool.and_eq_true]
  exact ⟨f.lay, decide_eq_true (Nat.le_trans f.dep hn)⟩
theorem fit_nD {x : Nat} (h : x < 10000) : Fit 0 1921 (nD x) := Fit.int (by show ((x : Int)).natAbs < 2 ^ 64; omega)
theorem fit_oD {e : Option Int} (h : ∀ i, e = some i → -1 ≤ i ∧ i < 10000) : Fit 0 1921 (oD e) := by
  cases e with
  | none => exact Fit.none
  | some i =>
    have := h i rfl
    exact Fit.int (by omega)
theorem fit_tab {n : Nat} {m : List Nat} (hl : m.length ≤ 60) (h : ∀ x ∈ m, x < 10000) : Fit 1 115383 (tabD m) :=
  Fit.tuple (n := 0) (k := 1921) (m := 60) (fun d hd => by
    obtain ⟨x, hx, rfl⟩ := List.mem_map.mp hd
    exact fit_nD (h x hx)) (by rw [List.length_map]; exact hl)
/-! ### data at addresses -/
section
variable {K : PySem.W.Frag} {H : Hp}
theorem dp_nats : ∀ m : List Nat, DpAll K H (m.map nV) (m.map nD)
  | [] => .nil
  | x :: r => .cons (.int _) (dp_nats r)
theorem dp_ends : ∀ r : List (Option Int), DpAll K H (r.map oV) (r.map oD)
  | [] => .nil
  | none :: r => .cons .non (dp_ends r)
  | some i :: r => .cons (.int i) (dp_ends r)
theorem TupAt.dp {v : V} {m : List Nat} (h : TupAt H v m) : Dp K H v (tabD m) := by
  obtain ⟨t, rfl, e⟩ := h
  exact .tup (SqT.of e) (dp_nats m)
theorem dp_tups : ∀ {vs : List V} {ms : List (List Nat)}, TupsAt H vs ms → DpAll K H vs (ms.map tabD)
  | _, _, .nil => .nil
  | _, _, .cons h r => .cons h.dp (dp_tups r)
theorem dp_rowsL : ∀ {vs : List V} {rs : List (List (Option Int))}, Paired (RowL H) vs rs → DpAll K H vs (rs.map fun r => .list (r.map oD))
  | _, _, .nil => .nil
  | _, _, .cons ⟨t, e, h⟩ r => by
    subst e
    exact .cons (.lst (SqL.of h) (dp_ends _)) (dp_rowsL r)
end
/-! ### equality -/
theorem eqv_nats : ∀ a b : List Nat, PyData.eqvAll (a.map nD) (b.map nD) = decide (a = b)
  | [], [] => by simp [PyData.eqvAll]
  | [], y :: b => by simp [PyData.eqvAll]
  | x :: a, [] => by simp [PyData.eqvAll]
  | x :: a, y :: b => by
    simp only [List.map_cons, PyData.eqvAll, nD, PyData.eqv]
    have ih := eqv_nats a b

    rw [ih]
    by_cases h : x = y
    · subst h
      simp
    · have h2 : ¬ (x : Int) = (y : Int) := by omega
      simp [h, h2]
theorem eqv_tab (a b : List Nat) : PyData.eqv (tabD a) (tabD b) = decide (a = b) := by
  simp only [tabD, PyData.eqv]
  exact eqv_nats a b
theorem any_tab (ms : List (List Nat)) (t : List Nat) : ((ms.map tabD).any fun z => PyData.eqv z (tabD t)) = decide (t ∈ ms) := by
  induction ms with
  | nil => simp
  | cons m r ih =>
    rw [List.map_cons, List.any_cons, ih, eqv_tab]
    by_cases h : m = t
    · subst h; simp
    · have h2 : ¬ t = m := fun z => h z.symm
      simp [h, h2]
end K2
end
section
set_option maxHeartbeats 4000000
/-! enumerate over a list, a tuple, a zip of two tuples. -/
namespace K2
open PySem Builtin PySem.Spec PyProof.Rows L2
section
variable {prog : Program} {w : World} {A : Around} {E : Value → Shared → Prop} {s : Shared}
/-- one turn of enumerate, whatever it walks: N tells the inner iterator's turn -/
theorem enum_turn {e it : Addr} {c : Int} {old : Value} {Q : Value → Shared → Prop} {N : Value → Heap → Prop} (he : IsEnum s.heap e it c old)
    (hin : ∀ Q' : Value → Shared → Prop, (∀ x h₁ tk, N x h₁ → IsEnum h₁ e it c old → Q' x { s with heap := h₁, toks := tk }) → wpAny (model prog w) A (Builtin.SmallTypes.nextOf (.ref it)) Q' E s)
    (hQ : ∀ x h₁ h' tk, N x h₁ → IsEnum h₁ e it c old → IsEnumOut h' e it (c + 1) x h₁.objs.size → h'.get? h₁.objs.size = some { cls := .type "tuple", data := .seq #[.int c tk, x] } → h'.objs.size = h₁.objs.size + 1 →
      (∀ b o, b ≠ e → h₁.get? b = some o → h'.get? b = some o) → Q (.ref h₁.objs.size) { s with heap := h', toks := tk + 1 }) :
    wpAny (model prog w) A (Builtin.«enumerate.__next__» ⟨[.ref e], []⟩) (fun fin s' => ∃ v, fin = .done (.ret v) ∧ Q v s') E s := by
  obtain ⟨hp, g, d, tk₀, os⟩ := s
  show wpAny _ _ (field (.ref e) 2 >>= _) _ _ _
  refine wpAny_bind (wpAny_field he rfl (x := .ref it) rfl ?_)
  refine wpAny_bind (hin _ fun x h₁ tk hN he₁ => ?_)
  show wpAny _ _ (field (.ref e) 3 >>= _) _ _ ⟨h₁, g, d, tk, os⟩
  refine wpAny_bind (wpAny_field he₁ rfl (x := rawInt c) rfl ?_)
  show wpAny _ _ (field (.ref e) 4 >>= _) _ _ ⟨h₁, g, d, tk, os⟩
  refine wpAny_bind (wpAny_field he₁ rfl (x := .none) rfl ?_)
  show wpAny _ _ (mkInt c >>= _) _ _ ⟨h₁, g, d, tk, os⟩
  refine wpAny_bind (wpAny_mkInt ?_)
  show wpAny _ _ (setField (.ref e) 3 (rawInt (c + 1)) >>= _) _ _ ⟨h₁, g, d, tk + 1, os⟩
  refine wpAny_bind (wpAny_setField_rec he₁ (by simp) fun h₂ he₂ hs₂ => ?_)
  have hs₂ : Heap.SameBut e h₁ h₂ := hs₂
  have he₂ : IsEnum h₂ e it (c + 1) old := he₂
  show wpAny _ _ (setField (.ref e) 4 .none >>= _) _ _ ⟨h₂, g, d, tk + 1, os⟩
  refine wpAny_bind (wpAny_setField_rec he₂ (by simp) fun h₃ he₃ hs₃ => ?_)
  have hs₃ : Heap.SameBut e h₂ h₃ := hs₃
  have he₃ : IsEnum h₃ e it (c + 1) old := he₃
  show wpAny _ _ (newTuple [.int c tk, x] >>= _) _ _ ⟨h₃, g, d, tk + 1, os⟩
  refine wpAny_bind (wpAny_newTuple ?_)
  have hsz : h₃.objs.size = h₁.objs.size := by rw [hs₃.1, hs₂.1]
  have hel : e < h₁.objs.size := Heap.lt_size he₁
  have he₄ : IsEnum (h₃.push { cls := .type "tuple", data := .seq #[.int c tk, x] }) e it (c + 1) old := Heap.get?_push_of_some _ he₃
  have ht₄ : (h₃.push { cls := .type "tuple", data := .seq #[.int c tk, x] }).get? h₁.objs.size = some { cls := .type "tuple", data := .seq #[.int c tk, x] } := by rw [← hsz]; exact Heap.get?_push_size _ rfl
  have hz₄ : (h₃.push { cls := .type "tuple", data := .seq #[.int c tk, x] }).objs.size = h₁.objs.size + 1 := by rw [Heap.size_push, hsz]
  have hk₄ : ∀ b o, b ≠ e → h₁.get? b = some o → (h₃.push { cls := .type "tuple", data := .seq #[.int c tk, x] }).get? b = some o := fun b o hb q => Heap.get?_push_of_some _ (hs₃.extBut b o hb (hs₂.extBut b o hb q))
  generalize h₃.push { cls := .type "tuple", data := .seq #[.int c tk, x] } = h₄ at he₄ ht₄ hz₄ hk₄
  rw [hsz]
  show wpAny _ _ (Builtin.SmallTypes.ownedTupleIsFree (.ref e) >>= _) _ _ ⟨h₄, g, d, tk + 1, os⟩
  refine wpAny_bind ?_
  unfold Builtin.SmallTypes.ownedTupleIsFree
  refine wpAny_bind (wpAny_field he₄ rfl (x := .none) rfl (wpAny_pure ?_))
  simp only [if_true]
  refine wpAny_bind (wpAny_rule ?_)
  refine wpAny_bind (wpAny_field he₄ rfl (x := old) rfl ?_)
  refine wpAny_bind (wpAny_setField_rec he₄ (by simp) fun h₅ he₅ hs₅ => ?_)
  have hs₅ : Heap.SameBut e h₄ h₅ := hs₅
  have he₅ : IsEnum h₅ e it (c + 1) x := he₅
  show wpAny _ _ (Builtin.SmallTypes.ownedTupleHandOut (.ref e) (.ref h₁.objs.size) >>= _) _ _ ⟨h₅, g, d, tk + 1, os⟩
  refine wpAny_bind ?_
  unfold Builtin.SmallTypes.ownedTupleHandOut
  refine wpAny_bind (wpAny_setField_rec he₅ (by simp) fun h₆ he₆ hs₆ => ?_)
  have hs₆ : Heap.SameBut e h₅ h₆ := hs₆
  have he₆ : IsEnumOut h₆ e it (c + 1) x h₁.objs.size := he₆
  refine wpAny_setField_rec he₆ (by simp) fun h₇ he₇ hs₇ => ?_
  have hs₇ : Heap.SameBut e h₆ h₇ := hs₇
  have he₇ : IsEnumOut h₇ e it (c + 1) x h₁.objs.size := he₇
  refine wpAny_bind (wpAny_letGo (wpAny_pure ⟨_, rfl, hQ x h₁ h₇ tk hN he₁ he₇ ?_ ?_ ?_⟩))
  · exact hs₇.extBut _ _ (Nat.ne_of_gt hel) (hs₆.extBut _ _ (Nat.ne_of_gt hel) (hs₅.extBut _ _ (Nat.ne_of_gt hel) ht₄))
  · rw [hs₇.1, hs₆.1, hs₅.1, hz₄]
  · exact fun b o hb q => hs₇.extBut b o hb (hs₆.extBut b o hb (hs₅.extBut b o hb (hk₄ b o hb q)))
theorem enum_next {e it : Addr} {c : Int} {old : Value} {Q : Option Value → Shared → Prop} {N : Value → Heap → Prop} (he : IsEnum s.heap e it c old)
    (hin : ∀ (Q' E' : Value → Shared → Prop), (∀ x h₁ tk, N x h₁ → IsEnum h₁ e it c old → Q' x { s with heap := h₁, toks := tk }) → wpAny (model prog w) A.in1 (Builtin.SmallTypes.nextOf (.ref it)) Q' E' s)
    (hQ : ∀ x h₁ h' tk, N x h₁ → IsEnum h₁ e it c old → IsEnumOut h' e it (c + 1) x h₁.objs.size → h'.get? h₁.objs.size = some { cls := .type "tuple", data := .seq #[.int c tk, x] } → h'.objs.size = h₁.objs.size + 1 →
      (∀ b o, b ≠ e → h₁.get? b = some o → h'.get? b = some o) → Q (some (.ref h₁.objs.size)) { s with heap := h', toks := tk + 1 }) : wpAny (model prog w) A (pyNext (.ref e)) Q E s := by
  have hT : s.TypeIs (.ref e) "enumerate" := ⟨_, he, rfl⟩
  unfold pyNext
  refine wpAny_bind (wpAny_attempt (wpAny_callSpecial?_slot (name := Str.ofString "__next__") hT F.slot_enumerate_next
    (wpAny_call_entry F.slot_enumerate_next hT F.entry_enumerate_next (enum_turn he (fun Q' k => ?_) fun x h₁ h' tk a b c d f k => wpAny_pure (hQ x h₁ h' tk a b c d f k)) (F.args_enumerate_next_1 _))))
  exact hin Q' _ k
theorem enum_end {e it : Addr} {c : Int} {old : Value} {Q : Option Value → Shared → Prop} {N : Heap → Prop} (he : IsEnum s.heap e it c old)
    (hin : ∀ (Q' E' : Value → Shared → Prop), (∀ h' x, N h' → (∃ o, h'.get? x = some o ∧ o.cls = .type "StopIteration") → E' (.ref x) { s with heap := h' }) → wpAny (model prog w) A.in1 (Builtin.SmallTypes.nextOf (.ref it)) Q' E' s)
    (hQ : ∀ h', N h' → Q none { s with heap := h' }) : wpAny (model prog w) A (pyNext (.ref e)) Q E s := by
  have hT : s.TypeIs (.ref e) "enumerate" := ⟨_, he, rfl⟩
  unfold pyNext
  refine wpAny_bind (wpAny_attempt (wpAny_callSpecial?_slot (name := Str.ofString "__next__") hT F.slot_enumerate_next
    (wpAny_call_entry F.slot_enumerate_next hT F.entry_enumerate_next ?_ (F.args_enumerate_next_1 _))))
  show wpAny _ _ (field (.ref e) 2 >>= _) _ _ _
  refine wpAny_bind (wpAny_field he rfl (x := .ref it) rfl ?_)
  refine wpAny_bind (hin _ _ fun h' x hn hx => ?_)
  obtain ⟨o, ho, hc⟩ := hx
  refine wpAny_bind (wpAny_isInstance (T := "StopIteration") (b := true) ⟨o, ho, hc⟩ isSubtype_stop ?_)
  exact wpAny_pure (hQ _ hn)
/-! ### zip's own turn, its tuple out or not -/
/-- the zip at z, whatever it says of its own tuple -/
def IsZipA (h : Heap) (z TI TO : Addr) : Prop := IsZip h z TI TO .none ∨ ∃ (T : Addr) (f : Bool), IsZipHeld h z TI TO T f
theorem IsZipA.at' {h h' : Heap} {z TI TO : Addr} (q : IsZipA h z TI TO) (k : ∀ o, h.get? z = some o → h'.get? z = some o) : IsZipA h' z TI TO := by
  rcases q with q | ⟨T, f, q⟩
  · exact .inl (k _ q)
  · exact .inr ⟨T, f, k _ q⟩
theorem IsZipA.obj {h : Heap} {z TI TO : Addr} (q : IsZipA h z TI TO) : ∃ vs, h.get? z = some { cls := .type "zip", dict := none, data := .fields vs, slots := #[] } ∧ vs[2]? = some (.bool false) ∧ vs[3]? = some (.ref TI) ∧ vs[4]? = some (.ref TO) := by
  rcases q with q | ⟨T, f, q⟩
  · exact ⟨_, q, rfl, rfl, rfl⟩
  · exact ⟨_, q, rfl, rfl, rfl⟩
/-- whether its tuple is free: asked, and the zip still is one -/
theorem zip_free {z TI TO : Addr} {Q : Bool → Shared → Prop} (hz : IsZipA s.heap z TI TO)
    (h : ∀ b h', IsZipA h' z TI TO → Heap.SameBut z s.heap h' → Q b { s with heap := h' }) : wpAny (model prog w) A (Builtin.SmallTypes.ownedTupleIsFree (.ref z)) Q E s := by
  rcases hz with hz | ⟨T, f, hz⟩
  · unfold Builtin.SmallTypes.ownedTupleIsFree
    exact wpAny_bind (wpAny_field hz rfl (x := .none) rfl (wpAny_pure (h true s.heap (.inl hz) (Heap.SameBut.refl _ _))))
  · cases hT : s.heap.get? T with
    | some oT => exact wpAny_tupleHeld_zip hz hT fun h' hz' hs' => h false h' (.inr ⟨T, true, hz'⟩) hs'
    | none =>
      unfold Builtin.SmallTypes.ownedTupleIsFree
      refine wpAny_bind (wpAny_field hz rfl (x := rawInt T) rfl ?_)
      show wpAny _ _ (loadIfAlive ((T : Int).toNat) >>= _) _ _ _
      rw [Int.toNat_natCast]
      have dead : ∀ {Q' : Option Obj → Shared → Prop}, Q' none s → wpAny (model prog w) A (loadIfAlive T) Q' E s := fun {Q'} q => by
        have q' : Q' (s.heap.get? T) s := by rw [hT]; exact q
        exact fun _ _ _ => q'
      refine wpAny_bind (dead ?_)
      exact wpAny_pure (h true s.heap (.inr ⟨T, f, hz⟩) (Heap.SameBut.refl _ _))
/-- one turn of zip over two tuples -/
theorem zip_item {z TI TO i1 i2 l1 l2 : Addr} {k1 k2 : Nat} {xs ys : Array Value} {x y : Value} {Q : Value → Shared → Prop} (D : ZipApart z TI TO i1 i2 l1 l2)
    (hz : IsZipA s.heap z TI TO) (hTI : IsPair s.heap TI (.ref i1) (.ref i2)) (hTO : ∃ a b, IsPair s.heap TO a b)
    (h1 : s.heap.IsTupleIter i1 l1 k1) (h2 : s.heap.IsTupleIter i2 l2 k2) (hl1 : s.heap.IsTuple l1 xs) (hl2 : s.heap.IsTuple l2 ys) (hx : xs[k1]? = some x) (hy : ys[k2]? = some y)
    (hQ : ∀ h', IsZipA h' z TI TO → (∃ a b, IsPair h' TO a b) → h'.IsTupleIter i1 l1 (k1 + 1) → h'.IsTupleIter i2 l2 (k2 + 1) → IsPair h' s.heap.objs.size x y → h'.objs.size = s.heap.objs.size + 1 →
      (∀ c o, c ≠ z → c ≠ TO → c ≠ i1 → c ≠ i2 → s.heap.get? c = some o → h'.get? c = some o) → Q (.ref s.heap.objs.size) { s with heap := h' }) :
    wpAny (model prog w) A (Builtin.«zip.__next__» ⟨[.ref z], []⟩) (fun fin s' => ∃ v, fin = .done (.ret v) ∧ Q v s') E s := by
  obtain ⟨a, b, hTO⟩ := hTO
  rcases hz with hz | ⟨T, f, hz⟩
  · exact RZ.zipT_next_item D hz hTI hTO h1 h2 hl1 hl2 hx hy fun h' a1 a2 a3 a4 a5 a6 a7 => hQ h' (.inr ⟨_, false, a1⟩) ⟨_, _, a2⟩ a3 a4 a5 a6 a7
  · show wpAny _ _ (field (.ref z) 2 >>= _) _ _ _
    refine wpAny_bind (wpAny_field hz rfl (x := .bool false) rfl ?_)
    show wpAny _ _ (field (.ref z) 3 >>= _) _ _ _
    refine wpAny_bind (wpAny_field hz rfl (x := .ref TI) rfl ?_)
    refine wpAny_bind (wpAny_seqItems hTI rfl ?_)
    show wpAny _ _ (Builtin.SmallTypes.ownedTupleIsFree (.ref z) >>= _) _ _ _
    cases hT : s.heap.get? T with
    | some oT =>
      refine wpAny_bind (wpAny_tupleHeld_zip hz hT fun h₁ hz₁ hs₁ => ?_)
      simp only [Bool.false_eq_true, if_false]
      refine wpAny_bind ?_
      rw [← Array.forIn_toList]
      simp only [List.forIn_cons, List.forIn_nil]
      refine wpAny_bind (wpAny_bind (wpAny_holding ?_))
      show wpAny _ _ (Builtin.SmallTypes.nextOf (.ref i1) >>= _) _ _ _
      refine wpAny_bind (RZ.nextOf_tuple_item (s := { s with heap := h₁ }) (h1.extBut hs₁.extBut D.i1z) (hl1.extBut hs₁.extBut D.l1z) hx fun h₂ h1₂ hs₂ => wpAny_pure ?_)
      refine wpAny_pure ?_
      refine wpAny_bind (wpAny_bind (wpAny_holding ?_))
      show wpAny _ _ (Builtin.SmallTypes.nextOf (.ref i2) >>= _) _ _ _
      refine wpAny_bind (RZ.nextOf_tuple_item (s := { s with heap := h₂ }) ((h2.extBut hs₁.extBut D.i2z).extBut hs₂.extBut D.i12.symm) ((hl2.extBut hs₁.extBut D.l2z).extBut hs₂.extBut D.l2i1) hy fun h₃ h2₃ hs₃ => wpAny_pure ?_)
      refine wpAny_pure (wpAny_pure ?_)
      show wpAny _ _ (newTuple [x, y] >>= _) _ _ _
      refine wpAny_bind (wpAny_newTuple ?_)
      have hsz : h₃.objs.size = s.heap.objs.size := by rw [hs₃.1, hs₂.1, hs₁.1]
      have hk : ∀ c o, c ≠ z → c ≠ i1 → c ≠ i2 → s.heap.get? c = some o → h₃.get? c = some o := fun c o c1 c2 c3 e => hs₃.extBut _ _ c3 (hs₂.extBut _ _ c2 (hs₁.extBut _ _ c1 e))
      have hz₃ : IsZipHeld h₃ z TI TO T true := hs₃.extBut _ _ D.i2z.symm (hs₂.extBut _ _ D.i1z.symm hz₁)
      have h1₃ : h₃.IsTupleIter i1 l1 (k1 + 1) := h1₂.extBut hs₃.extBut D.i12
      have hTO₃ : IsPair h₃ TO a b := hk _ _ D.TOz D.TOi1 D.TOi2 hTO
      refine wpAny_pure ⟨_, rfl, ?_⟩
      show Q (.ref h₃.objs.size) _
      have hp : IsPair (h₃.push { cls := .type "tuple", data := .seq #[x, y] }) h₃.objs.size x y := Heap.get?_push_size _ rfl
      have hz4 : (h₃.push { cls := .type "tuple", data := .seq #[x, y] }).objs.size = h₃.objs.size + 1 := Heap.size_push ..
      rw [hsz] at hp hz4 ⊢
      exact hQ _ (.inr ⟨T, true, Heap.get?_push_of_some _ hz₃⟩) ⟨a, b, Heap.get?_push_of_some _ hTO₃⟩ (h1₃.at fun o e => Heap.get?_push_of_some _ e) (h2₃.at fun o e => Heap.get?_push_of_some _ e) hp hz4 fun c o c1 _ c3 c4 e => Heap.get?_push_of_some _ (hk c o c1 c3 c4 e)
    | none =>
      have dead : ∀ {A' : Around} {E' : Value → Shared → Prop} {Q' : Option Obj → Shared → Prop}, Q' none s → wpAny (model prog w) A' (loadIfAlive T) Q' E' s := fun {A' E' Q'} q => by
        have q' : Q' (s.heap.get? T) s := by rw [hT]; exact q
        exact fun _ _ _ => q'
      refine wpAny_bind ?_
      unfold Builtin.SmallTypes.ownedTupleIsFree
      refine wpAny_bind (wpAny_field hz rfl (x := rawInt T) rfl ?_)
      show wpAny _ _ (loadIfAlive ((T : Int).toNat) >>= _) _ _ _
      rw [Int.toNat_natCast]
      refine wpAny_bind (dead ?_)
      refine wpAny_pure ?_
      simp only [if_true]
      refine wpAny_bind (wpAny_rule ?_)
      refine wpAny_bind (wpAny_field hz rfl (x := .ref TO) rfl ?_)
      refine wpAny_bind (wpAny_setField_rec hz (by simp) fun h₁ hz₁ hs₁ => ?_)
      have hz₁ : h₁.get? z = some { cls := .type "zip", dict := none, data := .fields #[.ellipsis, .bool f, .bool false, .ref TI, .ref TO], slots := #[] } := hz₁
      refine wpAny_bind ?_
      simp only [List.zipIdx_cons, List.zipIdx_nil, List.forIn_cons, List.forIn_nil]
      refine wpAny_bind (wpAny_bind (wpAny_onRaise ?_))
      show wpAny _ _ (Builtin.SmallTypes.nextOf (.ref i1) >>= _) _ _ _
      refine wpAny_bind (RZ.nextOf_tuple_item (h1.extBut hs₁.extBut D.i1z) (hl1.extBut hs₁.extBut D.l1z) hx fun h₂ h1₂ hs₂ => wpAny_pure ?_)
      have hTO₂ : IsPair h₂ TO a b := hs₂.extBut _ _ D.TOi1 (hs₁.extBut _ _ D.TOz hTO)
      refine wpAny_bind (wpAny_seqItems hTO₂ rfl ?_)
      refine wpAny_bind (wpAny_updateSeq_pair hTO₂ fun h₃ hTO₃ hs₃ => ?_)
      have hTO₃ : IsPair h₃ TO x b := hTO₃
      refine wpAny_bind (wpAny_letGo (wpAny_pure ?_))
      refine wpAny_bind (wpAny_bind (wpAny_onRaise ?_))
      show wpAny _ _ (Builtin.SmallTypes.nextOf (.ref i2) >>= _) _ _ _
      refine wpAny_bind (RZ.nextOf_tuple_item (((h2.extBut hs₁.extBut D.i2z).extBut hs₂.extBut D.i12.symm).extBut hs₃.extBut D.TOi2.symm)
        (((hl2.extBut hs₁.extBut D.l2z).extBut hs₂.extBut D.l2i1).extBut hs₃.extBut D.l2TO) hy fun h₄ h2₄ hs₄ => wpAny_pure ?_)
      have hTO₄ : IsPair h₄ TO x b := hs₄.extBut _ _ D.TOi2 hTO₃
      refine wpAny_bind (wpAny_seqItems hTO₄ rfl ?_)
      refine wpAny_bind (wpAny_updateSeq_pair hTO₄ fun h₅ hTO₅ hs₅ => ?_)
      have hTO₅ : IsPair h₅ TO x y := hTO₅
      refine wpAny_bind (wpAny_letGo (wpAny_pure (wpAny_pure ?_)))
      refine wpAny_bind (wpAny_seqItems hTO₅ rfl ?_)
      refine wpAny_bind (wpAny_newTuple ?_)
      have hsz : h₅.objs.size = s.heap.objs.size := by rw [hs₅.1, hs₄.1, hs₃.1, hs₂.1, hs₁.1]
      have hz₅ : h₅.get? z = some { cls := .type "zip", dict := none, data := .fields #[.ellipsis, .bool f, .bool false, .ref TI, .ref TO], slots := #[] } :=
        hs₅.extBut _ _ D.TOz.symm (hs₄.extBut _ _ D.i2z.symm (hs₃.extBut _ _ D.TOz.symm (hs₂.extBut _ _ D.i1z.symm hz₁)))
      have hk₅ : ∀ c o, c ≠ z → c ≠ TO → c ≠ i1 → c ≠ i2 → s.heap.get? c = some o → h₅.get? c = some o := fun c o c1 c2 c3 c4 e =>
        hs₅.extBut _ _ c2 (hs₄.extBut _ _ c4 (hs₃.extBut _ _ c2 (hs₂.extBut _ _ c3 (hs₁.extBut _ _ c1 e))))
      have h1₅ : h₅.IsTupleIter i1 l1 (k1 + 1) := ((h1₂.extBut hs₃.extBut D.TOi1.symm).extBut hs₄.extBut D.i12).extBut hs₅.extBut D.TOi1.symm
      have h2₅ : h₅.IsTupleIter i2 l2 (k2 + 1) := h2₄.extBut hs₅.extBut D.TOi2.symm
      have hzl : z < s.heap.objs.size := Heap.lt_size hz
      have hp : IsPair (h₅.push { cls := .type "tuple", data := .seq #[x, y] }) h₅.objs.size x y := Heap.get?_push_size _ rfl
      have hz4 : (h₅.push { cls := .type "tuple", data := .seq #[x, y] }).objs.size = h₅.objs.size + 1 := Heap.size_push ..
      show wpAny _ _ (Builtin.SmallTypes.ownedTupleHandOut (.ref z) (.ref h₅.objs.size) >>= _) _ _ _
      refine wpAny_bind ?_
      unfold Builtin.SmallTypes.ownedTupleHandOut
      have hz₆ := Heap.get?_push_of_some { cls := .type "tuple", data := .seq #[x, y] } hz₅
      refine wpAny_bind (wpAny_setField_rec hz₆ (by simp) fun h₇ hz₇ hs₇ => ?_)
      have hz₇ : h₇.get? z = some { cls := .type "zip", dict := none, data := .fields #[rawInt h₅.objs.size, .bool f, .bool false, .ref TI, .ref TO], slots := #[] } := hz₇
      refine wpAny_setField_rec hz₇ (by simp) fun h₈ hz₈ hs₈ => ?_
      have hz₈ : IsZipHeld h₈ z TI TO h₅.objs.size false := hz₈
      have up : ∀ c o, c ≠ z → (h₅.push { cls := .type "tuple", data := .seq #[x, y] }).get? c = some o → h₈.get? c = some o := fun c o c1 e => hs₈.extBut _ _ c1 (hs₇.extBut _ _ c1 e)
      refine wpAny_pure ⟨_, rfl, ?_⟩
      show Q (.ref h₅.objs.size) _
      have hsz8 : h₈.objs.size = h₅.objs.size + 1 := by rw [hs₈.1, hs₇.1, hz4]
      have hp8 : IsPair h₈ h₅.objs.size x y := up _ _ (by rw [hsz]; exact Nat.ne_of_gt hzl) hp
      rw [hsz] at hp8 hsz8 hz₈ ⊢
      exact hQ _ (.inr ⟨_, false, hz₈⟩) ⟨_, _, up _ _ D.TOz (Heap.get?_push_of_some _ hTO₅)⟩ (h1₅.at fun o e => up _ o D.i1z (Heap.get?_push_of_some _ e)) (h2₅.at fun o e => up _ o D.i2z (Heap.get?_push_of_some _ e)) hp8 hsz8 fun c o c1 c2 c3 c4 e => up c o c1 (Heap.get?_push_of_some _ (hk₅ c o c1 c2 c3 c4 e))
theorem zip_done {z TI TO i1 i2 l1 l2 : Addr} {k1 k2 : Nat} {xs ys : Array Value} {Q : Fin → Shared → Prop} (hh : A.handled = none) (D : ZipApart z TI TO i1 i2 l1 l2)
    (hz : IsZipA s.heap z TI TO) (hTI : IsPair s.heap TI (.ref i1) (.ref i2)) (hTO : ∃ a b, IsPair s.heap TO a b)
    (h1 : s.heap.IsTupleIter i1 l1 k1) (h2 : s.heap.IsTupleIter i2 l2 k2) (hl1 : s.heap.IsTuple l1 xs) (hl2 : s.heap.IsTuple l2 ys) (hend : xs[k1]? = none ∨ ys[k2]? = none)
    (hE : ∀ h' e, (∀ c o, c ≠ z → c ≠ TO → c ≠ i1 → c ≠ i2 → s.heap.get? c = some o → h'.get? c = some o) → (∃ o, h'.get? e = some o ∧ o.cls = .type "StopIteration") → E (.ref e) { s with heap := h' }) :
    wpAny (model prog w) A (Builtin.«zip.__next__» ⟨[.ref z], []⟩) Q E s := by
  obtain ⟨a, b, hTO⟩ := hTO
  rcases hz with hz | ⟨T, f, hz⟩
  · exact RZ.zipT_next_end hh D hz hTI hTO h1 h2 hl1 hl2 hend hE
  · show wpAny _ _ (field (.ref z) 2 >>= _) _ _ _
    refine wpAny_bind (wpAny_field hz rfl (x := .bool false) rfl ?_)
    show wpAny _ _ (field (.ref z) 3 >>= _) _ _ _
    refine wpAny_bind (wpAny_field hz rfl (x := .ref TI) rfl ?_)
    refine wpAny_bind (wpAny_seqItems hTI rfl ?_)
    show wpAny _ _ (Builtin.SmallTypes.ownedTupleIsFree (.ref z) >>= _) _ _ _
    cases hT : s.heap.get? T with
    | some oT =>
      refine wpAny_bind (wpAny_tupleHeld_zip hz hT fun h₁ hz₁ hs₁ => ?_)
      simp only [Bool.false_eq_true, if_false]
      refine wpAny_bind ?_
      rw [← Array.forIn_toList]
      simp only [List.forIn_cons, List.forIn_nil]
      refine wpAny_bind (wpAny_bind (wpAny_holding ?_))
      show wpAny _ _ (Builtin.SmallTypes.nextOf (.ref i1) >>= _) _ _ _
      cases hx : xs[k1]? with
      | none =>
        refine wpAny_bind (RZ.nextOf_tuple_end (s := { s with heap := h₁ }) hh (h1.extBut hs₁.extBut D.i1z) (hl1.extBut hs₁.extBut D.l1z) hx fun h₂ e hs₂ he => ?_)
        exact hE h₂ e (fun c o c1 _ c3 _ x => hs₂ _ _ c3 (hs₁.extBut _ _ c1 x)) he
      | some x =>
        have hy : ys[k2]? = none := hend.elim (fun h => by rw [hx] at h; cases h) id
        refine wpAny_bind (RZ.nextOf_tuple_item (s := { s with heap := h₁ }) (h1.extBut hs₁.extBut D.i1z) (hl1.extBut hs₁.extBut D.l1z) hx fun h₂ h1₂ hs₂ => wpAny_pure ?_)
        refine wpAny_pure ?_
        refine wpAny_bind (wpAny_bind (wpAny_holding ?_))
        show wpAny _ _ (Builtin.SmallTypes.nextOf (.ref i2) >>= _) _ _ _
        refine wpAny_bind (RZ.nextOf_tuple_end (s := { s with heap := h₂ }) hh ((h2.extBut hs₁.extBut D.i2z).extBut hs₂.extBut D.i12.symm) ((hl2.extBut hs₁.extBut D.l2z).extBut hs₂.extBut D.l2i1) hy fun h₃ e hs₃ he => ?_)
        exact hE h₃ e (fun c o c1 _ c3 c4 x => hs₃ _ _ c4 (hs₂.extBut _ _ c3 (hs₁.extBut _ _ c1 x))) he
    | none =>
      have dead : ∀ {A' : Around} {E' : Value → Shared → Prop} {Q' : Option Obj → Shared → Prop}, Q' none s → wpAny (model prog w) A' (loadIfAlive T) Q' E' s := fun {A' E' Q'} q => by
        have q' : Q' (s.heap.get? T) s := by rw [hT]; exact q
        exact fun _ _ _ => q'
      refine wpAny_bind ?_
      unfold Builtin.SmallTypes.ownedTupleIsFree
      refine wpAny_bind (wpAny_field hz rfl (x := rawInt T) rfl ?_)
      show wpAny _ _ (loadIfAlive ((T : Int).toNat) >>= _) _ _ _
      rw [Int.toNat_natCast]
      refine wpAny_bind (dead ?_)
      refine wpAny_pure ?_
      simp only [if_true]
      refine wpAny_bind (wpAny_rule ?_)
      refine wpAny_bind (wpAny_field hz rfl (x := .ref TO) rfl ?_)
      refine wpAny_bind (wpAny_setField_rec hz (by simp) fun h₁ hz₁ hs₁ => ?_)
      have hz₁ : h₁.get? z = some { cls := .type "zip", dict := none, data := .fields #[.ellipsis, .bool f, .bool false, .ref TI, .ref TO], slots := #[] } := hz₁
      refine wpAny_bind ?_
      simp only [List.zipIdx_cons, List.zipIdx_nil, List.forIn_cons, List.forIn_nil]
      refine wpAny_bind (wpAny_bind (wpAny_onRaise ?_))
      show wpAny _ _ (Builtin.SmallTypes.nextOf (.ref i1) >>= _) _ _ _
      cases hx : xs[k1]? with
      | none =>
        refine wpAny_bind (RZ.nextOf_tuple_end hh (h1.extBut hs₁.extBut D.i1z) (hl1.extBut hs₁.extBut D.l1z) hx fun h₂ e hs₂ he => ?_)
        obtain ⟨oe, hoe, hce⟩ := he
        have hz₂ := hs₂ _ _ D.i1z.symm hz₁
        have hez : e ≠ z := fun q => by subst q; rw [hz₂] at hoe; cases hoe; simp at hce
        exact wpAny_setField_rec hz₂ (by simp) fun h₃ _ hs₃ => hE h₃ e (fun c o c1 _ c3 _ x => hs₃.extBut _ _ c1 (hs₂ _ _ c3 (hs₁.extBut _ _ c1 x))) ⟨oe, hs₃.extBut _ _ hez hoe, hce⟩
      | some x =>
        have hy : ys[k2]? = none := hend.elim (fun h => by rw [hx] at h; cases h) id
        refine wpAny_bind (RZ.nextOf_tuple_item (h1.extBut hs₁.extBut D.i1z) (hl1.extBut hs₁.extBut D.l1z) hx fun h₂ h1₂ hs₂ => wpAny_pure ?_)
        have hTO₂ : IsPair h₂ TO a b := hs₂.extBut _ _ D.TOi1 (hs₁.extBut _ _ D.TOz hTO)
        refine wpAny_bind (wpAny_seqItems hTO₂ rfl ?_)
        refine wpAny_bind (wpAny_updateSeq_pair hTO₂ fun h₃ hTO₃ hs₃ => ?_)
        refine wpAny_bind (wpAny_letGo (wpAny_pure ?_))
        refine wpAny_bind (wpAny_bind (wpAny_onRaise ?_))
        show wpAny _ _ (Builtin.SmallTypes.nextOf (.ref i2) >>= _) _ _ _
        refine wpAny_bind (RZ.nextOf_tuple_end hh (((h2.extBut hs₁.extBut D.i2z).extBut hs₂.extBut D.i12.symm).extBut hs₃.extBut D.TOi2.symm)
          (((hl2.extBut hs₁.extBut D.l2z).extBut hs₂.extBut D.l2i1).extBut hs₃.extBut D.l2TO) hy fun h₄ e hs₄ he => ?_)
        obtain ⟨oe, hoe, hce⟩ := he
        have hz₄ := hs₄ _ _ D.i2z.symm (hs₃.extBut _ _ D.TOz.symm (hs₂.extBut _ _ D.i1z.symm hz₁))
        have hez : e ≠ z := fun q => by subst q; rw [hz₄] at hoe; cases hoe; simp at hce
        exact wpAny_setField_rec hz₄ (by simp) fun h₅ _ hs₅ => hE h₅ e (fun c o c1 c2 c3 c4 x => hs₅.extBut _ _ c1 (hs₄ _ _ c4 (hs₃.extBut _ _ c2 (hs₂.extBut _ _ c3 (hs₁.extBut _ _ c1 x))))) ⟨oe, hs₅.extBut _ _ hez hoe, hce⟩
theorem nextOf_zip_item {z TI TO i1 i2 l1 l2 : Addr} {k1 k2 : Nat} {xs ys : Array Value} {x y : Value} {Q : Value → Shared → Prop} (D : ZipApart z TI TO i1 i2 l1 l2)
    (hz : IsZipA s.heap z TI TO) (hTI : IsPair s.heap TI (.ref i1) (.ref i2)) (hTO : ∃ a b, IsPair s.heap TO a b)
    (h1 : s.heap.IsTupleIter i1 l1 k1) (h2 : s.heap.IsTupleIter i2 l2 k2) (hl1 : s.heap.IsTuple l1 xs) (hl2 : s.heap.IsTuple l2 ys) (hx : xs[k1]? = some x) (hy : ys[k2]? = some y)
    (hQ : ∀ h', IsZipA h' z TI TO → (∃ a b, IsPair h' TO a b) → h'.IsTupleIter i1 l1 (k1 + 1) → h'.IsTupleIter i2 l2 (k2 + 1) → IsPair h' s.heap.objs.size x y → h'.objs.size = s.heap.objs.size + 1 →
      (∀ c o, c ≠ z → c ≠ TO → c ≠ i1 → c ≠ i2 → s.heap.get? c = some o → h'.get? c = some o) → Q (.ref s.heap.objs.size) { s with heap := h' }) :
    wpAny (model prog w) A (Builtin.SmallTypes.nextOf (.ref z)) Q E s := by
  obtain ⟨vs, hv, _⟩ := hz.obj
  have hT : s.TypeIs (.ref z) "zip" := ⟨_, hv, rfl⟩
  unfold Builtin.SmallTypes.nextOf
  exact wpAny_bind (wpAny_callSpecial?_slot (name := Str.ofString "__next__") hT F.slot_zip_next
    (wpAny_call_entry F.slot_zip_next hT F.entry_zip_next (zip_item D hz hTI hTO h1 h2 hl1 hl2 hx hy fun h' a1 a2 a3 a4 a5 a6 a7 => wpAny_pure (hQ h' a1 a2 a3 a4 a5 a6 a7)) (F.args_zip_next_1 _)))
theorem nextOf_zip_end {z TI TO i1 i2 l1 l2 : Addr} {k1 k2 : Nat} {xs ys : Array Value} {Q : Value → Shared → Prop} (hh : A.handled = none) (D : ZipApart z TI TO i1 i2 l1 l2)
    (hz : IsZipA s.heap z TI TO) (hTI : IsPair s.heap TI (.ref i1) (.ref i2)) (hTO : ∃ a b, IsPair s.heap TO a b)
    (h1 : s.heap.IsTupleIter i1 l1 k1) (h2 : s.heap.IsTupleIter i2 l2 k2) (hl1 : s.heap.IsTuple l1 xs) (hl2 : s.heap.IsTuple l2 ys) (hend : xs[k1]? = none ∨ ys[k2]? = none)
    (hE : ∀ h' e, (∀ c o, c ≠ z → c ≠ TO → c ≠ i1 → c ≠ i2 → s.heap.get? c = some o → h'.get? c = some o) → (∃ o, h'.get? e = some o ∧ o.cls = .type "StopIteration") → E (.ref e) { s with heap := h' }) :
    wpAny (model prog w) A (Builtin.SmallTypes.nextOf (.ref z)) Q E s := by
  obtain ⟨vs, hv, _⟩ := hz.obj
  have hT : s.TypeIs (.ref z) "zip" := ⟨_, hv, rfl⟩
  unfold Builtin.SmallTypes.nextOf
  exact wpAny_bind (wpAny_callSpecial?_slot (name := Str.ofString "__next__") hT F.slot_zip_next
    (wpAny_call_entry F.slot_zip_next hT F.entry_zip_next (zip_done hh D hz hTI hTO h1 h2 hl1 hl2 hend hE) (F.args_zip_next_1 _)))
/-! ### enumerate(v) begins -/
theorem meets_enum {v : Value} {it : Heap → Addr} {nh : Heap → Heap} {H : Heap → Prop}
    (B : ∀ (prog : Program) (w : World) (A : Around) (E : Value → Shared → Prop) (s : Shared) (Q : Value → Shared → Prop), H s.heap → Q (.ref (it s.heap)) { s with heap := nh s.heap } → wpAny (model prog w) A (pyIter v) Q E s) :
    Meets (Builtin.«enumerate.__new__» ⟨[.type "enumerate", v], []⟩) (fun _ R s => H s.heap ∧
      R (.ok (.ret (.ref (nh s.heap).objs.size))) { s with heap := (nh s.heap).push { cls := .type "enumerate", data := .fields #[.none, .bool false, .ref (it s.heap), rawInt 0, .none, .none] } }) :=
  .of_wp fun prog w A R s h => by
    obtain ⟨hp, g, d, tk, os⟩ := s; obtain ⟨h1, h⟩ := h
    have hsub := sub_enumerate
    have q1 : ∀ {A' : Around} {E : Value → Shared → Prop} {Q : Value → Shared → Prop}, Q (.ref (it hp)) ⟨nh hp, g, d, tk, os⟩ → wpAny (model prog w) A' (pyIter v) Q E ⟨hp, g, d, tk, os⟩ :=
      fun q => B prog w _ _ ⟨hp, g, d, tk, os⟩ _ h1 q
    wp_walk using q1
    refine wpAny_stack_any fun st => wpAny_pure ?_
    split
    · rename_i c _ _ _ _ _
      cases (c == Value.type "enumerate")
      · wp_walk using q1
        exact ⟨_, rfl, h⟩
      · wp_walk using q1
        exact ⟨_, rfl, h⟩
    · wp_walk using q1
      exact ⟨_, rfl, h⟩
theorem call_enum {v : Value} {it : Heap → Addr} {nh : Heap → Heap} {H : Heap → Prop} {Q : Value → Shared → Prop}
    (B : ∀ (prog : Program) (w : World) (A : Around) (E : Value → Shared → Prop) (s : Shared) (Q : Value → Shared → Prop), H s.heap → Q (.ref (it s.heap)) { s with heap := nh s.heap } → wpAny (model prog w) A (pyIter v) Q E s)
    (h0 : H s.heap) (h : ∀ h', IsEnum h' (nh s.heap).objs.size (it s.heap) 0 .none → h'.objs.size = (nh s.heap).objs.size + 1 → (∀ b o, (nh s.heap).get? b = some o → h'.get? b = some o) → Q (.ref (nh s.heap).objs.size) { s with heap := h' }) :
    wpAny (model prog w) A (call (.type "enumerate") [v]) Q E s := by
  refine callType_new F.called_enumerate (by decide) (F.typeCall_enumerate_1 _) (F.newCall_enumerate_1 _) (fun obj => F.args_object_init_2 obj _) F.entry_enumerate_new (meets_enum B) ⟨h0, ?_⟩
  have he : IsEnum ((nh s.heap).push { cls := .type "enumerate", data := .fields #[.none, .bool false, .ref (it s.heap), rawInt 0, .none, .none] }) (nh s.heap).objs.size (it s.heap) 0 .none := Heap.get?_push_size _ rfl
  exact ⟨⟨_, he, rfl⟩, h _ he (Heap.size_push ..) fun b o x => Heap.get?_push_of_some _ x⟩
end
end K2
end
section
set_option maxHeartbeats 4000000
/-! for over enumerate(list or tuple), over enumerate(zip(tuple, tuple)), over a list or a tuple. -/
namespace K2
open PySem PySem.Spec PyProof.Rows L2
/-- a list (false) or a tuple (true) of xs at a -/
def Sq (K : PySem.W.Frag) (b : Bool) (H : Hp) (a : Addr) (xs : List V) : Prop := match b with
  | false => SqL K H a xs
  | true => SqT K H a xs
theorem Sq.same {K : PySem.W.Frag} {b : Bool} {H H' : Hp} {a : Addr} {xs : List V} (e : Same H H') (h : Sq K b H a xs) : Sq K b H' a xs := by
  cases b with
  | false => exact e.seq h
  | true => exact e.seqT h
theorem Sq.kd {K : PySem.W.Frag} {b : Bool} {H : Hp} {a : Addr} {xs : List V} (h : Sq K b H a xs) : Kd K H (.ref a) := by
  cases b with
  | false => exact .lst h
  | true => exact .tup h
/-! ### enumerate(tuple) -/
def IteT (K : PySem.W.Frag) (a : Addr) : It :=
  ⟨fun i H => ∃ (xs : List V) (x : V), SqT K H a xs ∧ xs[i]? = some x, fun i H v H' => ∃ T x, v = .ref T ∧ H T = none ∧ H' = upd H T (.tup [.int (i : Nat), x]) ∧ ∀ xs, SqT K H a xs → xs[i]? = some x, fun i H => ∃ xs : List V, SqT K H a xs ∧ xs.length ≤ i⟩
def IteS (K : PySem.W.Frag) (b : Bool) (a : Addr) : It := match b with
  | false => Ite K a
  | true => IteT K a
theorem turn_enumT {P : Program} {w : World} {K : PySem.W.Frag} {elts : List Expr} {kk : Nat} {tpos : Pos} (a e it : Addr) :
    Turn P w K (.Tuple elts kk tpos) (IteT K a) [e, it] e (fun i h => (∃ old, IsEnum h e it ((i : Nat) : Int) old) ∧ h.IsTupleIter it a i ∧ e ≠ it) where
  mem := by simp
  obj := fun i h st b hb => by
    obtain ⟨⟨old, he⟩, ⟨o, ho, hc, hd⟩, _⟩ := st
    rcases (show b = e ∨ b = it by simpa using hb) with z | z
    · rw [z]; exact ⟨_, he, fun v q => nomatch q⟩
    · rw [z]; exact ⟨o, ho, fun v q => by rw [hd] at q; cases q⟩
  keep := fun i h h' st k => let ⟨⟨old, he⟩, hi, hne⟩ := st; ⟨⟨old, k e (by simp) _ he⟩, hi.at fun o q => k it (by simp) o q, hne⟩
  item := by
    intro X hP hw hK hc i pins s σ H E I hf st hg
    subst hP hw hK
    obtain ⟨⟨old, he⟩, hit, hne⟩ := st
    obtain ⟨xs, x, hq, hx⟩ := hg
    obtain ⟨its, rv, p, hz⟩ := I.tuple hq
    obtain ⟨u, hu, ru⟩ := rv.get hx
    have hel : e < s.heap.objs.size := Heap.lt_size he
    have hil : it < s.heap.objs.size := by obtain ⟨_, q, _⟩ := hit; exact Heap.lt_size q
    refine enum_next (N := fun y h₁ => y = u ∧ h₁.IsTupleIter it a (i + 1) ∧ Heap.SameBut it s.heap h₁) he (fun Q' E' k => ?_) fun y h₁ h' tk hN he₁ ho hT hsz hk => ?_
    · exact RZ.nextOf_tuple_item hit (show s.heap.IsTuple a its.toArray from p) (x := u) (by simpa using hu) fun h₁ hit₁ hs₁ => k u h₁ s.toks ⟨rfl, hit₁, hs₁⟩ ((hs₁.2 e hne).trans he)
    · obtain ⟨rfl, hit₁, hs₁⟩ := hN
      have sz1 : h₁.objs.size = s.heap.objs.size := hs₁.1
      refine ⟨_, rfl, wpAny_letOwnedTupleGo_enum (s := { s with heap := h', toks := tk + 1 }) ho fun h'' he' sb => ?_⟩
      rw [sz1] at hT hsz ⊢
      have hT2 : h''.get? s.heap.objs.size = some { cls := .type "tuple", data := .seq #[.int i tk, y] } := (sb.2 _ (Nat.ne_of_gt hel)).trans hT
      have new : ObjOk X.prog X.w (upd H s.heap.objs.size (.tup [.int (i : Nat), x])) h'' s.heap.objs.size (.tup [.int (i : Nat), x]) :=
        ⟨by show 2 ≤ sizeLine; decide, [.int i tk, y], .cons ⟨_, rfl⟩ (.cons ru .nil), ⟨_, hT2, rfl, _, rfl⟩⟩
      have I1 : Inv X pins σ (upd H s.heap.objs.size (.tup [.int (i : Nat), x])) { s with heap := h'', toks := tk + 1 } :=
        I.turnedNew (ch := [e, it]) (fun b ob hb q => (sb.2 b (fun z => hb (by simp [z]))).trans (hk b ob (fun z => hb (by simp [z])) (hs₁.extBut b ob (fun z => hb (by simp [z])) q))) hf (Nat.le_refl _) new
      refine ⟨.ref s.heap.objs.size, _, I1, rfl, ⟨_, x, rfl, I.hok.fresh (Nat.le_refl _), rfl, fun ys hy => by rw [I.tuple_inj hy hq]; exact hx⟩, ⟨⟨y, ?_⟩, (hit₁.at fun o q => (sb.2 it (Ne.symm hne)).trans (hk it o (Ne.symm hne) q)), hne⟩, fun b hb => ?_⟩
      · rw [show ((i + 1 : Nat) : Int) = (i : Int) + 1 by omega]
        exact he'
      · have hb' : b < s.heap.objs.size := by
          rcases (show b = e ∨ b = it by simpa using hb) with z | z
          · rw [z]; exact hel
          · rw [z]; exact hil
        rw [upd_ne (Nat.ne_of_lt hb')]
        exact (hf b hb).1
  done := by
    intro X hP hw hK hc i pins s σ H E I hf st hg
    subst hP hw hK
    obtain ⟨⟨old, he⟩, hit, hne⟩ := st
    obtain ⟨xs, hq, hx⟩ := hg
    obtain ⟨its, rv, p, hz⟩ := I.tuple hq
    obtain ⟨f0, f1, f2, f3, f4, f5⟩ := hf it (by simp)
    have hl := rv.length
    refine enum_end (N := fun h' => Heap.ExtBut it s.heap h') he (fun Q' E' k => RZ.nextOf_tuple_end (I.ok.hd hc) hit (show s.heap.IsTuple a its.toArray from p) (by simp; omega) fun h' x hx hs => k h' x hx hs) fun h' eb => ?_
    exact ⟨rfl, I.turned (t' := s.toks) (fun b o hb q => eb b o hb q) f0 f1 f3 f4 f5⟩
  self := fun A i s Q E st h => let ⟨⟨_, he⟩, _⟩ := st; wpAny_pyIter_enum he h
def iEnumS (K : PySem.W.Frag) (ta : TA) : TI := fun σ H R => ta σ H fun vs H1 => ∃ a b xs, vs = [.ref a] ∧ Sq K b H1 a xs ∧ R (IteS K b a) H1
theorem pi_enumS {X : Cx} {e : Expr} {ta : TA} {p pos tpos : Pos} {elts : List Expr} {kk : Nat} (hg : Gl X "enumerate") (hm : X.mg "enumerate" = none) (ha : PA X [e] ta) (hs : starEach [e] X.env = [(false, eval e X.env)] := by rfl) :
    PI X (.Tuple elts kk tpos) (.Call (.Name "enumerate" p) [e] [] pos) (iEnumS X.K ta) := by
  refine ⟨fun pins s σ H R I h => ?_⟩
  refine Call_ (ld_blt I hg hm boot_enumerate (PyProof.Rows.callWith_type1 (thn (ha.run pos pins s σ H _ I h) fun us s1 ⟨vs, H1, I1, r1, q1⟩ => ?_) hs rfl))
  obtain ⟨a, b, xs, ex, hq, q⟩ := q1
  subst ex
  cases r1 with
  | cons r rr =>
    cases rr
    cases r
    have fp : ∀ c, c ∈ [s1.heap.objs.size + 1, s1.heap.objs.size] → FpOk X pins H1 c := fun c hc => by
      have hle : s1.heap.objs.size ≤ c := by
        rcases (show c = s1.heap.objs.size + 1 ∨ c = s1.heap.objs.size by simpa using hc) with z | z
        · rw [z]; exact Nat.le_add_right _ _
        · rw [z]; exact Nat.le_refl _
      exact I1.fpOk hle (I1.hok.fresh hle)
    cases b with
    | false =>
      obtain ⟨its, rv, p', hz⟩ := I1.list hq
      refine call_enumerate_list p'.isList fun h' he hit hsz hk => wpAny_pyIter_enum he ?_
      exact ⟨s1.heap.objs.size + 1, [s1.heap.objs.size + 1, s1.heap.objs.size], _, _, H1, rfl, I1.kept (t' := s1.toks) hk, turn_enum a (s1.heap.objs.size + 1) s1.heap.objs.size, ⟨⟨.none, he⟩, hit, Nat.succ_ne_self _⟩, fp, q⟩
    | true =>
      obtain ⟨its, rv, p', hz⟩ := I1.tuple hq
      have pt : s1.heap.IsTuple a its.toArray := p'
      refine call_enum (it := fun h => h.objs.size) (nh := fun h => h.push { cls := .type "tuple_iterator", data := .fields #[.ref a, .int 0 0] }) (H := fun h => h.IsTuple a its.toArray) (fun prog w A E s Q hh k => wpAny_pyIter_tuple hh k) pt fun h' he hsz hk => ?_
      have e1 : (s1.heap.push { cls := .type "tuple_iterator", data := .fields #[.ref a, .int 0 0] }).objs.size = s1.heap.objs.size + 1 := Heap.size_push ..
      rw [e1] at he ⊢
      have hit : h'.IsTupleIter s1.heap.objs.size a 0 := ⟨_, hk _ _ (Heap.get?_push_size _ rfl), rfl, rfl⟩
      refine wpAny_pyIter_enum he ?_
      exact ⟨s1.heap.objs.size + 1, [s1.heap.objs.size + 1, s1.heap.objs.size], _, _, H1, rfl, I1.kept (t' := s1.toks) (fun b o q => hk b o (Heap.get?_push_of_some _ q)), turn_enumT a (s1.heap.objs.size + 1) s1.heap.objs.size, ⟨⟨.none, he⟩, hit, Nat.succ_ne_self _⟩, fp, q⟩
theorem walk_enumS {K : PySem.W.Frag} {b : Bool} {a : Addr} {xs : List V} : Walk (IteS K b a) xs.length (fun H => Sq K b H a xs) (YPair (fun i => some (.int (i : Nat))) (fun i => xs[i]?)) := by
  cases b with
  | false => exact walk_enum
  | true =>
    refine ⟨fun i _ hi q => ⟨xs, xs[i], q, by simp [hi]⟩, fun _ q => ⟨xs, q, Nat.le_refl _⟩, fun i H v H' _ q y => ?_⟩
    obtain ⟨T, x, h1, h2, h3, h4⟩ := y
    exact ⟨T, .int (i : Nat), x, h1, h2, h3, rfl, h4 xs q⟩
/-! ### a list or a tuple -/
def ItS (K : PySem.W.Frag) (b : Bool) (a : Addr) : It := match b with
  | false => Itl K a
  | true => Itt K a
def iSeqS (K : PySem.W.Frag) (tl : TE) : TI := fun σ H R => tl σ H fun x H1 => ∃ a b xs, x = .ref a ∧ Sq K b H1 a xs ∧ R (ItS K b a) H1
theorem pi_seqS {X : Cx} {tg l : Expr} {tl : TE} (hl : PE X l tl) : PI X tg l (iSeqS X.K tl) := by
  refine ⟨fun pins s σ H R I h => ?_⟩
  refine thn (hl.run pins s σ H _ I h) fun v s1 ⟨x, H1, I1, r1, q1⟩ => ?_
  obtain ⟨a, b, xs, e, hq, q⟩ := q1
  subst e
  cases r1
  have fp : ∀ c, c ∈ [s1.heap.objs.size] → FpOk X pins H1 c := fun c hc => by
    have z : c = s1.heap.objs.size := by simpa using hc
    rw [z]
    exact I1.fpOk (Nat.le_refl _) (I1.hok.fresh (Nat.le_refl _))
  cases b with
  | false =>
    obtain ⟨its, rv, p, hz⟩ := I1.list hq
    refine wpAny_pyIter_list p.isList ?_
    exact ⟨s1.heap.objs.size, [s1.heap.objs.size], _, _, H1, rfl, I1.kept (t' := s1.toks) fun b o e => Heap.get?_push_of_some _ e, turn_list a _, ⟨_, Heap.get?_push_size _ rfl, rfl, rfl⟩, fp, q⟩
  | true =>
    obtain ⟨its, rv, p, hz⟩ := I1.tuple hq
    refine wpAny_pyIter_tuple (show s1.heap.IsTuple a its.toArray from p) ?_
    exact ⟨s1.heap.objs.size, [s1.heap.objs.size], _, _, H1, rfl, I1.kept (t' := s1.toks) fun b o e => Heap.get?_push_of_some _ e, turn_tuple a _, ⟨_, Heap.get?_push_size _ rfl, rfl, rfl⟩, fp, q⟩
theorem walk_seqS {K : PySem.W.Frag} {b : Bool} {a : Addr} {xs : List V} : Walk (ItS K b a) xs.length (fun H => Sq K b H a xs) (YAt xs) := by
  cases b with
  | false => exact walk_list
  | true => exact walk_tup
/-! ### enumerate(zip(tuple, tuple)) -/
def Itez (K : PySem.W.Frag) (a b : Addr) : It :=
  ⟨fun i H => ∃ (xs ys : List V) (x y : V), SqT K H a xs ∧ SqT K H b ys ∧ xs[i]? = some x ∧ ys[i]? = some y,
    fun i H v H' => ∃ T U x y, v = .ref U ∧ H T = none ∧ upd H T (.tup [x, y]) U = none ∧ H' = upd (upd H T (.tup [x, y])) U (.tup [.int (i : Nat), .ref T]) ∧ (∀ xs, SqT K H a xs → xs[i]? = some x) ∧ ∀ ys, SqT K H b ys → ys[i]? = some y,
    fun i H => ∃ xs ys : List V, SqT K H a xs ∧ SqT K H b ys ∧ (xs.length ≤ i ∨ ys.length ≤ i)⟩
theorem turn_enumZ {P : Program} {w : World} {K : PySem.W.Frag} {elts : List Expr} {kk : Nat} {tpos : Pos} {a b e z TI TO i1 i2 : Addr} (D : ZipApart z TI TO i1 i2 a b) (he_ : e ≠ z ∧ e ≠ TI ∧ e ≠ TO ∧ e ≠ i1 ∧ e ≠ i2) :
    Turn P w K (.Tuple elts kk tpos) (Itez K a b) [e, z, TI, TO, i1, i2] e (fun i h => (∃ old, IsEnum h e z ((i : Nat) : Int) old) ∧ IsZipA h z TI TO ∧ IsPair h TI (.ref i1) (.ref i2) ∧ (∃ x y, IsPair h TO x y) ∧ h.IsTupleIter i1 a i ∧ h.IsTupleIter i2 b i) where
  mem := by simp
  obj := fun i h st c hc => by
    obtain ⟨⟨old, he⟩, hz, hTI, ⟨x, y, hTO⟩, ⟨o1, e1, _, d1⟩, ⟨o2, e2, _, d2⟩⟩ := st
    obtain ⟨vs, hv, _⟩ := hz.obj
    rcases (show c = e ∨ c = z ∨ c = TI ∨ c = TO ∨ c = i1 ∨ c = i2 by simpa using hc) with q | q | q | q | q | q
    · rw [q]; exact ⟨_, he, fun v q => nomatch q⟩
    · rw [q]; exact ⟨_, hv, fun v q => nomatch q⟩
    · rw [q]; exact ⟨_, hTI, fun v q => nomatch q⟩
    · rw [q]; exact ⟨_, hTO, fun v q => nomatch q⟩
    · rw [q]; exact ⟨o1, e1, fun v q => by rw [d1] at q; cases q⟩
    · rw [q]; exact ⟨o2, e2, fun v q => by rw [d2] at q; cases q⟩
  keep := fun i h h' st k => by
    obtain ⟨⟨old, he⟩, hz, hTI, ⟨x, y, hTO⟩, h1, h2⟩ := st
    exact ⟨⟨old, k e (by simp) _ he⟩, hz.at' fun o q => k z (by simp) o q, k TI (by simp) _ hTI, ⟨x, y, k TO (by simp) _ hTO⟩, h1.at fun o q => k i1 (by simp) o q, h2.at fun o q => k i2 (by simp) o q⟩
  item := by
    intro X hP hw hK hc i pins s σ H E I hf st hg
    subst hP hw hK
    obtain ⟨⟨old, he⟩, hz, hTI, hTO, h1, h2⟩ := st
    obtain ⟨ez, eTI, eTO, e1, e2⟩ := he_
    obtain ⟨xs, ys, x, y, hqx, hqy, hx, hy⟩ := hg
    obtain ⟨its, rv, p, _⟩ := I.tuple hqx
    obtain ⟨its2, rv2, p2, _⟩ := I.tuple hqy
    obtain ⟨u, hu, ru⟩ := rv.get hx
    obtain ⟨u2, hu2, ru2⟩ := rv2.get hy
    obtain ⟨zv, hzv, _⟩ := hz.obj
    obtain ⟨a0, b0, hTO0⟩ := id hTO
    have lt : ∀ c ∈ [e, z, TI, TO, i1, i2], c < s.heap.objs.size := fun c hcm => by
      rcases (show c = e ∨ c = z ∨ c = TI ∨ c = TO ∨ c = i1 ∨ c = i2 by simpa using hcm) with q | q | q | q | q | q
      · rw [q]; exact Heap.lt_size he
      · rw [q]; exact Heap.lt_size hzv
      · rw [q]; exact Heap.lt_size hTI
      · rw [q]; exact Heap.lt_size hTO0
      · rw [q]; obtain ⟨_, q1, _⟩ := h1; exact Heap.lt_size q1
      · rw [q]; obtain ⟨_, q2, _⟩ := h2; exact Heap.lt_size q2
    refine enum_next (N := fun v h₁ => v = .ref s.heap.objs.size ∧ IsZipA h₁ z TI TO ∧ (∃ a b, IsPair h₁ TO a b) ∧ h₁.IsTupleIter i1 a (i + 1) ∧ h₁.IsTupleIter i2 b (i + 1) ∧ IsPair h₁ s.heap.objs.size u u2 ∧ h₁.objs.size = s.heap.objs.size + 1 ∧
        ∀ c o, c ≠ z → c ≠ TO → c ≠ i1 → c ≠ i2 → s.heap.get? c = some o → h₁.get? c = some o) he (fun Q' E' k => ?_) fun v h₁ h' tk hN he₁ ho hT hsz hk => ?_
    · exact nextOf_zip_item D hz hTI hTO h1 h2 p p2 (x := u) (y := u2) (by simpa using hu) (by simpa using hu2) fun h₁ a1 a2 a3 a4 a5 a6 a7 => k _ h₁ s.toks ⟨rfl, a1, a2, a3, a4, a5, a6, a7⟩ (a7 e _ ez eTO e1 e2 he)
    · obtain ⟨rfl, n1, n2, n3, n4, n5, n6, n7⟩ := hN
      have hel : e < s.heap.objs.size := lt e (by simp)
      refine ⟨_, rfl, wpAny_letOwnedTupleGo_enum (s := { s with heap := h', toks := tk + 1 }) ho fun h'' he' sb => ?_⟩
      rw [n6] at hT hsz ⊢
      have new1 : ObjOk X.prog X.w (upd H s.heap.objs.size (.tup [x, y])) h₁ s.heap.objs.size (.tup [x, y]) :=
        ⟨by show 2 ≤ sizeLine; decide, [u, u2], .cons ru (.cons ru2 .nil), ⟨_, n5, rfl, _, rfl⟩⟩
      have I1 : Inv X pins σ (upd H s.heap.objs.size (.tup [x, y])) { s with heap := h₁, toks := tk } :=
        I.turnedNew (ch := [e, z, TI, TO, i1, i2]) (fun c o hb q => n7 c o (fun q' => hb (by simp [q'])) (fun q' => hb (by simp [q'])) (fun q' => hb (by simp [q'])) (fun q' => hb (by simp [q'])) q) hf (Nat.le_refl _) new1
      have f1 : ∀ c ∈ [e], FpOk X pins (upd H s.heap.objs.size (.tup [x, y])) c := fun c hcm => by
        have q : c = e := by simpa using hcm
        subst q
        refine ⟨?_, (hf c (by simp)).2⟩
        rw [upd_ne (Nat.ne_of_lt hel)]
        exact (hf c (by simp)).1
      have nT : s.heap.objs.size + 1 ≠ e := Nat.ne_of_gt (Nat.lt_succ_of_lt hel)
      have hT2 : h''.get? (s.heap.objs.size + 1) = some { cls := .type "tuple", data := .seq #[.int i tk, .ref s.heap.objs.size] } := (sb.2 _ nT).trans hT
      have new2 : ObjOk X.prog X.w (upd (upd H s.heap.objs.size (.tup [x, y])) (s.heap.objs.size + 1) (.tup [.int (i : Nat), .ref s.heap.objs.size])) h'' (s.heap.objs.size + 1) (.tup [.int (i : Nat), .ref s.heap.objs.size]) :=
        ⟨by show 2 ≤ sizeLine; decide, [.int i tk, .ref s.heap.objs.size], .cons ⟨_, rfl⟩ (.cons rfl .nil), ⟨_, hT2, rfl, _, rfl⟩⟩
      have up : ∀ c o, c ≠ e → h₁.get? c = some o → h''.get? c = some o := fun c o hb q => (sb.2 c hb).trans (hk c o hb q)
      have I2 : Inv X pins σ (upd (upd H s.heap.objs.size (.tup [x, y])) (s.heap.objs.size + 1) (.tup [.int (i : Nat), .ref s.heap.objs.size])) { s with heap := h'', toks := tk + 1 } :=
        I1.turnedNew (t' := tk + 1) (ch := [e]) (fun c o hb q => up c o (fun q' => hb (by simp [q'])) q) f1 (Nat.le_of_eq n6) new2
      have nT2 : (upd H s.heap.objs.size (.tup [x, y])) (s.heap.objs.size + 1) = none := I1.hok.fresh (Nat.le_of_eq n6)
      refine ⟨.ref (s.heap.objs.size + 1), _, I2, rfl, ⟨_, _, x, y, rfl, I.hok.fresh (Nat.le_refl _), nT2, rfl, fun l hl => by rw [I.tuple_inj hl hqx]; exact hx, fun l hl => by rw [I.tuple_inj hl hqy]; exact hy⟩, ⟨⟨.ref s.heap.objs.size, ?_⟩, ?_, ?_, ?_, ?_, ?_⟩, fun c hcm => ?_⟩
      · rw [show ((i + 1 : Nat) : Int) = (i : Int) + 1 by omega]
        exact he'
      · exact n1.at' fun o q => up z o (Ne.symm ez) q
      · exact up _ _ (Ne.symm eTI) (n7 _ _ D.TIz D.TITO D.TIi1 D.TIi2 hTI)
      · obtain ⟨a1, b1, q⟩ := n2
        exact ⟨a1, b1, up _ _ (Ne.symm eTO) q⟩
      · exact n3.at fun o q => up i1 o (Ne.symm e1) q
      · exact n4.at fun o q => up i2 o (Ne.symm e2) q
      · have hl := lt c hcm
        rw [upd_ne (Nat.ne_of_lt (Nat.lt_succ_of_lt hl)), upd_ne (Nat.ne_of_lt hl)]
        exact (hf c hcm).1
  done := by
    intro X hP hw hK hc i pins s σ H E I hf st hg
    subst hP hw hK
    obtain ⟨⟨old, he⟩, hz, hTI, hTO, h1, h2⟩ := st
    obtain ⟨xs, ys, hqx, hqy, hend⟩ := hg
    obtain ⟨its, rv, p, _⟩ := I.tuple hqx
    obtain ⟨its2, rv2, p2, _⟩ := I.tuple hqy
    have l1 := rv.length
    have l2 := rv2.length
    have hen : its.toArray[i]? = none ∨ its2.toArray[i]? = none := by
      rcases hend with q | q
      · exact .inl (by simp; omega)
      · exact .inr (by simp; omega)
    refine enum_end (N := fun h' => ∀ c o, c ≠ z → c ≠ TO → c ≠ i1 → c ≠ i2 → s.heap.get? c = some o → h'.get? c = some o) he (fun Q' E' k => nextOf_zip_end (I.ok.hd hc) D hz hTI hTO h1 h2 p p2 hen fun h' x hx hs => k h' x hx hs) fun h' hk => ?_
    exact ⟨rfl, I.turnedL (t' := s.toks) (ch := [e, z, TI, TO, i1, i2]) (fun c o hb q => hk c o (fun q' => hb (by simp [q'])) (fun q' => hb (by simp [q'])) (fun q' => hb (by simp [q'])) (fun q' => hb (by simp [q'])) q) hf⟩
  self := fun A i s Q E st h => let ⟨⟨_, he⟩, _⟩ := st; wpAny_pyIter_enum he h
def iEnumZ (K : PySem.W.Frag) (ta : TA) : TI := fun σ H R => ta σ H fun vs H1 => ∃ a b xs ys, vs = [.ref a, .ref b] ∧ SqT K H1 a xs ∧ SqT K H1 b ys ∧ R (Itez K a b) H1
theorem pi_enumZ {X : Cx} {e1 e2 : Expr} {ta : TA} {p pz posz pos tpos : Pos} {elts : List Expr} {kk : Nat} (hg : Gl X "enumerate") (hm : X.mg "enumerate" = none) (hgz : Gl X "zip") (hmz : X.mg "zip" = none) (ha : PA X [e1, e2] ta)
    (hs : starEach [e1, e2] X.env = (false, eval e1 X.env) :: starEach [e2] X.env := by rfl) (hpl : (backTo posz (starEach [e2] X.env)).any (·.1) = false := by rfl)
    (hs1 : starEach [.Call (.Name "zip" pz) [e1, e2] [] posz] X.env = [(false, eval (.Call (.Name "zip" pz) [e1, e2] [] posz) X.env)] := by rfl) :
    PI X (.Tuple elts kk tpos) (.Call (.Name "enumerate" p) [.Call (.Name "zip" pz) [e1, e2] [] posz] [] pos) (iEnumZ X.K ta) := by
  refine ⟨fun pins s σ H R I h => ?_⟩
  refine Call_ (ld_blt I hg hm boot_enumerate (PyProof.Rows.callWith_type1 ?_ hs1 rfl))
  rw [hs1]
  show wpAny _ _ (spliced ((false, eval (.Call (.Name "zip" pz) [e1, e2] [] posz) X.env) :: backTo pos [])) _ _ s
  refine Calls.spliced_cons ?_
  refine Call_ (ld_blt I hgz hmz PyProof.Rows.boot_zip (PyProof.Rows.callWith_type1 (thn (ha.run posz pins s σ H _ I h) fun us s1 ⟨vs, H1, I1, r1, q1⟩ => ?_) hs hpl))
  obtain ⟨a, b, xs, ys, ex, hqx, hqy, q⟩ := q1
  subst ex
  cases r1 with
  | cons r rr =>
    cases rr with
    | cons r' rr =>
      cases rr
      cases r
      cases r'
      obtain ⟨its, rv, p1, _⟩ := I1.tuple hqx
      obtain ⟨its2, rv2, p2, _⟩ := I1.tuple hqy
      obtain ⟨o1, ho1, _⟩ := id p1
      obtain ⟨o2, ho2, _⟩ := id p2
      refine RZ.call_zipT (show s1.heap.IsTuple a its.toArray from p1) (show s1.heap.IsTuple b its2.toArray from p2) fun h' hz hTI hTO h1 h2 hsz hk => ?_
      refine Calls.spliced_nil ?_
      show wpAny _ _ (call (.type "enumerate") [.ref (s1.heap.objs.size + 4)]) _ _ _
      refine call_enum (it := fun _ => s1.heap.objs.size + 4) (nh := id) (H := fun h => IsZip h (s1.heap.objs.size + 4) (s1.heap.objs.size + 2) (s1.heap.objs.size + 3) .none) (fun prog w A E s Q hh k => wpAny_pyIter_zip hh k) hz fun h2' he hsz2 hk2 => ?_
      have e5 : (id h').objs.size = s1.heap.objs.size + 5 := hsz
      rw [e5] at he ⊢
      refine wpAny_pyIter_enum he ?_
      have fp : ∀ c, c ∈ [s1.heap.objs.size + 5, s1.heap.objs.size + 4, s1.heap.objs.size + 2, s1.heap.objs.size + 3, s1.heap.objs.size, s1.heap.objs.size + 1] → FpOk X pins H1 c := fun c hcm => by
        have hle : s1.heap.objs.size ≤ c := by
          rcases (show c = s1.heap.objs.size + 5 ∨ c = s1.heap.objs.size + 4 ∨ c = s1.heap.objs.size + 2 ∨ c = s1.heap.objs.size + 3 ∨ c = s1.heap.objs.size ∨ c = s1.heap.objs.size + 1 by simpa using hcm) with z | z | z | z | z | z <;> rw [z] <;> first | exact Nat.le_add_right _ _ | exact Nat.le_refl _
        exact I1.fpOk hle (I1.hok.fresh hle)
      have ne : ∀ j k : Nat, j ≠ k → s1.heap.objs.size + j ≠ s1.heap.objs.size + k := fun j k hjk z => hjk (Nat.add_left_cancel z)
      exact ⟨s1.heap.objs.size + 5, [s1.heap.objs.size + 5, s1.heap.objs.size + 4, s1.heap.objs.size + 2, s1.heap.objs.size + 3, s1.heap.objs.size, s1.heap.objs.size + 1], _, _, H1, rfl, I1.kept (t' := s1.toks) (fun c o q => hk2 c o (hk c o q)),
        turn_enumZ (PySem.W.ktu_apart s1.heap.objs.size a b (Heap.lt_size ho1) (Heap.lt_size ho2)) ⟨ne 5 4 (by decide), ne 5 2 (by decide), ne 5 3 (by decide), ne 5 0 (by decide), ne 5 1 (by decide)⟩,
        ⟨⟨.none, he⟩, .inl (hk2 _ _ hz), hk2 _ _ hTI, ⟨_, _, hk2 _ _ hTO⟩, h1.at fun o q => hk2 _ o q, h2.at fun o q => hk2 _ o q⟩, fp, q⟩
theorem walk_enumZ {K : PySem.W.Frag} {a b : Addr} {xs ys : List V} {n : Nat} (hn : n = min xs.length ys.length) : Walk (Itez K a b) n (fun H => SqT K H a xs ∧ SqT K H b ys)
    (fun i H v H' => ∃ T U x y, v = .ref U ∧ H T = none ∧ upd H T (.tup [x, y]) U = none ∧ H' = upd (upd H T (.tup [x, y])) U (.tup [.int (i : Nat), .ref T]) ∧ xs[i]? = some x ∧ ys[i]? = some y) := by
  subst hn
  refine ⟨fun i _ hi q => ?_, fun _ q => ⟨xs, ys, q.1, q.2, by omega⟩, fun i H v H' _ q y => ?_⟩
  · have h1 : i < xs.length := by omega
    have h2 : i < ys.length := by omega
    exact ⟨xs, ys, xs[i], ys[i], q.1, q.2, by simp [h1], by simp [h2]⟩
  · obtain ⟨T, U, x, z, h1, h2, h3, h4, h5, h6⟩ := y
    exact ⟨T, U, x, z, h1, h2, h3, h4, h5 xs q.1, h6 ys q.2⟩
end K2
end
section
set_option maxHeartbeats 4000000
/-! The merger's defs: the rows are checked and the merger is sound, as it is where it is made of a machine. -/
namespace K2
open PySem PySem.Spec PyProof.Rows L2
/-- a def as it is called -/
structure Cal (K : PySem.W.Frag) (mg : Str → Option Value) (x : Str) (g : Addr) (gd : FuncData) (ps : List Str) : Prop where
  m : mg x = some (.ref g)
  kp : PySem.W.keepIn K (.ref g) = true
  b : Binds K gd ps []
/-! ### rows -/
structure RowsOk (rows : List (List (Option Int))) : Prop where
  l1 : 1 ≤ rows.length
  l12 : rows.length ≤ 12
  sq : ∀ r ∈ rows, r.length = rows.length
  en : ∀ r ∈ rows, ∀ e, some e ∈ r → -1 ≤ e ∧ e < rows.length
def RowsSound (rows : List (List (Option Int))) : Prop := ∀ a b c x y, a < rows.length → b < rows.length → c < rows.length → FM.row rows a b = some x → FM.row rows b c = some y → FM.leftOf rows x c = FM.rightOf rows a y
def RowsT (H : Hp) (t : Addr) (rows : List (List (Option Int))) : Prop := ∃ us, H t = some (.tup us) ∧ Paired (RowT H) us rows
def RowsL (H : Hp) (t : Addr) (rows : List (List (Option Int))) : Prop := ∃ us, H t = some (.lst us) ∧ Paired (RowL H) us rows
theorem RowsT.same {H H' : Hp} {t : Addr} {rows : List (List (Option Int))} (s : Same H H') : RowsT H t rows → RowsT H' t rows := fun ⟨us, e, p⟩ => ⟨us, s _ _ e, Paired.mapP p fun _ _ => RowT.same s⟩
theorem RowsL.same {H H' : Hp} {t : Addr} {rows : List (List (Option Int))} (s : Same H H') : RowsL H t rows → RowsL H' t rows := fun ⟨us, e, p⟩ => ⟨us, s _ _ e, Paired.mapP p fun _ _ => RowL.same s⟩
theorem pLen {α β : Type} {F : α → β → Prop} : ∀ {xs : List α} {ys : List β}, Paired F xs ys → xs.length = ys.length
  | _, _, .nil => rfl
  | _, _, .cons _ t => congrArg (· + 1) (pLen t)
theorem row_at {rows : List (List (Option Int))} (R : RowsOk rows) {a b : Nat} (ha : a < rows.length) (hb : b < rows.length) : ∃ r, rows[a]? = some r ∧ r[b]? = some (FM.row rows a b) := by
  have h := R.sq _ (List.getElem_mem ha)
  refine ⟨rows[a], by simp [ha], ?_⟩
  unfold FM.row
  rw [List.getD_eq_getElem?_getD, List.getD_eq_getElem?_getD, List.getElem?_eq_getElem ha, Option.getD_some, List.getElem?_eq_getElem (by omega), Option.getD_some]
theorem row_end {rows : List (List (Option Int))} (R : RowsOk rows) {a b : Nat} (ha : a < rows.length) (hb : b < rows.length) {x : Int} (h : FM.row rows a b = some x) : x = -1 ∨ ∃ k : Nat, x = (k : Int) ∧ k < rows.length := by
  obtain ⟨r, h1, h2⟩ := row_at R ha hb
  rw [h] at h2
  have := R.en r (List.mem_of_getElem? h1) x (List.mem_of_getElem? h2)
  by_cases e : x = -1
  · exact .inl e
  · exact .inr ⟨x.toNat, by omega, by omega⟩
/-- a place of the rows -/
theorem RowsT.at {H : Hp} {t : Addr} {rows : List (List (Option Int))} (h : RowsT H t rows) (R : RowsOk rows) {a b : Nat} (ha : a < rows.length) (hb : b < rows.length) :
    ∃ us p vs, H t = some (.tup us) ∧ atI us (a : Int) = some (.ref p) ∧ H p = some (.tup vs) ∧ atI vs (b : Int) = some (oV (FM.row rows a b)) := by
  obtain ⟨us, e, p⟩ := h
  obtain ⟨r, h1, h2⟩ := row_at R ha hb
  obtain ⟨u, hu, q, rfl, hq⟩ := pAt p h1
  exact ⟨us, q, _, e, atI_nat hu, hq, atI_nat (by rw [List.getElem?_map, h2]; rfl)⟩
theorem sqT {K : PySem.W.Frag} {H : Hp} {a : Addr} {xs : List V} (h : H a = some (.tup xs)) : SqT K H a xs := .inl (.inl h)
theorem sqL {K : PySem.W.Frag} {H : Hp} {a : Addr} {xs : List V} (h : H a = some (.lst xs)) : SqL K H a xs := .inl (.inl h)
theorem small100 {n : Nat} (h : n ≤ 100) : n < sizeLine := by rw [sizeLine_eq]; omega
theorem small1K {n : Nat} (h : n ≤ 1000) : n < sizeLine := by rw [sizeLine_eq]; omega
/-- list(x), tuple(x) -/
def rTupOf (K : PySem.W.Frag) : List V → Hp → VK → Prop := fun xs H Q => ∃ p ys, xs = [.ref p] ∧ ((SqL K H p ys ∧ ∀ l, H l = none → Q (.ref l) (upd H l (.tup ys))) ∨ (SqT K H p ys ∧ Q (.ref p) H))
theorem call_tupOf {X : Cx} : CallR X (.type "tuple") (rTupOf X.K) := call_tuple_of
def rListOf (K : PySem.W.Frag) : List V → Hp → VK → Prop := fun xs H Q => ∃ p ys, xs = [.ref p] ∧ (SqL K H p ys ∨ SqT K H p ys) ∧ ∀ l, H l = none → Q (.ref l) (upd H l (.lst ys))
theorem call_listOf {X : Cx} : CallR X (.type "list") (rListOf X.K) := call_list_of
def rLenOf (K : PySem.W.Frag) : List V → Hp → VK → Prop := fun xs H Q => ∃ x n, xs = [x] ∧ LenV K x H n ∧ Q (.int (n : Nat)) H
theorem call_lenOf {X : Cx} : CallR X (.builtin "len") (rLenOf X.K) := call_len
theorem iteP {c A B : Prop} [Decidable c] (h : c) (a : A) : if c then A else B := by rw [if_pos h]; exact a
theorem iteN {c A B : Prop} [Decidable c] (h : ¬ c) (b : B) : if c then A else B := by rw [if_neg h]; exact b
theorem int_ne_non {i : Int} : ¬ decide (V.int i = V.non) = true := fun z => nomatch (of_decide_eq_true z)
theorem int_dec {i j : Int} (h : i = j) : decide (V.int i = V.int j) = true := decide_eq_true (by rw [h])
theorem int_ndec {i j : Int} (h : i ≠ j) : ¬ decide (V.int i = V.int j) = true := fun z => h (by injection (of_decide_eq_true z))
theorem left_gone (rows : List (List (Option Int))) (c : Nat) : FM.leftOf rows (-1) c = some (c : Int) := by unfold FM.leftOf; rw [if_pos rfl]
theorem left_at (rows : List (List (Option Int))) (k c : Nat) : FM.leftOf rows (k : Int) c = FM.row rows k c := by unfold FM.leftOf; rw [if_neg (by omega), Int.toNat_natCast]
theorem right_gone (rows : List (List (Option Int))) (a : Nat) : FM.rightOf rows a (-1) = some (a : Int) := by unfold FM.rightOf; rw [if_pos rfl]
theorem right_at (rows : List (List (Option Int))) (a k : Nat) : FM.rightOf rows a (k : Int) = FM.row rows a k := by unfold FM.rightOf; rw [if_neg (by omega), Int.toNat_natCast]
theorem nVs_at {n i : Nat} (h : i < n) : ((List.range n).map nV)[i]? = some (nV i) := by simp [h]
theorem rgV_nV (n : Nat) : rgV 0 (n : Int) = (List.range n).map nV := by
  unfold rgV
  rw [show ((n : Int) - 0).toNat = n by omega]
  refine List.map_congr_left fun i _ => ?_
  show V.int (0 + (i : Int)) = .int (i : Int)
  rw [Int.zero_add]
theorem rgOk {n : Nat} (h : n ≤ 1000000) : RgOk 0 (n : Int) := .of_le (by omega) (by omega) (by omega) (by omega)
theorem oV_ne {o : Option Int} : ¬ (!decide (oV o = oV o)) = true := by simp
/-! ### promises -/
def isEnd (m : Int) : V → Prop
  | .non => True
  | .int i => -1 ≤ i ∧ i < m
  | _ => False
def spIsEnd : Sp := fun vs H Q _ => ∃ v m, vs = [v, .int m] ∧ isEnd m v ∧ Q (.bl true) H
def spCheckRows : Sp := fun vs H Q _ => ∃ a rows, vs = [.ref a] ∧ RowsL H a rows ∧ RowsOk rows ∧ ∀ H' t, Same H H' → RowsT H' t rows → Q (.ref t) H'
/-- what ends_of tells -/
def endsV (rows : List (List (Option Int))) (a b c : Nat) : Option (Option Int × Option Int) := match FM.row rows a b, FM.row rows b c with
  | some x, some y => some (FM.leftOf rows x c, FM.rightOf rows a y)
  | _, _ => none
def spEndsOf : Sp := fun vs H Q _ => ∃ t rows, ∃ a b c : Nat, vs = [.ref t, nV a, nV b, nV c] ∧ RowsT H t rows ∧ RowsOk rows ∧ a < rows.length ∧ b < rows.length ∧ c < rows.length ∧
  (endsV rows a b c = none → Q .non H) ∧ (∀ l r, endsV rows a b c = some (l, r) → ∀ p, H p = none → Q (.ref p) (upd H p (.tup [oV l, oV r])))
def spUnsoundThree : Sp := fun vs H Q _ => ∃ t rows, vs = [.ref t] ∧ RowsT H t rows ∧ RowsOk rows ∧ RowsSound rows ∧ ∀ H', Same H H' → Q .non H'
section
variable {P : Program} {w : World} {K : PySem.W.Frag} {mg : Str → Option Value} {base : Heap} {f g h : Addr} {fd gd hd : FuncData}
theorem scIsEnd : FnScope ["value", "many"] ["value", "many"] (defScope sIsEnd) := ⟨rfl, rfl, rfl, by decide +kernel, rfl, by decide +kernel, by decide +kernel⟩
theorem ok_is_end {tk : Tok} (F : Fn K "is_end" sIsEnd f fd) (G : FnOk P w K mg base CX0 1 g gd ["value"] (spIsInteger K)) (C : Cal K mg "is_integer" g gd ["value"]) (mN : mg "GONE" = some (.int (-1) tk)) :
    FnOk P w K mg base CX0 2 f fd ["value", "many"] spIsEnd := by
  refine F.ok scIsEnd (fun vs H Q E h => ?_) (fun cdv A outer s H vs Q E hr h => ?_)
  · obtain ⟨v, m, rfl, _⟩ := h
    rfl
  · obtain ⟨v, m, rfl, k, q⟩ := h
    refine ⟨_, (pss_one (ps_ret (pe_or (pe_cmp (pc_isN (pv 0)) rfl) (pe_one (pe_and (pe_call G (hr.mono (by decide)) (by rfl) C.m C.kp C.b .nil pass0 (pa_cons (pv 0) pa_nil)) (pe_one (pe_chain op_le op_lt (pe_glob (by rfl) mN (v := (.int (-1))) ⟨_, rfl⟩) (pv 0) (pv 1)))))))), ?_⟩
    cases v with
    | non => exact ⟨_, rfl, true, rfl, iteT q⟩
    | int i =>
      refine ⟨_, rfl, false, rfl, iteF ?_⟩
      refine ⟨_, rfl, .int i, rfl, .int i, true, rfl, iteT ?_⟩
      refine ⟨_, rfl, _, _, rfl, rfl, _, rfl, ?_⟩
      rw [decide_eq_true k.1]
      refine iteT ⟨_, rfl, _, _, rfl, rfl, ?_⟩
      show Q (.bl (decide (i < m))) H
      rw [decide_eq_true k.2]
      exact q
    | _ => exact False.elim k
theorem scCheckRows : FnScope ["rows", "at", "row", "end"] ["rows"] (defScope sCheckRows) := ⟨rfl, rfl, rfl, by decide +kernel, rfl, by decide +kernel, by decide +kernel⟩
theorem ok_check_rows {tk : Tok} (F : Fn K "check_rows" sCheckRows f fd) (B : Blt mg) (G : FnOk P w K mg base CX0 1 g gd ["value"] (spIsSequence K)) (C : Cal K mg "is_sequence" g gd ["value"])
    (GE : FnOk P w K mg base CX0 2 h hd ["value", "many"] spIsEnd) (CE : Cal K mg "is_end" h hd ["value", "many"]) (mM : mg "MOST_COMMANDS" = some (.int 12 tk)) :
    FnOk P w K mg base CX0 3 f fd ["rows"] spCheckRows := by
  refine F.ok scCheckRows (fun vs H Q E h => ?_) (fun cdv A outer s H vs Q E hr h => ?_)
  · obtain ⟨a, rows, rfl, _⟩ := h
    rfl
  · obtain ⟨a, rows, rfl, hR, R, q⟩ := h
    refine ⟨_, PSs.nox (pss_cons (ps_if (PW.pt (pw_or (pt_not (pt_val (pe_call G (hr.mono (by decide)) (by rfl) C.m C.kp C.b .nil pass0 (pa_cons (pv 0) pa_nil)))) (pw_or1 (pt_not (pt_chain op_le op_le (pe_int) (pe_callB (r := rLenOf K) call_lenOf (by rfl) B.len PySem.boot_len (pa_cons (pv 0) pa_nil)) (pe_glob (by rfl) mM (v := (.int 12)) ⟨_, rfl⟩)))))) (pss_one ps_never) pss_nil)
(pss_cons (ps_for PassesOwn.never rfl (pi_enumS (by rfl) B.enum (pa_cons (pv 0) pa_nil)) (pg_tup rfl (pgs_cons (pg_name (i := 1) scCheckRows.nd rfl (Or.inl rfl)) (pgs_cons (pg_name (i := 2) scCheckRows.nd rfl (Or.inl rfl)) pgs_nil)))
(pss_one (ps_if (PW.pt (pw_or (pt_not (pt_val (pe_call G (hr.mono (by decide)) (by rfl) C.m C.kp C.b .nil pass0 (pa_cons (pv 2) pa_nil)))) (pw_or (pt_cmpR op_ne (pe_callB (r := rLenOf K) call_lenOf (by rfl) B.len PySem.boot_len (pa_cons (pv 2) pa_nil)) (pe_callB (r := rLenOf K) call_lenOf (by rfl) B.len PySem.boot_len (pa_cons (pv 0) pa_nil)) (nomark _)) (pw_or1 (pt_not (pt_val (pe_callB (cr_all rfl) (by rfl) B.all (by decide +kernel) (pa_cons (pe_lc (own := [("end", 3)]) (g := gName 3) (tt := tYes) rfl scCheckRows.nd (pi_list (pv 2)) (blkOk_by (own := [("end", 3)]) (N := ["rows", "at", "row", "end"]) (sc := defScope sCheckRows) (by decide +kernel))
  (fun _ _ _ _ _ => (pg_name (i := 3) scCheckRows.nd rfl (by first | exact Or.inl rfl | exact Or.inr rfl))) (fun _ _ _ _ _ => pts_nil)
  (fun _ _ _ _ _ => (pe_call GE (hr.mono (by decide)) (by rfl) CE.m CE.kp CE.b .nil pass0 (pa_cons (pv 3) (pa_cons (pe_callB (r := rLenOf K) call_lenOf (by rfl) B.len PySem.boot_len (pa_cons (pv 0) pa_nil)) pa_nil))))) pa_nil)))))))) (pss_one ps_never) pss_nil)))
(pss_one (ps_ret (pe_callTy (T := "tuple") (r := rTupOf K) call_tupOf (by rfl) B.tuple (by decide +kernel) (pa_cons (pe_lc (own := [("row", 2)]) (g := gName 2) (tt := tYes) rfl scCheckRows.nd (pi_list (pv 0)) (blkOk_by (own := [("row", 2)]) (N := ["rows", "at", "row", "end"]) (sc := defScope sCheckRows) (by decide +kernel))
  (fun _ _ _ _ _ => (pg_name (i := 2) scCheckRows.nd rfl (by first | exact Or.inl rfl | exact Or.inr rfl))) (fun _ _ _ _ _ => pts_nil)
  (fun _ _ _ _ _ => (pe_callTy (T := "tuple") (r := rTupOf K) call_tupOf (by rfl) B.tuple (by decide +kernel) (pa_cons (pv 2) pa_nil)))) pa_nil)))))), ?_⟩
    have hR' := hR
    obtain ⟨us, eA, pU⟩ := hR
    have nl : us.length = rows.length := pLen pU
    have l1 := R.l1
    have l12 := R.l12
    refine ⟨_, rfl, .ref a, rfl, .lst (sqL eA), fun H1 s1 => ⟨_, rfl, iteF ?_⟩⟩
    refine ⟨_, rfl, .ref a, _, rfl, .inl ⟨_, sqL (s1 _ _ eA), rfl⟩, _, _, rfl, rfl, _, rfl, ?_⟩
    rw [show decide ((1 : Int) ≤ ((us.length : Nat) : Int)) = true from decide_eq_true (by omega)]
    refine iteT ⟨_, _, rfl, rfl, _, rfl, ?_⟩
    show if (!decide (((us.length : Nat) : Int) ≤ 12)) = true then _ else _
    refine iteNS (by omega) ?_
    refine ⟨_, rfl, a, false, us, rfl, sqL (s1 _ _ eA), for_it walk_enumS (fun i σ H' => ∃ y1 y2, σ = [some (.ref a), y1, y2, none] ∧ Same H H') ⟨_, _, rfl, s1⟩ (fun i σ H' _ ⟨_, _, _, s2⟩ => sqL (s2 _ _ eA)) ?_ ?_⟩
    · intro i v σ H2 H3 hi hP hY
      obtain ⟨y1, y2, rfl, s2⟩ := hP
      obtain ⟨T, x, y, rfl, nT, rfl, f1, f2⟩ := hY
      cases f1
      have hi' : i < rows.length := by omega
      obtain ⟨r, hr1, p, rfl, ep⟩ := pAt2 pU f2
      have rm := List.mem_of_getElem? hr1
      have rl := R.sq r rm
      have s3 : Same H (upd H2 T (.tup [.int (i : Nat), .ref p])) := s2.trans (Same.new nT)
      refine ⟨T, _, rfl, sqT upd_same, rfl, _, _, rfl, _, _, rfl, rfl, ?_⟩
      refine ⟨_, rfl, .ref p, rfl, .lst (sqL (s3 _ _ ep)), fun H4 s4' => ⟨_, rfl, iteF ?_⟩⟩
      have s4 := s3.trans s4'
      refine ⟨_, rfl, .ref p, _, rfl, .inl ⟨_, sqL (s4 _ _ ep), rfl⟩, _, rfl, .ref a, _, rfl, .inl ⟨_, sqL (s4 _ _ eA), rfl⟩, rfl, _, rfl, iteNS (by rw [List.length_map, rl, nl]) ?_⟩
      refine ⟨_, rfl, p, rfl, ⟨_, sqL (s4 _ _ ep)⟩, fun D nD => lc_list (xs := r.map oV) (fun j H' => Same H H' ∧ H' D = some (.lst (List.replicate j (.bl true)))) ⟨s4.trans (Same.new nD), upd_same⟩ (fun j H' _ ⟨s5, _⟩ => sqL (s5 _ _ ep)) ?_ ?_⟩
      · intro j x H' hx ⟨s5, eD⟩
        have nD' : H D = none := s4.free nD
        refine ⟨rfl, ⟨_, rfl, _, rfl, .ref a, _, rfl, .inl ⟨_, sqL (s5 _ _ eA), rfl⟩, x, _, rfl, ?_, _, eD, ?_, ?_, ?_⟩⟩
        · rw [List.getElem?_map] at hx
          obtain ⟨o, ho, rfl⟩ := Option.map_eq_some_iff.mp hx
          cases o with
          | none => trivial
          | some e =>
            have := R.en r rm e (List.mem_of_getElem? ho)
            show -1 ≤ e ∧ e < ((us.length : Nat) : Int)
            omega
        · rw [List.length_replicate]
          have := (List.getElem?_eq_some_iff.mp hx).1
          rw [List.length_map] at this
          exact small100 (by omega)
        · exact fun b o e => by rw [upd_ne (ne_of_none e nD')]; exact s5 _ _ e
        · rw [upd_same, List.replicate_succ', ]
      · intro H' ⟨s5, eD⟩
        refine ⟨D, List.replicate (r.map oV).length true, rfl, sqL (by rw [eD, List.map_replicate]), _, rfl, ?_⟩
        rw [show (List.replicate (r.map oV).length true).all id = true by simp]
        exact iteF ⟨_, _, rfl, s5⟩
    · intro σ H2 ⟨y1, y2, e, s2⟩
      subst e
      refine ⟨_, rfl, a, rfl, ⟨_, sqL (s2 _ _ eA)⟩, fun D nD => lc_list (xs := us) (fun j H' => Same H H' ∧ ∃ ts, H' D = some (.lst ts) ∧ Paired (RowT H') ts (rows.take j)) ⟨s2.trans (Same.new nD), [], upd_same, .nil⟩ (fun j H' _ ⟨s5, _⟩ => sqL (s5 _ _ eA)) ?_ ?_⟩
      · intro j x H' hx ⟨s5, ts, eD, pT⟩
        have nD' : H D = none := s2.free nD
        obtain ⟨r, hr1, p, rfl, ep⟩ := pAt2 pU hx
        have hj : j < us.length := (List.getElem?_eq_some_iff.mp hx).1
        have tl := pLen pT
        refine ⟨rfl, ⟨_, rfl, p, _, rfl, .inl ⟨sqL (s5 _ _ ep), fun l nl2 => ⟨ts, ?_, ?_, ?_, ts ++ [.ref l], upd_same, ?_⟩⟩⟩⟩
        · rw [upd_ne (ne_of_none eD nl2)]
          exact eD
        · rw [tl, List.length_take]
          exact small100 (by omega)
        · intro b o e
          rw [upd_ne (ne_of_none e nD')]
          exact Same.new nl2 _ _ (s5 _ _ e)
        · rw [List.take_add_one, hr1]
          have lD : l ≠ D := fun z => by rw [z, eD] at nl2; cases nl2
          refine pSnoc ⟨l, rfl, by rw [upd_ne lD, upd_same]⟩ (Paired.mapP pT fun v r' ⟨t, e1, e2⟩ => ⟨t, e1, ?_⟩)
          have tD : t ≠ D := fun z => by rw [z, eD] at e2; cases e2
          rw [upd_ne tD]
          exact Same.new nl2 _ _ e2
      · intro H' ⟨s5, ts, eD, pT⟩
        refine ⟨D, ts, rfl, .inl ⟨sqL eD, fun l nl2 => q _ l (s5.trans (Same.new nl2)) ⟨ts, upd_same, ?_⟩⟩⟩
        rw [nl, List.take_length] at pT
        exact Paired.mapP pT fun _ _ => RowT.same (Same.new nl2)
theorem scEndsOf : FnScope ["rows", "one", "middle", "other", "ahead", "behind", "left", "right"] ["rows", "one", "middle", "other"] (defScope sEndsOf) := ⟨rfl, rfl, rfl, by decide +kernel, rfl, by decide +kernel, by decide +kernel⟩
theorem ok_ends_of {tk : Tok} (F : Fn K "ends_of" sEndsOf f fd) (mN : mg "GONE" = some (.int (-1) tk)) : FnOk P w K mg base CX0 1 f fd ["rows", "one", "middle", "other"] spEndsOf := by
  refine F.ok scEndsOf (fun vs H Q E h => ?_) (fun cdv A outer s H vs Q E hr h => ?_)
  · obtain ⟨t, rows, a, b, c, rfl, _⟩ := h
    rfl
  · obtain ⟨t, rows, a, b, c, rfl, hR, R, ha, hb, hc, q1, q2⟩ := h
    refine ⟨_, PSs.nox (pss_cons (ps_par (i := 4) (j := 5) (by rfl) scEndsOf.nd rfl rfl (by decide) rfl rfl (pa_cons (pe_ix (r := rIxT K) ix_tup (pe_ix (r := rIxT K) ix_tup (pv 0) (pv 1) (fun _ _ => rfl)) (pv 2) (fun _ _ => rfl)) (pa_cons (pe_ix (r := rIxT K) ix_tup (pe_ix (r := rIxT K) ix_tup (pv 0) (pv 2) (fun _ _ => rfl)) (pv 3) (fun _ _ => rfl)) pa_nil)) (by rfl))
(pss_cons (ps_if (PW.pt (pw_or (pt_cmpR op_isN (pv 4) pe_non (nomark _)) (pw_or1 (pt_cmpR op_isN (pv 5) pe_non (nomark _))))) (pss_one (ps_ret (pe_non))) pss_nil)
(pss_cons (ps_set (i := 6) scEndsOf.nd rfl (Or.inl rfl) (pe_ifExp (pt_cmpR op_eq (pv 4) (pe_glob (by rfl) mN (v := (.int (-1))) ⟨_, rfl⟩) (nomark _)) (pv 3) (pe_ix (r := rIxT K) ix_tup (pe_ix (r := rIxT K) ix_tup (pv 0) (pv 4) (fun _ _ => rfl)) (pv 3) (fun _ _ => rfl))))
(pss_cons (ps_set (i := 7) scEndsOf.nd rfl (Or.inl rfl) (pe_ifExp (pt_cmpR op_eq (pv 5) (pe_glob (by rfl) mN (v := (.int (-1))) ⟨_, rfl⟩) (nomark _)) (pv 1) (pe_ix (r := rIxT K) ix_tup (pe_ix (r := rIxT K) ix_tup (pv 0) (pv 1) (fun _ _ => rfl)) (pv 5) (fun _ _ => rfl))))
(pss_one (ps_ret (pe_tup (pa_cons (pv 6) (pa_cons (pv 7) pa_nil))))))))), ?_⟩
    obtain ⟨us, p, vs, e1, i1, e2, i2⟩ := hR.at R ha hb
    obtain ⟨us', p', vs', e1', i1', e2', i2'⟩ := hR.at R hb hc
    refine ⟨_, rfl, _, rfl, t, us, _, _, rfl, rfl, sqT e1, i1, _, rfl, p, vs, _, _, rfl, rfl, sqT e2, i2, _, rfl, _, rfl, t, us', _, _, rfl, rfl, sqT e1', i1', _, rfl, p', vs', _, _, rfl, rfl, sqT e2', i2', _, _, rfl, ?_⟩
    rcases h1 : FM.row rows a b with _ | x
    · refine ⟨_, rfl, rfl, _, rfl, iteP (decide_eq_true (by first | rw [h1]; rfl | rfl)) (iteP rfl ?_)⟩
      exact q1 (by unfold endsV; rw [h1])
    · refine ⟨_, rfl, rfl, _, rfl, iteN (by first | rw [h1]; exact int_ne_non | exact int_ne_non) ?_⟩
      rcases h2 : FM.row rows b c with _ | y
      · refine ⟨_, rfl, rfl, _, rfl, iteP (decide_eq_true (by first | rw [h2]; rfl | rfl)) ?_⟩
        exact q1 (by unfold endsV; rw [h1, h2])
      · refine ⟨_, rfl, rfl, _, rfl, iteN (by first | rw [h2]; exact int_ne_non | exact int_ne_non) ?_⟩
        have q3 := q2 _ _ (show endsV rows a b c = some (FM.leftOf rows x c, FM.rightOf rows a y) by unfold endsV; rw [h1, h2])
        rcases row_end R ha hb h1 with rfl | ⟨k, rfl, hk⟩
        · rw [left_gone] at q3
          refine ⟨_, rfl, rfl, _, rfl, iteP (by first | rw [h1]; exact int_dec rfl | exact int_dec rfl) ⟨_, rfl, ?_⟩⟩
          rcases row_end R hb hc h2 with rfl | ⟨m, rfl, hm⟩
          · rw [right_gone] at q3
            refine ⟨_, rfl, rfl, _, rfl, iteP (by first | rw [h2]; exact int_dec rfl | exact int_dec rfl) ⟨_, rfl, _, rfl, _, rfl, (by show 2 ≤ sizeLine; decide), fun p np => q3 p np⟩⟩
          · rw [right_at] at q3
            obtain ⟨us5, p5, vs5, e5, j5, e6, j6⟩ := hR.at R ha hm
            refine ⟨_, rfl, rfl, _, rfl, iteN (by first | rw [h2]; exact int_ndec (by omega) | exact int_ndec (by omega)) ⟨_, rfl, _, rfl, t, us5, _, _, rfl, rfl, sqT e5, j5, _, rfl, p5, vs5, _, _, rfl, rfl, sqT e6, j6, _, rfl, _, rfl, (by show 2 ≤ sizeLine; decide), fun p np => q3 p np⟩⟩
        · rw [left_at] at q3
          obtain ⟨us3, p3, vs3, e3, j3, e4, j4⟩ := hR.at R hk hc
          refine ⟨_, rfl, rfl, _, rfl, iteN (by first | rw [h1]; exact int_ndec (by omega) | exact int_ndec (by omega)) ⟨_, rfl, _, rfl, t, us3, _, _, rfl, rfl, sqT e3, j3, _, rfl, p3, vs3, _, _, rfl, rfl, sqT e4, j4, ?_⟩⟩
          rcases row_end R hb hc h2 with rfl | ⟨m, rfl, hm⟩
          · rw [right_gone] at q3
            refine ⟨_, rfl, rfl, _, rfl, iteP (by first | rw [h2]; exact int_dec rfl | exact int_dec rfl) ⟨_, rfl, _, rfl, _, rfl, (by show 2 ≤ sizeLine; decide), fun p np => q3 p np⟩⟩
          · rw [right_at] at q3
            obtain ⟨us5, p5, vs5, e5, j5, e6, j6⟩ := hR.at R ha hm
            refine ⟨_, rfl, rfl, _, rfl, iteN (by first | rw [h2]; exact int_ndec (by omega) | exact int_ndec (by omega)) ⟨_, rfl, _, rfl, t, us5, _, _, rfl, rfl, sqT e5, j5, _, rfl, p5, vs5, _, _, rfl, rfl, sqT e6, j6, _, rfl, _, rfl, (by show 2 ≤ sizeLine; decide), fun p np => q3 p np⟩⟩
theorem scUnsoundThree : FnScope ["rows", "commands", "one", "middle", "other", "ends"] ["rows"] (defScope sUnsoundThree) := ⟨rfl, rfl, rfl, by decide +kernel, rfl, by decide +kernel, by decide +kernel⟩
theorem ok_unsound_three (F : Fn K "unsound_three" sUnsoundThree f fd) (B : Blt mg) (G : FnOk P w K mg base CX0 1 g gd ["rows", "one", "middle", "other"] spEndsOf) (C : Cal K mg "ends_of" g gd ["rows", "one", "middle", "other"]) :
    FnOk P w K mg base CX0 2 f fd ["rows"] spUnsoundThree := by
  refine F.ok scUnsoundThree (fun vs H Q E h => ?_) (fun cdv A outer s H vs Q E hr h => ?_)
  · obtain ⟨t, rows, rfl, _⟩ := h
    rfl
  · obtain ⟨t, rows, rfl, hR, R, S, q⟩ := h
    refine ⟨_, PSs.nox (pss_cons (ps_set (i := 1) scUnsoundThree.nd rfl (Or.inl rfl) (pe_listRg rfl (by rfl) B.list (prg_1 (by rfl) B.range (pe_callB (r := rLenOf K) call_lenOf (by rfl) B.len PySem.boot_len (pa_cons (pv 0) pa_nil)))))
(pss_cons (ps_for PassesOwn.never rfl (pi_list (pv 1)) (pg_name (i := 2) scUnsoundThree.nd rfl (Or.inl rfl))
(pss_one (ps_for PassesOwn.never rfl (pi_list (pv 1)) (pg_name (i := 3) scUnsoundThree.nd rfl (Or.inl rfl))
(pss_one (ps_for PassesOwn.never rfl (pi_list (pv 1)) (pg_name (i := 4) scUnsoundThree.nd rfl (Or.inl rfl))
(pss_cons (ps_set (i := 5) scUnsoundThree.nd rfl (Or.inl rfl) (pe_call G (hr.mono (by decide)) (by rfl) C.m C.kp C.b .nil pass0 (pa_cons (pv 0) (pa_cons (pv 2) (pa_cons (pv 3) (pa_cons (pv 4) pa_nil))))))
(pss_one (ps_if (PW.pt (pw_and (pt_cmpR op_notN (pv 5) pe_non (nomark _)) (pw_and1 (pt_cmpR op_ne (pe_ix (r := rIxT K) ix_tup (pv 5) (pe_int) (fun _ _ => rfl)) (pe_ix (r := rIxT K) ix_tup (pv 5) (pe_int) (fun _ _ => rfl)) (nomark _))))) (pss_one (ps_ret (pe_tup (pa_cons (pv 2) (pa_cons (pv 3) (pa_cons (pv 4) pa_nil)))))) pss_nil))))))))
(pss_one (ps_ret (pe_non))))), ?_⟩
    have hR' := hR
    obtain ⟨us, eT, pU⟩ := hR'
    have nl := pLen pU
    have l12 := R.l12
    refine ⟨_, rfl, .ref t, us.length, rfl, .inr ⟨_, sqT eT, rfl⟩, _, rfl, rgOk (by omega), fun c nc => ?_⟩
    rw [rgV_nV]
    have s1 : Same H (upd H c (.lst ((List.range us.length).map nV))) := Same.new nc
    have hlen : ((List.range us.length).map nV).length = rows.length := by simp [nl]
    have item : ∀ {i : Nat} {x : V}, ((List.range us.length).map nV)[i]? = some x → x = nV i ∧ i < rows.length := fun {i x} hx => by
      have h1 := (List.getElem?_eq_some_iff.mp hx).1
      rw [hlen] at h1
      rw [nVs_at (by omega)] at hx
      exact ⟨(Option.some.inj hx).symm, h1⟩
    refine ⟨_, rfl, c, rfl, ⟨_, sqL upd_same⟩, for_list (fun i σ H' => ∃ y2 y3 y4 y5, σ = [some (.ref t), some (.ref c), y2, y3, y4, y5] ∧ Same H H' ∧ H' c = some (.lst ((List.range us.length).map nV))) ⟨_, _, _, _, rfl, s1, upd_same⟩ (fun i σ H' _ ⟨_, _, _, _, _, _, e⟩ => sqL e) ?_ ?_⟩
    · intro i x σ H1 hx hP
      obtain ⟨y2, y3, y4, y5, rfl, s2, ec⟩ := hP
      obtain ⟨rfl, hi⟩ := item hx
      refine ⟨_, rfl, c, rfl, ⟨_, sqL ec⟩, for_list (fun j σ H' => ∃ y3 y4 y5, σ = [some (.ref t), some (.ref c), some (nV i), y3, y4, y5] ∧ Same H H' ∧ H' c = some (.lst ((List.range us.length).map nV))) ⟨_, _, _, rfl, s2, ec⟩ (fun i σ H' _ ⟨_, _, _, _, _, e⟩ => sqL e) ?_ fun σ H2 ⟨y3, y4, y5, e, s3, ec⟩ => ⟨_, _, _, _, e, s3, ec⟩⟩
      intro j x σ H2 hx hP
      obtain ⟨y3, y4, y5, rfl, s3, ec⟩ := hP
      obtain ⟨rfl, hj⟩ := item hx
      refine ⟨_, rfl, c, rfl, ⟨_, sqL ec⟩, for_list (fun k σ H' => ∃ y4 y5, σ = [some (.ref t), some (.ref c), some (nV i), some (nV j), y4, y5] ∧ Same H H' ∧ H' c = some (.lst ((List.range us.length).map nV))) ⟨_, _, rfl, s3, ec⟩ (fun i σ H' _ ⟨_, _, _, _, e⟩ => sqL e) ?_ fun σ H3 ⟨y4, y5, e, s4, ec⟩ => ⟨_, _, _, e, s4, ec⟩⟩
      intro k x σ H3 hx hP
      obtain ⟨y4, y5, rfl, s4, ec⟩ := hP
      obtain ⟨rfl, hk⟩ := item hx
      refine ⟨_, rfl, _, rfl, _, rfl, _, rfl, t, rows, i, j, k, rfl, hR.same s4, R, hi, hj, hk, fun _ => ?_, fun l r he p np => ?_⟩
      · refine ⟨_, rfl, rfl, _, rfl, iteN (by simp) ?_⟩
        exact ⟨_, _, rfl, s4, ec⟩
      · have s5 : Same H3 (upd H3 p (.tup [oV l, oV r])) := Same.new np
        have lr : l = r := by
          unfold endsV at he
          split at he
          · rename_i x y h1 h2
            obtain ⟨rfl, rfl⟩ := Prod.mk.inj (Option.some.inj he)
            exact S i j k x y hi hj hk h1 h2
          · cases he
        subst lr
        refine ⟨_, rfl, rfl, _, rfl, iteP (by simp) ?_⟩
        refine ⟨_, rfl, p, _, _, _, rfl, rfl, sqT upd_same, atI_nat (j := 0) rfl, _, rfl, p, _, _, _, rfl, rfl, sqT upd_same, atI_nat (j := 1) rfl, by cases l <;> rfl, _, rfl, iteN oV_ne ?_⟩
        exact ⟨_, _, rfl, s4.trans s5, s5 _ _ ec⟩
    · intro σ H1 ⟨y2, y3, y4, y5, e, s2, ec⟩
      exact q _ s2
end
end K2
end
section
set_option maxHeartbeats 4000000
/-! The merger's defs, continued: Merger, merged, the queues. -/
namespace K2
open PySem PySem.Spec PyProof.Rows L2
/-! ### slices and sums of tuples -/
theorem cut_from (xs : List V) (k : Nat) : cutV xs (some (k : Int)) none = xs.drop k := by
  unfold cutV
  rw [HT.sIx_nat, HT.sIx_none]
  by_cases h : k ≤ xs.length
  · rw [Nat.min_eq_left h, List.take_of_length_le (by simp)]
  · rw [Nat.min_eq_right (by omega), List.drop_of_length_le (Nat.le_refl _), List.drop_of_length_le (by omega)]
    simp
theorem cut_to (xs : List V) (k : Nat) : cutV xs none (some (k : Int)) = xs.take k := by
  unfold cutV
  rw [HT.sIx_nat, HT.sIx_none, List.drop_zero, Nat.sub_zero]
  by_cases h : k ≤ xs.length
  · rw [Nat.min_eq_left h]
  · rw [Nat.min_eq_right (by omega), List.take_length, List.take_of_length_le (by omega)]
theorem cut_but (xs : List V) : cutV xs none (some (-1)) = xs.take (xs.length - 1) := by
  unfold cutV
  rw [HT.sIx_none, List.drop_zero, Nat.sub_zero]
  rw [show HT.sIx xs.length xs.length (some (-1)) = xs.length - 1 by
    show (if (-1 : Int) < 0 then ((-1 : Int) + (xs.length : Int)).toNat else min (-1 : Int).toNat xs.length) = _
    rw [if_pos (by omega)]
    omega]
theorem rSlA_mk {K : PySem.W.Frag} {a : Addr} {xs : List V} {lo hi : Option Int} {H : Hp} {Q : VK} (h : H a = some (.tup xs)) (q : ∀ p H', Same H H' → H' p = some (.tup (cutV xs lo hi)) → Q (.ref p) H') : rSlA K (.ref a) lo hi H Q := by
  refine ⟨a, xs, rfl, sqT h, fun hf => q a H (Same.refl H) ?_, fun _ p np => q p _ (Same.new np) upd_same⟩
  rw [h, cutV, hf.1, hf.2, List.drop_zero, Nat.sub_zero, List.take_length]
theorem slNo {K : PySem.W.Frag} {a : Addr} {xs : List V} {lo : Option Int} {H : Hp} {Q : VK} {σ : L2.St} (h : H a = some (.tup xs)) (q : ∀ p H', Same H H' → H' p = some (.tup (cutV xs lo none)) → Q (.ref p) H') : tNoPart σ H (fun u H3 => rSlA K (.ref a) lo u H3 Q) := rSlA_mk h q
theorem rCatA_mk {K : PySem.W.Frag} {a b : Addr} {xs ys : List V} {H : Hp} {Q : VK} (h : H a = some (.tup xs)) (h2 : H b = some (.tup ys)) (hl : xs.length + ys.length ≤ sizeLine) (q : ∀ p H', Same H H' → H' p = some (.tup (xs ++ ys)) → Q (.ref p) H') : rCatA K (.ref a) (.ref b) H Q := by
  refine ⟨a, b, xs, ys, rfl, rfl, sqT h, sqT h2, hl, fun e => q b H (Same.refl H) (by rw [e]; exact h2), fun _ e => q a H (Same.refl H) (by rw [e, List.append_nil]; exact h), fun _ _ p np => q p _ (Same.new np) upd_same⟩
theorem nVs_get {q : List Nat} {i c : Nat} (h : q[i]? = some c) : (q.map nV)[i]? = some (nV c) := by rw [List.getElem?_map, h]; rfl
theorem nVs_inv {q : List Nat} {i : Nat} {x : V} (h : (q.map nV)[i]? = some x) : ∃ c, q[i]? = some c ∧ x = nV c := by
  rw [List.getElem?_map] at h
  obtain ⟨c, h1, h2⟩ := Option.map_eq_some_iff.mp h
  exact ⟨c, h1, h2.symm⟩
/-! ### a merger -/
def mFs (t : Addr) (n : Nat) : List (Str × V) := putF "rows" (.ref t) (putF "commands" (.int (n : Nat)) [])
theorem mFs_rows (t : Addr) (n : Nat) : (mFs t n).lookup ("rows" : Str) = some (.ref t) := by unfold mFs; rw [lookup_putF, if_pos rfl]
theorem mFs_cmds (t : Addr) (n : Nat) : (mFs t n).lookup ("commands" : Str) = some (.int (n : Nat)) := by unfold mFs; rw [lookup_putF, if_neg (by decide +kernel), lookup_putF, if_pos rfl]
def MergerAt (C : Addr) (H : Hp) (m : Addr) (rows : List (List (Option Int))) : Prop := ∃ dx t, H m = some (.ins C dx (mFs t rows.length)) ∧ RowsT H t rows
theorem MergerAt.same {C : Addr} {H H' : Hp} {m : Addr} {rows : List (List (Option Int))} (s : Same H H') : MergerAt C H m rows → MergerAt C H' m rows := fun ⟨dx, t, e, r⟩ => ⟨dx, t, s _ _ e, r.same s⟩
/-- what is asked of the class -/
structure MCls (K : PySem.W.Frag) (C : Addr) : Prop where
  cl : Cls K C
  nC : NoAttr K C "commands"
  nR : NoAttr K C "rows"
theorem RowsT.updIns {H : Hp} {t m C dx dx' : Addr} {fs fs' : List (Str × V)} {rows : List (List (Option Int))} (h : RowsT H t rows) (e : H m = some (.ins C dx fs)) : RowsT (upd H m (.ins C dx' fs')) t rows := by
  obtain ⟨us, e1, p⟩ := h
  refine ⟨us, by rw [upd_ne (ne_of e1 e (by intro z; cases z))]; exact e1, Paired.mapP p fun v r ⟨q, e2, e3⟩ => ⟨q, e2, by rw [upd_ne (ne_of e3 e (by intro z; cases z))]; exact e3⟩⟩
def spMergerInit (C : Addr) : Sp := fun vs H Q _ => ∃ m a dx rows, vs = [.ref m, .ref a] ∧ H m = some (.ins C dx []) ∧ RowsL H a rows ∧ RowsOk rows ∧ RowsSound rows ∧ ∀ H', (∀ b o, H b = some o → b ≠ m → H' b = some o) → MergerAt C H' m rows → Q .non H'
def spNeedCommand (C : Addr) : Sp := fun vs H Q _ => ∃ m rows, ∃ c : Nat, vs = [.ref m, nV c] ∧ MergerAt C H m rows ∧ c < rows.length ∧ Q (nV c) H
def spMerged (C : Addr) : Sp := fun vs H Q _ => ∃ m rows, ∃ a b : Nat, vs = [.ref m, nV a, nV b] ∧ MergerAt C H m rows ∧ RowsOk rows ∧ a < rows.length ∧ b < rows.length ∧ Q (oV (FM.row rows a b)) H
def spCheckQueue (C : Addr) : Sp := fun vs H Q _ => ∃ m rows t q, vs = [.ref m, .ref t] ∧ MergerAt C H m rows ∧ TupAt H (.ref t) q ∧ q.length ≤ 100 ∧ (∀ c ∈ q, c < rows.length) ∧ ∀ H', Same H H' → Q (.ref t) H'
def spPlacesOf : Sp := fun vs H Q _ => ∃ r rows t q, vs = [.ref r, .ref t] ∧ RowsT H r rows ∧ RowsOk rows ∧ TupAt H (.ref t) q ∧ q.length ≤ 100 ∧ (∀ c ∈ q, c < rows.length) ∧ ∀ H' p, Same H H' → TupAt H' (.ref p) (FM.places rows q) → Q (.ref p) H'
def spMergeablePlaces (C : Addr) : Sp := fun vs H Q _ => ∃ m rows t q, vs = [.ref m, .ref t] ∧ MergerAt C H m rows ∧ RowsOk rows ∧ TupAt H (.ref t) q ∧ q.length ≤ 100 ∧ (∀ c ∈ q, c < rows.length) ∧ ∀ H' p, Same H H' → TupAt H' (.ref p) (FM.places rows q) → Q (.ref p) H'
def spIsFolded (C : Addr) : Sp := fun vs H Q _ => ∃ m rows t q, vs = [.ref m, .ref t] ∧ MergerAt C H m rows ∧ RowsOk rows ∧ TupAt H (.ref t) q ∧ q.length ≤ 100 ∧ (∀ c ∈ q, c < rows.length) ∧ ∀ H', Same H H' → Q (.bl (decide (FM.places rows q = []))) H'
section
variable {P : Program} {w : World} {K : PySem.W.Frag} {mg : Str → Option Value} {base : Heap} {f g h MC : Addr} {fd gd hd : FuncData}
theorem scMergerInit : FnScope ["self", "rows", "told", "three"] ["self", "rows"] (defScope sMergerInit) := ⟨rfl, rfl, rfl, by decide +kernel, rfl, by decide +kernel, by decide +kernel⟩
theorem ok_merger_init (F : FunD K "__init__" "Merger.__init__" (defArgs sMergerInit) (defBody sMergerInit) (defScope sMergerInit) [] [] f fd) (B : Blt mg) (M : MCls K MC) (G : FnOk P w K mg base CX0 3 g gd ["rows"] spCheckRows) (C : Cal K mg "check_rows" g gd ["rows"])
    (G2 : FnOk P w K mg base CX0 2 h hd ["rows"] spUnsoundThree) (C2 : Cal K mg "unsound_three" h hd ["rows"]) : FnOk P w K mg base CX0 4 f fd ["self", "rows"] (spMergerInit MC) := by
  refine F.ok scMergerInit (fun vs H Q E h => ?_) (fun cdv A outer s H vs Q E hr h => ?_)
  · obtain ⟨m, a, dx, rows, rfl, _⟩ := h
    rfl
  · obtain ⟨m, a, dx, rows, rfl, hm, hR, R, S, q⟩ := h
    refine ⟨_, PSs.nox (pss_cons (ps_set (i := 2) scMergerInit.nd rfl (Or.inl rfl) (pe_call G (hr.mono (by decide)) (by rfl) C.m C.kp C.b .nil pass0 (pa_cons (pv 1) pa_nil)))
(pss_cons (ps_set (i := 3) scMergerInit.nd rfl (Or.inl rfl) (pe_call G2 (hr.mono (by decide)) (by rfl) C2.m C2.kp C2.b .nil pass0 (pa_cons (pv 2) pa_nil)))
(pss_cons (ps_if (pt_cmpR op_notN (pv 3) pe_non (nomark _)) (pss_one ps_never) pss_nil)
(pss_cons (ps_fld (pv 0) (pe_callB (r := rLenOf K) call_lenOf (by rfl) B.len PySem.boot_len (pa_cons (pv 2) pa_nil)) rfl)
(pss_one (ps_fld (pv 0) (pv 2) rfl)))))), ?_⟩
    refine ⟨_, rfl, a, rows, rfl, hR, R, fun H1 t s1 hT => ?_⟩
    refine ⟨_, rfl, t, rows, rfl, hT, R, S, fun H2 s2 => ?_⟩
    refine ⟨_, rfl, rfl, _, rfl, iteN (by simp) ?_⟩
    have hT2 := hT.same s2
    have hm2 := s2 _ _ (s1 _ _ hm)
    obtain ⟨us, eT, pU⟩ := hT2
    have nl := pLen pU
    refine ⟨_, rfl, .ref t, rows.length, rfl, .inr ⟨us, sqT eT, nl.symm⟩, _, rfl, m, MC, dx, [], rfl, hm2, M.cl, M.nC, (by decide), ?_⟩
    refine ⟨_, rfl, _, rfl, m, MC, dx, _, rfl, upd_same, M.cl, M.nR, (by show 1 < 1000; decide), ?_⟩
    refine q _ (fun b o e hb => ?_) ⟨dx, t, upd_same, ?_⟩
    · rw [upd_ne hb, upd_ne hb]
      exact s2 _ _ (s1 _ _ e)
    · exact ((hT.same s2).updIns hm2).updIns upd_same
theorem scNeedCommand : FnScope ["merger", "command"] ["merger", "command"] (defScope sNeedCommand) := ⟨rfl, rfl, rfl, by decide +kernel, rfl, by decide +kernel, by decide +kernel⟩
theorem ok_need_command (F : Fn K "need_command" sNeedCommand f fd) (M : MCls K MC) (G : FnOk P w K mg base CX0 3 g gd ["value", "most"] (spIsBelow K)) (C : Cal K mg "is_below" g gd ["value", "most"]) :
    FnOk P w K mg base CX0 4 f fd ["merger", "command"] (spNeedCommand MC) := by
  refine F.ok scNeedCommand (fun vs H Q E h => ?_) (fun cdv A outer s H vs Q E hr h => ?_)
  · obtain ⟨m, rows, c, rfl, _⟩ := h
    rfl
  · obtain ⟨m, rows, c, rfl, hM, hc, q⟩ := h
    refine ⟨_, PSs.nox (pss_cons (ps_if (pt_not (pt_val (pe_call G (hr.mono (by decide)) (by rfl) C.m C.kp C.b .nil pass0 (pa_cons (pv 1) (pa_cons (pe_fld (pv 0) rfl) pa_nil))))) (pss_one ps_never) pss_nil)
(pss_one (ps_ret (pv 1)))), ?_⟩
    obtain ⟨dx, t, em, _⟩ := hM
    refine ⟨_, rfl, _, rfl, m, MC, dx, _, _, rfl, em, M.cl, M.nC, mFs_cmds _ _, nV c, _, rfl, .int _, _, rfl, ?_⟩
    rw [show isBelV (nV c) (rows.length : Int) = true by show (decide (0 ≤ (c : Int)) && decide ((c : Int) < (rows.length : Int))) = true; rw [decide_eq_true (by omega), decide_eq_true (by omega)]; rfl]
    exact iteF ⟨_, rfl, q⟩
theorem scMerged : FnScope ["merger", "one", "other"] ["merger", "one", "other"] (defScope sMerged) := ⟨rfl, rfl, rfl, by decide +kernel, rfl, by decide +kernel, by decide +kernel⟩
theorem ok_merged (F : Fn K "merged" sMerged f fd) (M : MCls K MC) (G : FnOk P w K mg base CX0 4 g gd ["merger", "command"] (spNeedCommand MC)) (C : Cal K mg "need_command" g gd ["merger", "command"]) :
    FnOk P w K mg base CX0 5 f fd ["merger", "one", "other"] (spMerged MC) := by
  refine F.ok scMerged (fun vs H Q E h => ?_) (fun cdv A outer s H vs Q E hr h => ?_)
  · obtain ⟨m, rows, a, b, rfl, _⟩ := h
    rfl
  · obtain ⟨m, rows, a, b, rfl, hM, R, ha, hb, q⟩ := h
    refine ⟨_, PSs.nox (pss_cons (ps_expr (pe_call G (hr.mono (by decide)) (by rfl) C.m C.kp C.b .nil pass0 (pa_cons (pv 0) (pa_cons (pv 1) pa_nil))))
(pss_one (ps_ret (pe_ix (r := rIxT K) ix_tup (pe_ix (r := rIxT K) ix_tup (pe_fld (pv 0) rfl) (pv 1) (fun _ _ => rfl)) (pe_call G (hr.mono (by decide)) (by rfl) C.m C.kp C.b .nil pass0 (pa_cons (pv 0) (pa_cons (pv 2) pa_nil))) (fun _ _ => rfl))))), ?_⟩
    refine ⟨_, rfl, _, rfl, m, rows, a, rfl, hM, ha, ?_⟩
    have hM' := hM
    obtain ⟨dx, t, em, hT⟩ := hM'
    obtain ⟨us, p, vs, e1, i1, e2, i2⟩ := hT.at R ha hb
    exact ⟨_, rfl, m, MC, dx, _, _, rfl, em, M.cl, M.nR, mFs_rows _ _, _, rfl, t, us, _, _, rfl, rfl, sqT e1, i1, _, rfl, _, rfl, m, rows, b, rfl, hM, hb, p, vs, _, _, rfl, rfl, sqT e2, i2, q⟩
theorem scCheckQueue : FnScope ["merger", "value", "at", "command"] ["merger", "value"] (defScope sCheckQueue) := ⟨rfl, rfl, rfl, by decide +kernel, rfl, by decide +kernel, by decide +kernel⟩
theorem ok_check_queue {tk : Tok} (F : Fn K "check_queue" sCheckQueue f fd) (B : Blt mg) (M : MCls K MC) (G : FnOk P w K mg base CX0 3 g gd ["value", "most"] (spIsBelow K)) (C : Cal K mg "is_below" g gd ["value", "most"])
    (GS : FnOk P w K mg base CX0 1 h hd ["value"] (spIsSequence K)) (CS : Cal K mg "is_sequence" h hd ["value"]) (mM : mg "MOST_QUEUE" = some (.int 10000 tk)) :
    FnOk P w K mg base CX0 4 f fd ["merger", "value"] (spCheckQueue MC) := by
  refine F.ok scCheckQueue (fun vs H Q E h => ?_) (fun cdv A outer s H vs Q E hr h => ?_)
  · obtain ⟨m, rows, t, q, rfl, _⟩ := h
    rfl
  · obtain ⟨m, rows, t, q, rfl, hM, ⟨t', e, hT⟩, hl, hq, k⟩ := h
    cases e
    refine ⟨_, PSs.nox (pss_cons (ps_if (PW.pt (pw_or (pt_not (pt_val (pe_call GS (hr.mono (by decide)) (by rfl) CS.m CS.kp CS.b .nil pass0 (pa_cons (pv 1) pa_nil)))) (pw_or1 (pt_cmpR op_gt (pe_callB (r := rLenOf K) call_lenOf (by rfl) B.len PySem.boot_len (pa_cons (pv 1) pa_nil)) (pe_glob (by rfl) mM (v := (.int 10000)) ⟨_, rfl⟩) (nomark _))))) (pss_one ps_never) pss_nil)
(pss_cons (ps_for PassesOwn.never rfl (pi_enumS (by rfl) B.enum (pa_cons (pv 1) pa_nil)) (pg_tup rfl (pgs_cons (pg_name (i := 2) scCheckQueue.nd rfl (Or.inl rfl)) (pgs_cons (pg_name (i := 3) scCheckQueue.nd rfl (Or.inl rfl)) pgs_nil)))
(pss_one (ps_if (pt_not (pt_val (pe_call G (hr.mono (by decide)) (by rfl) C.m C.kp C.b .nil pass0 (pa_cons (pv 3) (pa_cons (pe_fld (pv 0) rfl) pa_nil))))) (pss_one ps_never) pss_nil)))
(pss_one (ps_ret (pe_callTy (T := "tuple") (r := rTupOf K) call_tupOf (by rfl) B.tuple (by decide +kernel) (pa_cons (pv 1) pa_nil)))))), ?_⟩
    refine ⟨_, rfl, .ref t, rfl, .tup (sqT hT), fun H1 s1 => ⟨_, rfl, iteF ?_⟩⟩
    refine ⟨_, rfl, .ref t, q.length, rfl, .inr ⟨_, sqT (s1 _ _ hT), by simp⟩, _, _, rfl, rfl, _, rfl, iteN (by simp; omega) ?_⟩
    refine ⟨_, rfl, t, true, _, rfl, sqT (s1 _ _ hT), for_it walk_enumS (fun i σ H' => ∃ y2 y3, σ = [some (.ref m), some (.ref t), y2, y3] ∧ Same H H') ⟨_, _, rfl, s1⟩ (fun i σ H' _ ⟨_, _, _, s2⟩ => sqT (s2 _ _ hT)) ?_ ?_⟩
    · intro i v σ H2 H3 hi hP hY
      obtain ⟨y1, y2, rfl, s2⟩ := hP
      obtain ⟨T, x, y, rfl, nT, rfl, f1, f2⟩ := hY
      cases f1
      obtain ⟨c, hc, rfl⟩ := nVs_inv f2
      have s3 : Same H (upd H2 T (.tup [.int (i : Nat), nV c])) := s2.trans (Same.new nT)
      have hc' := hq c (List.mem_of_getElem? hc)
      obtain ⟨dx, t2, em, _⟩ := hM.same s3
      refine ⟨T, _, rfl, sqT upd_same, rfl, _, _, rfl, _, _, rfl, rfl, ?_⟩
      refine ⟨_, rfl, _, rfl, m, MC, dx, _, _, rfl, em, M.cl, M.nC, mFs_cmds _ _, nV c, _, rfl, .int _, _, rfl, ?_⟩
      rw [show isBelV (nV c) (rows.length : Int) = true by show (decide (0 ≤ (c : Int)) && decide ((c : Int) < (rows.length : Int))) = true; rw [decide_eq_true (by omega), decide_eq_true (by omega)]; rfl]
      exact iteF ⟨_, _, rfl, s3⟩
    · intro σ H2 ⟨y1, y2, e, s2⟩
      subst e
      exact ⟨_, rfl, t, _, rfl, .inr ⟨sqT (s2 _ _ hT), k _ s2⟩⟩
theorem scPlacesOf : FnScope ["rows", "queue", "at", "one", "other"] ["rows", "queue"] (defScope sPlacesOf) := ⟨rfl, rfl, rfl, by decide +kernel, rfl, by decide +kernel, by decide +kernel⟩
theorem ok_places_of (F : Fn K "places_of" sPlacesOf f fd) (B : Blt mg) : FnOk P w K mg base CX0 1 f fd ["rows", "queue"] spPlacesOf := by
  refine F.ok scPlacesOf (fun vs H Q E h => ?_) (fun cdv A outer s H vs Q E hr h => ?_)
  · obtain ⟨m, rows, t, q, rfl, _⟩ := h
    rfl
  · obtain ⟨r, rows, t, q, rfl, hR, R, ⟨t', e, hT⟩, hl, hq, k⟩ := h
    cases e
    refine ⟨_, PSs.nox (pss_one (ps_ret (pe_callTy (T := "tuple") (r := rTupOf K) call_tupOf (by rfl) B.tuple (by decide +kernel) (pa_cons (pe_lc (own := [("at", 2), ("one", 3), ("other", 4)]) (g := gTup K 2 (gCons (gName 2) (gCons (gTup K 2 (gCons (gName 3) (gCons (gName 4) gNil))) gNil))) rfl scPlacesOf.nd (pi_enumZ (by rfl) B.enum (by rfl) B.zip (pa_cons (pv 1) (pa_cons (pe_slice (r := rSlA K) sl_tupA (pv 1) (po_some (pe_int)) po_none) pa_nil))) (blkOk_by (own := [("at", 2), ("one", 3), ("other", 4)]) (N := ["rows", "queue", "at", "one", "other"]) (sc := defScope sPlacesOf) (by decide +kernel))
  (fun _ _ _ _ _ => (pg_tup rfl (pgs_cons (pg_name (i := 2) scPlacesOf.nd rfl (by first | exact Or.inl rfl | exact Or.inr rfl)) (pgs_cons (pg_tup rfl (pgs_cons (pg_name (i := 3) scPlacesOf.nd rfl (by first | exact Or.inl rfl | exact Or.inr rfl)) (pgs_cons (pg_name (i := 4) scPlacesOf.nd rfl (by first | exact Or.inl rfl | exact Or.inr rfl)) pgs_nil))) pgs_nil)))) (fun _ _ _ _ _ => pts_one (pt_cmpR op_notN (pe_ix (r := rIxT K) ix_tup (pe_ix (r := rIxT K) ix_tup (pv 0) (pv 3) (fun _ _ => rfl)) (pv 4) (fun _ _ => rfl)) pe_non (nomark _)))
  (fun _ _ _ _ _ => (pv 2))) pa_nil)))), ?_⟩
    refine ⟨_, rfl, _, rfl, 1, rfl, slNo hT fun c H1 s1 hc => ?_⟩
    rw [show (1 : Int) = ((1 : Nat) : Int) from rfl, cut_from, ← List.map_drop] at hc
    refine ⟨t, c, _, _, rfl, sqT (s1 _ _ hT), sqT hc, fun D nD => lc_it (walk_enumZ (n := q.length - 1) (by simp)) (fun i H' => Same H H' ∧ H' c = some (.tup ((q.drop 1).map nV)) ∧ H' D = some (.lst (((List.range i).filter fun k => (FM.row rows (q.getD k 0) (q.getD (k + 1) 0)).isSome).map nV)))
      ⟨s1.trans (Same.new nD), by rw [upd_ne (ne_of_none hc nD)]; exact hc, upd_same⟩ (fun i H' _ ⟨s2, h2, _⟩ => ⟨sqT (s2 _ _ hT), sqT h2⟩) ?_ ?_⟩
    · intro i v H2 H3 hi ⟨s2, h2, hD⟩ ⟨T, U, x, y, e, nT, nU, e3, fx, fy⟩
      subst e e3
      obtain ⟨a, ha, rfl⟩ := nVs_inv fx
      obtain ⟨b, hb, rfl⟩ := nVs_inv fy
      rw [List.getElem?_drop, Nat.add_comm] at hb
      have la := hq a (List.mem_of_getElem? ha)
      have lb := hq b (List.mem_of_getElem? hb)
      have sT : Same H2 (upd H2 T (.tup [nV a, nV b])) := Same.new nT
      have sU : Same H2 (upd (upd H2 T (.tup [nV a, nV b])) U (.tup [.int (i : Nat), .ref T])) := sT.trans (Same.new nU)
      have TU : T ≠ U := fun z => by rw [← z, upd_same] at nU; cases nU
      have hT3 : (upd (upd H2 T (.tup [nV a, nV b])) U (.tup [.int (i : Nat), .ref T])) T = some (.tup [nV a, nV b]) := by rw [upd_ne TU, upd_same]
      have s3 := s2.trans sU
      have hD3 := sU _ _ hD
      have nD' : H D = none := s1.free nD
      obtain ⟨us, p, vs, e1, i1, e2, i2⟩ := (hR.same s3).at R la lb
      refine ⟨U, _, rfl, sqT upd_same, rfl, _, _, rfl, _, _, rfl, T, _, rfl, sqT hT3, rfl, _, _, rfl, _, _, rfl, rfl, rfl, rfl, ?_⟩
      refine ⟨_, rfl, _, rfl, r, us, _, _, rfl, rfl, sqT e1, i1, _, rfl, p, vs, _, _, rfl, rfl, sqT e2, i2, rfl, _, rfl, ?_⟩
      have ga : q.getD i 0 = a := by rw [List.getD_eq_getElem?_getD, ha]; rfl
      have gb : q.getD (i + 1) 0 = b := by rw [List.getD_eq_getElem?_getD, hb]; rfl
      cases hrow : FM.row rows a b with
      | none =>
        refine iteN (by simp [oV]) ⟨s3, sU _ _ h2, ?_⟩
        rw [hD3, List.range_succ, List.filter_append, List.map_append]
        simp only [List.filter_cons, List.filter_nil, ga, gb, hrow, Option.isSome, Bool.false_eq_true, if_false, List.map_nil, List.append_nil]
      | some z =>
        refine iteP (by simp [oV]) ⟨_, rfl, _, hD3, ?_, fun b' o' e' => ?_, ?_, ?_⟩
        · rw [List.length_map]
          exact small100 (Nat.le_trans (List.length_filter_le _ _) (by simp; omega))
        · rw [upd_ne (ne_of_none e' nD')]
          exact s3 _ _ e'
        · rw [upd_ne (ne_of h2 hD (by intro z; cases z))]
          exact sU _ _ h2
        · rw [upd_same, List.range_succ, List.filter_append, List.map_append]
          simp only [List.filter_cons, List.filter_nil, ga, gb, hrow, Option.isSome, if_true, List.map_cons, List.map_nil]
          rfl
    · intro H2 ⟨s2, _, hD⟩
      exact ⟨D, _, rfl, .inl ⟨sqL hD, fun l nl => k _ _ (s2.trans (Same.new nl)) ⟨l, rfl, upd_same⟩⟩⟩
theorem scMergeablePlaces : FnScope ["merger", "queue"] ["merger", "queue"] (defScope sMergeablePlaces) := ⟨rfl, rfl, rfl, by decide +kernel, rfl, by decide +kernel, by decide +kernel⟩
theorem ok_mergeable_places (F : Fn K "mergeable_places" sMergeablePlaces f fd) (M : MCls K MC) (G : FnOk P w K mg base CX0 1 g gd ["rows", "queue"] spPlacesOf) (C : Cal K mg "places_of" g gd ["rows", "queue"])
    (G2 : FnOk P w K mg base CX0 4 h hd ["merger", "value"] (spCheckQueue MC)) (C2 : Cal K mg "check_queue" h hd ["merger", "value"]) : FnOk P w K mg base CX0 5 f fd ["merger", "queue"] (spMergeablePlaces MC) := by
  refine F.ok scMergeablePlaces (fun vs H Q E h => ?_) (fun cdv A outer s H vs Q E hr h => ?_)
  · obtain ⟨m, rows, t, q, rfl, _⟩ := h
    rfl
  · obtain ⟨m, rows, t, q, rfl, hM, R, hT, hl, hq, k⟩ := h
    refine ⟨_, PSs.nox (pss_one (ps_ret (pe_call G (hr.mono (by decide)) (by rfl) C.m C.kp C.b .nil pass0 (pa_cons (pe_fld (pv 0) rfl) (pa_cons (pe_call G2 (hr.mono (by decide)) (by rfl) C2.m C2.kp C2.b .nil pass0 (pa_cons (pv 0) (pa_cons (pv 1) pa_nil))) pa_nil))))), ?_⟩
    have hM' := hM
    obtain ⟨dx, r, em, hR⟩ := hM'
    refine ⟨_, rfl, m, MC, dx, _, _, rfl, em, M.cl, M.nR, mFs_rows _ _, _, rfl, _, rfl, m, rows, t, q, rfl, hM, hT, hl, hq, fun H1 s1 => ?_⟩
    exact ⟨r, rows, t, q, rfl, hR.same s1, R, hT.same s1, hl, hq, fun H2 p s2 h2 => k _ _ (s1.trans s2) h2⟩
theorem scIsFolded : FnScope ["merger", "queue"] ["merger", "queue"] (defScope sIsFolded) := ⟨rfl, rfl, rfl, by decide +kernel, rfl, by decide +kernel, by decide +kernel⟩
theorem ok_is_folded (F : Fn K "is_folded" sIsFolded f fd) (B : Blt mg) (G : FnOk P w K mg base CX0 5 g gd ["merger", "queue"] (spMergeablePlaces MC)) (C : Cal K mg "mergeable_places" g gd ["merger", "queue"]) :
    FnOk P w K mg base CX0 6 f fd ["merger", "queue"] (spIsFolded MC) := by
  refine F.ok scIsFolded (fun vs H Q E h => ?_) (fun cdv A outer s H vs Q E hr h => ?_)
  · obtain ⟨m, rows, t, q, rfl, _⟩ := h
    rfl
  · obtain ⟨m, rows, t, q, rfl, hM, R, hT, hl, hq, k⟩ := h
    refine ⟨_, PSs.nox (pss_one (ps_ret (pe_cmpR op_eq (pe_callB (r := rLenOf K) call_lenOf (by rfl) B.len PySem.boot_len (pa_cons (pe_call G (hr.mono (by decide)) (by rfl) C.m C.kp C.b .nil pass0 (pa_cons (pv 0) (pa_cons (pv 1) pa_nil))) pa_nil)) (pe_int) (nomark _)))), ?_⟩
    refine ⟨_, rfl, _, rfl, m, rows, t, q, rfl, hM, R, hT, hl, hq, fun H1 p s1 ⟨p', e, hp⟩ => ?_⟩
    cases e
    refine ⟨.ref p, (FM.places rows q).length, rfl, .inr ⟨_, sqT hp, by simp⟩, rfl, ?_⟩
    have e : decide (V.int ((FM.places rows q).length : Nat) = .int 0) = decide (FM.places rows q = []) := by
      rw [Bool.eq_iff_iff, decide_eq_true_iff, decide_eq_true_iff]
      constructor
      · intro z
        have : ((FM.places rows q).length : Int) = 0 := by injection z
        exact List.length_eq_zero_iff.mp (by omega)
      · intro z
        rw [z]
        rfl
    exact e ▸ k _ s1
end
end K2
end
section
set_option maxHeartbeats 4000000
/-! The machine's defs: is_table, check_machine, done_by, done_table. -/
namespace K2
open PySem PySem.Spec PyProof.Rows L2
/-- an item of a table, as a number -/
def itemV : V → Option Nat
  | .int i => if 0 ≤ i then some i.toNat else none
  | _ => none
theorem itemV_nV (x : Nat) : itemV (nV x) = some x := by
  show (if (0 : Int) ≤ (x : Int) then some ((x : Int)).toNat else none) = _
  rw [if_pos (by omega), Int.toNat_natCast]
theorem itemV_nVs (m : List Nat) : (m.map nV).map itemV = m.map some := by
  rw [List.map_map]
  exact List.map_congr_left fun x _ => itemV_nV x
/-- a list (false), a tuple (true) of the run's own -/
def Tq (b : Bool) (H : Hp) (a : Addr) (vs : List V) : Prop := match b with
  | false => H a = some (.lst vs)
  | true => H a = some (.tup vs)
theorem Tq.same {b : Bool} {H H' : Hp} {a : Addr} {vs : List V} (s : Same H H') (h : Tq b H a vs) : Tq b H' a vs := by
  cases b <;> exact s _ _ h
theorem Tq.sq {K : PySem.W.Frag} {b : Bool} {H : Hp} {a : Addr} {vs : List V} (h : Tq b H a vs) : Sq K b H a vs := by
  cases b
  · exact sqL h
  · exact sqT h
/-- a value as check_machine sees it -/
inductive ShAt (K : PySem.W.Frag) (H : Hp) : V → FM.Sh (Option Nat) → Prop
  | flat {v : V} : flat4 v = true → ShAt K H v .other
  | seq {b : Bool} {a : Addr} {vs : List V} : Tq b H a vs → (∀ u ∈ vs, flat4 u = true) → vs.length ≤ 1000 → ShAt K H (.ref a) (.seq (vs.map itemV))
inductive MShAt (K : PySem.W.Frag) (H : Hp) : V → Option (List (FM.Sh (Option Nat))) → Prop
  | flat {v : V} : flat4 v = true → MShAt K H v none
  | seq {b : Bool} {a : Addr} {vs : List V} {ws : List (FM.Sh (Option Nat))} : Sq K b H a vs → Paired (ShAt K H) vs ws → MShAt K H (.ref a) (some ws)
theorem ShAt.same {K : PySem.W.Frag} {H H' : Hp} {v : V} {w : FM.Sh (Option Nat)} (s : Same H H') : ShAt K H v w → ShAt K H' v w
  | .flat h => .flat h
  | .seq h f l => .seq (h.same s) f l
theorem MShAt.same {K : PySem.W.Frag} {H H' : Hp} {v : V} {w : Option (List (FM.Sh (Option Nat)))} (s : Same H H') : MShAt K H v w → MShAt K H' v w
  | .flat h => .flat h
  | .seq h p => .seq (h.same s) (Paired.mapP p fun _ _ => ShAt.same s)
theorem ShAt.kd {K : PySem.W.Frag} {H : Hp} {v : V} {w : FM.Sh (Option Nat)} : ShAt K H v w → Kd K H v
  | .flat h => Kd.flat h
  | .seq h _ _ => (h.sq (K := K)).kd
theorem MShAt.kd {K : PySem.W.Frag} {H : Hp} {v : V} {w : Option (List (FM.Sh (Option Nat)))} : MShAt K H v w → Kd K H v
  | .flat h => Kd.flat h
  | .seq h _ => h.kd
theorem flat4_seq {v : V} (h : flat4 v = true) : isSeqV v = false := by cases v <;> first | rfl | cases h
theorem TupAt.sh {K : PySem.W.Frag} {H : Hp} {v : V} {m : List Nat} (h : TupAt H v m) (hl : m.length ≤ 1000) : ShAt K H v (.seq (m.map some)) := by
  obtain ⟨t, rfl, e⟩ := h
  rw [← itemV_nVs]
  exact .seq (b := true) (show Tq true H t _ from e) (fun u hu => by obtain ⟨x, _, rfl⟩ := List.mem_map.mp hu; rfl) (by rw [List.length_map]; exact hl)
theorem nums_all (n : Nat) : ∀ vs : List V, (vs.map fun u => isBelV u (n : Int)).all id = (FM.nums n (vs.map itemV)).isSome
  | [] => rfl
  | u :: r => by
    rw [List.map_cons, List.all_cons, nums_all n r, List.map_cons]
    cases u with
    | int i =>
      show (decide (0 ≤ i) && decide (i < (n : Int)) && (FM.nums n (r.map itemV)).isSome) = (FM.nums n ((if 0 ≤ i then some i.toNat else none) :: r.map itemV)).isSome
      by_cases h : 0 ≤ i
      · rw [if_pos h, decide_eq_true h, Bool.true_and]
        show _ = (if i.toNat < n then (FM.nums n (r.map itemV)).map (i.toNat :: ·) else none).isSome
        by_cases h2 : i < (n : Int)
        · rw [decide_eq_true h2, if_pos (by omega), Bool.true_and]
          cases FM.nums n (r.map itemV) <;> rfl
        · rw [decide_eq_false h2, if_neg (by omega)]
          rfl
      · rw [if_neg h, decide_eq_false h]
        rfl
    | _ => rfl
/-- the tuple of the tables ms -/
def TupsT (H : Hp) (p : Addr) (ms : List (List Nat)) : Prop := ∃ us, H p = some (.tup us) ∧ TupsAt H us ms
theorem TupsT.same {H H' : Hp} {p : Addr} {ms : List (List Nat)} (s : Same H H') : TupsT H p ms → TupsT H' p ms := fun ⟨us, e, t⟩ => ⟨us, s _ _ e, t.same s⟩
def XdAt (H : Hp) (d : Addr) (i : Int) : Prop := H d = some (.xd [(("at" : Str), .int i)])
/-! ### promises -/
def spIsTable (K : PySem.W.Frag) : Sp := fun vs H Q _ => ∃ v, ∃ n : Nat, ∃ w, vs = [v, nV n] ∧ ShAt K H v w ∧ ∀ H', Same H H' → Q (.bl (FM.isTab n w).isSome) H'
def spCheckMachine (K : PySem.W.Frag) (CH : Addr) : Sp := fun vs H Q E => ∃ v ws, vs = [v] ∧ MShAt K H v ws ∧ (∀ ms, FM.chkW ws = .ok ms → ∀ H' p, Same H H' → TupsT H' p ms → Q (.ref p) H') ∧
  (∀ i, FM.chkW ws = .error i → ∀ H' d, Same H H' → XdAt H' d i → E (.ref CH) (some d) H')
def spDoneBy (K : PySem.W.Frag) : Sp := fun vs H Q _ => ∃ t b a n ms q, vs = [.ref t, .ref a] ∧ TupsT H t ms ∧ FM.Mach n ms ∧ Sq K b H a (q.map nV) ∧ (∀ c ∈ q, c < ms.length) ∧ ∀ H' p, Same H H' → TupAt H' (.ref p) (FM.doneBy n ms q) → Q (.ref p) H'
/-- a value as done_table's queue, for m commands -/
inductive QCase (K : PySem.W.Frag) (H : Hp) (m : Nat) : V → Except Int (List Nat) → Prop
  | flat {v : V} : flat4 v = true → QCase K H m v (.error (-1))
  | ok {b : Bool} {a : Addr} {q : List Nat} : Sq K b H a (q.map nV) → q.length ≤ 1000 → (∀ c ∈ q, c < m) → QCase K H m (.ref a) (.ok q)
  | bad {b : Bool} {a : Addr} {q : List Nat} {u : V} {r : List V} : Sq K b H a (q.map nV ++ u :: r) → flat4 u = true → q.length + r.length ≤ 1000 → (∀ c ∈ q, c < m) → isBelV u (m : Int) = false → QCase K H m (.ref a) (.error (q.length : Int))
theorem QCase.same {K : PySem.W.Frag} {H H' : Hp} {m : Nat} {v : V} {r : Except Int (List Nat)} (s : Same H H') : QCase K H m v r → QCase K H' m v r
  | .flat h => .flat h
  | .ok h l a => .ok (h.same s) l a
  | .bad h f l a z => .bad (h.same s) f l a z
def spDoneTable (K : PySem.W.Frag) (CH CQ : Addr) : Sp := fun vs H Q E => ∃ v qv ws, vs = [v, qv] ∧ MShAt K H v ws ∧ Kd K H qv ∧ (∀ i, FM.chkW ws = .error i → ∀ H' d, Same H H' → XdAt H' d i → E (.ref CH) (some d) H') ∧
  (∀ ms, FM.chkW ws = .ok ms → ∃ r, QCase K H ms.length qv r ∧ (∀ n q, r = .ok q → FM.Mach n ms → ∀ H' p, Same H H' → TupAt H' (.ref p) (FM.doneBy n ms q) → Q (.ref p) H') ∧ (∀ i, r = .error i → ∀ H' d, Same H H' → XdAt H' d i → E (.ref CQ) (some d) H'))
section
variable {P : Program} {w : World} {K : PySem.W.Frag} {mg : Str → Option Value} {base : Heap} {f g h CH CQ fI fJ : Addr} {fd gd hd : FuncData}
theorem scIsTable : FnScope ["value", "states", "state"] ["value", "states"] (defScope sIsTable) := ⟨rfl, rfl, rfl, by decide +kernel, rfl, by decide +kernel, by decide +kernel⟩
theorem ok_is_table (F : Fn K "is_table" sIsTable f fd) (B : Blt mg) (G : FnOk P w K mg base CX0 1 g gd ["value"] (spIsSequence K)) (C : Cal K mg "is_sequence" g gd ["value"])
    (G2 : FnOk P w K mg base CX0 3 h hd ["value", "most"] (spIsBelow K)) (C2 : Cal K mg "is_below" h hd ["value", "most"]) : FnOk P w K mg base CX0 4 f fd ["value", "states"] (spIsTable K) := by
  refine F.ok scIsTable (fun vs H Q E h => ?_) (fun cdv A outer s H vs Q E hr h => ?_)
  · obtain ⟨v, n, w, rfl, _⟩ := h
    rfl
  · obtain ⟨v, n, w, rfl, hS, q⟩ := h
    refine ⟨_, PSs.nox (pss_one (ps_ret (pe_and (pe_call G (hr.mono (by decide)) (by rfl) C.m C.kp C.b .nil pass0 (pa_cons (pv 0) pa_nil)) (pe_and (pe_cmpR op_eq (pe_callB (r := rLenOf K) call_lenOf (by rfl) B.len PySem.boot_len (pa_cons (pv 0) pa_nil)) (pv 1) (nomark _)) (pe_one (pe_callB (cr_all rfl) (by rfl) B.all (by decide +kernel) (pa_cons (pe_lc (own := [("state", 2)]) (g := gName 2) (tt := tYes) rfl scIsTable.nd (pi_seqS (pv 0)) (blkOk_by (own := [("state", 2)]) (N := ["value", "states", "state"]) (sc := defScope sIsTable) (by decide +kernel))
  (fun _ _ _ _ _ => (pg_name (i := 2) scIsTable.nd rfl (by first | exact Or.inl rfl | exact Or.inr rfl))) (fun _ _ _ _ _ => pts_nil)
  (fun _ _ _ _ _ => (pe_call G2 (hr.mono (by decide)) (by rfl) C2.m C2.kp C2.b .nil pass0 (pa_cons (pv 2) (pa_cons (pv 1) pa_nil))))) pa_nil))))))), ?_⟩
    refine ⟨_, rfl, v, rfl, hS.kd, fun H1 s1 => ⟨_, rfl, ?_⟩⟩
    cases hS with
    | flat hf =>
      rw [flat4_seq hf]
      exact iteF (q _ s1)
    | @seq b a vs hq0 hf hl =>
      have hq : Sq K b H a vs := hq0.sq
      refine iteT ⟨_, rfl, .ref a, vs.length, rfl, ?_, _, rfl, rfl, _, rfl, ?_⟩
      · cases b with
        | false => exact .inl ⟨vs, hq.same (b := false) s1, rfl⟩
        | true => exact .inr ⟨vs, hq.same (b := true) s1, rfl⟩
      · refine ite2 (fun e => ?_) (fun e => ?_)
        · have hl : vs.length = n := by
            have e1 : ((vs.length : Nat) : Int) = ((n : Nat) : Int) := V.int.inj (of_decide_eq_true e)
            omega
          refine ⟨_, rfl, a, b, vs, rfl, hq.same s1, fun D nD => lc_it walk_seqS (fun i H' => Same H H' ∧ H' D = some (.lst (((vs.take i).map fun u => isBelV u (n : Int)).map V.bl))) ⟨s1.trans (Same.new nD), upd_same⟩ (fun i H' _ ⟨s5, _⟩ => hq.same s5) ?_ ?_⟩
          · intro i x H2 H3 hi ⟨s5, eD⟩ hY
            obtain ⟨rfl, hx⟩ := hY
            have nD' : H D = none := s1.free nD
            have hfl := hf x (List.mem_of_getElem? hx)
            refine ⟨rfl, ⟨_, rfl, _, rfl, x, _, rfl, Kd.flat hfl, _, eD, ?_, ?_, ?_⟩⟩
            · rw [List.length_map, List.length_map, List.length_take]
              exact small1K (by omega)
            · exact fun b o e => by rw [upd_ne (ne_of_none e nD')]; exact s5 _ _ e
            · rw [upd_same, List.take_add_one, hx, List.map_append, List.map_append]
              rfl
          · intro H2 ⟨s5, eD⟩
            rw [List.take_length] at eD
            refine ⟨D, _, rfl, sqL eD, ?_⟩
            rw [nums_all n vs]
            have z := q _ s5
            rw [show FM.isTab n (.seq (vs.map itemV)) = FM.nums n (vs.map itemV) by
              show (if (vs.map itemV).length = n then FM.nums n (vs.map itemV) else none) = _
              rw [if_pos (by rw [List.length_map]; exact hl)]] at z
            exact z
        · have hl : ¬ vs.length = n := fun z => e (by rw [z]; exact decide_eq_true rfl)
          have z := q _ s1
          rw [show FM.isTab n (.seq (vs.map itemV)) = none by
            show (if (vs.map itemV).length = n then FM.nums n (vs.map itemV) else none) = _
            rw [if_neg (by rw [List.length_map]; exact hl)]] at z
          exact z
theorem Sq.len {b : Bool} {a : Addr} {xs : List V} {H : Hp} (h : Sq K b H a xs) : LenV K (.ref a) H xs.length := by
  cases b with
  | false => exact .inl ⟨xs, h, rfl⟩
  | true => exact .inr ⟨xs, h, rfl⟩
theorem pe_as {X : Cx} {e : Expr} {t t' : TE} (h : PE X e t) (k : ∀ σ H Q, t' σ H Q → t σ H Q) : PE X e t' := ⟨fun pins s σ H Q I q => h.run pins s σ H Q I (k σ H Q q)⟩
theorem room65 {k : Nat} {A : Around} (h : Room k A) : A.units + 65 < cLine := by
  have := h.un
  omega
theorem room64 {k : Nat} {A : Around} (h : Room k A) : A.units + 64 < cLine := by
  have := h.un
  omega
theorem chkW_len {ws : List (FM.Sh (Option Nat))} (h : ¬ (1 ≤ ws.length ∧ ws.length ≤ 12)) : FM.chkW (some ws) = .error (-1) := by
  unfold FM.chkW
  show (if _ then _ else _) = _
  rw [if_neg h]
theorem chkW_in {ws : List (FM.Sh (Option Nat))} (h : 1 ≤ ws.length ∧ ws.length ≤ 12) : FM.chkW (some ws) = match FM.chk [] ws with
    | .ok ms => .ok ms
    | .error k => .error (k : Int) := by
  unfold FM.chkW
  show (if _ then _ else _) = _
  rw [if_pos h]
  all_goals (cases FM.chk [] ws <;> rfl)
theorem chk_cons (ms : List (List Nat)) (w : FM.Sh (Option Nat)) (r : List (FM.Sh (Option Nat))) : FM.chk ms (w :: r) = match FM.step ms w with
    | some m => FM.chk (ms ++ [m]) r
    | none => .error ms.length := rfl
theorem items_back : ∀ {vs : List V} {m : List Nat}, vs.map itemV = m.map some → vs = m.map nV
  | [], [], _ => rfl
  | [], _ :: _, h => by cases h
  | _ :: _, [], h => by cases h
  | u :: r, x :: m, h => by
    rw [List.map_cons, List.map_cons] at h
    obtain ⟨h1, h2⟩ := List.cons.inj h
    rw [items_back h2, List.map_cons]
    congr 1
    cases u with
    | int i =>
      have h3 : (if 0 ≤ i then some i.toNat else none) = some x := h1
      split at h3
      · have := Option.some.inj h3
        show V.int i = V.int (x : Int)
        rw [← this]
        congr 1
        omega
      · cases h3
    | _ => cases h1
/-- states, of the table in slot 3 and what is found in slot 1 -/
def tStates (K : PySem.W.Frag) : TE := fun σ H Q => ∃ tbl fnd us ms w, σ[3]? = some (some tbl) ∧ σ[1]? = some (some (.ref fnd)) ∧ H fnd = some (.lst us) ∧ TupsAt H us ms ∧ ShAt K H tbl w ∧ ∀ H', Same H H' → Q (nV (FM.states ms w)) H'
/-- tuple(x), x the list or tuple of the run's own in slot i -/
def tCopy (i : Nat) : TE := fun σ H Q => ∃ b a vs, σ[i]? = some (some (.ref a)) ∧ Tq b H a vs ∧ ∀ p H', Same H H' → H' p = some (.tup vs) → Q (.ref p) H'
theorem fit_tabs {n : Nat} {ms : List (List Nat)} (h : ∀ t ∈ ms, FM.Tab n t) (hn : n ≤ 60) : ∀ d ∈ ms.map tabD, Fit 1 115383 d := fun d hd => by
  obtain ⟨m, hm, rfl⟩ := List.mem_map.mp hd
  have t := h m hm
  exact fit_tab (n := 0) (by rw [t.len]; exact hn) fun x hx => by have := t.lt x hx; omega
theorem shaped_tabs {n : Nat} {ms : List (List Nat)} (h : ∀ t ∈ ms, FM.Tab n t) (hn : n ≤ 60) : SeqAt.shaped (.list (ms.map tabD)) = true := (Fit.list (fit_tabs h hn) (Nat.le_refl _)).shaped (by decide)
theorem shaped_tab {n : Nat} {m : List Nat} (h : FM.Tab n m) (hn : n ≤ 60) : SeqAt.shaped (tabD m) = true := (fit_tab (n := 0) (by rw [h.len]; exact hn) fun x hx => by have := h.lt x hx; omega).shaped (by decide)
theorem scCheckMachine : FnScope ["value", "found", "at", "table", "states", "told"] ["value"] (defScope sCheckMachine) := ⟨rfl, rfl, rfl, by decide +kernel, rfl, by decide +kernel, by decide +kernel⟩
theorem ok_check_machine {tk tk2 : Tok} (F : Fn K "check_machine" sCheckMachine f fd) (B : Blt mg) (T : BadT P K mg "BadHouse" CH fI) (G : FnOk P w K mg base CX0 1 g gd ["value"] (spIsSequence K)) (C : Cal K mg "is_sequence" g gd ["value"])
    (G2 : FnOk P w K mg base CX0 4 h hd ["value", "states"] (spIsTable K)) (C2 : Cal K mg "is_table" h hd ["value", "states"]) (mM : mg "MOST_COMMANDS" = some (.int 12 tk)) (mS : mg "MOST_STATES" = some (.int 60 tk2)) :
    FnOk P w K mg base (L2.CX P w) 5 f fd ["value"] (spCheckMachine K CH) := by
  refine F.ok scCheckMachine (fun vs H Q E h => ?_) (fun cdv A outer s H vs Q E hr h => ?_)
  · obtain ⟨v, ws, rfl, _⟩ := h
    rfl
  · obtain ⟨v, ws, rfl, hM, q1, q2⟩ := h
    have hu := room65 hr
    have hu4 := room64 hr
    refine ⟨_, (pss_cons (ps_if (PW.pt (pw_or (pt_not (pt_val (pe_call G (hr.mono (by decide)) (by rfl) C.m C.kp C.b .nil pass0 (pa_cons (pv 0) pa_nil)))) (pw_or1 (pt_not (pt_chain op_le op_le (pe_int) (pe_callB (r := rLenOf K) call_lenOf (by rfl) B.len PySem.boot_len (pa_cons (pv 0) pa_nil)) (pe_glob (by rfl) mM (v := (.int 12)) ⟨_, rfl⟩)))))) (pss_one (ps_raiseBad rfl T hr (takes_of rfl rfl rfl rfl) (pa_cons (pe_un un_neg (pe_int)) pa_nil))) pss_nil)
(pss_cons (ps_set (i := 1) scCheckMachine.nd rfl (Or.inl rfl) (pe_lst pa_nil))
(pss_cons (ps_for PassesOwn.leaving rfl (pi_enumS (by rfl) B.enum (pa_cons (pv 0) pa_nil)) (pg_tup rfl (pgs_cons (pg_name (i := 2) scCheckMachine.nd rfl (Or.inl rfl)) (pgs_cons (pg_name (i := 3) scCheckMachine.nd rfl (Or.inl rfl)) pgs_nil)))
(pss_cons (ps_set (i := 4) scCheckMachine.nd rfl (Or.inl rfl) (pe_as (t' := tStates K) (pe_ifExp (PW.pt (pw_and (pt_cmpR op_eq (pe_callB (r := rLenOf K) call_lenOf (by rfl) B.len PySem.boot_len (pa_cons (pv 1) pa_nil)) (pe_int) (nomark _)) (pw_and1 (pt_val (pe_call G (hr.mono (by decide)) (by rfl) C.m C.kp C.b .nil pass0 (pa_cons (pv 3) pa_nil)))))) (pe_callB (r := rLenOf K) call_lenOf (by rfl) B.len PySem.boot_len (pa_cons (pv 3) pa_nil)) (pe_ifExp (pt_cmpR op_gt (pe_callB (r := rLenOf K) call_lenOf (by rfl) B.len PySem.boot_len (pa_cons (pv 1) pa_nil)) (pe_int) (nomark _)) (pe_callB (r := rLenOf K) call_lenOf (by rfl) B.len PySem.boot_len (pa_cons (pe_ix (r := rIxL K) ix_list (pv 1) (pe_int) (fun _ _ => rfl)) pa_nil)) (pe_int))) (by
      rintro σ H Q ⟨tbl, fnd, us, ms, w, i3, i1, hF, hU, hS, q⟩
      refine ⟨_, i1, .ref fnd, us.length, rfl, .inl ⟨us, sqL hF, rfl⟩, rfl, _, rfl, ?_⟩
      cases hU with
      | nil =>
        refine iteP (decide_eq_true rfl) ⟨_, i3, tbl, rfl, hS.kd, fun H1 s1 => ⟨_, rfl, ?_⟩⟩
        cases hS with
        | flat hf =>
          rw [flat4_seq hf]
          exact iteF ⟨_, i1, .ref fnd, 0, rfl, .inl ⟨_, sqL (s1 _ _ hF), rfl⟩, _, _, rfl, rfl, _, rfl, iteN (by decide) (q _ s1)⟩
        | @seq b a vs hq0 hf hl =>
          have hq : Sq K b H a vs := hq0.sq
          refine iteT ⟨_, i3, .ref a, vs.length, rfl, (hq.same s1).len, ?_⟩
          have z := q _ s1
          rw [show FM.states [] (FM.Sh.seq (vs.map itemV)) = vs.length by show (vs.map itemV).length = _; rw [List.length_map]] at z
          exact z
      | @cons u m us ms hu hr =>
        obtain ⟨p, rfl, ep⟩ := hu
        refine iteN (int_ndec (by simp only [List.length_cons]; omega)) ⟨_, i1, .ref fnd, _, rfl, .inl ⟨_, sqL hF, rfl⟩, _, _, rfl, rfl, _, rfl, iteP (decide_eq_true (by simp only [List.length_cons]; omega)) ?_⟩
        refine ⟨_, i1, fnd, _, _, _, rfl, rfl, sqL hF, atI_nat (j := 0) rfl, .ref p, m.length, rfl, .inr ⟨_, sqT ep, by rw [List.length_map]⟩, ?_⟩
        exact q _ (Same.refl H))))
(pss_cons (ps_if (PW.pt (pw_or (pt_not (pt_chain op_le op_le (pe_int) (pv 4) (pe_glob (by rfl) mS (v := (.int 60)) ⟨_, rfl⟩))) (pw_or1 (pt_not (pt_val (pe_call G2 (hr.mono (by decide)) (by rfl) C2.m C2.kp C2.b .nil pass0 (pa_cons (pv 3) (pa_cons (pv 4) pa_nil)))))))) (pss_one (ps_raiseBad rfl T hr (takes_of rfl rfl rfl rfl) (pa_cons (pv 2) pa_nil))) pss_nil)
(pss_cons (ps_set (i := 5) scCheckMachine.nd rfl (Or.inl rfl) (pe_as (t' := tCopy 3) (pe_callTy (T := "tuple") (r := rTupOf K) call_tupOf (by rfl) B.tuple (by decide +kernel) (pa_cons (pv 3) pa_nil)) (by
      rintro σ H Q ⟨b, a, vs, i3, hq, q⟩
      cases b with
      | false => exact ⟨_, i3, a, vs, rfl, .inl ⟨sqL hq, fun l nl => q l _ (Same.new nl) upd_same⟩⟩
      | true => exact ⟨_, i3, a, vs, rfl, .inr ⟨sqT hq, q a _ (Same.refl H) hq⟩⟩)))
(pss_cons (ps_if (PW.pt (pw_or (pt_cmpR (r := rInD K) (op_inD hu) (pv 5) (pv 1) (by rfl)) (pw_or1 (pt_cmpR (op_eqD hu4) (pv 5) (pe_tupRg rfl (by rfl) B.tuple (prg_1 (by rfl) B.range (pv 4))) (nomark _))))) (pss_one (ps_raiseBad rfl T hr (takes_of rfl rfl rfl rfl) (pa_cons (pv 2) pa_nil))) pss_nil)
(pss_one (ps_expr (pe_bm PySem.F.plainAttrs_list PySem.F.slot_list_append PySem.F.type_list_append mt_append (pv 1) (pa_cons (pv 5) pa_nil)))))))))
(pss_one (ps_ret (pe_callTy (T := "tuple") (r := rTupOf K) call_tupOf (by rfl) B.tuple (by decide +kernel) (pa_cons (pv 1) pa_nil))))))), ?_⟩
    refine ⟨_, rfl, v, rfl, hM.kd, fun H1 s1 => ⟨_, rfl, ?_⟩⟩
    cases hM with
    | flat hf =>
      rw [flat4_seq hf]
      exact iteT (iteT ⟨_, rfl, _, rfl, fun d nd => q2 _ rfl _ d (s1.trans (Same.new nd)) upd_same⟩)
    | @seq b a vs ws hq hp =>
      have nl := pLen hp
      refine iteF ⟨_, rfl, .ref a, _, rfl, (hq.same s1).len, _, _, rfl, rfl, _, rfl, ?_⟩
      by_cases hlen : 1 ≤ ws.length ∧ ws.length ≤ 12
      case neg =>
        have bad := chkW_len hlen
        by_cases h1 : (1 : Int) ≤ ((vs.length : Nat) : Int)
        · refine iteP (decide_eq_true h1) ⟨_, _, rfl, rfl, _, rfl, ?_⟩
          refine iteP (by show (!decide (((vs.length : Nat) : Int) ≤ 12)) = true; rw [decide_eq_false (by omega)]; rfl) ?_
          exact ⟨_, rfl, _, rfl, fun d nd => q2 _ bad _ d (s1.trans (Same.new nd)) upd_same⟩
        · refine iteN (fun z => h1 (of_decide_eq_true z)) ⟨_, rfl, iteT ?_⟩
          exact ⟨_, rfl, _, rfl, fun d nd => q2 _ bad _ d (s1.trans (Same.new nd)) upd_same⟩
      case pos =>
        have inn := chkW_in hlen
        refine iteP (decide_eq_true (by omega)) ⟨_, _, rfl, rfl, _, rfl, ?_⟩
        refine iteN (by show ¬ (!decide (((vs.length : Nat) : Int) ≤ 12)) = true; rw [decide_eq_true (by omega)]; decide) ?_
        refine ⟨Nat.zero_le _, fun o no => ?_⟩
        have no' : H o = none := s1.free no
        refine ⟨_, rfl, a, b, vs, rfl, (hq.same s1).same (Same.new no), for_it (walk_enumS (xs := vs)) (fun i σ H' => ∃ us ms y2 y3 y4 y5, σ = [some (.ref a), some (.ref o), y2, y3, y4, y5] ∧ Same H H' ∧ H' o = some (.lst us) ∧ TupsAt H' us ms ∧ ms.length = i ∧ (ms = [] ∨ ∃ n, FM.Fnd n ms) ∧ FM.chk [] ws = FM.chk ms (ws.drop i))
          ⟨[], [], _, _, _, _, rfl, s1.trans (Same.new no), upd_same, .nil, rfl, .inl rfl, rfl⟩ (fun i σ H' _ hP => ?_) ?_ ?_⟩
        · obtain ⟨_, _, _, _, _, _, _, s2, _⟩ := hP
          exact hq.same s2
        · intro i v H2 H3 H4 hi hP hY
          obtain ⟨us, ms, y2, y3, y4, y5, rfl, s2, eo, hU, em, hF, hc⟩ := hP
          obtain ⟨U, x, y, rfl, nU, rfl, f1, f2⟩ := hY
          cases f1
          obtain ⟨w, hw, hS⟩ := pAt2 hp f2
          have hi' : i < ws.length := by omega
          have dw : ws.drop i = w :: ws.drop (i + 1) := by
            rw [List.drop_eq_getElem_cons hi']
            rw [List.getElem?_eq_getElem hi'] at hw
            rw [Option.some.inj hw]
          rw [dw, chk_cons] at hc
          have sU : Same H3 (upd H3 U (.tup [.int (i : Nat), y])) := Same.new nU
          have s3 : Same H (upd H3 U (.tup [.int (i : Nat), y])) := s2.trans sU
          refine ⟨U, _, rfl, sqT upd_same, rfl, _, _, rfl, _, _, rfl, rfl, ?_⟩
          refine ⟨y, o, us, ms, w, rfl, rfl, sU _ _ eo, hU.same sU, hS.same s3, fun H5 s5' => ?_⟩
          have s5 := s3.trans s5'
          have eo5 := s5' _ _ (sU _ _ eo)
          have hU5 := (hU.same sU).same s5'
          have hS5 := hS.same s5
          have refuse : FM.step ms w = none → ∀ H6 d, Same H H6 → XdAt H6 d (i : Int) → E (.ref CH) (some d) H6 := fun e H6 d s6 x6 => by
            rw [e] at hc
            have hc' : FM.chk [] ws = .error ms.length := hc
            refine q2 (i : Int) ?_ H6 d s6 x6
            rw [inn, hc']
            show Except.error ((ms.length : Nat) : Int) = _
            rw [em]
          refine ⟨_, rfl, _, _, rfl, rfl, _, rfl, ?_⟩
          by_cases hst : 1 ≤ FM.states ms w ∧ FM.states ms w ≤ 60
          case neg =>
            have no : FM.step ms w = none := by unfold FM.step; rw [if_neg hst]
            by_cases h1 : (1 : Int) ≤ ((FM.states ms w : Nat) : Int)
            · refine iteP (decide_eq_true h1) ⟨_, _, rfl, rfl, _, rfl, ?_⟩
              refine iteP (by show (!decide (((FM.states ms w : Nat) : Int) ≤ 60)) = true; rw [decide_eq_false (by omega)]; rfl) (iteT ?_)
              exact ⟨_, rfl, _, rfl, fun d nd => refuse no _ d (s5.trans (Same.new nd)) upd_same⟩
            · refine iteN (fun z => h1 (of_decide_eq_true z)) ⟨_, rfl, iteT (iteT ?_)⟩
              exact ⟨_, rfl, _, rfl, fun d nd => refuse no _ d (s5.trans (Same.new nd)) upd_same⟩
          case pos =>
            refine iteP (decide_eq_true (by omega)) ⟨_, _, rfl, rfl, _, rfl, ?_⟩
            refine iteN (by show ¬ (!decide (((FM.states ms w : Nat) : Int) ≤ 60)) = true; rw [decide_eq_true (by omega)]; decide) ?_
            refine ⟨_, rfl, _, rfl, y, _, w, rfl, hS5, fun H6 s6' => ⟨_, rfl, ?_⟩⟩
            have s6 := s5.trans s6'
            cases ht : FM.isTab (FM.states ms w) w with
            | none =>
              have no : FM.step ms w = none := by unfold FM.step; rw [if_pos hst, ht]
              refine iteT ?_
              exact ⟨_, rfl, _, rfl, fun d nd => refuse no _ d (s6.trans (Same.new nd)) upd_same⟩
            | some m =>
              refine iteF ?_
              cases hS with
              | flat hf => cases ht
              | @seq b' a' vs' hq' hf' hl' =>
                have hn : (if (vs'.map itemV).length = FM.states ms (.seq (vs'.map itemV)) then FM.nums (FM.states ms (.seq (vs'.map itemV))) (vs'.map itemV) else none) = some m := ht
                split at hn
                case isFalse => cases hn
                case isTrue hlen2 =>
                obtain ⟨hx, hlt⟩ := FM.nums_tab hn
                have ev := items_back hx
                have tm : FM.Tab (FM.states ms (.seq (vs'.map itemV))) m := ⟨by rw [← hlen2, hx, List.length_map], hlt⟩
                have fT : ∀ t ∈ ms, FM.Tab (FM.states ms (.seq (vs'.map itemV))) t := fun t ht => by
                  rcases hF with rfl | ⟨n, F⟩
                  · cases ht
                  · rw [FM.states_cons F (fun z => by rw [z] at ht; cases ht)]
                    exact F.tabs t ht
                refine ⟨b', a', vs', rfl, (hq'.same s6), fun p H7 s7' e7 => ?_⟩
                have s7 := s6.trans s7'
                have t7 : TupAt H7 (.ref p) m := ⟨p, rfl, by rw [← ev]; exact e7⟩
                have eo7 := s7' _ _ (s6' _ _ eo5)
                have hU7 := (hU5.same s6').same s7'
                have stp : FM.step ms (.seq (vs'.map itemV)) = if m ∈ ms ∨ m = List.range (FM.states ms (.seq (vs'.map itemV))) then none else some m := by
                  unfold FM.step
                  rw [if_pos hst, ht]
                refine ⟨_, rfl, _, rfl, tabD m, ms.map tabD, t7.dp, .lst (sqL eo7) (dp_tups hU7), shaped_tab tm hst.2, shaped_tabs fT hst.2, _, rfl, ?_⟩
                rw [any_tab]
                by_cases hin : m ∈ ms
                · refine iteP (decide_eq_true hin) (iteT ?_)
                  exact ⟨_, rfl, _, rfl, fun d nd => refuse (by rw [stp, if_pos (.inl hin)]) _ d (s7.trans (Same.new nd)) upd_same⟩
                · refine iteN (fun z => hin (of_decide_eq_true z)) ?_
                  refine ⟨_, rfl, _, rfl, _, rfl, rgOk (by omega), fun l nl => ?_⟩
                  have sl : Same H7 (upd H7 l (.tup (rgV 0 ((FM.states ms (.seq (vs'.map itemV)) : Nat) : Int)))) := Same.new nl
                  have tl : TupAt (upd H7 l (.tup (rgV 0 ((FM.states ms (.seq (vs'.map itemV)) : Nat) : Int)))) (.ref l) (List.range (FM.states ms (.seq (vs'.map itemV)))) := ⟨l, rfl, by rw [upd_same, rgV_nV]⟩
                  refine ⟨_, _, (t7.same sl).dp, tl.dp, shaped_tab tm hst.2, shaped_tab (FM.range_tab _) hst.2, _, rfl, ?_⟩
                  rw [eqv_tab]
                  by_cases hid : m = List.range (FM.states ms (.seq (vs'.map itemV)))
                  · refine iteP (decide_eq_true hid) ?_
                    exact ⟨_, rfl, _, rfl, fun d nd => refuse (by rw [stp, if_pos (.inr hid)]) _ d ((s7.trans sl).trans (Same.new nd)) upd_same⟩
                  · refine iteN (fun z => hid (of_decide_eq_true z)) ?_
                    have stp2 : FM.step ms (.seq (vs'.map itemV)) = some m := by rw [stp, if_neg (fun z => z.elim hin hid)]
                    rw [stp2] at hc
                    have hc2 : FM.chk [] ws = FM.chk (ms ++ [m]) (ws.drop (i + 1)) := hc
                    have ul := pLen hU7
                    have s8 := s7.trans sl
                    have t8 := t7.same sl
                    refine ⟨_, rfl, .inl ⟨rfl, _, sqL (sl _ _ eo7)⟩, _, rfl, o, us, _, rfl, rfl, sl _ _ eo7, small100 (by omega), ?_⟩
                    refine ⟨_, ms ++ [m], _, _, _, _, rfl, fun b o' e' => ?_, upd_same, ?_, by rw [List.length_append, em]; rfl, .inr ⟨_, FM.step_fnd stp2 ?_⟩, hc2⟩
                    · rw [upd_ne (ne_of_none e' no')]
                      exact s8 _ _ e'
                    · have up : ∀ {v : V} {m' : List Nat}, TupAt (upd H7 l (.tup (rgV 0 ((FM.states ms (.seq (vs'.map itemV)) : Nat) : Int)))) v m' → TupAt (upd (upd H7 l (.tup (rgV 0 ((FM.states ms (.seq (vs'.map itemV)) : Nat) : Int)))) o (.lst (us ++ [.ref p]))) v m' := fun {v m'} ⟨t, e1, e2⟩ =>
                        ⟨t, e1, by rw [upd_ne (ne_of e2 (sl _ _ eo7) (by intro z; cases z))]; exact e2⟩
                      exact pSnoc (up t8) (Paired.mapP (hU7.same sl) fun _ _ h => up h)
                    · rcases hF with rfl | ⟨n, F⟩
                      · exact .inl rfl
                      · by_cases hne : ms = []
                        · exact .inl hne
                        · exact .inr (by rw [FM.states_cons F hne]; exact F)
        · intro σ H2 hP
          obtain ⟨us, ms, y2, y3, y4, y5, rfl, s2, eo, hU, em, hF, hc⟩ := hP
          rw [nl, List.drop_length] at hc
          have hc' : FM.chk [] ws = .ok ms := hc
          refine ⟨_, rfl, o, us, rfl, .inl ⟨sqL eo, fun l nl => q1 ms (by rw [inn, hc']) _ l (s2.trans (Same.new nl)) ⟨us, upd_same, hU.same (Same.new nl)⟩⟩⟩
theorem scDoneBy : FnScope ["tables", "queue", "states", "command", "state"] ["tables", "queue"] (defScope sDoneBy) := ⟨rfl, rfl, rfl, by decide +kernel, rfl, by decide +kernel, by decide +kernel⟩
theorem doneBy_take (n : Nat) (ms : List (List Nat)) (q : List Nat) (i c : Nat) (h : q[i]? = some c) : FM.doneBy n ms (q.take (i + 1)) = FM.comp (FM.doneBy n ms (q.take i)) (FM.tab ms c) := by
  unfold FM.doneBy
  rw [List.take_add_one, h, List.foldl_append]
  rfl
theorem tup_at {H : Hp} {us : List V} {ms : List (List Nat)} {c : Nat} (h : TupsAt H us ms) (hc : c < ms.length) : ∃ p, us[c]? = some (.ref p) ∧ H p = some (.tup ((FM.tab ms c).map nV)) := by
  obtain ⟨u, hu, p, rfl, e⟩ := pAt h (show ms[c]? = some (FM.tab ms c) by unfold FM.tab; rw [List.getD_eq_getElem?_getD, List.getElem?_eq_getElem hc]; rfl)
  exact ⟨p, hu, e⟩
theorem ok_done_by (F : Fn K "done_by" sDoneBy f fd) (B : Blt mg) : FnOk P w K mg base CX0 1 f fd ["tables", "queue"] (spDoneBy K) := by
  refine F.ok scDoneBy (fun vs H Q E h => ?_) (fun cdv A outer s H vs Q E hr h => ?_)
  · obtain ⟨t, b, a, n, ms, q, rfl, _⟩ := h
    rfl
  · obtain ⟨t, b, a, n, ms, q, rfl, hT, M, hq, hb, k⟩ := h
    refine ⟨_, PSs.nox (pss_cons (ps_set (i := 2) scDoneBy.nd rfl (Or.inl rfl) (pe_listRg rfl (by rfl) B.list (prg_1 (by rfl) B.range (pe_callB (r := rLenOf K) call_lenOf (by rfl) B.len PySem.boot_len (pa_cons (pe_ix (r := rIxT K) ix_tup (pv 0) (pe_int) (fun _ _ => rfl)) pa_nil)))))
(pss_cons (ps_for PassesOwn.never rfl (pi_seqS (pv 1)) (pg_name (i := 3) scDoneBy.nd rfl (Or.inr rfl))
(pss_one (ps_setLc (own := [("state", 4)]) (g := gName 4) (tt := tYes) (i := 2) rfl scDoneBy.nd rfl rfl (sw_true rfl rfl rfl (by decide +kernel)) (pi_list (pv 2)) (blkOk_by (own := [("state", 4)]) (N := ["tables", "queue", "states", "command", "state"]) (sc := defScope sDoneBy) (by decide +kernel))
  (fun _ _ _ _ _ => (pg_name (i := 4) scDoneBy.nd rfl (by first | exact Or.inl rfl | exact Or.inr rfl))) (fun _ _ _ _ _ => pts_nil)
  (fun _ _ _ _ _ => (pe_ix (r := rIxT K) ix_tup (pe_ix (r := rIxT K) ix_tup (pv 0) (pv 3) (fun _ _ => rfl)) (pv 4) (fun _ _ => rfl))))))
(pss_one (ps_ret (pe_callTy (T := "tuple") (r := rTupOf K) call_tupOf (by rfl) B.tuple (by decide +kernel) (pa_cons (pv 2) pa_nil)))))), ?_⟩
    have hT' := hT
    obtain ⟨us, eT, hU⟩ := hT'
    have m1 := M.m1
    have n60 := M.n60
    obtain ⟨p0, hp0, ep0⟩ := tup_at hU (show 0 < ms.length by omega)
    have l0 : ((FM.tab ms 0).map nV).length = n := by rw [List.length_map]; exact (M.tab (by omega)).len
    refine ⟨_, rfl, t, us, _, _, rfl, rfl, sqT eT, atI_nat (j := 0) hp0, .ref p0, n, rfl, .inr ⟨_, sqT ep0, l0.symm⟩, _, rfl, rgOk (by omega), fun o no => ?_⟩
    rw [rgV_nV]
    have s0 : Same H (upd H o (.lst ((List.range n).map nV))) := Same.new no
    refine ⟨_, rfl, a, b, _, rfl, hq.same s0, for_it (walk_seqS (xs := q.map nV)) (fun i σ H' => ∃ o' y3, σ = [some (.ref t), some (.ref a), some (.ref o'), y3, none] ∧ Same H H' ∧ H' o' = some (.lst ((FM.doneBy n ms (q.take i)).map nV)))
      ⟨o, _, rfl, s0, upd_same⟩ (fun i σ H' _ ⟨_, _, _, s2, _⟩ => hq.same s2) ?_ ?_⟩
    · intro i x σ H1 H2 hi hP hY
      obtain ⟨o', y3, rfl, s2, eo⟩ := hP
      obtain ⟨rfl, hx⟩ := hY
      obtain ⟨c, hc, rfl⟩ := nVs_inv hx
      have lc := hb c (List.mem_of_getElem? hc)
      have hqi : ∀ c ∈ q.take i, c < ms.length := fun c h => hb c (List.mem_of_mem_take h)
      have tS := FM.done_tab M hqi
      have tC := M.tab lc
      obtain ⟨p, hp, ep⟩ := tup_at hU lc
      refine ⟨_, rfl, o', rfl, ⟨_, sqL eo⟩, fun D nD => lc_list (xs := (FM.doneBy n ms (q.take i)).map nV) (fun j H' => Same H H' ∧ H' o' = some (.lst ((FM.doneBy n ms (q.take i)).map nV)) ∧ H' D = some (.lst ((FM.comp ((FM.doneBy n ms (q.take i)).take j) (FM.tab ms c)).map nV)))
        ⟨s2.trans (Same.new nD), by rw [upd_ne (ne_of_none eo nD)]; exact eo, upd_same⟩ (fun j H' _ ⟨_, e, _⟩ => sqL e) ?_ ?_⟩
      · intro j x H' hx ⟨s5, eo5, eD⟩
        have nD' : H D = none := s2.free nD
        obtain ⟨z, hz, rfl⟩ := nVs_inv hx
        have lz : z < n := tS.lt z (List.mem_of_getElem? hz)
        have zl : z < (FM.tab ms c).length := by rw [tC.len]; exact lz
        have hjl := (List.getElem?_eq_some_iff.mp hz).1
        have hit : (FM.tab ms c)[z]? = some ((FM.tab ms c).getD z 0) := by rw [List.getD_eq_getElem?_getD, List.getElem?_eq_getElem zl]; rfl
        refine ⟨rfl, ⟨_, rfl, _, rfl, t, us, _, _, rfl, rfl, sqT (s5 _ _ eT), atI_nat hp, _, rfl, p, _, _, _, rfl, rfl, sqT (s5 _ _ ep), atI_nat (nVs_get hit), _, eD, ?_, ?_, ?_, ?_⟩⟩
        · rw [List.length_map, FM.comp_len, List.length_take]
          have := tS.len
          exact small100 (by omega)
        · exact fun b o e => by rw [upd_ne (ne_of_none e nD')]; exact s5 _ _ e
        · have : o' ≠ D := fun z => by rw [z, nD] at eo; cases eo
          rw [upd_ne this]
          exact eo5
        · rw [upd_same, List.take_add_one, hz]
          show some (HO.lst _) = some (HO.lst _)
          congr 2
          unfold FM.comp
          rw [List.map_append, List.map_append]
          rfl
      · intro H' ⟨s5, eo5, eD⟩
        refine ⟨D, _, rfl, s5, ?_⟩
        rw [List.length_map, List.take_length] at eD
        rw [doneBy_take n ms q i c hc]
        exact eD
    · intro σ H1 ⟨o', y3, e, s2, eo⟩
      subst e
      rw [List.length_map, List.take_length] at eo
      exact ⟨_, rfl, o', _, rfl, .inl ⟨sqL eo, fun l nl => k _ l (s2.trans (Same.new nl)) ⟨l, rfl, upd_same⟩⟩⟩
theorem scDoneTable : FnScope ["tables", "queue", "told", "at", "command"] ["tables", "queue"] (defScope sDoneTable) := ⟨rfl, rfl, rfl, by decide +kernel, rfl, by decide +kernel, by decide +kernel⟩
theorem QCase.kd {m : Nat} {v : V} {r : Except Int (List Nat)} {H : Hp} : QCase K H m v r → Kd K H v
  | .flat h => Kd.flat h
  | .ok h _ _ => h.kd
  | .bad h _ _ _ _ => h.kd
theorem below_nV {c m : Nat} (h : c < m) : isBelV (nV c) (m : Int) = true := by
  show (decide (0 ≤ (c : Int)) && decide ((c : Int) < (m : Int))) = true
  rw [decide_eq_true (by omega), decide_eq_true (by omega)]
  rfl
theorem ok_done_table {tk : Tok} (F : Fn K "done_table" sDoneTable f fd) (B : Blt mg) (T : BadT P K mg "BadQueue" CQ fJ) {f1 f2 f3 f4 : Addr} {d1 d2 d3 d4 : FuncData}
    (G : FnOk P w K mg base (L2.CX P w) 5 f1 d1 ["value"] (spCheckMachine K CH)) (C : Cal K mg "check_machine" f1 d1 ["value"])
    (G2 : FnOk P w K mg base CX0 1 f2 d2 ["value"] (spIsSequence K)) (C2 : Cal K mg "is_sequence" f2 d2 ["value"])
    (G3 : FnOk P w K mg base CX0 3 f3 d3 ["value", "most"] (spIsBelow K)) (C3 : Cal K mg "is_below" f3 d3 ["value", "most"])
    (G4 : FnOk P w K mg base CX0 1 f4 d4 ["tables", "queue"] (spDoneBy K)) (C4 : Cal K mg "done_by" f4 d4 ["tables", "queue"]) (mM : mg "MOST_QUEUE" = some (.int 10000 tk)) :
    FnOk P w K mg base (L2.CX P w) 6 f fd ["tables", "queue"] (spDoneTable K CH CQ) := by
  refine F.ok scDoneTable (fun vs H Q E h => ?_) (fun cdv A outer s H vs Q E hr h => ?_)
  · obtain ⟨v, qv, ws, rfl, _⟩ := h
    rfl
  · obtain ⟨v, qv, ws, rfl, hM, hK, q1, q2⟩ := h
    refine ⟨_, (pss_cons (ps_set (i := 2) scDoneTable.nd rfl (Or.inl rfl) (pe_call G (hr.mono (by decide)) (by rfl) C.m C.kp C.b .nil (passes_call (takes_of rfl rfl rfl rfl) fun _ _ _ _ h => h) (pa_cons (pv 0) pa_nil)))
(pss_cons (ps_if (PW.pt (pw_or (pt_not (pt_val (pe_call G2 (hr.mono (by decide)) (by rfl) C2.m C2.kp C2.b .nil pass0 (pa_cons (pv 1) pa_nil)))) (pw_or1 (pt_cmpR op_gt (pe_callB (r := rLenOf K) call_lenOf (by rfl) B.len PySem.boot_len (pa_cons (pv 1) pa_nil)) (pe_glob (by rfl) mM (v := (.int 10000)) ⟨_, rfl⟩) (nomark _))))) (pss_one (ps_raiseBad rfl T hr (takes_of rfl rfl rfl rfl) (pa_cons (pe_un un_neg (pe_int)) pa_nil))) pss_nil)
(pss_cons (ps_for PassesOwn.leaving rfl (pi_enumS (by rfl) B.enum (pa_cons (pv 1) pa_nil)) (pg_tup rfl (pgs_cons (pg_name (i := 3) scDoneTable.nd rfl (Or.inl rfl)) (pgs_cons (pg_name (i := 4) scDoneTable.nd rfl (Or.inl rfl)) pgs_nil)))
(pss_one (ps_if (pt_not (pt_val (pe_call G3 (hr.mono (by decide)) (by rfl) C3.m C3.kp C3.b .nil pass0 (pa_cons (pv 4) (pa_cons (pe_callB (r := rLenOf K) call_lenOf (by rfl) B.len PySem.boot_len (pa_cons (pv 2) pa_nil)) pa_nil))))) (pss_one (ps_raiseBad rfl T hr (takes_of rfl rfl rfl rfl) (pa_cons (pv 3) pa_nil))) pss_nil)))
(pss_one (ps_ret (pe_call G4 (hr.mono (by decide)) (by rfl) C4.m C4.kp C4.b .nil pass0 (pa_cons (pv 2) (pa_cons (pv 1) pa_nil)))))))), ?_⟩
    refine ⟨_, rfl, v, ws, rfl, hM, fun ms hms H1 t s1 hT => ?_, fun i hi H' d s' x => q1 i hi H' d s' x⟩
    obtain ⟨r, hq, q3, q4⟩ := q2 ms hms
    obtain ⟨n, M⟩ := FM.chkW_mach hms
    refine ⟨_, rfl, qv, rfl, hK.same s1, fun H2 s2' => ⟨_, rfl, ?_⟩⟩
    have s2 := s1.trans s2'
    have hT2 := hT.same s2'
    cases hq with
    | flat hf =>
      rw [flat4_seq hf]
      exact iteT (iteT ⟨_, rfl, _, rfl, fun d nd => q4 _ rfl _ d (s2.trans (Same.new nd)) upd_same⟩)
    | @ok b a q hS hl hb =>
      refine iteF ⟨_, rfl, .ref a, _, rfl, (hS.same s2).len, _, _, rfl, rfl, _, rfl, iteN (by simp; omega) ?_⟩
      refine ⟨_, rfl, a, b, _, rfl, hS.same s2, for_it (walk_enumS (xs := q.map nV)) (fun i σ H' => ∃ y3 y4, σ = [some v, some (.ref a), some (.ref t), y3, y4] ∧ Same H2 H') ⟨_, _, rfl, Same.refl _⟩ (fun i σ H' _ ⟨_, _, _, s3⟩ => hS.same (s2.trans s3)) ?_ ?_⟩
      · intro i x σ H3 H4 hi hP hY
        obtain ⟨y3, y4, rfl, s3⟩ := hP
        obtain ⟨U, x, y, rfl, nU, rfl, f1, f2⟩ := hY
        cases f1
        obtain ⟨c, hc, rfl⟩ := nVs_inv f2
        have sU : Same H3 (upd H3 U (.tup [.int (i : Nat), nV c])) := Same.new nU
        obtain ⟨us, eT, hU⟩ := hT2.same (s3.trans sU)
        refine ⟨U, _, rfl, sqT upd_same, rfl, _, _, rfl, _, _, rfl, rfl, ?_⟩
        refine ⟨_, rfl, _, rfl, .ref t, ms.length, rfl, .inr ⟨us, sqT eT, (pLen hU).symm⟩, nV c, _, rfl, .int _, _, rfl, ?_⟩
        rw [below_nV (hb c (List.mem_of_getElem? hc))]
        exact iteF ⟨_, _, rfl, s3.trans sU⟩
      · intro σ H3 ⟨y3, y4, e, s3⟩
        subst e
        exact ⟨_, rfl, _, rfl, t, b, a, n, ms, q, rfl, hT2.same s3, M, hS.same (s2.trans s3), hb, fun H' p s' h' => q3 n q rfl M H' p ((s2.trans s3).trans s') h'⟩
    | @bad b a q u r hS hf hl hb hz =>
      have hlen : (q.map nV ++ u :: r).length = q.length + r.length + 1 := by simp; omega
      refine iteF ⟨_, rfl, .ref a, _, rfl, (hS.same s2).len, _, _, rfl, rfl, _, rfl, iteN (by rw [hlen]; simp; omega) ?_⟩
      refine ⟨_, rfl, a, b, _, rfl, hS.same s2, for_it (walk_enumS (xs := q.map nV ++ u :: r)) (fun i σ H' => i ≤ q.length ∧ ∃ y3 y4, σ = [some v, some (.ref a), some (.ref t), y3, y4] ∧ Same H2 H') ⟨Nat.zero_le _, _, _, rfl, Same.refl _⟩ (fun i σ H' _ ⟨_, _, _, _, s3⟩ => hS.same (s2.trans s3)) ?_ ?_⟩
      · intro i x σ H3 H4 hi hP hY
        obtain ⟨li, y3, y4, rfl, s3⟩ := hP
        obtain ⟨U, x, y, rfl, nU, rfl, f1, f2⟩ := hY
        cases f1
        have sU : Same H3 (upd H3 U (.tup [.int (i : Nat), y])) := Same.new nU
        obtain ⟨us, eT, hU⟩ := hT2.same (s3.trans sU)
        have f2' : (q.map nV ++ u :: r)[i]? = some y := f2
        refine ⟨U, _, rfl, sqT upd_same, rfl, _, _, rfl, _, _, rfl, rfl, ?_⟩
        by_cases hiq : i = q.length
        · subst hiq
          rw [List.getElem?_append_right (by rw [List.length_map]; exact Nat.le_refl _), List.length_map, Nat.sub_self] at f2'
          have e : u = y := Option.some.inj f2'
          subst e
          refine ⟨_, rfl, _, rfl, .ref t, ms.length, rfl, .inr ⟨us, sqT eT, (pLen hU).symm⟩, u, _, rfl, Kd.flat hf, _, rfl, ?_⟩
          rw [hz]
          refine iteT ?_
          exact ⟨_, rfl, _, rfl, fun d nd => q4 _ rfl _ d (((s2.trans s3).trans sU).trans (Same.new nd)) upd_same⟩
        · rw [List.getElem?_append_left (by rw [List.length_map]; omega)] at f2'
          obtain ⟨c, hc, rfl⟩ := nVs_inv f2'
          refine ⟨_, rfl, _, rfl, .ref t, ms.length, rfl, .inr ⟨us, sqT eT, (pLen hU).symm⟩, nV c, _, rfl, .int _, _, rfl, ?_⟩
          rw [below_nV (hb c (List.mem_of_getElem? hc))]
          exact iteF ⟨by omega, _, _, rfl, s3.trans sU⟩
      · intro σ H3 ⟨li, _⟩
        rw [hlen] at li
        omega
end
end K2
end
section
set_option maxHeartbeats 4000000
/-! A dict comprehension whose keys are tuples. -/
namespace K2
open PySem PySem.Spec PyProof.Rows L2
/-- dict[k] = v within such a comprehension -/
theorem put_tup {X : Cx} {pins : List (Addr × Obj)} {σ : L2.St} {H : Hp} {s : Shared} {E : Value → Shared → Prop} {D b : Addr} {kvs : List (List L2.Key × V)} {k : List L2.Key} {v : V} {r : Value} {Q : Unit → Shared → Prop} (hu : X.A.units + 1 < cLine)
    (I : Inv X pins σ H s) (hD : H D = some (.dT kvs)) (hb : H b = some (.tup (k.map kV))) (hz : kvs.length < sizeLine) (rv : RelV v r) (go : ∀ s', Inv X pins σ (upd H D (.dT (putK kvs k v))) s' → Q () s') :
    wpAny (model X.prog X.w) X.A (dictSet D (.ref b) r) Q E s := by
  obtain ⟨n1, nsys, entries, rel, stands⟩ := dt_of I.hok hD
  have n2 : entries.length ≤ sizeLine := by rw [← Paired.length rel]; exact n1
  have n3 : (putK kvs k v).length ≤ sizeLine := Nat.le_trans (length_putK kvs k v) hz
  refine wpAny_dictSet_heap (knd := tupleKind (mixKind X.prog X.w)) (hsz := n2) (show X.A.units < cLine by omega) (key_of I.hok hb) stands fun h' stands' sb => go _ ?_
  obtain ⟨q, es, ep, hq, t2, t3, t4, _, t5⟩ := stands'
  refine d_write I (by rw [hD]; exact True.intro) sb ⟨q, hq⟩ ⟨n3, nsys, _, (rel.put k hb rv).keeps fun c ys ec => ?_, q, es, ep, hq, t2, t3, t4, t5⟩
  rw [upd_ne (ne_of ec hD (fun z => nomatch z))]
  exact ec
section
variable {X : Cx}
/-- {k: v for target in iter}, the keys tuples: D the new dict -/
def tDcT (wi : TI) (g : TG) (tk tv : TE) (own : List Nat) : TE := fun σ H Q => wi σ H fun J H1 => ∀ D, H1 D = none → ∃ W : Nat → Nat → Hp → Prop, (∃ m, W 0 m (upd H1 D (.dT []))) ∧ ∀ i m H, W i m H →
  (J.stop i H ∧ Q (.ref D) H) ∨ (J.go i H ∧ ∃ Nx : Hp → Prop, (∀ H', Nx H' → ∃ m', m' < m ∧ W (i + 1) m' H') ∧ ∀ x H', J.yld i H x H' → g x (wipe σ own) H' fun σ2 H2 => wipe σ2 own = wipe σ own ∧
    tk σ2 H2 fun y H3 => tv σ2 H3 fun z H4 => ∃ b kvs k, y = .ref b ∧ H4 b = some (.tup (List.map kV k)) ∧ H4 D = some (.dT kvs) ∧ kvs.length < sizeLine ∧ Nx (upd H4 D (.dT (putK kvs k z))))
theorem pe_dcT {kx vx tg iter : Expr} {scope : Scope} {own : List (Str × Nat)} {pos : Pos} {wi : TI} {g : TG} {tk tv : TE} (hc : X.calm = true) (hu : X.A.units + 1 < cLine) (hN : X.N.Nodup) (walked : PI X tg iter wi) (bk : BlkOk X.N X.env.scope scope own)
    (target : ∀ (s : Shared) (H : Hp) (C : Addr) (cl : List (Str × Addr)) (fp : List Addr), PG (X.blk s H scope (compEnvC scope cl C X.env) fp) tg g)
    (key : ∀ (s : Shared) (H : Hp) (C : Addr) (cl : List (Str × Addr)) (fp : List Addr), PE (X.blk s H scope (compEnvC scope cl C X.env) fp) kx tk)
    (val : ∀ (s : Shared) (H : Hp) (C : Addr) (cl : List (Str × Addr)) (fp : List Addr), PE (X.blk s H scope (compEnvC scope cl C X.env) fp) vx tv) (hs : ∀ x, foldedSetIterable iter X.env x = pure x := by intro _; rfl) :
    PE X (.DictComp kx vx [⟨tg, iter, [], 0⟩] scope pos) (tDcT wi g tk tv (own.map (·.2))) := by
  refine ⟨fun pins s₀ σ H Q I₀ want => ?_⟩
  rw [arm_eval_DictComp]
  have frees : ∀ y ∈ scope.names, y.2 = .free → ∃ c, X.env.cells.lookup y.1 = some c := fun y hy e => (bk.free y hy e).elim (fun k => I₀.ok.has _ (.inl k)) fun k => I₀.ok.has _ (.inr k)
  refine wpAny_comprehension_free (use := none) rfl hs (closure_ok frees) bk.kind (fun y hy e => by rw [bk.uniq y hy, e]) (thn (walked.run pins s₀ σ H _ I₀ want) fun _ _ got => thn got fun _ s fact => ?_)
  obtain ⟨it, fp, tn, J, H1, rfl, I, T, at0, apart, rest⟩ := fact
  refine wpAny_newObj_type (newEnv_comp ?_)
  obtain ⟨D, eD⟩ : ∃ D, s.heap.objs.size = D := ⟨_, rfl⟩
  rw [eD]
  have fresh : H1 D = none := I.hok.fresh (Nat.le_of_eq eD)
  obtain ⟨W, ⟨m0, w0⟩, turn⟩ := rest D fresh
  obtain ⟨sd, esd⟩ : ∃ sd : Shared, ({ s with heap := s.heap.push { cls := .type "dict", data := .dict #[] } } : Shared) = sd := ⟨_, rfl⟩
  rw [esd]
  have hp : sd.heap = s.heap.push { cls := .type "dict", data := .dict #[] } := by rw [← esd]
  have Id : Inv X pins σ (upd H1 D (.dT [])) sd := by
    rw [← esd]
    refine I.laid (t' := s.toks) (fun b o e => Heap.get?_push_of_some _ e) (Nat.le_of_eq eD) ?_
    rw [← eD]
    exact dt_empty s.heap I.big
  have below : ∀ b ∈ fp, b < s.heap.objs.size := fun b hb => let ⟨_, e, _⟩ := T.obj _ _ at0 b hb; Heap.lt_size e
  have apartD : ∀ b ∈ fp, FpOk X pins (upd H1 D (.dT [])) b ∧ b < sd.heap.objs.size := fun b hb => by
    refine ⟨⟨?_, (apart b hb).2⟩, by rw [hp, Heap.size_push]; exact Nat.lt_succ_of_lt (below b hb)⟩
    rw [upd_ne (by rw [← eD]; exact Nat.ne_of_lt (below b hb))]
    exact (apart b hb).1
  have atD : tn 0 sd.heap := T.keep _ _ _ at0 fun b _ o e => by rw [hp]; exact Heap.get?_push_of_some _ e
  have Ib := block_start Id bk hN apartD
  have pT := target sd (upd H1 D (.dT [])) sd.heap.objs.size (cellsFrom (sd.heap.objs.size + 1) scope.names (cloFrom X.env.cells scope.names [])) fp
  have pK := key sd (upd H1 D (.dT [])) sd.heap.objs.size (cellsFrom (sd.heap.objs.size + 1) scope.names (cloFrom X.env.cells scope.names [])) fp
  have pV := val sd (upd H1 D (.dT [])) sd.heap.objs.size (cellsFrom (sd.heap.objs.size + 1) scope.names (cloFrom X.env.cells scope.names [])) fp
  have none0 : ∀ b ∈ fp, (upd H1 D (.dT [])) b = none := fun b hb => (apartD b hb).1.1
  obtain ⟨ce, ece⟩ : ∃ ce, compEnvC scope (cellsFrom (sd.heap.objs.size + 1) scope.names (cloFrom X.env.cells scope.names [])) sd.heap.objs.size X.env = ce := ⟨_, rfl⟩
  have loc : ce.locals = sd.heap.objs.size := by rw [← ece]; rfl
  show codeAny _ _ (.compStart (.DictComp kx vx [⟨tg, iter, [], 0⟩] scope pos) 0 (.ref it) (.ref D) (compEnvC scope (cellsFrom (sd.heap.objs.size + 1) scope.names (cloFrom X.env.cells scope.names [])) sd.heap.objs.size X.env)) (compPost (model X.prog X.w) X.A X.xe none (EP X pins σ Q) (.ref D) sd.heap.objs.size) { sd with heap := pushCells (sd.heap.push { cls := .type "dict", data := .dict #[] }) scope.names }
  rw [ece] at Ib pT pK pV ⊢
  obtain ⟨HD, eHD⟩ : ∃ HD, upd H1 D (.dT []) = HD := ⟨_, rfl⟩
  rw [eHD] at Id Ib pT pK pV w0 none0 apartD
  obtain ⟨sb, esb⟩ : ∃ sb : Shared, ({ sd with heap := pushCells (sd.heap.push { cls := .type "dict", data := .dict #[] }) scope.names } : Shared) = sb := ⟨_, rfl⟩
  rw [esb] at Ib ⊢
  have atB : tn 0 sb.heap := T.keep _ _ _ atD fun b _ o e => by rw [← esb]; exact pushCells_keeps _ _ _ _ (Heap.get?_push_of_some _ e)
  have fpB : ∀ {σ' : L2.St} {H' : Hp} {s' : Shared}, Inv (X.blk sd HD scope ce fp) [] σ' H' s' → (∀ b ∈ fp, H' b = none) → ∀ b ∈ fp, FpOk (X.blk sd HD scope ce fp) [] H' b := fun I' nn b hb =>
    ⟨nn b hb, (I'.ok.exf b hb).1, I'.ok.exfs b hb, .inl hb, fun x c e => (I'.ok.exf b hb).2 x c e, fun p hp => absurd (show p ∈ ([] : List (Addr × Obj)) ++ [] from hp) (by simp)⟩
  have loop : codeAny (model X.prog X.w) X.A (.compLoop (.DictComp kx vx [⟨tg, iter, [], 0⟩] scope pos) 0 (.ref it) (.ref D) ce) (compPost (model X.prog X.w) X.A X.xe none (EP X pins σ Q) (.ref D) sd.heap.objs.size) sb := by
    refine compLoop_anyD (fun n s' => ∃ i H', Inv (X.blk sd HD scope ce fp) [] (wipe σ (own.map (·.2))) H' s' ∧ tn i s'.heap ∧ (∀ b ∈ fp, H' b = none) ∧ W i n H') ?_ m0 ⟨0, HD, Ib, atB, none0, w0⟩
    rintro n s5 ⟨i, H5, I5, at5, none5, w5⟩
    rcases turn i n H5 w5 with ⟨stop, done⟩ | ⟨more, Nx, next, step⟩
    · refine thnF (T.done (X.blk sd HD scope ce fp) rfl rfl rfl hc i [] s5 _ H5 (fun _ _ => False) I5 (fpB I5 none5) at5 stop) fun r s6 ⟨er, I6⟩ => ?_
      rw [er]
      have I7 : Inv X pins σ H5 s6 := Id.call' (ch := fp) I6.os I6.base I6.hok I6.bare fun b hb => let ⟨a1, _⟩ := apartD b hb; ⟨a1.2.2.2.1, a1.2.1, a1.2.2.2.2.1, a1.2.2.2.2.2⟩
      have nC : H5 sd.heap.objs.size = none := by
        have z : H5 ce.locals = none := I6.free
        rwa [loc] at z
      obtain ⟨names, hns, _⟩ := I6.loc
      have hns : s6.heap.Ns ce.locals names := hns
      rw [loc] at hns
      refine ⟨names, hns, fun h'' same => ?_⟩
      obtain ⟨f0, f1, f2, f3, f4, f5⟩ := Id.fpOk (Nat.le_refl _) nC
      exact ⟨.ref D, H5, I7.turned (t' := s6.toks) (fun b o hb e => (same.2 b hb).trans e) f0 f1 f3 f4 f5, rfl, done⟩
    · refine thnF (T.item (X.blk sd HD scope ce fp) rfl rfl rfl hc i [] s5 _ H5 (fun _ _ => False) I5 (fpB I5 none5) at5 more) fun r s6 ⟨u, er, h6⟩ => ?_
      rw [er]
      refine thnF h6 fun _ s7 ⟨x, H7, I7, r7, y7, at7, none7⟩ => ?_
      have I7' := I7.pinned (fpB I7 none7) (T.obj _ _ at7)
      refine thnF (pT.run _ s7 _ H7 x u _ I7' r7 (step x H7 y7)) fun _ s8 ⟨σ8, H8, I8, ew, q8⟩ => ?_
      refine wpAny_tests_nil ?_
      rw [if_pos rfl]
      refine thnF (pK.run _ s8 σ8 H8 _ I8 q8) fun z s9 ⟨yk, H9, I9, r9, q9⟩ => thnF (pV.run _ s9 σ8 H9 _ I9 q9) fun z2 s10 ⟨yv, H10, I10, r10, b, kvs, k, ey, eb, hD10, room, nx⟩ => ?_
      subst ey
      cases (show z = Value.ref b from r9)
      refine put_tup (X := X.blk sd HD scope ce fp) hu I10 hD10 eb room r10 fun s11 I11 => ?_
      obtain ⟨m', lt, w'⟩ := next _ nx
      have pin : ∀ b ∈ fp, ∀ o, s7.heap.get? b = some o → s11.heap.get? b = some o ∧ (upd H10 D (.dT (putK kvs k yv))) b = none := fun b hb o e =>
        let z := I11.pin (b, o) (List.mem_append_right _ (List.mem_append_right _ (mem_pinsAt hb e)))
        ⟨z.1, z.2.1⟩
      refine ⟨m', lt, i + 1, _, (I11.unpinned (pins := [])).weak (by rw [← ew, wipe_length]) (fun j v e => ?_), T.keep _ _ _ at7 fun b hb o e => (pin b hb o e).1, fun b hb => ?_, w'⟩
      · rw [← ew] at e
        exact (wipe_some e).1
      · obtain ⟨o, e, _⟩ := T.obj _ _ at7 b hb
        exact (pin b hb o e).2
  exact codeAny_compStart_dict loop (T.self X.A 0 _ _ _ atB loop)
end
end K2
end
section
set_option maxHeartbeats 4000000
/-! machine_merger. -/
namespace K2
open PySem PySem.Spec PyProof.Rows L2
def spMachineMerger (K : PySem.W.Frag) (CH MC : Addr) : Sp := fun vs H Q E => ∃ v ws, vs = [v] ∧ MShAt K H v ws ∧ (∀ i, FM.chkW ws = .error i → ∀ H' d, Same H H' → XdAt H' d i → E (.ref CH) (some d) H') ∧
  (∀ n ms, FM.chkW ws = .ok ms → FM.Mach n ms → ∀ H' m, Same H H' → MergerAt MC H' m (FM.rowsOf n ms) → Q (.ref m) H')
theorem rowsOk_of {n : Nat} {ms : List (List Nat)} (M : FM.Mach n ms) : RowsOk (FM.rowsOf n ms) := by
  have e := FM.rowsOf_len n ms
  refine ⟨by rw [e]; exact M.m1, by rw [e]; exact M.m12, fun r h => by rw [e]; exact FM.rowsOf_rows h, fun r h x hx => by rw [e]; exact FM.rowsOf_end h hx⟩
theorem rowsSound_of {n : Nat} {ms : List (List Nat)} (M : FM.Mach n ms) : RowsSound (FM.rowsOf n ms) := fun a b c x y ha hb hc => by
  have e := FM.rowsOf_len n ms
  rw [e] at ha hb hc
  exact FM.sound M ha hb hc
/-- v is the list of the ends r, at another address than R -/
def RowN (R : Addr) (H : Hp) (v : V) (r : List (Option Int)) : Prop := ∃ q, v = .ref q ∧ q ≠ R ∧ H q = some (.lst (r.map oV))
/-- a table as a dict's key -/
def tkey (m : List Nat) : List L2.Key := m.map fun x : Nat => (Sum.inl (x : Int) : L2.Key)
theorem tkey_kV (m : List Nat) : (tkey m).map kV = m.map nV := by
  unfold tkey
  rw [List.map_map]
  rfl
theorem tkey_inj : ∀ {a b : List Nat}, tkey a = tkey b → a = b
  | [], [], _ => rfl
  | [], _ :: _, h => by cases h
  | _ :: _, [], h => by cases h
  | x :: a, y :: b, h => by
    obtain ⟨h1, h2⟩ := List.cons.inj h
    rw [tkey_inj h2]
    congr 1
    have : (x : Int) = (y : Int) := by injection h1
    omega
/-- what the dict of the first i tables holds -/
structure Ends (ms : List (List Nat)) (i : Nat) (kvs : List (List L2.Key × V)) : Prop where
  len : kvs.length ≤ i
  at' : ∀ j m, j < i → ms[j]? = some m → valV kvs (tkey m) = some (.int (j : Nat))
  no : ∀ f, f ∉ ms.take i → valV kvs (tkey f) = none
theorem Ends.put {ms : List (List Nat)} {i : Nat} {kvs : List (List L2.Key × V)} (E : Ends ms i kvs) (nd : ms.Nodup) {m : List Nat} (h : ms[i]? = some m) : Ends ms (i + 1) (putK kvs (tkey m) (.int (i : Nat))) := by
  refine ⟨Nat.le_trans (length_putK ..) (Nat.succ_le_succ E.len), fun j m' hj hm => ?_, fun f hf => ?_⟩
  · rw [valV_put]
    by_cases e : m' = m
    · subst e
      rw [if_pos rfl]
      have l1 := (List.getElem?_eq_some_iff.mp hm).1
      have : j = i := (List.getElem?_inj l1 nd).mp (hm.trans h.symm)
      rw [this]
    · rw [if_neg fun z => e (tkey_inj z)]
      have : j ≠ i := fun z => e (by rw [z, h] at hm; exact (Option.some.inj hm).symm)
      exact E.at' j m' (by omega) hm
  · rw [List.take_add_one, h] at hf
    have hf2 : f ∉ ms.take i ∧ f ≠ m := ⟨fun z => hf (List.mem_append_left _ z), fun z => hf (List.mem_append_right _ (by rw [z]; exact List.mem_singleton.mpr rfl))⟩
    rw [valV_put, if_neg fun z => hf2.2 (tkey_inj z)]
    exact E.no f hf2.1
theorem Ends.got {n : Nat} {ms : List (List Nat)} {kvs : List (List L2.Key × V)} (E : Ends ms ms.length kvs) (nd : ms.Nodup) (f : List Nat) : (valV (putK kvs (tkey (List.range n)) (.int (-1))) (tkey f)).getD .non = oV (FM.endOf n ms f) := by
  rw [valV_put]
  unfold FM.endOf
  by_cases e : f = List.range n
  · rw [if_pos (by rw [e]), if_pos e]
    rfl
  · rw [if_neg fun z => e (tkey_inj z), if_neg e]
    by_cases hm : f ∈ ms
    · obtain ⟨j, hj, ej⟩ := List.getElem_of_mem hm
      have h1 : ms[j]? = some f := by rw [List.getElem?_eq_getElem hj, ej]
      rw [E.at' j f hj h1, FM.idxOf?_nodup nd h1]
      rfl
    · rw [E.no f (by rw [List.take_length]; exact hm)]
      have h2 : ms.idxOf? f = none := by
        cases h : ms.idxOf? f with
        | none => rfl
        | some k => exact absurd (List.mem_of_getElem? (FM.idxOf?_some h)) hm
      rw [h2]
      rfl
section
variable {J : It} {n : Nat} {G : Hp → Prop} {Y : Nat → Hp → V → Hp → Prop}
/-- such a comprehension over a walk -/
theorem dcT_it (w : Walk J n G Y) {g : TG} {tk tv : TE} {own : List Nat} {σ : L2.St} {H1 : Hp} {D : Addr} {Qd : Hp → Prop} (Pv : Nat → Hp → Prop) (h0 : Pv 0 (upd H1 D (.dT []))) (hG : ∀ i H, i ≤ n → Pv i H → G H)
    (hs : ∀ i x H H', i < n → Pv i H → Y i H x H' → g x (wipe σ own) H' fun σ2 H2 => wipe σ2 own = wipe σ own ∧ tk σ2 H2 fun y H3 => tv σ2 H3 fun z H4 => ∃ b kvs k, y = .ref b ∧ H4 b = some (.tup (List.map kV k)) ∧ H4 D = some (.dT kvs) ∧ kvs.length < sizeLine ∧ Pv (i + 1) (upd H4 D (.dT (putK kvs k z))))
    (hd : ∀ H, Pv n H → Qd H) : ∃ W : Nat → Nat → Hp → Prop, (∃ m, W 0 m (upd H1 D (.dT []))) ∧ ∀ i m H, W i m H →
      (J.stop i H ∧ Qd H) ∨ (J.go i H ∧ ∃ Nx : Hp → Prop, (∀ H', Nx H' → ∃ m', m' < m ∧ W (i + 1) m' H') ∧ ∀ x H', J.yld i H x H' → g x (wipe σ own) H' fun σ2 H2 => wipe σ2 own = wipe σ own ∧
        tk σ2 H2 fun y H3 => tv σ2 H3 fun z H4 => ∃ b kvs k, y = .ref b ∧ H4 b = some (.tup (List.map kV k)) ∧ H4 D = some (.dT kvs) ∧ kvs.length < sizeLine ∧ Nx (upd H4 D (.dT (putK kvs k z)))) := by
  refine ⟨fun i m H => i + m = n ∧ Pv i H, ⟨n, Nat.zero_add n, h0⟩, fun i m H ⟨e, p⟩ => ?_⟩
  by_cases lt : i < n
  · exact .inr ⟨w.goes i H lt (hG i H (Nat.le_of_lt lt) p), Pv (i + 1), fun H' p' => ⟨m - 1, by omega, by omega, p'⟩, fun x H' y => hs i x H H' lt p (w.yields i H x H' lt (hG i H (Nat.le_of_lt lt) p) y)⟩
  · have e' : i = n := by omega
    subst e'
    exact .inl ⟨w.stops H (hG i H (Nat.le_refl _) p), hd H p⟩
end
section
variable {P : Program} {w : World} {K : PySem.W.Frag} {mg : Str → Option Value} {base : Heap} {f g h CH MC fM : Addr} {fd gd hd : FuncData}
theorem room1 {k : Nat} {A : Around} (h : Room k A) : A.units + 1 < cLine := by
  have := h.un
  omega
theorem scMachineMerger : FnScope ["tables", "told", "ends", "commands", "command", "table", "one", "other"] ["tables"] (defScope sMachineMerger) := ⟨rfl, rfl, rfl, by decide +kernel, rfl, by decide +kernel, by decide +kernel⟩
theorem ok_machine_merger {tk : Tok} {md : FuncData} (F : Fn K "machine_merger" sMachineMerger f fd) (B : Blt mg) (G : FnOk P w K mg base (L2.CX P w) 5 g gd ["value"] (spCheckMachine K CH)) (C : Cal K mg "check_machine" g gd ["value"])
    (G2 : FnOk P w K mg base CX0 1 h hd ["tables", "queue"] (spDoneBy K)) (C2 : Cal K mg "done_by" h hd ["tables", "queue"]) (mN : mg "GONE" = some (.int (-1) tk))
    (MK : Mk K MC fM) (GM : FnOk P w K mg base CX0 4 fM md ["self", "rows"] (spMergerInit MC)) (mM : mg "Merger" = some (.ref MC)) (bM : Binds K md ["self", "rows"] []) :
    FnOk P w K mg base (L2.CX P w) 6 f fd ["tables"] (spMachineMerger K CH MC) := by
  refine F.ok scMachineMerger (fun vs H Q E h => ?_) (fun cdv A outer s H vs Q E hr h => ?_)
  · obtain ⟨v, ws, rfl, _⟩ := h
    rfl
  · obtain ⟨v, ws, rfl, hM, q1, q2⟩ := h
    have hu1 := room1 hr
    refine ⟨_, (pss_cons (ps_set (i := 1) scMachineMerger.nd rfl (Or.inr rfl) (pe_call G (hr.mono (by decide)) (by rfl) C.m C.kp C.b .nil (passes_call (takes_of rfl rfl rfl rfl) fun _ _ _ _ h => h) (pa_cons (pv 0) pa_nil)))
(pss_cons (ps_set (i := 2) scMachineMerger.nd rfl (Or.inr rfl) (pe_dcT (own := [("command", 4), ("table", 5)]) (g := gTup K 2 (gCons (gName 4) (gCons (gName 5) gNil))) rfl hu1 scMachineMerger.nd (pi_enumS (by rfl) B.enum (pa_cons (pv 1) pa_nil)) (blkOk_by (own := [("command", 4), ("table", 5)]) (N := ["tables", "told", "ends", "commands", "command", "table", "one", "other"]) (sc := defScope sMachineMerger) (by decide +kernel))
  (fun _ _ _ _ _ => (pg_tup rfl (pgs_cons (pg_name (i := 4) scMachineMerger.nd rfl (by first | exact Or.inl rfl | exact Or.inr rfl)) (pgs_cons (pg_name (i := 5) scMachineMerger.nd rfl (by first | exact Or.inl rfl | exact Or.inr rfl)) pgs_nil))))
  (fun _ _ _ _ _ => (pv 5))
  (fun _ _ _ _ _ => (pv 4))))
(pss_cons (ps_dput hu1 (pv 2) (pe_tupRg rfl (by rfl) B.tuple (prg_1 (by rfl) B.range (pe_callB (r := rLenOf K) call_lenOf (by rfl) B.len PySem.boot_len (pa_cons (pe_ix (r := rIxT K) ix_tup (pv 1) (pe_int) (fun _ _ => rfl)) pa_nil)))) (pe_glob (by rfl) mN (v := (.int (-1))) ⟨_, rfl⟩) rfl)
(pss_cons (ps_set (i := 3) scMachineMerger.nd rfl (Or.inr rfl) (pe_listRg rfl (by rfl) B.list (prg_1 (by rfl) B.range (pe_callB (r := rLenOf K) call_lenOf (by rfl) B.len PySem.boot_len (pa_cons (pv 1) pa_nil)))))
(pss_one (ps_ret (pe_make MK GM hr (by rfl) mM bM .nil pass0 (pa_cons (pe_lc (own := [("one", 6)]) (g := gName 6) (tt := tYes) rfl scMachineMerger.nd (pi_list (pv 3)) (blkOk_by (own := [("one", 6)]) (N := ["tables", "told", "ends", "commands", "command", "table", "one", "other"]) (sc := defScope sMachineMerger) (by decide +kernel))
  (fun _ _ _ _ _ => (pg_name (i := 6) scMachineMerger.nd rfl (by first | exact Or.inl rfl | exact Or.inr rfl))) (fun _ _ _ _ _ => pts_nil)
  (fun _ _ _ _ _ => (pe_lc (own := [("other", 7)]) (g := gName 7) (wi := iList K (tVar 3)) (tt := tYes) rfl scMachineMerger.nd (pi_list (pv 3)) (blkOk_by (own := [("other", 7)]) (N := ["tables", "told", "ends", "commands", "command", "table", "one", "other"]) (by rfl))
  (fun _ _ _ _ _ => (pg_name (i := 7) scMachineMerger.nd rfl (by first | exact Or.inl rfl | exact Or.inr rfl))) (fun _ _ _ _ _ => pts_nil)
  (fun _ _ _ _ _ => (pe_dget1 hu1 (pv 2) (pe_call G2 (hr.mono (by decide)) (by rfl) C2.m C2.kp C2.b .nil pass0 (pa_cons (pv 1) (pa_cons (pe_tup (pa_cons (pv 6) (pa_cons (pv 7) pa_nil))) pa_nil))) ⟨rfl, rfl, rfl, rfl⟩))))) pa_nil)))))))), ?_⟩
    refine ⟨_, rfl, v, ws, rfl, hM, fun ms hms H1 t s1 hT => ?_, fun i hi H' d s' x => q1 i hi H' d s' x⟩
    obtain ⟨n, M⟩ := FM.chkW_mach hms
    have m1 := M.m1
    have m12 := M.m12
    have n60 := M.n60
    have hT' := hT
    obtain ⟨us, eT, hU⟩ := hT'
    have ul := pLen hU
    refine ⟨_, rfl, t, true, us, rfl, sqT eT, fun D nD => ?_⟩
    refine dcT_it (walk_enumS (xs := us)) (fun i H' => Same H1 H' ∧ ∃ kvs, H' D = some (.dT kvs) ∧ Ends ms i kvs) ⟨Same.new nD, [], upd_same, Nat.zero_le _, fun j _ h _ => absurd h (Nat.not_lt_zero _), fun _ _ => rfl⟩ (fun i H' _ ⟨s2, _⟩ => sqT (s2 _ _ eT)) ?_ ?_
    · intro i x H2 H3 hi ⟨s2, kvs, eD, hE⟩ hY
      obtain ⟨U, x, y, rfl, nU, rfl, f1, f2⟩ := hY
      cases f1
      obtain ⟨m, hm, p, rfl, ep⟩ := pAt2 hU f2
      have sU : Same H2 (upd H2 U (.tup [.int (i : Nat), .ref p])) := Same.new nU
      refine ⟨U, _, rfl, sqT upd_same, rfl, _, _, rfl, _, _, rfl, rfl, rfl, ?_⟩
      refine ⟨_, rfl, _, rfl, p, kvs, tkey m, rfl, by rw [tkey_kV]; exact sU _ _ (s2 _ _ ep), sU _ _ eD, small100 (by have := hE.len; omega), fun b o e => ?_, _, upd_same, hE.put M.nd hm⟩
      rw [upd_ne (ne_of_none e nD)]
      exact sU _ _ (s2 _ _ e)
    · intro H2 ⟨s2, kvs, eD, hE⟩
      rw [ul] at hE
      have s2' := s1.trans s2
      obtain ⟨p0, hp0, ep0⟩ := tup_at hU (show 0 < ms.length by omega)
      have l0 : ((FM.tab ms 0).map nV).length = n := by rw [List.length_map]; exact (M.tab (by omega)).len
      refine ⟨_, rfl, _, rfl, t, us, _, _, rfl, rfl, sqT (s2 _ _ eT), atI_nat (j := 0) hp0, .ref p0, n, rfl, .inr ⟨_, sqT (s2 _ _ ep0), l0.symm⟩, _, rfl, rgOk (by omega), fun l nl => ?_⟩
      rw [rgV_nV]
      have s3 : Same H2 (upd H2 l (.tup ((List.range n).map nV))) := Same.new nl
      refine ⟨D, _, rfl, DPut.t (k := tkey (List.range n)) (s3 _ _ eD) (by rw [tkey_kV]; exact upd_same) (small100 (by have := hE.len; omega)), ?_⟩
      obtain ⟨H4, eH4⟩ : ∃ H4, upd (upd H2 l (.tup ((List.range n).map nV))) D (.dT (putK kvs (tkey (List.range n)) (.int (-1)))) = H4 := ⟨_, rfl⟩
      rw [eH4]
      have s4 : Same H1 H4 := fun b o e => by
        rw [← eH4, upd_ne (ne_of_none e nD)]
        exact s3 _ _ (s2 _ _ e)
      have eD4 : H4 D = some (.dT (putK kvs (tkey (List.range n)) (.int (-1)))) := by rw [← eH4, upd_same]
      refine ⟨_, rfl, .ref t, ms.length, rfl, .inr ⟨us, sqT (s4 _ _ eT), ul.symm⟩, _, rfl, rgOk (by omega), fun c nc => ?_⟩
      rw [rgV_nV]
      obtain ⟨H5, eH5⟩ : ∃ H5, upd H4 c (.lst ((List.range ms.length).map nV)) = H5 := ⟨_, rfl⟩
      rw [eH5]
      have s45 : Same H4 H5 := by rw [← eH5]; exact Same.new nc
      have ec5 : H5 c = some (.lst ((List.range ms.length).map nV)) := by rw [← eH5, upd_same]
      have eD5 := s45 _ _ eD4
      have s5 := s4.trans s45
      have lenR : ((List.range ms.length).map nV).length = ms.length := by simp
      have item : ∀ {i : Nat} {x : V}, ((List.range ms.length).map nV)[i]? = some x → x = nV i ∧ i < ms.length := fun {i x} hx => by
        have h1 := (List.getElem?_eq_some_iff.mp hx).1
        rw [lenR] at h1
        rw [nVs_at h1] at hx
        exact ⟨(Option.some.inj hx).symm, h1⟩
      have tabAt : ∀ {a : Nat}, a < ms.length → ms[a]? = some (FM.tab ms a) := fun {a} ha => by unfold FM.tab; rw [List.getD_eq_getElem?_getD, List.getElem?_eq_getElem ha]; rfl
      refine ⟨_, rfl, c, rfl, ⟨_, sqL ec5⟩, fun R nR => lc_list (xs := (List.range ms.length).map nV) (fun i H' => Same H5 H' ∧ ∃ rs, H' R = some (.lst rs) ∧ Paired (RowN R H') rs ((ms.take i).map fun a => ms.map fun b => FM.endOf n ms (FM.comp a b))) ⟨Same.new nR, [], upd_same, .nil⟩ (fun i H' _ ⟨s6, _⟩ => sqL (s6 _ _ ec5)) ?_ ?_⟩
      · intro a x H6 hx ⟨s6, rs, eR, hRs⟩
        obtain ⟨rfl, ha⟩ := item hx
        refine ⟨rfl, ?_⟩
        refine ⟨_, rfl, c, rfl, ⟨_, sqL (s6 _ _ ec5)⟩, fun S nS => lc_list (xs := (List.range ms.length).map nV) (fun j H' => Same H6 H' ∧ H' S = some (.lst (((ms.take j).map fun b => FM.endOf n ms (FM.comp (FM.tab ms a) b)).map oV))) ⟨Same.new nS, upd_same⟩ (fun j H' _ ⟨s7, _⟩ => sqL (s7 _ _ (s6 _ _ ec5))) ?_ ?_⟩
        · intro b x H7 hx ⟨s7, eS⟩
          obtain ⟨rfl, hb⟩ := item hx
          have s7' := (s5.trans s6).trans s7
          refine ⟨rfl, ?_⟩
          refine ⟨_, rfl, D, rfl, .inr ⟨_, .inl (s7 _ _ (s6 _ _ eD5))⟩, _, rfl, _, rfl, _, rfl, (by show 2 ≤ sizeLine; decide), fun T nT => ?_⟩
          have sT : Same H7 (upd H7 T (.tup [nV a, nV b])) := Same.new nT
          refine ⟨t, true, T, n, ms, [a, b], rfl, hT.same (s7'.trans sT), M, sqT upd_same, fun c hc => by rcases List.mem_cons.mp hc with rfl | hc; exact ha; rw [List.mem_singleton.mp hc]; exact hb, fun H8 p s8 ⟨p', e, hp⟩ => ?_⟩
          cases e
          rw [FM.done_two M ha] at hp
          have s78 := sT.trans s8
          refine ⟨_, DGet.t (k := tkey (FM.comp (FM.tab ms a) (FM.tab ms b))) (s78 _ _ (s7 _ _ (s6 _ _ eD5))) (by rw [tkey_kV]; exact hp), ?_⟩
          rw [hE.got M.nd]
          refine ⟨_, s78 _ _ eS, ?_, fun b' o e => ?_, ?_⟩
          · simp only [List.length_map, List.length_take]
            exact small100 (by omega)
          · rw [upd_ne (ne_of_none e nS)]
            exact s78 _ _ (s7 _ _ e)
          · rw [upd_same, List.take_add_one, tabAt hb, List.map_append, List.map_append]
            rfl
        · intro H7 ⟨s7, eS⟩
          refine ⟨rs, s7 _ _ eR, ?_, fun b o e => ?_, _, upd_same, ?_⟩
          · have := pLen hRs
            rw [List.length_map, List.length_take] at this
            exact small100 (by omega)
          · rw [upd_ne (ne_of_none e nR)]
            exact s7 _ _ (s6 _ _ e)
          · rw [lenR, List.take_length] at eS
            rw [List.take_add_one, tabAt ha, List.map_append]
            have up : ∀ {q : Addr} {r : List (Option Int)}, H7 q = some (.lst (r.map oV)) → q ≠ R → upd H7 R (.lst (rs ++ [.ref S])) q = some (.lst (r.map oV)) := fun e ne => by rw [upd_ne ne]; exact e
            have SR : S ≠ R := fun z => by rw [z, eR] at nS; cases nS
            exact pSnoc ⟨S, rfl, SR, up eS SR⟩ (Paired.mapP hRs fun v r ⟨q, e1, ne, e2⟩ => ⟨q, e1, ne, up (s7 _ _ e2) ne⟩)
      · intro H6 ⟨s6, rs, eR, hRs⟩
        rw [lenR, List.take_length] at hRs
        have s6' := s5.trans s6
        intro x dx nx ndx ne
        have sm1 : Same H6 (upd (upd H6 dx (.own x)) x (.ins MC dx [])) := fun b o e => by
          rw [upd_ne (ne_of_none e nx), upd_ne (ne_of_none e ndx)]
          exact e
        refine ⟨x, R, dx, FM.rowsOf n ms, rfl, upd_same, ⟨rs, sm1 _ _ eR, Paired.mapP hRs fun _ _ ⟨q, e1, _, e2⟩ => ⟨q, e1, sm1 _ _ e2⟩⟩, rowsOk_of M, rowsSound_of M, fun H7 k7 hM7 => ⟨rfl, q2 n ms hms M H7 x (fun b o e => ?_) hM7⟩⟩
        have e6 := s6' _ _ (s1 _ _ e)
        exact k7 b o (sm1 _ _ e6) (ne_of_none e6 nx)
end
end K2
end
section
set_option maxHeartbeats 4000000
/-! The law's drawing: box, take, pick. -/
namespace K2
open PySem PySem.Spec PyProof.Rows L2
theorem ps_as {X : Cx} {e : Stmt} {t t' : TS} (h : PS X e t) (k : ∀ D σ H, t' D σ H → t D σ H) : PS X e t' := ⟨fun pins s σ H D I q => h.run pins s σ H D I (k D σ H q)⟩
/-- the box at b -/
def BoxAt (H : Hp) (b : Addr) : Prop := ∃ d r k : Int, H b = some (.lst [.int d, .int r, .int k])
/-- all but the box stands as before, and the box is one -/
structure Bx (b : Addr) (H H' : Hp) : Prop where
  box : BoxAt H' b
  same : ∀ c o, H c = some o → c ≠ b → H' c = some o
theorem Bx.refl {b : Addr} {H : Hp} (h : BoxAt H b) : Bx b H H := ⟨h, fun _ _ e _ => e⟩
theorem Bx.trans {b : Addr} {H H1 H2 : Hp} (a : Bx b H H1) (c : Bx b H1 H2) : Bx b H H2 := ⟨c.box, fun p o e n => c.same p o (a.same p o e n) n⟩
theorem BoxAt.same {b : Addr} {H H' : Hp} (s : Same H H') : BoxAt H b → BoxAt H' b := fun ⟨d, r, k, e⟩ => ⟨d, r, k, s _ _ e⟩
theorem Bx.then {b : Addr} {H H1 H2 : Hp} (a : Bx b H H1) (s : Same H1 H2) : Bx b H H2 := ⟨a.box.same s, fun p o e n => s _ _ (a.same p o e n)⟩
theorem Bx.of {b : Addr} {H H1 : Hp} (h : BoxAt H b) (s : Same H H1) : Bx b H H1 := (Bx.refl h).then s
theorem BoxAt.ne {b t : Addr} {H : Hp} {o : HO} (h : BoxAt H b) (e : H t = some o) (k : ∀ xs, o ≠ .lst xs) : t ≠ b := fun z => by
  obtain ⟨d, r, kk, hb⟩ := h
  rw [z, hb] at e
  exact k _ (Option.some.inj e).symm
/-- what stands as a tuple stands on -/
theorem Bx.tup {b t : Addr} {H H' : Hp} {xs : List V} (a : Bx b H H') (h : BoxAt H b) (e : H t = some (.tup xs)) : H' t = some (.tup xs) := a.same _ _ e (h.ne e fun _ z => nomatch z)
theorem Bx.tupAt {b : Addr} {H H' : Hp} {v : V} {m : List Nat} (a : Bx b H H') (h : BoxAt H b) : TupAt H v m → TupAt H' v m := fun ⟨t, e, k⟩ => ⟨t, e, a.tup h k⟩
theorem Bx.tups {b : Addr} {H H' : Hp} {us : List V} {ms : List (List Nat)} (a : Bx b H H') (h : BoxAt H b) (t : TupsAt H us ms) : TupsAt H' us ms := Paired.mapP t fun _ _ => a.tupAt h
theorem Bx.free {b : Addr} {H H' : Hp} (a : Bx b H H') (h : BoxAt H b) {p : Addr} (np : H' p = none) : H p = none := by
  cases e : H p with
  | none => rfl
  | some o =>
    by_cases z : p = b
    · obtain ⟨d, r, k, hb⟩ := a.box
      rw [z, hb] at np
      cases np
    · rw [a.same _ _ e z] at np
      cases np
/-- the box's own cell is written -/
theorem Bx.put {b : Addr} {H : Hp} (d r k : Int) : Bx b H (upd H b (.lst [.int d, .int r, .int k])) := ⟨⟨d, r, k, upd_same⟩, fun c o e n => by rw [upd_ne n]; exact e⟩
/-- an own list is written that is new to H -/
theorem Bx.set {b c : Addr} {H H' : Hp} {o : HO} (a : Bx b H H') (nc : H c = none) (cb : c ≠ b) : Bx b H (upd H' c o) := by
  obtain ⟨d, r, k, hb⟩ := a.box
  exact ⟨⟨d, r, k, by rw [upd_ne cb.symm]; exact hb⟩, fun p o' e n => by rw [upd_ne (ne_of_none e nc)]; exact a.same _ _ e n⟩
def spBox (K : PySem.W.Frag) : Sp := fun vs H Q _ => ∃ a, ∃ ns : List Int, ∃ k : Nat, vs = [.ref a, nV k] ∧ SqL K H a (ns.map V.int) ∧ ns.length ≤ 63 ∧ k ≤ 2 ∧ ∀ H' p, Same H H' → H p = none → BoxAt H' p → Q (.ref p) H'
def spTake : Sp := fun vs H Q _ => ∃ b, ∃ m : Nat, vs = [.ref b, nV m] ∧ BoxAt H b ∧ 1 ≤ m ∧ m ≤ 1000 ∧ ∀ z H', z < m → Bx b H H' → Q (nV z) H'
def spPick : Sp := fun vs H Q _ => ∃ b t a, ∃ xs : List V, vs = [.ref b, .ref a] ∧ BoxAt H b ∧ Tq t H a xs ∧ a ≠ b ∧ 1 ≤ xs.length ∧ xs.length ≤ 1000 ∧ ∀ (z : Nat) v H', xs[z]? = some v → Bx b H H' → Q v H'
theorem Tq.bx {t : Bool} {b a : Addr} {H H' : Hp} {xs : List V} (x : Bx b H H') (n : a ≠ b) (h : Tq t H a xs) : Tq t H' a xs := by
  cases t <;> exact x.same _ _ h n
/-- some int, of one in slot 2 -/
def tSomeInt : TE := fun σ H Q => ∃ i : Int, σ[2]? = some (some (.int i)) ∧ ∀ j H', Same H H' → Q (.int j) H'
def tCell (K : PySem.W.Frag) : TS := fun D σ H => ∃ a, ∃ ns : List Int, ∃ k : Nat, ∃ i : Int, σ = [some (.ref a), some (nV k), some (.int i)] ∧ SqL K H a (ns.map V.int) ∧ ns.length ≤ 63 ∧ ∀ j : Int, D.nx [some (.ref a), some (nV k), some (.int j)] H
theorem ints_at {ns : List Int} {i : Nat} (h : i < ns.length) : (ns.map V.int)[i]? = some (.int ns[i]) := by simp [h]
theorem mod_in {i : Int} {m : Nat} (h : 1 ≤ m) : ∃ z : Nat, i.fmod (m : Int) = (z : Int) ∧ z < m := by
  have h1 := Int.fmod_nonneg_of_pos i (show (0 : Int) < (m : Int) by omega)
  have h2 := Int.fmod_lt_of_pos i (show (0 : Int) < (m : Int) by omega)
  exact ⟨(i.fmod (m : Int)).toNat, by omega, by omega⟩
section
variable {P : Program} {w : World} {K : PySem.W.Frag} {mg : Str → Option Value} {base : Heap} {f g : Addr} {fd gd : FuncData}
theorem scBox : FnScope ["_law_script", "_law_k", "_law_cell"] ["_law_script", "_law_k"] (defScope sBox) := ⟨rfl, rfl, rfl, by decide +kernel, rfl, by decide +kernel, by decide +kernel⟩
theorem ok_box (F : Fn K "_law_box" sBox f fd) (B : Blt mg) : FnOk P w K mg base CX0 1 f fd ["_law_script", "_law_k"] (spBox K) := by
  refine F.ok scBox (fun vs H Q E h => ?_) (fun cdv A outer s H vs Q E hr h => ?_)
  · obtain ⟨a, ns, k, rfl, _⟩ := h
    rfl
  · obtain ⟨a, ns, k, rfl, hS, hl, hk, q⟩ := h
    refine ⟨_, PSs.nox (pss_cons (ps_set (i := 2) scBox.nd rfl (Or.inl rfl) (pe_op op_add (pe_op op_mul (pe_int) (pv 1)) (pe_int)))
(pss_cons (ps_as (t' := tCell K) (ps_if (pt_cmpR op_lt (pv 1) (pe_callB (r := rLenOf K) call_lenOf (by rfl) B.len PySem.boot_len (pa_cons (pv 0) pa_nil)) (nomark _)) (pss_one (ps_set (i := 2) scBox.nd rfl (Or.inl rfl) (pe_callB call_abs (by rfl) B.abs (by decide +kernel) (pa_cons (pe_ix (r := rIxL K) ix_list (pv 0) (pv 1) (fun _ _ => rfl)) pa_nil)))) (pss_one (ps_if (pt_cmpR op_gt (pe_callB (r := rLenOf K) call_lenOf (by rfl) B.len PySem.boot_len (pa_cons (pv 0) pa_nil)) (pe_int) (nomark _)) (pss_one (ps_set (i := 2) scBox.nd rfl (Or.inl rfl) (pe_op op_add (pv 2) (pe_op op_mul (pe_op op_modN (pe_callTy call_int1 (by rfl) B.int (by decide +kernel) (pa_cons (pe_callB call_abs (by rfl) B.abs (by decide +kernel) (pa_cons (pe_ix (r := rIxL K) ix_list (pv 0) (pe_op op_modN (pe_callTy call_int1 (by rfl) B.int (by decide +kernel) (pa_cons (pv 1) pa_nil)) (pe_callB (r := rLenOf K) call_lenOf (by rfl) B.len PySem.boot_len (pa_cons (pv 0) pa_nil))) (fun _ _ => rfl)) pa_nil)) pa_nil)) (pe_int)) (pe_int))))) pss_nil))) (by
      rintro D σ H ⟨a, ns, k, i, rfl, hS, hl, q⟩
      refine ⟨_, rfl, _, rfl, .ref a, _, rfl, .inl ⟨_, hS, rfl⟩, _, _, rfl, rfl, _, rfl, ite2 (fun h => ?_) (fun h => ?_)⟩
      · have h' : k < ns.length := by
          have := of_decide_eq_true h
          rw [List.length_map] at this
          omega
        exact ⟨_, rfl, _, rfl, a, _, _, _, rfl, rfl, hS, atI_nat (ints_at h'), _, rfl, q _⟩
      · refine ⟨_, rfl, .ref a, _, rfl, .inl ⟨_, hS, rfl⟩, _, _, rfl, rfl, _, rfl, ite2 (fun h2 => ?_) (fun h2 => ?_)⟩
        · have h0 : 1 ≤ ns.length := by
            have := of_decide_eq_true h2
            rw [List.length_map] at this
            omega
          obtain ⟨z, ez, lz⟩ := mod_in (i := ((k : Nat) : Int)) h0
          exact ⟨_, rfl, _, rfl, _, rfl, .inl ⟨_, rfl, _, rfl, .ref a, _, rfl, .inl ⟨_, hS, rfl⟩, _, _, rfl, rfl, (by rw [List.length_map]; omega), a, _, _, _, rfl, by show V.int (((k : Nat) : Int).fmod _) = _; rw [List.length_map, ez], hS, atI_nat (ints_at lz), _, rfl, .inl ⟨_, rfl, _, _, rfl, rfl, (by first | (show (2147483477 : Int) ≠ 0; decide) | (show (2147483423 : Int) ≠ 0; decide)), _, _, rfl, rfl, .inr ⟨by decide, by decide⟩, _, _, rfl, rfl, q _⟩⟩⟩
        · exact q i))
(pss_one (ps_ret (pe_lst (pa_cons (pe_as (t' := tSomeInt) (pe_ix (r := rIxL K) ix_list (pe_lst (pa_cons (pe_int) (pa_cons (pv 2) pa_nil))) (pe_callTy call_int1 (by rfl) B.int (by decide +kernel) (pa_cons (pe_cmpR op_ge (pv 2) (pe_op op_pow (pe_int) (pe_int)) (nomark _)) pa_nil)) (fun _ _ => rfl)) (by
      rintro σ H Q ⟨i, e, q⟩
      refine ⟨_, e, (by show 2 ≤ sizeLine; decide), fun l nl => ⟨_, e, _, _, rfl, rfl, ⟨by decide, by decide, by decide⟩, _, _, rfl, rfl, .inr ⟨_, rfl, ?_⟩⟩⟩
      by_cases h : (10 : Int) ^ (18 : Int).toNat ≤ i
      · exact ⟨l, _, _, _, rfl, by rw [if_pos (decide_eq_true h)]; rfl, sqL upd_same, atI_nat (j := 1) rfl, q _ _ (Same.new nl)⟩
      · exact ⟨l, _, _, _, rfl, by rw [if_neg fun z => h (of_decide_eq_true z)]; rfl, sqL upd_same, atI_nat (j := 0) rfl, q _ _ (Same.new nl)⟩)) (pa_cons (pe_op op_add (pe_op op_modN (pe_callTy call_int1 (by rfl) B.int (by decide +kernel) (pa_cons (pe_op op_add (pe_op op_mul (pe_op op_modN (pe_callTy call_int1 (by rfl) B.int (by decide +kernel) (pa_cons (pv 2) pa_nil)) (pe_int)) (pe_int)) (pe_op op_mul (pe_int) (pv 1))) pa_nil)) (pe_int)) (pe_int)) (pa_cons (pe_int) pa_nil)))))))), ?_⟩
    refine ⟨_, rfl, _, _, rfl, rfl, .inl ⟨by decide, by decide⟩, _, _, rfl, rfl, ?_⟩
    refine ⟨a, ns, k, _, rfl, hS, hl, fun j => ?_⟩
    refine ⟨j, rfl, fun j2 H1 s1 => ?_⟩
    refine ⟨_, rfl, .inl ⟨_, rfl, _, _, rfl, rfl, (by first | (show (2147483477 : Int) ≠ 0; decide) | (show (2147483423 : Int) ≠ 0; decide)), _, _, rfl, rfl, .inr ⟨by decide, by decide⟩, _, rfl, _, _, rfl, rfl, .inl ⟨by decide, by decide⟩, _, _, rfl, rfl, .inl ⟨_, rfl, _, _, rfl, rfl, (by first | (show (2147483477 : Int) ≠ 0; decide) | (show (2147483423 : Int) ≠ 0; decide)), _, _, rfl, rfl, (by show 3 ≤ sizeLine; decide), fun l nl => ?_⟩⟩⟩
    exact q _ l (s1.trans (Same.new nl)) (s1.free nl) ⟨_, _, _, upd_same⟩
theorem scTake : FnScope ["_law_box_here", "_law_many", "_law_digit", "_law_raw"] ["_law_box_here", "_law_many"] (defScope sTake) := ⟨rfl, rfl, rfl, by decide +kernel, rfl, by decide +kernel, by decide +kernel⟩
theorem ok_take (F : Fn K "_law_take" sTake f fd) (B : Blt mg) : FnOk P w K mg base CX0 1 f fd ["_law_box_here", "_law_many"] spTake := by
  refine F.ok scTake (fun vs H Q E h => ?_) (fun cdv A outer s H vs Q E hr h => ?_)
  · obtain ⟨b, m, rfl, _⟩ := h
    rfl
  · obtain ⟨b, m, rfl, hB, h1, h2, q⟩ := h
    have fin : ∀ (i : Int) (H' : Hp), Bx b H H' → Q (.int (i.fmod (m : Int))) H' := fun i H' x => by
      obtain ⟨z, ez, lz⟩ := mod_in (i := i) h1
      rw [ez]
      exact q z _ lz x
    obtain ⟨d, r, k, hb⟩ := hB
    have mne : ((m : Nat) : Int) ≠ 0 := by omega
    refine ⟨_, PSs.nox (pss_cons (ps_if (pt_cmpR op_gt (pe_ix (r := rIxL K) ix_list (pv 0) (pe_int) (fun _ _ => rfl)) (pe_int) (nomark _)) (pss_cons (ps_set (i := 2) scTake.nd rfl (Or.inl rfl) (pe_op op_modN (pe_callTy call_int1 (by rfl) B.int (by decide +kernel) (pa_cons (pe_ix (r := rIxL K) ix_list (pv 0) (pe_int) (fun _ _ => rfl)) pa_nil)) (pv 1)))
(pss_cons (ps_asg (pe_op op_fdivN (pe_ix (r := rIxL K) ix_list (pv 0) (pe_int) (fun _ _ => rfl)) (pv 1)) (pg_sub (pv 0) (pe_int) set_list))
(pss_one (ps_ret (pv 2))))) pss_nil)
(pss_cons (ps_asg (pe_op op_add (pe_ix (r := rIxL K) ix_list (pv 0) (pe_int) (fun _ _ => rfl)) (pe_int)) (pg_sub (pv 0) (pe_int) set_list))
(pss_cons (ps_set (i := 3) scTake.nd rfl (Or.inl rfl) (pe_op op_modN (pe_callTy call_int1 (by rfl) B.int (by decide +kernel) (pa_cons (pe_op op_add (pe_op op_mul (pe_op op_add (pe_ix (r := rIxL K) ix_list (pv 0) (pe_int) (fun _ _ => rfl)) (pe_op op_mul (pe_int) (pe_ix (r := rIxL K) ix_list (pv 0) (pe_int) (fun _ _ => rfl)))) (pe_int)) (pe_int)) pa_nil)) (pe_int)))
(pss_cons (ps_asg (pe_op op_add (pe_op op_modN (pe_callTy call_int1 (by rfl) B.int (by decide +kernel) (pa_cons (pe_op op_add (pe_op op_mul (pv 3) (pe_int)) (pe_int)) pa_nil)) (pe_int)) (pe_int)) (pg_sub (pv 0) (pe_int) set_list))
(pss_one (ps_ret (pe_op op_modN (pe_callTy call_int1 (by rfl) B.int (by decide +kernel) (pa_cons (pe_op op_fdivN (pe_op op_add (pe_op op_mul (pv 3) (pe_int)) (pe_ix (r := rIxL K) ix_list (pv 0) (pe_int) (fun _ _ => rfl))) (pe_int)) pa_nil)) (pv 1)))))))), ?_⟩
    refine ⟨_, rfl, b, _, _, _, rfl, rfl, sqL hb, atI_nat (j := 0) rfl, _, _, rfl, rfl, _, rfl, ite2 (fun h0 => ?_) (fun h0 => ?_)⟩
    · refine ⟨_, rfl, b, _, _, _, rfl, rfl, sqL hb, atI_nat (j := 0) rfl, .inl ⟨_, rfl, _, rfl, _, _, rfl, rfl, mne, ?_⟩⟩
      refine ⟨_, rfl, b, _, _, _, rfl, rfl, sqL hb, atI_nat (j := 0) rfl, _, rfl, _, _, rfl, rfl, ⟨mne, by omega⟩, _, rfl, b, _, _, 0, rfl, rfl, hb, rfl, ?_⟩
      exact ⟨_, rfl, fin d _ (Bx.put _ _ _)⟩
    · -- box[2] = box[2] + 1
      refine ⟨_, rfl, b, _, _, _, rfl, rfl, sqL hb, atI_nat (j := 2) rfl, _, _, rfl, rfl, _, rfl, b, _, _, 2, rfl, rfl, hb, rfl, ?_⟩
      obtain ⟨H1, e1⟩ : ∃ H1, upd H b (.lst ([V.int d, .int r, .int k].set 2 (.int (k + 1)))) = H1 := ⟨_, rfl⟩
      rw [e1]
      have x1 : Bx b H H1 := by rw [← e1]; exact Bx.put _ _ _
      have hb1 : H1 b = some (.lst [.int d, .int r, .int (k + 1)]) := by rw [← e1, upd_same]; rfl
      refine ⟨_, rfl, b, _, _, _, rfl, rfl, sqL hb1, atI_nat (j := 1) rfl, _, rfl, b, _, _, _, rfl, rfl, sqL hb1, atI_nat (j := 2) rfl, _, _, rfl, rfl, .inl ⟨by decide, by decide⟩, _, _, rfl, rfl, _, _, rfl, rfl, .inr ⟨by decide, by decide⟩, _, _, rfl, rfl, .inl ⟨_, rfl, _, _, rfl, rfl, (by first | (show (2147483477 : Int) ≠ 0; decide) | (show (2147483423 : Int) ≠ 0; decide)), ?_⟩⟩
      refine ⟨_, rfl, _, _, rfl, rfl, .inr ⟨by decide, by decide⟩, _, _, rfl, rfl, .inl ⟨_, rfl, _, _, rfl, rfl, (by first | (show (2147483477 : Int) ≠ 0; decide) | (show (2147483423 : Int) ≠ 0; decide)), _, _, rfl, rfl, _, rfl, b, _, _, 1, rfl, rfl, hb1, rfl, ?_⟩⟩
      refine ⟨_, rfl, _, _, rfl, rfl, .inr ⟨by decide, by decide⟩, _, rfl, b, _, _, _, rfl, rfl, sqL upd_same, atI_nat (j := 1) rfl, _, _, rfl, rfl, _, _, rfl, rfl, ⟨by decide, by decide⟩, .inl ⟨_, rfl, _, rfl, _, _, rfl, rfl, mne, fin _ _ (x1.trans (Bx.put _ _ _))⟩⟩
theorem scPick : FnScope ["_law_box_here", "_law_some"] ["_law_box_here", "_law_some"] (defScope sPick) := ⟨rfl, rfl, rfl, by decide +kernel, rfl, by decide +kernel, by decide +kernel⟩
theorem ok_pick (F : Fn K "_law_pick" sPick f fd) (B : Blt mg) (G : FnOk P w K mg base CX0 1 g gd ["_law_box_here", "_law_many"] spTake) (C : Cal K mg "_law_take" g gd ["_law_box_here", "_law_many"]) : FnOk P w K mg base CX0 2 f fd ["_law_box_here", "_law_some"] spPick := by
  refine F.ok scPick (fun vs H Q E h => ?_) (fun cdv A outer s H vs Q E hr h => ?_)
  · obtain ⟨b, t, a, xs, rfl, _⟩ := h
    rfl
  · obtain ⟨b, t, a, xs, rfl, hB, hT, ne, h1, h2, q⟩ := h
    refine ⟨_, PSs.nox (pss_one (ps_ret (pe_ix (r := rIx K) ix_seq (pv 1) (pe_call G (hr.mono (by decide)) (by rfl) C.m C.kp C.b .nil pass0 (pa_cons (pv 0) (pa_cons (pe_callB (r := rLenOf K) call_lenOf (by rfl) B.len PySem.boot_len (pa_cons (pv 1) pa_nil)) pa_nil))) (fun _ _ => rfl)))), ?_⟩
    refine ⟨_, rfl, _, rfl, _, rfl, .ref a, xs.length, rfl, hT.sq.len, b, xs.length, rfl, hB, h1, h2, fun z H' lz x => ?_⟩
    have e : xs[z]? = some xs[z] := by simp [lz]
    have hT' := hT.bx x ne
    cases t with
    | false => exact .inl ⟨a, _, _, _, rfl, rfl, sqL hT', atI_nat e, q z _ H' e x⟩
    | true => exact .inr (.inl ⟨a, _, _, _, rfl, rfl, sqT hT', atI_nat e, q z _ H' e x⟩)
end
end K2
end
section
set_option maxHeartbeats 4000000
/-! The law's machines: maps, rows_of, against, done. -/
namespace K2
open PySem PySem.Spec PyProof.Rows L2
theorem rep_nV (n z : Nat) : (List.replicate n [nV z]).flatten = (List.replicate n z).map nV := by
  induction n with
  | zero => rfl
  | succ n ih => rw [List.replicate_succ, List.flatten_cons, ih, List.replicate_succ, List.map_cons]; rfl
theorem rep_tab {n z : Nat} (h : z < n) : FM.Tab n (List.replicate n z) := ⟨by simp, fun x hx => by rw [List.eq_of_mem_replicate hx]; exact h⟩
theorem eqv_nil (ms : List (List Nat)) : PyData.eqv (.list (ms.map tabD)) (.list []) = decide (ms = []) := by
  cases ms with
  | nil => simp [PyData.eqv, PyData.eqvAll]
  | cons m r => simp [PyData.eqv, PyData.eqvAll]
theorem comp_at {f g : List Nat} {i x : Nat} (h : f[i]? = some x) : (FM.comp f g)[i]? = some (g.getD x 0) := by
  unfold FM.comp
  rw [List.getElem?_map, h]
  rfl
/-- the machine drawn: in the list p -/
structure MapsAt (H : Hp) (p : Addr) (n : Nat) (ms : List (List Nat)) : Prop where
  at' : ∃ us, H p = some (.lst us) ∧ TupsAt H us ms
  mach : FM.Mach n ms
  n2 : 2 ≤ n
  n4 : n ≤ 4
  m6 : ms.length ≤ 6
theorem MapsAt.same {H H' : Hp} {p : Addr} {n : Nat} {ms : List (List Nat)} (s : Same H H') (h : MapsAt H p n ms) : MapsAt H' p n ms := by
  obtain ⟨us, e, t⟩ := h.at'
  exact ⟨⟨us, s _ _ e, t.same s⟩, h.mach, h.n2, h.n4, h.m6⟩
theorem MapsAt.bx {b : Addr} {H H' : Hp} {p : Addr} {n : Nat} {ms : List (List Nat)} (x : Bx b H H') (hb : BoxAt H b) (pb : p ≠ b) (h : MapsAt H p n ms) : MapsAt H' p n ms := by
  obtain ⟨us, e, t⟩ := h.at'
  exact ⟨⟨us, x.same _ _ e pb, x.tups hb t⟩, h.mach, h.n2, h.n4, h.m6⟩
def spMaps : Sp := fun vs H Q _ => ∃ b, ∃ k : Nat, vs = [.ref b, nV k] ∧ BoxAt H b ∧ 1 ≤ k ∧ k ≤ 6 ∧ ∀ n ms H' p, Bx b H H' → H p = none → MapsAt H' p n ms → Q (.ref p) H'
/-- v is a list of the ends r, new to H0, at another address than R -/
def RowM (H0 : Hp) (R : Addr) (H : Hp) (v : V) (r : List (Option Int)) : Prop := ∃ q, v = .ref q ∧ q ≠ R ∧ H0 q = none ∧ H q = some (.lst (r.map oV))
def spRowsOf : Sp := fun vs H Q _ => ∃ p n ms, vs = [.ref p] ∧ MapsAt H p n ms ∧ ∀ H' r rs, Same H H' → H r = none → H' r = some (.lst rs) → Paired (RowM H r H') rs (FM.rowsOf n ms) → Q (.ref r) H'
def spAgainst : Sp := fun vs H Q _ => ∃ r rows, vs = [.ref r] ∧ RowsL H r rows ∧ RowsOk rows ∧ RowsSound rows ∧ Q .non H
def spDone : Sp := fun vs H Q _ => ∃ p n ms a q, vs = [.ref p, .ref a] ∧ MapsAt H p n ms ∧ TupAt H (.ref a) q ∧ (∀ c ∈ q, c < ms.length) ∧ ∀ H' t, Same H H' → TupAt H' (.ref t) (FM.doneBy n ms q) → Q (.ref t) H'
/-- the drawing's state: a table in slot 7, what is found in slot 4 -/
structure DrawAt (b f : Addr) (n p : Nat) (H : Hp) (us : List V) (ms : List (List Nat)) (t : List Nat) : Prop where
  box : BoxAt H b
  tab : TupAt H (.ref p) t
  tt : FM.Tab n t
  n2 : 2 ≤ n
  n4 : n ≤ 4
  fo : H f = some (.lst us)
  fb : f ≠ b
  ust : TupsAt H us ms
  mst : ∀ m ∈ ms, FM.Tab n m
  m6 : ms.length ≤ 6
/-- one of the three ifs: the table may be another afterwards -/
def tTabIf : TS := fun D σ H => ∃ b k n i f y5 st p t y8 y9 us ms, σ = [some (.ref b), some (nV k), some (nV n), some (.ref i), some (.ref f), y5, some (nV st), some (.ref p), y8, y9, none] ∧ DrawAt b f n p H us ms t ∧
  ∀ H' p' t' y8' y9', Bx b H H' → TupAt H' (.ref p') t' → FM.Tab n t' → D.nx [some (.ref b), some (nV k), some (nV n), some (.ref i), some (.ref f), y5, some (nV st), some (.ref p'), y8', y9', none] H'
theorem DrawAt.next {b f n p p' : Nat} {H H' : Hp} {us : List V} {ms : List (List Nat)} {t t' : List Nat} (A : DrawAt b f n p H us ms t) (x : Bx b H H') (tp : TupAt H' (.ref p') t') (tt : FM.Tab n t') : DrawAt b f n p' H' us ms t' :=
  ⟨x.box, tp, tt, A.n2, A.n4, x.same _ _ A.fo A.fb, A.fb, x.tups A.box A.ust, A.mst, A.m6⟩
/-- between two turns -/
def DrawInv (b k n i f : Nat) (H : Hp) : L2.St → Hp → Prop := fun σ H' => ∃ y5 y6 y7 y8 y9 us ms, σ = [some (.ref b), some (nV k), some (nV n), some (.ref i), some (.ref f), y5, y6, y7, y8, y9, none] ∧ Bx b H H' ∧ TupAt H' (.ref i) (List.range n) ∧
  H' f = some (.lst us) ∧ TupsAt H' us ms ∧ (∀ m ∈ ms, FM.Tab n m) ∧ ms.Nodup ∧ List.range n ∉ ms ∧ ms.length ≤ k
theorem fmod_next (j n : Nat) : ((0 : Int) + (j : Int) + 1).fmod (n : Int) = (((j + 1) % n : Nat) : Int) := by
  rw [Int.fmod_eq_emod_of_nonneg _ (by omega), Int.zero_add]
  exact (Int.natCast_emod (j + 1) n).symm
section
variable {P : Program} {w : World} {K : PySem.W.Frag} {mg : Str → Option Value} {base : Heap} {f g h : Addr} {fd gd hd : FuncData}
theorem scMaps : FnScope ["_law_box_here", "_law_most", "_law_states", "_law_idle", "_law_found", "_law_turn", "_law_style", "_law_table", "_law_ahead", "_law_behind", "_law_state"] ["_law_box_here", "_law_most"] (defScope sMaps) := ⟨rfl, rfl, rfl, by decide +kernel, rfl, by decide +kernel, by decide +kernel⟩
theorem ok_maps (F : Fn K "_law_maps" sMaps f fd) (B : Blt mg) (G : FnOk P w K mg base CX0 1 g gd ["_law_box_here", "_law_many"] spTake) (C : Cal K mg "_law_take" g gd ["_law_box_here", "_law_many"])
    (G2 : FnOk P w K mg base CX0 2 h hd ["_law_box_here", "_law_some"] spPick) (C2 : Cal K mg "_law_pick" h hd ["_law_box_here", "_law_some"]) : FnOk P w K mg base CX0 3 f fd ["_law_box_here", "_law_most"] spMaps := by
  refine F.ok scMaps (fun vs H Q E h => ?_) (fun cdv A outer s H vs Q E hr h => ?_)
  · obtain ⟨b, k, rfl, _⟩ := h
    rfl
  · obtain ⟨b, k, rfl, hB, k1, k6, q⟩ := h
    have hu := room65 hr
    have hu4 := room64 hr
    refine ⟨_, PSs.nox (pss_cons (ps_set (i := 2) scMaps.nd rfl (Or.inr rfl) (pe_call G2 (hr.mono (by decide)) (by rfl) C2.m C2.kp C2.b .nil pass0 (pa_cons (pv 0) (pa_cons (pe_lst (pa_cons (pe_int) (pa_cons (pe_int) (pa_cons (pe_int) (pa_cons (pe_int) pa_nil))))) pa_nil))))
(pss_cons (ps_par (i := 3) (j := 4) (by rfl) scMaps.nd rfl rfl (by decide) rfl rfl (pa_cons (pe_tupRg rfl (by rfl) B.tuple (prg_1 (by rfl) B.range (pv 2))) (pa_cons (pe_lst pa_nil) pa_nil)) (by rfl))
(pss_cons (ps_for PassesOwn.never rfl (pi_range1 (by rfl) B.range (pa_cons (pe_op op_mul (pe_int) (pv 1)) pa_nil)) (pg_name (i := 5) scMaps.nd rfl (Or.inl rfl))
(pss_cons (ps_if (pt_cmpR op_eq (pe_callB (r := rLenOf K) call_lenOf (by rfl) B.len PySem.boot_len (pa_cons (pv 4) pa_nil)) (pv 1) (nomark _)) (pss_one ps_break) pss_nil)
(pss_cons (ps_set (i := 6) scMaps.nd rfl (Or.inl rfl) (pe_call G (hr.mono (by decide)) (by rfl) C.m C.kp C.b .nil pass0 (pa_cons (pv 0) (pa_cons (pe_int) pa_nil))))
(pss_cons (ps_set (i := 7) scMaps.nd rfl (Or.inl rfl) (pe_callTy (T := "tuple") (r := rTupOf K) call_tupOf (by rfl) B.tuple (by decide +kernel) (pa_cons (pe_lc (own := [("_law_state", 10)]) (g := gName 10) (tt := tYes) rfl scMaps.nd (pi_range1 (by rfl) B.range (pa_cons (pv 2) pa_nil)) (blkOk_by (own := [("_law_state", 10)]) (N := ["_law_box_here", "_law_most", "_law_states", "_law_idle", "_law_found", "_law_turn", "_law_style", "_law_table", "_law_ahead", "_law_behind", "_law_state"]) (sc := defScope sMaps) (by decide +kernel))
  (fun _ _ _ _ _ => (pg_name (i := 10) scMaps.nd rfl (by first | exact Or.inl rfl | exact Or.inr rfl))) (fun _ _ _ _ _ => pts_nil)
  (fun _ _ _ _ _ => (pe_call G (hr.mono (by decide)) (by rfl) C.m C.kp C.b .nil pass0 (pa_cons (pv 0) (pa_cons (pv 2) pa_nil))))) pa_nil)))
(pss_cons (ps_as (t' := tTabIf) (ps_if (pt_cmpR op_eq (pv 6) (pe_int) (nomark _)) (pss_one (ps_set (i := 7) scMaps.nd rfl (Or.inl rfl) (pe_op (r := rRepT K) op_repT (pe_tup (pa_cons (pe_call G (hr.mono (by decide)) (by rfl) C.m C.kp C.b .nil pass0 (pa_cons (pv 0) (pa_cons (pv 2) pa_nil))) pa_nil)) (pv 2)))) pss_nil) (by
      rintro D σ H ⟨b, k, n, i, f, y5, st, p, t, y8, y9, us, ms, rfl, A, q⟩
      have n2 := A.n2
      have n4 := A.n4
      have m6 := A.m6
      refine ⟨_, rfl, rfl, _, rfl, ite2 (fun _ => ?_) (fun _ => q H p t _ _ (Bx.refl A.box) A.tab A.tt)⟩
      refine ⟨_, rfl, _, rfl, b, n, rfl, A.box, by omega, by omega, fun z H1 lz x1 => ⟨(by show 1 ≤ sizeLine; decide), fun T nT => ?_⟩⟩
      refine ⟨_, rfl, T, _, _, rfl, rfl, sqT upd_same, by simp, by omega, by omega, (by show 1 ≤ 1000; decide), fun p' np' => ?_⟩
      exact q _ p' (List.replicate n z) _ _ (x1.then ((Same.new nT).trans (Same.new np'))) ⟨p', rfl, by rw [upd_same, ← rep_nV]; rfl⟩ (rep_tab lz)))
(pss_cons (ps_as (t' := tTabIf) (ps_if (pt_cmpR op_eq (pv 6) (pe_int) (nomark _)) (pss_one (ps_set (i := 7) scMaps.nd rfl (Or.inl rfl) (pe_callTy (T := "tuple") (r := rTupOf K) call_tupOf (by rfl) B.tuple (by decide +kernel) (pa_cons (pe_lc (own := [("_law_state", 10)]) (g := gName 10) (tt := tYes) rfl scMaps.nd (pi_range1 (by rfl) B.range (pa_cons (pv 2) pa_nil)) (blkOk_by (own := [("_law_state", 10)]) (N := ["_law_box_here", "_law_most", "_law_states", "_law_idle", "_law_found", "_law_turn", "_law_style", "_law_table", "_law_ahead", "_law_behind", "_law_state"]) (sc := defScope sMaps) (by decide +kernel))
  (fun _ _ _ _ _ => (pg_name (i := 10) scMaps.nd rfl (by first | exact Or.inl rfl | exact Or.inr rfl))) (fun _ _ _ _ _ => pts_nil)
  (fun _ _ _ _ _ => (pe_op op_modN (pe_callTy call_int1 (by rfl) B.int (by decide +kernel) (pa_cons (pe_op op_add (pv 10) (pe_int)) pa_nil)) (pv 2)))) pa_nil)))) pss_nil) (by
      rintro D σ H ⟨b, k, n, i, f, y5, st, p, t, y8, y9, us, ms, rfl, A, q⟩
      have n2 := A.n2
      have n4 := A.n4
      have m6 := A.m6
      refine ⟨_, rfl, rfl, _, rfl, ite2 (fun _ => ?_) (fun _ => q H p t _ _ (Bx.refl A.box) A.tab A.tt)⟩
      refine ⟨_, rfl, _, rfl, by omega, by omega, fun D' nD => lc_range (lo := 0) (n := ((n : Nat) : Int).toNat) (fun j H' => Same H H' ∧ H' D' = some (.lst (((List.range j).map fun s => (s + 1) % n).map nV))) ⟨Same.new nD, upd_same⟩ ?_ ?_⟩
      · intro j H' hj ⟨s5, eD⟩
        refine ⟨rfl, ⟨_, rfl, _, _, rfl, rfl, .inl ⟨_, rfl, _, rfl, _, _, rfl, rfl, by omega, _, eD, ?_, fun b o e => ?_, ?_⟩⟩⟩
        · simp only [List.length_map, List.length_range]
          exact small100 (by omega)
        · rw [upd_ne (ne_of_none e nD)]
          exact s5 _ _ e
        · rw [upd_same, List.range_succ, List.map_append, List.map_append]
          show some (HO.lst (_ ++ [V.int _])) = _
          rw [fmod_next]
          rfl
      · intro H' ⟨s5, eD⟩
        refine ⟨D', _, rfl, .inl ⟨sqL eD, fun l nl => q _ l _ _ _ (Bx.of A.box (s5.trans (Same.new nl))) ⟨l, rfl, upd_same⟩ ⟨by simp, fun x hx => ?_⟩⟩⟩
        obtain ⟨s, _, rfl⟩ := List.mem_map.mp hx
        exact Nat.mod_lt _ (by omega)))
(pss_cons (ps_as (t' := tTabIf) (ps_if (PW.pt (pw_and (pt_cmpR op_eq (pv 6) (pe_int) (nomark _)) (pw_and1 (pt_cmpR (op_neD hu4) (pv 4) (pe_lst pa_nil) (nomark _))))) (pss_cons (ps_asg (pe_tup (pa_cons (pe_call G2 (hr.mono (by decide)) (by rfl) C2.m C2.kp C2.b .nil pass0 (pa_cons (pv 0) (pa_cons (pv 4) pa_nil))) (pa_cons (pe_call G2 (hr.mono (by decide)) (by rfl) C2.m C2.kp C2.b .nil pass0 (pa_cons (pv 0) (pa_cons (pv 4) pa_nil))) pa_nil))) (pg_tup rfl (pgs_cons (pg_name (i := 8) scMaps.nd rfl (Or.inr rfl)) (pgs_cons (pg_name (i := 9) scMaps.nd rfl (Or.inr rfl)) pgs_nil))))
(pss_one (ps_set (i := 7) scMaps.nd rfl (Or.inl rfl) (pe_callTy (T := "tuple") (r := rTupOf K) call_tupOf (by rfl) B.tuple (by decide +kernel) (pa_cons (pe_lc (own := [("_law_state", 10)]) (g := gName 10) (tt := tYes) rfl scMaps.nd (pi_range1 (by rfl) B.range (pa_cons (pv 2) pa_nil)) (blkOk_by (own := [("_law_state", 10)]) (N := ["_law_box_here", "_law_most", "_law_states", "_law_idle", "_law_found", "_law_turn", "_law_style", "_law_table", "_law_ahead", "_law_behind", "_law_state"]) (sc := defScope sMaps) (by decide +kernel))
  (fun _ _ _ _ _ => (pg_name (i := 10) scMaps.nd rfl (by first | exact Or.inl rfl | exact Or.inr rfl))) (fun _ _ _ _ _ => pts_nil)
  (fun _ _ _ _ _ => (pe_ix (r := rIxT K) ix_tup (pv 9) (pe_ix (r := rIxT K) ix_tup (pv 8) (pv 10) (fun _ _ => rfl)) (fun _ _ => rfl)))) pa_nil))))) pss_nil) (by
      rintro D σ H ⟨b, k, n, i, f, y5, st, p, t, y8, y9, us, ms, rfl, A, q⟩
      have n2 := A.n2
      have n4 := A.n4
      have m6 := A.m6
      refine ⟨_, rfl, rfl, _, rfl, ite2 (fun _ => ?_) (fun _ => q H p t _ _ (Bx.refl A.box) A.tab A.tt)⟩
      refine ⟨_, rfl, Nat.zero_le _, fun l nl => ⟨_, _, .lst (sqL (Same.new nl _ _ A.fo)) (dp_tups (A.ust.same (Same.new nl))), .lst (sqL upd_same) .nil, shaped_tabs A.mst (by omega), rfl, _, rfl, ?_⟩⟩
      rw [eqv_nil]
      have x0 : Bx b H (upd H l (.lst [])) := Bx.of A.box (Same.new nl)
      by_cases hne : ms = []
      · exact iteN (by simp [hne]) (q _ p t _ _ x0 (A.tab.same (Same.new nl)) A.tt)
      refine iteP (by simp [hne]) ?_
      have ul := pLen A.ust
      have hpos : 1 ≤ us.length := by
        rw [ul]
        cases ms with
        | nil => exact absurd rfl hne
        | cons _ _ => simp
      have fo0 := Same.new (o := .lst []) nl _ _ A.fo
      refine ⟨_, rfl, _, rfl, b, false, f, us, rfl, x0.box, fo0, A.fb, hpos, by omega, fun z v H1 hv x1 => ?_⟩
      refine ⟨_, rfl, _, rfl, b, false, f, us, rfl, x1.box, x1.same _ _ fo0 A.fb, A.fb, hpos, by omega, fun z2 v2 H2 hv2 x2 => ?_⟩
      have x02 := (x0.trans x1).trans x2
      obtain ⟨m1, hm1, t1⟩ := pAt2 A.ust hv
      obtain ⟨m2, hm2, t2⟩ := pAt2 A.ust hv2
      have tm1 := A.mst _ (List.mem_of_getElem? hm1)
      have tm2 := A.mst _ (List.mem_of_getElem? hm2)
      obtain ⟨p1, rfl, e1⟩ := x02.tupAt A.box t1
      obtain ⟨p2, rfl, e2⟩ := x02.tupAt A.box t2
      refine ⟨(by show 2 ≤ sizeLine; decide), fun T nT => ⟨T, _, rfl, sqT upd_same, rfl, _, _, rfl, _, _, rfl, rfl, ?_⟩⟩
      have sT : Same H2 (upd H2 T (.tup [.ref p1, .ref p2])) := Same.new nT
      refine ⟨_, rfl, _, rfl, by omega, by omega, fun D' nD => lc_range (lo := 0) (n := ((n : Nat) : Int).toNat) (fun j H' => Same (upd H2 T (.tup [.ref p1, .ref p2])) H' ∧ H' D' = some (.lst (((FM.comp m1 m2).take j).map nV))) ⟨Same.new nD, upd_same⟩ ?_ ?_⟩
      · intro j H' hj ⟨s5, eD⟩
        have lj : j < m1.length := by rw [tm1.len]; omega
        have a1 : m1[j]? = some m1[j] := by simp [lj]
        have lv : m1[j] < m2.length := by rw [tm2.len]; exact tm1.lt _ (List.getElem_mem lj)
        have a2 : m2[m1[j]]? = some (m2.getD m1[j] 0) := by rw [List.getD_eq_getElem?_getD, List.getElem?_eq_getElem lv]; rfl
        refine ⟨rfl, ⟨_, rfl, _, rfl, _, rfl, p1, _, _, _, rfl, rfl, sqT (s5 _ _ (sT _ _ e1)), by rw [Int.zero_add]; exact atI_nat (nVs_get a1), p2, _, _, _, rfl, rfl, sqT (s5 _ _ (sT _ _ e2)), atI_nat (nVs_get a2), _, eD, ?_, fun b o e => ?_, ?_⟩⟩
        · rw [List.length_map, List.length_take, FM.comp_len]
          exact small100 (by omega)
        · rw [upd_ne (ne_of_none e nD)]
          exact s5 _ _ e
        · rw [upd_same, List.take_add_one, comp_at a1, List.map_append]
          rfl
      · intro H' ⟨s5, eD⟩
        rw [List.take_of_length_le (by rw [FM.comp_len, tm1.len]; omega)] at eD
        exact ⟨D', _, rfl, .inl ⟨sqL eD, fun l nl => q _ l _ _ _ (x02.then ((sT.trans s5).trans (Same.new nl))) ⟨l, rfl, upd_same⟩ (FM.comp_tab tm1 tm2)⟩⟩))
(pss_one (ps_if (PW.pt (pw_and (pt_cmpR (op_neD hu4) (pv 7) (pv 3) (nomark _)) (pw_and1 (pt_cmpR (r := rNotInD K) (op_notInD hu) (pv 7) (pv 4) (by rfl))))) (pss_one (ps_expr (pe_bm PySem.F.plainAttrs_list PySem.F.slot_list_append PySem.F.type_list_append mt_append (pv 4) (pa_cons (pv 7) pa_nil)))) pss_nil)))))))))
(pss_one (ps_ret (pe_ifExp (pt_cmpR (op_neD hu4) (pv 4) (pe_lst pa_nil) (nomark _)) (pv 4) (pe_lst (pa_cons (pe_op (r := rRepT K) op_repT (pe_tup (pa_cons (pe_int) pa_nil)) (pv 2)) pa_nil)))))))), ?_⟩
    refine ⟨_, rfl, (by show 4 ≤ sizeLine; decide), fun l nl => ?_⟩
    have bl : l ≠ b := fun z => by obtain ⟨_, _, _, e⟩ := hB; rw [z, e] at nl; cases nl
    refine ⟨b, false, l, [.int 2, .int 3, .int 3, .int 4], rfl, hB.same (Same.new nl), (show Tq false _ _ _ from upd_same), bl, by decide, by decide, fun z v H1 hv x1 => ?_⟩
    obtain ⟨n, rfl, n2, n4⟩ : ∃ n : Nat, v = nV n ∧ 2 ≤ n ∧ n ≤ 4 := by
      rcases z with _ | _ | _ | _ | z
      · exact ⟨2, (Option.some.inj hv).symm, by decide, by decide⟩
      · exact ⟨3, (Option.some.inj hv).symm, by decide, by decide⟩
      · exact ⟨3, (Option.some.inj hv).symm, by decide, by decide⟩
      · exact ⟨4, (Option.some.inj hv).symm, by decide, by decide⟩
      · cases hv
    have x1' : Bx b H H1 := (Bx.of hB (Same.new nl)).trans x1
    refine ⟨_, rfl, _, rfl, rgOk (by omega), fun i ni => ?_⟩
    rw [rgV_nV]
    refine ⟨Nat.zero_le _, fun f nf => ⟨_, _, rfl, ?_⟩⟩
    obtain ⟨H2, e2⟩ : ∃ H2, upd (upd H1 i (.tup ((List.range n).map nV))) f (.lst []) = H2 := ⟨_, rfl⟩
    rw [e2]
    have s12 : Same H1 H2 := by rw [← e2]; exact (Same.new ni).trans (Same.new nf)
    have x2 : Bx b H H2 := x1'.then s12
    have ef : H2 f = some (.lst []) := by rw [← e2, upd_same]
    have ti : TupAt H2 (.ref i) (List.range n) := ⟨i, rfl, by rw [← e2, upd_ne (ne_of_none upd_same nf), upd_same]⟩
    have nfH : H f = none := (x1'.then (Same.new ni)).free hB nf
    have fb : f ≠ b := fun z => by obtain ⟨_, _, _, e⟩ := hB; rw [z, e] at nfH; cases nfH
    refine ⟨_, rfl, _, _, rfl, rfl, .inl ⟨by decide, by decide⟩, _, rfl, (by omega), (by omega), ?_⟩
    refine (fun (fin : ∀ σ H', DrawInv b k n i f H σ H' → _) => for_range (lo := 0) (n := ((4 : Int) * (k : Int)).toNat) (fun _ => DrawInv b k n i f H) ⟨_, _, _, _, _, [], [], rfl, x2, ti, ef, .nil, (fun m h => nomatch h), List.nodup_nil, (fun h => nomatch h), Nat.zero_le _⟩ ?_ fin) ?_
    · intro j σ H3 hj hP
      obtain ⟨y5, y6, y7, y8, y9, us, ms, rfl, x3, ti3, ef3, hU, hT, nd, hI, hl⟩ := hP
      have ul := pLen hU
      refine ⟨_, rfl, .ref f, us.length, rfl, .inl ⟨us, sqL ef3, rfl⟩, _, rfl, rfl, _, rfl, ite2 (fun hb => ?_) (fun hb => ?_)⟩
      · exact fin _ _ ⟨_, _, _, _, _, us, ms, rfl, x3, ti3, ef3, hU, hT, nd, hI, hl⟩
      · have lk : ms.length < k := by
          have h1 : ¬ us.length = k := fun z => hb (decide_eq_true (by rw [z]; rfl))
          omega
        refine ⟨_, rfl, b, 4, rfl, x3.box, by decide, by decide, fun st H4 hst x4 => ?_⟩
        have x4' := x3.trans x4
        have fo4 := x4.same _ _ ef3 fb
        have hU4 := x4.tups x3.box hU
        have ti4 := x4.tupAt x3.box ti3
        refine ⟨_, rfl, _, rfl, by omega, by omega, fun D nD => lc_range (lo := 0) (n := ((n : Nat) : Int).toNat) (fun j H' => Bx b H4 H' ∧ ∃ t : List Nat, t.length = j ∧ (∀ x ∈ t, x < n) ∧ H' D = some (.lst (t.map nV))) ⟨Bx.of x4.box (Same.new nD), [], rfl, (fun x h => nomatch h), upd_same⟩ ?_ ?_⟩
        · intro j H5 hj ⟨x5, t, tl, tlt, eD⟩
          have Db : D ≠ b := fun z => by obtain ⟨_, _, _, e⟩ := x4.box; rw [z, e] at nD; cases nD
          refine ⟨rfl, ⟨_, rfl, _, rfl, b, n, rfl, x5.box, by omega, by omega, fun z H6 lz x6 => ⟨_, x6.same _ _ eD Db, ?_, (x5.trans x6).set nD Db, t ++ [z], by simp [tl], fun x hx => ?_, ?_⟩⟩⟩
          · rw [List.length_map, tl]
            exact small100 (by omega)
          · rcases List.mem_append.mp hx with h | h
            · exact tlt x h
            · rw [List.mem_singleton.mp h]; exact lz
          · rw [upd_same, List.map_append]
            rfl
        · intro H5 ⟨x5, t, tl, tlt, eD⟩
          refine ⟨D, _, rfl, .inl ⟨sqL eD, fun p np => ?_⟩⟩
          have x6 := x5.then (Same.new (o := .tup (t.map nV)) np)
          have A6 : DrawAt b f n p (upd H5 p (.tup (t.map nV))) us ms t := ⟨x6.box, ⟨p, rfl, upd_same⟩, ⟨by rw [tl]; omega, tlt⟩, n2, n4, x6.same _ _ fo4 fb, fb, x6.tups x4.box hU4, hT, by omega⟩
          refine ⟨b, k, n, i, f, _, st, p, t, _, _, us, ms, rfl, A6, fun H7 p7 t7 y8' y9' x7 tp7 tt7 => ?_⟩
          have A7 := A6.next x7 tp7 tt7
          refine ⟨b, k, n, i, f, _, st, p7, t7, _, _, us, ms, rfl, A7, fun H8 p8 t8 y8' y9' x8 tp8 tt8 => ?_⟩
          have A8 := A7.next x8 tp8 tt8
          refine ⟨b, k, n, i, f, _, st, p8, t8, _, _, us, ms, rfl, A8, fun H9 p9 t9 y8' y9' x9 tp9 tt9 => ?_⟩
          have A9 := A8.next x9 tp9 tt9
          have x49 := ((x6.trans x7).trans x8).trans x9
          have x9' := x4'.trans x49
          have ti9 := x49.tupAt x4.box ti4
          refine ⟨_, rfl, _, rfl, _, _, tp9.dp, ti9.dp, shaped_tab tt9 (by omega), shaped_tab (FM.range_tab n) (by omega), _, rfl, ?_⟩
          rw [eqv_tab]
          by_cases hid : t9 = List.range n
          · exact iteN (by simp [hid]) ⟨_, _, _, _, _, us, ms, rfl, x9', ti9, A9.fo, A9.ust, hT, nd, hI, hl⟩
          · refine iteP (by simp [hid]) ⟨_, rfl, _, rfl, _, _, tp9.dp, .lst (sqL A9.fo) (dp_tups A9.ust), shaped_tab tt9 (by omega), shaped_tabs hT (by omega), _, rfl, ?_⟩
            rw [any_tab]
            by_cases hin : t9 ∈ ms
            · exact iteN (by simp [hin]) ⟨_, _, _, _, _, us, ms, rfl, x9', ti9, A9.fo, A9.ust, hT, nd, hI, hl⟩
            · refine iteP (by simp [hin]) ⟨_, rfl, .inl ⟨rfl, _, sqL A9.fo⟩, _, rfl, f, us, _, rfl, rfl, A9.fo, small100 (by omega), ?_⟩
              have up : ∀ {v : V} {m' : List Nat}, TupAt H9 v m' → TupAt (upd H9 f (.lst (us ++ [.ref p9]))) v m' := fun {v m'} ⟨t, e1, e2⟩ => ⟨t, e1, by rw [upd_ne (ne_of e2 A9.fo (by intro z; cases z))]; exact e2⟩
              refine ⟨_, _, _, _, _, us ++ [.ref p9], ms ++ [t9], rfl, x9'.set nfH fb, up ti9, upd_same, pSnoc (up tp9) (Paired.mapP A9.ust fun _ _ h => up h), fun m hm => ?_, ?_, fun hm => ?_, by rw [List.length_append]; exact lk⟩
              · rcases List.mem_append.mp hm with h | h
                · exact hT m h
                · rw [List.mem_singleton.mp h]; exact tt9
              · rw [List.nodup_append]
                exact ⟨nd, List.nodup_cons.mpr ⟨fun z => (nomatch z), List.nodup_nil⟩, fun a ha b hb e => hin (by rw [← List.mem_singleton.mp hb, ← e]; exact ha)⟩
              · rcases List.mem_append.mp hm with h | h
                · exact hI h
                · exact hid (List.mem_singleton.mp h).symm
    · intro σ H3 hP
      obtain ⟨y5, y6, y7, y8, y9, us, ms, rfl, x3, ti3, ef3, hU, hT, nd, hI, hl⟩ := hP
      refine ⟨_, rfl, Nat.zero_le _, fun l nl => ?_⟩
      have dU := dp_tups (K := K) (hU.same (Same.new (o := .lst []) nl))
      refine ⟨_, _, .lst (sqL (Same.new nl _ _ ef3)) dU, .lst (sqL upd_same) .nil, shaped_tabs hT (by omega), rfl, _, rfl, ?_⟩
      rw [eqv_nil]
      by_cases hne : ms = []
      · subst hne
        refine iteN (by simp) ?_
        refine ⟨(by show 1 ≤ sizeLine; decide), fun T nT => ⟨_, rfl, T, _, _, rfl, rfl, sqT upd_same, by simp, by omega, by omega, by decide, fun p np => ⟨(by show 1 ≤ sizeLine; decide), fun r nr => ?_⟩⟩⟩
        have s3 : Same H3 _ := ((Same.new (o := .lst []) nl).trans (Same.new (o := .tup [.int 0]) nT)).trans (Same.new (o := .tup (List.replicate ((n : Nat) : Int).toNat [V.int 0]).flatten) np)
        have np' : upd (upd (upd H3 l (.lst [])) T (.tup [.int 0])) p (.tup (List.replicate ((n : Nat) : Int).toNat [V.int 0]).flatten) p = some (.tup ((List.replicate n 0).map nV)) := by
          rw [upd_same, ← rep_nV]
          rfl
        refine q n [List.replicate n 0] _ r (x3.then (s3.trans (Same.new nr))) ((x3.then s3).free hB nr) ⟨⟨[.ref p], upd_same, .cons ⟨p, rfl, Same.new nr _ _ np'⟩ .nil⟩, ⟨by omega, by omega, by simp, by simp, fun m hm => ?_, by simp, fun hm => ?_⟩, n2, n4, by simp⟩
        · rw [List.mem_singleton.mp hm]
          exact rep_tab (by omega)
        · have h0 := List.mem_singleton.mp hm
          have h1 : (List.range n)[1]? = (List.replicate n 0)[1]? := by rw [h0]
          rw [List.getElem?_range (by omega), List.getElem?_replicate, if_pos (by omega)] at h1
          cases h1
      · refine iteP (by simp [hne]) ⟨_, rfl, q n ms _ f (x3.then (Same.new nl)) nfH ⟨⟨us, Same.new nl _ _ ef3, hU.same (Same.new nl)⟩, ⟨by omega, by omega, ?_, by omega, hT, nd, hI⟩, n2, n4, by omega⟩⟩
        cases ms with
        | nil => exact absurd rfl hne
        | cons _ _ => simp
theorem RowsL.at {H : Hp} {t : Addr} {rows : List (List (Option Int))} (h : RowsL H t rows) (R : RowsOk rows) {a b : Nat} (ha : a < rows.length) (hb : b < rows.length) :
    ∃ us p vs, H t = some (.lst us) ∧ atI us (a : Int) = some (.ref p) ∧ H p = some (.lst vs) ∧ atI vs (b : Int) = some (oV (FM.row rows a b)) := by
  obtain ⟨us, e, p⟩ := h
  obtain ⟨r, h1, h2⟩ := row_at R ha hb
  obtain ⟨u, hu, q, rfl, hq⟩ := pAt p h1
  exact ⟨us, q, _, e, atI_nat hu, hq, atI_nat (by rw [List.getElem?_map, h2]; rfl)⟩
/-- what both, in slot 6, merges to -/
def tEnd : TE := fun σ H Q => ∃ p n ms t u, σ[0]? = some (some (.ref p)) ∧ σ[1]? = some (some (nV n)) ∧ σ[6]? = some (some (.ref u)) ∧ MapsAt H p n ms ∧ TupAt H (.ref u) t ∧ FM.Tab n t ∧ ∀ H', Same H H' → Q (oV (FM.endOf n ms t)) H'
theorem scRowsOf : FnScope ["_law_maps_here", "_law_states", "_law_rows", "_law_one", "_law_row", "_law_other", "_law_both", "_law_state"] ["_law_maps_here"] (defScope sRowsOf) := ⟨rfl, rfl, rfl, by decide +kernel, rfl, by decide +kernel, by decide +kernel⟩
theorem ok_rows_of (F : Fn K "_law_rows_of" sRowsOf f fd) (B : Blt mg) : FnOk P w K mg base CX0 1 f fd ["_law_maps_here"] spRowsOf := by
  refine F.ok scRowsOf (fun vs H Q E h => ?_) (fun cdv A outer s H vs Q E hr h => ?_)
  · obtain ⟨p, n, ms, rfl, _⟩ := h
    rfl
  · obtain ⟨p, n, ms, rfl, hM, q⟩ := h
    have hu := room65 hr
    have hu4 := room64 hr
    refine ⟨_, PSs.nox (pss_cons (ps_par (i := 1) (j := 2) (by rfl) scRowsOf.nd rfl rfl (by decide) rfl rfl (pa_cons (pe_callB (r := rLenOf K) call_lenOf (by rfl) B.len PySem.boot_len (pa_cons (pe_ix (r := rIxL K) ix_list (pv 0) (pe_int) (fun _ _ => rfl)) pa_nil)) (pa_cons (pe_lst pa_nil) pa_nil)) (by rfl))
(pss_cons (ps_for PassesOwn.never rfl (pi_list (pv 0)) (pg_name (i := 3) scRowsOf.nd rfl (Or.inr rfl))
(pss_cons (ps_set (i := 4) scRowsOf.nd rfl (Or.inl rfl) (pe_lst pa_nil))
(pss_cons (ps_for PassesOwn.never rfl (pi_list (pv 0)) (pg_name (i := 5) scRowsOf.nd rfl (Or.inr rfl))
(pss_cons (ps_set (i := 6) scRowsOf.nd rfl (Or.inl rfl) (pe_callTy (T := "tuple") (r := rTupOf K) call_tupOf (by rfl) B.tuple (by decide +kernel) (pa_cons (pe_lc (own := [("_law_state", 7)]) (g := gName 7) (tt := tYes) rfl scRowsOf.nd (pi_range1 (by rfl) B.range (pa_cons (pv 1) pa_nil)) (blkOk_by (own := [("_law_state", 7)]) (N := ["_law_maps_here", "_law_states", "_law_rows", "_law_one", "_law_row", "_law_other", "_law_both", "_law_state"]) (sc := defScope sRowsOf) (by decide +kernel))
  (fun _ _ _ _ _ => (pg_name (i := 7) scRowsOf.nd rfl (by first | exact Or.inl rfl | exact Or.inr rfl))) (fun _ _ _ _ _ => pts_nil)
  (fun _ _ _ _ _ => (pe_ix (r := rIxT K) ix_tup (pv 5) (pe_ix (r := rIxT K) ix_tup (pv 3) (pv 7) (fun _ _ => rfl)) (fun _ _ => rfl)))) pa_nil)))
(pss_one (ps_expr (pe_bm PySem.F.plainAttrs_list PySem.F.slot_list_append PySem.F.type_list_append mt_append (pv 4) (pa_cons (pe_as (t' := tEnd) (pe_ifExp (pt_cmpR (op_eqD hu4) (pv 6) (pe_tupRg rfl (by rfl) B.tuple (prg_1 (by rfl) B.range (pv 1))) (nomark _)) (pe_un un_neg (pe_int)) (pe_ifExp (pt_cmpR (r := rInD K) (op_inD hu) (pv 6) (pv 0) (by rfl)) (pe_bm PySem.F.plainAttrs_list PySem.F.slot_list_index PySem.F.type_list_index (mt_indexD hu) (pv 0) (pa_cons (pv 6) pa_nil)) (pe_non))) (by
      rintro σ H Q ⟨p, n, ms, t, u, i0, i1, i6, hM, hT, tt, q⟩
      have n4 := hM.n4
      have m6 := hM.m6
      obtain ⟨us, eP, hU⟩ := hM.at'
      refine ⟨_, i6, _, i1, _, rfl, rgOk (by omega), fun l nl => ?_⟩
      rw [rgV_nV]
      have sl : Same H (upd H l (.tup ((List.range n).map nV))) := Same.new nl
      have tl : TupAt (upd H l (.tup ((List.range n).map nV))) (.ref l) (List.range n) := ⟨l, rfl, upd_same⟩
      refine ⟨_, _, (hT.same sl).dp, tl.dp, shaped_tab tt (by omega), shaped_tab (FM.range_tab n) (by omega), _, rfl, ?_⟩
      rw [eqv_tab]
      have z := q _ sl
      unfold FM.endOf at z
      by_cases hid : t = List.range n
      · rw [if_pos hid] at z
        exact iteP (decide_eq_true hid) ⟨_, rfl, z⟩
      · rw [if_neg hid] at z
        have dT := (hT.same sl).dp (K := K)
        have dL : Dp K (upd H l (.tup ((List.range n).map nV))) (.ref p) (.list (ms.map tabD)) := .lst (sqL (sl _ _ eP)) (dp_tups (hU.same sl))
        have hs := shaped_tabs hM.mach.tabs (by omega)
        refine iteN (fun z => hid (of_decide_eq_true z)) ⟨_, i6, _, i0, _, _, dT, dL, shaped_tab tt (by omega), hs, _, rfl, ?_⟩
        rw [any_tab]
        by_cases hin : t ∈ ms
        · obtain ⟨j, hj⟩ := FM.idxOf?_mem hin
          have hj2 := FM.idxOf?_some hj
          rw [hj] at z
          refine iteP (decide_eq_true hin) ⟨_, i0, .inl ⟨rfl, _, sqL (sl _ _ eP)⟩, _, i6, p, .ref u, tabD t, ms.map tabD, j, tabD t, rfl, rfl, dL, dT, hs, shaped_tab tt (by omega), by rw [List.getElem?_map, hj2]; rfl, by rw [eqv_tab]; exact decide_eq_true rfl, fun k z' hk hz' => ?_, z⟩
          rw [List.getElem?_map] at hz'
          obtain ⟨m, hm, rfl⟩ := Option.map_eq_some_iff.mp hz'
          rw [eqv_tab, decide_eq_false_iff_not]
          exact FM.idxOf?_first hj k m hk hm
        · have h2 : ms.idxOf? t = none := by
            cases h : ms.idxOf? t with
            | none => rfl
            | some k => exact absurd (List.mem_of_getElem? (FM.idxOf?_some h)) hin
          rw [h2] at z
          exact iteN (fun z => hin (of_decide_eq_true z)) z)) pa_nil))))))
(pss_one (ps_expr (pe_bm PySem.F.plainAttrs_list PySem.F.slot_list_append PySem.F.type_list_append mt_append (pv 2) (pa_cons (pv 4) pa_nil)))))))
(pss_one (ps_ret (pv 2))))), ?_⟩
    have M := hM.mach
    have m1 := M.m1
    have n4 := hM.n4
    have m6 := hM.m6
    obtain ⟨us, eP, hU⟩ := hM.at'
    have ul := pLen hU
    obtain ⟨p0, hp0, ep0⟩ := tup_at hU (show 0 < ms.length by omega)
    have l0 : ((FM.tab ms 0).map nV).length = n := by rw [List.length_map]; exact (M.tab (by omega)).len
    refine ⟨_, rfl, p, us, _, _, rfl, rfl, sqL eP, atI_nat (j := 0) hp0, .ref p0, n, rfl, .inr ⟨_, sqT ep0, l0.symm⟩, Nat.zero_le _, fun R nR => ⟨_, _, rfl, ?_⟩⟩
    refine ⟨_, rfl, p, rfl, ⟨us, sqL (Same.new nR _ _ eP)⟩, for_list (xs := us) (fun i σ H' => ∃ y3 y4 y5 y6 rs, σ = [some (.ref p), some (nV n), some (.ref R), y3, y4, y5, y6, none] ∧ Same H H' ∧ H' R = some (.lst rs) ∧ Paired (RowM H R H') rs ((ms.take i).map fun a => ms.map fun b => FM.endOf n ms (FM.comp a b)))
      ⟨_, _, _, _, [], rfl, Same.new nR, upd_same, .nil⟩ (fun i σ H' _ ⟨_, _, _, _, _, _, s1, _⟩ => sqL (s1 _ _ eP)) ?_ ?_⟩
    · intro i x σ H1 hx hP
      obtain ⟨y3, y4, y5, y6, rs, rfl, s1, eR, hRs⟩ := hP
      obtain ⟨one, hone, t1⟩ := pAt2 hU hx
      have tm1 := M.tabs _ (List.mem_of_getElem? hone)
      obtain ⟨p1, rfl, e1⟩ := t1
      have li : i < ms.length := (List.getElem?_eq_some_iff.mp hone).1
      refine ⟨Nat.zero_le _, fun S nS => ?_⟩
      have SR : S ≠ R := fun z => by rw [z, eR] at nS; cases nS
      have nSH : H S = none := s1.free nS
      refine ⟨_, rfl, p, rfl, ⟨us, sqL (Same.new nS _ _ (s1 _ _ eP))⟩, for_list (xs := us) (fun j σ H' => ∃ y5 y6, σ = [some (.ref p), some (nV n), some (.ref R), some (.ref p1), some (.ref S), y5, y6, none] ∧ Same H1 H' ∧ H' S = some (.lst (((ms.take j).map fun b => FM.endOf n ms (FM.comp one b)).map oV)))
        ⟨_, _, rfl, Same.new nS, upd_same⟩ (fun i σ H' _ ⟨_, _, _, s2, _⟩ => sqL (s2 _ _ (s1 _ _ eP))) ?_ ?_⟩
      · intro j x σ H2 hx hP
        obtain ⟨y5, y6, rfl, s2, eS⟩ := hP
        obtain ⟨oth, hoth, t2⟩ := pAt2 hU hx
        have tm2 := M.tabs _ (List.mem_of_getElem? hoth)
        obtain ⟨p2, rfl, e2⟩ := t2
        have lj : j < ms.length := (List.getElem?_eq_some_iff.mp hoth).1
        have s02 := s1.trans s2
        refine ⟨_, rfl, _, rfl, by omega, by omega, fun D nD => lc_range (lo := 0) (n := ((n : Nat) : Int).toNat) (fun k H' => Same H2 H' ∧ H' D = some (.lst (((FM.comp one oth).take k).map nV))) ⟨Same.new nD, upd_same⟩ ?_ ?_⟩
        · intro k H' hk ⟨s5, eD⟩
          have lk : k < one.length := by rw [tm1.len]; omega
          have a1 : one[k]? = some one[k] := by simp [lk]
          have lv : one[k] < oth.length := by rw [tm2.len]; exact tm1.lt _ (List.getElem_mem lk)
          have a2 : oth[one[k]]? = some (oth.getD one[k] 0) := by rw [List.getD_eq_getElem?_getD, List.getElem?_eq_getElem lv]; rfl
          refine ⟨rfl, ⟨_, rfl, _, rfl, _, rfl, p1, _, _, _, rfl, rfl, sqT (s5 _ _ (s02 _ _ e1)), by rw [Int.zero_add]; exact atI_nat (nVs_get a1), p2, _, _, _, rfl, rfl, sqT (s5 _ _ (s02 _ _ e2)), atI_nat (nVs_get a2), _, eD, ?_, fun b o e => ?_, ?_⟩⟩
          · rw [List.length_map, List.length_take, FM.comp_len]
            exact small100 (by omega)
          · rw [upd_ne (ne_of_none e nD)]
            exact s5 _ _ e
          · rw [upd_same, List.take_add_one, comp_at a1, List.map_append]
            rfl
        · intro H3 ⟨s5, eD⟩
          rw [List.take_of_length_le (by rw [FM.comp_len, tm1.len]; omega)] at eD
          refine ⟨D, _, rfl, .inl ⟨sqL eD, fun l nl => ?_⟩⟩
          have s3 : Same H2 (upd H3 l (.tup ((FM.comp one oth).map nV))) := s5.trans (Same.new nl)
          have s03 := s02.trans s3
          refine ⟨_, rfl, .inl ⟨rfl, _, sqL (s3 _ _ eS)⟩, p, n, ms, FM.comp one oth, l, rfl, rfl, rfl, hM.same s03, ⟨l, rfl, upd_same⟩, FM.comp_tab tm1 tm2, fun H4 s4 => ?_⟩
          refine ⟨S, _, _, rfl, rfl, s4 _ _ (s3 _ _ eS), ?_, ?_⟩
          · simp only [List.length_map, List.length_take]
            exact small100 (by omega)
          · refine ⟨_, _, rfl, fun b o e => ?_, ?_⟩
            · rw [upd_ne (ne_of_none e nS)]
              exact s4 _ _ (s3 _ _ (s2 _ _ e))
            · rw [upd_same, List.take_add_one, hoth, List.map_append, List.map_append]
              rfl
      · intro σ H2 ⟨y5, y6, e, s2, eS⟩
        subst e
        rw [ul, List.take_length] at eS
        refine ⟨_, rfl, .inl ⟨rfl, _, sqL (s2 _ _ eR)⟩, _, rfl, R, rs, _, rfl, rfl, s2 _ _ eR, ?_, ?_⟩
        · have := pLen hRs
          rw [List.length_map, List.length_take] at this
          exact small100 (by omega)
        · refine ⟨_, _, _, _, rs ++ [.ref S], rfl, fun b o e => ?_, upd_same, ?_⟩
          · rw [upd_ne (ne_of_none e nR)]
            exact s2 _ _ (s1 _ _ e)
          · rw [List.take_add_one, hone, List.map_append]
            have up : ∀ {q : Addr} {r : List (Option Int)}, H2 q = some (.lst (r.map oV)) → q ≠ R → upd H2 R (.lst (rs ++ [.ref S])) q = some (.lst (r.map oV)) := fun e ne => by rw [upd_ne ne]; exact e
            exact pSnoc ⟨S, rfl, SR, nSH, up eS SR⟩ (Paired.mapP hRs fun v r ⟨q, e1, ne, e0, e2⟩ => ⟨q, e1, ne, e0, up (s2 _ _ e2) ne⟩)
    · intro σ H1 ⟨y3, y4, y5, y6, rs, e, s1, eR, hRs⟩
      subst e
      rw [ul, List.take_length] at hRs
      exact ⟨_, rfl, q _ R rs s1 nR eR hRs⟩
/-- left and right, as against asks -/
def tLeftL : TE := fun σ H Q => ∃ r rows, ∃ a b c : Nat, ∃ x, σ[0]? = some (some (.ref r)) ∧ σ[2]? = some (some (nV a)) ∧ σ[3]? = some (some (nV b)) ∧ σ[4]? = some (some (nV c)) ∧ RowsL H r rows ∧ RowsOk rows ∧ a < rows.length ∧ b < rows.length ∧ c < rows.length ∧ FM.row rows a b = some x ∧ Q (oV (FM.leftOf rows x c)) H
def tRightL : TE := fun σ H Q => ∃ r rows, ∃ a b c : Nat, ∃ x, σ[0]? = some (some (.ref r)) ∧ σ[2]? = some (some (nV a)) ∧ σ[3]? = some (some (nV b)) ∧ σ[4]? = some (some (nV c)) ∧ RowsL H r rows ∧ RowsOk rows ∧ a < rows.length ∧ b < rows.length ∧ c < rows.length ∧ FM.row rows b c = some x ∧ Q (oV (FM.rightOf rows a x)) H
theorem scAgainst : FnScope ["_law_rows", "_law_many", "_law_a", "_law_b", "_law_c", "_law_left", "_law_right"] ["_law_rows"] (defScope sAgainst) := ⟨rfl, rfl, rfl, by decide +kernel, rfl, by decide +kernel, by decide +kernel⟩
theorem oV_self (o : Option Int) : scal (oV o) (oV o) = true := by cases o <;> rfl
theorem ok_against (F : Fn K "_law_against" sAgainst f fd) (B : Blt mg) : FnOk P w K mg base CX0 1 f fd ["_law_rows"] spAgainst := by
  refine F.ok scAgainst (fun vs H Q E h => ?_) (fun cdv A outer s H vs Q E hr h => ?_)
  · obtain ⟨r, rows, rfl, _⟩ := h
    rfl
  · obtain ⟨r, rows, rfl, hR, R, S, q⟩ := h
    have l12 := R.l12
    refine ⟨_, PSs.nox (pss_cons (ps_set (i := 1) scAgainst.nd rfl (Or.inl rfl) (pe_callB (r := rLenOf K) call_lenOf (by rfl) B.len PySem.boot_len (pa_cons (pv 0) pa_nil)))
(pss_cons (ps_for PassesOwn.never rfl (pi_range1 (by rfl) B.range (pa_cons (pv 1) pa_nil)) (pg_name (i := 2) scAgainst.nd rfl (Or.inl rfl))
(pss_one (ps_for PassesOwn.never rfl (pi_range1 (by rfl) B.range (pa_cons (pv 1) pa_nil)) (pg_name (i := 3) scAgainst.nd rfl (Or.inl rfl))
(pss_one (ps_for PassesOwn.never rfl (pi_range1 (by rfl) B.range (pa_cons (pv 1) pa_nil)) (pg_name (i := 4) scAgainst.nd rfl (Or.inl rfl))
(pss_one (ps_if (PW.pt (pw_and (pt_cmpR op_notN (pe_ix (r := rIxL K) ix_list (pe_ix (r := rIxL K) ix_list (pv 0) (pv 2) (fun _ _ => rfl)) (pv 3) (fun _ _ => rfl)) pe_non (nomark _)) (pw_and1 (pt_cmpR op_notN (pe_ix (r := rIxL K) ix_list (pe_ix (r := rIxL K) ix_list (pv 0) (pv 3) (fun _ _ => rfl)) (pv 4) (fun _ _ => rfl)) pe_non (nomark _))))) (pss_cons (ps_set (i := 5) scAgainst.nd rfl (Or.inl rfl) (pe_as (t' := tLeftL) (pe_ifExp (pt_cmpR op_eq (pe_ix (r := rIxL K) ix_list (pe_ix (r := rIxL K) ix_list (pv 0) (pv 2) (fun _ _ => rfl)) (pv 3) (fun _ _ => rfl)) (pe_un un_neg (pe_int)) (nomark _)) (pv 4) (pe_ix (r := rIxL K) ix_list (pe_ix (r := rIxL K) ix_list (pv 0) (pe_ix (r := rIxL K) ix_list (pe_ix (r := rIxL K) ix_list (pv 0) (pv 2) (fun _ _ => rfl)) (pv 3) (fun _ _ => rfl)) (fun _ _ => rfl)) (pv 4) (fun _ _ => rfl))) (by
      rintro σ H Q ⟨r, rows, a, b, c, x, i0, i2, i3, i4, hR, R, ha, hb, hc, hx, q⟩
      obtain ⟨us1, p1, vs1, e1, j1, e2, j2⟩ := hR.at R ha hb
      rw [hx] at j2
      refine ⟨_, i0, _, i2, r, us1, _, _, rfl, rfl, sqL e1, j1, _, i3, p1, vs1, _, _, rfl, rfl, sqL e2, j2, _, rfl, rfl, _, rfl, ?_⟩
      rcases row_end R ha hb hx with rfl | ⟨k, rfl, hk⟩
      · rw [left_gone] at q
        exact iteP (int_dec rfl) ⟨_, i4, q⟩
      · rw [left_at] at q
        obtain ⟨us3, p3, vs3, e5, j5, e6, j6⟩ := hR.at R hk hc
        exact iteN (int_ndec (by omega)) ⟨_, i0, _, i0, _, i2, r, us1, _, _, rfl, rfl, sqL e1, j1, _, i3, p1, vs1, _, _, rfl, rfl, sqL e2, j2, r, us3, _, _, rfl, rfl, sqL e5, j5, _, i4, p3, vs3, _, _, rfl, rfl, sqL e6, j6, q⟩)))
(pss_cons (ps_set (i := 6) scAgainst.nd rfl (Or.inl rfl) (pe_as (t' := tRightL) (pe_ifExp (pt_cmpR op_eq (pe_ix (r := rIxL K) ix_list (pe_ix (r := rIxL K) ix_list (pv 0) (pv 3) (fun _ _ => rfl)) (pv 4) (fun _ _ => rfl)) (pe_un un_neg (pe_int)) (nomark _)) (pv 2) (pe_ix (r := rIxL K) ix_list (pe_ix (r := rIxL K) ix_list (pv 0) (pv 2) (fun _ _ => rfl)) (pe_ix (r := rIxL K) ix_list (pe_ix (r := rIxL K) ix_list (pv 0) (pv 3) (fun _ _ => rfl)) (pv 4) (fun _ _ => rfl)) (fun _ _ => rfl))) (by
      rintro σ H Q ⟨r, rows, a, b, c, x, i0, i2, i3, i4, hR, R, ha, hb, hc, hx, q⟩
      obtain ⟨us1, p1, vs1, e1, j1, e2, j2⟩ := hR.at R hb hc
      rw [hx] at j2
      refine ⟨_, i0, _, i3, r, us1, _, _, rfl, rfl, sqL e1, j1, _, i4, p1, vs1, _, _, rfl, rfl, sqL e2, j2, _, rfl, rfl, _, rfl, ?_⟩
      rcases row_end R hb hc hx with rfl | ⟨k, rfl, hk⟩
      · rw [right_gone] at q
        exact iteP (int_dec rfl) ⟨_, i2, q⟩
      · rw [right_at] at q
        obtain ⟨us3, p3, vs3, e5, j5, e6, j6⟩ := hR.at R ha hk
        exact iteN (int_ndec (by omega)) ⟨_, i0, _, i2, r, us3, _, _, rfl, rfl, sqL e5, j5, _, i0, _, i3, r, us1, _, _, rfl, rfl, sqL e1, j1, _, i4, p1, vs1, _, _, rfl, rfl, sqL e2, j2, p3, vs3, _, _, rfl, rfl, sqL e6, j6, q⟩)))
(pss_one (ps_if (pt_cmpR op_ne (pv 5) (pv 6) (nomark _)) (pss_one (ps_ret (pe_tup (pa_cons (pv 2) (pa_cons (pv 3) (pa_cons (pv 4) pa_nil)))))) pss_nil)))) pss_nil)))))))
(pss_one (ps_ret (pe_non))))), ?_⟩
    have hR' := hR
    obtain ⟨us, eR, pU⟩ := hR'
    have ul := pLen pU
    refine ⟨_, rfl, .ref r, rows.length, rfl, .inl ⟨us, sqL eR, ul.symm⟩, ?_⟩
    refine ⟨_, rfl, _, rfl, by omega, by omega, for_range (lo := 0) (n := ((rows.length : Nat) : Int).toNat) (fun i σ H' => ∃ y2 y3 y4 y5 y6, σ = [some (.ref r), some (nV rows.length), y2, y3, y4, y5, y6] ∧ H' = H) ⟨_, _, _, _, _, rfl, rfl⟩ ?_ fun σ H' ⟨_, _, _, _, _, e, eH⟩ => by subst eH; exact q⟩
    intro a σ H1 ha hP
    obtain ⟨y2, y3, y4, y5, y6, rfl, rfl⟩ := hP
    refine ⟨_, rfl, _, rfl, by omega, by omega, for_range (lo := 0) (n := ((rows.length : Nat) : Int).toNat) (fun i σ H' => ∃ y3 y4 y5 y6, σ = [some (.ref r), some (nV rows.length), some (.int (0 + (a : Int))), y3, y4, y5, y6] ∧ H' = H1) ⟨_, _, _, _, rfl, rfl⟩ ?_ fun σ H' ⟨_, _, _, _, e, eH⟩ => ⟨_, _, _, _, _, e, eH⟩⟩
    intro b σ H2 hb hP
    obtain ⟨y3, y4, y5, y6, rfl, rfl⟩ := hP
    refine ⟨_, rfl, _, rfl, by omega, by omega, for_range (lo := 0) (n := ((rows.length : Nat) : Int).toNat) (fun i σ H' => ∃ y4 y5 y6, σ = [some (.ref r), some (nV rows.length), some (.int (0 + (a : Int))), some (.int (0 + (b : Int))), y4, y5, y6] ∧ H' = H2) ⟨_, _, _, rfl, rfl⟩ ?_ fun σ H' ⟨_, _, _, e, eH⟩ => ⟨_, _, _, _, e, eH⟩⟩
    intro c σ H3 hc hP
    obtain ⟨y4, y5, y6, rfl, rfl⟩ := hP
    rw [Int.zero_add, Int.zero_add, Int.zero_add]
    have ha' : a < rows.length := by omega
    have hb' : b < rows.length := by omega
    have hc' : c < rows.length := by omega
    obtain ⟨us1, p1, vs1, e1, i1, e2, i2⟩ := hR.at R ha' hb'
    obtain ⟨us2, p2, vs2, e3, i3, e4, i4⟩ := hR.at R hb' hc'
    refine ⟨_, rfl, _, rfl, r, us1, _, _, rfl, rfl, sqL e1, i1, _, rfl, p1, vs1, _, _, rfl, rfl, sqL e2, i2, rfl, _, rfl, ?_⟩
    rcases h1 : FM.row rows a b with _ | x
    · exact iteN (by first | rw [h1]; simp [oV] | simp [oV]) ⟨_, _, _, rfl, rfl⟩
    refine iteP (by first | rw [h1]; simp [oV] | simp [oV]) ?_
    refine ⟨_, rfl, _, rfl, r, us2, _, _, rfl, rfl, sqL e3, i3, _, rfl, p2, vs2, _, _, rfl, rfl, sqL e4, i4, rfl, _, rfl, ?_⟩
    rcases h2 : FM.row rows b c with _ | y
    · exact iteN (by first | rw [h2]; simp [oV] | simp [oV]) ⟨_, _, _, rfl, rfl⟩
    refine iteP (by first | rw [h2]; simp [oV] | simp [oV]) ?_
    refine ⟨r, rows, a, b, c, x, rfl, rfl, rfl, rfl, hR, R, ha', hb', hc', h1, ?_⟩
    refine ⟨r, rows, a, b, c, y, rfl, rfl, rfl, rfl, hR, R, ha', hb', hc', h2, ?_⟩
    rw [← S a b c x y ha' hb' hc' h1 h2]
    exact ⟨_, rfl, _, rfl, oV_self _, _, rfl, iteN oV_ne ⟨_, _, _, rfl, rfl⟩⟩
theorem scDone : FnScope ["_law_maps_here", "_law_queue", "_law_states", "_law_command", "_law_state"] ["_law_maps_here", "_law_queue"] (defScope sDone) := ⟨rfl, rfl, rfl, by decide +kernel, rfl, by decide +kernel, by decide +kernel⟩
theorem ok_done (F : Fn K "_law_done" sDone f fd) (B : Blt mg) : FnOk P w K mg base CX0 1 f fd ["_law_maps_here", "_law_queue"] spDone := by
  refine F.ok scDone (fun vs H Q E h => ?_) (fun cdv A outer s H vs Q E hr h => ?_)
  · obtain ⟨p, n, ms, a, q, rfl, _⟩ := h
    rfl
  · obtain ⟨t, n, ms, a, q, rfl, hM, ⟨a', ea, hq⟩, hb, k⟩ := h
    cases ea
    refine ⟨_, PSs.nox (pss_cons (ps_set (i := 2) scDone.nd rfl (Or.inl rfl) (pe_listRg rfl (by rfl) B.list (prg_1 (by rfl) B.range (pe_callB (r := rLenOf K) call_lenOf (by rfl) B.len PySem.boot_len (pa_cons (pe_ix (r := rIxL K) ix_list (pv 0) (pe_int) (fun _ _ => rfl)) pa_nil)))))
(pss_cons (ps_for PassesOwn.never rfl (pi_tup (pv 1)) (pg_name (i := 3) scDone.nd rfl (Or.inr rfl))
(pss_one (ps_setLc (own := [("_law_state", 4)]) (g := gName 4) (tt := tYes) (i := 2) rfl scDone.nd rfl rfl (sw_true rfl rfl rfl (by decide +kernel)) (pi_list (pv 2)) (blkOk_by (own := [("_law_state", 4)]) (N := ["_law_maps_here", "_law_queue", "_law_states", "_law_command", "_law_state"]) (sc := defScope sDone) (by decide +kernel))
  (fun _ _ _ _ _ => (pg_name (i := 4) scDone.nd rfl (by first | exact Or.inl rfl | exact Or.inr rfl))) (fun _ _ _ _ _ => pts_nil)
  (fun _ _ _ _ _ => (pe_ix (r := rIxT K) ix_tup (pe_ix (r := rIxL K) ix_list (pv 0) (pv 3) (fun _ _ => rfl)) (pv 4) (fun _ _ => rfl))))))
(pss_one (ps_ret (pe_callTy (T := "tuple") (r := rTupOf K) call_tupOf (by rfl) B.tuple (by decide +kernel) (pa_cons (pv 2) pa_nil)))))), ?_⟩
    obtain ⟨us, eT, hU⟩ := hM.at'
    have M := hM.mach
    have m1 := M.m1
    have n60 := M.n60
    obtain ⟨p0, hp0, ep0⟩ := tup_at hU (show 0 < ms.length by omega)
    have l0 : ((FM.tab ms 0).map nV).length = n := by rw [List.length_map]; exact (M.tab (by omega)).len
    refine ⟨_, rfl, t, us, _, _, rfl, rfl, sqL eT, atI_nat (j := 0) hp0, .ref p0, n, rfl, .inr ⟨_, sqT ep0, l0.symm⟩, _, rfl, rgOk (by omega), fun o no => ?_⟩
    rw [rgV_nV]
    have s0 : Same H (upd H o (.lst ((List.range n).map nV))) := Same.new no
    refine ⟨_, rfl, a, rfl, ⟨_, sqT (s0 _ _ hq)⟩, for_tup (xs := q.map nV) (fun i σ H' => ∃ o' y3, σ = [some (.ref t), some (.ref a), some (.ref o'), y3, none] ∧ Same H H' ∧ H' o' = some (.lst ((FM.doneBy n ms (q.take i)).map nV)))
      ⟨o, _, rfl, s0, upd_same⟩ (fun i σ H' _ ⟨_, _, _, s2, _⟩ => sqT (s2 _ _ hq)) ?_ ?_⟩
    · intro i x σ H1 hx hP
      obtain ⟨o', y3, rfl, s2, eo⟩ := hP
      obtain ⟨c, hc, rfl⟩ := nVs_inv hx
      have lc := hb c (List.mem_of_getElem? hc)
      have hqi : ∀ c ∈ q.take i, c < ms.length := fun c h => hb c (List.mem_of_mem_take h)
      have tS := FM.done_tab M hqi
      have tC := M.tab lc
      obtain ⟨p, hp, ep⟩ := tup_at hU lc
      refine ⟨_, rfl, o', rfl, ⟨_, sqL eo⟩, fun D nD => lc_list (xs := (FM.doneBy n ms (q.take i)).map nV) (fun j H' => Same H H' ∧ H' o' = some (.lst ((FM.doneBy n ms (q.take i)).map nV)) ∧ H' D = some (.lst ((FM.comp ((FM.doneBy n ms (q.take i)).take j) (FM.tab ms c)).map nV)))
        ⟨s2.trans (Same.new nD), by rw [upd_ne (ne_of_none eo nD)]; exact eo, upd_same⟩ (fun j H' _ ⟨_, e, _⟩ => sqL e) ?_ ?_⟩
      · intro j x H' hx ⟨s5, eo5, eD⟩
        have nD' : H D = none := s2.free nD
        obtain ⟨z, hz, rfl⟩ := nVs_inv hx
        have lz : z < n := tS.lt z (List.mem_of_getElem? hz)
        have zl : z < (FM.tab ms c).length := by rw [tC.len]; exact lz
        have hjl := (List.getElem?_eq_some_iff.mp hz).1
        have hit : (FM.tab ms c)[z]? = some ((FM.tab ms c).getD z 0) := by rw [List.getD_eq_getElem?_getD, List.getElem?_eq_getElem zl]; rfl
        refine ⟨rfl, ⟨_, rfl, _, rfl, t, us, _, _, rfl, rfl, sqL (s5 _ _ eT), atI_nat hp, _, rfl, p, _, _, _, rfl, rfl, sqT (s5 _ _ ep), atI_nat (nVs_get hit), _, eD, ?_, ?_, ?_, ?_⟩⟩
        · rw [List.length_map, FM.comp_len, List.length_take]
          have := tS.len
          exact small100 (by omega)
        · exact fun b o e => by rw [upd_ne (ne_of_none e nD')]; exact s5 _ _ e
        · have : o' ≠ D := fun z => by rw [z, nD] at eo; cases eo
          rw [upd_ne this]
          exact eo5
        · rw [upd_same, List.take_add_one, hz]
          show some (HO.lst _) = some (HO.lst _)
          congr 2
          unfold FM.comp
          rw [List.map_append, List.map_append]
          rfl
      · intro H' ⟨s5, eo5, eD⟩
        refine ⟨D, _, rfl, s5, ?_⟩
        rw [List.length_map, List.take_length] at eD
        rw [doneBy_take n ms q i c hc]
        exact eD
    · intro σ H1 ⟨o', y3, e, s2, eo⟩
      subst e
      rw [List.length_map, List.take_length] at eo
      exact ⟨_, rfl, o', _, rfl, .inl ⟨sqL eo, fun l nl => k _ l (s2.trans (Same.new nl)) ⟨l, rfl, upd_same⟩⟩⟩
end
end K2
end
section
set_option maxHeartbeats 4000000
/-! A lambda with parameters and no captured name, kept as a value and called later; the call of a value that a name holds. -/
namespace K2
open PySem PySem.Spec PyProof.Rows L2 LamX NdefX
/-- at f stands the lambda of the words of F and the body e -/
def LamO (f : Addr) (F : NF) (e : Expr) : HO := .ext fun h => ∃ (od : Option Addr) (sl : Array (Option Value)) (pm ctv : Value), h.get? f = some (⟨.type "function", od, .func (PySem.W.kla_fn "<lambda>" F.qual F.params e F.scope F.cl pm (.ref F.c) ctv), sl⟩ : Obj)
section
variable {X : Cx} {pins : List (Addr × Obj)} {σ : L2.St} {H : Hp} {s : Shared}
theorem lamO_at {P : Program} {w : World} {h : Heap} {f : Addr} {F : NF} {e : Expr} (hok : HOk P w H h) (k : H f = some (LamO f F e)) :
    ∃ (od : Option Addr) (sl : Array (Option Value)) (pm ctv : Value), h.get? f = some (⟨.type "function", od, .func (PySem.W.kla_fn "<lambda>" F.qual F.params e F.scope F.cl pm (.ref F.c) ctv), sl⟩ : Obj) := by
  obtain ⟨z, _, _⟩ := hok f _ k
  exact z
theorem LamO.ext {f : Addr} {F : NF} {e : Expr} : ∀ ps : Array Value, LamO f F e ≠ .tbl ps := fun ps z => by
  unfold LamO at z
  cases z
/-- the new object is known from now on -/
theorem inv_lam {F : NF} {e : Expr} {t' : Nat} {pm ctv : Value} (I : Inv X pins σ H s) :
    Inv X pins σ (upd H s.heap.objs.size (LamO s.heap.objs.size F e)) { s with heap := s.heap.push { cls := .type "function", data := .func (PySem.W.kla_fn "<lambda>" F.qual F.params e F.scope F.cl pm (.ref F.c) ctv) }, toks := t' } := by
  have there : (s.heap.push ({ cls := .type "function", data := .func (PySem.W.kla_fn "<lambda>" F.qual F.params e F.scope F.cl pm (.ref F.c) ctv) } : Obj)).get? s.heap.objs.size = some { cls := .type "function", data := .func (PySem.W.kla_fn "<lambda>" F.qual F.params e F.scope F.cl pm (.ref F.c) ctv) } := Heap.get?_push_size _ rfl
  exact I.laid (a := s.heap.objs.size) (fun b u q => Heap.get?_push_of_some _ q) (Nat.le_refl _) ⟨⟨_, _, pm, ctv, there⟩, ⟨_, there⟩, fun h1 h2 ⟨od, sl, p, t, z⟩ st => ⟨od, sl, p, t, st _ z⟩⟩
/-- lambda ..: e, as a value -/
def tLamV (T : List (Addr × Str)) (mk : Addr → NF) (e : Expr) : TE := fun σ H Q => Tabs T H ∧ ∀ f c' H1, ExtN H H1 → Tabs T H1 → H1 f = some (LamO f (mk c') e) → H1 c' = some (CodeO c' (mk c').qual) → Q (.ref f) H1
theorem pe_lam {T : List (Addr × Str)} {c P : Addr} {params : Arguments} {e : Expr} {scope : Scope} {pos : Pos} {mk : Addr → NF} (TB : TabB X.base X.mg c P) (hcode : X.env.code = .ref c) (hm : (P, X.env.qual ++ "<lambda>") ∈ T) (hu : ∀ p ∈ T, p.1 = P → p.2 = X.env.qual ++ "<lambda>")
    (hdef : defaultsOf params X.env = ([], [])) (hcl : closureFor scope X.env = pure []) (hmk : ∀ c', mk c' = ⟨"<lambda>", X.env.qual ++ "<lambda>", params, [], scope, [], c'⟩) : PE X (.Lambda params e scope pos) (tLamV T mk e) := by
  refine ⟨fun pins s σ H Q I ⟨hT, want⟩ => ?_⟩
  have fit : ∀ {c' f : Addr} {H1 : Hp} {s' : Shared}, Inv X pins σ H1 s' → ExtN H H1 → Tabs T H1 → H1 f = some (LamO f ⟨"<lambda>", X.env.qual ++ "<lambda>", params, [], scope, [], c'⟩ e) → H1 c' = some (CodeO c' (X.env.qual ++ "<lambda>")) → EP X pins σ Q (.ref f) s' := fun {c' f H1 s'} J a b d g =>
    ⟨.ref f, H1, J, rfl, want f c' H1 a b (by rw [hmk]; exact d) (by rw [hmk]; exact g)⟩
  obtain ⟨ps, hP, three, names⟩ := hT _ hm
  refine PySem.W.kla_eval hdef ?_
  have bi : s.heap.BuiltinsAt X.mg P := TB.bm.keeps I.bk
  have atP : s.heap.get? P = some { cls := .none, data := .fields ps } := I.hok P _ hP
  cases hc : codeAmong pos ps.toList with
  | none =>
    refine PySem.W.kla_makeFunction (mg := X.mg) (c := c) (P := P) (ps := ps) hcl I.ok.glob (I.mod.glob.keeps I.bk) hcode (TB.code.keeps I.bk) atP three hc TB.gP bi fun c' ctv h' tk hx hge hlt hrec htb => ?_
    obtain ⟨c2, oc, vs, t, e2, hoc, hd, hv⟩ := hrec
    cases e2
    have nC : H c' = none := I.hok.fresh hge
    have I1 := inv_table (t' := tk) (more := #[rawInt pos.line, rawInt pos.col, .ref c']) (h' := h') I hP (fun b o hb q => hx b o hb q) htb hge ⟨oc, vs, t, hoc, hd, hv⟩
    have grown : ExtN H (upd (upd H P (.tbl (ps ++ #[rawInt pos.line, rawInt pos.col, .ref c']))) c' (CodeO c' (X.env.qual ++ "<lambda>"))) := fun b o q n => by
      rw [upd_ne (ne_of_none q nC), upd_ne (fun z => n ps (Option.some.inj (q.symm.trans (by rw [z]; exact hP))))]
      exact q
    have asL : (ps ++ #[rawInt pos.line, rawInt pos.col, .ref c']).toList = ps.toList ++ [rawInt pos.line, rawInt pos.col, .ref c'] := by simp
    have T1 : Tabs T (upd (upd H P (.tbl (ps ++ #[rawInt pos.line, rawInt pos.col, .ref c']))) c' (CodeO c' (X.env.qual ++ "<lambda>"))) := fun p hp => by
      by_cases hb : p.1 = P
      · rw [hu p hp hb, hb]
        refine ⟨_, by rw [upd_ne (ne_of_none hP nC), upd_same], by rw [asL]; exact PySem.TriplesOk_snoc _ _ _ _ three, fun p' cv hcv => ?_⟩
        rw [asL] at hcv
        rcases among_app _ three hcv with z | z
        · obtain ⟨c0, e1, e2⟩ := names p' cv z
          exact ⟨c0, e1, grown _ _ e2 codeO_ne⟩
        · exact ⟨c', z, upd_same⟩
      · obtain ⟨ps', a1, a2, a3⟩ := hT p hp
        refine ⟨ps', by rw [upd_ne (ne_of_none a1 nC), upd_ne hb]; exact a1, a2, fun p' cv hcv => ?_⟩
        obtain ⟨c0, e1, e2⟩ := a3 p' cv hcv
        exact ⟨c0, e1, grown _ _ e2 codeO_ne⟩
    have nF := I1.hok.fresh (Nat.le_refl _)
    have I2 := inv_lam (F := ⟨"<lambda>", X.env.qual ++ "<lambda>", params, [], scope, [], c'⟩) (e := e) (t' := tk) (pm := (X.mg "__name__").getD .none) (ctv := ctv) I1
    exact fit I2 (fun b o q n => by have q1 := grown b o q n; exact (upd_ne (ne_of_none q1 nF)).trans q1) (T1.ext fun b o q => (upd_ne (ne_of_none q nF)).trans q) upd_same ((upd_ne (Nat.ne_of_lt hlt)).trans upd_same)
  | some cv =>
    obtain ⟨c', ecv, hco⟩ := names pos cv hc
    subst ecv
    refine PySem.W.kla_makeFunctionHit (mg := X.mg) (c := c) (P := P) (ps := ps) hcl I.ok.glob (I.mod.glob.keeps I.bk) hcode (TB.code.keeps I.bk) atP three hc bi fun ctv h' tk hx hsz => ?_
    have I1 : Inv X pins σ H { s with heap := h', toks := tk } := I.kept hx
    have nF : H h'.objs.size = none := I1.hok.fresh (Nat.le_refl _)
    have I2 := inv_lam (F := ⟨"<lambda>", X.env.qual ++ "<lambda>", params, [], scope, [], c'⟩) (e := e) (t' := tk) (pm := (X.mg "__name__").getD .none) (ctv := ctv) I1
    exact fit I2 (fun b o q n => (upd_ne (ne_of_none q nF)).trans q) (hT.ext fun b o q => (upd_ne (ne_of_none q nF)).trans q) upd_same ((upd_ne (ne_of_none hco nF)).trans hco)
/-- such a lambda runs -/
theorem run_lam {CX : CXT} {N ps : List Str} {F : NF} {e : Expr} {f : Addr} {k : Nat} {Q : VK} {E : XK} {us : List Value} {vs : List V} {tb : TE} (I : Inv X pins σ H s) (hr : Room (k + 1) X.A) (hx : Passes CX X E) (S : NScope N ps [] F.scope) (hcl : F.cl = []) (hf : H f = some (LamO f F e)) (hc : H F.c = some (CodeO F.c F.qual))
    (hb : ∀ (pm ctv : Value) (us : List Value), us.length = ps.length → bindArgs (PySem.W.kla_fn "<lambda>" F.qual F.params e F.scope F.cl pm (.ref F.c) ctv) ⟨us, []⟩ = pure (ps.zip us)) (r : Vals vs us) (hl : vs.length = ps.length)
    (body : ∀ (A : Around) (outer : List Env) (s : Shared), Room k (A.deeper (envF F f s.heap.objs.size)) → PE (ncx CX X.prog X.w X.K X.mg X.base N F f A outer s H E) e tb) (want : tb (startF N vs []) H Q) :
    wpAny (model X.prog X.w) X.A (call (.ref f) us) (EP X pins σ Q) X.xe s := by
  have rc : codeAny (model X.prog X.w) X.A (.call (.ref f) ⟨us, []⟩) (CR CX X.stack X.prog X.w H s Q E) s := by
    obtain ⟨od, sl, pm, ctv, there⟩ := lamO_at I.hok hf
    refine PySem.W.kla_callFunE hr.depth there rfl S.co S.gen rfl (codeO_at I.hok hc) ?_
    rw [hb pm ctv us (by rw [← r.length]; exact hl)]
    refine wpAny_pure (wpAny_newFunctionEnv S.nocell (fun ⟨n, _⟩ hy => S.par n (List.of_mem_zip hy).1) (fun h₁ hns hsb => ⟨I.nolimit.fresh _ hsb, ?_⟩) S.kind)
    show codeAny _ _ (.expr e (envF F f s.heap.objs.size)) _ _
    have kp : ∀ b o, s.heap.get? b = some o → h₁.get? b = some o := fun b o q => hsb.extBut b o (Nat.ne_of_lt (Heap.lt_size q)) (Heap.get?_push_of_some _ q)
    have C : CellsAt F.cl [] [] s.heap H := by
      rw [hcl]
      exact ⟨rfl, fun y c z => (nomatch (show (none : Option Addr) = some c from z)), fun x y c z _ => (nomatch (show (none : Option Addr) = some c from z)), fun i y z => by rw [List.getElem?_nil] at z; cases z⟩
    have J : Inv (ncx CX X.prog X.w X.K X.mg X.base N F f X.A X.stack s H E) [] (startF N vs []) H { s with heap := h₁, toks := s.toks + (ps.zip us).length } := inv_startN S hr.hd I.env0 hl r C hns kp
    refine PySem.W.kla_codeExpr (wpAny_mono ((body X.A X.stack s (hr.deeper _)).run [] _ _ H Q J want) (fun v s' hq => ?_) fun e s' hq => hq)
    obtain ⟨w', H', J', rv, q⟩ := hq
    exact ⟨w', H', J'.os, J'.bare, J'.base, J'.hok, rv, q⟩
  refine wpAny_call (codeAny_mono rc fun r s' hq => ?_)
  cases r with
  | error e => exact hx pins σ H s e s' I hq
  | ok fl =>
    cases fl with
    | ret u => exact I.after hq
    | next => exact False.elim hq
    | brk => exact False.elim hq
    | cont => exact False.elim hq
/-- q is a function: of the written part, or such a lambda -/
def FnV (K : PySem.W.Frag) (H : Hp) (q : Addr) : Prop := (∃ oc od fd sl, K.lookup q = some ⟨oc, od, .func fd, sl⟩) ∨ ∃ F e, H q = some (LamO q F e)
theorem FnV.at' {q : Addr} (I : Inv X pins σ H s) (h : FnV X.K H q) : PySem.W.FnAt q s.heap := by
  rcases h with ⟨oc, od, fd, sl, lk⟩ | ⟨F, e, k⟩
  · exact ⟨oc, od, fd, sl, I.kIn _ _ lk⟩
  · obtain ⟨od, sl, pm, ctv, z⟩ := lamO_at I.hok k
    exact ⟨_, _, _, _, z⟩
/-- x(..), x a name in slot i that holds a function -/
def tWork (K : PySem.W.Frag) (i : Nat) (sp : Addr → Sp) (E : XK) (t : TA) : TE := fun σ H Q => ∃ q, σ[i]? = some (some (.ref q)) ∧ FnV K H q ∧ t σ H fun vs H1 => FnV K H1 q ∧ sp q vs H1 Q E
def Runs (X : Cx) (sp : Addr → Sp) (E : XK) : Prop := ∀ (q : Addr) (pins : List (Addr × Obj)) (s : Shared) (σ : L2.St) (H : Hp) (Q : VK) (us : List Value) (vs : List V), Inv X pins σ H s → Vals vs us → sp q vs H Q E → wpAny (model X.prog X.w) X.A (call (.ref q) us) (EP X pins σ Q) X.xe s
theorem pe_work {i : Nat} {x : Str} {sp : Addr → Sp} {E : XK} {t : TA} {e : Expr} {es : List Expr} {p pos : Pos} (hR : Runs X sp E) (hN : X.N[i]? = some x) (hv : Vis X.env.scope x) (ha : PA X (e :: es) t) (hd : (x == ("__debug__" : Str)) = false := by decide) (hcd : (x == ("__classdict__" : Str)) = false := by decide)
    (he : starEach (e :: es) X.env = (false, eval e X.env) :: starEach es X.env := by rfl) (hpl : (backTo pos (starEach es X.env)).any (·.1) = false := by rfl) : PE X (.Call (.Name x p) (e :: es) [] pos) (tWork X.K i sp E t) := by
  refine ⟨fun pins s σ H Q I ⟨q, hs, hf, ht⟩ => ?_⟩
  refine wpAny_Call_Name_kw (thn ((pe_var (pos := p) hN hv hd hcd).run pins s σ H (fun v H1 => v = .ref q ∧ H1 = H) I ⟨.ref q, hs, rfl, rfl⟩) fun u s1 ⟨v, H1, I1, r1, ev, eH⟩ => ?_)
  subst ev
  rw [eH] at I1
  obtain rfl : u = Value.ref q := r1
  refine PySem.W.callWith_F (first := []) (FnV.at' I1 hf) (thn (ha.run pos pins s1 σ H _ I1 ht) fun us s2 ⟨vs, H2, I2, r, h1, h2⟩ => ⟨FnV.at' I2 h1, ?_⟩) he hpl
  exact hR q pins s2 σ H2 Q us vs I2 r h2
end
end K2
end
section
set_option maxHeartbeats 4000000
/-! Defs that show values: called where nothing is being shown. Calls by keywords alone. -/
namespace K2
open PySem PySem.Spec PyProof.Rows L2
/-- a promise that is kept where no repr is under way -/
structure FnOkG (P : Program) (w : World) (K : PySem.W.Frag) (mg : Str → Option Value) (base : Heap) (CX : CXT) (k : Nat) (f : Addr) (fd : FuncData) (ps : List Str) (sp : Sp) : Prop where
  len : ∀ (vs : List V) (H : Hp) (Q : VK) (E : XK), sp vs H Q E → vs.length = ps.length
  go : ∀ (A : Around) (outer : List Env) (s : Shared) (H : Hp) (args : Args) (us : List Value) (vs : List V) (Q : VK) (E : XK), Room k A → A.guards = some [] → Env0 P w K mg base A outer s H → BindsTo s fd args (ps.zip us) → Vals vs us → sp vs H Q E →
    codeAny (model P w) A (.call (.ref f) args) (CR CX outer P w H s Q E) s
section
variable {P : Program} {w : World} {K : PySem.W.Frag} {mg : Str → Option Value} {base : Heap} {x qual : Str} {params : Arguments} {body : List Stmt} {scope : Scope} {f : Addr} {fd : FuncData}
theorem okG {CX : CXT} {N ps : List Str} {k : Nat} {sp : Sp} (F : FunD K x qual params body scope [] [] f fd) (S : FnScope N ps scope) (len : ∀ vs H Q E, sp vs H Q E → vs.length = ps.length)
    (walk : ∀ (cdv : Value) (A : Around) (outer : List Env) (s : Shared) (H : Hp) (vs : List V) (Q : VK) (E : XK), Room k (A.deeper (envOfC qual scope s.heap.objs.size f cdv)) → (A.deeper (envOfC qual scope s.heap.objs.size f cdv)).guards = some [] → sp vs H Q E →
      ∃ t, PSs (cxOf CX P w K mg base N qual scope f cdv A outer s H E) body t ∧ t { nx := fun _ H' => Q .non H', rt := Q } (L2.start N vs) H) : FnOkG P w K mg base CX (k + 1) f fd ps sp := by
  obtain ⟨oc, od, dV, kV, doc, pm, an, cdv, ct, osl, rfl, lk, hcd, _, _⟩ := F.ex
  exact ⟨len, fun A outer s H args us vs Q E hr hg e0 hb r hsp => LamX.run_ofS lk hcd S hr e0 hb r (len _ _ _ _ hsp) fun hr' => walk cdv A outer s H vs Q E hr' hg hsp⟩
end
section
variable {X : Cx} {CX : CXT} {k : Nat} {f : Addr} {fd : FuncData} {ps ks : List Str} {sp : Sp} {E : XK} {x : Str} {p pos : Pos} {e : Expr} {es : List Expr} {t tk : TA} {kws : List Keyword}
theorem pe_callG (F : FnOkG X.prog X.w X.K X.mg X.base CX k f fd ps sp) (hr : Room k X.A) (quiet : X.A.guards = some []) (hg : Gl X x) (hm : X.mg x = some (.ref f)) (hk : PySem.W.keepIn X.K (.ref f) = true) (hb : Binds X.K fd ps []) (hx : Passes CX X E)
    (ha : PA X (e :: es) t) (hdb : (x == ("__debug__" : Str)) = false := by decide) (he : starEach (e :: es) X.env = (false, eval e X.env) :: starEach es X.env := by rfl) (hpl : (backTo pos (starEach es X.env)).any (·.1) = false := by rfl) :
    PE X (.Call (.Name x p) (e :: es) [] pos) (tCall sp [] E t) := by
  refine ⟨fun pins s σ H Q I h => wpAny_Call_Name_kw (ld_glob I hg hm ?_ hdb)⟩
  refine PySem.W.callWith_K (h₀ := X.base) I.ok.mod.kin hk (thn (ha.run pos pins s σ H _ I h) fun us s1 ⟨vs, H1, I1, r, q⟩ => ⟨I1.kIn, ?_⟩) he hpl
  have q' : sp vs H1 Q E := by
    have z : sp (vs ++ []) H1 Q E := q
    rwa [List.append_nil] at z
  have nl : us.length = ps.length := by rw [← r.length]; exact F.len _ _ _ _ q'
  have bt := hb s1 us I1.kIn (by rw [List.append_nil]; exact nl)
  rw [List.append_nil] at bt
  refine wpAny_call (codeAny_mono (F.go X.A X.stack s1 H1 ⟨us, []⟩ us vs Q E hr quiet I1.env0 bt r q') fun res s' hq => ?_)
  cases res with
  | error u => exact hx pins σ H1 s1 u s' I1 hq
  | ok fl =>
    cases fl with
    | ret u => exact I1.after hq
    | next => exact False.elim hq
    | brk => exact False.elim hq
    | cont => exact False.elim hq
/-- f(k = v, ..): the keywords ks alone, g puts them in the parameters' order -/
def tKw (sp : Sp) (gV : List V → List V) (E : XK) (t : TA) : TE := fun σ H Q => t σ H fun zs H1 => sp (gV zs) H1 Q E
theorem pe_kw {g : List Value → List Value} {gV : List V → List V} (F : FnOk X.prog X.w X.K X.mg X.base CX k f fd ps sp) (hr : Room k X.A) (hg : Gl X x) (hm : X.mg x = some (.ref f)) (hk : PySem.W.keepIn X.K (.ref f) = true)
    (hb : ∀ (s : Shared) (ws : List Value), (g ws).length = ps.length → BindsTo s fd ⟨[], ks.zip ws⟩ (ps.zip (g ws))) (rel : ∀ (zs : List V) (ws : List Value), Vals zs ws → Vals (gV zs) (g ws)) (hx : Passes CX X E)
    (hkw : PK X kws tk) (hall : (backToKw pos (keywordEach kws X.env)).all (·.1.isSome) = true := by rfl) (hks : (backToKw pos (keywordEach kws X.env)).filterMap (·.1) = ks := by rfl)
    (hdb : (x == ("__debug__" : Str)) = false := by decide) (hpl : ((backTo pos (starEach [] X.env)).any (·.1) || (backToKw pos (keywordEach kws X.env)).any (·.1.isNone)) = false := by rfl) :
    PE X (.Call (.Name x p) [] kws pos) (tKw sp gV E tk) := by
  refine ⟨fun pins s σ H Q I h => wpAny_Call_Name_kw (ld_glob I hg hm ?_ hdb)⟩
  refine PySem.W.callWith_KW0 (h₀ := X.base) I.ok.mod.kin hk hall (thn (hkw.run pos pins s σ H _ I h) fun ws s1 ⟨zs, H1, I1, rz, q⟩ => ⟨I1.kIn, ?_⟩) hpl
  rw [hks]
  have r2 := rel zs ws rz
  refine wpAny_call (codeAny_mono (F.run X.A X.stack s1 H1 ⟨[], ks.zip ws⟩ (g ws) (gV zs) Q E hr I1.env0 (hb s1 ws (by rw [← r2.length]; exact F.len _ _ _ _ q)) r2 q) fun res s' hq => ?_)
  cases res with
  | error u => exact hx pins σ H1 s1 u s' I1 hq
  | ok fl =>
    cases fl with
    | ret u => exact I1.after hq
    | next => exact False.elim hq
    | brk => exact False.elim hq
    | cont => exact False.elim hq
/-- repr(v), v data -/
def rRepr (K : PySem.W.Frag) : List V → Hp → VK → Prop := fun xs H Q => ∃ a d n k, xs = [.ref a] ∧ Dp K H (.ref a) d ∧ Fit n k d ∧ n ≤ 60 ∧ k ≤ 16000000 ∧ Q (.str d.shown) H
theorem call_repr (quiet : X.A.guards = some []) (hu : X.A.units + 64 < cLine) : CallR X (.builtin "repr") (rRepr X.K) := by
  intro pins s σ H xs us Q I r h
  obtain ⟨a, d, n, kk, rfl, hd, fit, hn, hk, q⟩ := h
  cases r with
  | cons r1 r2 =>
    cases r2
    cases r1
    obtain ⟨as, rd⟩ := Dp.reads I d (.ref a) (.ref a) hd rfl
    have dep := fit.dep
    have len := fit.len
    exact repr_of_reads' rd fit.sho (PyData.noDict_hsm fit.nod) quiet (by omega) (fun _ _ e => e) (fun h' u tk hk' => ⟨.str d.shown, H, I.kept hk', ⟨_, rfl⟩, q⟩) (by rw [sizeLine_eq]; omega)
end
/-- one after the other, the other first -/
def swap2 {α : Type} : List α → List α
  | [a, b] => [b, a]
  | l => l
theorem swap2_vals (zs : List V) (ws : List Value) (r : Vals zs ws) : Vals (swap2 zs) (swap2 ws) := by
  cases r with
  | nil => exact .nil
  | cons r1 r =>
    cases r with
    | nil => exact .cons r1 .nil
    | cons r2 r =>
      cases r with
      | nil => exact .cons r2 (.cons r1 .nil)
      | cons r3 r => exact .cons r1 (.cons r2 (.cons r3 r))
section
variable {K : PySem.W.Frag} {f : Addr} {fd : FuncData}
theorem kw_check (F : Fn K "check_machine" sCheckMachine f fd) (s : Shared) (ws : List Value) (h : (id ws).length = 1) : BindsTo s fd ⟨[], (["value"] : List Str).zip ws⟩ ((["value"] : List Str).zip (id ws)) := by
  obtain ⟨oc, od, dV, kV, doc, pm, an, cdv, ct, osl, rfl, lk, hcd, hD, _⟩ := F.ex
  obtain rfl : dV = .none := hD.elim (fun z => z.2) fun z => absurd rfl z.1
  match ws, h with
  | [u], _ => exact .of_eq rfl
theorem kw_merger (F : Fn K "machine_merger" sMachineMerger f fd) (s : Shared) (ws : List Value) (h : (id ws).length = 1) : BindsTo s fd ⟨[], (["tables"] : List Str).zip ws⟩ ((["tables"] : List Str).zip (id ws)) := by
  obtain ⟨oc, od, dV, kV, doc, pm, an, cdv, ct, osl, rfl, lk, hcd, hD, _⟩ := F.ex
  obtain rfl : dV = .none := hD.elim (fun z => z.2) fun z => absurd rfl z.1
  match ws, h with
  | [u], _ => exact .of_eq rfl
theorem kw_done (F : Fn K "done_table" sDoneTable f fd) (s : Shared) (ws : List Value) (h : (swap2 ws).length = 2) : BindsTo s fd ⟨[], (["queue", "tables"] : List Str).zip ws⟩ ((["tables", "queue"] : List Str).zip (swap2 ws)) := by
  obtain ⟨oc, od, dV, kV, doc, pm, an, cdv, ct, osl, rfl, lk, hcd, hD, _⟩ := F.ex
  obtain rfl : dV = .none := hD.elim (fun z => z.2) fun z => absurd rfl z.1
  match ws, h with
  | [], h => cases h
  | [u], h => cases h
  | [u, v], _ => exact .of_eq rfl
  | _ :: _ :: _ :: _, h =>
    simp only [swap2, List.length_cons] at h
    omega
end
end K2
end
section
set_option maxHeartbeats 4000000
/-! The law's playing: queues merged by drawn hands. -/
namespace K2
open PySem PySem.Spec PyProof.Rows L2
theorem MergerAt.bx {b : Addr} {H H' : Hp} {C m : Addr} {rows : List (List (Option Int))} (x : Bx b H H') (hb : BoxAt H b) : MergerAt C H m rows → MergerAt C H' m rows := fun ⟨dx, t, e, us, e2, p⟩ =>
  ⟨dx, t, x.same _ _ e (hb.ne e fun _ z => nomatch z), us, x.tup hb e2, Paired.mapP p fun _ _ ⟨q, e3, e4⟩ => ⟨q, e3, x.tup hb e4⟩⟩
theorem nVs_inj : ∀ {a b : List Nat}, a.map nV = b.map nV → a = b
  | [], [], _ => rfl
  | [], _ :: _, h => by cases h
  | _ :: _, [], h => by cases h
  | x :: a, y :: b, h => by
    obtain ⟨h1, h2⟩ := List.cons.inj h
    rw [nVs_inj h2]
    have : (x : Int) = (y : Int) := by injection h1
    congr 1
    omega
/-- v is a list of the numbers m, at another address than D -/
def LstN (D : Addr) (H : Hp) (v : V) (m : List Nat) : Prop := ∃ t, v = .ref t ∧ t ≠ D ∧ H t = some (.lst (m.map nV))
theorem LstN.sh {K : PySem.W.Frag} {D : Addr} {H : Hp} {v : V} {m : List Nat} (h : LstN D H v m) (hl : m.length ≤ 1000) : ShAt K H v (.seq (m.map some)) := by
  obtain ⟨t, rfl, _, e⟩ := h
  rw [← itemV_nVs]
  exact .seq (b := false) (show Tq false H t _ from e) (fun u hu => by obtain ⟨x, _, rfl⟩ := List.mem_map.mp hu; rfl) (by rw [List.length_map]; exact hl)
theorem sh_all {K : PySem.W.Frag} {H : Hp} {G : V → List Nat → Prop} (k : ∀ v m, G v m → m.length ≤ 1000 → ShAt K H v (.seq (m.map some))) : ∀ {vs : List V} {ms : List (List Nat)}, Paired G vs ms → (∀ m ∈ ms, m.length ≤ 1000) → Paired (ShAt K H) vs (FM.shM ms)
  | _, _, .nil, _ => .nil
  | _, _, .cons h t, hl => .cons (k _ _ h (hl _ (List.mem_cons_self ..))) (sh_all k t fun m hm => hl m (List.mem_cons_of_mem _ hm))
theorem mach_len {n : Nat} {ms : List (List Nat)} (M : FM.Mach n ms) : ∀ m ∈ ms, m.length ≤ 1000 := fun m hm => by
  have := (M.tabs m hm).len
  have := M.n60
  omega
theorem mach_uniq {n n' : Nat} {ms : List (List Nat)} (M : FM.Mach n ms) (M' : FM.Mach n' ms) : n' = n := by
  have h := FM.tab_mem (show 0 < ms.length from M.m1)
  rw [← (M.tabs _ h).len, ← (M'.tabs _ h).len]
/-- a machine in a list or tuple of the run's own -/
theorem msh_tups {K : PySem.W.Frag} {H : Hp} {b : Bool} {p : Addr} {us : List V} {n : Nat} {ms : List (List Nat)} (e : Sq K b H p us) (t : TupsAt H us ms) (M : FM.Mach n ms) : MShAt K H (.ref p) (some (FM.shM ms)) :=
  .seq e (sh_all (fun _ _ h hl => h.sh hl) t (mach_len M))
theorem msh_lsts {K : PySem.W.Frag} {H : Hp} {D p : Addr} {us : List V} {n : Nat} {ms : List (List Nat)} (e : H p = some (.lst us)) (t : Paired (LstN D H) us ms) (M : FM.Mach n ms) : MShAt K H (.ref p) (some (FM.shM ms)) :=
  .seq (b := false) (sqL e) (sh_all (fun _ _ h hl => h.sh hl) t (mach_len M))
/-- done_table at a machine and a good queue -/
theorem done_ready {K : PySem.W.Frag} {CH CQ : Addr} {H : Hp} {Q : VK} {E : XK} {v : V} {b : Bool} {a : Addr} {n : Nat} {ms : List (List Nat)} {q : List Nat} (hM : MShAt K H v (some (FM.shM ms))) (M : FM.Mach n ms) (hq : Sq K b H a (q.map nV)) (hl : q.length ≤ 1000) (hb : ∀ c ∈ q, c < ms.length)
    (k : ∀ H' t, Same H H' → TupAt H' (.ref t) (FM.doneBy n ms q) → Q (.ref t) H') : spDoneTable K CH CQ [v, .ref a] H Q E := by
  have ok := FM.chkW_ok M
  refine ⟨v, .ref a, _, rfl, hM, hq.kd, (fun i hi => by rw [ok] at hi; cases hi), fun ms' h => ?_⟩
  rw [ok] at h
  cases h
  refine ⟨.ok q, .ok hq hl hb, fun n' q' e M' H' t s' h' => ?_, fun i e => nomatch e⟩
  cases e
  rw [mach_uniq M M'] at h'
  exact k H' t s' h'
theorem done_call {K : PySem.W.Frag} {CH CQ : Addr} {H : Hp} {Q : VK} {E : XK} {v : V} {b : Bool} {a : Addr} {n : Nat} {ms : List (List Nat)} {q : List Nat} {σ : L2.St} (hM : MShAt K H v (some (FM.shM ms))) (M : FM.Mach n ms) (hq : Sq K b H a (q.map nV)) (hl : q.length ≤ 1000) (hb : ∀ c ∈ q, c < ms.length)
    (k : ∀ H' t, Same H H' → TupAt H' (.ref t) (FM.doneBy n ms q) → Q (.ref t) H') : tNil σ H (fun xs H2 => spDoneTable K CH CQ ((v :: .ref a :: xs) ++ []) H2 Q E) := done_ready hM M hq hl hb k
theorem done_kw {K : PySem.W.Frag} {CH CQ : Addr} {H : Hp} {Q : VK} {E : XK} {v : V} {b : Bool} {a : Addr} {n : Nat} {ms : List (List Nat)} {q : List Nat} {σ : L2.St} (hM : MShAt K H v (some (FM.shM ms))) (M : FM.Mach n ms) (hq : Sq K b H a (q.map nV)) (hl : q.length ≤ 1000) (hb : ∀ c ∈ q, c < ms.length)
    (k : ∀ H' t, Same H H' → TupAt H' (.ref t) (FM.doneBy n ms q) → Q (.ref t) H') : tNil σ H (fun xs H2 => spDoneTable K CH CQ (swap2 (.ref a :: v :: xs)) H2 Q E) := done_ready hM M hq hl hb k
/-- [list(table) for table in maps], maps in slot i -/
def tLists (i j : Nat) : TE := fun σ H Q => ∃ p us ms, j < σ.length ∧ σ[i]? = some (some (.ref p)) ∧ H p = some (.lst us) ∧ TupsAt H us ms ∧ ms.length ≤ 12 ∧ ∀ H' D ls, Same H H' → H D = none → H' D = some (.lst ls) → Paired (LstN D H') ls ms → Q (.ref D) H'
/-- () if end == -1 else (end,), end in slot 8 -/
def tEndTup : TE := fun σ H Q => ∃ e : Int, σ[8]? = some (some (.int e)) ∧ (e = -1 ∨ 0 ≤ e) ∧ ∀ H' t, Same H H' → TupAt H' (.ref t) (if e = -1 then [] else [e.toNat]) → Q (.ref t) H'
def spPlayed (MC : Addr) : Sp := fun vs H Q _ => ∃ b p m n ms, vs = [.ref b, .ref p, .ref m] ∧ BoxAt H b ∧ p ≠ b ∧ MapsAt H p n ms ∧ MergerAt MC H m (FM.rowsOf n ms) ∧ ∀ H', Bx b H H' → Q (.bl true) H'
/-- between two turns: the queue in slot 3 does what is due -/
def PlayInv (MC b p m due n : Nat) (ms : List (List Nat)) (d : List Nat) (H : Hp) (i : Nat) : L2.St → Hp → Prop := fun σ H' => ∃ a q y5 y6 y7 y8, σ = [some (.ref b), some (.ref p), some (.ref m), some (.ref a), some (.ref due), y5, y6, y7, y8, none, none] ∧ Bx b H H' ∧ MapsAt H' p n ms ∧ MergerAt MC H' m (FM.rowsOf n ms) ∧
  TupAt H' (.ref due) d ∧ TupAt H' (.ref a) q ∧ (∀ c ∈ q, c < ms.length) ∧ q.length ≤ 10 ∧ FM.doneBy n ms q = d ∧ (FM.places (FM.rowsOf n ms) q = [] ∨ q.length + i ≤ 10)
section
variable {P : Program} {w : World} {K : PySem.W.Frag} {mg : Str → Option Value} {base : Heap} {f CH CQ MC f1 f2 f3 f4 f5 f6 f7 : Addr} {fd d1 d2 d3 d4 d5 d6 d7 : FuncData}
theorem scPlayed : FnScope ["_law_box_here", "_law_maps_here", "_law_merger", "_law_queue", "_law_due", "_law_turn", "_law_places", "_law_at", "_law_end", "_law_command", "_law_table"] ["_law_box_here", "_law_maps_here", "_law_merger"] (defScope sPlayed) := ⟨rfl, rfl, rfl, by decide +kernel, rfl, by decide +kernel, by decide +kernel⟩
theorem ok_played (F : Fn K "_law_played_right" sPlayed f fd) (B : Blt mg)
    (G1 : FnOk P w K mg base CX0 1 f1 d1 ["_law_box_here", "_law_many"] spTake) (C1 : Cal K mg "_law_take" f1 d1 ["_law_box_here", "_law_many"])
    (G2 : FnOk P w K mg base CX0 2 f2 d2 ["_law_box_here", "_law_some"] spPick) (C2 : Cal K mg "_law_pick" f2 d2 ["_law_box_here", "_law_some"])
    (G3 : FnOk P w K mg base CX0 1 f3 d3 ["_law_maps_here", "_law_queue"] spDone) (C3 : Cal K mg "_law_done" f3 d3 ["_law_maps_here", "_law_queue"])
    (G4 : FnOk P w K mg base (L2.CX P w) 6 f4 d4 ["tables", "queue"] (spDoneTable K CH CQ)) (C4 : Cal K mg "done_table" f4 d4 ["tables", "queue"]) (F4 : Fn K "done_table" sDoneTable f4 d4)
    (G5 : FnOk P w K mg base CX0 5 f5 d5 ["merger", "queue"] (spMergeablePlaces MC)) (C5 : Cal K mg "mergeable_places" f5 d5 ["merger", "queue"])
    (G6 : FnOk P w K mg base CX0 5 f6 d6 ["merger", "one", "other"] (spMerged MC)) (C6 : Cal K mg "merged" f6 d6 ["merger", "one", "other"])
    (G7 : FnOk P w K mg base CX0 6 f7 d7 ["merger", "queue"] (spIsFolded MC)) (C7 : Cal K mg "is_folded" f7 d7 ["merger", "queue"]) :
    FnOkG P w K mg base CX0 7 f fd ["_law_box_here", "_law_maps_here", "_law_merger"] (spPlayed MC) := by
  refine okG F scPlayed (fun vs H Q E h => ?_) (fun cdv A outer s H vs Q E hr quiet h => ?_)
  · obtain ⟨b, p, m, n, ms, rfl, _⟩ := h
    rfl
  · obtain ⟨b, p, m, n, ms, rfl, hB, pb, hMp, hMg, k⟩ := h
    have hu := room65 hr
    have hu4 := room64 hr
    refine ⟨_, PSs.nox (pss_cons (ps_set (i := 3) scPlayed.nd rfl (Or.inl rfl) (pe_callTy (T := "tuple") (r := rTupOf K) call_tupOf (by rfl) B.tuple (by decide +kernel) (pa_cons (pe_lc (own := [("_law_command", 9)]) (g := gName 9) (tt := tYes) rfl scPlayed.nd (pi_range1 (by rfl) B.range (pa_cons (pe_call G1 (hr.mono (by decide)) (by rfl) C1.m C1.kp C1.b .nil pass0 (pa_cons (pv 0) (pa_cons (pe_int) pa_nil))) pa_nil)) (blkOk_by (own := [("_law_command", 9)]) (N := ["_law_box_here", "_law_maps_here", "_law_merger", "_law_queue", "_law_due", "_law_turn", "_law_places", "_law_at", "_law_end", "_law_command", "_law_table"]) (sc := defScope sPlayed) (by decide +kernel))
  (fun _ _ _ _ _ => (pg_name (i := 9) scPlayed.nd rfl (by first | exact Or.inl rfl | exact Or.inr rfl))) (fun _ _ _ _ _ => pts_nil)
  (fun _ _ _ _ _ => (pe_call G1 (hr.mono (by decide)) (by rfl) C1.m C1.kp C1.b .nil pass0 (pa_cons (pv 0) (pa_cons (pe_callB (r := rLenOf K) call_lenOf (by rfl) B.len PySem.boot_len (pa_cons (pv 1) pa_nil)) pa_nil))))) pa_nil)))
(pss_cons (ps_set (i := 4) scPlayed.nd rfl (Or.inl rfl) (pe_call G3 (hr.mono (by decide)) (by rfl) C3.m C3.kp C3.b .nil pass0 (pa_cons (pv 1) (pa_cons (pv 3) pa_nil))))
(pss_cons (ps_if (PW.pt (pw_or (pt_cmpR op_ne (pe_callB (r := rRepr K) (call_repr quiet hu4) (by rfl) B.repr boot_repr (pa_cons (pe_call G4 (hr.mono (by decide)) (by rfl) C4.m C4.kp C4.b .nil (passes_call (E := E0) takes0 fun _ _ _ _ h => h) (pa_cons (pv 1) (pa_cons (pv 3) pa_nil))) pa_nil)) (pe_callB (r := rRepr K) (call_repr quiet hu4) (by rfl) B.repr boot_repr (pa_cons (pv 4) pa_nil)) (nomark _)) (pw_or1 (pt_cmpR (op_neD hu4) (pe_kw (g := swap2) (gV := swap2) G4 (hr.mono (by decide)) (by rfl) C4.m C4.kp (fun s ws h => kw_done F4 s ws h) swap2_vals (passes_call (E := E0) takes0 fun _ _ _ _ h => h) (pk_cons (pe_callTy (T := "list") (r := rListOf K) call_listOf (by rfl) B.list (by decide +kernel) (pa_cons (pv 3) pa_nil)) (pk_cons (pe_as (t' := tLists 1 10) (pe_lc (own := [("_law_table", 10)]) (g := gName 10) (tt := tYes) rfl scPlayed.nd (pi_list (pv 1)) (blkOk_by (own := [("_law_table", 10)]) (N := ["_law_box_here", "_law_maps_here", "_law_merger", "_law_queue", "_law_due", "_law_turn", "_law_places", "_law_at", "_law_end", "_law_command", "_law_table"]) (sc := defScope sPlayed) (by decide +kernel))
  (fun _ _ _ _ _ => (pg_name (i := 10) scPlayed.nd rfl (by first | exact Or.inl rfl | exact Or.inr rfl))) (fun _ _ _ _ _ => pts_nil)
  (fun _ _ _ _ _ => (pe_callTy (T := "list") (r := rListOf K) call_listOf (by rfl) B.list (by decide +kernel) (pa_cons (pv 10) pa_nil)))) (by
      rintro σ H Q ⟨p, us, ms, hj0, i0, eP, hU, hl, q⟩
      have ul := pLen hU
      refine ⟨_, i0, p, rfl, ⟨us, sqL eP⟩, fun D nD => lc_list (xs := us) (fun j H' => Same H H' ∧ ∃ ls, H' D = some (.lst ls) ∧ Paired (LstN D H') ls (ms.take j)) ⟨Same.new nD, [], upd_same, .nil⟩ (fun j H' _ ⟨s5, _⟩ => sqL (s5 _ _ eP)) ?_ ?_⟩
      · intro j x H' hx ⟨s5, ls, eD, hL⟩
        obtain ⟨m, hm, t, rfl, et⟩ := pAt2 hU hx
        have hj := (List.getElem?_eq_some_iff.mp hx).1
        have ll := pLen hL
        refine ⟨by simp [wipe, List.set_set], ⟨_, List.getElem?_set_self (by rw [wipe_length]; exact hj0), t, _, rfl, .inr (sqT (s5 _ _ et)), fun l nl => ⟨ls, ?_, ?_, fun b o e => ?_, ls ++ [.ref l], upd_same, ?_⟩⟩⟩
        · rw [upd_ne (ne_of_none eD nl)]
          exact eD
        · rw [ll, List.length_take]
          exact small100 (by omega)
        · rw [upd_ne (ne_of_none e nD), upd_ne (ne_of_none (s5 _ _ e) nl)]
          exact s5 _ _ e
        · have lD : l ≠ D := fun z => by rw [z, eD] at nl; cases nl
          rw [List.take_add_one, hm]
          refine pSnoc ⟨l, rfl, lD, by rw [upd_ne lD, upd_same]⟩ (Paired.mapP hL fun v r ⟨q, e1, ne, e2⟩ => ⟨q, e1, ne, ?_⟩)
          rw [upd_ne ne, upd_ne (ne_of_none e2 nl)]
          exact e2
      · intro H' ⟨s5, ls, eD, hL⟩
        rw [ul, List.take_length] at hL
        exact q H' D ls s5 nD eD hL)) pk_nil))) (pv 4) (nomark _))))) (pss_one (ps_ret (pe_bl))) pss_nil)
(pss_cons (ps_for PassesOwn.never rfl (pi_range1 (by rfl) B.range (pa_cons (pe_int) pa_nil)) (pg_name (i := 5) scPlayed.nd rfl (Or.inl rfl))
(pss_cons (ps_set (i := 6) scPlayed.nd rfl (Or.inl rfl) (pe_call G5 (hr.mono (by decide)) (by rfl) C5.m C5.kp C5.b .nil pass0 (pa_cons (pv 2) (pa_cons (pv 3) pa_nil))))
(pss_cons (ps_if (pt_cmpR (op_eqD hu4) (pv 6) (pe_tup pa_nil) (nomark _)) (pss_one ps_break) pss_nil)
(pss_cons (ps_set (i := 7) scPlayed.nd rfl (Or.inl rfl) (pe_call G2 (hr.mono (by decide)) (by rfl) C2.m C2.kp C2.b .nil pass0 (pa_cons (pv 0) (pa_cons (pv 6) pa_nil))))
(pss_cons (ps_set (i := 8) scPlayed.nd rfl (Or.inl rfl) (pe_call G6 (hr.mono (by decide)) (by rfl) C6.m C6.kp C6.b .nil pass0 (pa_cons (pv 2) (pa_cons (pe_ix (r := rIxT K) ix_tup (pv 3) (pv 7) (fun _ _ => rfl)) (pa_cons (pe_ix (r := rIxT K) ix_tup (pv 3) (pe_op op_add (pv 7) (pe_int)) (fun _ _ => rfl)) pa_nil)))))
(pss_cons (ps_set (i := 3) scPlayed.nd rfl (Or.inl rfl) (pe_op (r := rCatA K) op_catA (pe_op (r := rCatA K) op_catA (pe_slice (r := rSlA K) sl_tupA (pv 3) po_none (po_some (pv 7))) (pe_as (t' := tEndTup) (pe_ifExp (pt_cmpR op_eq (pv 8) (pe_un un_neg (pe_int)) (nomark _)) (pe_tup pa_nil) (pe_tup (pa_cons (pv 8) pa_nil))) (by
      rintro σ H Q ⟨e, i8, hor, q⟩
      refine ⟨_, i8, _, rfl, rfl, _, rfl, ?_⟩
      by_cases h : e = -1
      · refine iteP (int_dec h) ⟨Nat.zero_le _, fun t nt => q _ t (Same.new nt) ⟨t, rfl, ?_⟩⟩
        rw [upd_same, if_pos h]
        rfl
      · refine iteN (int_ndec h) ⟨_, i8, (by show 1 ≤ sizeLine; decide), fun t nt => q _ t (Same.new nt) ⟨t, rfl, ?_⟩⟩
        rw [upd_same, if_neg h]
        show some (HO.tup [V.int e]) = some (HO.tup [V.int ((e.toNat : Nat) : Int)])
        rw [Int.toNat_of_nonneg (hor.resolve_left h)]))) (pe_slice (r := rSlA K) sl_tupA (pv 3) (po_some (pe_op op_add (pv 7) (pe_int))) po_none)))
(pss_one (ps_if (PW.pt (pw_or (pt_cmpR (op_neD hu4) (pe_call G4 (hr.mono (by decide)) (by rfl) C4.m C4.kp C4.b .nil (passes_call (E := E0) takes0 fun _ _ _ _ h => h) (pa_cons (pv 1) (pa_cons (pv 3) pa_nil))) (pv 4) (nomark _)) (pw_or1 (pt_cmpR (op_neD hu4) (pe_call G3 (hr.mono (by decide)) (by rfl) C3.m C3.kp C3.b .nil pass0 (pa_cons (pv 1) (pa_cons (pv 3) pa_nil))) (pv 4) (nomark _))))) (pss_one (ps_ret (pe_bl))) pss_nil))))))))
(pss_one (ps_ret (pe_cmpR op_is_bl (pe_call G7 (hr.mono (by decide)) (by rfl) C7.m C7.kp C7.b .nil pass0 (pa_cons (pv 2) (pa_cons (pv 3) pa_nil))) pe_bl (nomark _)))))))), ?_⟩
    have M := hMp.mach
    have m1 := M.m1
    have n4 := hMp.n4
    have m6 := hMp.m6
    refine ⟨_, rfl, b, 11, rfl, hB, by decide, by decide, fun z H1 lz x1 => ⟨_, rfl, by omega, by omega, fun D nD => lc_range (lo := 0) (n := ((z : Nat) : Int).toNat) (fun j H' => Bx b H1 H' ∧ ∃ q : List Nat, q.length = j ∧ (∀ c ∈ q, c < ms.length) ∧ H' D = some (.lst (q.map nV))) ⟨Bx.of x1.box (Same.new nD), [], rfl, (fun c h => nomatch h), upd_same⟩ ?_ ?_⟩⟩
    · intro j H2 hj ⟨x2, q, ql, qb, eD⟩
      have Db : D ≠ b := fun z => by obtain ⟨_, _, _, e⟩ := x1.box; rw [z, e] at nD; cases nD
      obtain ⟨us, eP, hU⟩ := (hMp.bx (x1.trans x2) hB pb).at'
      have ul := pLen hU
      refine ⟨rfl, ⟨_, rfl, _, rfl, .ref p, ms.length, rfl, .inl ⟨us, sqL eP, ul.symm⟩, b, ms.length, rfl, x2.box, m1, by omega, fun z H3 lz x3 => ⟨_, x3.same _ _ eD Db, ?_, (x2.trans x3).set nD Db, q ++ [z], by simp [ql], fun c hc => ?_, ?_⟩⟩⟩
      · rw [List.length_map, ql]
        exact small100 (by omega)
      · rcases List.mem_append.mp hc with h | h
        · exact qb c h
        · rw [List.mem_singleton.mp h]; exact lz
      · rw [upd_same, List.map_append]
        rfl
    intro H2 ⟨x2, q, ql, qb, eD⟩
    refine ⟨D, _, rfl, .inl ⟨sqL eD, fun a na => ?_⟩⟩
    have q10 : q.length ≤ 10 := by omega
    obtain ⟨H3, e3⟩ : ∃ H3, upd H2 a (.tup (q.map nV)) = H3 := ⟨_, rfl⟩
    rw [e3]
    have x3 : Bx b H H3 := (x1.trans x2).then (by rw [← e3]; exact Same.new na)
    have ta : TupAt H3 (.ref a) q := ⟨a, rfl, by rw [← e3, upd_same]⟩
    have M3 := hMp.bx x3 hB pb
    have ok := FM.chkW_ok M
    refine ⟨_, rfl, _, rfl, p, n, ms, a, q, rfl, M3, ta, qb, fun H4 due s4 td => ?_⟩
    have x4 := x3.then s4
    have M4 := M3.same s4
    have ta4 := ta.same s4
    have hd := FM.done_tab M qb
    have fitD : Fit 1 115383 (tabD (FM.doneBy n ms q)) := fit_tab (n := 0) (by rw [hd.len]; omega) fun x hx => by have := hd.lt x hx; omega
    have shD : SeqAt.shaped (tabD (FM.doneBy n ms q)) = true := shaped_tab hd (by omega)
    have msh : ∀ {H'}, MapsAt H' p n ms → MShAt K H' (.ref p) (some (FM.shM ms)) := fun {H'} h => by
      obtain ⟨us, e, t⟩ := h.at'
      exact msh_tups (b := false) (sqL e) t M
    have sqA : ∀ {H' a q}, TupAt H' (.ref a) q → Sq K true H' a (q.map nV) := fun {H' a q} ⟨t, e, h⟩ => by cases e; exact sqT h
    refine ⟨_, rfl, _, rfl, done_call (msh M4) M (sqA ta4) (by omega) qb fun H5 t s5 t5 => ?_⟩
    refine ⟨t, _, 1, 115383, rfl, t5.dp, fitD, by decide, by decide, _, rfl, due, _, 1, 115383, rfl, (td.same s5).dp, fitD, by decide, by decide, rfl, _, rfl, iteN (by simp) ?_⟩
    have x5 := x4.then s5
    have M5 := M4.same s5
    obtain ⟨a', ea', eA5⟩ := ta4.same s5
    cases ea'
    refine ⟨_, rfl, a, _, rfl, .inr (sqT eA5), fun l nl => ?_⟩
    have sl : Same H5 (upd H5 l (.lst (q.map nV))) := Same.new nl
    obtain ⟨us6, eP6, hU6⟩ := (M5.same sl).at'
    refine ⟨p, us6, ms, (by show 10 < 11; decide), rfl, eP6, hU6, by omega, fun H6 L ls s6 nL eL hL => ?_⟩
    refine done_kw (b := false) (msh_lsts eL hL M) M (sqL (s6 _ _ upd_same)) (by omega) qb fun H7 t7 s7 d7 => ?_
    have s57 := (sl.trans s6).trans s7
    have td7 := (td.same s5).same s57
    refine ⟨_, rfl, _, _, d7.dp, td7.dp, shD, shD, _, rfl, iteN (by rw [eqv_tab]; simp) ?_⟩
    have x7 := x5.then s57
    have M7 := M5.same s57
    have ta7 := (ta4.same s5).same s57
    refine ⟨10, rfl, by decide, by decide, ?_⟩
    refine (fun (fin : ∀ σ H', (∃ i, PlayInv MC b p m due n ms (FM.doneBy n ms q) H i σ H' ∧ (i = 10 ∨ ∃ a q', σ[3]? = some (some (.ref a)) ∧ TupAt H' (.ref a) q' ∧ FM.places (FM.rowsOf n ms) q' = [])) → _) => for_range (lo := 0) (n := (10 : Int).toNat) (PlayInv MC b p m due n ms (FM.doneBy n ms q) H) ⟨a, q, _, _, _, _, rfl, x7, M7, hMg.bx x7 hB, td7, ta7, qb, q10, rfl, .inr (by omega)⟩ ?_ fun σ H' hP => fin σ H' ⟨10, hP, .inl rfl⟩) ?_
    · intro i σ H8 hi hP
      have hP0 := hP
      obtain ⟨a8, q8, y5, y6, y7, y8, rfl, x8, M8, Mg8, td8, ta8, qb8, l8, d8, hor⟩ := hP
      have R := rowsOk_of M
      have rl := FM.rowsOf_len n ms
      refine ⟨_, rfl, _, rfl, m, FM.rowsOf n ms, a8, q8, rfl, Mg8, R, ta8, by omega, (by rw [rl]; exact qb8), fun H9 pl s9 tp => ?_⟩
      have fitP : ∀ x ∈ FM.places (FM.rowsOf n ms) q8, x < 10000 := fun x hx => by
        have := List.mem_range.mp (List.mem_filter.mp hx).1
        omega
      have lenP : (FM.places (FM.rowsOf n ms) q8).length ≤ 60 := Nat.le_trans (List.length_filter_le _ _) (by rw [List.length_range]; omega)
      refine ⟨_, rfl, Nat.zero_le _, fun e0 ne0 => ⟨_, .tuple [], (tp.same (Same.new ne0)).dp, .tup (sqT upd_same) .nil, (fit_tab (n := 0) lenP fitP).shaped (by decide), rfl, _, rfl, ?_⟩⟩
      have s10 : Same H8 (upd H9 e0 (.tup [])) := s9.trans (Same.new ne0)
      have eqp : PyData.eqv (tabD (FM.places (FM.rowsOf n ms) q8)) (.tuple []) = decide (FM.places (FM.rowsOf n ms) q8 = []) := eqv_tab _ []
      rw [eqp]
      have x10 := x8.then s10
      have M10 := M8.same s10
      have Mg10 := Mg8.same s10
      have td10 := td8.same s10
      have ta10 := ta8.same s10
      by_cases hnil : FM.places (FM.rowsOf n ms) q8 = []
      · exact iteP (decide_eq_true hnil) (fin _ _ ⟨i, ⟨a8, q8, _, _, _, _, rfl, x10, M10, Mg10, td10, ta10, qb8, l8, d8, .inl hnil⟩, .inr ⟨a8, q8, rfl, ta10, hnil⟩⟩)
      refine iteN (fun z => hnil (of_decide_eq_true z)) ?_
      obtain ⟨pl', epl, eTp⟩ := tp.same (Same.new (o := .tup []) ne0)
      cases epl
      refine ⟨_, rfl, _, rfl, b, true, pl, _, rfl, x10.box, eTp, x10.box.ne eTp (fun _ z => nomatch z), ?_, by rw [List.length_map]; omega, fun z v H11 hv x11 => ?_⟩
      · rw [List.length_map]
        cases h : FM.places (FM.rowsOf n ms) q8 with
        | nil => exact absurd h hnil
        | cons _ _ => simp
      obtain ⟨kk, hk, rfl⟩ := nVs_inv hv
      obtain ⟨ca, cb, e, hca, hcb, hrow⟩ := FM.mem_places (List.mem_of_getElem? hk)
      have la := qb8 ca (List.mem_of_getElem? hca)
      have lb := qb8 cb (List.mem_of_getElem? hcb)
      have x11' := x10.trans x11
      have M11 := M10.bx x11 x10.box pb
      have Mg11 := Mg10.bx x11 x10.box
      have td11 := x11.tupAt x10.box td10
      obtain ⟨a11, ea11, eA11⟩ := x11.tupAt x10.box ta10
      cases ea11
      refine ⟨_, rfl, _, rfl, _, rfl, a8, _, _, _, rfl, rfl, sqT eA11, atI_nat (nVs_get hca), _, rfl, _, rfl, _, _, rfl, rfl, a8, _, _, _, rfl, rfl, sqT eA11, atI_nat (j := kk + 1) (nVs_get hcb), m, FM.rowsOf n ms, ca, cb, rfl, Mg11, R, by rw [rl]; exact la, by rw [rl]; exact lb, ?_⟩
      rw [hrow]
      have he1 : e = -1 ∨ 0 ≤ e := by
        rcases row_end R (by rw [rl]; exact la) (by rw [rl]; exact lb) hrow with z | ⟨z, rfl, _⟩
        · exact .inl z
        · exact .inr (by omega)
      obtain ⟨fb, fd', fl⟩ := FM.fold_ok M qb8 hca hcb hrow
      refine ⟨_, rfl, _, rfl, _, rfl, ?_⟩
      refine rSlA_mk eA11 fun c1 H12 s12 h12 => ?_
      refine ⟨e, rfl, he1, fun H13 c2 s13 t13 => ?_⟩
      obtain ⟨c2', ec2, h13⟩ := t13
      cases ec2
      rw [cut_to, ← List.map_take] at h12
      have lq : (q8.take kk).length ≤ 10 := by rw [List.length_take]; omega
      have l1 : (if e = -1 then [] else [e.toNat]).length ≤ 1 := by split <;> simp
      refine rCatA_mk (s13 _ _ h12) h13 (by rw [List.length_map, List.length_map]; exact Nat.le_of_lt (small100 (by omega))) fun c3 H14 s14 h14 => ?_
      have eA14 := s14 _ _ (s13 _ _ (s12 _ _ eA11))
      refine ⟨_, rfl, _, rfl, _, _, rfl, rfl, _, rfl, slNo eA14 fun c4 H15 s15 h15 => ?_⟩
      have ek : ((kk : Nat) : Int) + 2 = ((kk + 2 : Nat) : Int) := by omega
      rw [ek, cut_from, ← List.map_drop] at h15
      refine rCatA_mk (s15 _ _ h14) h15 (by simp only [List.length_append, List.length_map, List.length_drop]; exact Nat.le_of_lt (small100 (by omega))) fun c5 H16 s16 h16 => ?_
      rw [← List.map_append, ← List.map_append] at h16
      have s11 : Same H11 H16 := (((s12.trans s13).trans s14).trans s15).trans s16
      have tq : TupAt H16 (.ref c5) (FM.fold q8 kk e) := ⟨c5, rfl, h16⟩
      have M16 := M11.same s11
      have td16 := td11.same s11
      have l16 : (FM.fold q8 kk e).length ≤ 10 := by omega
      have dq : FM.doneBy n ms (FM.fold q8 kk e) = FM.doneBy n ms q := by rw [fd']; exact d8
      refine ⟨_, rfl, _, rfl, done_call (msh M16) M (sqA tq) (by omega) fb fun H17 t17 s17 d17 => ?_⟩
      rw [dq] at d17
      refine ⟨_, rfl, _, _, d17.dp, (td16.same s17).dp, shD, shD, _, rfl, iteN (by rw [eqv_tab]; simp) ?_⟩
      refine ⟨_, rfl, _, rfl, p, n, ms, c5, _, rfl, M16.same s17, tq.same s17, fb, fun H18 t18 s18 d18 => ?_⟩
      rw [dq] at d18
      refine ⟨_, rfl, _, _, d18.dp, ((td16.same s17).same s18).dp, shD, shD, _, rfl, iteN (by rw [eqv_tab]; simp) ?_⟩
      have s1118 := (s11.trans s17).trans s18
      exact ⟨c5, _, _, _, _, _, rfl, x11'.then s1118, M11.same s1118, Mg11.same s1118, td11.same s1118, (tq.same s17).same s18, fb, l16, dq, by
        rcases hor with h | h
        · exact absurd h hnil
        · exact .inr (by omega)⟩
    · intro σ H8 ⟨i, hP, hend⟩
      obtain ⟨a8, q8, y5, y6, y7, y8, rfl, x8, M8, Mg8, td8, ta8, qb8, l8, d8, hor⟩ := hP
      have hnil : FM.places (FM.rowsOf n ms) q8 = [] := by
        rcases hend with rfl | ⟨a9, q9, e9, t9, hn⟩
        · rcases hor with h | h
          · exact h
          · exact FM.places_nil (by omega)
        · cases e9
          obtain ⟨t1, z1, h1⟩ := ta8
          obtain ⟨t2, z2, h2⟩ := t9
          cases z1
          cases z2
          rw [h1] at h2
          have : q8.map nV = q9.map nV := by injection (Option.some.inj h2)
          rwa [nVs_inj this]
      refine ⟨_, rfl, _, rfl, m, FM.rowsOf n ms, a8, q8, rfl, Mg8, rowsOk_of M, ta8, by omega, (by rw [FM.rowsOf_len]; exact qb8), fun H9 s9 => ⟨_, _, rfl, rfl, ?_⟩⟩
      have e : decide (decide (FM.places (FM.rowsOf n ms) q8 = []) = true) = true := by rw [hnil]; rfl
      show Q (.bl (decide (decide (FM.places (FM.rowsOf n ms) q8 = []) = true))) H9
      rw [e]
      exact k H9 (x8.then s9)
end
end K2
end
section
set_option maxHeartbeats 4000000
/-! The law's hearing: heard(lambda: ..). -/
namespace K2
open PySem PySem.Spec PyProof.Rows L2
/-- the facts of the two errors that are heard -/
structure Heard (P : Program) (K : PySem.W.Frag) (mg : Str → Option Value) (CH CQ CF fH fQ : Addr) : Prop where
  th : BadT P K mg "BadHouse" CH fH
  tq : BadT P K mg "BadQueue" CQ fQ
  mF : mg "FoldError" = some (.ref CF)
  hh : PySem.W.exmOne K (.ref CH) (.ref CH) = some true
  qh : PySem.W.exmOne K (.ref CQ) (.ref CH) = some false
  qq : PySem.W.exmOne K (.ref CQ) (.ref CQ) = some true
  hf : PySem.W.kitOne K (.ref CH) (.ref CF) = some true
  qf : PySem.W.kitOne K (.ref CQ) (.ref CF) = some true
/-- what heard answers -/
def TTh (CH CQ : Addr) : (XK → Hp → VK → Prop) → Hp → VK → Prop := fun tl H Q =>
  tl (fun cls d H' => (cls = .ref CH ∧ ∃ dd v, d = some dd ∧ H' dd = some (.xd [(("at" : Str), v)]) ∧ ∀ p, H' p = none → Q (.ref p) (upd H' p (.tup [.str "house", v, .bl true]))) ∨
    (cls = .ref CQ ∧ ∃ dd v, d = some dd ∧ H' dd = some (.xd [(("at" : Str), v)]) ∧ ∀ p, H' p = none → Q (.ref p) (upd H' p (.tup [.str "queue", v, .bl true])))) H (fun _ H' => Q .non H')
section
variable {X : Cx} {CH CQ CF fH fQ : Addr}
theorem scHeard : FnScope ["_law_ask", "e"] ["_law_ask"] (defScope sHeard) := ⟨rfl, rfl, rfl, by decide +kernel, rfl, by decide +kernel, by decide +kernel⟩
theorem heard_gives {q : Str} {g : Addr} {cdg : Value} (B : Blt X.mg) (T : Heard X.prog X.K X.mg CH CQ CF fH fQ) : LamX.GivesTo X ["_law_ask", "e"] "_law_heard" (defScope sHeard) g cdg (defBody sHeard) "_law_ask" q (TTh CH CQ) := by
  intro f c' s H Q tl act hc h
  refine ⟨_, pss_cons (ps_try_manyAs (X := (cxOf C8.CX0 X.prog X.w X.K X.mg X.base ["_law_ask", "e"] "_law_heard" (defScope sHeard) g cdg X.A X.stack s H C8.E0).nox) (i := 1) (n := "e")
      (tb := fun W D σ H => ∃ Ech : XK, (∀ cls d σ' H', Ech cls d H' → W cls d σ' H') ∧ σ[0]? = some (some (.ref f)) ∧ H c' = some (LamX.CodeO c' q) ∧ tl Ech H (fun _ H' => D.nx σ H'))
      (l := [(.ref CH, _), (.ref CQ, _)]) rfl rfl scHeard.nd rfl rfl (fun W pn xe tk _ => ?_)
      (.cons ⟨rfl, rfl, .inl T.th.gC⟩ (fun a oe cls d pn hz hf => pss_one (ps_ret (pe_tup (pa_cons pe_str (pa_cons (pe_atBad T.th hz hf (pv 1)) (pa_cons (pe_callB (call_isBad T.th hz hf) (by rfl) B.isinst (by decide +kernel) (pa_cons (pv 1) (pa_cons (pe_glob (by rfl) T.mF (v := .ref CF) rfl) pa_nil))) pa_nil))))))
      (.cons ⟨rfl, rfl, .inl T.tq.gC⟩ (fun a oe cls d pn hz hf => pss_one (ps_ret (pe_tup (pa_cons pe_str (pa_cons (pe_atBad T.tq hz hf (pv 1)) (pa_cons (pe_callB (call_isBad T.tq hz hf) (by rfl) B.isinst (by decide +kernel) (pa_cons (pv 1) (pa_cons (pe_glob (by rfl) T.mF (v := .ref CF) rfl) pa_nil))) pa_nil)))))) .nil)))
      (pss_one (ps_ret pe_non)), ?_⟩
  · refine ⟨fun pins s' σ H' D I h' => ?_⟩
    obtain ⟨Ech, hW, h1, h2, h3⟩ := h'
    exact (pss_one (ps_expr (act W pn xe Ech _ _ tk hW))).run pins s' σ H' D I ⟨h1, h2, h3⟩
  · refine ⟨_, fun cls d σ' H' hx hlen => ?_, rfl, hc, h⟩
    have at1 : ∀ a, (σ'.set 1 (some (V.ref a)))[1]? = some (some (V.ref a)) := fun a => List.getElem?_set_self (by rw [hlen]; show 1 < 2; decide)
    rcases hx with ⟨rfl, dd, v, rfl, hd, k⟩ | ⟨rfl, dd, v, rfl, hd, k⟩
    · exact ⟨true, T.hh, fun _ a na => ⟨_, at1 a, rfl, rfl, dd, v, rfl, hd, _, at1 a, _, .ref CF, true, dd, v, rfl, (fun u r => r), rfl, rfl, hd, T.hf, (by show 3 ≤ sizeLine; decide), fun p np => k p np⟩, (fun z => nomatch z)⟩
    · exact ⟨false, T.qh, (fun z => nomatch z), fun _ => ⟨true, T.qq, fun _ a na => ⟨_, at1 a, rfl, rfl, dd, v, rfl, hd, _, at1 a, _, .ref CF, true, dd, v, rfl, (fun u r => r), rfl, rfl, hd, T.qf, (by show 3 ≤ sizeLine; decide), fun p np => k p np⟩, (fun z => nomatch z)⟩⟩
end
end K2
end
section
set_option maxHeartbeats 4000000
/-! What the law's refusals rest on: values that are no tables, the works, what stays. -/
namespace K2
open PySem PySem.Spec PyProof.Rows L2 LamX NdefX
/-! ### '0' * n -/
def rRepS : R2 := fun x y H Q => x = .str "0" ∧ ∃ n : Nat, y = nV n ∧ 2 ≤ n ∧ n ≤ 4 ∧ ∀ z, Q (.str z) H
theorem op_repS {X : Cx} : OpR X (binaryOp .Mult) rRepS := by
  intro pins s σ H x y v u Q I rx ry h
  obtain ⟨rfl, n, rfl, h2, h4, q⟩ := h
  obtain ⟨t, rfl⟩ := rx
  obtain ⟨t', rfl⟩ := ry
  rcases (show n = 2 ∨ n = 3 ∨ n = 4 by omega) with rfl | rfl | rfl
  · exact PySem.P.mul_str (by decide) (fun _ _ => by decide) (fun _ _ => by decide) ⟨by decide, ⟨.str _, H, I.tok _, ⟨_, rfl⟩, q _⟩⟩
  · exact PySem.P.mul_str (by decide) (fun _ _ => by decide) (fun _ _ => by decide) ⟨by decide, ⟨.str _, H, I.tok _, ⟨_, rfl⟩, q _⟩⟩
  · exact PySem.P.mul_str (by decide) (fun _ _ => by decide) (fun _ _ => by decide) ⟨by decide, ⟨.str _, H, I.tok _, ⟨_, rfl⟩, q _⟩⟩
/-! ### what is no table -/
theorem step_other (found : List (List Nat)) : FM.step found .other = none := by
  unfold FM.step
  cases found with
  | nil => rw [if_neg (by show ¬ (1 ≤ 0 ∧ 0 ≤ 60); omega)]
  | cons f r =>
    split
    · rfl
    · rfl
/-- of the right length, no numbers of states -/
theorem step_nums {n : Nat} {found : List (List Nat)} {xs : List (Option Nat)} (hf : found = [] ∨ FM.Fnd n found) (hl : xs.length = n) (h : FM.nums n xs = none) : FM.step found (.seq xs) = none := by
  have es : FM.states found (.seq xs) = n := by
    rcases hf with rfl | F
    · exact hl
    · by_cases e : found = []
      · subst e; exact hl
      · exact FM.states_cons F e _
  unfold FM.step
  split
  · rw [es]
    have e : FM.isTab n (.seq xs) = none := by
      show (if xs.length = n then FM.nums n xs else none) = none
      rw [if_pos hl, h]
    rw [e]
  · rfl
theorem step_idle {n : Nat} {found : List (List Nat)} (hf : found = [] ∨ FM.Fnd n found) : FM.step found (.seq ((List.range n).map some)) = none := by
  have es : FM.states found (FM.Sh.seq ((List.range n).map some)) = n := by
    rcases hf with rfl | F
    · show ((List.range n).map some).length = n; simp
    · by_cases e : found = []
      · subst e; show ((List.range n).map some).length = n; simp
      · exact FM.states_cons F e _
  unfold FM.step
  split
  · rw [es]
    have e : FM.isTab n (.seq ((List.range n).map some)) = some (List.range n) := by
      show (if ((List.range n).map some).length = n then FM.nums n ((List.range n).map some) else none) = _
      rw [if_pos (by simp), FM.nums_some fun x hx => List.mem_range.mp hx]
    rw [e]
    show (if _ then none else some _) = none
    rw [if_pos (.inr rfl)]
  · rfl
/-- another length than the first -/
theorem step_len {n : Nat} {found : List (List Nat)} {xs : List (Option Nat)} (F : FM.Fnd n found) (hne : found ≠ []) (hl : xs.length ≠ n) : FM.step found (.seq xs) = none := by
  have es : FM.states found (FM.Sh.seq xs) = n := FM.states_cons F hne _
  unfold FM.step
  split
  · rw [es]
    have e : FM.isTab n (.seq xs) = none := by
      show (if xs.length = n then FM.nums n xs else none) = none
      rw [if_neg hl]
    rw [e]
  · rfl
theorem step_empty : FM.step [] (.seq ([] : List (Option Nat))) = none := by
  unfold FM.step
  rw [if_neg (by show ¬ (1 ≤ 0 ∧ 0 ≤ 60); omega)]
theorem step_long {xs : List (Option Nat)} (h : 60 < xs.length) : FM.step [] (.seq xs) = none := by
  unfold FM.step
  rw [if_neg (by show ¬ (1 ≤ xs.length ∧ xs.length ≤ 60); omega)]
/-- one of those found -/
theorem step_again {n : Nat} {found : List (List Nat)} {m : List Nat} (F : FM.Fnd n found) (h : m ∈ found) : FM.step found (.seq (m.map some)) = none := by
  have hne : found ≠ [] := fun z => by rw [z] at h; cases h
  have es : FM.states found (FM.Sh.seq (m.map some)) = n := FM.states_cons F hne _
  have t := F.tabs m h
  unfold FM.step
  split
  · rw [es]
    have e : FM.isTab n (.seq (m.map some)) = some m := by
      show (if (m.map some).length = n then FM.nums n (m.map some) else none) = _
      rw [if_pos (by rw [List.length_map]; exact t.len), FM.nums_some t.lt]
    rw [e]
    show (if _ then none else some _) = none
    rw [if_pos (.inl h)]
  · rfl
/-- u is none of the numbers below n -/
theorem nums_odd {n : Nat} (a : List V) (u : V) (b : List V) (h : ∀ x, itemV u = some x → ¬ x < n) : FM.nums n ((a ++ u :: b).map itemV) = none :=
  FM.nums_bad ⟨itemV u, by rw [List.map_append, List.map_cons]; exact List.mem_append_right _ (List.mem_cons_self ..), fun x e => h x e⟩
/-! ### what stays -/
/-- all but the box and the tables stands as in H -/
structure Nz (b : Addr) (T : List (Addr × Str)) (H H' : Hp) : Prop where
  box : BoxAt H' b
  same : ∀ c o, H c = some o → (∀ ps, o ≠ .tbl ps) → c ≠ b → H' c = some o
  tabs : Tabs T H'
section
variable {b : Addr} {T : List (Addr × Str)} {H H1 H2 : Hp}
theorem Nz.refl (h : BoxAt H b) (t : Tabs T H) : Nz b T H H := ⟨h, fun _ _ e _ _ => e, t⟩
theorem Nz.trans (x : Nz b T H H1) (y : Nz b T H1 H2) : Nz b T H H2 := ⟨y.box, fun c o e n m => y.same c o (x.same c o e n m) n m, y.tabs⟩
theorem Nz.then (x : Nz b T H H1) (s : Same H1 H2) : Nz b T H H2 := ⟨x.box.same s, fun c o e n m => s _ _ (x.same c o e n m), x.tabs.ext s⟩
theorem tabs_bx (t : Tabs T H1) (hb : BoxAt H1 b) (x : Bx b H1 H2) : Tabs T H2 := fun p hp => by
  obtain ⟨ps, h1, h2, h3⟩ := t p hp
  refine ⟨ps, x.same _ _ h1 (hb.ne h1 fun _ z => nomatch z), h2, fun pos cv hc => ?_⟩
  obtain ⟨c, e1, e2⟩ := h3 pos cv hc
  exact ⟨c, e1, x.same _ _ e2 (hb.ne e2 fun _ z => by unfold CodeO at z; cases z)⟩
theorem Nz.bx (x : Nz b T H H1) (y : Bx b H1 H2) : Nz b T H H2 := ⟨y.box, fun c o e n m => y.same c o (x.same c o e n m) m, tabs_bx x.tabs x.box y⟩
theorem Nz.ext (x : Nz b T H H1) (y : ExtN H1 H2) (t : Tabs T H2) : Nz b T H H2 := by
  obtain ⟨d, r, k, e⟩ := x.box
  exact ⟨⟨d, r, k, y _ _ e fun _ z => nomatch z⟩, fun c o e n m => y _ _ (x.same c o e n m) n, t⟩
theorem Nz.tup {t : Addr} {xs : List V} (x : Nz b T H H1) (hb : BoxAt H b) (e : H t = some (.tup xs)) : H1 t = some (.tup xs) := x.same _ _ e (fun _ z => nomatch z) (hb.ne e fun _ z => nomatch z)
theorem Nz.lst {t : Addr} {xs : List V} (x : Nz b T H H1) (tb : t ≠ b) (e : H t = some (.lst xs)) : H1 t = some (.lst xs) := x.same _ _ e (fun _ z => nomatch z) tb
theorem Nz.tupAt {v : V} {m : List Nat} (x : Nz b T H H1) (hb : BoxAt H b) : TupAt H v m → TupAt H1 v m := fun ⟨t, e, k⟩ => ⟨t, e, x.tup hb k⟩
theorem Nz.tups {us : List V} {ms : List (List Nat)} (x : Nz b T H H1) (hb : BoxAt H b) (t : TupsAt H us ms) : TupsAt H1 us ms := Paired.mapP t fun _ _ => x.tupAt hb
theorem Nz.maps {p n : Nat} {ms : List (List Nat)} (x : Nz b T H H1) (hb : BoxAt H b) (pb : p ≠ b) (h : MapsAt H p n ms) : MapsAt H1 p n ms := by
  obtain ⟨us, e, t⟩ := h.at'
  exact ⟨⟨us, x.lst pb e, x.tups hb t⟩, h.mach, h.n2, h.n4, h.m6⟩
theorem Nz.free (x : Nz b T H H1) {p : Addr} (hn : ∀ ps, H p ≠ some (.tbl ps)) (pb : p ≠ b) (np : H1 p = none) : H p = none := by
  cases e : H p with
  | none => rfl
  | some o =>
    rw [x.same _ _ e (fun ps z => hn ps (by rw [e, z])) pb] at np
    cases np
end
/-! ### the works -/
/-- u, told what is wrong with it after the tables found -/
def BadV (K : PySem.W.Frag) (b : Addr) (H : Hp) (found : List (List Nat)) (u : V) : Prop := ∃ w, ShAt K H u w ∧ (∀ a, u = .ref a → a ≠ b) ∧ FM.step found w = none
/-- a whole value that is refused with -1 -/
def BadW (K : PySem.W.Frag) (b : Addr) (H : Hp) (v : V) : Prop := ∃ ws, MShAt K H v ws ∧ FM.chkW ws = .error (-1)
theorem Nz.sh {K : PySem.W.Frag} {b : Addr} {T : List (Addr × Str)} {H H1 : Hp} {u : V} {w : FM.Sh (Option Nat)} (x : Nz b T H H1) (h : ShAt K H u w) (hn : ∀ a, u = .ref a → a ≠ b) : ShAt K H1 u w := by
  cases h with
  | flat h => exact .flat h
  | @seq t a vs h f l =>
    refine .seq (b := t) ?_ f l
    cases t with
    | false => exact x.same _ _ h (fun _ z => nomatch z) (hn a rfl)
    | true => exact x.same _ _ h (fun _ z => nomatch z) (hn a rfl)
theorem Nz.badV {K : PySem.W.Frag} {b : Addr} {T : List (Addr × Str)} {H H1 : Hp} {found : List (List Nat)} {u : V} (x : Nz b T H H1) : BadV K b H found u → BadV K b H1 found u := fun ⟨w, h, n, e⟩ => ⟨w, x.sh h n, n, e⟩
def spWork (K : PySem.W.Frag) (CH f1 f2 : Addr) (mk : Addr → NF) (e : Expr) : Addr → Sp := fun q vs H _ E => ∃ v ws i, vs = [v] ∧ MShAt K H v ws ∧ FM.chkW ws = .error i ∧ (∀ H' d, Same H H' → XdAt H' d i → E (.ref CH) (some d) H') ∧
  (q = f1 ∨ q = f2 ∨ ∃ c', H q = some (LamO q (mk c') e) ∧ H c' = some (CodeO c' (mk c').qual))
/-- the third work's text -/
def lamOf : Expr → Arguments × Expr × Scope
  | .Lambda p e sc _ => (p, e, sc)
  | _ => (⟨[], [], none, [], [], none, []⟩, .Name "" ⟨0, 0, 0, 0⟩, defScope sNone)
def iterOf : Stmt → Expr
  | .For _ it _ _ _ => it
  | _ => .Name "" ⟨0, 0, 0, 0⟩
def partOf (i : Nat) : Expr → Expr
  | .Tuple es _ _ => es.getD i (.Name "" ⟨0, 0, 0, 0⟩)
  | _ => .Name "" ⟨0, 0, 0, 0⟩
abbrev lam3 : Arguments × Expr × Scope := lamOf (partOf 2 (iterOf ((defBody sNone).getD 6 (.Pass ⟨0, 0, 0, 0⟩))))
abbrev qNone : Str := ("_law_none_right" : Str) ++ ".<locals>." ++ "<lambda>"
def mk3 (c' : Addr) : NF := ⟨"<lambda>", qNone, lam3.1, [], lam3.2.2, [], c'⟩
section
variable {X : Cx} {CH CQ MC f1 f2 f4 : Addr} {d1 d2 d4 : FuncData} {E : XK}
theorem sc3 : NScope ["_law_tables"] ["_law_tables"] [] lam3.2.2 := nscope_by (by decide +kernel)
theorem work_runs (hr : Room 7 X.A) (hx : Passes (L2.CX X.prog X.w) X E) (G1 : FnOk X.prog X.w X.K X.mg X.base (L2.CX X.prog X.w) 5 f1 d1 ["value"] (spCheckMachine X.K CH)) (B1 : Binds X.K d1 ["value"] [])
    (G2 : FnOk X.prog X.w X.K X.mg X.base (L2.CX X.prog X.w) 6 f2 d2 ["tables"] (spMachineMerger X.K CH MC)) (B2 : Binds X.K d2 ["tables"] [])
    (G4 : FnOk X.prog X.w X.K X.mg X.base (L2.CX X.prog X.w) 6 f4 d4 ["tables", "queue"] (spDoneTable X.K CH CQ)) (C4 : Cal X.K X.mg "done_table" f4 d4 ["tables", "queue"]) :
    Runs X (spWork X.K CH f1 f2 mk3 lam3.2.1) E := by
  intro q pins s σ H Q us vs I r h
  obtain ⟨v, ws, i, rfl, hM, he, k, hq⟩ := h
  rcases hq with rfl | rfl | ⟨c', e1, e2⟩
  · refine run_fn G1 (hr.mono (by decide)) B1 .nil hx I r ⟨v, ws, rfl, hM, fun ms hm => (by rw [he] at hm; cases hm), fun j hj H' d s' x => ?_⟩
    rw [he] at hj
    cases hj
    exact k H' d s' x
  · refine run_fn G2 (hr.mono (by decide)) B2 .nil hx I r ⟨v, ws, rfl, hM, fun j hj H' d s' x => ?_, fun n ms hm => (by rw [he] at hm; cases hm)⟩
    rw [he] at hj
    cases hj
    exact k H' d s' x
  · refine run_lam (CX := L2.CX X.prog X.w) (k := 6) (tb := tCall (spDoneTable X.K CH CQ) [] E (tCons (tVar 0) (tCons (tC .non) tNil))) (N := ["_law_tables"]) (ps := ["_law_tables"]) I hr hx sc3 rfl e1 e2 (fun pm ctv us hl => match us, hl with | [_], _ => rfl) r rfl (fun A outer s hr' => ?_) ?_
    · exact pe_call (X := ncx (L2.CX X.prog X.w) X.prog X.w X.K X.mg X.base ["_law_tables"] (mk3 c') q A outer s H E) G4 hr' (by rfl) C4.m C4.kp C4.b .nil (passes_call (takes_of rfl rfl rfl rfl) fun _ _ _ _ h => h) (pa_cons (pv 0) (pa_cons pe_non pa_nil))
    · refine ⟨v, rfl, v, .non, ws, rfl, hM, .non, fun j hj H' d s' x => ?_, fun ms hm => (by rw [he] at hm; cases hm)⟩
      rw [he] at hj
      cases hj
      exact k H' d s' x
end
end K2
end
section
set_option maxHeartbeats 8000000
/-! The law's refusals. -/
namespace K2
open PySem PySem.Spec PyProof.Rows L2
theorem pe_workK {X : Cx} {K : PySem.W.Frag} {i : Nat} {x : Str} {sp : Addr → Sp} {E : XK} {t : TA} {e : Expr} {es : List Expr} {p pos : Pos} (hK : X.K = K) (hR : Runs X sp E) (hN : X.N[i]? = some x) (hv : Vis X.env.scope x) (ha : PA X (e :: es) t) (hd : (x == ("__debug__" : Str)) = false := by decide) (hcd : (x == ("__classdict__" : Str)) = false := by decide)
    (he : starEach (e :: es) X.env = (false, eval e X.env) :: starEach es X.env := by rfl) (hpl : (backTo pos (starEach es X.env)).any (·.1) = false := by rfl) : PE X (.Call (.Name x p) (e :: es) [] pos) (tWork K i sp E t) := by
  subst hK
  exact pe_work hR hN hv ha hd hcd he hpl
/-- heard(lambda: body) -/
theorem pe_heard {X : Cx} {CH CQ CF fH fQ g cN PN : Addr} {gd : FuncData} {q : Str} {params : Arguments} {body : Expr} {scope : Scope} {t : XK → TE} {p lpos pos : Pos} (F : Fn X.K "_law_heard" sHeard g gd) (C : Cal X.K X.mg "_law_heard" g gd ["_law_ask"]) (B : Blt X.mg) (TH : Heard X.prog X.K X.mg CH CQ CF fH fQ)
    (TB : LamX.TabB X.base X.mg cN PN) (hcode : X.env.code = .ref cN) (hq : X.env.qual ++ "<lambda>" = q) (hr : Room 9 X.A) (L : LamX.LamS X.env.scope scope) (hdef : defaultsOf params X.env = ([], []))
    (hbind : ∀ (q : Str) (cl : List (Str × Addr)) (pm cv ctv : Value), bindArgs (PySem.W.kla_fn "<lambda>" q params body scope cl pm cv ctv) ⟨[], []⟩ = pure [])
    (hbody : ∀ (A : Around) (outer : List Env) (s : Shared) (H : Hp) (E : XK) (f c' : Addr), Room 7 (A.deeper (LamX.lamEnv X scope s.heap.objs.size f c')) → PE (LamX.lamCx X A outer s H E scope f c') body (t E)) (hg : Gl X "_law_heard") :
    PE X (.Call (.Name "_law_heard" p) [.Lambda params body scope lpos] [] pos) (LamX.tLam [(PN, q)] (TTh CH CQ) t) := by
  obtain ⟨oc, od, dV, kV, doc, pm, an, cdv, ct, osl, rfl, lk, hcd, _, _⟩ := F.ex
  subst hq
  exact LamX.pe_lamcall (k := 7) hg C.m C.kp lk hcd C.b scHeard rfl (.inl rfl) (heard_gives B TH) TB hcode (List.mem_singleton.mpr rfl) (fun _ hp _ => by rw [List.mem_singleton.mp hp]) hr L hdef hbind hbody
theorem pApp {α β : Type} {F : α → β → Prop} : ∀ {xs : List α} {ys : List β} {xs' : List α} {ys' : List β}, Paired F xs ys → Paired F xs' ys' → Paired F (xs ++ xs') (ys ++ ys')
  | _, _, _, _, .nil, q => q
  | _, _, _, _, .cons r t, q => .cons r (pApp t q)
theorem pRep {α β : Type} {F : α → β → Prop} {x : α} {y : β} (h : F x y) : ∀ n, Paired F (List.replicate n x) (List.replicate n y)
  | 0 => .nil
  | n + 1 => .cons h (pRep h n)
theorem z60_mach : FM.Mach 60 [List.replicate 60 0] := by
  refine ⟨by decide, by decide, by decide, by decide, fun m hm => ?_, by simp, fun hm => ?_⟩
  · rw [List.mem_singleton.mp hm]
    exact rep_tab (by decide)
  · have h0 := List.mem_singleton.mp hm
    have h1 : (List.range 60)[1]? = (List.replicate 60 0)[1]? := by rw [h0]
    rw [List.getElem?_range (by decide), List.getElem?_replicate, if_pos (by decide)] at h1
    cases h1
theorem fit60 : Fit 2 (3 + 1 * (115383 + 2)) (.tuple ([List.replicate 60 0].map tabD)) := Fit.tuple (fit_tabs z60_mach.tabs (by decide)) (by decide)
theorem box_ne {b l : Addr} {H : Hp} (hB : BoxAt H b) (nl : H l = none) : l ≠ b := fun z => by
  obtain ⟨_, _, _, e⟩ := hB
  rw [z, e] at nl
  cases nl
/-! ### what is compared -/
def hD (x : Str) (i : Int) : PyData := .tuple [.str x, .int i, .bool true]
theorem hD_dp {K : PySem.W.Frag} {H : Hp} {p : Addr} {x : Str} {i : Int} (e : H p = some (.tup [.str x, .int i, .bl true])) : Dp K H (.ref p) (hD x i) := .tup (sqT e) (.cons (.str _) (.cons (.int _) (.cons (.bl _) .nil)))
theorem hD_lay {x : Str} (hx : PyData.strOk x = true) (i : Int) : (hD x i).canLay0 = true := by simp [hD, PyData.canLay0, PyData.canLayAll0, hx]
theorem hD_sh {x : Str} (hx : PyData.strOk x = true) (i : Int) : SeqAt.shaped (hD x i) = true := by
  show ((hD x i).canLay0 && decide ((hD x i).depth ≤ 64)) = true
  rw [hD_lay hx, Bool.true_and, decide_eq_true_iff]
  simp [hD, PyData.depth, PyData.depthAll]
theorem hD_eqv {x : Str} {i j : Int} (hx : PyData.strOk x = true) (h : i = j) : PyData.eqv (hD x i) (hD x j) = true := by
  subst h
  exact SeqAt.eqv_refl _ (hD_lay hx i)
/-- the items of the odd list -/
theorem badFlat {K : PySem.W.Frag} {b : Addr} {H : Hp} {found : List (List Nat)} {u : V} (h : flat4 u = true) : BadV K b H found u := ⟨.other, .flat h, (fun a z => by rw [z] at h; cases h), step_other found⟩
theorem badTup {K : PySem.W.Frag} {b t : Addr} {H : Hp} {found : List (List Nat)} {vs : List V} (hb : BoxAt H b) (e : H t = some (.tup vs)) (hf : ∀ u ∈ vs, flat4 u = true) (hl : vs.length ≤ 1000) (h : FM.step found (.seq (vs.map itemV)) = none) : BadV K b H found (.ref t) :=
  ⟨_, .seq (b := true) (show Tq true H t vs from e) hf hl, (fun a z => by cases z; exact hb.ne e fun _ z => nomatch z), h⟩
theorem nV_flat (m : List Nat) : ∀ u ∈ m.map nV, flat4 u = true := fun u hu => by
  obtain ⟨x, _, rfl⟩ := List.mem_map.mp hu
  rfl
/-- a table with one odd item -/
def tOddTab : TE := fun σ H Q => ∃ b t m n sp, σ[0]? = some (some (.ref b)) ∧ σ[2]? = some (some (nV n)) ∧ σ[4]? = some (some (.ref t)) ∧ σ[5]? = some (some (nV sp)) ∧ BoxAt H b ∧ TupAt H (.ref t) m ∧ FM.Tab n m ∧ sp < n ∧ n ≤ 4 ∧
  ∀ H' p u, Bx b H H' → flat4 u = true → (∀ x, itemV u = some x → ¬ x < n) → H' p = some (.tup ((m.take sp).map nV ++ u :: (m.drop (sp + 1)).map nV)) → Q (.ref p) H'
/-- a list of such that are refused after the tables ahead -/
def tBads (K : PySem.W.Frag) : TE := fun σ H Q => ∃ b p n ms t at', σ[1]? = some (some (.ref p)) ∧ σ[4]? = some (some (.ref t)) ∧ σ[7]? = some (some (nV at')) ∧ BoxAt H b ∧ MapsAt H p n ms ∧ at' < ms.length ∧ TupAt H (.ref t) (FM.tab ms at') ∧
  ∀ H' l us, Same H H' → H l = none → H' l = some (.lst us) → us.length ≤ 2 → (∀ u ∈ us, BadV K b H' (ms.take at') u) → Q (.ref l) H'
theorem rep0 (n : Nat) : (List.replicate n [V.int 0]).flatten = (List.replicate n 0).map nV := rep_nV n 0
section
variable {P : Program} {w : World} {K : PySem.W.Frag} {mg : Str → Option Value} {base : Heap} {f CH CQ MC CF fH fQ f1 f2 f4 f5 f6 g cN PN : Addr} {fd d1 d2 d4 d5 d6 gd : FuncData}
abbrev nmNone : List Str := ["_law_box_here", "_law_maps_here", "_law_states", "_law_idle", "_law_table", "_law_spot", "_law_odd", "_law_at", "_law_bad", "_law_head", "_law_value", "_law_work", "_law_command"]
theorem scNone : FnScope nmNone ["_law_box_here", "_law_maps_here"] (defScope sNone) := ⟨rfl, rfl, rfl, by decide +kernel, rfl, by decide +kernel, by decide +kernel⟩
/-- a def whose code object is told -/
def FnC (K : PySem.W.Frag) (x : Str) (st : Stmt) (f : Addr) (fd : FuncData) (c : Addr) : Prop := ∃ (oc : Value) (od : Option Addr) (dV kV doc pm : Value) (an : Option Addr) (ct : Value) (osl : Array (Option Value)),
  fd = PySem.W.fnOf x x (defArgs st) (defBody st) (defScope st) dV kV doc pm an (.ref c) ct ∧ K.lookup f = some ⟨oc, od, .func fd, osl⟩ ∧ PySem.W.codeIn K (.ref c) x = true
/-- q is one of the works -/
def WorkAt (K : PySem.W.Frag) (f1 f2 : Addr) (H : Hp) (q : Addr) : Prop := q = f1 ∨ q = f2 ∨ ∃ c', H q = some (LamO q (mk3 c') lam3.2.1) ∧ H c' = some (LamX.CodeO c' (mk3 c').qual)
theorem ext_ne {φ : Heap → Prop} : (∀ ps, HO.ext φ ≠ .tbl ps) ∧ ∀ xs, HO.ext φ ≠ .lst xs := ⟨(fun _ z => nomatch z), (fun _ z => nomatch z)⟩
theorem WorkAt.nz {b : Addr} {T : List (Addr × Str)} {H H' : Hp} {q : Addr} (x : Nz b T H H') (hb : BoxAt H b) : WorkAt K f1 f2 H q → WorkAt K f1 f2 H' q
  | .inl h => .inl h
  | .inr (.inl h) => .inr (.inl h)
  | .inr (.inr ⟨c', e1, e2⟩) => .inr (.inr ⟨c', x.same _ _ e1 ext_ne.1 (hb.ne e1 ext_ne.2), x.same _ _ e2 ext_ne.1 (hb.ne e2 ext_ne.2)⟩)
theorem WorkAt.same {H H' : Hp} {q : Addr} (s : Same H H') : WorkAt K f1 f2 H q → WorkAt K f1 f2 H' q
  | .inl h => .inl h
  | .inr (.inl h) => .inr (.inl h)
  | .inr (.inr ⟨c', e1, e2⟩) => .inr (.inr ⟨c', s _ _ e1, s _ _ e2⟩)
theorem WorkAt.fnV {H : Hp} {q : Addr} (F1 : Fn K "check_machine" sCheckMachine f1 d1) (F2 : Fn K "machine_merger" sMachineMerger f2 d2) (h : WorkAt K f1 f2 H q) : FnV K H q := by
  rcases h with rfl | rfl | ⟨c', e, _⟩
  · obtain ⟨oc, od, dV, kV, doc, pm, an, cdv, ct, osl, rfl, lk, _⟩ := F1.ex
    exact .inl ⟨_, _, _, _, lk⟩
  · obtain ⟨oc, od, dV, kV, doc, pm, an, cdv, ct, osl, rfl, lk, _⟩ := F2.ex
    exact .inl ⟨_, _, _, _, lk⟩
  · exact .inr ⟨_, _, e⟩
def spNone (PN : Addr) : Sp := fun vs H Q _ => ∃ b p n ms, vs = [.ref b, .ref p] ∧ BoxAt H b ∧ p ≠ b ∧ MapsAt H p n ms ∧ LamX.Tabs [(PN, qNone)] H ∧ ∀ H', Nz b [(PN, qNone)] H H' → Q (.bl true) H'
theorem ok_none (F : FnC K "_law_none_right" sNone f fd cN) (TB : LamX.TabB base mg cN PN) (B : Blt mg) (TH : Heard P K mg CH CQ CF fH fQ) (FH : Fn K "_law_heard" sHeard g gd) (CHd : Cal K mg "_law_heard" g gd ["_law_ask"])
    (G1 : FnOk P w K mg base (L2.CX P w) 5 f1 d1 ["value"] (spCheckMachine K CH)) (C1 : Cal K mg "check_machine" f1 d1 ["value"]) (F1 : Fn K "check_machine" sCheckMachine f1 d1)
    (G2 : FnOk P w K mg base (L2.CX P w) 6 f2 d2 ["tables"] (spMachineMerger K CH MC)) (C2 : Cal K mg "machine_merger" f2 d2 ["tables"]) (F2 : Fn K "machine_merger" sMachineMerger f2 d2)
    (G4 : FnOk P w K mg base (L2.CX P w) 6 f4 d4 ["tables", "queue"] (spDoneTable K CH CQ)) (C4 : Cal K mg "done_table" f4 d4 ["tables", "queue"])
    (G5 : FnOk P w K mg base CX0 1 f5 d5 ["_law_box_here", "_law_many"] spTake) (C5 : Cal K mg "_law_take" f5 d5 ["_law_box_here", "_law_many"])
    (G6 : FnOk P w K mg base CX0 2 f6 d6 ["_law_box_here", "_law_some"] spPick) (C6 : Cal K mg "_law_pick" f6 d6 ["_law_box_here", "_law_some"]) :
    FnOk P w K mg base CX0 10 f fd ["_law_box_here", "_law_maps_here"] (spNone PN) := by
  obtain ⟨oc, od, dV, kV, doc, pm, an, ct, osl, rfl, lk, hcd⟩ := F
  refine fn_of lk hcd scNone (fun vs H Q E h => ?_) (fun A outer s H vs Q E hr h => ?_)
  · obtain ⟨b, p, n, ms, rfl, _⟩ := h
    rfl
  · obtain ⟨b, p, n, ms, rfl, hB, pb, hMp, hTb, k⟩ := h
    have hu := room65 hr
    have hu4 := room64 hr
    refine ⟨_, PSs.nox (pss_cons (ps_asg (pe_tup (pa_cons (pe_call G5 (hr.mono (by decide)) (by rfl) C5.m C5.kp C5.b .nil pass0 (pa_cons (pv 0) (pa_cons (pe_callB (r := rLenOf K) call_lenOf (by rfl) B.len PySem.boot_len (pa_cons (pv 1) pa_nil)) pa_nil))) (pa_cons (pe_callB (r := rLenOf K) call_lenOf (by rfl) B.len PySem.boot_len (pa_cons (pe_ix (r := rIxL K) ix_list (pv 1) (pe_int) (fun _ _ => rfl)) pa_nil)) pa_nil))) (pg_tup rfl (pgs_cons (pg_name (i := 7) scNone.nd rfl (Or.inr rfl)) (pgs_cons (pg_name (i := 2) scNone.nd rfl (Or.inl rfl)) pgs_nil))))
(pss_cons (ps_par (i := 3) (j := 4) (by rfl) scNone.nd rfl rfl (by decide) rfl rfl (pa_cons (pe_tupRg rfl (by rfl) B.tuple (prg_1 (by rfl) B.range (pv 2))) (pa_cons (pe_ix (r := rIxL K) ix_list (pv 1) (pv 7) (fun _ _ => rfl)) pa_nil)) (by rfl))
(pss_cons (ps_set (i := 5) scNone.nd rfl (Or.inl rfl) (pe_call G5 (hr.mono (by decide)) (by rfl) C5.m C5.kp C5.b .nil pass0 (pa_cons (pv 0) (pa_cons (pv 2) pa_nil))))
(pss_cons (ps_set (i := 6) scNone.nd rfl (Or.inl rfl) (pe_lst (pa_cons (pe_as (t' := tOddTab) (pe_op (r := rCatA K) op_catA (pe_op (r := rCatA K) op_catA (pe_slice (r := rSlA K) sl_tupA (pv 4) po_none (po_some (pv 5))) (pe_tup (pa_cons (pe_call G6 (hr.mono (by decide)) (by rfl) C6.m C6.kp C6.b .nil pass0 (pa_cons (pv 0) (pa_cons (pe_lst (pa_cons (pv 2) (pa_cons (pe_op op_sub (pe_int) (pe_int)) (pa_cons (pe_bl) (pa_cons (pe_non) (pa_cons (pe_str) pa_nil)))))) pa_nil))) pa_nil))) (pe_slice (r := rSlA K) sl_tupA (pv 4) (po_some (pe_op op_add (pv 5) (pe_int))) po_none)) (by
      rintro σ H Q ⟨b, t, m, n, sp, i0, i2, i4, i5, hB, ⟨t', et, hT⟩, tm, hsp, n4, q⟩
      cases et
      have tl := tm.len
      refine ⟨_, i4, _, i5, _, rfl, ?_⟩
      refine rSlA_mk hT fun c1 H1 s1 h1 => ?_
      rw [cut_to, ← List.map_take] at h1
      refine ⟨_, i0, _, i2, _, _, rfl, rfl, (by show 5 ≤ sizeLine; decide), fun l nl => ?_⟩
      have hB1 := hB.same s1
      have lb : l ≠ b := fun z => by
        obtain ⟨_, _, _, e⟩ := hB1
        rw [z, e] at nl
        cases nl
      have s2 : Same H1 (upd H1 l (.lst [nV n, .int (0 - 1), .bl true, .non, .str "0"])) := Same.new nl
      refine ⟨b, false, l, [nV n, .int (0 - 1), .bl true, .non, .str "0"], rfl, hB1.same s2, (show Tq false _ _ _ from upd_same), lb, (by simp), (by simp), fun z u H2 hu x2 => ?_⟩
      have x02 : Bx b H H2 := (Bx.of hB (s1.trans s2)).trans x2
      have hu2 : flat4 u = true ∧ ∀ x, itemV u = some x → ¬ x < n := by
        rcases z with _ | _ | _ | _ | _ | z
        · cases hu
          exact ⟨rfl, fun x hx => by rw [itemV_nV] at hx; have := Option.some.inj hx; omega⟩
        · cases hu
          exact ⟨rfl, fun x hx => by cases hx⟩
        · cases hu
          exact ⟨rfl, fun x hx => by cases hx⟩
        · cases hu
          exact ⟨rfl, fun x hx => by cases hx⟩
        · cases hu
          exact ⟨rfl, fun x hx => by cases hx⟩
        · cases hu
      refine ⟨(by show 1 ≤ sizeLine; decide), fun T nT => ?_⟩
      have s3 : Same H2 (upd H2 T (.tup [u])) := Same.new nT
      have h13 := s3 _ _ (x2.tup (hB1.same s2) (s2 _ _ h1))
      refine rCatA_mk h13 upd_same (by simp only [List.length_map, List.length_take, List.length_cons, List.length_nil]; exact Nat.le_of_lt (small100 (by omega))) fun c2 H4 s4 h4 => ?_
      have hT4 := s4 _ _ (s3 _ _ (x02.tup hB hT))
      refine ⟨_, i4, _, i5, _, _, rfl, rfl, _, rfl, slNo hT4 fun c3 H5 s5 h5 => ?_⟩
      rw [show ((sp : Nat) : Int) + 1 = ((sp + 1 : Nat) : Int) by omega, cut_from, ← List.map_drop] at h5
      refine rCatA_mk (s5 _ _ h4) h5 (by simp only [List.length_append, List.length_map, List.length_take, List.length_drop, List.length_cons, List.length_nil]; exact Nat.le_of_lt (small100 (by omega))) fun c4 H6 s6 h6 => ?_
      rw [List.append_assoc] at h6
      exact q H6 c4 u (x02.then (((s3.trans s4).trans s5).trans s6)) hu2.1 hu2.2 h6)) (pa_cons (pe_non) (pa_cons (pe_int) (pa_cons (pe_op (r := rRepS) op_repS (pe_str) (pv 2)) (pa_cons (pv 3) pa_nil)))))))
(pss_cons (ps_set (i := 6) scNone.nd rfl (Or.inl rfl) (pe_op (r := rCat) op_cat (pe_op (r := rCat) op_cat (pv 6) (pe_as (t' := tBads K) (pe_ifExp (pt_cmpR op_gt (pv 7) (pe_int) (nomark _)) (pe_lst (pa_cons (pe_slice (r := rSlA K) sl_tupA (pv 4) po_none (po_some (pe_un un_neg (pe_int)))) (pa_cons (pe_op (r := rCatA K) op_catA (pv 4) (pe_tup (pa_cons (pe_int) pa_nil))) pa_nil))) (pe_lst (pa_cons (pe_tup pa_nil) pa_nil))) (by
      rintro σ H Q ⟨b, p, n, ms, t, ai, i1, i4, i7, hB, hM, lat, ⟨t', et, hT⟩, q⟩
      cases et
      have M := hM.mach
      have tm := M.tab lat
      have tl := tm.len
      have n2 := hM.n2
      have n4 := hM.n4
      refine ⟨_, i7, _, _, rfl, rfl, _, rfl, ite2 (fun h => ?_) (fun h => ?_)⟩
      · have hai : 0 < ai := by have := of_decide_eq_true h; omega
        have hne : ms.take ai ≠ [] := fun z => by
          have := congrArg List.length z
          rw [List.length_take, List.length_nil] at this
          omega
        have F := M.fnd.take ai
        refine ⟨_, i4, _, rfl, _, rfl, ?_⟩
        refine rSlA_mk hT fun c1 H1 s1 h1 => ?_
        rw [cut_but, List.length_map, ← List.map_take] at h1
        refine ⟨_, i4, (by show 1 ≤ sizeLine; decide), fun T nT => ?_⟩
        have s2 : Same H1 (upd H1 T (.tup [.int 0])) := Same.new nT
        refine rCatA_mk (s2 _ _ (s1 _ _ hT)) upd_same (by simp only [List.length_map, List.length_cons, List.length_nil]; exact Nat.le_of_lt (small100 (by omega))) fun c2 H2 s3 h2 => ⟨(by show 2 ≤ sizeLine; decide), fun l nl => ?_⟩
        have s13 := s1.trans (s2.trans s3)
        have s4 : Same H2 (upd H2 l (.lst [.ref c1, .ref c2])) := Same.new nl
        refine q _ l _ (s13.trans s4) (s13.free nl) upd_same (by simp) fun u hu => ?_
        have hB4 := hB.same (s13.trans s4)
        simp only [List.mem_cons, List.not_mem_nil, or_false] at hu
        rcases hu with rfl | rfl
        · exact badTup hB4 (s4 _ _ (s3 _ _ (s2 _ _ h1))) (nV_flat _) (by simp; omega) (step_len F hne (by simp; omega))
        · refine badTup hB4 (s4 _ _ h2) (fun u hu => ?_) (by simp; omega) (step_len F hne (by simp; omega))
          rcases List.mem_append.mp hu with h | h
          · exact nV_flat _ _ h
          · rw [List.mem_singleton.mp h]; rfl
      · have hai : ai = 0 := by
          have : ¬ (0 : Int) < ((ai : Nat) : Int) := fun z => h (decide_eq_true z)
          omega
        subst hai
        refine ⟨Nat.zero_le _, fun T nT => ⟨(by show 1 ≤ sizeLine; decide), fun l nl => ?_⟩⟩
        have s1 : Same H (upd H T (.tup [])) := Same.new nT
        have s2 : Same (upd H T (.tup [])) (upd (upd H T (.tup [])) l (.lst [.ref T])) := Same.new nl
        refine q _ l _ (s1.trans s2) (s1.free nl) upd_same (by simp) fun u hu => ?_
        rw [List.mem_singleton.mp hu]
        exact badTup (hB.same (s1.trans s2)) (s2 _ _ upd_same) (fun u hu => nomatch hu) (by decide) step_empty))) (pe_as (t' := tBads K) (pe_ifExp (pt_cmpR op_gt (pv 7) (pe_int) (nomark _)) (pe_lst (pa_cons (pe_ix (r := rIxL K) ix_list (pv 1) (pe_int) (fun _ _ => rfl)) pa_nil)) (pe_lst pa_nil)) (by
      rintro σ H Q ⟨b, p, n, ms, t, ai, i1, i4, i7, hB, hM, lat, hT, q⟩
      have M := hM.mach
      have m1 := M.m1
      have n4 := hM.n4
      refine ⟨_, i7, _, _, rfl, rfl, _, rfl, ite2 (fun h => ?_) (fun h => ?_)⟩
      · have hai : 0 < ai := by have := of_decide_eq_true h; omega
        obtain ⟨us, eP, hU⟩ := hM.at'
        obtain ⟨p0, hp0, ep0⟩ := tup_at hU (show 0 < ms.length by omega)
        refine ⟨_, i1, p, us, _, _, rfl, rfl, sqL eP, atI_nat (j := 0) hp0, (by show 1 ≤ sizeLine; decide), fun l nl => ?_⟩
        have s1 : Same H (upd H l (.lst [.ref p0])) := Same.new nl
        refine q _ l _ s1 nl upd_same (by simp) fun u hu => ?_
        rw [List.mem_singleton.mp hu]
        refine badTup (hB.same s1) (s1 _ _ ep0) (nV_flat _) (by have := (M.tab (show 0 < ms.length by omega)).len; simp; omega) ?_
        rw [itemV_nVs]
        refine step_again (M.fnd.take ai) ?_
        have e0 : (ms.take ai)[0]? = some (FM.tab ms 0) := by
          rw [List.getElem?_take_of_lt hai]
          unfold FM.tab
          rw [List.getD_eq_getElem?_getD, List.getElem?_eq_getElem (by omega)]
          rfl
        exact List.mem_of_getElem? e0
      · exact ⟨Nat.zero_le _, fun l nl => q _ l _ (Same.new nl) nl upd_same (by simp) fun u hu => nomatch hu⟩))))
(pss_cons (ps_set (i := 8) scNone.nd rfl (Or.inr rfl) (pe_call G6 (hr.mono (by decide)) (by rfl) C6.m C6.kp C6.b .nil pass0 (pa_cons (pv 0) (pa_cons (pv 6) pa_nil))))
(pss_cons (ps_for PassesOwn.never rfl (pi_tup (pe_tup (pa_cons (pe_glob (by rfl) C1.m (v := (.ref f1)) rfl) (pa_cons (pe_glob (by rfl) C2.m (v := (.ref f2)) rfl) (pa_cons (pe_lam (T := [(PN, qNone)]) (mk := mk3) TB rfl (List.mem_singleton.mpr rfl) (fun _ hp _ => by rw [List.mem_singleton.mp hp]; rfl) rfl (closure_ok (scope := lam3.2.2) (fun y hy z => absurd (sc3.free y hy z) (by simp))) (fun _ => rfl)) pa_nil))))) (pg_name (i := 11) scNone.nd rfl (Or.inr rfl))
(pss_cons (ps_if (pt_cmpR (op_neD hu4) (pe_heard FH CHd B TH TB rfl rfl hr (LamX.lamS_by (sc := defScope sNone) (by decide +kernel)) rfl (by intros; rfl) (fun A outer s H E f c' hr => (pe_workK (K := K) (E := E) (sp := spWork K CH f1 f2 mk3 lam3.2.1) (i := 11) rfl (work_runs hr (passes_call (takes_of rfl rfl rfl rfl) fun _ _ _ _ h => h) G1 C1.b G2 C2.b G4 C4) rfl (.inr (.inr rfl)) (pa_cons (pe_op (r := rCat) op_cat (pe_callTy (T := "list") (r := rListOf K) call_listOf (by rfl) B.list (by decide +kernel) (pa_cons (pe_slice (r := rSlL K) sl_list (pv 1) po_none (po_some (pv 7))) pa_nil)) (pe_lst (pa_cons (pv 8) (pa_cons (pe_non) pa_nil)))) pa_nil))) (by rfl)) (pe_tup (pa_cons (pe_str) (pa_cons (pv 7) (pa_cons (pe_bl) pa_nil)))) (nomark _)) (pss_one (ps_ret (pe_bl))) pss_nil)
(pss_one (ps_for PassesOwn.never rfl (pi_tup (pe_tup (pa_cons (pe_non) (pa_cons (pe_int) (pa_cons (pe_str) (pa_cons (pe_lst pa_nil) (pa_cons (pe_tup pa_nil) (pa_cons (pe_op (r := rRep) op_rep (pe_lst (pa_cons (pe_tup (pa_cons (pe_int) (pa_cons (pe_int) pa_nil))) pa_nil)) (pe_int)) pa_nil)))))))) (pg_name (i := 10) scNone.nd rfl (Or.inr rfl))
(pss_one (ps_if (pt_cmpR (op_neD hu4) (pe_heard FH CHd B TH TB rfl rfl hr (LamX.lamS_by (sc := defScope sNone) (by decide +kernel)) rfl (by intros; rfl) (fun A outer s H E f c' hr => (pe_workK (K := K) (E := E) (sp := spWork K CH f1 f2 mk3 lam3.2.1) (i := 11) rfl (work_runs hr (passes_call (takes_of rfl rfl rfl rfl) fun _ _ _ _ h => h) G1 C1.b G2 C2.b G4 C4) rfl (.inr (.inr rfl)) (pa_cons (pv 10) pa_nil))) (by rfl)) (pe_tup (pa_cons (pe_str) (pa_cons (pe_op op_sub (pe_int) (pe_int)) (pa_cons (pe_bl) pa_nil)))) (nomark _)) (pss_one (ps_ret (pe_bl))) pss_nil))))))
(pss_cons (ps_if (PW.pt (pw_or (pt_cmpR (op_neD hu4) (pe_heard FH CHd B TH TB rfl rfl hr (LamX.lamS_by (sc := defScope sNone) (by decide +kernel)) rfl (by intros; rfl) (fun A outer s H E f c' hr => (pe_call G1 (hr.mono (by decide)) (by rfl) C1.m C1.kp C1.b .nil (passes_call (takes_of rfl rfl rfl rfl) fun _ _ _ _ h => h) (pa_cons (pe_lst (pa_cons (pe_op (r := rRepT K) op_repT (pe_tup (pa_cons (pe_int) pa_nil)) (pe_int)) pa_nil)) pa_nil))) (by rfl)) (pe_tup (pa_cons (pe_str) (pa_cons (pe_int) (pa_cons (pe_bl) pa_nil)))) (nomark _)) (pw_or1 (pt_cmpR (op_neD hu4) (pe_call G1 (hr.mono (by decide)) (by rfl) C1.m C1.kp C1.b .nil (passes_call (E := E0) takes0 fun _ _ _ _ h => h) (pa_cons (pe_lst (pa_cons (pe_op (r := rRep) op_rep (pe_lst (pa_cons (pe_int) pa_nil)) (pe_int)) pa_nil)) pa_nil)) (pe_tup (pa_cons (pe_op (r := rRepT K) op_repT (pe_tup (pa_cons (pe_int) pa_nil)) (pe_int)) pa_nil)) (nomark _))))) (pss_one (ps_ret (pe_bl))) pss_nil)
(pss_cons (ps_set (i := 9) scNone.nd rfl (Or.inr rfl) (pe_lc (own := [("_law_command", 12)]) (g := gName 12) (tt := tYes) rfl scNone.nd (pi_range1 (by rfl) B.range (pa_cons (pe_call G5 (hr.mono (by decide)) (by rfl) C5.m C5.kp C5.b .nil pass0 (pa_cons (pv 0) (pa_cons (pe_int) pa_nil))) pa_nil)) (blkOk_by (own := [("_law_command", 12)]) (N := ["_law_box_here", "_law_maps_here", "_law_states", "_law_idle", "_law_table", "_law_spot", "_law_odd", "_law_at", "_law_bad", "_law_head", "_law_value", "_law_work", "_law_command"]) (sc := defScope sNone) (by decide +kernel))
  (fun _ _ _ _ _ => (pg_name (i := 12) scNone.nd rfl (by first | exact Or.inl rfl | exact Or.inr rfl))) (fun _ _ _ _ _ => pts_nil)
  (fun _ _ _ _ _ => (pe_call G5 (hr.mono (by decide)) (by rfl) C5.m C5.kp C5.b .nil pass0 (pa_cons (pv 0) (pa_cons (pe_callB (r := rLenOf K) call_lenOf (by rfl) B.len PySem.boot_len (pa_cons (pv 1) pa_nil)) pa_nil))))))
(pss_cons (ps_if (pt_cmpR (op_neD hu4) (pe_heard FH CHd B TH TB rfl rfl hr (LamX.lamS_by (sc := defScope sNone) (by decide +kernel)) rfl (by intros; rfl) (fun A outer s H E f c' hr => (pe_call G4 (hr.mono (by decide)) (by rfl) C4.m C4.kp C4.b .nil (passes_call (takes_of rfl rfl rfl rfl) fun _ _ _ _ h => h) (pa_cons (pv 1) (pa_cons (pe_op (r := rCat) op_cat (pv 9) (pe_lst (pa_cons (pe_call G6 (hr.mono (by decide)) (by rfl) C6.m C6.kp C6.b .nil pass0 (pa_cons (pv 0) (pa_cons (pe_lst (pa_cons (pe_callB (r := rLenOf K) call_lenOf (by rfl) B.len PySem.boot_len (pa_cons (pv 1) pa_nil)) (pa_cons (pe_op op_sub (pe_int) (pe_int)) (pa_cons (pe_bl) (pa_cons (pe_non) pa_nil))))) pa_nil))) (pa_cons (pe_non) pa_nil)))) pa_nil)))) (by rfl)) (pe_tup (pa_cons (pe_str) (pa_cons (pe_callB (r := rLenOf K) call_lenOf (by rfl) B.len PySem.boot_len (pa_cons (pv 9) pa_nil)) (pa_cons (pe_bl) pa_nil)))) (nomark _)) (pss_one (ps_ret (pe_bl))) pss_nil)
(pss_one (ps_ret (pe_cmpR (op_eqD hu4) (pe_heard FH CHd B TH TB rfl rfl hr (LamX.lamS_by (sc := defScope sNone) (by decide +kernel)) rfl (by intros; rfl) (fun A outer s H E f c' hr => (pe_call G4 (hr.mono (by decide)) (by rfl) C4.m C4.kp C4.b .nil (passes_call (takes_of rfl rfl rfl rfl) fun _ _ _ _ h => h) (pa_cons (pv 1) (pa_cons (pe_call G6 (hr.mono (by decide)) (by rfl) C6.m C6.kp C6.b .nil pass0 (pa_cons (pv 0) (pa_cons (pe_lst (pa_cons (pe_non) (pa_cons (pe_int) (pa_cons (pe_str) pa_nil)))) pa_nil))) pa_nil)))) (by rfl)) (pe_tup (pa_cons (pe_str) (pa_cons (pe_op op_sub (pe_int) (pe_int)) (pa_cons (pe_bl) pa_nil)))) (nomark _)))))))))))))), ?_⟩
    have M := hMp.mach
    have m1 := M.m1
    have n2 := hMp.n2
    have n4 := hMp.n4
    have m6 := hMp.m6
    have ok := FM.chkW_ok M
    have N0 : Nz b [(PN, qNone)] H H := .refl hB hTb
    obtain ⟨us, eP, hU⟩ := hMp.at'
    have ul := pLen hU
    refine ⟨_, rfl, _, rfl, .ref p, ms.length, rfl, .inl ⟨us, sqL eP, ul.symm⟩, b, ms.length, rfl, hB, m1, by omega, fun ai H1 lat x1 => ?_⟩
    have N1 := N0.bx x1
    have eP1 := N1.lst pb eP
    have hU1 := N1.tups hB hU
    obtain ⟨p0, hp0, ep0⟩ := tup_at hU1 (show 0 < ms.length by omega)
    have l0 : ((FM.tab ms 0).map nV).length = n := by rw [List.length_map]; exact (M.tab (by omega)).len
    refine ⟨_, rfl, p, us, _, _, rfl, rfl, sqL eP1, atI_nat (j := 0) hp0, .ref p0, n, rfl, .inr ⟨_, sqT ep0, l0.symm⟩, (by show 2 ≤ sizeLine; decide), fun T nT => ⟨T, _, rfl, sqT upd_same, rfl, _, _, rfl, _, _, rfl, rfl, ?_⟩⟩
    refine ⟨_, rfl, _, rfl, rgOk (by omega), fun id nid => ?_⟩
    rw [rgV_nV]
    obtain ⟨H2, e2⟩ : ∃ H2, upd (upd H1 T (.tup [nV ai, .int (n : Nat)])) id (.tup ((List.range n).map nV)) = H2 := ⟨_, rfl⟩
    have s12 : Same H1 H2 := by rw [← e2]; exact (Same.new nT).trans (Same.new nid)
    have eid : H2 id = some (.tup ((List.range n).map nV)) := by rw [← e2, upd_same]
    have N2 := N1.then s12
    obtain ⟨pt, hpt, ept⟩ := tup_at (hU1.same s12) lat
    have tm := M.tab lat
    have e2' : upd (upd H1 T (.tup [nV ai, .int (n : Nat)])) id (.tup ((List.range n).map nV)) = H2 := e2
    refine ⟨_, rfl, _, rfl, p, us, _, _, rfl, rfl, sqL (by show (upd (upd H1 T (.tup [nV ai, .int (n : Nat)])) id (.tup ((List.range n).map nV))) p = _; rw [e2]; exact s12 _ _ eP1), atI_nat hpt, _, _, rfl, ?_⟩
    have e2'' : upd (upd H1 T (.tup [nV ai, .int ((n : Nat) : Int)])) id (.tup ((List.range n).map nV)) = H2 := e2
    rw [show (upd (upd H1 T (HO.tup [nV ai, V.int ↑n])) id (HO.tup (List.map nV (List.range n)))) = H2 from e2]
    refine ⟨_, rfl, _, rfl, b, n, rfl, N2.box, by omega, by omega, fun sp H3 lsp x3 => ?_⟩
    have N3 := N2.bx x3
    have eid3 := x3.tup N2.box eid
    have ept3 := x3.tup N2.box ept
    refine ⟨b, pt, FM.tab ms ai, n, sp, rfl, rfl, rfl, rfl, N3.box, ⟨pt, rfl, ept3⟩, tm, lsp, n4, fun H4 po u x4 fu hu' h4 => ?_⟩
    refine ⟨_, rfl, rfl, n, rfl, n2, n4, fun zs => ⟨_, rfl, (by show 5 ≤ sizeLine; decide), fun l nl => ?_⟩⟩
    have N4 := N3.bx x4
    obtain ⟨H5, e5⟩ : ∃ H5, upd H4 l (.lst [.ref po, .non, .int 0, .str zs, .ref id]) = H5 := ⟨_, rfl⟩
    rw [e5]
    have s45 : Same H4 H5 := by rw [← e5]; exact Same.new nl
    have el5 : H5 l = some (.lst [.ref po, .non, .int 0, .str zs, .ref id]) := by rw [← e5, upd_same]
    have N5 := N4.then s45
    have hF : ms.take ai = [] ∨ FM.Fnd n (ms.take ai) := .inr (M.fnd.take ai)
    have bad5 : ∀ v ∈ ([.ref po, .non, .int 0, .str zs, .ref id] : List V), BadV K b H5 (ms.take ai) v := fun v hv => by
      simp only [List.mem_cons, List.not_mem_nil, or_false] at hv
      rcases hv with rfl | rfl | rfl | rfl | rfl
      · refine badTup N5.box (s45 _ _ h4) (fun y hy => ?_) (by simp; have := tm.len; omega) (step_nums hF (by simp; have := tm.len; omega) (nums_odd _ _ _ hu'))
        rcases List.mem_append.mp hy with h | h
        · exact nV_flat _ _ h
        · rcases List.mem_cons.mp h with rfl | h
          · exact fu
          · exact nV_flat _ _ h
      · exact badFlat rfl
      · exact badFlat rfl
      · exact badFlat rfl
      · exact badTup N5.box (s45 _ _ (x4.tup N3.box eid3)) (nV_flat _) (by simp; omega) (by rw [itemV_nVs]; exact step_idle hF)
    have MM5 := N5.maps hB pb hMp
    have ept5 := s45 _ _ (x4.tup N3.box ept3)
    refine ⟨_, rfl, b, p, n, ms, pt, ai, rfl, rfl, rfl, N5.box, MM5, lat, ⟨pt, rfl, ept5⟩, fun H6 l2 us2 s6 nl2 h6 len2 bad6 => ?_⟩
    refine ⟨l, l2, _, _, rfl, rfl, s6 _ _ el5, h6, by simp only [List.length_cons, List.length_nil]; exact Nat.le_of_lt (small100 (by omega)), fun l3 nl3 => ?_⟩
    have s63 : Same H6 (upd H6 l3 (.lst ([.ref po, .non, .int 0, .str zs, .ref id] ++ us2))) := Same.new nl3
    have N6 := N5.then s6
    have N63 := N6.then s63
    refine ⟨b, p, n, ms, pt, ai, rfl, rfl, rfl, N63.box, (MM5.same s6).same s63, lat, ⟨pt, rfl, s63 _ _ (s6 _ _ ept5)⟩, fun H7 l4 us4 s7 nl4 h7 len4 bad7 => ?_⟩
    refine ⟨l3, l4, _, _, rfl, rfl, s7 _ _ upd_same, h7, by simp only [List.length_append, List.length_cons, List.length_nil]; exact Nat.le_of_lt (small100 (by omega)), fun l5 nl5 => ?_⟩
    obtain ⟨H8, e8⟩ : ∃ H8, upd H7 l5 (.lst (([.ref po, .non, .int 0, .str zs, .ref id] ++ us2) ++ us4)) = H8 := ⟨_, rfl⟩
    rw [e8]
    have s78 : Same H7 H8 := by rw [← e8]; exact Same.new nl5
    have el8 : H8 l5 = some (.lst (([.ref po, .non, .int 0, .str zs, .ref id] ++ us2) ++ us4)) := by rw [← e8, upd_same]
    have N8 := (N63.then s7).then s78
    have lb5 : l5 ≠ b := fun z => by
      obtain ⟨_, _, _, e⟩ := (N63.then s7).box
      rw [z, e] at nl5
      cases nl5
    have nz58 : Nz b [(PN, qNone)] H5 H8 := (((Nz.refl N5.box N5.tabs).then s6).then s63).then (s7.trans s78)
    have nz68 : Nz b [(PN, qNone)] H6 H8 := ((Nz.refl N6.box N6.tabs).then s63).then (s7.trans s78)
    have nz78 : Nz b [(PN, qNone)] H7 H8 := (Nz.refl (N63.then s7).box (N63.then s7).tabs).then s78
    have bad8 : ∀ v ∈ (([.ref po, .non, .int 0, .str zs, .ref id] ++ us2) ++ us4 : List V), BadV K b H8 (ms.take ai) v := fun v hv => by
      rcases List.mem_append.mp hv with h | h
      · rcases List.mem_append.mp h with h | h
        · exact nz58.badV (bad5 v h)
        · exact nz68.badV (bad6 v h)
      · exact nz78.badV (bad7 v h)
    refine ⟨_, rfl, _, rfl, b, false, l5, _, rfl, N8.box, el8, lb5, by simp only [List.length_append, List.length_cons]; omega, by simp only [List.length_append, List.length_cons, List.length_nil]; omega, fun z bv H9 hbv x9 => ?_⟩
    have N9 := N8.bx x9
    have bad9 : BadV K b H9 (ms.take ai) bv := ((Nz.refl N8.box N8.tabs).bx x9).badV (bad8 bv (List.mem_of_getElem? hbv))
    refine ⟨N9.tabs, fun fl c' H10 eN10 T10 hfl hc' => ⟨(by show 3 ≤ sizeLine; decide), fun wt nwt => ⟨wt, rfl, ⟨_, sqT upd_same⟩, ?_⟩⟩⟩
    obtain ⟨H11, e11⟩ : ∃ H11, upd H10 wt (.tup [.ref f1, .ref f2, .ref fl]) = H11 := ⟨_, rfl⟩
    rw [e11]
    have s1011 : Same H10 H11 := by rw [← e11]; exact Same.new nwt
    have ewt : H11 wt = some (.tup [.ref f1, .ref f2, .ref fl]) := by rw [← e11, upd_same]
    have N11 := (N9.ext eN10 T10).then s1011
    have nz911 : Nz b [(PN, qNone)] H9 H11 := ((Nz.refl N9.box N9.tabs).ext eN10 T10).then s1011
    have bad11 := nz911.badV bad9
    have works : ∀ v ∈ ([.ref f1, .ref f2, .ref fl] : List V), ∃ q0, v = .ref q0 ∧ WorkAt K f1 f2 H11 q0 := fun v hv => by
      simp only [List.mem_cons, List.not_mem_nil, or_false] at hv
      rcases hv with rfl | rfl | rfl
      · exact ⟨_, rfl, .inl rfl⟩
      · exact ⟨_, rfl, .inr (.inl rfl)⟩
      · exact ⟨_, rfl, .inr (.inr ⟨c', s1011 _ _ hfl, s1011 _ _ hc'⟩)⟩
    refine for_tup (xs := [.ref f1, .ref f2, .ref fl]) (fun i σ H' => ∃ y10 y11, σ = [some (.ref b), some (.ref p), some (nV n), some (.ref id), some (.ref pt), some (nV sp), some (.ref l5), some (nV ai), some bv, none, y10, y11, none] ∧ Nz b [(PN, qNone)] H11 H') ⟨_, _, rfl, .refl N11.box N11.tabs⟩ (fun i σ H' _ ⟨_, _, _, x⟩ => sqT (x.tup N11.box ewt)) ?_ ?_
    · intro i x σ H12 hx hP
      obtain ⟨y10, y11, rfl, x12⟩ := hP
      obtain ⟨q0, rfl, wk⟩ := works x (List.mem_of_getElem? hx)
      have N12 := N11.trans x12
      have MM12 := N12.maps hB pb hMp
      have wk12 := wk.nz x12 N11.box
      have bad12 := x12.badV bad11
      refine ⟨N12.tabs, fun H13 eN13 T13 => ?_⟩
      have x13 : Nz b [(PN, qNone)] H12 H13 := (Nz.refl N12.box N12.tabs).ext eN13 T13
      have N13 := N12.trans x13
      have wk13 := wk12.nz x13 N12.box
      obtain ⟨w, shw, _, stw⟩ := x13.badV bad12
      obtain ⟨us13, eP13, hU13⟩ := (MM12 |> fun m => x13.maps N12.box pb m).at'
      refine ⟨q0, rfl, wk13.fnV F1 F2, ?_⟩
      refine ⟨_, rfl, _, rfl, _, rfl, p, us13, rfl, sqL eP13, fun c nc => ⟨c, _, rfl, .inl (sqL upd_same), fun l nl => ⟨_, rfl, (by show 2 ≤ sizeLine; decide), fun l2 nl2 => ⟨l, l2, _, _, rfl, rfl, Same.new nl2 _ _ upd_same, upd_same, ?_, fun L nL => ?_⟩⟩⟩⟩
      · rw [cut_to]
        simp only [List.length_take, List.length_cons, List.length_nil]
        exact Nat.le_of_lt (small100 (by omega))
      have s14 : Same H13 _ := (((Same.new (o := .lst (cutV us13 none (some ((ai : Nat) : Int)))) nc).trans (Same.new (o := .lst (cutV us13 none (some ((ai : Nat) : Int)))) nl)).trans (Same.new (o := .lst [bv, .non]) nl2)).trans (Same.new (o := .lst (cutV us13 none (some ((ai : Nat) : Int)) ++ [bv, .non])) nL)
      have tl : (ms.take ai).length = ai := by rw [List.length_take]; omega
      refine ⟨(wk13.same s14).fnV F1 F2, .ref L, some (FM.shM (ms.take ai) ++ w :: [.other]), ((ms.take ai).length : Nat), rfl, .seq (b := false) (sqL upd_same) ?_, FM.chkW_bad (M.fnd.take ai) stw (by rw [tl]; simp; omega), fun H15 d s15 xd => .inl ⟨rfl, d, _, rfl, xd, fun r nr => ?_⟩, wk13.same s14⟩
      · rw [cut_to] at s14 ⊢
        refine pApp (sh_all (fun _ _ h hl => h.sh hl) (pTake ai (hU13.same s14)) fun m hm => mach_len M m (List.mem_of_mem_take hm)) (.cons (shw.same s14) (.cons (.flat rfl) .nil))
      refine ⟨_, rfl, (by show 3 ≤ sizeLine; decide), fun t nt => ⟨_, _, hD_dp (x := "house") (Same.new nt _ _ upd_same), hD_dp (x := "house") upd_same, hD_sh (by decide +kernel) _, hD_sh (by decide +kernel) _, _, rfl, iteN (by rw [hD_eqv (by decide +kernel) (show (((ms.take ai).length : Nat) : Int) = ((ai : Nat) : Int) by rw [tl])]; simp) ?_⟩⟩
      obtain ⟨H16, e16⟩ : ∃ H16, upd (upd H15 r (.tup [.str "house", .int ((ms.take ai).length : Nat), .bl true])) t (.tup [.str "house", nV ai, .bl true]) = H16 := ⟨_, rfl⟩
      have s16 : Same H15 H16 := by rw [← e16]; exact (Same.new nr).trans (Same.new nt)
      rw [e16]
      have N16 := (N13.then (s14.trans s15)).then s16
      have x1116 : Nz b [(PN, qNone)] H11 H16 := (x12.trans x13).then ((s14.trans s15).trans s16)
      refine ⟨Nat.zero_le _, fun l1 nl1 => ⟨Nat.zero_le _, fun t1 nt1 => ⟨(by show 2 ≤ sizeLine; decide), fun t2 nt2 => ⟨(by show 1 ≤ sizeLine; decide), fun l3 nl3 => ⟨l3, 13, _, rfl, rfl, upd_same, by decide, by decide, (by show 1 * 13 ≤ sizeLine; decide), fun l13 nl13 => ⟨(by show 6 ≤ sizeLine; decide), fun vt nvt => ⟨vt, rfl, ⟨_, sqT upd_same⟩, ?_⟩⟩⟩⟩⟩⟩⟩
      have sb := Same.new (o := .lst []) nl1
      have sc := Same.new (o := .tup []) nt1
      have sd := Same.new (o := .tup [.int 0, .int 0]) nt2
      have se := Same.new (o := .lst [.ref t2]) nl3
      have sf := Same.new (o := .lst (List.replicate (13 : Int).toNat [V.ref t2]).flatten) nl13
      have sg := Same.new (o := .tup [.non, .int 0, .str "00", .ref l1, .ref t1, .ref l13]) nvt
      have b1 := box_ne N16.box nl1
      have N17 := ((N16.then sb).then sc).then (sd.trans se)
      have b13 := box_ne N17.box nl13
      have N18 := (N17.then sf).then sg
      have x1118 := (((x1116.then sb).then sc).then (sd.trans se)).then (sf.trans sg)
      have el1 := sg _ _ (sf _ _ (se _ _ (sd _ _ (sc _ _ (upd_same (a := l1))))))
      have et1 := sg _ _ (sf _ _ (se _ _ (sd _ _ (upd_same (a := t1)))))
      have et2 := sg _ _ (sf _ _ (se _ _ (upd_same (a := t2))))
      have el13 := sg _ _ (upd_same (a := l13))
      obtain ⟨H18, e18⟩ : ∃ H18, upd (upd (upd (upd (upd (upd H16 l1 (.lst [])) t1 (.tup [])) t2 (.tup [.int 0, .int 0])) l3 (.lst [.ref t2])) l13 (.lst (List.replicate (13 : Int).toNat [V.ref t2]).flatten)) vt (.tup [.non, .int 0, .str "00", .ref l1, .ref t1, .ref l13]) = H18 := ⟨_, rfl⟩
      have evt : (upd (upd (upd (upd (upd (upd H16 l1 (.lst [])) t1 (.tup [])) t2 (.tup [.int 0, .int 0])) l3 (.lst [.ref t2])) l13 (.lst (List.replicate (13 : Int).toNat [V.ref t2]).flatten)) vt (.tup [.non, .int 0, .str "00", .ref l1, .ref t1, .ref l13])) vt = some (.tup [.non, .int 0, .str "00", .ref l1, .ref t1, .ref l13]) := upd_same
      rw [e18] at el1 et1 et2 el13 evt N18 x1118 ⊢
      have wk18 := wk.nz x1118 N11.box
      have good : ∀ x ∈ ([.non, .int 0, .str "00", .ref l1, .ref t1, .ref l13] : List V), ∀ H', Nz b [(PN, qNone)] H18 H' → ∃ ws, MShAt K H' x ws ∧ FM.chkW ws = .error (-1) := fun x hx H' x' => by
        simp only [List.mem_cons, List.not_mem_nil, or_false] at hx
        rcases hx with rfl | rfl | rfl | rfl | rfl | rfl
        · exact ⟨none, .flat rfl, rfl⟩
        · exact ⟨none, .flat rfl, rfl⟩
        · exact ⟨none, .flat rfl, rfl⟩
        · exact ⟨some [], .seq (b := false) (sqL (x'.lst b1 el1)) .nil, chkW_len (by simp)⟩
        · exact ⟨some [], .seq (b := true) (sqT (x'.tup N18.box et1)) .nil, chkW_len (by simp)⟩
        · exact ⟨some (List.replicate 13 (.seq ([V.int 0, .int 0].map itemV))), .seq (b := false) (sqL (x'.lst b13 el13)) (pRep (x := V.ref t2) (.seq (b := true) (show Tq true H' t2 [V.int 0, .int 0] from x'.tup N18.box et2) (fun u hu => by simp only [List.mem_cons, List.not_mem_nil, or_false] at hu; rcases hu with rfl | rfl <;> rfl) (by simp)) 13), chkW_len (by simp)⟩
      refine for_tup (xs := [.non, .int 0, .str "00", .ref l1, .ref t1, .ref l13]) (fun j σ H' => ∃ y10, σ = [some (.ref b), some (.ref p), some (nV n), some (.ref id), some (.ref pt), some (nV sp), some (.ref l5), some (nV ai), some bv, none, y10, some (.ref q0), none] ∧ Nz b [(PN, qNone)] H18 H') ⟨_, rfl, .refl N18.box N18.tabs⟩ (fun i σ H' _ ⟨_, _, x⟩ => sqT (x.tup N18.box evt)) ?_ ?_
      · intro j x σ H20 hx hP
        obtain ⟨y10, rfl, x20⟩ := hP
        have N20 := N18.trans x20
        refine ⟨N20.tabs, fun H21 eN21 T21 => ?_⟩
        have x21 : Nz b [(PN, qNone)] H20 H21 := (Nz.refl N20.box N20.tabs).ext eN21 T21
        have x1821 := x20.trans x21
        have wk21 := wk18.nz x1821 N18.box
        obtain ⟨ws, hws, he⟩ := good x (List.mem_of_getElem? hx) H21 x1821
        refine ⟨q0, rfl, wk21.fnV F1 F2, _, rfl, wk21.fnV F1 F2, x, ws, -1, rfl, hws, he, fun H22 d s22 xd => .inl ⟨rfl, d, _, rfl, xd, fun r nr => ?_⟩, wk21⟩
        refine ⟨_, _, rfl, rfl, (by show 3 ≤ sizeLine; decide), fun t nt => ⟨_, _, hD_dp (x := "house") (Same.new nt _ _ upd_same), hD_dp (x := "house") upd_same, hD_sh (by decide +kernel) _, hD_sh (by decide +kernel) _, _, rfl, iteN (by rw [hD_eqv (by decide +kernel) (show (-1 : Int) = 0 - 1 from rfl)]; simp) ?_⟩⟩
        exact ⟨_, rfl, x1821.then (s22.trans ((Same.new (o := .tup [.str "house", .int (-1), .bl true]) nr).trans (Same.new (o := .tup [.str "house", .int (0 - 1), .bl true]) nt)))⟩
      · intro σ H20 hP
        obtain ⟨y10, rfl, x20⟩ := hP
        exact ⟨_, _, rfl, x1118.trans x20⟩
    · intro σ H12 hP
      obtain ⟨y10, y11, rfl, x12⟩ := hP
      have N12 := N11.trans x12
      refine ⟨N12.tabs, fun H13 eN13 T13 => ?_⟩
      have x13 : Nz b [(PN, qNone)] H12 H13 := (Nz.refl N12.box N12.tabs).ext eN13 T13
      have N13 := N12.trans x13
      refine ⟨(by show 1 ≤ sizeLine; decide), fun T nT => ⟨T, 61, [.int 0], rfl, rfl, sqT upd_same, by simp, by decide, by decide, by decide, fun z nz => ⟨(by show 1 ≤ sizeLine; decide), fun L nL => ?_⟩⟩⟩
      have s14 := ((Same.new (o := .tup [.int 0]) nT).trans (Same.new (o := .tup (List.replicate (61 : Int).toNat [V.int 0]).flatten) nz)).trans (Same.new (o := .lst [.ref z]) nL)
      have ez := Same.new (o := .lst [.ref z]) nL _ _ (upd_same (a := z) (o := .tup (List.replicate (61 : Int).toNat [V.int 0]).flatten))
      have he : FM.chkW (some (FM.shM [] ++ FM.Sh.seq (((List.replicate 61 0).map nV).map itemV) :: [])) = .error ((([] : List (List Nat)).length : Nat) : Int) := FM.chkW_bad (n := 1) (ms := []) ⟨by simp, by simp, by simp, by decide, by decide⟩ (step_long (by simp)) (by simp)
      refine ⟨.ref L, some [.seq (((List.replicate 61 0).map nV).map itemV)], rfl, .seq (b := false) (sqL upd_same) (.cons (.seq (b := true) (show Tq true _ z ((List.replicate 61 0).map nV) by rw [← rep0]; exact ez) (nV_flat _) (by simp)) .nil), (fun ms' hm => by rw [show FM.chkW (some [FM.Sh.seq (((List.replicate 61 0).map nV).map itemV)]) = .error _ from he] at hm; cases hm), fun i hi H15 d s15 xd => .inl ⟨rfl, d, _, rfl, xd, fun r nr => ?_⟩⟩
      have ei : i = 0 := by
        rw [show FM.chkW (some [FM.Sh.seq (((List.replicate 61 0).map nV).map itemV)]) = .error _ from he] at hi
        injection hi with hi
        exact hi.symm
      refine ⟨(by show 3 ≤ sizeLine; decide), fun t nt => ⟨_, _, hD_dp (x := "house") (Same.new nt _ _ upd_same), hD_dp (x := "house") upd_same, hD_sh (by decide +kernel) _, hD_sh (by decide +kernel) _, _, rfl, iteN (by rw [hD_eqv (by decide +kernel) ei]; simp) ?_⟩⟩
      obtain ⟨H17, e17⟩ : ∃ H17, upd (upd H15 r (.tup [.str "house", .int i, .bl true])) t (.tup [.str "house", .int 0, .bl true]) = H17 := ⟨_, rfl⟩
      have s16 : Same H15 H17 := by rw [← e17]; exact (Same.new nr).trans (Same.new nt)
      rw [e17]
      have N16 := (N13.then (s14.trans s15)).then s16
      refine ⟨(by show 1 ≤ sizeLine; decide), fun l nl => ⟨l, 60, [.int 0], rfl, rfl, upd_same, by decide, by decide, (by show 1 * 60 ≤ sizeLine; decide), fun z6 nz6 => ⟨(by show 1 ≤ sizeLine; decide), fun L6 nL6 => ?_⟩⟩⟩
      have s17 := ((Same.new (o := .lst [.int 0]) nl).trans (Same.new (o := .lst (List.replicate (60 : Int).toNat [V.int 0]).flatten) nz6)).trans (Same.new (o := .lst [.ref z6]) nL6)
      have ez6 := Same.new (o := .lst [.ref z6]) nL6 _ _ (upd_same (a := z6) (o := .lst (List.replicate (60 : Int).toNat [V.int 0]).flatten))
      have ok60 := FM.chkW_ok z60_mach
      have sh60 : ShAt K (upd (upd (upd H17 l (.lst [.int 0])) z6 (.lst (List.replicate (60 : Int).toNat [V.int 0]).flatten)) L6 (.lst [.ref z6])) (.ref z6) (.seq ((List.replicate 60 0).map some)) := by
        rw [← itemV_nVs]
        exact .seq (b := false) (show Tq false _ z6 ((List.replicate 60 0).map nV) by rw [← rep0]; exact ez6) (nV_flat _) (by simp)
      refine ⟨.ref L6, some (FM.shM [List.replicate 60 0]), rfl, .seq (b := false) (sqL upd_same) (.cons sh60 .nil), fun ms' hm H18 pT s18 hT => ?_, (fun i hi => by rw [ok60] at hi; cases hi)⟩
      rw [ok60] at hm
      cases hm
      obtain ⟨usT, eT, tT⟩ := hT
      refine ⟨(by show 1 ≤ sizeLine; decide), fun T2 nT2 => ⟨T2, 60, [.int 0], rfl, rfl, sqT upd_same, by simp, by decide, by decide, by decide, fun y ny => ⟨(by show 1 ≤ sizeLine; decide), fun t2 nt2 => ?_⟩⟩⟩
      have s19 := ((Same.new (o := .tup [.int 0]) nT2).trans (Same.new (o := .tup (List.replicate (60 : Int).toNat [V.int 0]).flatten) ny)).trans (Same.new (o := .tup [.ref y]) nt2)
      have ey := Same.new (o := .tup [.ref y]) nt2 _ _ (upd_same (a := y) (o := .tup (List.replicate (60 : Int).toNat [V.int 0]).flatten))
      have ty : TupAt (upd (upd (upd H18 T2 (.tup [.int 0])) y (.tup (List.replicate (60 : Int).toNat [V.int 0]).flatten)) t2 (.tup [.ref y])) (.ref y) (List.replicate 60 0) := ⟨y, rfl, by rw [← rep0]; exact ey⟩
      have sh2 : SeqAt.shaped (.tuple ([List.replicate 60 0].map tabD)) = true := fit60.shaped (by decide)
      refine ⟨.tuple ([List.replicate 60 0].map tabD), .tuple ([List.replicate 60 0].map tabD), .tup (sqT (s19 _ _ eT)) (dp_tups (tT.same s19)), .tup (sqT upd_same) (.cons ty.dp .nil), sh2, sh2, _, rfl, iteN (by rw [SeqAt.eqv_refl _ fit60.lay]; simp) ?_⟩
      have N19 := (N16.then (s17.trans s18)).then s19
      refine ⟨_, rfl, b, 4, rfl, N19.box, by decide, by decide, fun hz H20 lhz x20 => ⟨_, rfl, by omega, by omega, fun D nD => lc_range (lo := 0) (n := ((hz : Nat) : Int).toNat) (fun j H' => Bx b H20 H' ∧ ∃ q : List Nat, q.length = j ∧ (∀ c ∈ q, c < ms.length) ∧ H' D = some (.lst (q.map nV))) ⟨Bx.of x20.box (Same.new nD), [], rfl, (fun c h => nomatch h), upd_same⟩ ?_ ?_⟩⟩
      · intro j H21 hj ⟨x21, q, ql, qb, eD⟩
        have Db := box_ne x20.box nD
        obtain ⟨us21, eP21, hU21⟩ := (((N19.bx x20).bx x21).maps hB pb hMp).at'
        have ul21 := pLen hU21
        refine ⟨rfl, ⟨_, rfl, _, rfl, .ref p, ms.length, rfl, .inl ⟨us21, sqL eP21, ul21.symm⟩, b, ms.length, rfl, x21.box, m1, by omega, fun z H22 lz x22 => ⟨_, x22.same _ _ eD Db, ?_, (x21.trans x22).set nD Db, q ++ [z], by simp [ql], fun c hc => ?_, ?_⟩⟩⟩
        · rw [List.length_map, ql]
          exact small100 (by omega)
        · rcases List.mem_append.mp hc with h | h
          · exact qb c h
          · rw [List.mem_singleton.mp h]; exact lz
        · rw [upd_same, List.map_append]
          rfl
      intro H21 ⟨x21, q, ql, qb, eD⟩
      have Db := box_ne x20.box nD
      have N21 := (N19.bx x20).bx x21
      refine ⟨N21.tabs, fun H22 eN22 T22 => ?_⟩
      have x22 : Nz b [(PN, qNone)] H21 H22 := (Nz.refl N21.box N21.tabs).ext eN22 T22
      have N22 := N21.trans x22
      have eD22 := x22.lst Db eD
      have MM22 := N22.maps hB pb hMp
      obtain ⟨us22, eP22, hU22⟩ := MM22.at'
      refine ⟨_, rfl, _, rfl, _, rfl, _, rfl, .ref p, ms.length, rfl, .inl ⟨us22, sqL eP22, (pLen hU22).symm⟩, _, _, rfl, rfl, (by show 4 ≤ sizeLine; decide), fun l9 nl9 => ?_⟩
      have b9 := box_ne N22.box nl9
      have s9 : Same H22 (upd H22 l9 (.lst [nV ms.length, .int (0 - 1), .bl true, .non])) := Same.new nl9
      have N9' := N22.then s9
      refine ⟨b, false, l9, [nV ms.length, .int (0 - 1), .bl true, .non], rfl, N9'.box, (show Tq false _ _ _ from upd_same), b9, by simp, by simp, fun z u H23 hu x23 => ⟨(by show 2 ≤ sizeLine; decide), fun l10 nl10 => ?_⟩⟩
      have hu2 : flat4 u = true ∧ isBelV u ((ms.length : Nat) : Int) = false := by
        rcases z with _ | _ | _ | _ | z
        · cases hu
          exact ⟨rfl, by show (decide (0 ≤ ((ms.length : Nat) : Int)) && decide (((ms.length : Nat) : Int) < ((ms.length : Nat) : Int))) = false; rw [decide_eq_false (Int.lt_irrefl _), Bool.and_false]⟩
        · cases hu
          exact ⟨rfl, rfl⟩
        · cases hu
          exact ⟨rfl, rfl⟩
        · cases hu
          exact ⟨rfl, rfl⟩
        · cases hu
      have eD23 := x23.same _ _ (s9 _ _ eD22) Db
      have s10 : Same H23 (upd H23 l10 (.lst [u, .non])) := Same.new nl10
      refine ⟨D, l10, _, _, rfl, rfl, s10 _ _ eD23, upd_same, ?_, fun L11 nL11 => ?_⟩
      · simp only [List.length_map, List.length_cons, List.length_nil]
        exact Nat.le_of_lt (small100 (by omega))
      have s11 := s10.trans (Same.new (o := .lst (q.map nV ++ [u, .non])) nL11)
      have N23 := N9'.bx x23
      have MM11 := (N23.then s11).maps hB pb hMp
      obtain ⟨usE, eE, tE⟩ := MM11.at'
      refine ⟨.ref p, .ref L11, some (FM.shM ms), rfl, msh_tups (b := false) (sqL eE) tE M, .lst (sqL upd_same), (fun i hi => by rw [ok] at hi; cases hi), fun ms' hm => ?_⟩
      rw [ok] at hm
      cases hm
      refine ⟨.error ((q.length : Nat) : Int), .bad (b := false) (sqL upd_same) hu2.1 (by simp; omega) qb hu2.2, (fun n' q' e => nomatch e), fun i hi H24 d s24 xd => .inr ⟨rfl, d, _, rfl, xd, fun r nr => ?_⟩⟩
      cases hi
      have N24 := (N23.then s11).then s24
      have sr := Same.new (o := .tup [.str "queue", .int ((q.length : Nat) : Int), .bl true]) nr
      have eD24 := sr _ _ (s24 _ _ (s11 _ _ eD23))
      refine ⟨_, rfl, .ref D, q.length, rfl, .inl ⟨_, sqL eD24, by rw [List.length_map]⟩, (by show 3 ≤ sizeLine; decide), fun t nt => ⟨_, _, hD_dp (x := "queue") (Same.new nt _ _ upd_same), hD_dp (x := "queue") upd_same, hD_sh (by decide +kernel) _, hD_sh (by decide +kernel) _, _, rfl, iteN (by rw [hD_eqv (by decide +kernel) rfl]; simp) ?_⟩⟩
      have N25 := N24.then (sr.trans (Same.new (o := .tup [.str "queue", .int ((q.length : Nat) : Int), .bl true]) nt))
      refine ⟨N25.tabs, fun H26 eN26 T26 => ?_⟩
      have N26 := N25.ext eN26 T26
      refine ⟨_, rfl, _, rfl, (by show 3 ≤ sizeLine; decide), fun l12 nl12 => ?_⟩
      have b12 := box_ne N26.box nl12
      have N27 := N26.then (Same.new (o := .lst [.non, .int 0, .str "0"]) nl12)
      refine ⟨b, false, l12, [.non, .int 0, .str "0"], rfl, N27.box, (show Tq false _ _ _ from upd_same), b12, by simp, by simp, fun z u H28 hu x28 => ?_⟩
      have fu' : flat4 u = true := by
        rcases z with _ | _ | _ | z
        · cases hu; rfl
        · cases hu; rfl
        · cases hu; rfl
        · cases hu
      have N28 := N27.bx x28
      obtain ⟨usF, eF, tF⟩ := (N28.maps hB pb hMp).at'
      refine ⟨.ref p, u, some (FM.shM ms), rfl, msh_tups (b := false) (sqL eF) tF M, Kd.flat fu', (fun i hi => by rw [ok] at hi; cases hi), fun ms' hm => ?_⟩
      rw [ok] at hm
      cases hm
      refine ⟨.error (-1), .flat fu', (fun n' q' e => nomatch e), fun i hi H29 d s29 xd => .inr ⟨rfl, d, _, rfl, xd, fun r nr => ?_⟩⟩
      cases hi
      refine ⟨_, _, rfl, rfl, (by show 3 ≤ sizeLine; decide), fun t nt => ⟨_, _, hD_dp (x := "queue") (Same.new nt _ _ upd_same), hD_dp (x := "queue") upd_same, hD_sh (by decide +kernel) _, hD_sh (by decide +kernel) _, ?_⟩⟩
      rw [hD_eqv (by decide +kernel) (show (-1 : Int) = 0 - 1 from rfl)]
      exact k _ ((N28.then s29).then ((Same.new (o := .tup [.str "queue", .int (-1), .bl true]) nr).trans (Same.new (o := .tup [.str "queue", .int (0 - 1), .bl true]) nt)))
end
end K2
end
section
set_option maxHeartbeats 8000000
/-! The law. -/
namespace K2
open PySem PySem.Spec PyProof.Rows L2
/-- v is a list of the numbers m, new to H0, at another address than D -/
def LstF (H0 : Hp) (D : Addr) (H : Hp) (v : V) (m : List Nat) : Prop := ∃ t, v = .ref t ∧ t ≠ D ∧ H0 t = none ∧ H t = some (.lst (m.map nV))
theorem LstF.sh {K : PySem.W.Frag} {H0 : Hp} {D : Addr} {H : Hp} {v : V} {m : List Nat} (h : LstF H0 D H v m) (hl : m.length ≤ 1000) : ShAt K H v (.seq (m.map some)) := by
  obtain ⟨t, rfl, _, _, e⟩ := h
  rw [← itemV_nVs]
  exact .seq (b := false) (show Tq false H t _ from e) (fun u hu => by obtain ⟨x, _, rfl⟩ := List.mem_map.mp hu; rfl) (by rw [List.length_map]; exact hl)
/-- handed = [list(table) for table in maps] -/
def tHanded : TS := fun D σ H => ∃ p us ms, 9 < σ.length ∧ σ[3]? = some (some (.ref p)) ∧ H p = some (.lst us) ∧ TupsAt H us ms ∧ ms.length ≤ 12 ∧ ∀ H' L ls, Same H H' → H L = none → H' L = some (.lst ls) → Paired (LstF H L H') ls ms → D.nx (σ.set 5 (some (.ref L))) H'
/-- merger = machine_merger(..) one way or the other -/
def tMerger (MC : Addr) : TE := fun σ H Q => ∃ b p L ls n ms, σ[2]? = some (some (.ref b)) ∧ σ[3]? = some (some (.ref p)) ∧ σ[5]? = some (some (.ref L)) ∧ BoxAt H b ∧ p ≠ b ∧ L ≠ b ∧ MapsAt H p n ms ∧ H L = some (.lst ls) ∧ Paired (fun v m => ∃ t, v = .ref t ∧ t ≠ b ∧ H t = some (.lst (List.map nV m))) ls ms ∧
  ∀ H' m, Bx b H H' → MergerAt MC H' m (FM.rowsOf n ms) → Q (.ref m) H'
/-- [list(row) for row in merger.rows] -/
def tRowLists (MC : Addr) : TE := fun σ H Q => ∃ m rows, 10 < σ.length ∧ σ[6]? = some (some (.ref m)) ∧ MergerAt MC H m rows ∧ rows.length ≤ 12 ∧ ∀ H' D, Same H H' → RowsL H' D rows → Q (.ref D) H'
def rowsD (rows : List (List (Option Int))) : PyData := .list (rows.map fun r => .list (r.map oD))
theorem fit_rows {rows : List (List (Option Int))} (R : RowsOk rows) : ∃ k, k ≤ 16000000 ∧ Fit 2 k (rowsD rows) := by
  have l12 := R.l12
  refine ⟨3 + 12 * ((3 + 12 * (1921 + 2)) + 2), by decide, ?_⟩
  refine Fit.list (n := 1) (k := 3 + 12 * (1921 + 2)) (m := 12) (fun d hd => ?_) (by rw [List.length_map]; exact l12)
  obtain ⟨r, hr, rfl⟩ := List.mem_map.mp hd
  refine Fit.list (n := 0) (k := 1921) (m := 12) (fun d hd => ?_) (by rw [List.length_map, R.sq r hr]; exact l12)
  obtain ⟨o, ho, rfl⟩ := List.mem_map.mp hd
  exact fit_oD fun i hi => by subst hi; have := R.en r hr i ho; omega
theorem fit_mach {n : Nat} {ms : List (List Nat)} (M : FM.Mach n ms) : Fit 2 (3 + 12 * (115383 + 2)) (.tuple (ms.map tabD)) := Fit.tuple (fit_tabs M.tabs M.n60) (by rw [List.length_map]; exact M.m12)
/-- the script stays, where the box is new -/
theorem script_stays {K : PySem.W.Frag} {b a : Addr} {T : List (Addr × Str)} {H H1 H' : Hp} {xs : List V} (s : Same H H1) (nb : H b = none) (x : Nz b T H1 H') (h : SqL K H a xs) : SqL K H' a xs := by
  rcases h with (h | ⟨o, h⟩) | h
  · exact .inl (.inl (x.same _ _ (s _ _ h) (fun _ z => nomatch z) (fun z => by rw [z, nb] at h; cases h)))
  · exact .inl (.inr ⟨o, x.same _ _ (s _ _ h) (fun _ z => nomatch z) (fun z => by rw [z, nb] at h; cases h)⟩)
  · exact .inr h
def spLaw (K : PySem.W.Frag) (PN : Addr) : Sp := fun vs H Q _ => ∃ a, ∃ ns : List Int, vs = [.ref a] ∧ SqL K H a (ns.map V.int) ∧ ns.length ≤ 63 ∧ LamX.Tabs [(PN, qNone)] H ∧ ∀ H', Q (.bl true) H'
section
variable {P : Program} {w : World} {K : PySem.W.Frag} {mg : Str → Option Value} {base : Heap} {f CH CQ MC PN f1 f2 f3 f4 f5 f6 f7 f8 f9 : Addr} {fd d1 d2 d3 d4 d5 d6 d7 d8 d9 : FuncData}
abbrev nmLaw : List Str := ["_law_script", "_law_k", "_law_box_here", "_law_maps_here", "_law_rows", "_law_handed", "_law_merger", "_law_first", "_law_turn", "_law_table", "_law_row"]
theorem scLaw : FnScope nmLaw ["_law_script"] (defScope sLaw) := ⟨rfl, rfl, rfl, by decide +kernel, rfl, by decide +kernel, by decide +kernel⟩
theorem ok_law (F : Fn K "law" sLaw f fd) (B : Blt mg) (MM : MCls K MC) (IC : C8.InsC K MC) (mM : mg "Merger" = some (.ref MC))
    (G1 : FnOk P w K mg base (L2.CX P w) 5 f1 d1 ["value"] (spCheckMachine K CH)) (C1 : Cal K mg "check_machine" f1 d1 ["value"]) (F1 : Fn K "check_machine" sCheckMachine f1 d1)
    (G2 : FnOk P w K mg base (L2.CX P w) 6 f2 d2 ["tables"] (spMachineMerger K CH MC)) (C2 : Cal K mg "machine_merger" f2 d2 ["tables"]) (F2 : Fn K "machine_merger" sMachineMerger f2 d2)
    (G3 : FnOk P w K mg base CX0 1 f3 d3 ["_law_script", "_law_k"] (spBox K)) (C3 : Cal K mg "_law_box" f3 d3 ["_law_script", "_law_k"])
    (G4 : FnOk P w K mg base CX0 3 f4 d4 ["_law_box_here", "_law_most"] spMaps) (C4 : Cal K mg "_law_maps" f4 d4 ["_law_box_here", "_law_most"])
    (G5 : FnOk P w K mg base CX0 1 f5 d5 ["_law_box_here", "_law_many"] spTake) (C5 : Cal K mg "_law_take" f5 d5 ["_law_box_here", "_law_many"])
    (G6 : FnOk P w K mg base CX0 1 f6 d6 ["_law_maps_here"] spRowsOf) (C6 : Cal K mg "_law_rows_of" f6 d6 ["_law_maps_here"])
    (G7 : FnOk P w K mg base CX0 1 f7 d7 ["_law_rows"] spAgainst) (C7 : Cal K mg "_law_against" f7 d7 ["_law_rows"])
    (G8 : FnOkG P w K mg base CX0 7 f8 d8 ["_law_box_here", "_law_maps_here", "_law_merger"] (spPlayed MC)) (CP : Cal K mg "_law_played_right" f8 d8 ["_law_box_here", "_law_maps_here", "_law_merger"])
    (G9 : FnOk P w K mg base CX0 10 f9 d9 ["_law_box_here", "_law_maps_here"] (spNone PN)) (C9 : Cal K mg "_law_none_right" f9 d9 ["_law_box_here", "_law_maps_here"]) :
    FnOkG P w K mg base CX0 11 f fd ["_law_script"] (spLaw K PN) := by
  refine okG F scLaw (fun vs H Q E h => ?_) (fun cdv A outer s H vs Q E hr quiet h => ?_)
  · obtain ⟨a, ns, rfl, _⟩ := h
    rfl
  · obtain ⟨a, ns, rfl, hS, hl, hTb, k⟩ := h
    have hu := room65 hr
    have hu4 := room64 hr
    refine ⟨_, PSs.nox (pss_cons (ps_for PassesOwn.never rfl (pi_range1 (by rfl) B.range (pa_cons (pe_int) pa_nil)) (pg_name (i := 1) scLaw.nd rfl (Or.inl rfl))
(pss_cons (ps_set (i := 2) scLaw.nd rfl (Or.inl rfl) (pe_call G3 (hr.mono (by decide)) (by rfl) C3.m C3.kp C3.b .nil pass0 (pa_cons (pv 0) (pa_cons (pv 1) pa_nil))))
(pss_cons (ps_set (i := 3) scLaw.nd rfl (Or.inl rfl) (pe_call G4 (hr.mono (by decide)) (by rfl) C4.m C4.kp C4.b .nil pass0 (pa_cons (pv 2) (pa_cons (pe_op op_add (pe_int) (pe_call G5 (hr.mono (by decide)) (by rfl) C5.m C5.kp C5.b .nil pass0 (pa_cons (pv 2) (pa_cons (pe_int) pa_nil)))) pa_nil))))
(pss_cons (ps_set (i := 4) scLaw.nd rfl (Or.inl rfl) (pe_call G6 (hr.mono (by decide)) (by rfl) C6.m C6.kp C6.b .nil pass0 (pa_cons (pv 3) pa_nil)))
(pss_cons (ps_as (t' := tHanded) (ps_setLc (own := [("_law_table", 9)]) (g := gName 9) (tt := tYes) (i := 5) rfl scLaw.nd rfl rfl (sw_true rfl rfl rfl (by decide +kernel)) (pi_list (pv 3)) (blkOk_by (own := [("_law_table", 9)]) (N := ["_law_script", "_law_k", "_law_box_here", "_law_maps_here", "_law_rows", "_law_handed", "_law_merger", "_law_first", "_law_turn", "_law_table", "_law_row"]) (sc := defScope sLaw) (by decide +kernel))
  (fun _ _ _ _ _ => (pg_name (i := 9) scLaw.nd rfl (by first | exact Or.inl rfl | exact Or.inr rfl))) (fun _ _ _ _ _ => pts_nil)
  (fun _ _ _ _ _ => (pe_callTy (T := "list") (r := rListOf K) call_listOf (by rfl) B.list (by decide +kernel) (pa_cons (pv 9) pa_nil)))) (by
      rintro D₀ σ H ⟨p, us, ms, hj0, i0, eP, hU, hl, q⟩
      have ul := pLen hU
      refine ⟨_, i0, p, rfl, ⟨us, sqL eP⟩, fun D nD => lc_list (xs := us) (fun j H' => Same H H' ∧ ∃ ls, H' D = some (.lst ls) ∧ Paired (LstF H D H') ls (ms.take j)) ⟨Same.new nD, [], upd_same, .nil⟩ (fun j H' _ ⟨s5, _⟩ => sqL (s5 _ _ eP)) ?_ ?_⟩
      · intro j x H' hx ⟨s5, ls, eD, hL⟩
        obtain ⟨m, hm, t, rfl, et⟩ := pAt2 hU hx
        have hj := (List.getElem?_eq_some_iff.mp hx).1
        have ll := pLen hL
        refine ⟨by simp [wipe, List.set_set], ⟨_, List.getElem?_set_self (by rw [wipe_length]; exact hj0), t, _, rfl, .inr (sqT (s5 _ _ et)), fun l nl => ⟨ls, ?_, ?_, fun b o e => ?_, ls ++ [.ref l], upd_same, ?_⟩⟩⟩
        · rw [upd_ne (ne_of_none eD nl)]
          exact eD
        · rw [ll, List.length_take]
          exact small100 (by omega)
        · rw [upd_ne (ne_of_none e nD), upd_ne (ne_of_none (s5 _ _ e) nl)]
          exact s5 _ _ e
        · have lD : l ≠ D := fun z => by rw [z, eD] at nl; cases nl
          rw [List.take_add_one, hm]
          refine pSnoc ⟨l, rfl, lD, s5.free nl, by rw [upd_ne lD, upd_same]⟩ (Paired.mapP hL fun v r ⟨q, e1, ne, e0, e2⟩ => ⟨q, e1, ne, e0, ?_⟩)
          rw [upd_ne ne, upd_ne (ne_of_none e2 nl)]
          exact e2
      · intro H' ⟨s5, ls, eD, hL⟩
        rw [ul, List.take_length] at hL
        exact q H' D ls s5 nD eD hL))
(pss_cons (ps_set (i := 6) scLaw.nd rfl (Or.inl rfl) (pe_as (t' := tMerger MC) (pe_ifExp (pt_cmpR op_eq (pe_call G5 (hr.mono (by decide)) (by rfl) C5.m C5.kp C5.b .nil pass0 (pa_cons (pv 2) (pa_cons (pe_int) pa_nil))) (pe_int) (nomark _)) (pe_call G2 (hr.mono (by decide)) (by rfl) C2.m C2.kp C2.b .nil (passes_call (E := E0) takes0 fun _ _ _ _ h => h) (pa_cons (pv 5) pa_nil)) (pe_kw (g := id) (gV := id) G2 (hr.mono (by decide)) (by rfl) C2.m C2.kp (fun s ws h => kw_merger F2 s ws h) (fun _ _ h => h) (passes_call (E := E0) takes0 fun _ _ _ _ h => h) (pk_cons (pe_callTy (T := "tuple") (r := rTupOf K) call_tupOf (by rfl) B.tuple (by decide +kernel) (pa_cons (pv 3) pa_nil)) pk_nil))) (by
      rintro σ H Q ⟨b, p, L, ls, n, ms, i2, i3, i5, hB, pb, Lb, hM, eL, hL, q⟩
      have M := hM.mach
      have ok := FM.chkW_ok M
      refine ⟨_, i2, b, 2, rfl, hB, by decide, by decide, fun z H1 lz x1 => ⟨rfl, _, rfl, ite2 (fun _ => ?_) (fun _ => ?_)⟩⟩
      · refine ⟨_, i5, .ref L, some (FM.shM ms), rfl, .seq (b := false) (sqL (x1.same _ _ eL Lb)) (sh_all (fun v m h hl => ?_) hL (mach_len M)), (fun i hi => by rw [ok] at hi; cases hi), fun n' ms' hm M' H' m s' hG => ?_⟩
        · obtain ⟨t, rfl, tb, e⟩ := h
          exact LstN.sh (D := t + 1) ⟨t, rfl, Nat.ne_of_lt (Nat.lt_succ_self t), x1.same _ _ e tb⟩ hl
        · rw [ok] at hm
          cases hm
          rw [mach_uniq M M'] at hG
          exact q H' m (x1.then s') hG
      · obtain ⟨us, eP, hU⟩ := hM.at'
        refine ⟨_, i3, p, us, rfl, .inl ⟨sqL (x1.same _ _ eP pb), fun l nl => ?_⟩⟩
        have sl : Same H1 (upd H1 l (.tup us)) := Same.new nl
        refine ⟨.ref l, some (FM.shM ms), rfl, msh_tups (b := true) (sqT upd_same) ((x1.tups hB hU).same sl) M, (fun i hi => by rw [ok] at hi; cases hi), fun n' ms' hm M' H' m s' hG => ?_⟩
        rw [ok] at hm
        cases hm
        rw [mach_uniq M M'] at hG
        exact q H' m (x1.then (sl.trans s')) hG)))
(pss_cons (ps_set (i := 7) scLaw.nd rfl (Or.inl rfl) (pe_ix (r := rIxL K) ix_list (pv 5) (pe_int) (fun _ _ => rfl)))
(pss_cons (ps_asg (pe_int) (pg_sub (pv 7) (pe_int) set_list))
(pss_cons (ps_if (PW.pt (pw_or (pt_not (pt_val (pe_callB (C8.call_isC IC) (by rfl) B.isinst (by decide +kernel) (pa_cons (pv 6) (pa_cons (pe_glob (by rfl) mM (v := .ref MC) rfl) pa_nil))))) (pw_or (pt_cmpR op_ne (pe_callB (r := rRepr K) (call_repr quiet hu4) (by rfl) B.repr boot_repr (pa_cons (pe_as (t' := tRowLists MC) (pe_lc (own := [("_law_row", 10)]) (g := gName 10) (tt := tYes) rfl scLaw.nd (pi_tup (pe_fld (pv 6) rfl)) (blkOk_by (own := [("_law_row", 10)]) (N := ["_law_script", "_law_k", "_law_box_here", "_law_maps_here", "_law_rows", "_law_handed", "_law_merger", "_law_first", "_law_turn", "_law_table", "_law_row"]) (sc := defScope sLaw) (by decide +kernel))
  (fun _ _ _ _ _ => (pg_name (i := 10) scLaw.nd rfl (by first | exact Or.inl rfl | exact Or.inr rfl))) (fun _ _ _ _ _ => pts_nil)
  (fun _ _ _ _ _ => (pe_callTy (T := "list") (r := rListOf K) call_listOf (by rfl) B.list (by decide +kernel) (pa_cons (pv 10) pa_nil)))) (by
      rintro σ H Q ⟨m, rows, hj0, i6, ⟨dx, t, em, us, eT, hU⟩, hl, q⟩
      have ul := pLen hU
      refine ⟨_, i6, m, MC, dx, _, _, rfl, em, MM.cl, MM.nR, mFs_rows _ _, t, rfl, ⟨us, sqT eT⟩, fun D nD => lc_tup (xs := us) (fun j H' => Same H H' ∧ ∃ ls, H' D = some (.lst ls) ∧ Paired (RowN D H') ls (rows.take j)) ⟨Same.new nD, [], upd_same, .nil⟩ (fun j H' _ ⟨s5, _⟩ => sqT (s5 _ _ eT)) ?_ ?_⟩
      · intro j x H' hx ⟨s5, ls, eD, hL⟩
        obtain ⟨r, hm, t, rfl, et⟩ := pAt2 hU hx
        have hj := (List.getElem?_eq_some_iff.mp hx).1
        have ll := pLen hL
        refine ⟨by simp [wipe, List.set_set], ⟨_, List.getElem?_set_self (by rw [wipe_length]; exact hj0), t, _, rfl, .inr (sqT (s5 _ _ et)), fun l nl => ⟨ls, ?_, ?_, fun b o e => ?_, ls ++ [.ref l], upd_same, ?_⟩⟩⟩
        · rw [upd_ne (ne_of_none eD nl)]
          exact eD
        · rw [ll, List.length_take]
          exact small100 (by omega)
        · rw [upd_ne (ne_of_none e nD), upd_ne (ne_of_none (s5 _ _ e) nl)]
          exact s5 _ _ e
        · have lD : l ≠ D := fun z => by rw [z, eD] at nl; cases nl
          rw [List.take_add_one, hm]
          refine pSnoc ⟨l, rfl, lD, by rw [upd_ne lD, upd_same]⟩ (Paired.mapP hL fun v r ⟨q, e1, ne, e2⟩ => ⟨q, e1, ne, ?_⟩)
          rw [upd_ne ne, upd_ne (ne_of_none e2 nl)]
          exact e2
      · intro H' ⟨s5, ls, eD, hL⟩
        rw [ul, List.take_length] at hL
        exact q H' D s5 ⟨ls, eD, Paired.mapP hL fun _ _ ⟨t, e1, _, e2⟩ => ⟨t, e1, e2⟩⟩)) pa_nil)) (pe_callB (r := rRepr K) (call_repr quiet hu4) (by rfl) B.repr boot_repr (pa_cons (pv 4) pa_nil)) (nomark _)) (pw_or1 (pt_cmpR op_notN (pe_call G7 (hr.mono (by decide)) (by rfl) C7.m C7.kp C7.b .nil pass0 (pa_cons (pv 4) pa_nil)) pe_non (nomark _)))))) (pss_one (ps_ret (pe_bl))) pss_nil)
(pss_cons (ps_if (PW.pt (pw_or (pt_cmpR op_ne (pe_callB (r := rRepr K) (call_repr quiet hu4) (by rfl) B.repr boot_repr (pa_cons (pe_call G1 (hr.mono (by decide)) (by rfl) C1.m C1.kp C1.b .nil (passes_call (E := E0) takes0 fun _ _ _ _ h => h) (pa_cons (pe_as (t' := tLists 3 9) (pe_lc (own := [("_law_table", 9)]) (g := gName 9) (tt := tYes) rfl scLaw.nd (pi_list (pv 3)) (blkOk_by (own := [("_law_table", 9)]) (N := ["_law_script", "_law_k", "_law_box_here", "_law_maps_here", "_law_rows", "_law_handed", "_law_merger", "_law_first", "_law_turn", "_law_table", "_law_row"]) (sc := defScope sLaw) (by decide +kernel))
  (fun _ _ _ _ _ => (pg_name (i := 9) scLaw.nd rfl (by first | exact Or.inl rfl | exact Or.inr rfl))) (fun _ _ _ _ _ => pts_nil)
  (fun _ _ _ _ _ => (pe_callTy (T := "list") (r := rListOf K) call_listOf (by rfl) B.list (by decide +kernel) (pa_cons (pv 9) pa_nil)))) (by
      rintro σ H Q ⟨p, us, ms, hj0, i0, eP, hU, hl, q⟩
      have ul := pLen hU
      refine ⟨_, i0, p, rfl, ⟨us, sqL eP⟩, fun D nD => lc_list (xs := us) (fun j H' => Same H H' ∧ ∃ ls, H' D = some (.lst ls) ∧ Paired (LstN D H') ls (ms.take j)) ⟨Same.new nD, [], upd_same, .nil⟩ (fun j H' _ ⟨s5, _⟩ => sqL (s5 _ _ eP)) ?_ ?_⟩
      · intro j x H' hx ⟨s5, ls, eD, hL⟩
        obtain ⟨m, hm, t, rfl, et⟩ := pAt2 hU hx
        have hj := (List.getElem?_eq_some_iff.mp hx).1
        have ll := pLen hL
        refine ⟨by simp [wipe, List.set_set], ⟨_, List.getElem?_set_self (by rw [wipe_length]; exact hj0), t, _, rfl, .inr (sqT (s5 _ _ et)), fun l nl => ⟨ls, ?_, ?_, fun b o e => ?_, ls ++ [.ref l], upd_same, ?_⟩⟩⟩
        · rw [upd_ne (ne_of_none eD nl)]
          exact eD
        · rw [ll, List.length_take]
          exact small100 (by omega)
        · rw [upd_ne (ne_of_none e nD), upd_ne (ne_of_none (s5 _ _ e) nl)]
          exact s5 _ _ e
        · have lD : l ≠ D := fun z => by rw [z, eD] at nl; cases nl
          rw [List.take_add_one, hm]
          refine pSnoc ⟨l, rfl, lD, by rw [upd_ne lD, upd_same]⟩ (Paired.mapP hL fun v r ⟨q, e1, ne, e2⟩ => ⟨q, e1, ne, ?_⟩)
          rw [upd_ne ne, upd_ne (ne_of_none e2 nl)]
          exact e2
      · intro H' ⟨s5, ls, eD, hL⟩
        rw [ul, List.take_length] at hL
        exact q H' D ls s5 nD eD hL)) pa_nil)) pa_nil)) (pe_callB (r := rRepr K) (call_repr quiet hu4) (by rfl) B.repr boot_repr (pa_cons (pe_callTy (T := "tuple") (r := rTupOf K) call_tupOf (by rfl) B.tuple (by decide +kernel) (pa_cons (pv 3) pa_nil)) pa_nil)) (nomark _)) (pw_or1 (pt_cmpR (op_neD hu4) (pe_kw (g := id) (gV := id) G1 (hr.mono (by decide)) (by rfl) C1.m C1.kp (fun s ws h => kw_check F1 s ws h) (fun _ _ h => h) (passes_call (E := E0) takes0 fun _ _ _ _ h => h) (pk_cons (pe_callTy (T := "tuple") (r := rTupOf K) call_tupOf (by rfl) B.tuple (by decide +kernel) (pa_cons (pv 3) pa_nil)) pk_nil)) (pe_callTy (T := "tuple") (r := rTupOf K) call_tupOf (by rfl) B.tuple (by decide +kernel) (pa_cons (pv 3) pa_nil)) (nomark _))))) (pss_one (ps_ret (pe_bl))) pss_nil)
(pss_cons (ps_for PassesOwn.never rfl (pi_range1 (by rfl) B.range (pa_cons (pe_int) pa_nil)) (pg_name (i := 8) scLaw.nd rfl (Or.inl rfl))
(pss_one (ps_if (pt_not (pt_val (pe_callG G8 (hr.mono (by decide)) quiet (by rfl) CP.m CP.kp CP.b pass0 (pa_cons (pv 2) (pa_cons (pv 3) (pa_cons (pv 6) pa_nil)))))) (pss_one (ps_ret (pe_bl))) pss_nil)))
(pss_one (ps_if (pt_not (pt_val (pe_call G9 (hr.mono (by decide)) (by rfl) C9.m C9.kp C9.b .nil pass0 (pa_cons (pv 2) (pa_cons (pv 3) pa_nil))))) (pss_one (ps_ret (pe_bl))) pss_nil)))))))))))))
(pss_one (ps_ret (pe_bl)))), ?_⟩
    refine ⟨3, rfl, by decide, by decide, for_range (lo := 0) (n := (3 : Int).toNat) (fun i σ H' => ∃ y1 y2 y3 y4 y5 y6 y7 y8, σ = [some (.ref a), y1, y2, y3, y4, y5, y6, y7, y8, none, none] ∧ SqL K H' a (ns.map V.int) ∧ LamX.Tabs [(PN, qNone)] H') ⟨_, _, _, _, _, _, _, _, rfl, hS, hTb⟩ ?_ fun σ H' _ => k H'⟩
    intro i σ H0 hi hP
    obtain ⟨y1, y2, y3, y4, y5, y6, y7, y8, rfl, hS0, hT0⟩ := hP
    rw [Int.zero_add]
    refine ⟨_, rfl, _, rfl, a, ns, i, rfl, hS0, hl, by have : (3 : Int).toNat = 3 := rfl; omega, fun H1 b s1 nb hB => ?_⟩
    have T1 := hT0.ext s1
    refine ⟨_, rfl, _, rfl, b, 6, rfl, hB, by decide, by decide, fun z H2 lz x2 => ?_⟩
    refine ⟨_, _, rfl, rfl, b, 1 + z, rfl, x2.box, by omega, by omega, fun n ms H3 p x3 np hM3 => ?_⟩
    have pb := box_ne x2.box np
    have M := hM3.mach
    have R := rowsOk_of M
    have m12 := M.m12
    have n60 := M.n60
    have n4 := hM3.n4
    have ok := FM.chkW_ok M
    refine ⟨_, rfl, p, n, ms, rfl, hM3, fun H4 r rs s4 nr er hrs => ?_⟩
    have x14 := (x2.trans x3).then s4
    have rb := box_ne x3.box nr
    have M4 := hM3.same s4
    obtain ⟨us4, eP4, hU4⟩ := M4.at'
    refine ⟨p, us4, ms, (by show 9 < 11; decide), rfl, eP4, hU4, m12, fun H5 L ls s5 nL eL hL => ?_⟩
    have x15 := x14.then s5
    have Lb := box_ne x14.box nL
    have M5 := M4.same s5
    refine ⟨b, p, L, ls, n, ms, rfl, rfl, rfl, x15.box, pb, Lb, M5, eL, Paired.mapP hL fun v m ⟨t, e1, _, e0, e2⟩ => ⟨t, e1, box_ne x14.box e0, e2⟩, fun H6 mg' x6 hG => ?_⟩
    have x46 : Bx b H4 H6 := (Bx.of x14.box s5).trans x6
    obtain ⟨m0, r0, t0, l0, hms, els, ft0⟩ : ∃ m0 r0 t0 l0, ms = m0 :: r0 ∧ ls = .ref t0 :: l0 ∧ (t0 ≠ L ∧ H4 t0 = none ∧ H5 t0 = some (.lst (m0.map nV))) := by
      have m1 := M.m1
      cases hL with
      | nil => simp at m1
      | @cons v m vs ms h t =>
        obtain ⟨t0, rfl, q1, q2, q3⟩ := h
        exact ⟨m, ms, t0, vs, rfl, rfl, q1, q2, q3⟩
    obtain ⟨_, nt0, et0⟩ := ft0
    have t0b := box_ne x14.box nt0
    have eL6 := x6.same _ _ eL Lb
    have et6 := x6.same _ _ et0 t0b
    refine ⟨_, rfl, L, ls, _, _, rfl, rfl, sqL eL6, atI_nat (j := 0) (by rw [els]; rfl), ?_⟩
    have lm0 : 0 < (m0.map nV).length := by
      rw [List.length_map, (M.tabs m0 (by rw [hms]; exact List.mem_cons_self ..)).len]
      exact M.n1
    refine ⟨_, rfl, t0, _, _, 0, rfl, rfl, et6, ?_, ?_⟩
    · show ixN (m0.map nV).length 0 = some 0
      unfold ixN
      rw [if_pos (by decide), if_pos (by omega)]
      rfl
    obtain ⟨H7, e7⟩ : ∃ H7, upd H6 t0 (.lst ((m0.map nV).set 0 (.int 0))) = H7 := ⟨_, rfl⟩
    rw [e7]
    have x47 : Bx b H4 H7 := by rw [← e7]; exact x46.set nt0 t0b
    have x17 := x14.trans x47
    have M7 := M4.bx x47 x14.box pb
    have hG7 : MergerAt MC H7 mg' (FM.rowsOf n ms) := by
      obtain ⟨dx, t, em, hR⟩ := hG
      obtain ⟨usR, eR, pR⟩ := hR
      have up : ∀ {c o}, H6 c = some o → (∀ xs, o ≠ .lst xs) → H7 c = some o := fun {c o} e h => by
        rw [← e7, upd_ne (fun z => by rw [z, et6] at e; exact h _ (Option.some.inj e).symm)]
        exact e
      exact ⟨dx, t, up em (fun _ z => nomatch z), usR, up eR (fun _ z => nomatch z), Paired.mapP pR fun _ _ ⟨q, e3, e4⟩ => ⟨q, e3, up e4 fun _ z => nomatch z⟩⟩
    have er7 := x47.same _ _ er rb
    have hrs7 : Paired (RowL H7) rs (FM.rowsOf n ms) := Paired.mapP hrs fun v ro ⟨q, e1, _, e0, e2⟩ => ⟨q, e1, x47.same _ _ e2 (box_ne x3.box e0)⟩
    have rl := FM.rowsOf_len n ms
    obtain ⟨kf, hkf, fitR⟩ := fit_rows R
    have dpR : ∀ {H' c vs}, H' c = some (.lst vs) → Paired (RowL H') vs (FM.rowsOf n ms) → Dp K H' (.ref c) (rowsD (FM.rowsOf n ms)) := fun {H' c vs} e h => .lst (sqL e) (dp_rowsL h)
    have hG7' := hG7
    obtain ⟨dxm, tm, em, _⟩ := hG7'
    refine ⟨_, rfl, mg', dxm, _, rfl, em, _, rfl, iteF ?_⟩
    refine ⟨mg', FM.rowsOf n ms, (by show 10 < 11; decide), rfl, hG7, by rw [rl]; exact m12, fun H8 D8 s8 hD8 => ?_⟩
    obtain ⟨vs8, e8, h8⟩ := hD8
    refine ⟨D8, rowsD (FM.rowsOf n ms), 2, kf, rfl, dpR e8 h8, fitR, by decide, hkf, ?_⟩
    have hrs8 : Paired (RowL H8) rs (FM.rowsOf n ms) := Paired.mapP hrs7 fun _ _ => RowL.same s8
    have er8 := s8 _ _ er7
    refine ⟨_, rfl, r, rowsD (FM.rowsOf n ms), 2, kf, rfl, dpR er8 hrs8, fitR, by decide, hkf, rfl, _, rfl, iteN (by simp) ?_⟩
    refine ⟨_, rfl, r, FM.rowsOf n ms, rfl, ⟨rs, er8, hrs8⟩, R, rowsSound_of M, rfl, _, rfl, iteN (by simp) ?_⟩
    have x18 := x17.then s8
    have M8 := M7.same s8
    obtain ⟨us9, eP9, hU9⟩ := M8.at'
    refine ⟨p, us9, ms, (by show 9 < 11; decide), rfl, eP9, hU9, m12, fun H9 D9 ls9 s9 _ e9 h9 => ?_⟩
    have fitM := fit_mach M
    have shM' : SeqAt.shaped (.tuple (ms.map tabD)) = true := fitM.shaped (by decide)
    have dpT : ∀ {H' c}, TupsT H' c ms → Dp K H' (.ref c) (.tuple (ms.map tabD)) := fun {H' c} ⟨us, e, t⟩ => .tup (sqT e) (dp_tups t)
    refine ⟨.ref D9, some (FM.shM ms), rfl, msh_lsts e9 h9 M, fun ms' hm H10 pT s10 hT => ?_, (fun i hi => by rw [ok] at hi; cases hi)⟩
    rw [ok] at hm
    cases hm
    have s810 := s9.trans s10
    refine ⟨pT, _, 2, _, rfl, dpT hT, fitM, by decide, by decide, ?_⟩
    refine ⟨_, rfl, p, us9, rfl, .inl ⟨sqL (s810 _ _ eP9), fun tt ntt => ?_⟩⟩
    have s11 : Same H10 (upd H10 tt (.tup us9)) := Same.new ntt
    have hT11 : TupsT (upd H10 tt (.tup us9)) tt ms := ⟨us9, upd_same, (hU9.same s810).same s11⟩
    refine ⟨tt, _, 2, _, rfl, dpT hT11, fitM, by decide, by decide, rfl, _, rfl, iteN (by simp) ?_⟩
    have s811 := s810.trans s11
    refine ⟨_, rfl, p, us9, rfl, .inl ⟨sqL (s811 _ _ eP9), fun t2 nt2 => ?_⟩⟩
    obtain ⟨H12, e12⟩ : ∃ H12, upd (upd H10 tt (.tup us9)) t2 (.tup us9) = H12 := ⟨_, rfl⟩
    have s12 : Same (upd H10 tt (.tup us9)) H12 := by rw [← e12]; exact Same.new nt2
    have et2 : H12 t2 = some (.tup us9) := by rw [← e12, upd_same]
    rw [e12]
    have s812 := s811.trans s12
    refine ⟨.ref t2, some (FM.shM ms), rfl, msh_tups (b := true) (sqT et2) (hU9.same s812) M, fun ms' hm H13 p13 s13 hT13 => ?_, (fun i hi => by rw [ok] at hi; cases hi)⟩
    rw [ok] at hm
    cases hm
    have s813 := s812.trans s13
    refine ⟨_, rfl, p, us9, rfl, .inl ⟨sqL (s813 _ _ eP9), fun t3 nt3 => ?_⟩⟩
    have s14 : Same H13 (upd H13 t3 (.tup us9)) := Same.new nt3
    have hT14 : TupsT (upd H13 t3 (.tup us9)) t3 ms := ⟨us9, upd_same, (hU9.same s813).same s14⟩
    refine ⟨_, _, dpT (hT13.same s14), dpT hT14, shM', shM', _, rfl, iteN (by rw [SeqAt.eqv_refl _ fitM.lay]; simp) ?_⟩
    have x14' := x18.then (s813.trans s14)
    have M14 := M8.same (s813.trans s14)
    have hG14 := (hG7.same s8).same (s813.trans s14)
    refine ⟨5, rfl, by decide, by decide, for_range (lo := 0) (n := (5 : Int).toNat) (fun j σ H' => ∃ y8, σ = [some (.ref a), some (nV i), some (.ref b), some (.ref p), some (.ref r), some (.ref L), some (.ref mg'), some (.ref t0), y8, none, none] ∧ Bx b H1 H' ∧ MapsAt H' p n ms ∧ MergerAt MC H' mg' (FM.rowsOf n ms)) ⟨_, rfl, x14', M14, hG14⟩ ?_ ?_⟩
    · intro j σ H15 hj hP
      obtain ⟨y8, rfl, x15', M15, hG15⟩ := hP
      refine ⟨_, rfl, _, rfl, _, rfl, b, p, mg', n, ms, rfl, x15'.box, pb, M15, hG15, fun H16 x16 => ⟨_, rfl, iteF ?_⟩⟩
      exact ⟨_, rfl, x15'.trans x16, M15.bx x16 x15'.box pb, hG15.bx x16 x15'.box⟩
    · intro σ H15 hP
      obtain ⟨y8, rfl, x15', M15, hG15⟩ := hP
      have T15 := tabs_bx T1 hB x15'
      refine ⟨_, rfl, _, rfl, b, p, n, ms, rfl, x15'.box, pb, M15, T15, fun H16 x16 => ⟨_, rfl, iteF ?_⟩⟩
      have nz : Nz b [(PN, qNone)] H1 H16 := ((Nz.refl hB T1).bx x15').trans x16
      exact ⟨_, _, _, _, _, _, _, _, rfl, script_stays s1 nb nz hS0, nz.tabs⟩
end
end K2
end
section
set_option maxHeartbeats 4000000
/-! The end: the harness calls the law where nothing is being shown. -/
namespace K2
open PySem PySem.Spec PyProof.Rows L2 LamX
section
variable {P : Program} {w : World} {K : PySem.W.Frag} {s : Shared} {a : Addr} {vs : List Value} {ns : List Int} {cs : List (Addr × Addr)}
/-- what is tracked at the call: the tables, and the script where the written part does not hold it -/
def hpCall (K : PySem.W.Frag) (a : Addr) (vs : List Value) (ns : List Int) (cs : List (Addr × Addr)) : Hp := fun b =>
  if b ∈ cs.map (·.2) then some (.tbl #[]) else if b = a ∧ K.lookup a = none then some (.frz { cls := .type "list", data := .seq vs.toArray } (.lst (ns.map V.int))) else none
theorem hpCall_tab {b : Addr} (h : b ∈ cs.map (·.2)) : hpCall K a vs ns cs b = some (.tbl #[]) := if_pos h
theorem hpCall_cases {b : Addr} {u : HO} (e : hpCall K a vs ns cs b = some u) : (b ∈ cs.map (·.2) ∧ u = .tbl #[]) ∨ (b ∉ cs.map (·.2) ∧ b = a ∧ K.lookup a = none ∧ u = .frz { cls := .type "list", data := .seq vs.toArray } (.lst (ns.map V.int))) := by
  unfold hpCall at e
  split at e
  · rename_i h
    exact .inl ⟨h, (Option.some.inj e).symm⟩
  · rename_i h
    split at e
    · rename_i h2
      exact .inr ⟨h, h2.1, h2.2, (Option.some.inj e).symm⟩
    · cases e
/-- the call, by the law's promise -/
theorem call_law {mg mb : Str → Option Value} {k : Nat} {fa : Addr} {fd : FuncData} {x : Str} {sp : Sp} (kin : K.In s.heap) (gl : s.heap.Ns mainGlobals mg) (bl : s.heap.Ns builtinsNs mb) (blt : ∀ x : Str, x ≠ "__name__" → mb x = bootBuiltins x) (free : s.heap.NoLimit) (gens : s.gens = #[])
    (tabs : ∀ p ∈ cs, s.heap.get? p.2 = some { cls := .none, data := .fields #[] }) (ntab : ∀ p ∈ cs, K.lookup p.2 = none) (codes : ∀ p ∈ cs, PySem.W.CodeHd s.heap p.1 p.2)
    (bmod : ∃ (bm : Addr) (ob : Obj), mg "__builtins__" = some (.ref bm) ∧ bm ≠ builtinsNs ∧ s.heap.get? bm = some ob ∧ ob.cls = .type "module" ∧ ob.dict = some builtinsNs ∧ ob.data = .plain)
    (there : s.heap.get? a = some { cls := .type "list", data := .seq vs.toArray }) (hIs : IntsAre vs ns) (short : ns.length ≤ sizeLine) (room : Room k callerA)
    (F : ∀ base : Heap, K.In base → base.Ns mainGlobals mg → (∀ p ∈ cs, TabB base mg p.1 p.2) → FnOkG P w K mg base CX0 k fa fd [x] sp) (binds : ∀ (s : Shared) (u : Value), BindsTo s fd ⟨[u], []⟩ [(x, u)])
    (say : ∀ H : Hp, (∀ p ∈ cs, H p.2 = some (.tbl #[])) → SqL K H a (ns.map V.int) → sp [.ref a] H (fun v _ => v = .bl true) fun _ _ _ => False) :
    codeAny (model P w) callerA (.call (.ref fa) ⟨[.ref a], []⟩) (fun r s' => r = .ok (.ret (.bool true)) ∧ OldK s.heap s'.heap ∧ s'.os = s.os ∧ AllBare s'.gens) s := by
  obtain ⟨H, eH⟩ : ∃ H, hpCall K a vs ns cs = H := ⟨_, rfl⟩
  have isTab : ∀ b, b ∈ cs.map (·.2) → H b = some (.tbl #[]) := fun b h => by rw [← eH]; exact hpCall_tab h
  have parts : ∀ {b u}, H b = some u → (b ∈ cs.map (·.2) ∧ u = .tbl #[]) ∨ (b ∉ cs.map (·.2) ∧ b = a ∧ K.lookup a = none ∧ u = .frz { cls := .type "list", data := .seq vs.toArray } (.lst (ns.map V.int))) := fun {b u} e => by rw [← eH] at e; exact hpCall_cases e
  have tabO : ∀ b, b ∈ cs.map (·.2) → s.heap.get? b = some { cls := .none, data := .fields #[] } := fun b hb => by
    obtain ⟨p, hp, rfl⟩ := List.mem_map.mp hb
    exact tabs p hp
  have inTab : ∀ p ∈ cs, p.2 ∈ cs.map (·.2) := fun p hp => List.mem_map_of_mem hp
  have vals := vals_ints hIs
  have count := hIs.length
  have aT : a ∉ cs.map (·.2) := fun h => by
    have q := tabO a h
    rw [there] at q
    cases q
  have script : SqL K H a (ns.map V.int) := by
    cases hk : K.lookup a with
    | none =>
      refine .inl (.inr ⟨{ cls := .type "list", data := .seq vs.toArray }, ?_⟩)
      rw [← eH]
      unfold hpCall
      rw [if_neg aT, if_pos ⟨rfl, hk⟩]
    | some o =>
      have e := kin a o hk
      rw [there] at e
      cases e
      exact .inr ⟨_, vs.toArray, _, hk, rfl, rfl, rfl, by rw [List.size_toArray, count]; exact short, by simpa using vals⟩
  have hok : HOk P w H s.heap := fun b u e => by
    rcases parts e with ⟨h, rfl⟩ | ⟨_, rfl, _, rfl⟩
    · exact tabO b h
    · exact ⟨there, by rw [List.length_map]; exact short, vs, _, vals, there⟩
  have shown : ∀ {b o}, s.heap.get? b = some o → (∀ xs n, o.data ≠ .seq xs n) → o.data ≠ .fields #[] → (hidT s.heap H).get? b = some o := fun {b o} e h1 h2 => hidT_get e (by
    cases q : H b with
    | none => rfl
    | some u =>
      rcases parts q with ⟨h, _⟩ | ⟨_, rfl, _, _⟩
      · rw [tabO b h] at e
        cases e
        exact absurd rfl h2
      · rw [there] at e
        cases e
        exact absurd rfl (h1 _ _))
  have dicts : ∀ {b m}, s.heap.Ns b m → (hidT s.heap H).Ns b m := fun {b m} ⟨o, es, ep, e, d, r⟩ => ⟨o, es, ep, shown e (fun xs n z => by rw [d] at z; cases z) (fun z => by rw [d] at z; cases z), d, r⟩
  have kinH : K.In (hidT s.heap H) := fun b o e => hidT_get (kin b o e) (by
    cases q : H b with
    | none => rfl
    | some u =>
      rcases parts q with ⟨h, _⟩ | ⟨_, rfl, hn, _⟩
      · obtain ⟨p, hp, rfl⟩ := List.mem_map.mp h
        rw [ntab p hp] at e
        cases e
      · rw [hn] at e
        cases e)
  have mod : L2.Mod K mg (hidT s.heap H) := ⟨kinH, dicts gl, ⟨mb, dicts bl, blt⟩, let ⟨mc, h1, h2⟩ := free; ⟨mc, dicts h1, h2⟩⟩
  have tabB : ∀ p ∈ cs, TabB (hidT s.heap H) mg p.1 p.2 := fun p hp => by
    have here := tabs p hp
    refine ⟨?_, ?_, fun z => ?_⟩
    · obtain ⟨o, us, file, tf, flags, tg, inF, text, tt, e1, r1, r2, r3, rest⟩ := codes p hp
      refine ⟨o, us, file, tf, flags, tg, inF, text, tt, shown e1 (fun xs n z => by rw [r2] at z; cases z) (fun z => ?_), r1, r2, r3, rest⟩
      rw [r2] at z
      cases z
      simp at r3
    · obtain ⟨bm, ob, b1, b2, b3, b4, b5, b6⟩ := bmod
      refine ⟨bm, ob, b1, b2, fun q => ?_, fun q => ?_, shown b3 (fun xs n z => by rw [b6] at z; cases z) (fun z => by rw [b6] at z; cases z), b4, b5, b6⟩
      · obtain ⟨o, es, ep, e, hd, _⟩ := gl
        rw [q, e] at b3
        cases b3
        rw [hd] at b6
        cases b6
      · rw [q, here] at b3
        cases b3
        cases b6
    · obtain ⟨o, es, ep, e, hd, _⟩ := gl
      rw [z, here] at e
      cases e
      cases hd
  have env : Env0 P w K mg (hidT s.heap H) callerA [] s H := ⟨rfl, mod, fun b o e => of_hidT e, Nat.le_of_eq (hidT_size _ _), trivial, (fun b hb => absurd (show b ∈ ([] : List Addr) from hb) (by simp)), hok, .of_eq gens⟩
  refine codeAny_mono ((F _ kinH (dicts gl) tabB).go callerA [] s H ⟨[.ref a], []⟩ [.ref a] [.ref a] _ _ room rfl env (binds s (.ref a)) (.cons rfl .nil) (say H (fun p hp => isTab _ (inTab p hp)) script)) fun r s' h => ?_
  cases r with
  | error e => exact (show False from h).elim
  | ok fl =>
    cases fl with
    | next => exact False.elim h
    | brk => exact False.elim h
    | cont => exact False.elim h
    | ret u =>
      obtain ⟨v, H', os, bare, un, hok', rel, ev⟩ := h
      have ev' : v = .bl true := ev
      subst ev'
      obtain rfl : u = Value.bool true := rel
      have stays : ∀ b o, b ∉ cs.map (·.2) → s.heap.get? b = some o → s'.heap.get? b = some o := fun b o nb e => by
        cases q : H b with
        | none => exact un.keep b o e q (fun z => absurd (show b ∈ ([] : List Addr) from z) (by simp)) (by simp)
        | some u =>
          rcases parts q with ⟨h, _⟩ | ⟨_, _, _, rfl⟩
          · exact absurd h nb
          · obtain ⟨e1, _⟩ := hok b _ q
            obtain ⟨e2, _⟩ := hok' b _ (un.frzs b _ _ q)
            rw [e] at e1
            cases e1
            exact e2
      have grows : ∀ p ∈ cs, ∃ more : Array Value, s'.heap.get? p.2 = some { cls := .none, data := .fields more } := fun p hp => by
        obtain ⟨more, z⟩ := un.tbls p.2 #[] (isTab _ (inTab p hp))
        exact ⟨_, hok' p.2 _ z⟩
      refine ⟨rfl, ⟨fun b o e => ?_, fun b o e => ?_⟩, os, bare⟩
      · by_cases hb : b ∈ cs.map (·.2)
        · obtain ⟨p, hp, rfl⟩ := List.mem_map.mp hb
          obtain ⟨more, hm⟩ := grows p hp
          rw [tabs p hp] at e
          cases e
          exact .inr (.inl ⟨((codes p hp).tab (tabs p hp)).isCodeTable, rfl, #[], more, rfl, by rw [Array.empty_append]; exact hm⟩)
        · exact .inl (stays b o hb e)
      · by_cases hb : b ∈ cs.map (·.2)
        · obtain ⟨p, hp, rfl⟩ := List.mem_map.mp hb
          obtain ⟨more, hm⟩ := grows p hp
          exact ⟨_, hm⟩
        · exact ⟨o, stays b o hb e⟩
end
end K2
end
section
set_option maxHeartbeats 0
/-! The head: what the top leaves. -/
namespace K2
open PySem PySem.Spec PyProof.Rows L2 He
abbrev R : PySem.W.OpenRow := PySem.W.OpenLaw.row PySem.Challenge.rw_foursfold_k02_whole_machines_whatever_is
def dOf (x : Str) (st : Stmt) : DefD := ⟨(x, none), x, x, defArgs st, defBody st, defScope st, [], []⟩
def fnL : List DefD := [dOf "is_integer" sIsInteger, dOf "is_number" sIsNumber, dOf "is_below" sIsBelow, dOf "is_sequence" sIsSequence, dOf "is_end" sIsEnd, dOf "check_rows" sCheckRows, dOf "ends_of" sEndsOf, dOf "unsound_three" sUnsoundThree,
  ⟨("Merger", some "__init__"), "__init__", "Merger.__init__", defArgs sMergerInit, defBody sMergerInit, defScope sMergerInit, [], []⟩, dOf "need_command" sNeedCommand, dOf "merged" sMerged, dOf "check_queue" sCheckQueue, dOf "places_of" sPlacesOf,
  dOf "mergeable_places" sMergeablePlaces, dOf "is_folded" sIsFolded, dOf "is_table" sIsTable] ++ [dOf "check_machine" sCheckMachine, dOf "done_by" sDoneBy, dOf "done_table" sDoneTable, dOf "machine_merger" sMachineMerger, dOf "_law_box" sBox, dOf "_law_take" sTake,
  dOf "_law_pick" sPick, dOf "_law_maps" sMaps, dOf "_law_rows_of" sRowsOf, dOf "_law_against" sAgainst, dOf "_law_done" sDone, dOf "_law_heard" sHeard, dOf "_law_played_right" sPlayed, dOf "_law_none_right" sNone, dOf "law" sLaw]
def faL : List Fa := [.glo "is_integer", .glo "is_number", .glo "is_below", .glo "is_sequence", .glo "is_end", .glo "check_rows", .glo "ends_of", .glo "unsound_three", .glo "Merger", .glo "need_command", .glo "merged", .glo "check_queue", .glo "places_of", .glo "mergeable_places", .glo "is_folded", .glo "is_table"] ++
  [.glo "check_machine", .glo "done_by", .glo "done_table", .glo "machine_merger", .glo "_law_box", .glo "_law_take", .glo "_law_pick", .glo "_law_maps", .glo "_law_rows_of", .glo "_law_against", .glo "_law_done", .glo "_law_heard", .glo "_law_played_right", .glo "_law_none_right", .glo "law"] ++
  [.free "isinstance", .free "int", .free "bool", .free "list", .free "tuple", .free "len", .free "all", .free "enumerate", .free "range", .free "zip", .free "abs", .free "repr"] ++
  [.int "MOST_COMMANDS" 12, .int "MOST_QUEUE" 10000, .int "MOST_STATES" 60, .int "GONE" (-1), .cls "Merger", .noat "Merger" "commands", .noat "Merger" "rows", .mkr "Merger", .glo "FoldError", .glo "BadHouse", .glo "BadQueue", .exm "BadHouse" "BadHouse" true, .exm "BadQueue" "BadHouse" false, .exm "BadQueue" "BadQueue" true]
def tfL : List Defn := [("_law_none_right", none)]
/-! ### the errors -/
abbrev ExV : Type := Option (Str × Str × Arguments × FuncBody × Scope × Addr × List Str × Value × Addr)
def exObs (K : PySem.W.Frag) (x : Str) : ExV := match K.lookup (ma K (ga K x) "__init__") with
  | some ⟨_, _, .func fd, _⟩ => some (fd.name, fd.qualname, fd.params, fd.body, fd.scope, fd.globals, fd.closure.map (·.1), fd.defaults, fd.builtins)
  | _ => none
abbrev sBadHouse : Stmt := inClass (top 5) 0
abbrev sBadQueue : Stmt := inClass (top 4) 0
def exVal (x : Str) (st : Stmt) : ExV := some ("__init__", x ++ ".__init__", defArgs st, .stmts (defBody st), defScope st, mainGlobals, ["__class__"], .none, builtinsNs)
def restB (K : PySem.W.Frag) (C : Addr) (fd : FuncData) : Bool := (match fd.closure with
    | [(_, cc)] => (match K.lookup cc with
      | some ⟨_, _, .cell (some (.ref C')), _⟩ => decide (C' = C)
      | _ => false)
    | _ => false) && (match fd.code with
    | .ref cda => PySem.W.codeIn K (.ref cda) fd.qualname && (match K.lookup cda with
      | some ⟨_, _, .fields vs, _⟩ => (match (vs[2]? : Option Value) with
        | some (.str file _) => decide (R.prog.main.file = file)
        | _ => false)
      | _ => false)
    | _ => false)
def clsB (K : PySem.W.Frag) (C : Addr) : Bool := match PySem.W.clsIn K C with
  | some cd => PySem.HandSPX.refsVE cd.mro && cd.hasDict
  | none => false
end K2
namespace K2
open PySem PySem.W PySem.Calls PyProof.Rows PySem.HandSPX He
def bxA (K : Frag) (C fI : Addr) : Bool := excInitIn K C veTail "ValueError.__new__" && clsB K C && eqO (findIn K (.ref C) "__setattr__") (some (some (.builtin "object.__setattr__"))) && eqO (findIn K (.ref C) "__getattribute__") (some (some (.builtin "BaseException.__getattribute__"))) &&
  eqO (findIn K (.ref C) "__getattr__") (some none) && eqO (findIn K (.ref C) "at") (some none) && eqO (findIn K (.ref C) "__init__") (some (some (.ref fI))) && decide (typeIn K (.ref fI) = some (.type "function")) && keepIn K (.ref C) && (clsIn K C).isSome
def bxC (K : Frag) (C : Addr) : Bool := eqO (findIn K (.ref C) "__class__") (some (some (.builtin "object.__class__"))) && decide (mroIn K C (.type "object") = some true) && decide (subIn K (.ref C) (.type "BaseException") = some true) && decide (subIn K (.ref C) (.type "ValueError") = some true) &&
  decide (typeIn K (.ref C) = some (.type "type")) && hasDictIn K C && decide (mroIn K C (.ref C) = some true) && eqO (ks_superIn K C C "__init__") (some (some (.builtin "ValueError.__init__")))
def bxD (K : Frag) (C fI : Addr) : Bool := match K.lookup fI with
  | some ⟨_, _, .func fd, _⟩ => restB K C fd
  | _ => false
def bxB (K : Frag) (x : Str) : Bool := bxA K (ga K x) (ma K (ga K x) "__init__") && (bxC K (ga K x) && bxD K (ga K x) (ma K (ga K x) "__init__"))
def exL (K : Frag) : Bool := bxB K "BadHouse" && (bxB K "BadQueue" && (eqO (specialIn K (.builtin "object.__class__") "__get__") (some (some (.builtin "getset_descriptor.__get__"))) && (decide (takesIn K (.builtin "object.__class__") = some true) && (eqO (nsIn K cStatics "thirdparty.any") (some none) && (eqO (nsIn K mainGlobals "super") (some none) &&
  (eqO (findIn K (.ref (ga K "Merger")) "__class__") (some (some (.builtin "object.__class__"))) && (decide (mroIn K (ga K "Merger") (.type "object") = some true) && (decide (kitOne K (.ref (ga K "Merger")) (.ref (ga K "Merger")) = some true) && (decide (kitOne K (.ref (ga K "BadHouse")) (.ref (ga K "FoldError")) = some true) && decide (kitOne K (.ref (ga K "BadQueue")) (.ref (ga K "FoldError")) = some true))))))))))
end K2
namespace K2
open PySem PySem.Spec PyProof.Rows L2 He
/-! ### the Hook -/
/-- what the module's names reach, the statics, the cells of the functions -/
def asC (g : Addr → Option Obj) (n : Nat) : List Addr := cStatics :: (asD g n ++ (asD g n).flatMap fun a => match g a with
  | some o => (match o.data with
    | .func fd => fd.closure.map (·.2)
    | _ => [])
  | none => [])
abbrev AlC : Type := AlD × ExV × ExV × Bool
def obsC (n : Nat) (fa : List Fa) (fn : List DefD) (tf : List Defn) (ex : PySem.W.Frag → Bool) (g : Addr → Option Obj) : AlC := (obsD fa fn (frT g (asC g n)), exObs (frT g (asC g n)) "BadHouse", exObs (frT g (asC g n)) "BadQueue", ex (frT g (asC g n)) && tabsB g tf (frT g (asC g n)))
def valC (fn : List DefD) : AlC := (valD fn, exVal "BadHouse" sBadHouse, exVal "BadQueue" sBadQueue, true)
structure SaysC (fa : List Fa) (fn : List DefD) (tf : List Defn) (ex : PySem.W.Frag → Bool) (h : Heap) (K : PySem.W.Frag) : Prop where
  d : SaysD fa fn K
  xh : exObs K "BadHouse" = exVal "BadHouse" sBadHouse
  xq : exObs K "BadQueue" = exVal "BadQueue" sBadQueue
  more : ex K = true
  hd : ∀ p ∈ tf, PySem.W.codeHdIn K (cT K p).1 (cT K p).2 = true
  out : ∀ p ∈ tf, K.lookup (cT K p).2 = none
  empty : ∀ p ∈ tf, h.get? (cT K p).2 = some { cls := .none, data := .fields #[] }
theorem saysC_of {n : Nat} {fa : List Fa} {fn : List DefD} {tf : List Defn} {ex : PySem.W.Frag → Bool} {h : Heap} (e : obsC n fa fn tf ex h.get? = valC fn) : SaysC fa fn tf ex h (frT h.get? (asC h.get? n)) := by
  obtain ⟨e1, e2⟩ := Prod.mk.inj e
  obtain ⟨e3, e4⟩ := Prod.mk.inj e2
  obtain ⟨e5, e6⟩ := Prod.mk.inj e4
  obtain ⟨h1, h2⟩ := ba e6
  have each : ∀ p ∈ tf, _ := fun p hp => ba (List.all_eq_true.mp h2 p hp)
  have tabAt : ∀ p ∈ tf, ∃ o, h.get? (cT (frT h.get? (asC h.get? n)) p).2 = some o ∧ emptyTab o = true := fun p hp => by
    have h4 := (each p hp).2
    cases q : h.get? (cT (frT h.get? (asC h.get? n)) p).2 with
    | none => rw [q] at h4; cases h4
    | some o => rw [q] at h4; exact ⟨o, rfl, h4⟩
  refine ⟨e1, e3, e5, h1, fun p hp => (each p hp).1, fun p hp => ?_, fun p hp => ?_⟩
  · obtain ⟨o, q, z⟩ := tabAt p hp
    exact frT_none q z
  · obtain ⟨o, q, z⟩ := tabAt p hp
    rw [q, emptyTab_eq z]
def hookC (n : Nat) (fa : List Fa) (fn : List DefD) (tf : List Defn) (ex : PySem.W.Frag → Bool) : PySem.W.Hook where
  α := AlC
  obs := fun s => obsC n fa fn tf ex s.heap.get?
  val := fun _ => valC fn
  says := fun _ h => ∃ K : PySem.W.Frag, K.In h ∧ SaysC fa fn tf ex h K
  of := fun _ _ e => ⟨_, frT_in, saysC_of e⟩
  keeps := fun _ _ _ ⟨K, hK, c⟩ k => ⟨K, PySem.W.Frag.In.keeps hK k, ⟨c.d, c.xh, c.xq, c.more, c.hd, c.out, fun p hp => k _ _ (c.empty p hp)⟩⟩
theorem obsC_eq {n : Nat} {fa : List Fa} {fn : List DefD} {tf : List Defn} {ex : PySem.W.Frag → Bool} {g : Addr → Option Obj} {s : Shared} (h : ∀ a, g a = s.heap.get? a) : obsC n fa fn tf ex g = (hookC n fa fn tf ex).obs s := by
  have e : g = s.heap.get? := funext h
  rw [e] <;> rfl
abbrev hkL : PySem.W.Hook := hookC 5 faL fnL tfL exL
def obL (s : PySem.W.SharedT) : AlC := obsC 5 faL fnL tfL exL (HandSHeadRun.getT s)
theorem obL_eq (s : PySem.W.SharedT) : obL s = hkL.obs s.abs := obsC_eq (HandSHeadRun.getT_eq s)
def looseL : List Str := (["FoldError", "BadMerger", "Unsound", "BadQueue", "BadHouse", "NoCommand", "MOST_COMMANDS", "MOST_QUEUE", "MOST_STATES", "GONE", "is_integer", "is_number", "is_below", "is_sequence", "is_end", "check_rows", "ends_of", "unsound_three", "Merger", "need_command", "merged", "check_queue", "places_of", "mergeable_places"] : List Str) ++
  (["is_folded", "is_table", "check_machine", "done_by", "done_table", "machine_merger", "_law_box", "_law_take", "_law_pick", "_law_maps", "_law_rows_of", "_law_against", "_law_done", "_law_heard", "_law_played_right", "_law_none_right"] : List Str)
theorem runL (w : World) : HandSHeadRun.RunEq R (PySem.W.view R.prog [45]) hkL obL 20000 looseL w := by
  intro os
  kernel_rfl
end K2
end
section
set_option maxHeartbeats 8000000
/-! The facts, put together. -/
namespace K2
open PySem PySem.W PySem.Calls PyProof.Rows PySem.HandSPX He
/-- an error, as the head tells it -/
theorem badT_of {P : Program} {K : Frag} {mg : Str → Option Value} {x msg : Str} {st : Stmt} {p1 p2 p3 p4 p5 p6 p7 p8 q1 q2 q3 q4 : Pos} (gC : mg x = some (.ref (ga K x))) (hb : bxB K x = true) (hx : exObs K x = exVal x st)
    (spC : specialIn K (.builtin "object.__class__") "__get__" = some (some (.builtin "getset_descriptor.__get__"))) (tkC : takesIn K (.builtin "object.__class__") = some true) (any : nsIn K cStatics "thirdparty.any" = some none) (noSup : nsIn K mainGlobals "super" = some none)
    (topSup : (P.main.scope.names.lookup ("super" : Str)).isSome = false) (hP : P.main.file = R.prog.main.file) (ea : L2.defArgs st = eArgs p1 p2) (eb : L2.defBody st = eBody msg p3 p4 p5 p6 p7 p8 q1 q2 q3 q4) (es : L2.defScope st = eScope) (el : (p5.endLine == p7.line) = true) :
    BadT P K mg x (ga K x) (ma K (ga K x) "__init__") := by
  obtain ⟨ha, hb⟩ := ba hb
  obtain ⟨hc, hd⟩ := ba hb
  unfold bxA at ha
  unfold bxC at hc
  simp only [Bool.and_eq_true] at ha hc
  obtain ⟨⟨⟨⟨⟨⟨⟨⟨⟨a1, a2⟩, a3⟩, a4⟩, a5⟩, a6⟩, a7⟩, a8⟩, a9⟩, a10⟩ := ha
  obtain ⟨⟨⟨⟨⟨⟨⟨c1, c2⟩, c3⟩, c4⟩, c5⟩, c6⟩, c7⟩, c8⟩ := hc
  refine ⟨gC, a1, ?_, eqO_ok a3, eqO_ok a4, eqO_ok a5, eqO_ok a6, eqO_ok a7, of_decide_eq_true a8, a9, a10, eqO_ok c1, spC, tkC, of_decide_eq_true c2, of_decide_eq_true c3, of_decide_eq_true c4, of_decide_eq_true c5, c6, of_decide_eq_true c7, eqO_ok c8, any, noSup, topSup, ?_⟩
  · unfold clsB at a2
    cases q : clsIn K (ga K x) with
    | none => rw [q] at a2; cases a2
    | some cd =>
      rw [q] at a2
      obtain ⟨z1, z2⟩ := ba a2
      exact ⟨cd, rfl, z1, z2⟩
  · unfold bxD at hd
    unfold exObs exVal at hx
    cases q : K.lookup (ma K (ga K x) "__init__") with
    | none => rw [q] at hd; cases hd
    | some o =>
      obtain ⟨oc, od, dt, osl⟩ := o
      rw [q] at hd hx
      cases dt with
      | func fd =>
        obtain ⟨n1, n2, n3, n4, n5, n6, n7, n8, n9, n10, n11, n12, n13, n14, n15⟩ := fd
        have hx2 : (some (n1, n2, n3, n4, n5, n6, n7.map (·.1), n8, n15) : ExV) = (some ("__init__", x ++ ".__init__", L2.defArgs st, .stmts (L2.defBody st), L2.defScope st, mainGlobals, ["__class__"], .none, builtinsNs) : ExV) := hx
        simp only [Option.some.injEq, Prod.mk.injEq] at hx2
        obtain ⟨h1, h2, h3, h4, h5, h6, h7, h8, h9⟩ := hx2
        have hr : restB K (ga K x) ⟨n1, n2, n3, n4, n5, n6, n7, n8, n9, n10, n11, n12, n13, n14, n15⟩ = true := hd
        obtain ⟨z1, z2⟩ := ba hr
        cases n7 with
        | nil => cases h7
        | cons cl r =>
          cases r with
          | cons _ _ =>
            have z := congrArg List.length h7
            simp at z
          | nil =>
            obtain ⟨cn, cc⟩ := cl
            have ecn : cn = "__class__" := (List.cons.inj h7).1
            cases n13 with
            | ref cda =>
              have z3 : (match K.lookup cc with
                | some ⟨_, _, .cell (some (.ref C')), _⟩ => decide (C' = ga K x)
                | _ => false) = true := z1
              have z4 : (codeIn K (.ref cda) n2 && (match K.lookup cda with
                | some ⟨_, _, .fields vs, _⟩ => (match (vs[2]? : Option Value) with
                  | some (.str file _) => decide (R.prog.main.file = file)
                  | _ => false)
                | _ => false)) = true := z2
              obtain ⟨z5, z6⟩ := ba z4
              refine ⟨oc, od, n2, n9, n10, n11, n12, cda, cc, n14, osl, msg, p1, p2, p3, p4, p5, p6, p7, p8, q1, q2, q3, q4, ?_, z5, ?_, ?_, el⟩
              · rw [h1, h3, h4, h5, h6, h8, h9, ecn, ea, eb, es]
              · cases q2 : K.lookup cda with
                | none => rw [q2] at z6; cases z6
                | some o2 =>
                  obtain ⟨oc2, od2, dt2, osl2⟩ := o2
                  rw [q2] at z6
                  cases dt2 with
                  | fields vs =>
                    have z7 : (match (vs[2]? : Option Value) with
                      | some (.str file _) => decide (R.prog.main.file = file)
                      | _ => false) = true := z6
                    cases q3 : (vs[2]? : Option Value) with
                    | none => rw [q3] at z7; cases z7
                    | some u =>
                      rw [q3] at z7
                      cases u with
                      | str file tf =>
                        have z8 := of_decide_eq_true z7
                        exact ⟨oc2, od2, vs, osl2, file, tf, rfl, q3, by rw [hP, z8]; exact beq_self_eq_true _⟩
                      | _ => cases z7
                  | _ => cases z6
              · cases q2 : K.lookup cc with
                | none => rw [q2] at z3; cases z3
                | some o2 =>
                  obtain ⟨oc2, od2, dt2, osl2⟩ := o2
                  rw [q2] at z3
                  cases dt2 with
                  | cell v =>
                    cases v with
                    | none => cases z3
                    | some u =>
                      cases u with
                      | ref C' =>
                        have z8 := of_decide_eq_true z3
                        rw [z8]
                        exact ⟨_, _, _, rfl⟩
                      | _ => cases z3
                  | _ => cases z3
            | _ => cases z2
      | _ => cases hd
end K2
namespace K2
open PySem PySem.Spec PyProof.Rows L2 He
theorem facts {w : World} {K : PySem.W.Frag} {h h' : Heap} {mg : Str → Option Value} {fa : Addr} (X : K.In h) (G : h.Ns mainGlobals mg) (hfa : mg ("law" : Str) = some (.ref fa)) (c : SaysC faL fnL tfL exL h' K) :
    ∃ fd : FuncData, (∀ (s : Shared) (u : Value), BindsTo s fd ⟨[u], []⟩ [("_law_script", u)]) ∧ ∀ base : Heap, K.In base → base.Ns mainGlobals mg → (∀ p ∈ [cT K ("_law_none_right", none)], LamX.TabB base mg p.1 p.2) →
      FnOkG (PySem.Challenge.rw_foursfold_k02_whole_machines_whatever_is).prog w K mg base CX0 11 fa fd ["_law_script"] (spLaw K (cT K ("_law_none_right", none)).2) := by
  obtain ⟨d0, F0⟩ : ∃ fd, Fn K "is_integer" sIsInteger (ga K "is_integer") fd := c.d.def_ 0 (d := dOf "is_integer" sIsInteger) rfl
  obtain ⟨d1, F1⟩ : ∃ fd, Fn K "is_number" sIsNumber (ga K "is_number") fd := c.d.def_ 1 (d := dOf "is_number" sIsNumber) rfl
  obtain ⟨d2, F2⟩ : ∃ fd, Fn K "is_below" sIsBelow (ga K "is_below") fd := c.d.def_ 2 (d := dOf "is_below" sIsBelow) rfl
  obtain ⟨d3, F3⟩ : ∃ fd, Fn K "is_sequence" sIsSequence (ga K "is_sequence") fd := c.d.def_ 3 (d := dOf "is_sequence" sIsSequence) rfl
  obtain ⟨d4, F4⟩ : ∃ fd, Fn K "is_end" sIsEnd (ga K "is_end") fd := c.d.def_ 4 (d := dOf "is_end" sIsEnd) rfl
  obtain ⟨d5, F5⟩ : ∃ fd, Fn K "check_rows" sCheckRows (ga K "check_rows") fd := c.d.def_ 5 (d := dOf "check_rows" sCheckRows) rfl
  obtain ⟨d6, F6⟩ : ∃ fd, Fn K "ends_of" sEndsOf (ga K "ends_of") fd := c.d.def_ 6 (d := dOf "ends_of" sEndsOf) rfl
  obtain ⟨d7, F7⟩ : ∃ fd, Fn K "unsound_three" sUnsoundThree (ga K "unsound_three") fd := c.d.def_ 7 (d := dOf "unsound_three" sUnsoundThree) rfl
  obtain ⟨d8, F8⟩ : ∃ fd, FunD K "__init__" "Merger.__init__" (defArgs sMergerInit) (defBody sMergerInit) (defScope sMergerInit) [] [] (ma K (ga K "Merger") "__init__") fd := c.d.def_ 8 (d := ⟨("Merger", some "__init__"), "__init__", "Merger.__init__", defArgs sMergerInit, defBody sMergerInit, defScope sMergerInit, [], []⟩) rfl
  obtain ⟨d9, F9⟩ : ∃ fd, Fn K "need_command" sNeedCommand (ga K "need_command") fd := c.d.def_ 9 (d := dOf "need_command" sNeedCommand) rfl
  obtain ⟨d10, F10⟩ : ∃ fd, Fn K "merged" sMerged (ga K "merged") fd := c.d.def_ 10 (d := dOf "merged" sMerged) rfl
  obtain ⟨d11, F11⟩ : ∃ fd, Fn K "check_queue" sCheckQueue (ga K "check_queue") fd := c.d.def_ 11 (d := dOf "check_queue" sCheckQueue) rfl
  obtain ⟨d12, F12⟩ : ∃ fd, Fn K "places_of" sPlacesOf (ga K "places_of") fd := c.d.def_ 12 (d := dOf "places_of" sPlacesOf) rfl
  obtain ⟨d13, F13⟩ : ∃ fd, Fn K "mergeable_places" sMergeablePlaces (ga K "mergeable_places") fd := c.d.def_ 13 (d := dOf "mergeable_places" sMergeablePlaces) rfl
  obtain ⟨d14, F14⟩ : ∃ fd, Fn K "is_folded" sIsFolded (ga K "is_folded") fd := c.d.def_ 14 (d := dOf "is_folded" sIsFolded) rfl
  obtain ⟨d15, F15⟩ : ∃ fd, Fn K "is_table" sIsTable (ga K "is_table") fd := c.d.def_ 15 (d := dOf "is_table" sIsTable) rfl
  obtain ⟨d16, F16⟩ : ∃ fd, Fn K "check_machine" sCheckMachine (ga K "check_machine") fd := c.d.def_ 16 (d := dOf "check_machine" sCheckMachine) rfl
  obtain ⟨d17, F17⟩ : ∃ fd, Fn K "done_by" sDoneBy (ga K "done_by") fd := c.d.def_ 17 (d := dOf "done_by" sDoneBy) rfl
  obtain ⟨d18, F18⟩ : ∃ fd, Fn K "done_table" sDoneTable (ga K "done_table") fd := c.d.def_ 18 (d := dOf "done_table" sDoneTable) rfl
  obtain ⟨d19, F19⟩ : ∃ fd, Fn K "machine_merger" sMachineMerger (ga K "machine_merger") fd := c.d.def_ 19 (d := dOf "machine_merger" sMachineMerger) rfl
  obtain ⟨d20, F20⟩ : ∃ fd, Fn K "_law_box" sBox (ga K "_law_box") fd := c.d.def_ 20 (d := dOf "_law_box" sBox) rfl
  obtain ⟨d21, F21⟩ : ∃ fd, Fn K "_law_take" sTake (ga K "_law_take") fd := c.d.def_ 21 (d := dOf "_law_take" sTake) rfl
  obtain ⟨d22, F22⟩ : ∃ fd, Fn K "_law_pick" sPick (ga K "_law_pick") fd := c.d.def_ 22 (d := dOf "_law_pick" sPick) rfl
  obtain ⟨d23, F23⟩ : ∃ fd, Fn K "_law_maps" sMaps (ga K "_law_maps") fd := c.d.def_ 23 (d := dOf "_law_maps" sMaps) rfl
  obtain ⟨d24, F24⟩ : ∃ fd, Fn K "_law_rows_of" sRowsOf (ga K "_law_rows_of") fd := c.d.def_ 24 (d := dOf "_law_rows_of" sRowsOf) rfl
  obtain ⟨d25, F25⟩ : ∃ fd, Fn K "_law_against" sAgainst (ga K "_law_against") fd := c.d.def_ 25 (d := dOf "_law_against" sAgainst) rfl
  obtain ⟨d26, F26⟩ : ∃ fd, Fn K "_law_done" sDone (ga K "_law_done") fd := c.d.def_ 26 (d := dOf "_law_done" sDone) rfl
  obtain ⟨d27, F27⟩ : ∃ fd, Fn K "_law_heard" sHeard (ga K "_law_heard") fd := c.d.def_ 27 (d := dOf "_law_heard" sHeard) rfl
  obtain ⟨d28, F28⟩ : ∃ fd, Fn K "_law_played_right" sPlayed (ga K "_law_played_right") fd := c.d.def_ 28 (d := dOf "_law_played_right" sPlayed) rfl
  obtain ⟨d29, F29⟩ : ∃ fd, Fn K "_law_none_right" sNone (ga K "_law_none_right") fd := c.d.def_ 29 (d := dOf "_law_none_right" sNone) rfl
  obtain ⟨d30, F30⟩ : ∃ fd, Fn K "law" sLaw (ga K "law") fd := c.d.def_ 30 (d := dOf "law" sLaw) rfl
  have g0 : mg "is_integer" = some (.ref (ga K "is_integer")) := He.glo_ok X G (c.d.fact 0 (f := .glo "is_integer") rfl)
  have g1 : mg "is_number" = some (.ref (ga K "is_number")) := He.glo_ok X G (c.d.fact 1 (f := .glo "is_number") rfl)
  have g2 : mg "is_below" = some (.ref (ga K "is_below")) := He.glo_ok X G (c.d.fact 2 (f := .glo "is_below") rfl)
  have g3 : mg "is_sequence" = some (.ref (ga K "is_sequence")) := He.glo_ok X G (c.d.fact 3 (f := .glo "is_sequence") rfl)
  have g4 : mg "is_end" = some (.ref (ga K "is_end")) := He.glo_ok X G (c.d.fact 4 (f := .glo "is_end") rfl)
  have g5 : mg "check_rows" = some (.ref (ga K "check_rows")) := He.glo_ok X G (c.d.fact 5 (f := .glo "check_rows") rfl)
  have g6 : mg "ends_of" = some (.ref (ga K "ends_of")) := He.glo_ok X G (c.d.fact 6 (f := .glo "ends_of") rfl)
  have g7 : mg "unsound_three" = some (.ref (ga K "unsound_three")) := He.glo_ok X G (c.d.fact 7 (f := .glo "unsound_three") rfl)
  have g8 : mg "Merger" = some (.ref (ga K "Merger")) := He.glo_ok X G (c.d.fact 8 (f := .glo "Merger") rfl)
  have g9 : mg "need_command" = some (.ref (ga K "need_command")) := He.glo_ok X G (c.d.fact 9 (f := .glo "need_command") rfl)
  have g10 : mg "merged" = some (.ref (ga K "merged")) := He.glo_ok X G (c.d.fact 10 (f := .glo "merged") rfl)
  have g11 : mg "check_queue" = some (.ref (ga K "check_queue")) := He.glo_ok X G (c.d.fact 11 (f := .glo "check_queue") rfl)
  have g12 : mg "places_of" = some (.ref (ga K "places_of")) := He.glo_ok X G (c.d.fact 12 (f := .glo "places_of") rfl)
  have g13 : mg "mergeable_places" = some (.ref (ga K "mergeable_places")) := He.glo_ok X G (c.d.fact 13 (f := .glo "mergeable_places") rfl)
  have g14 : mg "is_folded" = some (.ref (ga K "is_folded")) := He.glo_ok X G (c.d.fact 14 (f := .glo "is_folded") rfl)
  have g15 : mg "is_table" = some (.ref (ga K "is_table")) := He.glo_ok X G (c.d.fact 15 (f := .glo "is_table") rfl)
  have g16 : mg "check_machine" = some (.ref (ga K "check_machine")) := He.glo_ok X G (c.d.fact 16 (f := .glo "check_machine") rfl)
  have g17 : mg "done_by" = some (.ref (ga K "done_by")) := He.glo_ok X G (c.d.fact 17 (f := .glo "done_by") rfl)
  have g18 : mg "done_table" = some (.ref (ga K "done_table")) := He.glo_ok X G (c.d.fact 18 (f := .glo "done_table") rfl)
  have g19 : mg "machine_merger" = some (.ref (ga K "machine_merger")) := He.glo_ok X G (c.d.fact 19 (f := .glo "machine_merger") rfl)
  have g20 : mg "_law_box" = some (.ref (ga K "_law_box")) := He.glo_ok X G (c.d.fact 20 (f := .glo "_law_box") rfl)
  have g21 : mg "_law_take" = some (.ref (ga K "_law_take")) := He.glo_ok X G (c.d.fact 21 (f := .glo "_law_take") rfl)
  have g22 : mg "_law_pick" = some (.ref (ga K "_law_pick")) := He.glo_ok X G (c.d.fact 22 (f := .glo "_law_pick") rfl)
  have g23 : mg "_law_maps" = some (.ref (ga K "_law_maps")) := He.glo_ok X G (c.d.fact 23 (f := .glo "_law_maps") rfl)
  have g24 : mg "_law_rows_of" = some (.ref (ga K "_law_rows_of")) := He.glo_ok X G (c.d.fact 24 (f := .glo "_law_rows_of") rfl)
  have g25 : mg "_law_against" = some (.ref (ga K "_law_against")) := He.glo_ok X G (c.d.fact 25 (f := .glo "_law_against") rfl)
  have g26 : mg "_law_done" = some (.ref (ga K "_law_done")) := He.glo_ok X G (c.d.fact 26 (f := .glo "_law_done") rfl)
  have g27 : mg "_law_heard" = some (.ref (ga K "_law_heard")) := He.glo_ok X G (c.d.fact 27 (f := .glo "_law_heard") rfl)
  have g28 : mg "_law_played_right" = some (.ref (ga K "_law_played_right")) := He.glo_ok X G (c.d.fact 28 (f := .glo "_law_played_right") rfl)
  have g29 : mg "_law_none_right" = some (.ref (ga K "_law_none_right")) := He.glo_ok X G (c.d.fact 29 (f := .glo "_law_none_right") rfl)
  have g30 : mg "law" = some (.ref (ga K "law")) := He.glo_ok X G (c.d.fact 30 (f := .glo "law") rfl)
  have r0 : mg "isinstance" = none := He.free_ok X G (c.d.fact 31 (f := .free "isinstance") rfl)
  have r1 : mg "int" = none := He.free_ok X G (c.d.fact 32 (f := .free "int") rfl)
  have r2 : mg "bool" = none := He.free_ok X G (c.d.fact 33 (f := .free "bool") rfl)
  have r3 : mg "list" = none := He.free_ok X G (c.d.fact 34 (f := .free "list") rfl)
  have r4 : mg "tuple" = none := He.free_ok X G (c.d.fact 35 (f := .free "tuple") rfl)
  have r5 : mg "len" = none := He.free_ok X G (c.d.fact 36 (f := .free "len") rfl)
  have r6 : mg "all" = none := He.free_ok X G (c.d.fact 37 (f := .free "all") rfl)
  have r7 : mg "enumerate" = none := He.free_ok X G (c.d.fact 38 (f := .free "enumerate") rfl)
  have r8 : mg "range" = none := He.free_ok X G (c.d.fact 39 (f := .free "range") rfl)
  have r9 : mg "zip" = none := He.free_ok X G (c.d.fact 40 (f := .free "zip") rfl)
  have r10 : mg "abs" = none := He.free_ok X G (c.d.fact 41 (f := .free "abs") rfl)
  have r11 : mg "repr" = none := He.free_ok X G (c.d.fact 42 (f := .free "repr") rfl)
  have B : Blt mg := ⟨r0, r1, r2, r3, r4, r5, r6, r7, r8, r9, r10, r11⟩
  obtain ⟨t0, m0⟩ : ∃ t, mg "MOST_COMMANDS" = some (.int 12 t) := He.int_ok X G (c.d.fact 43 (f := .int "MOST_COMMANDS" 12) rfl)
  obtain ⟨t1, m1⟩ : ∃ t, mg "MOST_QUEUE" = some (.int 10000 t) := He.int_ok X G (c.d.fact 44 (f := .int "MOST_QUEUE" 10000) rfl)
  obtain ⟨t2, m2⟩ : ∃ t, mg "MOST_STATES" = some (.int 60 t) := He.int_ok X G (c.d.fact 45 (f := .int "MOST_STATES" 60) rfl)
  obtain ⟨t3, m3⟩ : ∃ t, mg "GONE" = some (.int (-1) t) := He.int_ok X G (c.d.fact 46 (f := .int "GONE" (-1)) rfl)
  have MM : MCls K (ga K "Merger") := ⟨He.cls_ok (c.d.fact 47 (f := .cls "Merger") rfl), He.noat_ok (c.d.fact 48 (f := .noat "Merger" "commands") rfl), He.noat_ok (c.d.fact 49 (f := .noat "Merger" "rows") rfl)⟩
  have MK : Mk K (ga K "Merger") (ma K (ga K "Merger") "__init__") := He.mkr_ok (c.d.fact 50 (f := .mkr "Merger") rfl)
  have h0 : mg "FoldError" = some (.ref (ga K "FoldError")) := He.glo_ok X G (c.d.fact 51 (f := .glo "FoldError") rfl)
  have h1 : mg "BadHouse" = some (.ref (ga K "BadHouse")) := He.glo_ok X G (c.d.fact 52 (f := .glo "BadHouse") rfl)
  have h2 : mg "BadQueue" = some (.ref (ga K "BadQueue")) := He.glo_ok X G (c.d.fact 53 (f := .glo "BadQueue") rfl)
  have e0 := He.exm_ok (c.d.fact 54 (f := .exm "BadHouse" "BadHouse" true) rfl)
  have e1 := He.exm_ok (c.d.fact 55 (f := .exm "BadQueue" "BadHouse" false) rfl)
  have e2 := He.exm_ok (c.d.fact 56 (f := .exm "BadQueue" "BadQueue" true) rfl)
  have C0 : Cal K mg "is_integer" (ga K "is_integer") d0 ["value"] := ⟨g0, F0.kp, F0.bindsN (ps := ["value"]) fun _ _ _ _ _ _ us hl => match us, hl with | [_], _ => rfl⟩
  have C1 : Cal K mg "is_number" (ga K "is_number") d1 ["value"] := ⟨g1, F1.kp, F1.bindsN (ps := ["value"]) fun _ _ _ _ _ _ us hl => match us, hl with | [_], _ => rfl⟩
  have C2 : Cal K mg "is_below" (ga K "is_below") d2 ["value", "most"] := ⟨g2, F2.kp, F2.bindsN (ps := ["value", "most"]) fun _ _ _ _ _ _ us hl => match us, hl with | [_, _], _ => rfl⟩
  have C3 : Cal K mg "is_sequence" (ga K "is_sequence") d3 ["value"] := ⟨g3, F3.kp, F3.bindsN (ps := ["value"]) fun _ _ _ _ _ _ us hl => match us, hl with | [_], _ => rfl⟩
  have C4 : Cal K mg "is_end" (ga K "is_end") d4 ["value", "many"] := ⟨g4, F4.kp, F4.bindsN (ps := ["value", "many"]) fun _ _ _ _ _ _ us hl => match us, hl with | [_, _], _ => rfl⟩
  have C5 : Cal K mg "check_rows" (ga K "check_rows") d5 ["rows"] := ⟨g5, F5.kp, F5.bindsN (ps := ["rows"]) fun _ _ _ _ _ _ us hl => match us, hl with | [_], _ => rfl⟩
  have C6 : Cal K mg "ends_of" (ga K "ends_of") d6 ["rows", "one", "middle", "other"] := ⟨g6, F6.kp, F6.bindsN (ps := ["rows", "one", "middle", "other"]) fun _ _ _ _ _ _ us hl => match us, hl with | [_, _, _, _], _ => rfl⟩
  have C7 : Cal K mg "unsound_three" (ga K "unsound_three") d7 ["rows"] := ⟨g7, F7.kp, F7.bindsN (ps := ["rows"]) fun _ _ _ _ _ _ us hl => match us, hl with | [_], _ => rfl⟩
  have b8 := F8.bindsN (ps := ["self", "rows"]) fun _ _ _ _ _ _ us hl => match us, hl with | [_, _], _ => rfl
  have C9 : Cal K mg "need_command" (ga K "need_command") d9 ["merger", "command"] := ⟨g9, F9.kp, F9.bindsN (ps := ["merger", "command"]) fun _ _ _ _ _ _ us hl => match us, hl with | [_, _], _ => rfl⟩
  have C10 : Cal K mg "merged" (ga K "merged") d10 ["merger", "one", "other"] := ⟨g10, F10.kp, F10.bindsN (ps := ["merger", "one", "other"]) fun _ _ _ _ _ _ us hl => match us, hl with | [_, _, _], _ => rfl⟩
  have C11 : Cal K mg "check_queue" (ga K "check_queue") d11 ["merger", "value"] := ⟨g11, F11.kp, F11.bindsN (ps := ["merger", "value"]) fun _ _ _ _ _ _ us hl => match us, hl with | [_, _], _ => rfl⟩
  have C12 : Cal K mg "places_of" (ga K "places_of") d12 ["rows", "queue"] := ⟨g12, F12.kp, F12.bindsN (ps := ["rows", "queue"]) fun _ _ _ _ _ _ us hl => match us, hl with | [_, _], _ => rfl⟩
  have C13 : Cal K mg "mergeable_places" (ga K "mergeable_places") d13 ["merger", "queue"] := ⟨g13, F13.kp, F13.bindsN (ps := ["merger", "queue"]) fun _ _ _ _ _ _ us hl => match us, hl with | [_, _], _ => rfl⟩
  have C14 : Cal K mg "is_folded" (ga K "is_folded") d14 ["merger", "queue"] := ⟨g14, F14.kp, F14.bindsN (ps := ["merger", "queue"]) fun _ _ _ _ _ _ us hl => match us, hl with | [_, _], _ => rfl⟩
  have C15 : Cal K mg "is_table" (ga K "is_table") d15 ["value", "states"] := ⟨g15, F15.kp, F15.bindsN (ps := ["value", "states"]) fun _ _ _ _ _ _ us hl => match us, hl with | [_, _], _ => rfl⟩
  have C16 : Cal K mg "check_machine" (ga K "check_machine") d16 ["value"] := ⟨g16, F16.kp, F16.bindsN (ps := ["value"]) fun _ _ _ _ _ _ us hl => match us, hl with | [_], _ => rfl⟩
  have C17 : Cal K mg "done_by" (ga K "done_by") d17 ["tables", "queue"] := ⟨g17, F17.kp, F17.bindsN (ps := ["tables", "queue"]) fun _ _ _ _ _ _ us hl => match us, hl with | [_, _], _ => rfl⟩
  have C18 : Cal K mg "done_table" (ga K "done_table") d18 ["tables", "queue"] := ⟨g18, F18.kp, F18.bindsN (ps := ["tables", "queue"]) fun _ _ _ _ _ _ us hl => match us, hl with | [_, _], _ => rfl⟩
  have C19 : Cal K mg "machine_merger" (ga K "machine_merger") d19 ["tables"] := ⟨g19, F19.kp, F19.bindsN (ps := ["tables"]) fun _ _ _ _ _ _ us hl => match us, hl with | [_], _ => rfl⟩
  have C20 : Cal K mg "_law_box" (ga K "_law_box") d20 ["_law_script", "_law_k"] := ⟨g20, F20.kp, F20.bindsN (ps := ["_law_script", "_law_k"]) fun _ _ _ _ _ _ us hl => match us, hl with | [_, _], _ => rfl⟩
  have C21 : Cal K mg "_law_take" (ga K "_law_take") d21 ["_law_box_here", "_law_many"] := ⟨g21, F21.kp, F21.bindsN (ps := ["_law_box_here", "_law_many"]) fun _ _ _ _ _ _ us hl => match us, hl with | [_, _], _ => rfl⟩
  have C22 : Cal K mg "_law_pick" (ga K "_law_pick") d22 ["_law_box_here", "_law_some"] := ⟨g22, F22.kp, F22.bindsN (ps := ["_law_box_here", "_law_some"]) fun _ _ _ _ _ _ us hl => match us, hl with | [_, _], _ => rfl⟩
  have C23 : Cal K mg "_law_maps" (ga K "_law_maps") d23 ["_law_box_here", "_law_most"] := ⟨g23, F23.kp, F23.bindsN (ps := ["_law_box_here", "_law_most"]) fun _ _ _ _ _ _ us hl => match us, hl with | [_, _], _ => rfl⟩
  have C24 : Cal K mg "_law_rows_of" (ga K "_law_rows_of") d24 ["_law_maps_here"] := ⟨g24, F24.kp, F24.bindsN (ps := ["_law_maps_here"]) fun _ _ _ _ _ _ us hl => match us, hl with | [_], _ => rfl⟩
  have C25 : Cal K mg "_law_against" (ga K "_law_against") d25 ["_law_rows"] := ⟨g25, F25.kp, F25.bindsN (ps := ["_law_rows"]) fun _ _ _ _ _ _ us hl => match us, hl with | [_], _ => rfl⟩
  have C26 : Cal K mg "_law_done" (ga K "_law_done") d26 ["_law_maps_here", "_law_queue"] := ⟨g26, F26.kp, F26.bindsN (ps := ["_law_maps_here", "_law_queue"]) fun _ _ _ _ _ _ us hl => match us, hl with | [_, _], _ => rfl⟩
  have C27 : Cal K mg "_law_heard" (ga K "_law_heard") d27 ["_law_ask"] := ⟨g27, F27.kp, F27.bindsN (ps := ["_law_ask"]) fun _ _ _ _ _ _ us hl => match us, hl with | [_], _ => rfl⟩
  have C28 : Cal K mg "_law_played_right" (ga K "_law_played_right") d28 ["_law_box_here", "_law_maps_here", "_law_merger"] := ⟨g28, F28.kp, F28.bindsN (ps := ["_law_box_here", "_law_maps_here", "_law_merger"]) fun _ _ _ _ _ _ us hl => match us, hl with | [_, _, _], _ => rfl⟩
  have C29 : Cal K mg "_law_none_right" (ga K "_law_none_right") d29 ["_law_box_here", "_law_maps_here"] := ⟨g29, F29.kp, F29.bindsN (ps := ["_law_box_here", "_law_maps_here"]) fun _ _ _ _ _ _ us hl => match us, hl with | [_, _], _ => rfl⟩
  have e := hfa.symm.trans g30
  cases e
  have more := c.more
  unfold exL at more
  simp only [Bool.and_eq_true] at more
  obtain ⟨x1, x2, x3, x4, x5, x6, x7, x8, x9, x10, x11⟩ := more
  have TH : Heard (PySem.Challenge.rw_foursfold_k02_whole_machines_whatever_is).prog K mg (ga K "BadHouse") (ga K "BadQueue") (ga K "FoldError") (ma K (ga K "BadHouse") "__init__") (ma K (ga K "BadQueue") "__init__") :=
    ⟨badT_of (st := sBadHouse) h1 x1 c.xh (eqO_ok x3) (of_decide_eq_true x4) (eqO_ok x5) (eqO_ok x6) (by decide +kernel) rfl rfl rfl rfl (by rfl),
      badT_of (st := sBadQueue) h2 x2 c.xq (eqO_ok x3) (of_decide_eq_true x4) (eqO_ok x5) (eqO_ok x6) (by decide +kernel) rfl rfl rfl rfl (by rfl), h0, e0, e1, e2, of_decide_eq_true x10, of_decide_eq_true x11⟩
  have IC : C8.InsC K (ga K "Merger") := ⟨MM.cl, eqO_ok x7, eqO_ok x3, of_decide_eq_true x4, of_decide_eq_true x8, of_decide_eq_true x9⟩
  have bl := F30.bindsA (ps := ["_law_script"]) fun _ _ _ _ _ _ us hl => match us, hl with | [_], _ => rfl
  refine ⟨d30, fun s u => bl s [u] rfl, fun base _ _ TB => ?_⟩
  have tb := TB _ (List.mem_singleton.mpr rfl)
  have FN : FnC K "_law_none_right" sNone (ga K "_law_none_right") d29 (cT K ("_law_none_right", none)).1 := by
    obtain ⟨oc, od, dV, kV, doc, pm, an, cdv, ct, osl, rfl, lk, hcd, _, _⟩ := F29.ex
    obtain ⟨cc, rfl⟩ := He.codeIn_ref hcd
    have ec : codeOf K ("_law_none_right", none) = cc := He.codeOf_eq lk rfl
    refine ⟨oc, od, dV, kV, doc, pm, an, ct, osl, ?_, lk, ?_⟩
    · show _ = PySem.W.fnOf _ _ _ _ _ _ _ _ _ _ (.ref (codeOf K ("_law_none_right", none))) _
      rw [ec]
    · show PySem.W.codeIn K (.ref (codeOf K ("_law_none_right", none))) _ = true
      rw [ec]
      exact hcd
  have G0 := ok_is_integer (P := (PySem.Challenge.rw_foursfold_k02_whole_machines_whatever_is).prog) (w := w) (base := base) F0 B
  have G1 := ok_is_number (P := (PySem.Challenge.rw_foursfold_k02_whole_machines_whatever_is).prog) (w := w) (base := base) F1 F0 g0 B
  have G2 := ok_is_below F2 G1 F1.kp C1.b g1
  have G3 := ok_is_sequence (P := (PySem.Challenge.rw_foursfold_k02_whole_machines_whatever_is).prog) (w := w) (base := base) F3 B
  have G4 := ok_is_end F4 G0 C0 m3
  have G5 := ok_check_rows F5 B G3 C3 G4 C4 m0
  have G6 := ok_ends_of (P := (PySem.Challenge.rw_foursfold_k02_whole_machines_whatever_is).prog) (w := w) (base := base) F6 m3
  have G7 := ok_unsound_three F7 B G6 C6
  have G8 := ok_merger_init F8 B MM G5 C5 G7 C7
  have G9 := ok_need_command F9 MM G2 C2
  have G10 := ok_merged F10 MM G9 C9
  have G11 := ok_check_queue F11 B MM G2 C2 G3 C3 m1
  have G12 := ok_places_of (P := (PySem.Challenge.rw_foursfold_k02_whole_machines_whatever_is).prog) (w := w) (base := base) F12 B
  have G13 := ok_mergeable_places F13 MM G12 C12 G11 C11
  have G14 := ok_is_folded F14 B G13 C13
  have G15 := ok_is_table F15 B G3 C3 G2 C2
  have G16 := ok_check_machine F16 B TH.th G3 C3 G15 C15 m0 m2
  have G17 := ok_done_by (P := (PySem.Challenge.rw_foursfold_k02_whole_machines_whatever_is).prog) (w := w) (base := base) F17 B
  have G18 := ok_done_table F18 B TH.tq G16 C16 G3 C3 G2 C2 G17 C17 m1
  have G19 := ok_machine_merger F19 B G16 C16 G17 C17 m3 MK G8 g8 b8
  have G20 := ok_box (P := (PySem.Challenge.rw_foursfold_k02_whole_machines_whatever_is).prog) (w := w) (base := base) F20 B
  have G21 := ok_take (P := (PySem.Challenge.rw_foursfold_k02_whole_machines_whatever_is).prog) (w := w) (base := base) F21 B
  have G22 := ok_pick F22 B G21 C21
  have G23 := ok_maps F23 B G21 C21 G22 C22
  have G24 := ok_rows_of (P := (PySem.Challenge.rw_foursfold_k02_whole_machines_whatever_is).prog) (w := w) (base := base) F24 B
  have G25 := ok_against (P := (PySem.Challenge.rw_foursfold_k02_whole_machines_whatever_is).prog) (w := w) (base := base) F25 B
  have G26 := ok_done (P := (PySem.Challenge.rw_foursfold_k02_whole_machines_whatever_is).prog) (w := w) (base := base) F26 B
  have G28 := ok_played F28 B G21 C21 G22 C22 G26 C26 G18 C18 F18 G13 C13 G10 C10 G14 C14
  have G29 := ok_none FN tb B TH F27 C27 G16 C16 F16 G19 C19 F19 G18 C18 G21 C21 G22 C22
  exact ok_law F30 B MM IC g8 G16 C16 F16 G19 C19 F19 G20 C20 G23 C23 G21 C21 G24 C24 G25 C25 G28 C28 G29 C29
/-- the walk -/
theorem walkL : PySem.W.WalkO (PySem.W.view R.prog [45]) looseL (PySem.W.XL (PySem.W.view R.prog [45]) []) hkL.says R.toRowW (HandSHeadRun.topDef R.prog 45) [] (fun f vs => PySem.call f vs) := by
  refine Att.attach_callB (l := PySem.Challenge.rw_foursfold_k02_whole_machines_whatever_is) (n := 63) rfl (by kernel_rfl) fun w s₀ s₁ mg mb fa o pm cd doc a vs ns G Y ho hd hcd hmg0 hobj hints hlen hbits hg => ?_
  obtain ⟨K, KX, c⟩ := Y
  have hmg : mg ("law" : Str) = some (.ref fa) := by
    have e : (HandSHeadRun.topDef R.prog 45).name = ("law" : Str) := by kernel_rfl
    rw [← e]
    exact hmg0
  obtain ⟨fd, hb, hF⟩ := facts (w := w) KX G.T.g hmg c
  refine call_law (cs := [cT K ("_law_none_right", none)]) (k := 11) (x := "_law_script") KX G.T.g G.T.b G.T.builtins G.T.nolimit hg (fun p hp => ?_) (fun p hp => ?_) (fun p hp => ?_) G.T.bmain hobj hints (Nat.le_trans hlen (by decide)) ⟨rfl, by decide, by decide⟩ hF hb fun H hH hS => ?_
  · rw [List.mem_singleton.mp hp]
    exact c.empty _ (List.mem_singleton.mpr rfl)
  · rw [List.mem_singleton.mp hp]
    exact c.out _ (List.mem_singleton.mpr rfl)
  · rw [List.mem_singleton.mp hp]
    exact PySem.W.codeHd_of_K KX (c.hd _ (List.mem_singleton.mpr rfl))
  · refine ⟨a, ns, rfl, hS, hlen, fun p hp => ?_, fun _ => rfl⟩
    rw [List.mem_singleton.mp hp]
    exact LamX.TabS.nil (hH _ (List.mem_singleton.mpr rfl))
end K2
end
set_option maxHeartbeats 0
open PySem PySem.W PySem.Calls PyProof.Rows
theorem PySem.Challenge.cw_foursfold_k02_whole_machines_whatever_is_holds : PySem.Challenge.rw_foursfold_k02_whole_machines_whatever_is.Holds := by
  w_on; o_law
  refine HandSHeadRun.head_any (r := OpenLaw.row PySem.Challenge.rw_foursfold_k02_whole_machines_whatever_is) (q := view (OpenLaw.row PySem.Challenge.rw_foursfold_k02_whole_machines_whatever_is).prog [45]) (H := K2.hkL) (ob := K2.obL) (M := 20000) (loose := K2.looseL)
    (d := HandSHeadRun.topDef (OpenLaw.row PySem.Challenge.rw_foursfold_k02_whole_machines_whatever_is).prog 45) (kwd := []) K2.obL_eq
    (by kernel_rfl) (fun s => by kernel_rfl) K2.runL (by kernel_rfl) (by kernel_rfl) (by kernel_rfl) (by rfl) (by first | assumption | decide +kernel) (by decide +kernel) ⟨rfl, rfl, rfl, rfl, rfl, by decide +kernel⟩ ?hw ?hc
  case hw => w_witness2
  case hc => exact K2.walkL
