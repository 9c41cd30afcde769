import PyProof.Rows.All
import Wide.All
import OpenK.AllK
import Wide.FinOn
import HandS.ForMost
import HandS.Wide
import HandS.TupAny
import HandS.Walk
import HandS.More
import HandS.Strs
import KE.KDictCopyH
import KE.GoesMore
import PySem.Challenge.RW_signpoly_k06_whole_moves_undone
set_option Elab.async false
set_option linter.all false
set_option maxRecDepth 100000
set_option maxHeartbeats 4000000
namespace K6
/-! ### lists by their places -/
def tab {α : Type} (N : Nat) (g : Nat → α) : List α := (List.range N).map g
theorem tab_len {α : Type} (N : Nat) (g : Nat → α) : (tab N g).length = N := by unfold tab; simp
theorem tab_get {α : Type} {N i : Nat} (g : Nat → α) (h : i < N) : (tab N g)[i]? = some (g i) := by
  unfold tab; simp [h]
theorem tab_getD {α : Type} {N i : Nat} (g : Nat → α) (d : α) (h : i < N) : (tab N g).getD i d = g i := by
  rw [List.getD_eq_getElem?_getD, tab_get g h]; rfl
theorem tab_congr {α : Type} {N : Nat} {g g' : Nat → α} (h : ∀ i, i < N → g i = g' i) : tab N g = tab N g' := by
  unfold tab
  exact List.map_congr_left fun i hi => h i (List.mem_range.mp hi)
theorem tab_succ {α : Type} (N : Nat) (g : Nat → α) : tab (N + 1) g = tab N g ++ [g N] := by
  unfold tab; rw [List.range_succ, List.map_append]; rfl
theorem tab_map {α β : Type} (N : Nat) (g : Nat → α) (u : α → β) : (tab N g).map u = tab N fun i => u (g i) := by
  unfold tab; rw [List.map_map]; rfl
theorem getD_lt {α : Type} {f : List α} {i : Nat} (d : α) (h : i < f.length) : f[i]? = some (f.getD i d) := by
  rw [List.getD_eq_getElem?_getD, List.getElem?_eq_getElem h]; rfl
theorem tab_self {α : Type} (f : List α) (d : α) : tab f.length (fun i => f.getD i d) = f := by
  apply List.ext_getElem?
  intro i
  by_cases h : i < f.length
  · rw [tab_get _ h, getD_lt d h]
  · rw [List.getElem?_eq_none (by rw [tab_len]; omega), List.getElem?_eq_none (by omega)]
theorem tab_eq {α : Type} {f : List α} {N : Nat} {g : Nat → α} (d : α) (hl : f.length = N) (h : ∀ i, i < N → g i = f.getD i d) : tab N g = f := by
  subst hl
  rw [tab_congr h]
  exact tab_self f d
theorem tab_mem {α : Type} {N : Nat} {g : Nat → α} {x : α} (h : x ∈ tab N g) : ∃ i, i < N ∧ x = g i := by
  unfold tab at h
  obtain ⟨i, hi, e⟩ := List.mem_map.mp h
  exact ⟨i, List.mem_range.mp hi, e.symm⟩

/-! ### masks -/
/-- the row in which just these switches are on -/
def mk (l : List Nat) : Nat := (l.map fun k => 2 ^ k).sum
theorem mk_cons (k : Nat) (l : List Nat) : mk (k :: l) = 2 ^ k + mk l := by unfold mk; rw [List.map_cons, List.sum_cons]
theorem add_pow_testBit {x k : Nat} (h : x.testBit k = false) (i : Nat) : (2 ^ k + x).testBit i = (decide (i = k) || x.testBit i) := by
  have hd : x = 2 ^ (k + 1) * (x / 2 ^ (k + 1)) + x % 2 ^ (k + 1) := (Nat.div_add_mod _ _).symm
  have hr : x % 2 ^ (k + 1) < 2 ^ k := by
    rw [Nat.mod_pow_succ]
    have z : x / 2 ^ k % 2 = 0 := by
      rw [Nat.testBit_eq_decide_div_mod_eq] at h
      have h' : ¬ x / 2 ^ k % 2 = 1 := of_decide_eq_false h
      omega
    rw [z, Nat.mul_zero, Nat.add_zero]
    exact Nat.mod_lt _ (Nat.two_pow_pos k)
  have hp : 2 ^ (k + 1) = 2 ^ k + 2 ^ k := by rw [Nat.pow_succ]; omega
  have e1 : 2 ^ k + x = 2 ^ (k + 1) * (x / 2 ^ (k + 1)) + (2 ^ k * 1 + x % 2 ^ (k + 1)) := by omega
  have e2 : x.testBit i = if i < k + 1 then (x % 2 ^ (k + 1)).testBit i else (x / 2 ^ (k + 1)).testBit (i - (k + 1)) := by
    conv => lhs; rw [hd]
    exact Nat.testBit_two_pow_mul_add _ (Nat.mod_lt _ (Nat.two_pow_pos _)) i
  rw [e1, Nat.testBit_two_pow_mul_add _ (by omega), e2]
  by_cases c : i < k + 1
  · rw [if_pos c, if_pos c, Nat.testBit_two_pow_mul_add _ hr]
    by_cases c2 : i < k
    · rw [if_pos c2, decide_eq_false (by omega : ¬ i = k), Bool.false_or]
    · have e : i = k := by omega
      subst e
      rw [if_neg c2, decide_eq_true rfl, Nat.sub_self]
      rfl
  · rw [if_neg c, if_neg c, decide_eq_false (by omega : ¬ i = k), Bool.false_or]
theorem mk_bit : ∀ {l : List Nat}, l.Nodup → ∀ i, (mk l).testBit i = decide (i ∈ l)
  | [], _, i => by
    show (0 : Nat).testBit i = _
    rw [Nat.zero_testBit]
    simp
  | k :: l, hn, i => by
    obtain ⟨h1, h2⟩ := List.nodup_cons.mp hn
    rw [mk_cons, add_pow_testBit (by rw [mk_bit h2]; exact decide_eq_false h1), mk_bit h2]
    by_cases c : i = k
    · subst c; simp
    · simp [c]
theorem lt_of_bits {x n : Nat} (h : ∀ i, n ≤ i → x.testBit i = false) : x < 2 ^ n := Nat.lt_pow_two_of_testBit x h
theorem bit_ge {x n i : Nat} (h : x < 2 ^ n) (hi : n ≤ i) : x.testBit i = false := Nat.testBit_lt_two_pow (Nat.lt_of_lt_of_le h (Nat.pow_le_pow_right (by decide) hi))
theorem mk_lt {l : List Nat} {n : Nat} (hn : l.Nodup) (h : ∀ x, x ∈ l → x < n) : mk l < 2 ^ n :=
  lt_of_bits fun i hi => by
    rw [mk_bit hn]
    exact decide_eq_false fun q => by have := h i q; omega
/-! ### turned -/
section
variable {α : Type} {d : α} {f : List α} {n : Nat}
def mTurn (d : α) (f : List α) (m : Nat) : List α := tab f.length fun r => f.getD (r ^^^ m) d
theorem mTurn_len (d : α) (f : List α) (m : Nat) : (mTurn d f m).length = f.length := tab_len _ _
theorem mTurn_turn (hl : f.length = 2 ^ n) {a b : Nat} (ha : a < 2 ^ n) (hb : b < 2 ^ n) : mTurn d (mTurn d f a) b = mTurn d f (a ^^^ b) := by
  unfold mTurn
  rw [tab_len]
  refine tab_congr fun r hr => ?_
  rw [hl] at hr
  rw [tab_getD _ _ (by rw [hl]; exact Nat.xor_lt_two_pow hr hb), Nat.xor_assoc, Nat.xor_comm b a]
theorem mTurn_zero : mTurn d f 0 = f := by
  unfold mTurn
  exact tab_eq d rfl fun i _ => by rw [Nat.xor_zero]
theorem mTurn_twice (hl : f.length = 2 ^ n) {a : Nat} (ha : a < 2 ^ n) : mTurn d (mTurn d f a) a = f := by
  rw [mTurn_turn hl ha ha, Nat.xor_self, mTurn_zero]
theorem mTurn_map {β : Type} {d' : β} (u : α → β) (hu : u d = d') (m : Nat) : (mTurn d f m).map u = mTurn d' (f.map u) m := by
  unfold mTurn
  rw [tab_map, List.length_map]
  refine tab_congr fun r hr => ?_
  rw [List.getD_eq_getElem?_getD, List.getD_eq_getElem?_getD, List.getElem?_map]
  cases f[r ^^^ m]? with
  | none => exact hu
  | some x => rfl
end
/-- those in just one of both -/
theorem mk_just {n : Nat} {some_ others : List Nat} (h1 : some_.Nodup) (h2 : others.Nodup) (b1 : ∀ x, x ∈ some_ → x < n) (b2 : ∀ x, x ∈ others → x < n) :
    mk ((List.range n).filter fun k => (decide (k ∈ some_)) != (decide (k ∈ others))) = mk some_ ^^^ mk others := by
  apply Nat.eq_of_testBit_eq
  intro i
  rw [mk_bit (List.Pairwise.filter _ List.nodup_range), Nat.testBit_xor, mk_bit h1, mk_bit h2]
  by_cases a : i ∈ some_ <;> by_cases b : i ∈ others
  · simp [a, b]
  · simp [a, b, b1 i a]
  · simp [a, b, b2 i b]
  · simp [a, b]
/-! ### renamed -/
/-- as the program reckons it -/
def rbS (row : Nat) (o : List Nat) : Nat := (tab o.length fun k => (row / 2 ^ k % 2) * 2 ^ (o.getD k 0)).sum
def rbL (row : Nat) (o : List Nat) : List Nat := ((List.range o.length).filter fun k => row.testBit k).map fun k => o.getD k 0
theorem bit_mod (row k : Nat) : row / 2 ^ k % 2 = if row.testBit k then 1 else 0 := by
  rw [Nat.testBit_eq_decide_div_mod_eq]
  have := Nat.mod_lt (row / 2 ^ k) (by decide : 2 > 0)
  by_cases c : row / 2 ^ k % 2 = 1
  · simp [c]
  · simp [c]; omega
theorem sum_filter (p : Nat → Bool) (g : Nat → Nat) : ∀ l : List Nat, (l.map fun k => (if p k then 1 else 0) * 2 ^ (g k)).sum = mk ((l.filter p).map g)
  | [] => rfl
  | k :: l => by
    rw [List.map_cons, List.sum_cons, sum_filter p g l, List.filter_cons]
    by_cases c : p k = true
    · rw [if_pos c, if_pos c, List.map_cons, mk_cons, Nat.one_mul]
    · rw [if_neg c, if_neg c, Nat.zero_mul, Nat.zero_add]
theorem rbS_eq (row : Nat) (o : List Nat) : rbS row o = mk (rbL row o) := by
  unfold rbS rbL tab
  rw [← sum_filter]
  simp only [bit_mod]
theorem getD_inj {o : List Nat} (hn : o.Nodup) {i j : Nat} (hi : i < o.length) (hj : j < o.length) (e : o.getD i 0 = o.getD j 0) : i = j := by
  rw [List.getD_eq_getElem?_getD, List.getD_eq_getElem?_getD, List.getElem?_eq_getElem hi, List.getElem?_eq_getElem hj] at e
  exact (List.getElem_inj hn).mp e
theorem nodup_map_on {g : Nat → Nat} : ∀ {l : List Nat}, l.Nodup → (∀ x, x ∈ l → ∀ y, y ∈ l → g x = g y → x = y) → (l.map g).Nodup
  | [], _, _ => List.nodup_nil
  | a :: l, hn, hi => by
    obtain ⟨h1, h2⟩ := List.nodup_cons.mp hn
    rw [List.map_cons]
    refine List.nodup_cons.mpr ⟨fun hm => ?_, nodup_map_on h2 fun x hx y hy => hi x (List.mem_cons_of_mem _ hx) y (List.mem_cons_of_mem _ hy)⟩
    obtain ⟨b, hb, e⟩ := List.mem_map.mp hm
    have := hi a List.mem_cons_self b (List.mem_cons_of_mem _ hb) e.symm
    subst this
    exact h1 hb
theorem rbL_nodup (row : Nat) {o : List Nat} (hn : o.Nodup) : (rbL row o).Nodup := by
  unfold rbL
  refine nodup_map_on (List.Pairwise.filter _ List.nodup_range) fun x hx y hy e => ?_
  exact getD_inj hn (List.mem_range.mp (List.mem_filter.mp hx).1) (List.mem_range.mp (List.mem_filter.mp hy).1) e
theorem rb_at (row : Nat) {o : List Nat} (hn : o.Nodup) {k : Nat} (hk : k < o.length) : (rbS row o).testBit (o.getD k 0) = row.testBit k := by
  rw [rbS_eq, mk_bit (rbL_nodup row hn)]
  by_cases c : row.testBit k = true
  · rw [c]
    refine decide_eq_true (List.mem_map.mpr ⟨k, List.mem_filter.mpr ⟨List.mem_range.mpr hk, c⟩, rfl⟩)
  · rw [Bool.eq_false_iff.mpr c]
    refine decide_eq_false fun hm => ?_
    obtain ⟨j, hj, e⟩ := List.mem_map.mp hm
    obtain ⟨hj1, hj2⟩ := List.mem_filter.mp hj
    have := getD_inj hn (List.mem_range.mp hj1) hk e
    subst this
    exact c hj2
theorem getD_mem {o : List Nat} {k : Nat} (hk : k < o.length) : o.getD k 0 ∈ o := by
  rw [List.getD_eq_getElem?_getD, List.getElem?_eq_getElem hk]
  exact List.getElem_mem hk
theorem mem_getD {o : List Nat} {x : Nat} (h : x ∈ o) : ∃ k, k < o.length ∧ o.getD k 0 = x := by
  obtain ⟨k, hk, e⟩ := List.mem_iff_getElem.mp h
  refine ⟨k, hk, ?_⟩
  rw [List.getD_eq_getElem?_getD, List.getElem?_eq_getElem hk]
  exact e
theorem rb_lt (row : Nat) {o : List Nat} {n : Nat} (hn : o.Nodup) (h : ∀ x, x ∈ o → x < n) : rbS row o < 2 ^ n := by
  rw [rbS_eq]
  refine mk_lt (rbL_nodup row hn) fun x hx => ?_
  unfold rbL at hx
  obtain ⟨j, hj, e⟩ := List.mem_map.mp hx
  rw [← e]
  exact h _ (getD_mem (List.mem_range.mp (List.mem_filter.mp hj).1))
/-- an order of n switches -/
structure Ord (n : Nat) (o : List Nat) : Prop where
  len : o.length = n
  nd : o.Nodup
  lt : ∀ x, x ∈ o → x < n
  all : ∀ x, x < n → x ∈ o
theorem Ord.of_perm {n : Nat} {o : List Nat} (h : o.Perm (List.range n)) : Ord n o :=
  ⟨by rw [h.length_eq, List.length_range], h.nodup_iff.mpr List.nodup_range, fun x hx => List.mem_range.mp (h.mem_iff.mp hx), fun x hx => h.mem_iff.mpr (List.mem_range.mpr hx)⟩
theorem Ord.at {n : Nat} {o : List Nat} (h : Ord n o) {k : Nat} (hk : k < n) : o.getD k 0 < n := h.lt _ (getD_mem (by rw [h.len]; exact hk))
theorem Ord.rb {n : Nat} {o : List Nat} (h : Ord n o) (row : Nat) : rbS row o < 2 ^ n := rb_lt row h.nd h.lt
theorem Ord.bit {n : Nat} {o : List Nat} (h : Ord n o) (row : Nat) {k : Nat} (hk : k < n) : (rbS row o).testBit (o.getD k 0) = row.testBit k := rb_at row h.nd (by rw [h.len]; exact hk)
theorem Ord.place {n : Nat} {o : List Nat} (h : Ord n o) {x : Nat} (hx : x < n) : ∃ k, k < n ∧ o.getD k 0 = x := by
  obtain ⟨k, hk, e⟩ := mem_getD (h.all x hx)
  exact ⟨k, by rw [← h.len]; exact hk, e⟩
/-- two rows alike at each switch -/
theorem row_eq {n x y : Nat} (hx : x < 2 ^ n) (hy : y < 2 ^ n) (h : ∀ i, i < n → x.testBit i = y.testBit i) : x = y := by
  apply Nat.eq_of_testBit_eq
  intro i
  by_cases c : i < n
  · exact h i c
  · rw [bit_ge hx (by omega), bit_ge hy (by omega)]
theorem Ord.eq {n : Nat} {o : List Nat} (h : Ord n o) {x y : Nat} (hx : x < 2 ^ n) (hy : y < 2 ^ n) (e : ∀ k, k < n → x.testBit (o.getD k 0) = y.testBit (o.getD k 0)) : x = y :=
  row_eq hx hy fun i hi => by
    obtain ⟨k, hk, ek⟩ := h.place hi
    rw [← ek]
    exact e k hk
section
variable {α : Type} {d : α} {f : List α} {n : Nat}
def mRen (d : α) (f : List α) (o : List Nat) : List α := tab f.length fun r => f.getD (rbS r o) d
theorem mRen_len (d : α) (f : List α) (o : List Nat) : (mRen d f o).length = f.length := tab_len _ _
/-- by one, then by another -/
theorem mRen_ren (hl : f.length = 2 ^ n) {a b : List Nat} (ha : Ord n a) (hb : Ord n b) : mRen d (mRen d f a) b = mRen d f (b.map fun k => a.getD k 0) := by
  unfold mRen
  rw [tab_len]
  have hc : (b.map fun k => a.getD k 0).Nodup := nodup_map_on hb.nd fun x hx y hy e => getD_inj ha.nd (by rw [ha.len]; exact hb.lt x hx) (by rw [ha.len]; exact hb.lt y hy) e
  refine tab_congr fun r hr => ?_
  rw [tab_getD _ _ (by rw [hl]; exact hb.rb r)]
  have e : rbS (rbS r b) a = rbS r (b.map fun k => a.getD k 0) := by
    refine ha.eq (ha.rb _) (rb_lt r hc fun x hx => ?_) fun k hk => ?_
    · obtain ⟨y, hy, e⟩ := List.mem_map.mp hx
      rw [← e]
      exact ha.at (hb.lt y hy)
    · rw [ha.bit _ hk]
      obtain ⟨j, hj, ej⟩ := hb.place hk
      rw [← ej, hb.bit r hj]
      have hj' : j < (b.map fun k => a.getD k 0).length := by rw [List.length_map, hb.len]; exact hj
      have e2 := rb_at r hc hj'
      rw [← e2]
      congr 1
      rw [List.getD_eq_getElem?_getD (l := b.map _), List.getElem?_map, getD_lt 0 (by rw [hb.len]; exact hj)]
      rfl
  rw [e]
theorem mRen_id (hl : f.length = 2 ^ n) {c : List Nat} (hc : c = List.range n) : mRen d f c = f := by
  subst hc
  unfold mRen
  refine tab_eq d rfl fun r hr => ?_
  rw [hl] at hr
  have o : Ord n (List.range n) := .of_perm (List.Perm.refl _)
  have e : rbS r (List.range n) = r := row_eq (o.rb r) hr fun i hi => by
    have q := o.bit r hi
    rw [List.getD_eq_getElem?_getD, List.getElem?_range hi] at q
    exact q
  rw [e]
/-- there and back -/
structure Back (n : Nat) (o b : List Nat) : Prop where
  len : b.length = n
  get : ∀ k, k < n → b.getD (o.getD k 0) 0 = k
theorem Back.ord {o b : List Nat} (ho : Ord n o) (hb : Back n o b) : Ord n b := by
  have lt : ∀ j, j < n → b.getD j 0 < n := fun j hj => by
    obtain ⟨k, hk, e⟩ := ho.place hj
    rw [← e, hb.get k hk]
    exact hk
  refine ⟨hb.len, ?_, fun x hx => ?_, fun x hx => ?_⟩
  · rw [List.nodup_iff_pairwise_ne, List.pairwise_iff_getElem]
    intro i j hi hj hij e
    have e1 : b.getD i 0 = b.getD j 0 := by
      rw [List.getD_eq_getElem?_getD, List.getD_eq_getElem?_getD, List.getElem?_eq_getElem hi, List.getElem?_eq_getElem hj]
      exact e
    obtain ⟨k, hk, ek⟩ := ho.place (by rw [← hb.len]; exact hi)
    obtain ⟨k', hk', ek'⟩ := ho.place (by rw [← hb.len]; exact hj)
    rw [← ek, ← ek', hb.get k hk, hb.get k' hk'] at e1
    subst e1
    omega
  · obtain ⟨j, hj, e⟩ := mem_getD hx
    rw [← e]
    exact lt j (by rw [← hb.len]; exact hj)
  · have := hb.get x hx
    rw [← this]
    exact getD_mem (by rw [hb.len]; exact ho.at hx)
theorem Back.comp {o b : List Nat} (ho : Ord n o) (hb : Back n o b) : (b.map fun k => o.getD k 0) = List.range n := by
  apply List.ext_getElem?
  intro i
  by_cases c : i < n
  · rw [List.getElem?_map, getD_lt 0 (by rw [hb.len]; exact c), List.getElem?_range c]
    obtain ⟨k, hk, e⟩ := ho.place c
    rw [← e, hb.get k hk]
    exact congrArg some rfl
  · rw [List.getElem?_eq_none (by rw [List.length_map, hb.len]; omega), List.getElem?_eq_none (by rw [List.length_range]; omega)]
theorem mRen_back (hl : f.length = 2 ^ n) {o b : List Nat} (ho : Ord n o) (hb : Back n o b) : mRen d (mRen d f o) b = f := by
  rw [mRen_ren hl ho (hb.ord ho), mRen_id hl (hb.comp ho)]
/-- renamed and turned -/
theorem mRen_turn (hl : f.length = 2 ^ n) {o s t : List Nat} (ho : Ord n o) (hs : s.Nodup) (bs : ∀ x, x ∈ s → x < n) (ht : t.Nodup) (bt : ∀ x, x ∈ t → x < n) (h : ∀ k, k < n → (k ∈ t ↔ o.getD k 0 ∈ s)) :
    mRen d (mTurn d f (mk s)) o = mTurn d (mRen d f o) (mk t) := by
  unfold mRen mTurn
  rw [tab_len, tab_len]
  have ms := mk_lt hs bs
  have mt := mk_lt ht bt
  refine tab_congr fun r hr => ?_
  rw [hl] at hr
  rw [tab_getD _ _ (by rw [hl]; exact ho.rb r), tab_getD _ _ (by rw [hl]; exact Nat.xor_lt_two_pow hr mt)]
  have e : rbS r o ^^^ mk s = rbS (r ^^^ mk t) o := by
    refine ho.eq (Nat.xor_lt_two_pow (ho.rb r) ms) (ho.rb _) fun k hk => ?_
    rw [ho.bit _ hk, Nat.testBit_xor, Nat.testBit_xor, ho.bit r hk, mk_bit hs, mk_bit ht]
    congr 1
    by_cases c : k ∈ t
    · rw [decide_eq_true c, decide_eq_true ((h k hk).mp c)]
    · rw [decide_eq_false c, decide_eq_false fun q => c ((h k hk).mpr q)]
  rw [e]
end
/-! ### a switch more, a switch fewer -/
def wo (r k : Nat) : Nat := r / 2 ^ (k + 1) * 2 ^ k ||| r &&& (2 ^ k - 1)
def wi (r k v : Nat) : Nat := r / 2 ^ k * 2 ^ (k + 1) ||| v * 2 ^ k ||| r &&& (2 ^ k - 1)
theorem wo_bit (r k j : Nat) : (wo r k).testBit j = if j < k then r.testBit j else r.testBit (j + 1) := by
  unfold wo
  rw [Nat.testBit_or, Nat.testBit_mul_two_pow, Nat.testBit_div_two_pow, Nat.testBit_and, Nat.testBit_two_pow_sub_one]
  by_cases c : j < k
  · rw [if_pos c, decide_eq_false (by omega : ¬ k ≤ j), decide_eq_true c]
    simp
  · rw [if_neg c, decide_eq_true (by omega : k ≤ j), decide_eq_false c, show j - k + (k + 1) = j + 1 by omega]
    simp
theorem wi_bit (r k : Nat) {v : Nat} (hv : v < 2) (j : Nat) : (wi r k v).testBit j = if j < k then r.testBit j else if j = k then decide (v = 1) else r.testBit (j - 1) := by
  unfold wi
  rw [Nat.testBit_or, Nat.testBit_or, Nat.testBit_mul_two_pow, Nat.testBit_mul_two_pow, Nat.testBit_div_two_pow, Nat.testBit_and, Nat.testBit_two_pow_sub_one]
  by_cases c : j < k
  · rw [if_pos c, decide_eq_false (by omega : ¬ k ≤ j), decide_eq_false (by omega : ¬ k + 1 ≤ j), decide_eq_true c]
    simp
  · rw [if_neg c, decide_eq_true (by omega : k ≤ j), decide_eq_false c]
    by_cases c2 : j = k
    · subst c2
      rw [if_pos rfl, decide_eq_false (by omega : ¬ j + 1 ≤ j), Nat.sub_self, Nat.testBit_zero]
      have : v = 0 ∨ v = 1 := by omega
      rcases this with rfl | rfl <;> simp
    · rw [if_neg c2, decide_eq_true (by omega : k + 1 ≤ j), show j - (k + 1) + k = j - 1 by omega]
      have e : v.testBit (j - k) = false := bit_ge (n := 1) (by omega) (by omega)
      rw [e]
      simp
theorem wo_wi (r k : Nat) {v : Nat} (hv : v < 2) : wo (wi r k v) k = r := by
  apply Nat.eq_of_testBit_eq
  intro j
  rw [wo_bit, wi_bit _ _ hv, wi_bit _ _ hv]
  by_cases c : j < k
  · rw [if_pos c, if_pos c]
  · rw [if_neg c, if_neg (by omega : ¬ j + 1 < k), if_neg (by omega : ¬ j + 1 = k), Nat.add_sub_cancel]
theorem wi_wo (r k : Nat) : wi (wo r k) k (r / 2 ^ k % 2) = r := by
  have hv : r / 2 ^ k % 2 < 2 := Nat.mod_lt _ (by decide)
  apply Nat.eq_of_testBit_eq
  intro j
  rw [wi_bit _ _ hv, wo_bit, wo_bit]
  by_cases c : j < k
  · rw [if_pos c, if_pos c]
  · rw [if_neg c]
    by_cases c2 : j = k
    · subst c2
      rw [if_pos rfl, Nat.testBit_eq_decide_div_mod_eq]
    · rw [if_neg c2, if_neg (by omega : ¬ j - 1 < k), show j - 1 + 1 = j by omega]
theorem wi_wi (r : Nat) {i k a b : Nat} (h : i < k) (ha : a < 2) (hb : b < 2) : wi (wi r i a) k b = wi (wi r (k - 1) b) i a := by
  apply Nat.eq_of_testBit_eq
  intro j
  rw [wi_bit _ _ hb, wi_bit _ _ ha, wi_bit _ _ ha, wi_bit _ _ ha, wi_bit _ _ hb, wi_bit _ _ hb]
  by_cases c1 : j < i
  · rw [if_pos (by omega : j < k), if_pos c1, if_pos c1, if_pos (by omega : j < k - 1)]
  · by_cases c2 : j = i
    · subst c2
      rw [if_pos (by omega : j < k), if_neg c1, if_pos rfl, if_neg c1, if_pos rfl]
    · by_cases c3 : j < k
      · rw [if_pos c3, if_neg c1, if_neg c2, if_neg c1, if_neg c2, if_pos (by omega : j - 1 < k - 1)]
      · by_cases c4 : j = k
        · subst c4
          rw [if_neg c3, if_pos rfl, if_neg c1, if_neg c2, if_neg (by omega : ¬ j - 1 < j - 1), if_pos rfl]
        · rw [if_neg c3, if_neg c4, if_neg (by omega : ¬ j - 1 < i), if_neg (by omega : ¬ j - 1 = i), if_neg c1, if_neg c2, if_neg (by omega : ¬ j - 1 < k - 1), if_neg (by omega : ¬ j - 1 = k - 1)]
theorem wi_turn (r k : Nat) : wi r k 0 ^^^ 2 ^ k = wi r k 1 := by
  apply Nat.eq_of_testBit_eq
  intro j
  rw [Nat.testBit_xor, wi_bit _ _ (by decide), wi_bit _ _ (by decide), Nat.testBit_two_pow]
  by_cases c : j < k
  · rw [if_pos c, if_pos c, decide_eq_false (by omega : ¬ k = j), Bool.xor_false]
  · by_cases c2 : j = k
    · subst c2
      rw [if_neg c, if_neg c, if_pos rfl, if_pos rfl]
      simp
    · rw [if_neg c, if_neg c, if_neg c2, if_neg c2, decide_eq_false (by omega : ¬ k = j), Bool.xor_false]
theorem wi_lt {r k v n : Nat} (hv : v < 2) (hk : k ≤ n) (hr : r < 2 ^ n) : wi r k v < 2 ^ (n + 1) := lt_of_bits fun j hj => by
  rw [wi_bit _ _ hv, if_neg (by omega), if_neg (by omega)]
  exact bit_ge hr (by omega)
theorem wo_lt {r k n : Nat} (hk : k ≤ n) (hr : r < 2 ^ (n + 1)) : wo r k < 2 ^ n := lt_of_bits fun j hj => by
  rw [wo_bit, if_neg (by omega)]
  exact bit_ge hr (by omega)
section
variable {α : Type} {d : α} {f : List α} {n : Nat}
def mIdle (d : α) (f : List α) (k : Nat) : List α := tab (2 * f.length) fun r => f.getD (wo r k) d
def mHeld (d : α) (f : List α) (n k v : Nat) : List α := tab (2 ^ (n - 1)) fun r => f.getD (wi r k v) d
theorem mIdle_len (hl : f.length = 2 ^ n) (k : Nat) : (mIdle d f k).length = 2 ^ (n + 1) := by
  unfold mIdle
  rw [tab_len, hl, Nat.pow_succ, Nat.mul_comm]
theorem mHeld_len (n k v : Nat) : (mHeld d f n k v).length = 2 ^ (n - 1) := tab_len _ _
theorem mHeld_idle (hl : f.length = 2 ^ n) {k v : Nat} (hk : k ≤ n) (hv : v < 2) : mHeld d (mIdle d f k) (n + 1) k v = f := by
  unfold mHeld
  refine tab_eq d (by rw [hl]; rfl) fun r hr => ?_
  have hr' : r < 2 ^ n := hr
  unfold mIdle
  rw [tab_getD _ _ (by rw [hl, Nat.mul_comm, ← Nat.pow_succ]; exact wi_lt hv hk hr'), wo_wi _ _ hv]
theorem getD_map {α β : Type} (u : α → β) (l : List α) (i : Nat) (d : α) : (l.map u).getD i (u d) = u (l.getD i d) := by
  rw [List.getD_eq_getElem?_getD, List.getD_eq_getElem?_getD, List.getElem?_map]
  cases l[i]? <;> rfl
theorem mIdle_map {β : Type} {d' : β} (u : α → β) (hu : u d = d') (k : Nat) : (mIdle d f k).map u = mIdle d' (f.map u) k := by
  subst hu
  unfold mIdle
  rw [tab_map, List.length_map]
  exact tab_congr fun r _ => (getD_map u f _ d).symm
theorem mHeld_map {β : Type} {d' : β} (u : α → β) (hu : u d = d') (n k v : Nat) : (mHeld d f n k v).map u = mHeld d' (f.map u) n k v := by
  subst hu
  unfold mHeld
  rw [tab_map]
  exact tab_congr fun r _ => (getD_map u f _ d).symm
theorem mHeld_held {k i : Nat} (hn : k < n) (hi : i < k) {a b : Nat} (ha : a < 2) (hb : b < 2) : mHeld d (mHeld d f n k b) (n - 1) i a = mHeld d (mHeld d f n i a) (n - 1) (k - 1) b := by
  obtain ⟨m, rfl⟩ : ∃ m, n = m + 2 := ⟨n - 2, by omega⟩
  unfold mHeld
  refine tab_congr fun r hr => ?_
  have hr' : r < 2 ^ m := hr
  show (tab (2 ^ (m + 1)) fun r => f.getD (wi r k b) d).getD (wi r i a) d = (tab (2 ^ (m + 1)) fun r => f.getD (wi r i a) d).getD (wi r (k - 1) b) d
  rw [tab_getD _ _ (show wi r i a < 2 ^ (m + 1) from wi_lt ha (by omega) hr'), tab_getD _ _ (show wi r (k - 1) b < 2 ^ (m + 1) from wi_lt hb (by omega) hr'), wi_wi r hi ha hb]
theorem mHeld_turn (hl : f.length = 2 ^ n) {k : Nat} (hk : k < n) : mHeld d (mTurn d f (2 ^ k)) n k 0 = mHeld d f n k 1 := by
  obtain ⟨m, rfl⟩ : ∃ m, n = m + 1 := ⟨n - 1, by omega⟩
  unfold mHeld mTurn
  refine tab_congr fun r hr => ?_
  have hr' : r < 2 ^ m := hr
  rw [tab_getD _ _ (by rw [hl]; exact wi_lt (by decide) (by omega) hr'), wi_turn]
/-- both ways together -/
theorem mHeld_both {k row : Nat} (hk : k < n) (hr : row < 2 ^ n) : (mHeld d f n k (row / 2 ^ k % 2)).getD (wo row k) d = f.getD row d := by
  obtain ⟨m, rfl⟩ : ∃ m, n = m + 1 := ⟨n - 1, by omega⟩
  show (tab (2 ^ m) fun r => f.getD (wi r k (row / 2 ^ k % 2)) d).getD (wo row k) d = _
  rw [tab_getD _ _ (show wo row k < 2 ^ m from wo_lt (by omega) hr), wi_wo]
end
/-! ### rows by their bits -/
def bitsOf (row n : Nat) : List Nat := tab n fun k => row / 2 ^ k % 2
theorem bits_len (row n : Nat) : (bitsOf row n).length = n := tab_len _ _
def rowOf (bs : List Nat) : Nat := (tab bs.length fun k => bs.getD k 0 * 2 ^ k).sum
theorem sum_bits (x : Nat) : ∀ n, (tab n fun k => (x / 2 ^ k % 2) * 2 ^ k).sum = x % 2 ^ n
  | 0 => by
    show 0 = x % 1
    omega
  | n + 1 => by
    rw [tab_succ, List.sum_append, sum_bits x n, Nat.mod_pow_succ, List.sum_singleton, Nat.mul_comm (2 ^ n)]
theorem rowOf_bits {x n : Nat} (h : x < 2 ^ n) : rowOf (bitsOf x n) = x := by
  unfold rowOf
  rw [bits_len]
  have e : (tab n fun k => (bitsOf x n).getD k 0 * 2 ^ k) = tab n fun k => (x / 2 ^ k % 2) * 2 ^ k := tab_congr fun k hk => by
    unfold bitsOf
    rw [tab_getD _ _ hk]
  rw [e, sum_bits, Nat.mod_eq_of_lt h]
theorem bits_cut {row n k : Nat} (hk : k < n) : (bitsOf row n).take k ++ (bitsOf row n).drop (k + 1) = bitsOf (wo row k) (n - 1) := by
  apply List.ext_getElem?
  intro j
  have hl : ((bitsOf row n).take k).length = k := by rw [List.length_take, bits_len]; omega
  by_cases c : j < n - 1
  · rw [bitsOf.eq_1 (wo row k), tab_get _ c, bit_mod, wo_bit]
    by_cases c2 : j < k
    · rw [List.getElem?_append_left (by omega), List.getElem?_take, if_pos c2, if_pos c2]
      unfold bitsOf
      rw [tab_get _ (by omega), bit_mod]
    · rw [List.getElem?_append_right (by omega), hl, List.getElem?_drop, if_neg c2, show k + 1 + (j - k) = j + 1 by omega]
      unfold bitsOf
      rw [tab_get _ (by omega), bit_mod]
  · rw [List.getElem?_eq_none (by rw [List.length_append, hl, List.length_drop, bits_len]; omega), List.getElem?_eq_none (by rw [bits_len]; omega)]
theorem rowOf_cut {row n k : Nat} (hk : k < n) (hr : row < 2 ^ n) : rowOf ((bitsOf row n).take k ++ (bitsOf row n).drop (k + 1)) = wo row k := by
  rw [bits_cut hk]
  obtain ⟨m, rfl⟩ : ∃ m, n = m + 1 := ⟨n - 1, by omega⟩
  exact rowOf_bits (wo_lt (by omega) hr)
/-! ### rows left out -/
section
variable {α : Type} {d : α} {f : List α}
def mLeft (d : α) (f : List α) (rows : List Nat) : List α := tab f.length fun r => if decide (r ∈ rows) = true then d else f.getD r d
theorem mLeft_len (d : α) (f : List α) (rows : List Nat) : (mLeft d f rows).length = f.length := tab_len _ _
theorem mLeft_left (one other : List Nat) : mLeft d (mLeft d f one) other = mLeft d f (other ++ one) := by
  unfold mLeft
  rw [tab_len]
  refine tab_congr fun r hr => ?_
  rw [tab_getD _ _ hr]
  by_cases a : r ∈ other
  · rw [if_pos (decide_eq_true a), if_pos (decide_eq_true (List.mem_append_left _ a))]
  · rw [if_neg (by rw [decide_eq_false a]; decide)]
    by_cases b : r ∈ one
    · rw [if_pos (decide_eq_true b), if_pos (decide_eq_true (List.mem_append_right _ b))]
    · have c : ¬ r ∈ other ++ one := fun q => (List.mem_append.mp q).elim a b
      rw [if_neg (by rw [decide_eq_false b]; decide), if_neg (by rw [decide_eq_false c]; decide)]
theorem mLeft_nil : mLeft d f [] = f := by
  unfold mLeft
  exact tab_eq d rfl fun i _ => by simp
theorem mLeft_map {β : Type} {d' : β} (u : α → β) (hu : u d = d') (rows : List Nat) : (mLeft d f rows).map u = mLeft d' (f.map u) rows := by
  subst hu
  unfold mLeft
  rw [tab_map, List.length_map]
  refine tab_congr fun r _ => ?_
  by_cases b : r ∈ rows
  · rw [if_pos (decide_eq_true b), if_pos (decide_eq_true b)]
  · rw [if_neg (by rw [decide_eq_false b]; decide), if_neg (by rw [decide_eq_false b]; decide), getD_map]
end
end K6
/-! rules of our own: the written dict OTHER, enumerate over a tuple, t.index(i) of ints -/
namespace K6
open PySem PySem.Spec PyProof.Rows L2
/-- a whole number from 0 on, as a value -/
def I (x : Nat) : V := .int (x : Int)
/-! ### OTHER[v] -/
theorem abs_rel {u : Value} {x : V} (h : absV u = some x) : RelV x u := by
  cases u <;> first
    | (cases h; exact rfl)
    | (cases h; exact ⟨_, rfl⟩)
    | cases h
/-- the other answer -/
def oth : V → V
  | .int i => if i = 1 then .int 0 else if i = 0 then .int 1 else .int i
  | v => v
def kOk (e : DictEntry) (h : Int) (k v : V) : Bool := decide (e.hash = h) && decide (absV e.key = some k) && decide (absV e.val = some v)
theorem kOk.out {e : DictEntry} {h : Int} {k v : V} (q : kOk e h k v = true) : e.hash = h ∧ RelV k e.key ∧ RelV v e.val := by
  unfold kOk at q
  rw [Bool.and_eq_true, Bool.and_eq_true] at q
  exact ⟨of_decide_eq_true q.1.1, abs_rel (of_decide_eq_true q.1.2), abs_rel (of_decide_eq_true q.2)⟩
def otherOk (es : Array DictEntry) : Bool := match es.toList with
  | [a, b, c] => kOk a 1 (.int 1) (.int 0) && kOk b 0 (.int 0) (.int 1) && kOk c 4238894112 .non .non
  | _ => false
structure OtherAt (K : PySem.W.Frag) (p : Addr) : Prop where
  ex : ∃ es n, K.lookup p = some ⟨.type "dict", none, .dict es n, #[]⟩ ∧ otherOk es = true
theorem leaf_hash1 (w : World) : (Leaf.num 1).key.hash w = 1 := by
  show hashInt 1 = 1
  decide +kernel
theorem leaf_hash0 (w : World) : (Leaf.num 0).key.hash w = 0 := by
  show hashInt 0 = 0
  decide +kernel
theorem leaf_hashN (w : World) : Leaf.none.key.hash w = 4238894112 := by
  show NestedKey.hash w .none = _
  simp only [NestedKey.hash]
  decide +kernel
section
variable {X : Cx}
def rIxO (K : PySem.W.Frag) : R2 := fun x y H Q => ∃ p, x = .ref p ∧ OtherAt K p ∧ (y = .int 1 ∨ y = .int 0 ∨ y = .non) ∧ Q (oth y) H
theorem ix_other : IxR X (rIxO X.K) := by
  intro value slice pins s σ H x y v u Q I rx ry h hs
  obtain ⟨p, rfl, ⟨es, n, hl, ho⟩, hy, q⟩ := h
  obtain rfl : v = Value.ref p := rx
  obtain ⟨a, b, c, el, oa, ob, oc⟩ : ∃ a b c, es.toList = [a, b, c] ∧ kOk a 1 (.int 1) (.int 0) = true ∧ kOk b 0 (.int 0) (.int 1) = true ∧ kOk c 4238894112 .non .non = true := by
    unfold otherOk at ho
    split at ho
    · rename_i a b c e
      rw [Bool.and_eq_true, Bool.and_eq_true] at ho
      exact ⟨a, b, c, e, ho.1.1, ho.1.2, ho.2⟩
    · cases ho
  obtain ⟨ha, ⟨ta, ka⟩, ⟨ta', va⟩⟩ := kOk.out oa
  obtain ⟨hb, ⟨tb, kb⟩, ⟨tb', vb⟩⟩ := kOk.out ob
  obtain ⟨hc, kc, vc⟩ := kOk.out oc
  replace kc : c.key = Value.none := kc
  replace vc : c.val = Value.none := vc
  obtain rfl : es = #[a, b, c] := by
    apply Array.ext'
    exact el
  have hm : s.heap.MapOf (leafKind X.prog X.w) p (fun k => findBy (leafKind X.prog X.w).is #[a, b, c] k) := by
    refine ⟨_, #[a, b, c], n, I.kIn p _ hl, ⟨rfl, rfl, rfl⟩, rfl, fun e he => ?_, fun _ => rfl⟩
    have he' : e = a ∨ e = b ∨ e = c := by simpa using he
    rcases he' with rfl | rfl | rfl
    · exact ⟨.num 1, by rw [ka]; rfl, by rw [ha]; exact (leaf_hash1 X.w).symm⟩
    · exact ⟨.num 0, by rw [kb]; rfl, by rw [hb]; exact (leaf_hash0 X.w).symm⟩
    · exact ⟨.none, by rw [kc]; rfl, by rw [hc]; exact (leaf_hashN X.w).symm⟩
  rcases hy with rfl | rfl | rfl
  · obtain ⟨t, rfl⟩ := ry
    have hv : findBy (leafKind X.prog X.w).is #[a, b, c] (.num 1) = some a.val := by
      unfold findBy
      rw [← Array.find?_toList, List.find?_cons_of_pos (by rw [ka]; rfl)]
      rfl
    exact tail_any hm.typeIs slot_dict_getitem.lookup (wpAny_getItem_of (knd := leafKind X.prog X.w) (k := .num 1) rfl hm hv ⟨.int 0, H, I.tok _, ⟨_, va⟩, q⟩) hs
  · obtain ⟨t, rfl⟩ := ry
    have hv : findBy (leafKind X.prog X.w).is #[a, b, c] (.num 0) = some b.val := by
      unfold findBy
      rw [← Array.find?_toList, List.find?_cons_of_neg (by rw [ka]; exact Bool.false_ne_true), List.find?_cons_of_pos (by rw [kb]; rfl)]
      rfl
    exact tail_any hm.typeIs slot_dict_getitem.lookup (wpAny_getItem_of (knd := leafKind X.prog X.w) (k := .num 0) rfl hm hv ⟨.int 1, H, I.tok _, ⟨_, vb⟩, q⟩) hs
  · obtain rfl : u = Value.none := ry
    have hv : findBy (leafKind X.prog X.w).is #[a, b, c] .none = some c.val := by
      unfold findBy
      rw [← Array.find?_toList, List.find?_cons_of_neg (by rw [ka]; exact Bool.false_ne_true), List.find?_cons_of_neg (by rw [kb]; exact Bool.false_ne_true), List.find?_cons_of_pos (by rw [kc]; rfl)]
      rfl
    exact tail_any hm.typeIs slot_dict_getitem.lookup (wpAny_getItem_of (knd := leafKind X.prog X.w) (k := .none) rfl hm hv ⟨.non, H, I.tok _, vc, q⟩) hs
end
/-! ### enumerate(t), t a tuple -/
/-- the iterator of the tuple at a, just begun; the enumeration that leans on it -/
abbrev itOb (a : Addr) : Obj := { cls := .type "tuple_iterator", data := .fields #[.ref a, .int 0 0] }
abbrev enOb (it : Addr) : Obj := { cls := .type "enumerate", data := .fields #[.none, .bool false, .ref it, rawInt 0, .none, .none] }
theorem meets_enum_tup (a : Addr) (items : Array Value) :
    Meets (Builtin.«enumerate.__new__» ⟨[.type "enumerate", .ref a], []⟩) fun _ R s =>
      s.heap.IsTuple a items ∧ R (.ok (.ret (.ref (s.heap.push (itOb a)).objs.size))) { s with heap := (s.heap.push (itOb a)).push (enOb s.heap.objs.size) } :=
  .of_wp fun prog w A R s hyp => by
    rcases s with ⟨hp, gens, dr, tk, os⟩
    rcases hyp with ⟨ht, fin⟩
    have sub := sub_enumerate
    have begin_ {A' : Around} {E : Value → Shared → Prop} {Q : Value → Shared → Prop} (z : Q (.ref hp.objs.size) ⟨hp.push (itOb a), gens, dr, tk, os⟩) : wpAny (model prog w) A' (pyIter (.ref a)) Q E ⟨hp, gens, dr, tk, os⟩ := wpAny_pyIter_tuple ht z
    wp_walk using begin_
    refine wpAny_stack_any fun _ => wpAny_pure ?_
    split <;> (try (rename_i c _ _ _ _ _; cases (c == Value.type "enumerate"))) <;> (wp_walk using begin_; exact ⟨_, rfl, fin⟩)
theorem enum_tup {prog : Program} {w : World} {A : Around} {E Q : Value → Shared → Prop} {s : Shared} {a : Addr} {items : Array Value} (ht : s.heap.IsTuple a items)
    (q : Q (.ref (s.heap.objs.size + 1)) { s with heap := (s.heap.push (itOb a)).push (enOb s.heap.objs.size) }) : wpAny (model prog w) A (call (.type "enumerate") [.ref a]) Q E s := by
  have size1 : (s.heap.push (itOb a)).objs.size = s.heap.objs.size + 1 := Heap.size_push ..
  have there : ((s.heap.push (itOb a)).push (enOb s.heap.objs.size)).get? (s.heap.objs.size + 1) = some (enOb s.heap.objs.size) := by
    have z := Heap.get?_push_size (s.heap.push (itOb a)) (o := enOb s.heap.objs.size) rfl
    rwa [size1] at z
  refine callType_new F.called_enumerate (by decide) (F.typeCall_enumerate_1 _) (F.newCall_enumerate_1 _) (fun ob => F.args_object_init_2 ob _) F.entry_enumerate_new (meets_enum_tup a items) ⟨ht, ?_⟩
  rw [size1]
  exact ⟨⟨_, there, rfl⟩, q⟩
/-- the tuple at a, each of its items in a new pair with its place -/
def IteT (K : PySem.W.Frag) (a : Addr) : It where
  go := fun i H => ∃ xs x, SqT K H a xs ∧ xs[i]? = some x
  yld := fun i H v H' => ∃ T x, v = .ref T ∧ H T = none ∧ H' = upd H T (.tup [I i, x]) ∧ ∀ xs, SqT K H a xs → xs[i]? = some x
  stop := fun i H => ∃ xs, SqT K H a xs ∧ i = xs.length
/-- the two records of such an enumeration -/
def EnSt (a e it : Addr) (i : Nat) (h : Heap) : Prop := (∃ old, IsEnum h e it (i : Int) old) ∧ h.IsTupleIter it a i
theorem EnSt.full {a e it : Addr} {i : Nat} {h : Heap} {items : Array Value} (x : EnSt a e it i h) (t : h.IsTuple a items) : (∃ old, IsEnum h e it (i : Int) old) ∧ h.IsTupleIter it a i ∧ h.IsTuple a items := ⟨x.1, x.2, t⟩
theorem turn_enT {P : Program} {w : World} {K : PySem.W.Frag} {elts : List Expr} {kk : Nat} {tpos : Pos} {a e it : Addr} (d1 : e ≠ it) (d2 : a ≠ it) (d3 : e ≠ a) : Turn P w K (.Tuple elts kk tpos) (IteT K a) [e, it] e (EnSt a e it) := by
  have no : e ∉ [it, a] := fun z => (List.mem_cons.mp z).elim d1 fun y => d3 (List.mem_singleton.mp y)
  refine ⟨List.mem_cons_self, fun i h x b hb => ?_, fun i h h' x k => ?_, ?_, ?_, fun A i s Q E x q => ?_⟩
  · rcases List.mem_cons.mp hb with rfl | hb
    · exact ⟨_, x.1.choose_spec, fun v z => nomatch z⟩
    · obtain ⟨ob, z, _, dd⟩ := x.2
      rw [List.mem_singleton.mp hb]
      exact ⟨ob, z, fun v y => by rw [dd] at y; exact nomatch y⟩
  · exact ⟨⟨_, k e List.mem_cons_self _ x.1.choose_spec⟩, x.2.at fun ob z => k it (List.mem_cons_of_mem _ List.mem_cons_self) ob z⟩
  · rintro X rfl rfl rfl calm i pins s σ H E inv own st ⟨xs, x, isT, at_⟩
    obtain ⟨us, rel, tup, _⟩ := inv.tuple isT
    obtain ⟨u, atu, relu⟩ := rel.get at_
    have W := WalksT.enumerateD (prog := X.prog) (w := X.w) (A := X.A) (Draws.tuple (show X.A.in1.handled = none from inv.ok.hd calm) it a d2 us.toArray) e d1 no List.mem_cons_self
    have lt : i < us.toArray.size := by simpa using (List.getElem?_eq_some_iff.mp atu).1
    refine W.item i s _ _ lt (st.full tup) fun T vals h' tk pt big isP mid keep => ⟨_, rfl, ?_⟩
    refine W.go elts kk tpos i T { s with heap := h', toks := tk } _ _ mid fun h'' st'' keep'' => ?_
    obtain ⟨t, u', e1, rfl⟩ := pt
    have same : u' = u := by
      have z : us[i]? = some u' := by simpa using e1
      exact Option.some.inj (z.symm.trans atu)
    subst same
    have isP2 : h''.IsTuple T #[.int i t, u'] := isP.at fun ob z => keep'' T ob (W.apart i T h' mid) z
    have inv2 : Inv X pins σ (upd H T (.tup [I i, x])) { s with heap := h'', toks := tk } :=
      inv.turnedNew (ch := [e, it]) (fun b ob nb z => keep'' b ob nb (keep b ob nb z)) own big ⟨by show 2 ≤ sizeLine; decide, [.int i t, u'], .cons ⟨t, rfl⟩ (.cons relu .nil), isP2⟩
    refine ⟨.ref T, _, inv2, rfl, ⟨T, x, rfl, inv.hok.fresh big, rfl, fun ys z => by rw [inv.tuple_inj z isT]; exact at_⟩, ⟨st''.1, st''.2.1⟩, fun b hb => ?_⟩
    have small : b < s.heap.objs.size := by
      rcases List.mem_cons.mp hb with rfl | hb
      · exact Heap.lt_size st.1.choose_spec
      · obtain ⟨ob, z, _⟩ := st.2
        rw [List.mem_singleton.mp hb]
        exact Heap.lt_size z
    rw [upd_ne fun z => Nat.lt_irrefl b (Nat.lt_of_lt_of_le small (by rw [z]; exact big))]
    exact (own b hb).1
  · rintro X rfl rfl rfl calm i pins s σ H E inv own st ⟨xs, isT, rfl⟩
    obtain ⟨us, rel, tup, _⟩ := inv.tuple isT
    have W := WalksT.enumerateD (prog := X.prog) (w := X.w) (A := X.A) (Draws.tuple (show X.A.in1.handled = none from inv.ok.hd calm) it a d2 us.toArray) e d1 no List.mem_cons_self
    have len : xs.length = us.toArray.size := by simpa using rel.length
    rw [len] at st
    exact W.done s _ _ (st.full tup) fun h' tk keep => ⟨rfl, inv.turnedL keep own⟩
  · exact wpAny_pyIter_enum x.1.choose_spec q
def iEnumT (K : PySem.W.Frag) (ta : TA) : TI := fun σ H R => ta σ H fun vs H1 => ∃ a xs, vs = [.ref a] ∧ SqT K H1 a xs ∧ R (IteT K a) H1
theorem pi_enumT {X : Cx} {e : Expr} {ta : TA} {p pos tpos : Pos} {elts : List Expr} {kk : Nat} (hg : Gl X "enumerate") (hm : X.mg "enumerate" = none) (ha : PA X [e] ta) (one : starEach [e] X.env = [(false, eval e X.env)] := by rfl) :
    PI X (.Tuple elts kk tpos) (.Call (.Name "enumerate" p) [e] [] pos) (iEnumT X.K ta) := by
  constructor
  intro pins s σ H R inv ask
  refine Call_ (ld_blt inv hg hm boot_enumerate (PyProof.Rows.callWith_type1 (thn (ha.run pos pins s σ H _ inv ask) ?_) one rfl))
  rintro us s1 ⟨vs, H1, inv1, rel, a, xs, rfl, isT, go⟩
  cases Vals.ref1 rel
  obtain ⟨_, _, tup, _⟩ := inv1.tuple isT
  have la : a < s1.heap.objs.size := tup.lt
  have keep : ∀ b ob, s1.heap.get? b = some ob → ((s1.heap.push (itOb a)).push (enOb s1.heap.objs.size)).get? b = some ob := fun b ob z => Heap.get?_push_of_some _ (Heap.get?_push_of_some _ z)
  have atIt : ((s1.heap.push (itOb a)).push (enOb s1.heap.objs.size)).get? s1.heap.objs.size = some (itOb a) := Heap.get?_push_of_some _ (Heap.get?_push_size _ rfl)
  have atEn : ((s1.heap.push (itOb a)).push (enOb s1.heap.objs.size)).get? (s1.heap.objs.size + 1) = some (enOb s1.heap.objs.size) := by
    have z := Heap.get?_push_size (s1.heap.push (itOb a)) (o := enOb s1.heap.objs.size) rfl
    rwa [Heap.size_push] at z
  refine enum_tup tup (wpAny_pyIter_enum (s := { s1 with heap := _ }) atEn ?_)
  have d1 : s1.heap.objs.size + 1 ≠ s1.heap.objs.size := Nat.succ_ne_self _
  have d3 : s1.heap.objs.size + 1 ≠ a := fun z => Nat.lt_irrefl a (Nat.lt_trans la (by rw [← z]; exact Nat.lt_succ_self _))
  refine ⟨_, [s1.heap.objs.size + 1, s1.heap.objs.size], _, _, H1, rfl, inv1.kept (t' := s1.toks) keep, turn_enT d1 (Nat.ne_of_lt la) d3, ⟨⟨.none, atEn⟩, _, atIt, rfl, rfl⟩, fun b hb => ?_, go⟩
  have above : s1.heap.objs.size ≤ b := by
    rcases List.mem_cons.mp hb with rfl | hb
    · exact Nat.le_succ _
    · rw [List.mem_singleton.mp hb]
      exact Nat.le_refl _
  exact inv1.fpOk above (inv1.hok.fresh above)
theorem walk_enumT {K : PySem.W.Frag} {a : Addr} {xs : List V} {n : Nat} {G : Hp → Prop} (hn : n = xs.length) (hG : ∀ H, G H → SqT K H a xs) :
    Walk (IteT K a) n G (YPair (fun i => some (.int (i : Nat))) (fun i => xs[i]?)) := by
  subst hn
  constructor
  · exact fun i H lt g => ⟨xs, xs[i], hG H g, List.getElem?_eq_getElem lt⟩
  · exact fun H g => ⟨xs, hG H g, rfl⟩
  · rintro i H v H' _ g ⟨T, x, rfl, new, rfl, at_⟩
    exact ⟨T, I i, x, rfl, new, rfl, rfl, at_ xs (hG H g)⟩
/-! ### a tuple that is known to be of the plain class: t.index(i) -/
/-- a plain tuple -/
def PlT (H : Hp) (p : Addr) : Prop := ∃ (o : Obj) (u : HO), H p = some (.frz o u) ∧ o.cls = .type "tuple" ∧ o.dict = none
section
variable {X : Cx}
/-- tuple(list), the new tuple's own object kept in mind -/
theorem call_tuple_frz : CallR X (.type "tuple") (fun xs H Q => ∃ p ys, xs = [.ref p] ∧ SqL X.K H p ys ∧ ∀ (l : Addr) (o : Obj), H l = none → o.cls = .type "tuple" → o.dict = none → Q (.ref l) (upd H l (.frz o (.tup ys)))) := by
  rintro pins s σ H _ us Q inv rel ⟨p, ys, rfl, isL, ask⟩
  cases Vals.ref1 rel
  obtain ⟨vs, rv, pl, fits⟩ := inv.list isL
  have room : vs.toArray.size ≤ sizeLine := by
    rw [List.size_toArray, ← rv.length]
    exact fits
  refine call_tuple_list pl.isList (fun h' keep => ?_) room
  let new : Obj := { cls := .type "tuple", data := .seq vs.toArray }
  have ok : ObjOk X.prog X.w (upd H h'.objs.size (.frz new (.tup ys))) (h'.push new) h'.objs.size (.frz new (.tup ys)) := ⟨Heap.get?_push_size _ rfl, fits, vs, rv, IsTup.new _ _⟩
  have inv1 : Inv X pins σ H { s with heap := h' } := inv.kept (t' := s.toks) keep
  exact ⟨.ref h'.objs.size, _, inv1.laid (t' := s.toks) (fun b ob z => Heap.get?_push_of_some _ z) (Nat.le_refl _) ok, rfl, ask _ new (inv1.hok.fresh (Nat.le_refl _)) rfl rfl⟩
/-- t.index(i): asked are a plain tuple of whole numbers from 0 on, and the first place of i -/
def tIdx (K : PySem.W.Frag) (tt ti : TE) : TE := fun σ H Q => tt σ H fun x H1 => (∃ p, x = .ref p ∧ PlT H1 p) ∧ ti σ H1 fun y H2 =>
  ∃ (p : Addr) (o : List Nat) (m j : Nat), x = .ref p ∧ y = I m ∧ SqT K H2 p (o.map I) ∧ o[j]? = some m ∧ (∀ i, i < j → o[i]? ≠ some m) ∧ Q (I j) H2
theorem flat_I (rows : List Nat) : (rows.map I).all flatV = true := List.all_eq_true.mpr fun v hv => by
  obtain ⟨r, _, rfl⟩ := List.mem_map.mp hv
  rfl
theorem item_I {o : List Nat} {us : List Value} (rel : Vals (o.map I) us) (i : Nat) (lt : i < us.length) : ∃ t, us[i] = .int ((o.getD i 0 : Nat) : Int) t := by
  have lo : i < o.length := by
    have z := rel.length
    rw [List.length_map] at z
    omega
  have z : (o.map I)[i]? = some (I (o.getD i 0)) := by
    rw [List.getElem?_map, getD_lt 0 lo]
    rfl
  obtain ⟨u, e1, t, e2⟩ := rel.get z
  refine ⟨t, ?_⟩
  rw [← e2]
  exact (List.getElem?_eq_some_iff.mp e1).2
theorem pe_index {K : PySem.W.Frag} (hK : X.K = K) {t i : Expr} {tt ti : TE} {apos pos : Pos} (ht : PE X t tt) (hi : PE X i ti) (base : attributeBase t "index" X.env (eval t X.env) = eval t X.env := by rfl)
    (one : starEach [i] X.env = [(false, eval i X.env)] := by rfl) (line : (apos.endLine == pos.line) = true := by rfl)
    (few : (backTo pos (starEach [i] X.env)).all (fun x => !x.1) = true := by rfl) (none_ : (backTo pos (starEach ([] : List Expr) X.env)).any (·.1) = false := by rfl) :
    PE X (.Call (.Attribute t "index" apos) [i] [] pos) (tIdx K tt ti) := by
  subst hK
  constructor
  intro pins s σ H Q inv ask
  refine wpAny_Call_method_late base (by rw [few]; rfl) line rfl (thn (ht.run pins s σ H _ inv ask) ?_)
  rintro v s1 ⟨x, H1, inv1, r1, ⟨p, rfl, ob, u, known, cls, dct⟩, ask1⟩
  obtain rfl : v = .ref p := r1
  have here : s1.heap.get? p = some ob := (show s1.heap.get? p = some ob ∧ ObjOk X.prog X.w H1 s1.heap p u from inv1.hok p _ known).1
  refine ⟨"tuple", "tuple.index", PySem.F.plainAttrs_tuple, PySem.F.slot_tuple_index, PySem.F.type_tuple_index, ⟨ob, here, cls⟩, fun a z => ?_, ?_⟩
  · injection z with z
    subst z
    exact ⟨ob, here, dct⟩
  have args : PA X [i] (tCons ti tNil) := pa_cons hi pa_nil (by rw [one]; rfl)
  have run := args.run pos pins s1 σ H1 (fun ys H2 => match ys with
    | [y] => ∃ (p' : Addr) (o : List Nat) (m j : Nat), V.ref p = .ref p' ∧ y = I m ∧ SqT X.K H2 p' (o.map I) ∧ o[j]? = some m ∧ (∀ i, i < j → o[i]? ≠ some m) ∧ Q (I j) H2
    | _ => False) inv1 ask1
  rw [one] at run ⊢
  refine Calls.callWith_builtin rfl (Calls.evalArgs_plain (thn run ?_))
  rintro us s2 ⟨ys, H2, inv2, r2, fin⟩
  match ys, r2, fin with
  | [], _, no => exact no.elim
  | _ :: _ :: _, _, no => exact no.elim
  | [y], r2, fin =>
    obtain ⟨p2, o, m, j, e1, rfl, isT, atj, first, fin⟩ := fin
    injection e1 with e1
    subst e1
    obtain ⟨_, rfl, tok, rfl⟩ := vals1 r2
    obtain ⟨its, rel, ⟨⟨c2, d2, dat2, sl2⟩, at2, eqc, n2, eqd⟩, _⟩ := inv2.tuple isT
    obtain rfl : c2 = .type "tuple" := eqc
    obtain rfl : dat2 = .seq its.toArray n2 := eqd
    have len : its.length = o.length := by rw [← rel.length, List.length_map]
    have told : ∀ i (lt : i < its.toArray.size), eqU (I m) its.toArray[i] = decide (o.getD i 0 = m) := fun i lt => by
      obtain ⟨t2, e2⟩ := item_I rel i (by simpa using lt)
      rw [List.getElem_toArray, e2]
      show (((o.getD i 0 : Nat) : Int) == (m : Int)) = decide (o.getD i 0 = m)
      by_cases c : o.getD i 0 = m
      · rw [c, decide_eq_true rfl]
        exact beq_self_eq_true _
      · rw [decide_eq_false c]
        exact beq_eq_false_iff_ne.mpr fun z => c (Int.ofNat.inj z)
    have jlt : j < its.toArray.size := by
      rw [List.size_toArray, len]
      exact (List.getElem?_eq_some_iff.mp atj).1
    have atJ : o.getD j 0 = m := by
      rw [List.getD_eq_getElem?_getD, atj]
      rfl
    refine call_meets PySem.F.slot_tuple_index ⟨_, at2, rfl⟩ PySem.F.entry_tuple_index (PySem.F.args_tuple_index_2 _ _)
      (TI.tuple_indexAt p its.toArray n2 d2 sl2 (.int (m : Int) tok) (eqU (I m)) j jlt (by rw [told j jlt, atJ, decide_eq_true rfl]) fun i lt ij => ?_)
      ⟨at2, fun y hy => mem_eqAt (x := I m) ⟨tok, rfl⟩ rfl rel (flat_I o) y (List.mem_toArray.mp hy), I j, H2, inv2.tok _, ⟨_, rfl⟩, fin⟩
    rw [told i lt]
    refine decide_eq_false fun z => first i ij ?_
    rw [getD_lt 0 (by rw [← len]; simpa using lt), z]
end
end K6
namespace K6
open PySem PySem.Spec PyProof.Rows L2
/-! ### the text by places -/
def topS (i : Nat) : Stmt := PySem.Challenge.pw_signpoly_k06_whole_moves_undone.main.body.getD i (.Pass ⟨0, 0, 0, 0⟩)
abbrev sSw : Stmt := topS 3
abbrev sOp : Stmt := topS 6
abbrev sTu : Stmt := topS 7
abbrev sRb : Stmt := topS 8
abbrev sRe : Stmt := topS 9
abbrev sWo : Stmt := topS 10
abbrev sWi : Stmt := topS 11
abbrev sId : Stmt := topS 12
abbrev sHe : Stmt := topS 13
abbrev sLe : Stmt := topS 14
abbrev sHand : Stmt := topS 16
abbrev sTake : Stmt := topS 17
abbrev sVals : Stmt := topS 18
abbrev sBits : Stmt := topS 19
abbrev sRow : Stmt := topS 20
abbrev sSome : Stmt := topS 21
abbrev sOrd : Stmt := topS 22
abbrev sBack : Stmt := topS 23
abbrev sUnd : Stmt := topS 24
abbrev sHr : Stmt := topS 25
abbrev sLaw : Stmt := topS 26
/-! ### heaps -/
theorem same_upd {H : Hp} {p : Addr} {o : HO} (h : H p = none) : Same H (upd H p o) := fun b x e => by
  rw [upd_ne (ne_of_none e h)]
  exact e
theorem same_rd {H H' : Hp} {a : Addr} {u : HO} (s : Same H H') (h : Rd H a u) : Rd H' a u := by
  rcases h with h | ⟨o, h⟩
  · exact .inl (s _ _ h)
  · exact .inr ⟨o, s _ _ h⟩
theorem same_sqt {K : PySem.W.Frag} {H H' : Hp} {a : Addr} {xs : List V} (s : Same H H') (h : SqT K H a xs) : SqT K H' a xs := by
  rcases h with h | h
  · exact .inl (same_rd s h)
  · exact .inr h
/-- all but the object at h is as it was -/
def SameX (h : Addr) (H H' : Hp) : Prop := ∀ b o, b ≠ h → H b = some o → H' b = some o
theorem SameX.of {h : Addr} {H H' : Hp} (s : Same H H') : SameX h H H' := fun b o _ e => s b o e
theorem SameX.refl (h : Addr) (H : Hp) : SameX h H H := fun _ _ _ e => e
theorem SameX.trans {h : Addr} {H H1 H2 : Hp} (a : SameX h H H1) (b : SameX h H1 H2) : SameX h H H2 := fun c o n e => b c o n (a c o n e)
theorem SameX.upd (h : Addr) (H : Hp) (o : HO) : SameX h H (upd H h o) := fun b x n e => by
  rw [upd_ne n]
  exact e
theorem I_inj {x y : Nat} (h : I x = I y) : x = y := by
  unfold I at h
  injection h with h
  exact Int.ofNat.inj h
/-- the hand: two numbers that the draws lean on, and a count -/
def HandAt (H : Hp) (h : Addr) : Prop := ∃ a b c : Int, H h = some (.lst [.int a, .int b, .int c]) ∧ 0 ≤ b ∧ b < 2147483647
theorem HandAt.same {H H' : Hp} {h : Addr} (x : HandAt H h) (s : Same H H') : HandAt H' h := by
  obtain ⟨a, b, c, e, r⟩ := x
  exact ⟨a, b, c, s _ _ e, r⟩
theorem SameX.sqt {K : PySem.W.Frag} {h : Addr} {H H' : Hp} {a : Addr} {xs : List V} (s : SameX h H H') (x : HandAt H h) (q : SqT K H a xs) : SqT K H' a xs := by
  obtain ⟨i, b, c, e, _⟩ := x
  rcases q with (q | ⟨o, q⟩) | q
  · exact .inl (.inl (s _ _ (fun z => by rw [z, e] at q; cases q) q))
  · exact .inl (.inr ⟨o, s _ _ (fun z => by rw [z, e] at q; cases q) q⟩)
  · exact .inr q
theorem SameX.frz {h : Addr} {H H' : Hp} {a : Addr} {o : Obj} {u : HO} (s : SameX h H H') (x : HandAt H h) (q : H a = some (.frz o u)) : H' a = some (.frz o u) := by
  obtain ⟨i, b, c, e, _⟩ := x
  exact s _ _ (fun z => by rw [z, e] at q; cases q) q
/-! ### values of a function -/
def Good (v : V) : Prop := v = .int 1 ∨ v = .int 0 ∨ v = .non
structure Fn (n : Nat) (f : List V) : Prop where
  len : f.length = 2 ^ n
  ok : ∀ v, v ∈ f → Good v
theorem Good.oth {v : V} (h : Good v) : Good (K6.oth v) := by
  rcases h with rfl | rfl | rfl
  · exact .inr (.inl rfl)
  · exact .inl rfl
  · exact .inr (.inr rfl)
theorem Good.oth2 {v : V} (h : Good v) : K6.oth (K6.oth v) = v := by
  rcases h with rfl | rfl | rfl <;> rfl
theorem Good.getD {f : List V} (h : ∀ v, v ∈ f → Good v) (i : Nat) : Good (f.getD i .non) := by
  rw [List.getD_eq_getElem?_getD]
  cases e : f[i]? with
  | none => exact .inr (.inr rfl)
  | some v => exact h v (List.mem_of_getElem? e)
theorem Fn.tab {f : List V} {m n : Nat} (h : ∀ v, v ∈ f → Good v) (u : Nat → Nat) (hm : m = 2 ^ n) : Fn n (K6.tab m fun r => f.getD (u r) .non) :=
  ⟨by rw [tab_len, hm], fun v hv => by
    obtain ⟨i, _, e⟩ := tab_mem hv
    rw [e]
    exact Good.getD h _⟩
theorem Fn.opp {f : List V} {n : Nat} (h : Fn n f) : Fn n (f.map K6.oth) :=
  ⟨by rw [List.length_map, h.len], fun v hv => by
    obtain ⟨w, hw, e⟩ := List.mem_map.mp hv
    rw [← e]
    exact (h.ok w hw).oth⟩
theorem Fn.turn {f : List V} {n : Nat} (h : Fn n f) (m : Nat) : Fn n (mTurn .non f m) := Fn.tab h.ok _ h.len
theorem Fn.ren {f : List V} {n : Nat} (h : Fn n f) (o : List Nat) : Fn n (mRen .non f o) := Fn.tab h.ok _ h.len
theorem Fn.idle {f : List V} {n : Nat} (h : Fn n f) (k : Nat) : Fn (n + 1) (mIdle .non f k) := Fn.tab h.ok _ (by rw [h.len, Nat.pow_succ, Nat.mul_comm])
theorem Fn.held {f : List V} {n m : Nat} (h : Fn m f) (k v : Nat) : Fn (n - 1) (mHeld .non f n k v) := Fn.tab h.ok _ rfl
theorem Fn.left {f : List V} {n : Nat} (h : Fn n f) (rows : List Nat) : Fn n (mLeft .non f rows) :=
  ⟨by rw [mLeft_len, h.len], fun v hv => by
    unfold mLeft at hv
    obtain ⟨i, _, e⟩ := tab_mem hv
    rw [e]
    by_cases c : decide (i ∈ rows) = true
    · rw [if_pos c]; exact .inr (.inr rfl)
    · rw [if_neg c]; exact Good.getD h.ok _⟩
theorem Fn.lt {f : List V} {n : Nat} (h : Fn n f) (hn : n ≤ 6) : f.length ≤ 64 := by
  rw [h.len]
  exact Nat.pow_le_pow_right (by decide) hn
/-! ### alike -/
def dat : V → PyData
  | .int i => .int i
  | _ => .none
theorem dp_dat {K : PySem.W.Frag} {H : Hp} {v : V} (h : Good v) : Dp K H v (dat v) := by
  rcases h with rfl | rfl | rfl
  · exact .int _
  · exact .int _
  · exact .non
theorem dps_dat {K : PySem.W.Frag} {H : Hp} : ∀ {f : List V}, (∀ v, v ∈ f → Good v) → DpAll K H f (f.map dat)
  | [], _ => .nil
  | v :: f, h => .cons (dp_dat (h v List.mem_cons_self)) (dps_dat fun w hw => h w (List.mem_cons_of_mem _ hw))
theorem lay_dat (v : V) : (dat v).canLay0 = true ∧ (dat v).depth = 0 := by
  cases v <;> exact ⟨rfl, rfl⟩
theorem lays_dat : ∀ f : List V, PyData.canLayAll0 (f.map dat) = true ∧ PyData.depthAll (f.map dat) = 0
  | [] => ⟨rfl, rfl⟩
  | v :: f => by
    obtain ⟨h1, h2⟩ := lays_dat f
    obtain ⟨h3, h4⟩ := lay_dat v
    rw [List.map_cons]
    refine ⟨?_, ?_⟩
    · rw [PyData.canLayAll0, h3, h1]; rfl
    · rw [PyData.depthAll, h4, h2]; rfl
def tupD (f : List V) : PyData := .tuple (f.map dat)
theorem tupD_can (f : List V) : (tupD f).canLay0 = true := by
  unfold tupD
  rw [PyData.canLay0]
  exact (lays_dat f).1
theorem tupD_dep (f : List V) : (tupD f).depth = 1 := by
  unfold tupD
  rw [PyData.depth, (lays_dat f).2]
theorem tupD_sh (f : List V) : SeqAt.shaped (tupD f) = true := by
  unfold SeqAt.shaped
  rw [tupD_can, tupD_dep]
  rfl
theorem dp_tup {K : PySem.W.Frag} {H : Hp} {a : Addr} {f : List V} (h : SqT K H a f) (g : ∀ v, v ∈ f → Good v) : Dp K H (.ref a) (tupD f) := .tup h (dps_dat g)
theorem eq_same {K : PySem.W.Frag} {H : Hp} {x y : V} {d : PyData} {Q : VK} (hx : Dp K H x d) (hy : Dp K H y d) (hs : SeqAt.shaped d = true) (q : Q (.bl true) H) : rEqD K x y H Q :=
  ⟨d, d, hx, hy, hs, hs, by rw [SeqAt.eqv_refl d (SeqAt.canLay_of_shaped hs)]; exact q⟩
theorem ne_same {K : PySem.W.Frag} {H : Hp} {x y : V} {d : PyData} {Q : VK} (hx : Dp K H x d) (hy : Dp K H y d) (hs : SeqAt.shaped d = true) (q : Q (.bl false) H) : rNeD K x y H Q :=
  ⟨d, d, hx, hy, hs, hs, by rw [SeqAt.eqv_refl d (SeqAt.canLay_of_shaped hs)]; exact q⟩
/-- two tuples of the same values -/
theorem eq_tups {K : PySem.W.Frag} {H : Hp} {a b : Addr} {f g : List V} {Q : VK} {n : Nat} (ha : SqT K H a f) (hb : SqT K H b g) (hf : Fn n f) (e : f = g) (q : Q (.bl true) H) : rEqD K (.ref a) (.ref b) H Q := by
  subst e
  exact eq_same (dp_tup ha hf.ok) (dp_tup hb hf.ok) (tupD_sh f) q
theorem ne_tups {K : PySem.W.Frag} {H : Hp} {a b : Addr} {f g : List V} {Q : VK} {n : Nat} (ha : SqT K H a f) (hb : SqT K H b g) (hf : Fn n f) (e : f = g) (q : Q (.bl false) H) : rNeD K (.ref a) (.ref b) H Q := by
  subst e
  exact ne_same (dp_tup ha hf.ok) (dp_tup hb hf.ok) (tupD_sh f) q
/-! ### comprehensions whose elements leave what stands -/
theorem small1 {n : Nat} (h : n ≤ 1000) : n < sizeLine := small1000 h
theorem tab0 {α : Type} (g : Nat → α) : tab 0 g = [] := rfl
/-- what a comprehension's reading comes to: J walks, the new list stands at D, Qd is wanted behind it -/
abbrev Lc (J : It) (g : TG) (te : TE) (vs : List Nat) (σ : L2.St) (H1 : Hp) (D : Addr) (Qd : Hp → Prop) : Prop :=
  ∃ W : Nat → Nat → Hp → Prop,
    (∃ m, W 0 m (upd H1 D (.lst []))) ∧
    ∀ i m H, W i m H →
      (J.stop i H ∧ Qd H) ∨
      (J.go i H ∧ ∃ Nx : Hp → Prop,
        (∀ H', Nx H' → ∃ m', m' < m ∧ W (i + 1) m' H') ∧
        ∀ x H', J.yld i H x H' →
          g x (wipe σ vs) H' fun σ2 H2 =>
            wipe σ2 vs = wipe σ vs ∧ tYes σ2 H2 fun b H3 =>
              if b = true then
                te σ2 H3 fun y H4 =>
                  ∃ acc, H4 D = some (.lst acc) ∧ acc.length < sizeLine ∧ Nx (upd H4 D (.lst (acc ++ [y])))
              else Nx H3)
section
variable {te : TE} {vs : List Nat} {σ : L2.St} {H1 : Hp} {D : Addr} {Qd : Hp → Prop}
theorem comp_rng {n j : Nat} (g : Nat → V) (hn : n ≤ 1000) (new : H1 D = none) (hw : ∀ x, wipe ((wipe σ vs).set j (some x)) vs = wipe σ vs)
    (he : ∀ (i : Nat) (H : Hp) (k : VK), i < n → Same H1 H → (∀ H', Same H H' → k (g i) H') → te ((wipe σ vs).set j (some (I i))) H k)
    (hd : ∀ H, Same H1 H → H D = some (.lst (tab n g)) → Qd H) :
    Lc (Itr 0 n) (gName j) te vs σ H1 D Qd := by
  refine lc_range (fun i H => Same H1 H ∧ H D = some (.lst (tab i g))) ⟨same_upd new, upd_same⟩ (fun i H hi p => ?_) (fun H p => hd H p.1 p.2)
  refine ⟨hw _, ?_⟩
  rw [Int.zero_add]
  show te ((wipe σ vs).set j (some (I i))) H _
  refine he i H _ hi p.1 fun H' s => ?_
  refine ⟨tab i g, s _ _ p.2, by rw [tab_len]; exact small1 (by omega), fun b o e => ?_, ?_⟩
  · rw [upd_ne (ne_of_none e new)]
    exact s _ _ (p.1 _ _ e)
  · rw [upd_same, tab_succ]
theorem comp_tup {K : PySem.W.Frag} {a : Addr} {xs : List V} {j : Nat} (g : Nat → V) (hn : xs.length ≤ 1000) (hx : SqT K H1 a xs) (new : H1 D = none) (hw : ∀ x, wipe ((wipe σ vs).set j (some x)) vs = wipe σ vs)
    (he : ∀ (i : Nat) (x : V) (H : Hp) (k : VK), xs[i]? = some x → Same H1 H → (∀ H', Same H H' → k (g i) H') → te ((wipe σ vs).set j (some x)) H k)
    (hd : ∀ H, Same H1 H → H D = some (.lst (tab xs.length g)) → Qd H) :
    Lc (Itt K a) (gName j) te vs σ H1 D Qd := by
  refine lc_tup (K := K) (a := a) (xs := xs) (fun i H => Same H1 H ∧ H D = some (.lst (tab i g))) ⟨same_upd new, upd_same⟩ (fun i H _ p => same_sqt p.1 hx) (fun i x H hi p => ?_) (fun H p => hd H p.1 p.2)
  have hlt := (List.getElem?_eq_some_iff.mp hi).1
  refine ⟨hw _, ?_⟩
  show te ((wipe σ vs).set j (some x)) H _
  refine he i x H _ hi p.1 fun H' s => ?_
  refine ⟨tab i g, s _ _ p.2, by rw [tab_len]; exact small1 (by omega), fun b o e => ?_, ?_⟩
  · rw [upd_ne (ne_of_none e new)]
    exact s _ _ (p.1 _ _ e)
  · rw [upd_same, tab_succ]
end
/-! ### whole numbers -/
theorem xor_nat (a b : Nat) : Builtin.bitXor (a : Int) (b : Int) = ((a ^^^ b : Nat) : Int) := by
  rw [Bits.bitXor_pp (Int.natCast_nonneg _) (Int.natCast_nonneg _)]
  rfl
theorem or_nat (a b : Nat) : Builtin.bitOr (a : Int) (b : Int) = ((a ||| b : Nat) : Int) := by
  rw [Bits.bitOr_pp (Int.natCast_nonneg _) (Int.natCast_nonneg _)]
  rfl
theorem and_nat (a b : Nat) : Builtin.bitAnd (a : Int) (b : Int) = ((a &&& b : Nat) : Int) := rfl
theorem pow_nat (k : Nat) : (2 : Int) ^ k = ((2 ^ k : Nat) : Int) := by
  rw [Int.natCast_pow]
  rfl
theorem shl_nat (a k : Nat) : (a : Int) * 2 ^ ((k : Int).toNat) = ((a * 2 ^ k : Nat) : Int) := by
  rw [Int.toNat_natCast, pow_nat, Int.natCast_mul]
theorem shr_nat (a k : Nat) : (a : Int) / 2 ^ ((k : Int).toNat) = ((a / 2 ^ k : Nat) : Int) := by
  rw [Int.toNat_natCast, pow_nat, Int.natCast_ediv]
theorem sub1_nat (k : Nat) : ((2 ^ k : Nat) : Int) - 1 = ((2 ^ k - 1 : Nat) : Int) := by
  have := Nat.two_pow_pos k
  omega
theorem cpow {a k : Nat} (ha : a < 2 ^ 64) (hk : k ≤ 1000) : CPow (a : Int) (k : Int) := ⟨by omega, by omega, by rw [Int.natAbs_natCast]; exact ha⟩
end K6
namespace K6
open PySem PySem.Spec PyProof.Rows L2
section
variable {K : PySem.W.Frag} {H H1 : Hp} {D : Addr} {xs ys : List V} {Q : VK}
/-- tuple([..]) -/
theorem tup_end (q : ∀ H' p, Same H H' → SqT K H' p xs → Q (.ref p) H') (s : Same H H1) (e : H1 D = some (.lst ys)) (eq : ys = xs) :
    ∃ p zs, [V.ref D] = [.ref p] ∧ ((SqL K H1 p zs ∧ ∀ l, H1 l = none → Q (.ref l) (upd H1 l (.tup zs))) ∨ (SqT K H1 p zs ∧ Q (.ref p) H1)) := by
  subst eq
  exact ⟨D, ys, rfl, .inl ⟨SqL.of e, fun l hl => q _ _ (s.trans (same_upd hl)) (SqT.of upd_same)⟩⟩
theorem sum_cast : ∀ ns : List Nat, (ns.map fun (k : Nat) => (k : Int)).sum = ((ns.sum : Nat) : Int)
  | [] => rfl
  | k :: ns => by
    rw [List.map_cons, List.sum_cons, List.sum_cons, sum_cast ns]
    exact (Int.natCast_add _ _).symm
/-- sum([..]) -/
theorem sum_lst {ns : List Nat} (e : H D = some (.lst ys)) (eq : ys = ns.map I) : SqL K H D ((ns.map fun (k : Nat) => (k : Int)).map V.int) := SqL.of (by rw [e, eq, List.map_map]; rfl)
end
/-! ### the written part named: for blocks -/
section
variable {X : Cx} {K : PySem.W.Frag}
theorem ixO (h : X.K = K) : IxR X (rIxO K) := by
  subst h
  exact ix_other
theorem ixT (h : X.K = K) : IxR X (rIxT K) := by
  subst h
  exact ix_tup
theorem ixL (h : X.K = K) : IxR X (rIxL K) := by
  subst h
  exact ix_list
theorem inS (h : X.K = K) : OpR X (compareOp .In) (rIn K false) := by
  subst h
  exact op_in_seq
end
section
variable {P : Program} {w : World} {K : PySem.W.Frag} {mg : Str → Option Value} {base : Heap}
/-! ### switches_of -/
theorem scSw : FnScope ["f", "n"] ["f"] (defScope sSw) := ⟨rfl, rfl, rfl, by decide +kernel, rfl, by decide +kernel, by decide +kernel⟩
def spSw (K : PySem.W.Frag) : Sp := fun vs H Q _ => ∃ (a : Addr) (f : List V) (n : Nat), vs = [.ref a] ∧ SqT K H a f ∧ f.length = 2 ^ n ∧ n ≤ 6 ∧ Q (I n) H
theorem ok_sw {f : Addr} {fd : FuncData} {k : Nat} (F : Fun K "switches_of" "switches_of" sSw f fd) (ml : mg "len" = none) : FnOk P w K mg base CX0 (k + 1) f fd ["f"] (spSw K) := by
  refine F.ok scSw (fun vs H Q E h => ?_) (fun cdv A outer s H vs Q E hr h => ?_)
  · obtain ⟨a, f, n, rfl, _⟩ := h
    rfl
  · obtain ⟨a, f, n, rfl, hS, hl, hn, q⟩ := h
    refine ⟨_, pss_cons (ps_set (i := 1) scSw.nd rfl (.inl rfl) pe_int)
      (pss_cons (ps_while PassesOwn.never (pt_cmpR op_lt (pe_op op_shl pe_int (pv 1)) (pe_callB call_len_seq (by rfl) ml PySem.boot_len (pa_cons (pv 0) pa_nil)) (nomark _))
          (pss_one (ps_aug (i := 1) scSw.nd rfl (.inl rfl) pe_int ip_add)))
        (pss_one (ps_ret (pv 1)))), ?_⟩
    refine ⟨fun m σ H' => ∃ i, m = n - i ∧ i ≤ n ∧ σ = [some (.ref a), some (I i)] ∧ H' = H, ⟨n, 0, rfl, Nat.zero_le _, rfl, rfl⟩, ?_⟩
    rintro m σ H' ⟨i, rfl, hi, rfl, rfl⟩
    refine ⟨I i, rfl, (1 : Int), (i : Int), rfl, rfl, cpow (a := 1) (by decide) (by omega), .ref a, rfl, a, f, rfl, .inr hS, _, _, rfl, rfl, _, rfl, ?_⟩
    have e1 : (1 : Int) * 2 ^ ((i : Int).toNat) = ((2 ^ i : Nat) : Int) := by rw [Int.one_mul, Int.toNat_natCast, pow_nat]
    rw [e1, hl]
    refine ite2 (fun c => ?_) (fun c => ?_)
    · have c' : ((2 ^ i : Nat) : Int) < ((2 ^ n : Nat) : Int) := of_decide_eq_true c
      have hlt : i < n := by
        by_cases z : i < n
        · exact z
        · exfalso
          have e : i = n := by omega
          rw [e] at c'
          omega
      refine ⟨fun σ' H1 => σ' = [some (.ref a), some (I (i + 1))] ∧ H1 = H', fun σ' H1 z => ⟨n - (i + 1), by omega, i + 1, rfl, by omega, z.1, z.2⟩, ?_⟩
      exact ⟨I i, rfl, (i : Int), 1, rfl, rfl, rfl, rfl⟩
    · have c' : ¬ ((2 ^ i : Nat) : Int) < ((2 ^ n : Nat) : Int) := fun z => c (decide_eq_true z)
      have e : i = n := by
        by_cases z : i < n
        · have : 2 ^ i < 2 ^ n := Nat.pow_lt_pow_right (by decide) z
          omega
        · omega
      subst e
      exact ⟨I i, rfl, q⟩
/-! ### opposite -/
theorem scOp : FnScope ["f", "value"] ["f"] (defScope sOp) := ⟨rfl, rfl, rfl, by decide +kernel, rfl, by decide +kernel, by decide +kernel⟩
def spOp (K : PySem.W.Frag) : Sp := fun vs H Q _ => ∃ (a : Addr) (f : List V), vs = [.ref a] ∧ SqT K H a f ∧ (∀ v, v ∈ f → Good v) ∧ f.length ≤ 64 ∧ ∀ H' p, Same H H' → SqT K H' p (f.map oth) → Q (.ref p) H'
theorem ok_op {f aO : Addr} {fd : FuncData} {k : Nat} (F : Fun K "opposite" "opposite" sOp f fd) (mt : mg "tuple" = none) (mO : mg "OTHER" = some (.ref aO)) (hO : OtherAt K aO) : FnOk P w K mg base CX0 (k + 1) f fd ["f"] (spOp K) := by
  refine F.ok scOp (fun vs H Q E h => ?_) (fun cdv A outer s H vs Q E hr h => ?_)
  · obtain ⟨a, f, rfl, _⟩ := h
    rfl
  · obtain ⟨a, f, rfl, hS, hg, hl, q⟩ := h
    refine ⟨_, pss_one (ps_ret (pe_callTy call_tuple_of (by rfl) mt (by decide +kernel) (pa_cons (pe_lc (own := [("value", 1)]) (g := gName 1) (by rfl) scOp.nd (pi_tup (pv 0)) (blkOk_by (N := ["f", "value"]) (sc := defScope sOp) (by decide +kernel))
      (fun _ _ _ _ _ => pg_name (i := 1) scOp.nd rfl (Or.inl rfl)) (fun _ _ _ _ _ => pts_nil) (fun _ _ _ _ _ => pe_ix (ixO (K := K) rfl) (pe_glob (v := .ref aO) (by rfl) mO rfl) (pv 1) (fun _ _ => rfl))) pa_nil))), ?_⟩
    refine ⟨.ref a, rfl, a, rfl, ⟨f, hS⟩, fun D new => comp_tup (K := K) (fun i => oth (f.getD i .non)) (by omega) hS new (fun _ => rfl) (fun i x H1 k hx s hk => ?_) fun H1 s e => ?_⟩
    · refine ⟨x, rfl, aO, rfl, hO, hg x (List.mem_of_getElem? hx), ?_⟩
      have e : f.getD i .non = x := by rw [List.getD_eq_getElem?_getD, hx]; rfl
      rw [← e]
      exact hk H1 (Same.refl _)
    · exact tup_end q s e (by rw [← tab_map, tab_self])
end
end K6
namespace K6
open PySem PySem.Spec PyProof.Rows L2
theorem map_at {α β : Type} {l : List α} {u : α → β} {i : Nat} {x : β} (h : (l.map u)[i]? = some x) : ∃ m, l[i]? = some m ∧ x = u m := by
  rw [List.getElem?_map] at h
  cases e : l[i]? with
  | none => rw [e] at h; cases h
  | some m => rw [e] at h; exact ⟨m, rfl, (Option.some.inj h).symm⟩
theorem getD_of {α : Type} {l : List α} {i : Nat} {x : α} (d : α) (h : l[i]? = some x) : l.getD i d = x := by
  rw [List.getD_eq_getElem?_getD, h]
  rfl
theorem map_tab {α β : Type} (l : List α) (d : α) (u : α → β) : (tab l.length fun i => u (l.getD i d)) = l.map u := by
  have e := tab_map l.length (fun i => l.getD i d) u
  rw [tab_self] at e
  exact e.symm
theorem vk {k : VK} {x y : V} {H : Hp} (e : x = y) (h : k y H) : k x H := by
  rw [e]
  exact h
theorem I_at {l : List Nat} {i : Nat} (h : i < l.length) : (l.map I)[i]? = some (I (l.getD i 0)) := by
  rw [List.getElem?_map, getD_lt 0 h]
  rfl
section
variable {te : TE} {vs : List Nat} {σ : L2.St} {H1 : Hp} {D : Addr} {Qd : Hp → Prop}
theorem comp_pair {K : PySem.W.Frag} {J : It} {G : Hp → Prop} {xs : List V} {n j1 j2 : Nat} (g : Nat → V) (w : Walk J n G (YPair (fun i => some (.int (i : Nat))) (fun i => xs[i]?))) (hG : ∀ H, Same H1 H → G H) (hn : n ≤ 1000) (new : H1 D = none)
    (hw : ∀ x y, wipe (((wipe σ vs).set j1 (some x)).set j2 (some y)) vs = wipe σ vs)
    (he : ∀ (i : Nat) (x : V) (H : Hp) (k : VK), xs[i]? = some x → Same H1 H → (∀ H', Same H H' → k (g i) H') → te (((wipe σ vs).set j1 (some (I i))).set j2 (some x)) H k)
    (hd : ∀ H, Same H1 H → H D = some (.lst (tab n g)) → Qd H) :
    Lc J (gTup K 2 (gCons (gName j1) (gCons (gName j2) gNil))) te vs σ H1 D Qd := by
  refine lc_it w (fun i H => Same H1 H ∧ H D = some (.lst (tab i g))) ⟨same_upd new, upd_same⟩ (fun i H _ p => hG H p.1) (fun i x H H' hi p y => ?_) (fun H p => hd H p.1 p.2)
  obtain ⟨T, x1, x2, rfl, nT, rfl, e1, e2⟩ := y
  injection e1 with e1
  subst e1
  have sT : Same H (upd H T (.tup [.int (i : Nat), x2])) := same_upd nT
  refine ⟨T, [.int (i : Nat), x2], rfl, SqT.of upd_same, rfl, _, _, rfl, _, _, rfl, rfl, hw _ _, ?_⟩
  show te (((wipe σ vs).set j1 (some (I i))).set j2 (some x2)) (upd H T (.tup [.int (i : Nat), x2])) _
  refine he i x2 _ _ e2 (p.1.trans sT) fun H' s => ?_
  refine ⟨tab i g, s _ _ (sT _ _ p.2), by rw [tab_len]; exact small1 (by omega), fun b o e => ?_, ?_⟩
  · rw [upd_ne (ne_of_none e new)]
    exact s _ _ (sT _ _ (p.1 _ _ e))
  · rw [upd_same, tab_succ]
end
section
variable {P : Program} {w : World} {K : PySem.W.Frag} {mg : Str → Option Value} {base : Heap}
/-! ### turned -/
theorem scTu : FnScope ["f", "some", "mask", "k", "row"] ["f", "some"] (defScope sTu) := ⟨rfl, rfl, rfl, by decide +kernel, rfl, by decide +kernel, by decide +kernel⟩
def spTu (K : PySem.W.Frag) : Sp := fun vs H Q _ => ∃ (a b : Addr) (f : List V) (n : Nat) (ks : List Nat), vs = [.ref a, .ref b] ∧ SqT K H a f ∧ f.length = 2 ^ n ∧ n ≤ 6 ∧ SqT K H b (ks.map I) ∧ ks.length ≤ 1000 ∧ (∀ k, k ∈ ks → k ≤ 1000) ∧ mk ks < 2 ^ n ∧
  ∀ H' p, Same H H' → SqT K H' p (mTurn .non f (mk ks)) → Q (.ref p) H'
theorem len64 {f : List V} {n : Nat} (h : f.length = 2 ^ n) (hn : n ≤ 6) : f.length ≤ 64 := by
  rw [h]
  exact Nat.pow_le_pow_right (by decide) hn
theorem ok_tu {f : Addr} {fd : FuncData} {k : Nat} (F : Fun K "turned" "turned" sTu f fd) (mt : mg "tuple" = none) (ml : mg "len" = none) (mr : mg "range" = none) (ms : mg "sum" = none) : FnOk P w K mg base CX0 (k + 1) f fd ["f", "some"] (spTu K) := by
  refine F.ok scTu (fun vs H Q E h => ?_) (fun cdv A outer s H vs Q E hr h => ?_)
  · obtain ⟨a, b, f, n, ks, rfl, _⟩ := h
    rfl
  · obtain ⟨a, b, f, n, ks, rfl, hA, hl, hn, hB, hk1, hk2, hm, q⟩ := h
    have h64 := len64 hl hn
    refine ⟨_, pss_cons (ps_set (i := 2) scTu.nd rfl (.inr rfl) (pe_callB (cr_sum rfl) (by rfl) ms (by decide +kernel) (pa_cons (pe_lc (own := [("k", 3)]) (g := gName 3) (by rfl) scTu.nd (pi_tup (pv 1)) (blkOk_by (N := ["f", "some", "mask", "k", "row"]) (sc := defScope sTu) (by decide +kernel))
        (fun _ _ _ _ _ => pg_name (i := 3) scTu.nd rfl (Or.inl rfl)) (fun _ _ _ _ _ => pts_nil) (fun _ _ _ _ _ => pe_op op_shl pe_int (pv 3))) pa_nil)))
      (pss_one (ps_ret (pe_callTy call_tuple_of (by rfl) mt (by decide +kernel) (pa_cons (pe_lc (own := [("row", 4)]) (g := gName 4) (by rfl) scTu.nd (pi_range1 (by rfl) mr (pa_cons (pe_callB call_len_seq (by rfl) ml PySem.boot_len (pa_cons (pv 0) pa_nil)) pa_nil)) (blkOk_by (N := ["f", "some", "mask", "k", "row"]) (sc := defScope sTu) (by decide +kernel))
        (fun _ _ _ _ _ => pg_name (i := 4) scTu.nd rfl (Or.inl rfl)) (fun _ _ _ _ _ => pts_nil) (fun _ _ _ _ _ => pe_ix (ixT (K := K) rfl) (pv 0) (pe_op op_xor (pv 4) (pv 2)) (fun _ _ => rfl))) pa_nil)))), ?_⟩
    refine ⟨.ref b, rfl, b, rfl, ⟨_, hB⟩, fun D new => comp_tup (K := K) (fun i => I (2 ^ ks.getD i 0)) (by rw [List.length_map]; omega) hB new (fun _ => rfl) (fun i x H1 k hx s hk => ?_) fun H1 s e => ?_⟩
    · obtain ⟨m, hm1, rfl⟩ := map_at hx
      refine ⟨I m, rfl, 1, (m : Int), rfl, rfl, cpow (a := 1) (by decide) (hk2 m (List.mem_of_getElem? hm1)), ?_⟩
      have e1 : V.int ((1 : Int) * 2 ^ ((m : Int).toNat)) = I (2 ^ ks.getD i 0) := by
        rw [getD_of 0 hm1, Int.one_mul, Int.toNat_natCast, pow_nat]
        rfl
      exact vk e1 (hk H1 (Same.refl _))
    · refine ⟨D, (ks.map fun k => 2 ^ k).map fun (k : Nat) => (k : Int), rfl, sum_lst e (by rw [List.length_map, List.map_map]; exact map_tab ks 0 fun k => I (2 ^ k)), ?_⟩
      rw [sum_cast]
      refine ⟨.ref a, rfl, a, f, rfl, .inr (same_sqt s hA), ((f.length : Nat) : Int), rfl, by omega, by omega, fun D2 new2 => comp_rng (n := f.length) (fun r => f.getD (r ^^^ mk ks) .non) (by omega) new2 (fun _ => rfl) (fun i H2 k hi s2 hk => ?_) fun H2 s2 e2 => ?_⟩
      · refine ⟨.ref a, rfl, I i, rfl, I (mk ks), rfl, (i : Int), (mk ks : Int), rfl, rfl, a, f, _, _, rfl, rfl, same_sqt (s.trans s2) hA, at_of (xor_nat _ _) (getD_lt .non (by rw [hl]; exact Nat.xor_lt_two_pow (by omega) hm)), hk H2 (Same.refl _)⟩
      · exact tup_end q (s.trans s2) e2 rfl
/-! ### row_by -/
theorem scRb : FnScope ["row", "order", "k"] ["row", "order"] (defScope sRb) := ⟨rfl, rfl, rfl, by decide +kernel, rfl, by decide +kernel, by decide +kernel⟩
def spRb (K : PySem.W.Frag) : Sp := fun vs H Q _ => ∃ (r : Nat) (b : Addr) (o : List Nat), vs = [I r, .ref b] ∧ SqT K H b (o.map I) ∧ o.length ≤ 64 ∧ (∀ x, x ∈ o → x ≤ 64) ∧ ∀ H', Same H H' → Q (I (rbS r o)) H'
theorem and1_nat (a : Nat) : Builtin.bitAnd (a : Int) 1 = ((a % 2 : Nat) : Int) := by
  rw [← Nat.and_one_is_mod]
  rfl
theorem ok_rb {f : Addr} {fd : FuncData} {k : Nat} (F : Fun K "row_by" "row_by" sRb f fd) (ml : mg "len" = none) (mr : mg "range" = none) (ms : mg "sum" = none) : FnOk P w K mg base CX0 (k + 1) f fd ["row", "order"] (spRb K) := by
  refine F.ok scRb (fun vs H Q E h => ?_) (fun cdv A outer s H vs Q E hr h => ?_)
  · obtain ⟨r, b, o, rfl, _⟩ := h
    rfl
  · obtain ⟨r, b, o, rfl, hB, h64, hx, q⟩ := h
    refine ⟨_, pss_one (ps_ret (pe_callB (cr_sum rfl) (by rfl) ms (by decide +kernel) (pa_cons (pe_lc (own := [("k", 2)]) (g := gName 2) (by rfl) scRb.nd (pi_range1 (by rfl) mr (pa_cons (pe_callB call_len_seq (by rfl) ml PySem.boot_len (pa_cons (pv 1) pa_nil)) pa_nil)) (blkOk_by (N := ["row", "order", "k"]) (sc := defScope sRb) (by decide +kernel))
        (fun _ _ _ _ _ => pg_name (i := 2) scRb.nd rfl (Or.inl rfl)) (fun _ _ _ _ _ => pts_nil)
        (fun _ _ _ _ _ => pe_op op_shl (pe_op op_and (pe_op op_shr (pv 0) (pv 2)) pe_int) (pe_ix (ixT (K := K) rfl) (pv 1) (pv 2) (fun _ _ => rfl)))) pa_nil))), ?_⟩
    refine ⟨.ref b, rfl, b, _, rfl, .inr hB, ((o.length : Nat) : Int), by rw [List.length_map], by omega, by omega, fun D new => comp_rng (n := o.length) (fun k => I ((r / 2 ^ k % 2) * 2 ^ (o.getD k 0))) (by omega) new (fun _ => rfl) (fun i H1 k hi s hk => ?_) fun H1 s e => ?_⟩
    · have hm : o.getD i 0 ≤ 64 := hx _ (getD_mem hi)
      have h2 : r / 2 ^ i % 2 < 2 := Nat.mod_lt _ (by decide)
      refine ⟨I r, rfl, I i, rfl, (r : Int), (i : Int), rfl, rfl, Int.natCast_nonneg _, ((r / 2 ^ i : Nat) : Int), 1, congrArg V.int (shr_nat r i), rfl, .ref b, rfl, I i, rfl, b, o.map I, (i : Int), _, rfl, rfl, same_sqt s hB, at_of rfl (I_at hi), ((r / 2 ^ i % 2 : Nat) : Int), ((o.getD i 0 : Nat) : Int), congrArg V.int (and1_nat _), rfl, cpow (by omega) (by omega), ?_⟩
      have e1 : V.int (((r / 2 ^ i % 2 : Nat) : Int) * 2 ^ (((o.getD i 0 : Nat) : Int).toNat)) = I ((r / 2 ^ i % 2) * 2 ^ (o.getD i 0)) := congrArg V.int (shl_nat _ _)
      exact vk e1 (hk H1 (Same.refl _))
    · refine ⟨D, (tab o.length fun k => (r / 2 ^ k % 2) * 2 ^ (o.getD k 0)).map fun (k : Nat) => (k : Int), rfl, sum_lst e (tab_map _ _ _).symm, ?_⟩
      rw [sum_cast]
      exact q H1 s
/-! ### renamed -/
theorem scRe : FnScope ["f", "order", "row"] ["f", "order"] (defScope sRe) := ⟨rfl, rfl, rfl, by decide +kernel, rfl, by decide +kernel, by decide +kernel⟩
def spRe (K : PySem.W.Frag) : Sp := fun vs H Q _ => ∃ (a b : Addr) (f : List V) (n : Nat) (o : List Nat), vs = [.ref a, .ref b] ∧ SqT K H a f ∧ f.length = 2 ^ n ∧ n ≤ 6 ∧ SqT K H b (o.map I) ∧ Ord n o ∧
  ∀ H' p, Same H H' → SqT K H' p (mRen .non f o) → Q (.ref p) H'
theorem ok_re {f g : Addr} {fd gd : FuncData} {k : Nat} (F : Fun K "renamed" "renamed" sRe f fd) (G : FnOk P w K mg base CX0 (k + 1) g gd ["row", "order"] (spRb K)) (mG : mg "row_by" = some (.ref g)) (kG : PySem.W.keepIn K (.ref g) = true) (bG : Binds K gd ["row", "order"] [])
    (mt : mg "tuple" = none) (ml : mg "len" = none) (mr : mg "range" = none) : FnOk P w K mg base CX0 (k + 2) f fd ["f", "order"] (spRe K) := by
  refine F.ok scRe (fun vs H Q E h => ?_) (fun cdv A outer s H vs Q E hr h => ?_)
  · obtain ⟨a, b, f, n, o, rfl, _⟩ := h
    rfl
  · obtain ⟨a, b, f, n, o, rfl, hA, hl, hn, hB, ho, q⟩ := h
    have h64 := len64 hl hn
    refine ⟨_, pss_one (ps_ret (pe_callTy call_tuple_of (by rfl) mt (by decide +kernel) (pa_cons (pe_lc (own := [("row", 2)]) (g := gName 2) (by rfl) scRe.nd (pi_range1 (by rfl) mr (pa_cons (pe_callB call_len_seq (by rfl) ml PySem.boot_len (pa_cons (pv 0) pa_nil)) pa_nil)) (blkOk_by (N := ["f", "order", "row"]) (sc := defScope sRe) (by decide +kernel))
        (fun _ _ _ _ _ => pg_name (i := 2) scRe.nd rfl (Or.inl rfl)) (fun _ _ _ _ _ => pts_nil) (fun _ _ _ _ _ => pe_ix (ixT (K := K) rfl) (pv 0) (pe_call G hr (by rfl) mG kG bG .nil pass0 (pa_cons (pv 2) (pa_cons (pv 1) pa_nil))) (fun _ _ => rfl))) pa_nil))), ?_⟩
    refine ⟨.ref a, rfl, a, f, rfl, .inr hA, ((f.length : Nat) : Int), rfl, by omega, by omega, fun D2 new2 => comp_rng (n := f.length) (fun r => f.getD (rbS r o) .non) (by omega) new2 (fun _ => rfl) (fun i H2 k hi s2 hk => ?_) fun H2 s2 e2 => ?_⟩
    · refine ⟨.ref a, rfl, I i, rfl, .ref b, rfl, i, b, o, rfl, same_sqt s2 hB, by have := ho.len; omega, fun x hx => by have := ho.lt x hx; omega, fun H3 s3 => ?_⟩
      exact ⟨a, f, _, _, rfl, rfl, same_sqt (s2.trans s3) hA, at_of rfl (getD_lt .non (by rw [hl]; exact ho.rb i)), hk H3 s3⟩
    · exact tup_end q s2 e2 rfl
end
end K6
namespace K6
open PySem PySem.Spec PyProof.Rows L2
section
variable {P : Program} {w : World} {K : PySem.W.Frag} {mg : Str → Option Value} {base : Heap}
/-! ### without_switch, with_switch -/
theorem scWo : FnScope ["row", "k"] ["row", "k"] (defScope sWo) := ⟨rfl, rfl, rfl, by decide +kernel, rfl, by decide +kernel, by decide +kernel⟩
def spWo : Sp := fun vs H Q _ => ∃ (r k : Nat), vs = [I r, I k] ∧ r < 2 ^ 10 ∧ k ≤ 64 ∧ Q (I (wo r k)) H
theorem div_lt64 {r : Nat} (h : r < 2 ^ 10) (k : Nat) : r / 2 ^ k < 2 ^ 64 := Nat.lt_of_le_of_lt (Nat.div_le_self _ _) (Nat.lt_trans h (by decide))
theorem ok_wo {f : Addr} {fd : FuncData} {k : Nat} (F : Fun K "without_switch" "without_switch" sWo f fd) : FnOk P w K mg base CX0 (k + 1) f fd ["row", "k"] spWo := by
  refine F.ok scWo (fun vs H Q E h => ?_) (fun cdv A outer s H vs Q E hr h => ?_)
  · obtain ⟨r, k, rfl, _⟩ := h
    rfl
  · obtain ⟨r, k, rfl, hr10, hk, q⟩ := h
    refine ⟨_, pss_one (ps_ret (pe_op op_or (pe_op op_shl (pe_op op_shr (pv 0) (pe_op op_add (pv 1) pe_int)) (pv 1)) (pe_op op_and (pv 0) (pe_op op_sub (pe_op op_shl pe_int (pv 1)) pe_int)))), ?_⟩
    refine ⟨I r, rfl, I k, rfl, (k : Int), 1, rfl, rfl, (r : Int), ((k + 1 : Nat) : Int), rfl, rfl, Int.natCast_nonneg _, I k, rfl, ((r / 2 ^ (k + 1) : Nat) : Int), (k : Int), congrArg V.int (shr_nat _ _), rfl, cpow (div_lt64 hr10 _) (by omega), ?_⟩
    refine ⟨I r, rfl, I k, rfl, 1, (k : Int), rfl, rfl, cpow (a := 1) (by decide) (by omega), ((2 ^ k : Nat) : Int), 1, ?_, rfl, (r : Int), ((2 ^ k - 1 : Nat) : Int), rfl, congrArg V.int (sub1_nat k), ((r / 2 ^ (k + 1) * 2 ^ k : Nat) : Int), ((r &&& (2 ^ k - 1) : Nat) : Int), congrArg V.int (shl_nat _ _), rfl, vk (congrArg V.int (or_nat _ _)) q⟩
    show V.int ((1 : Int) * 2 ^ ((k : Int).toNat)) = _
    rw [Int.one_mul, Int.toNat_natCast, pow_nat]
theorem scWi : FnScope ["row", "k", "v"] ["row", "k", "v"] (defScope sWi) := ⟨rfl, rfl, rfl, by decide +kernel, rfl, by decide +kernel, by decide +kernel⟩
def spWi : Sp := fun vs H Q _ => ∃ (r k v : Nat), vs = [I r, I k, I v] ∧ r < 2 ^ 10 ∧ k ≤ 64 ∧ v < 2 ∧ Q (I (wi r k v)) H
theorem ok_wi {f : Addr} {fd : FuncData} {k : Nat} (F : Fun K "with_switch" "with_switch" sWi f fd) : FnOk P w K mg base CX0 (k + 1) f fd ["row", "k", "v"] spWi := by
  refine F.ok scWi (fun vs H Q E h => ?_) (fun cdv A outer s H vs Q E hr h => ?_)
  · obtain ⟨r, k, v, rfl, _⟩ := h
    rfl
  · obtain ⟨r, k, v, rfl, hr10, hk, hv, q⟩ := h
    refine ⟨_, pss_one (ps_ret (pe_op op_or (pe_op op_or (pe_op op_shl (pe_op op_shr (pv 0) (pv 1)) (pe_op op_add (pv 1) pe_int)) (pe_op op_shl (pv 2) (pv 1))) (pe_op op_and (pv 0) (pe_op op_sub (pe_op op_shl pe_int (pv 1)) pe_int)))), ?_⟩
    refine ⟨I r, rfl, I k, rfl, (r : Int), (k : Int), rfl, rfl, Int.natCast_nonneg _, I k, rfl, (k : Int), 1, rfl, rfl, ((r / 2 ^ k : Nat) : Int), ((k + 1 : Nat) : Int), congrArg V.int (shr_nat _ _), rfl, cpow (div_lt64 hr10 _) (by omega), ?_⟩
    refine ⟨I v, rfl, I k, rfl, (v : Int), (k : Int), rfl, rfl, cpow (by omega) (by omega), ((r / 2 ^ k * 2 ^ (k + 1) : Nat) : Int), ((v * 2 ^ k : Nat) : Int), congrArg V.int (shl_nat _ _), congrArg V.int (shl_nat _ _), ?_⟩
    refine ⟨I r, rfl, I k, rfl, 1, (k : Int), rfl, rfl, cpow (a := 1) (by decide) (by omega), ((2 ^ k : Nat) : Int), 1, ?_, rfl, (r : Int), ((2 ^ k - 1 : Nat) : Int), rfl, congrArg V.int (sub1_nat k), ((r / 2 ^ k * 2 ^ (k + 1) ||| v * 2 ^ k : Nat) : Int), ((r &&& (2 ^ k - 1) : Nat) : Int), congrArg V.int (or_nat _ _), rfl, vk (congrArg V.int (or_nat _ _)) q⟩
    show V.int ((1 : Int) * 2 ^ ((k : Int).toNat)) = _
    rw [Int.one_mul, Int.toNat_natCast, pow_nat]
/-! ### idle -/
theorem scId : FnScope ["f", "k", "row"] ["f", "k"] (defScope sId) := ⟨rfl, rfl, rfl, by decide +kernel, rfl, by decide +kernel, by decide +kernel⟩
def spId (K : PySem.W.Frag) : Sp := fun vs H Q _ => ∃ (a : Addr) (f : List V) (n k : Nat), vs = [.ref a, I k] ∧ SqT K H a f ∧ f.length = 2 ^ n ∧ n ≤ 5 ∧ k ≤ n ∧ ∀ H' p, Same H H' → SqT K H' p (mIdle .non f k) → Q (.ref p) H'
theorem ok_id {f g : Addr} {fd gd : FuncData} {k : Nat} (F : Fun K "idle" "idle" sId f fd) (G : FnOk P w K mg base CX0 (k + 1) g gd ["row", "k"] spWo) (mG : mg "without_switch" = some (.ref g)) (kG : PySem.W.keepIn K (.ref g) = true) (bG : Binds K gd ["row", "k"] [])
    (mt : mg "tuple" = none) (ml : mg "len" = none) (mr : mg "range" = none) : FnOk P w K mg base CX0 (k + 2) f fd ["f", "k"] (spId K) := by
  refine F.ok scId (fun vs H Q E h => ?_) (fun cdv A outer s H vs Q E hr h => ?_)
  · obtain ⟨a, f, n, k, rfl, _⟩ := h
    rfl
  · obtain ⟨a, f, n, k, rfl, hA, hl, hn, hk, q⟩ := h
    have h32 : f.length ≤ 32 := by
      rw [hl]
      exact Nat.pow_le_pow_right (by decide) hn
    refine ⟨_, pss_one (ps_ret (pe_callTy call_tuple_of (by rfl) mt (by decide +kernel) (pa_cons (pe_lc (own := [("row", 2)]) (g := gName 2) (by rfl) scId.nd (pi_range1 (by rfl) mr (pa_cons (pe_op op_mul pe_int (pe_callB call_len_seq (by rfl) ml PySem.boot_len (pa_cons (pv 0) pa_nil))) pa_nil)) (blkOk_by (N := ["f", "k", "row"]) (sc := defScope sId) (by decide +kernel))
        (fun _ _ _ _ _ => pg_name (i := 2) scId.nd rfl (Or.inl rfl)) (fun _ _ _ _ _ => pts_nil) (fun _ _ _ _ _ => pe_ix (ixT (K := K) rfl) (pv 0) (pe_call G hr (by rfl) mG kG bG .nil pass0 (pa_cons (pv 2) (pa_cons (pv 1) pa_nil))) (fun _ _ => rfl))) pa_nil))), ?_⟩
    refine ⟨.ref a, rfl, a, f, rfl, .inr hA, 2, ((f.length : Nat) : Int), rfl, rfl, .inl ⟨by decide, by decide⟩, ((2 * f.length : Nat) : Int), ?_, by omega, by omega, fun D2 new2 => comp_rng (n := 2 * f.length) (fun r => f.getD (wo r k) .non) (by omega) new2 (fun _ => rfl) (fun i H2 k' hi s2 hk' => ?_) fun H2 s2 e2 => ?_⟩
    · rw [Int.natCast_mul]
      rfl
    · refine ⟨.ref a, rfl, I i, rfl, I k, rfl, i, k, rfl, by omega, by omega, ?_⟩
      refine ⟨a, f, _, _, rfl, rfl, same_sqt s2 hA, at_of rfl (getD_lt .non (by rw [hl]; exact wo_lt hk (by rw [Nat.pow_succ]; omega))), hk' H2 (Same.refl _)⟩
    · exact tup_end q s2 e2 rfl
/-! ### held -/
theorem scHe : FnScope ["f", "k", "v", "row"] ["f", "k", "v"] (defScope sHe) := ⟨rfl, rfl, rfl, by decide +kernel, rfl, by decide +kernel, by decide +kernel⟩
def spHe (K : PySem.W.Frag) : Sp := fun vs H Q _ => ∃ (a : Addr) (f : List V) (n k v : Nat), vs = [.ref a, I k, I v] ∧ SqT K H a f ∧ f.length = 2 ^ n ∧ n ≤ 6 ∧ k < n ∧ v < 2 ∧ ∀ H' p, Same H H' → SqT K H' p (mHeld .non f n k v) → Q (.ref p) H'
theorem ok_he {f g g2 : Addr} {fd gd gd2 : FuncData} {k : Nat} (F : Fun K "held" "held" sHe f fd) (G : FnOk P w K mg base CX0 (k + 1) g gd ["row", "k", "v"] spWi) (mG : mg "with_switch" = some (.ref g)) (kG : PySem.W.keepIn K (.ref g) = true) (bG : Binds K gd ["row", "k", "v"] [])
    (G2 : FnOk P w K mg base CX0 (k + 1) g2 gd2 ["f"] (spSw K)) (mG2 : mg "switches_of" = some (.ref g2)) (kG2 : PySem.W.keepIn K (.ref g2) = true) (bG2 : Binds K gd2 ["f"] [])
    (mt : mg "tuple" = none) (mr : mg "range" = none) : FnOk P w K mg base CX0 (k + 2) f fd ["f", "k", "v"] (spHe K) := by
  refine F.ok scHe (fun vs H Q E h => ?_) (fun cdv A outer s H vs Q E hr h => ?_)
  · obtain ⟨a, f, n, k, v, rfl, _⟩ := h
    rfl
  · obtain ⟨a, f, n, k, v, rfl, hA, hl, hn, hk, hv, q⟩ := h
    have h64 := len64 hl hn
    obtain ⟨m, rfl⟩ : ∃ m, n = m + 1 := ⟨n - 1, by omega⟩
    have h2m : 2 ^ m ≤ 32 := Nat.pow_le_pow_right (n := 2) (by decide) (show m ≤ 5 by omega)
    refine ⟨_, pss_one (ps_ret (pe_callTy call_tuple_of (by rfl) mt (by decide +kernel) (pa_cons (pe_lc (own := [("row", 3)]) (g := gName 3) (by rfl) scHe.nd (pi_range1 (by rfl) mr (pa_cons (pe_op op_shl pe_int (pe_op op_sub (pe_call G2 hr (by rfl) mG2 kG2 bG2 .nil pass0 (pa_cons (pv 0) pa_nil)) pe_int)) pa_nil)) (blkOk_by (N := ["f", "k", "v", "row"]) (sc := defScope sHe) (by decide +kernel))
        (fun _ _ _ _ _ => pg_name (i := 3) scHe.nd rfl (Or.inl rfl)) (fun _ _ _ _ _ => pts_nil) (fun _ _ _ _ _ => pe_ix (ixT (K := K) rfl) (pv 0) (pe_call G hr (by rfl) mG kG bG .nil pass0 (pa_cons (pv 3) (pa_cons (pv 1) (pa_cons (pv 2) pa_nil)))) (fun _ _ => rfl))) pa_nil))), ?_⟩
    refine ⟨.ref a, rfl, a, f, m + 1, rfl, hA, hl, hn, ((m + 1 : Nat) : Int), 1, rfl, rfl, 1, (m : Int), rfl, ?_, cpow (a := 1) (by decide) (by omega), ((2 ^ m : Nat) : Int), ?_, by omega, by omega, fun D2 new2 => comp_rng (n := 2 ^ m) (fun r => f.getD (wi r k v) .non) (by omega) new2 (fun _ => rfl) (fun i H2 k' hi s2 hk' => ?_) fun H2 s2 e2 => ?_⟩
    · show V.int (((m + 1 : Nat) : Int) - 1) = V.int (m : Int)
      rw [show ((m + 1 : Nat) : Int) - 1 = (m : Int) by omega]
    · show [V.int ((1 : Int) * 2 ^ ((m : Int).toNat))] = _
      rw [Int.one_mul, Int.toNat_natCast, pow_nat]
    · refine ⟨.ref a, rfl, I i, rfl, I k, rfl, I v, rfl, i, k, v, rfl, by omega, by omega, hv, ?_⟩
      refine ⟨a, f, _, _, rfl, rfl, same_sqt s2 hA, at_of rfl (getD_lt .non (by rw [hl]; exact wi_lt hv (by omega) hi)), hk' H2 (Same.refl _)⟩
    · exact tup_end q s2 e2 rfl
/-! ### left_out -/
theorem in_rows (r : Nat) : ∀ rows : List Nat, inV (I r) (rows.map I) = decide (r ∈ rows)
  | [] => rfl
  | x :: rows => by
    have ih := in_rows r rows
    unfold inV at ih ⊢
    rw [List.map_cons, List.any_cons, ih]
    show (((x : Int) == (r : Int)) || decide (r ∈ rows)) = decide (r ∈ x :: rows)
    by_cases c : r = x
    · subst c
      simp
    · have c2 : ((x : Int) == (r : Int)) = false := beq_eq_false_iff_ne.mpr fun q => c (Int.ofNat.inj q).symm
      rw [c2, Bool.false_or]
      simp [c]
theorem scLe : FnScope ["f", "rows", "row", "value"] ["f", "rows"] (defScope sLe) := ⟨rfl, rfl, rfl, by decide +kernel, rfl, by decide +kernel, by decide +kernel⟩
def spLe (K : PySem.W.Frag) : Sp := fun vs H Q _ => ∃ (a b : Addr) (f : List V) (rows : List Nat), vs = [.ref a, .ref b] ∧ SqT K H a f ∧ f.length ≤ 64 ∧ SqT K H b (rows.map I) ∧ ∀ H' p, Same H H' → SqT K H' p (mLeft .non f rows) → Q (.ref p) H'
theorem ok_le {f : Addr} {fd : FuncData} {k : Nat} (F : Fun K "left_out" "left_out" sLe f fd) (mt : mg "tuple" = none) (me : mg "enumerate" = none) : FnOk P w K mg base CX0 (k + 1) f fd ["f", "rows"] (spLe K) := by
  refine F.ok scLe (fun vs H Q E h => ?_) (fun cdv A outer s H vs Q E hr h => ?_)
  · obtain ⟨a, b, f, rows, rfl, _⟩ := h
    rfl
  · obtain ⟨a, b, f, rows, rfl, hA, h64, hB, q⟩ := h
    refine ⟨_, pss_one (ps_ret (pe_callTy call_tuple_of (by rfl) mt (by decide +kernel) (pa_cons (pe_lc (own := [("row", 2), ("value", 3)]) (g := gTup K 2 (gCons (gName 2) (gCons (gName 3) gNil))) (by rfl) scLe.nd (pi_enumT (by rfl) me (pa_cons (pv 0) pa_nil)) (blkOk_by (N := ["f", "rows", "row", "value"]) (sc := defScope sLe) (by decide +kernel))
        (fun _ _ _ _ _ => pg_tup rfl (pgs_cons (pg_name (i := 2) scLe.nd rfl (Or.inl rfl)) (pgs_cons (pg_name (i := 3) scLe.nd rfl (Or.inl rfl)) pgs_nil))) (fun _ _ _ _ _ => pts_nil)
        (fun _ _ _ _ _ => pe_ifExp (pt_cmpR (inS (K := K) rfl) (pv 2) (pv 1) (by rfl)) pe_non (pv 3))) pa_nil))), ?_⟩
    refine ⟨.ref a, rfl, a, f, rfl, hA, fun D new => comp_pair (K := K) (fun r => if decide (r ∈ rows) = true then .non else f.getD r .non) (walk_enumT (G := fun H' => SqT K H' a f) rfl fun _ z => z) (fun H' s => same_sqt s hA) (by omega) new (fun _ _ => rfl) (fun i x H2 k' hx s2 hk' => ?_) fun H2 s2 e2 => ?_⟩
    · refine ⟨I i, rfl, .ref b, rfl, b, _, rfl, .inr (same_sqt s2 hB), rfl, flat_I rows, _, rfl, ?_⟩
      show if inV (I i) (rows.map I) = true then _ else _
      rw [in_rows]
      have e : f.getD i .non = x := getD_of .non hx
      refine ite2 (fun c => ?_) (fun c => ?_)
      · have r := hk' H2 (Same.refl _)
        rw [if_pos c] at r
        exact r
      · have r := hk' H2 (Same.refl _)
        rw [if_neg c, e] at r
        exact ⟨x, rfl, r⟩
    · exact tup_end q s2 e2 rfl
end
end K6
namespace K6
open PySem PySem.Spec PyProof.Rows L2
/-! ### comprehensions whose elements draw from the hand -/
section
variable {te : TE} {vs : List Nat} {σ : L2.St} {H1 : Hp} {D h : Addr} {Qd : Hp → Prop}
theorem hand_ne {H : Hp} {h D : Addr} (x : HandAt H h) (new : H D = none) : D ≠ h := fun e => by
  obtain ⟨a, b, c, e', _⟩ := x
  rw [← e, new] at e'
  cases e'
theorem HandAt.new {H : Hp} {h D : Addr} {o : HO} (x : HandAt H h) (n : D ≠ h) : HandAt (upd H D o) h := by
  obtain ⟨a, b, c, e, r⟩ := x
  exact ⟨a, b, c, by rw [upd_ne n.symm]; exact e, r⟩
theorem SameX.new {H H' : Hp} {h D : Addr} {o : HO} (s : SameX h H H') (n : H D = none) : SameX h H (L2.upd H' D o) := fun b u ne e => by
  rw [upd_ne (ne_of_none e n)]
  exact s b u ne e
theorem comp_draw {n j : Nat} (ok : V → Prop) (hn : n ≤ 1000) (hH : HandAt H1 h) (new : H1 D = none) (hw : ∀ x, wipe ((wipe σ vs).set j (some x)) vs = wipe σ vs)
    (he : ∀ (i : Nat) (H : Hp) (k : VK), i < n → SameX h H1 H → HandAt H h → (∀ y H', ok y → SameX h H H' → HandAt H' h → k y H') → te ((wipe σ vs).set j (some (I i))) H k)
    (hd : ∀ H acc, SameX h H1 H → HandAt H h → H D = some (.lst acc) → acc.length = n → (∀ v, v ∈ acc → ok v) → Qd H) :
    Lc (Itr 0 n) (gName j) te vs σ H1 D Qd := by
  have nD := hand_ne hH new
  refine lc_range (fun i H => SameX h H1 H ∧ HandAt H h ∧ ∃ acc, H D = some (.lst acc) ∧ acc.length = i ∧ ∀ v, v ∈ acc → ok v) ⟨SameX.of (same_upd new), hH.new nD, [], upd_same, rfl, fun _ z => nomatch z⟩ (fun i H hi p => ?_) (fun H p => ?_)
  · obtain ⟨p1, p2, acc, p3, p4, p5⟩ := p
    refine ⟨hw _, ?_⟩
    rw [Int.zero_add]
    show te ((wipe σ vs).set j (some (I i))) H _
    refine he i H _ hi p1 p2 fun y H' hy s hh => ?_
    refine ⟨acc, s _ _ nD p3, small1 (by omega), SameX.new (p1.trans s) new, hh.new nD, acc ++ [y], upd_same, by rw [List.length_append, p4]; rfl, fun v hv => ?_⟩
    rcases List.mem_append.mp hv with hv | hv
    · exact p5 v hv
    · rw [List.mem_singleton.mp hv]
      exact hy
  · obtain ⟨p1, p2, acc, p3, p4, p5⟩ := p
    exact hd H acc p1 p2 p3 p4 p5
end
section
variable {P : Program} {w : World} {K : PySem.W.Frag} {mg : Str → Option Value} {base : Heap}
/-! ### _law_hand -/
theorem scHand : FnScope ["_law_script", "_law_k", "_law_cell", "_law_far", "_law_seed"] ["_law_script", "_law_k"] (defScope sHand) := ⟨rfl, rfl, rfl, by decide +kernel, rfl, by decide +kernel, by decide +kernel⟩
def spHand (K : PySem.W.Frag) : Sp := fun vs H Q _ => ∃ (a : Addr) (ns : List Int) (k : Nat), vs = [.ref a, I k] ∧ SqL K H a (ns.map V.int) ∧ k ≤ 100 ∧ ∀ H' h, Same H H' → H h = none → HandAt H' h → Q (.ref h) H'
theorem far_pos : (0 : Int) < 10 ^ Int.toNat 60 * 10 ^ Int.toNat 60 * 10 ^ Int.toNat 60 * 10 ^ Int.toNat 60 := by decide +kernel
theorem bit_ok (b : Bool) : -(2 ^ 64) < (if b = true then (1 : Int) else 0) ∧ (if b = true then (1 : Int) else 0) < 2 ^ 64 := by
  cases b <;> decide
theorem ok_hand {f : Addr} {fd : FuncData} {k : Nat} (F : Fun K "_law_hand" "_law_hand" sHand f fd) (ml : mg "len" = none) (ma : mg "abs" = none) (mi : mg "int" = none) : FnOk P w K mg base CX0 (k + 1) f fd ["_law_script", "_law_k"] (spHand K) := by
  refine F.ok scHand (fun vs H Q E h => ?_) (fun cdv A outer s H vs Q E hr h => ?_)
  · obtain ⟨a, ns, k, rfl, _⟩ := h
    rfl
  · obtain ⟨a, ns, k, rfl, hS, hk, q⟩ := h
    refine ⟨_, pss_cons (ps_set (i := 2) scHand.nd rfl (.inl rfl) pe_int)
      (pss_cons (ps_if (pt_cmpR op_lt (pv 1) (pe_callB call_len_seq (by rfl) ml PySem.boot_len (pa_cons (pv 0) pa_nil)) (nomark _)) (pss_one (ps_set (i := 2) scHand.nd rfl (.inl rfl) (pe_ix ix_list (pv 0) (pv 1) (fun _ _ => rfl)))) pss_nil)
      (pss_cons (ps_set (i := 3) scHand.nd rfl (.inl rfl) (pe_op op_mulW (pe_op op_mulW (pe_op op_mulW (pe_op op_pow pe_int pe_int) (pe_op op_pow pe_int pe_int)) (pe_op op_pow pe_int pe_int)) (pe_op op_pow pe_int pe_int)))
      (pss_cons (ps_set (i := 4) scHand.nd rfl (.inl rfl) (pe_op op_mod (pe_op op_mul (pe_op op_add (pe_op op_add (pe_op op_mod (pv 2) pe_int) (pe_op op_mul pe_int (pv 1))) pe_int) pe_int) pe_int))
      (pss_one (ps_ret (pe_lst (pa_cons (pe_op op_mul (pe_op op_mod (pe_callB call_abs (by rfl) ma (by decide +kernel) (pa_cons (pv 2) pa_nil)) (pv 3)) (pe_callTy call_int1 (by rfl) mi (by decide +kernel) (pa_cons (pe_cmpR op_ge (pe_callB call_abs (by rfl) ma (by decide +kernel) (pa_cons (pv 2) pa_nil)) (pe_op op_pow pe_int pe_int) (nomark _)) pa_nil)))
        (pa_cons (pv 4) (pa_cons pe_int pa_nil))))))))), ?_⟩
    refine ⟨I k, rfl, .ref a, rfl, a, _, rfl, .inl hS, _, _, rfl, rfl, _, rfl, ?_⟩
    refine ite2 (fun c => ?_) (fun c => ?_)
    · have c' : (k : Int) < (((ns.map V.int).length : Nat) : Int) := of_decide_eq_true c
      rw [List.length_map] at c'
      have hlt : k < ns.length := by omega
      refine ⟨.ref a, rfl, I k, rfl, a, _, (k : Int), .int ns[k], rfl, rfl, hS, at_of rfl (by rw [List.getElem?_map, List.getElem?_eq_getElem hlt]; rfl), ?_⟩
      refine ⟨10, 60, rfl, rfl, ⟨by decide, by decide, by decide⟩, 10, 60, rfl, rfl, ⟨by decide, by decide, by decide⟩, _, _, rfl, rfl, wide_mul (a := 200) (b := 200) (by decide +kernel) (by decide +kernel) (by decide) (by decide) (by decide), 10, 60, rfl, rfl, ⟨by decide, by decide, by decide⟩, _, _, rfl, rfl, wide_mul (a := 400) (b := 200) (by decide +kernel) (by decide +kernel) (by decide) (by decide) (by decide), 10, 60, rfl, rfl, ⟨by decide, by decide, by decide⟩, _, _, rfl, rfl, wide_mul (a := 600) (b := 200) (by decide +kernel) (by decide +kernel) (by decide) (by decide) (by decide), ?_⟩
      refine ⟨_, rfl, _, _, rfl, rfl, (by show (0 : Int) < 2147483629; decide), I k, rfl, 7919, (k : Int), rfl, rfl, .inl ⟨by decide, by decide⟩, _, _, rfl, rfl, _, _, rfl, rfl, _, _, rfl, rfl, .inr ⟨by decide, by decide⟩, _, _, rfl, rfl, (by show (0 : Int) < 2147483647; decide), ?_⟩
      refine ⟨_, rfl, _, rfl, _, rfl, _, _, rfl, rfl, far_pos, _, rfl, _, rfl, 10, 18, rfl, rfl, ⟨by decide, by decide, by decide⟩, _, _, rfl, rfl, .inr ⟨_, rfl, _, _, rfl, rfl, .inr (bit_ok _), _, rfl, by show 3 ≤ sizeLine; decide, fun p np => ?_⟩⟩
      exact q _ p (same_upd np) np ⟨_, _, 0, upd_same, Int.emod_nonneg _ (by decide), Int.emod_lt_of_pos _ (by decide)⟩
    · refine ⟨10, 60, rfl, rfl, ⟨by decide, by decide, by decide⟩, 10, 60, rfl, rfl, ⟨by decide, by decide, by decide⟩, _, _, rfl, rfl, wide_mul (a := 200) (b := 200) (by decide +kernel) (by decide +kernel) (by decide) (by decide) (by decide), 10, 60, rfl, rfl, ⟨by decide, by decide, by decide⟩, _, _, rfl, rfl, wide_mul (a := 400) (b := 200) (by decide +kernel) (by decide +kernel) (by decide) (by decide) (by decide), 10, 60, rfl, rfl, ⟨by decide, by decide, by decide⟩, _, _, rfl, rfl, wide_mul (a := 600) (b := 200) (by decide +kernel) (by decide +kernel) (by decide) (by decide) (by decide), ?_⟩
      refine ⟨_, rfl, _, _, rfl, rfl, (by show (0 : Int) < 2147483629; decide), I k, rfl, 7919, (k : Int), rfl, rfl, .inl ⟨by decide, by decide⟩, _, _, rfl, rfl, _, _, rfl, rfl, _, _, rfl, rfl, .inr ⟨by decide, by decide⟩, _, _, rfl, rfl, (by show (0 : Int) < 2147483647; decide), ?_⟩
      refine ⟨_, rfl, _, rfl, _, rfl, _, _, rfl, rfl, far_pos, _, rfl, _, rfl, 10, 18, rfl, rfl, ⟨by decide, by decide, by decide⟩, _, _, rfl, rfl, .inr ⟨_, rfl, _, _, rfl, rfl, .inr (bit_ok _), _, rfl, by show 3 ≤ sizeLine; decide, fun p np => ?_⟩⟩
      exact q _ p (same_upd np) np ⟨_, _, 0, upd_same, Int.emod_nonneg _ (by decide), Int.emod_lt_of_pos _ (by decide)⟩
/-! ### _law_take -/
theorem scTake : FnScope ["_law_hand_here", "_law_many", "_law_digit"] ["_law_hand_here", "_law_many"] (defScope sTake) := ⟨rfl, rfl, rfl, by decide +kernel, rfl, by decide +kernel, by decide +kernel⟩
def spTake : Sp := fun vs H Q _ => ∃ (h : Addr) (m : Nat), vs = [.ref h, I m] ∧ HandAt H h ∧ 0 < m ∧ m ≤ 1000 ∧ ∀ (d : Nat) H', d < m → SameX h H H' → HandAt H' h → Q (I d) H'
theorem mod_I {x : Int} {m : Nat} (hm : 0 < m) : V.int (x % (m : Int)) = I ((x % (m : Int)).toNat) ∧ (x % (m : Int)).toNat < m := by
  have h1 : 0 ≤ x % (m : Int) := Int.emod_nonneg _ (by omega)
  have h2 : x % (m : Int) < (m : Int) := Int.emod_lt_of_pos _ (by omega)
  refine ⟨?_, by omega⟩
  unfold I
  rw [Int.toNat_of_nonneg h1]
theorem ok_take {f : Addr} {fd : FuncData} {k : Nat} (F : Fun K "_law_take" "_law_take" sTake f fd) : FnOk P w K mg base CX0 (k + 1) f fd ["_law_hand_here", "_law_many"] spTake := by
  refine F.ok scTake (fun vs H Q E h => ?_) (fun cdv A outer s H vs Q E hr h => ?_)
  · obtain ⟨h, m, rfl, _⟩ := h
    rfl
  · obtain ⟨h, m, rfl, ⟨a, b, c, e, hb0, hb1⟩, hm0, hm1, q⟩ := h
    refine ⟨_, pss_cons (ps_if (pt_cmpR op_gt (pe_ix ix_list (pv 0) pe_int (fun _ _ => rfl)) pe_int (nomark _))
        (pss_cons (ps_set (i := 2) scTake.nd rfl (.inl rfl) (pe_op op_mod (pe_ix ix_list (pv 0) pe_int (fun _ _ => rfl)) (pv 1)))
        (pss_cons (ps_asg (pe_op op_fdiv (pe_ix ix_list (pv 0) pe_int (fun _ _ => rfl)) (pv 1)) (pg_sub (pv 0) pe_int set_list))
        (pss_one (ps_ret (pv 2))))) pss_nil)
      (pss_cons (ps_asg (pe_op op_add (pe_ix ix_list (pv 0) pe_int (fun _ _ => rfl)) pe_int) (pg_sub (pv 0) pe_int set_list))
      (pss_cons (ps_asg (pe_op op_mod (pe_op op_add (pe_op op_add (pe_op op_mul (pe_ix ix_list (pv 0) pe_int (fun _ _ => rfl)) pe_int) pe_int) (pe_op op_mul pe_int (pe_ix ix_list (pv 0) pe_int (fun _ _ => rfl)))) pe_int) (pg_sub (pv 0) pe_int set_list))
      (pss_one (ps_ret (pe_op op_mod (pe_op op_fdiv (pe_op op_mod (pe_op op_mul (pe_ix ix_list (pv 0) pe_int (fun _ _ => rfl)) (pe_op op_add (pe_op op_mod (pe_ix ix_list (pv 0) pe_int (fun _ _ => rfl)) pe_int) pe_int)) pe_int) pe_int) (pv 1)))))), ?_⟩
    refine ⟨.ref h, rfl, h, _, 0, .int a, rfl, rfl, SqL.of e, at_of (j := 0) rfl rfl, _, _, rfl, rfl, _, rfl, ?_⟩
    refine ite2 (fun cc => ?_) (fun cc => ?_)
    · obtain ⟨e1, h1⟩ := mod_I (x := a) hm0
      refine ⟨.ref h, rfl, h, _, 0, .int a, rfl, rfl, SqL.of e, at_of (j := 0) rfl rfl, I m, rfl, a, (m : Int), rfl, rfl, (by show (0 : Int) < (m : Int); omega), ?_⟩
      refine ⟨.ref h, rfl, h, _, 0, .int a, rfl, rfl, SqL.of e, at_of (j := 0) rfl rfl, I m, rfl, a, (m : Int), rfl, rfl, ⟨by omega, by omega⟩, .ref h, rfl, h, _, 0, 0, rfl, rfl, e, rfl, ?_⟩
      exact ⟨_, rfl, vk e1 (q _ _ h1 (SameX.upd h H _) ⟨_, b, c, upd_same, hb0, hb1⟩)⟩
    · refine ⟨.ref h, rfl, h, _, 2, .int c, rfl, rfl, SqL.of e, at_of (j := 2) rfl rfl, c, 1, rfl, rfl, .ref h, rfl, h, _, 2, 2, rfl, rfl, e, rfl, ?_⟩
      have u1 : (upd H h (.lst ([V.int a, .int b, .int c].set 2 (.int (c + 1))))) h = some (.lst [.int a, .int b, .int (c + 1)]) := upd_same
      refine ⟨.ref h, rfl, h, _, 1, .int b, rfl, rfl, SqL.of u1, at_of (j := 1) rfl rfl, b, 39373, rfl, rfl, .inr ⟨by decide, by decide⟩, _, 12345, rfl, rfl, .ref h, rfl, h, _, 2, .int (c + 1), rfl, rfl, SqL.of u1, at_of (j := 2) rfl rfl, 31, _, rfl, rfl, .inl ⟨by decide, by decide⟩, _, _, rfl, rfl, _, 2147483647, rfl, rfl, (by show (0 : Int) < 2147483647; decide), .ref h, rfl, h, _, 1, 1, rfl, rfl, u1, rfl, ?_⟩
      have hz0 : 0 ≤ (b * 39373 + 12345 + 31 * (c + 1)) % 2147483647 := Int.emod_nonneg _ (by decide)
      have hz1 : (b * 39373 + 12345 + 31 * (c + 1)) % 2147483647 < 2147483647 := Int.emod_lt_of_pos _ (by decide)
      have u2 : (upd (upd H h (.lst ([V.int a, .int b, .int c].set 2 (.int (c + 1))))) h (.lst ([V.int a, .int b, .int (c + 1)].set 1 (.int ((b * 39373 + 12345 + 31 * (c + 1)) % 2147483647))))) h = some (.lst [.int a, .int ((b * 39373 + 12345 + 31 * (c + 1)) % 2147483647), .int (c + 1)]) := upd_same
      refine ⟨.ref h, rfl, h, [.int a, .int ((b * 39373 + 12345 + 31 * (c + 1)) % 2147483647), .int (c + 1)], 1, .int ((b * 39373 + 12345 + 31 * (c + 1)) % 2147483647), rfl, rfl, SqL.of u2, at_of (j := 1) rfl rfl, .ref h, rfl, h, [.int a, .int ((b * 39373 + 12345 + 31 * (c + 1)) % 2147483647), .int (c + 1)], 1, .int ((b * 39373 + 12345 + 31 * (c + 1)) % 2147483647), rfl, rfl, SqL.of u2, at_of (j := 1) rfl rfl, (b * 39373 + 12345 + 31 * (c + 1)) % 2147483647, 40009, rfl, rfl, (by show (0 : Int) < 40009; decide), _, 3, rfl, rfl, (b * 39373 + 12345 + 31 * (c + 1)) % 2147483647, _, rfl, rfl, .inl ⟨by omega, by omega⟩, _, 2147483629, rfl, rfl, (by show (0 : Int) < 2147483629; decide), _, 64, rfl, rfl, ⟨by decide, by decide⟩, I m, rfl, _, (m : Int), rfl, rfl, (by show (0 : Int) < (m : Int); omega), ?_⟩
      obtain ⟨e1, h1⟩ := mod_I (x := (b * 39373 + 12345 + 31 * (c + 1)) % 2147483647 * ((b * 39373 + 12345 + 31 * (c + 1)) % 2147483647 % 40009 + 3) % 2147483629 / 64) hm0
      exact vk e1 (q _ _ h1 ((SameX.upd h H _).trans (SameX.upd h _ _)) ⟨a, (b * 39373 + 12345 + 31 * (c + 1)) % 2147483647, c + 1, u2, hz0, hz1⟩)
end
end K6
namespace K6
open PySem PySem.Spec PyProof.Rows L2
section
variable {K : PySem.W.Frag} {h : Addr} {H H1 : Hp} {D : Addr} {xs : List V} {Q : VK}
/-- tuple([..]) behind draws -/
theorem tup_endX (q : ∀ H' p, SameX h H H' → HandAt H' h → SqT K H' p xs → Q (.ref p) H') (s : SameX h H H1) (x : HandAt H1 h) (e : H1 D = some (.lst xs)) :
    ∃ p zs, [V.ref D] = [.ref p] ∧ ((SqL K H1 p zs ∧ ∀ l, H1 l = none → Q (.ref l) (upd H1 l (.tup zs))) ∨ (SqT K H1 p zs ∧ Q (.ref p) H1)) :=
  ⟨D, xs, rfl, .inl ⟨SqL.of e, fun l hl => q _ _ (s.trans (SameX.of (same_upd hl))) (x.same (same_upd hl)) (SqT.of upd_same)⟩⟩
end
section
variable {P : Program} {w : World} {K : PySem.W.Frag} {mg : Str → Option Value} {base : Heap}
/-! ### _law_values -/
theorem scVals : FnScope ["_law_hand_here", "_law_many", "_law_few", "_law_k"] ["_law_hand_here", "_law_many"] (defScope sVals) := ⟨rfl, rfl, rfl, by decide +kernel, rfl, by decide +kernel, by decide +kernel⟩
def spVals (K : PySem.W.Frag) : Sp := fun vs H Q _ => ∃ (h : Addr) (m : Nat), vs = [.ref h, I m] ∧ HandAt H h ∧ m ≤ 64 ∧ ∀ H' p f, SameX h H H' → HandAt H' h → SqT K H' p f → f.length = m → (∀ v, v ∈ f → Good v) → Q (.ref p) H'
theorem pick5 {d : Nat} (h : d < 5) : ∃ v, ([V.int 1, .int 0, .int 1, .int 0, .non])[d]? = some v ∧ Good v := by
  have hh : d = 0 ∨ d = 1 ∨ d = 2 ∨ d = 3 ∨ d = 4 := by omega
  rcases hh with rfl | rfl | rfl | rfl | rfl
  · exact ⟨_, rfl, .inl rfl⟩
  · exact ⟨_, rfl, .inr (.inl rfl)⟩
  · exact ⟨_, rfl, .inl rfl⟩
  · exact ⟨_, rfl, .inr (.inl rfl)⟩
  · exact ⟨_, rfl, .inr (.inr rfl)⟩
theorem ok_vals {f g : Addr} {fd gd : FuncData} {k : Nat} (F : Fun K "_law_values" "_law_values" sVals f fd) (G : FnOk P w K mg base CX0 (k + 1) g gd ["_law_hand_here", "_law_many"] spTake) (mG : mg "_law_take" = some (.ref g)) (kG : PySem.W.keepIn K (.ref g) = true) (bG : Binds K gd ["_law_hand_here", "_law_many"] [])
    (mt : mg "tuple" = none) (mr : mg "range" = none) : FnOk P w K mg base CX0 (k + 2) f fd ["_law_hand_here", "_law_many"] (spVals K) := by
  refine F.ok scVals (fun vs H Q E h => ?_) (fun cdv A outer s H vs Q E hr h => ?_)
  · obtain ⟨h, m, rfl, _⟩ := h
    rfl
  · obtain ⟨h, m, rfl, hH, hm, q⟩ := h
    refine ⟨_, pss_cons (ps_set (i := 2) scVals.nd rfl (.inr rfl) (pe_call G hr (by rfl) mG kG bG .nil pass0 (pa_cons (pv 0) (pa_cons pe_int pa_nil))))
      (pss_one (ps_ret (pe_callTy call_tuple_of (by rfl) mt (by decide +kernel) (pa_cons (pe_lc (own := [("_law_k", 3)]) (g := gName 3) (by rfl) scVals.nd (pi_range1 (by rfl) mr (pa_cons (pv 1) pa_nil)) (blkOk_by (N := ["_law_hand_here", "_law_many", "_law_few", "_law_k"]) (sc := defScope sVals) (by decide +kernel))
        (fun _ _ _ _ _ => pg_name (i := 3) scVals.nd rfl (Or.inl rfl)) (fun _ _ _ _ _ => pts_nil)
        (fun _ _ _ _ _ => pe_ix (ixL (K := K) rfl) (pe_lst (pa_cons pe_int (pa_cons pe_int (pa_cons pe_int (pa_cons pe_int (pa_cons pe_non pa_nil)))))) (pe_call G hr (by rfl) mG kG bG .nil pass0 (pa_cons (pv 0) (pa_cons (pe_op op_add pe_int (pv 2)) pa_nil))) (fun _ _ => rfl))) pa_nil)))), ?_⟩
    refine ⟨.ref h, rfl, h, 2, rfl, hH, by decide, by decide, fun d H1 hd s1 h1 => ?_⟩
    refine ⟨I m, rfl, (m : Int), rfl, by omega, by omega, fun D new => comp_draw (n := m) (h := h) Good (by omega) h1 new (fun _ => rfl) (fun i H2 k' hi s2 h2 hk' => ?_) fun H2 acc s2 h2 e2 hl hg => ?_⟩
    · refine ⟨by show 5 ≤ sizeLine; decide, fun p np => ?_⟩
      have sp : Same H2 (upd H2 p (.lst [V.int 1, .int 0, .int 1, .int 0, .non])) := same_upd np
      have nph := hand_ne h2 np
      refine ⟨.ref h, rfl, I d, rfl, 4, (d : Int), rfl, rfl, h, 4 + d, ?_, h2.same sp, by omega, by omega, fun x H3 hx s3 h3 => ?_⟩
      · show [V.ref h, V.int (4 + (d : Int))] = [V.ref h, I (4 + d)]
        unfold I
        rw [Int.natCast_add]
        rfl
      · obtain ⟨v, hv, gv⟩ := pick5 (d := x) (by omega)
        exact ⟨p, _, (x : Int), v, rfl, rfl, SqL.of (s3 _ _ nph upd_same), at_of rfl hv, hk' v H3 gv ((SameX.of sp).trans s3) h3⟩
    · exact tup_endX (h := h) (H := H) (fun H' p a b c => q H' p acc a b c hl hg) (s1.trans s2) h2 e2
/-! ### _law_bits -/
theorem scBits : FnScope ["_law_row", "_law_n", "_law_k"] ["_law_row", "_law_n"] (defScope sBits) := ⟨rfl, rfl, rfl, by decide +kernel, rfl, by decide +kernel, by decide +kernel⟩
def spBits : Sp := fun vs H Q _ => ∃ (r n : Nat), vs = [I r, I n] ∧ n ≤ 20 ∧ ∀ H' D, Same H H' → H' D = some (.lst ((bitsOf r n).map I)) → Q (.ref D) H'
theorem ok_bits {f : Addr} {fd : FuncData} {k : Nat} (F : Fun K "_law_bits" "_law_bits" sBits f fd) (mr : mg "range" = none) : FnOk P w K mg base CX0 (k + 1) f fd ["_law_row", "_law_n"] spBits := by
  refine F.ok scBits (fun vs H Q E h => ?_) (fun cdv A outer s H vs Q E hr h => ?_)
  · obtain ⟨r, n, rfl, _⟩ := h
    rfl
  · obtain ⟨r, n, rfl, hn, q⟩ := h
    refine ⟨_, pss_one (ps_ret (pe_lc (own := [("_law_k", 2)]) (g := gName 2) (by rfl) scBits.nd (pi_range1 (by rfl) mr (pa_cons (pv 1) pa_nil)) (blkOk_by (N := ["_law_row", "_law_n", "_law_k"]) (sc := defScope sBits) (by decide +kernel))
        (fun _ _ _ _ _ => pg_name (i := 2) scBits.nd rfl (Or.inl rfl)) (fun _ _ _ _ _ => pts_nil)
        (fun _ _ _ _ _ => pe_op op_mod (pe_op op_fdiv (pv 0) (pe_op op_shl pe_int (pv 2))) pe_int))), ?_⟩
    refine ⟨I n, rfl, (n : Int), rfl, by omega, by omega, fun D new => comp_rng (n := n) (fun k => I (r / 2 ^ k % 2)) (by omega) new (fun _ => rfl) (fun i H1 k hi s hk => ?_) fun H1 s e => ?_⟩
    · have e1 : (1 : Int) * 2 ^ ((i : Int).toNat) = ((2 ^ i : Nat) : Int) := by rw [Int.one_mul, Int.toNat_natCast, pow_nat]
      have h1 : 0 < 2 ^ i := Nat.two_pow_pos i
      have h2 : 2 ^ i ≤ 2 ^ 20 := Nat.pow_le_pow_right (by decide) (by omega)
      have h3 : (2 : Nat) ^ 20 = 1048576 := by decide
      refine ⟨I r, rfl, I i, rfl, 1, (i : Int), rfl, rfl, cpow (a := 1) (by decide) (by omega), (r : Int), ((2 ^ i : Nat) : Int), rfl, congrArg V.int e1, ⟨by omega, by omega⟩, ((r / 2 ^ i : Nat) : Int), 2, congrArg V.int (Int.natCast_ediv _ _).symm, rfl, (by show (0 : Int) < 2; decide), ?_⟩
      refine vk (y := I (r / 2 ^ i % 2)) ?_ (hk H1 (Same.refl _))
      show V.int (((r / 2 ^ i : Nat) : Int) % 2) = V.int ((r / 2 ^ i % 2 : Nat) : Int)
      rw [Int.natCast_emod]
      rfl
    · exact q H1 D s (by rw [e]; unfold bitsOf; rw [tab_map])
/-! ### _law_row_of -/
theorem scRow : FnScope ["_law_bits_here", "_law_k", "_law_bit"] ["_law_bits_here"] (defScope sRow) := ⟨rfl, rfl, rfl, by decide +kernel, rfl, by decide +kernel, by decide +kernel⟩
def spRow (K : PySem.W.Frag) : Sp := fun vs H Q _ => ∃ (a : Addr) (bs : List Nat), vs = [.ref a] ∧ SqL K H a (bs.map I) ∧ bs.length ≤ 64 ∧ ∀ H', Same H H' → Q (I (rowOf bs)) H'
theorem ok_row {f : Addr} {fd : FuncData} {k : Nat} (F : Fun K "_law_row_of" "_law_row_of" sRow f fd) (me : mg "enumerate" = none) (ms : mg "sum" = none) : FnOk P w K mg base CX0 (k + 1) f fd ["_law_bits_here"] (spRow K) := by
  refine F.ok scRow (fun vs H Q E h => ?_) (fun cdv A outer s H vs Q E hr h => ?_)
  · obtain ⟨a, bs, rfl, _⟩ := h
    rfl
  · obtain ⟨a, bs, rfl, hS, hl, q⟩ := h
    refine ⟨_, pss_one (ps_ret (pe_callB (cr_sum rfl) (by rfl) ms (by decide +kernel) (pa_cons (pe_lc (own := [("_law_k", 1), ("_law_bit", 2)]) (g := gTup K 2 (gCons (gName 1) (gCons (gName 2) gNil))) (by rfl) scRow.nd (pi_enum (by rfl) me (pa_cons (pv 0) pa_nil)) (blkOk_by (N := ["_law_bits_here", "_law_k", "_law_bit"]) (sc := defScope sRow) (by decide +kernel))
        (fun _ _ _ _ _ => pg_tup rfl (pgs_cons (pg_name (i := 1) scRow.nd rfl (Or.inl rfl)) (pgs_cons (pg_name (i := 2) scRow.nd rfl (Or.inl rfl)) pgs_nil))) (fun _ _ _ _ _ => pts_nil)
        (fun _ _ _ _ _ => pe_op op_mul (pv 2) (pe_op op_shl pe_int (pv 1)))) pa_nil))), ?_⟩
    have hlm : (bs.map I).length = bs.length := List.length_map _
    refine ⟨.ref a, rfl, a, bs.map I, rfl, hS, fun D new => comp_pair (K := K) (n := (bs.map I).length) (fun k => I (bs.getD k 0 * 2 ^ k)) walk_enum (fun H' s => s.seq hS) (by omega) new (fun _ _ => rfl) (fun i x H1 k hx s hk => ?_) fun H1 s e => ?_⟩
    · obtain ⟨m, hm1, rfl⟩ := map_at hx
      have hi : i < bs.length := (List.getElem?_eq_some_iff.mp hm1).1
      have e1 : (1 : Int) * 2 ^ ((i : Int).toNat) = ((2 ^ i : Nat) : Int) := by rw [Int.one_mul, Int.toNat_natCast, pow_nat]
      have h1 : 0 < 2 ^ i := Nat.two_pow_pos i
      have h2 : 2 ^ i ≤ 2 ^ 63 := Nat.pow_le_pow_right (by decide) (by omega)
      have h3 : (2 : Nat) ^ 63 = 9223372036854775808 := by decide
      refine ⟨I m, rfl, I i, rfl, 1, (i : Int), rfl, rfl, cpow (a := 1) (by decide) (by omega), (m : Int), ((2 ^ i : Nat) : Int), rfl, congrArg V.int e1, .inr ⟨by omega, by omega⟩, ?_⟩
      refine vk (y := I (bs.getD i 0 * 2 ^ i)) ?_ (hk H1 (Same.refl _))
      rw [getD_of 0 hm1]
      show V.int ((m : Int) * ((2 ^ i : Nat) : Int)) = V.int ((m * 2 ^ i : Nat) : Int)
      rw [Int.natCast_mul]
    · refine ⟨D, (tab bs.length fun k => bs.getD k 0 * 2 ^ k).map fun (k : Nat) => (k : Int), rfl, sum_lst e (by rw [tab_map, hlm]), ?_⟩
      rw [sum_cast]
      exact q H1 s
/-! ### _law_some -/
theorem scSome : FnScope ["_law_hand_here", "_law_n", "_law_way", "_law_k"] ["_law_hand_here", "_law_n"] (defScope sSome) := ⟨rfl, rfl, rfl, by decide +kernel, rfl, by decide +kernel, by decide +kernel⟩
/-- some switches below n, each once -/
structure Few (n : Nat) (ks : List Nat) : Prop where
  nd : ks.Nodup
  lt : ∀ x, x ∈ ks → x < n
theorem Few.next {n : Nat} {ks : List Nat} (h : Few n ks) : Few (n + 1) (ks ++ [n]) :=
  ⟨List.nodup_append.mpr ⟨h.nd, List.nodup_cons.mpr ⟨List.not_mem_nil, List.nodup_nil⟩, fun a ha b hb e => by
    rw [List.mem_singleton] at hb
    have := h.lt a ha
    omega⟩, fun x hx => by
    rcases List.mem_append.mp hx with q | q
    · have := h.lt x q
      omega
    · rw [List.mem_singleton] at q
      omega⟩
theorem Few.more {n : Nat} {ks : List Nat} (h : Few n ks) : Few (n + 1) ks := ⟨h.nd, fun x hx => by have := h.lt x hx; omega⟩
theorem Few.mk_lt {n : Nat} {ks : List Nat} (h : Few n ks) : K6.mk ks < 2 ^ n := K6.mk_lt h.nd h.lt
def spSome (K : PySem.W.Frag) : Sp := fun vs H Q _ => ∃ (h : Addr) (n : Nat), vs = [.ref h, I n] ∧ HandAt H h ∧ n ≤ 64 ∧ ∀ H' p ks, SameX h H H' → HandAt H' h → SqT K H' p (ks.map I) → Few n ks → ks.length ≤ n → Q (.ref p) H'
theorem ok_some {f g : Addr} {fd gd : FuncData} {k : Nat} (F : Fun K "_law_some" "_law_some" sSome f fd) (G : FnOk P w K mg base CX0 (k + 1) g gd ["_law_hand_here", "_law_many"] spTake) (mG : mg "_law_take" = some (.ref g)) (kG : PySem.W.keepIn K (.ref g) = true) (bG : Binds K gd ["_law_hand_here", "_law_many"] [])
    (mt : mg "tuple" = none) (mr : mg "range" = none) : FnOk P w K mg base CX0 (k + 2) f fd ["_law_hand_here", "_law_n"] (spSome K) := by
  refine F.ok scSome (fun vs H Q E h => ?_) (fun cdv A outer s H vs Q E hr h => ?_)
  · obtain ⟨h, n, rfl, _⟩ := h
    rfl
  · obtain ⟨h, n, rfl, hH, hn, q⟩ := h
    refine ⟨_, pss_cons (ps_set (i := 2) scSome.nd rfl (.inr rfl) (pe_call G hr (by rfl) mG kG bG .nil pass0 (pa_cons (pv 0) (pa_cons pe_int pa_nil))))
      (pss_one (ps_ret (pe_callTy call_tuple_of (by rfl) mt (by decide +kernel) (pa_cons (pe_lc (own := [("_law_k", 3)]) (g := gName 3) (by rfl) scSome.nd (pi_range1 (by rfl) mr (pa_cons (pv 1) pa_nil)) (blkOk_by (N := ["_law_hand_here", "_law_n", "_law_way", "_law_k"]) (sc := defScope sSome) (by decide +kernel))
        (fun _ _ _ _ _ => pg_name (i := 3) scSome.nd rfl (Or.inl rfl))
        (fun _ _ _ _ _ => pts_one (PW.pt (pw_or (pt_cmpR op_eq (pv 2) pe_int (nomark _)) (pw_or1 (PW.pt (pw_and (pt_cmpR op_gt (pv 2) pe_int (nomark _)) (pw_and1 (pt_cmpR op_eq (pe_call G hr (by rfl) mG kG bG .nil pass0 (pa_cons (pv 0) (pa_cons pe_int pa_nil))) pe_int (nomark _)))))))))
        (fun _ _ _ _ _ => pv 3)) pa_nil)))), ?_⟩
    refine ⟨.ref h, rfl, h, 4, rfl, hH, by decide, by decide, fun d H1 hd s1 h1 => ?_⟩
    refine ⟨I n, rfl, (n : Int), rfl, by omega, by omega, fun D new => ?_⟩
    have nD := hand_ne h1 new
    refine lc_range (lo := 0) (n := n) (fun i H => SameX h H1 H ∧ HandAt H h ∧ ∃ ks : List Nat, H D = some (.lst (ks.map I)) ∧ Few i ks ∧ ks.length ≤ i) ⟨SameX.of (same_upd new), h1.new nD, [], upd_same, ⟨List.nodup_nil, fun _ z => nomatch z⟩, Nat.le_refl _⟩ (fun i H2 hi p => ?_) (fun H2 p => ?_)
    · obtain ⟨s2, h2, ks, e2, fw, hl⟩ := p
      refine ⟨rfl, ?_⟩
      rw [Int.zero_add]
      -- what the element does where it is taken
      have take : ∀ H3, SameX h H2 H3 → HandAt H3 h → ∃ acc, H3 D = some (.lst acc) ∧ acc.length < sizeLine ∧ (SameX h H1 (upd H3 D (.lst (acc ++ [I i]))) ∧ HandAt (upd H3 D (.lst (acc ++ [I i]))) h ∧ ∃ ks : List Nat, (upd H3 D (.lst (acc ++ [I i]))) D = some (.lst (ks.map I)) ∧ Few (i + 1) ks ∧ ks.length ≤ i + 1) := fun H3 s3 h3 =>
        ⟨ks.map I, s3 _ _ nD e2, by rw [List.length_map]; exact small1 (by omega), SameX.new (s2.trans s3) new, h3.new nD, ks ++ [i], by rw [upd_same, List.map_append]; rfl, fw.next, by rw [List.length_append, List.length_singleton]; omega⟩
      have skip : ∀ H3, SameX h H2 H3 → HandAt H3 h → (SameX h H1 H3 ∧ HandAt H3 h ∧ ∃ ks : List Nat, H3 D = some (.lst (ks.map I)) ∧ Few (i + 1) ks ∧ ks.length ≤ i + 1) := fun H3 s3 h3 => ⟨s2.trans s3, h3, ks, s3 _ _ nD e2, fw.more, by omega⟩
      refine ⟨I d, rfl, rfl, _, rfl, ?_⟩
      refine ite2 (fun c => ⟨I i, rfl, take H2 (SameX.refl h H2) h2⟩) (fun c => ?_)
      refine ⟨I d, rfl, _, _, rfl, rfl, _, rfl, ?_⟩
      refine ite2 (fun c2 => ?_) (fun c2 => skip H2 (SameX.refl h H2) h2)
      refine ⟨.ref h, rfl, h, 2, rfl, h2, by decide, by decide, fun d2 H3 hd2 s3 h3 => ?_⟩
      refine ⟨rfl, _, rfl, ?_⟩
      exact ite2 (fun c3 => ⟨I i, rfl, take H3 s3 h3⟩) (fun c3 => skip H3 s3 h3)
    · obtain ⟨s2, h2, ks, e2, fw, hl⟩ := p
      exact tup_endX (h := h) (H := H) (fun H' p a b c => q H' p ks a b c fw hl) (s1.trans s2) h2 e2
end
end K6
namespace K6
open PySem PySem.Spec PyProof.Rows L2
theorem ins_perm {o : List Nat} {i : Nat} (h : o.Perm (List.range i)) (d : Nat) : (o.take d ++ [i] ++ o.drop d).Perm (List.range (i + 1)) := by
  rw [List.append_assoc, List.singleton_append, List.range_succ]
  refine List.perm_middle.trans ?_
  rw [List.take_append_drop]
  exact (List.Perm.cons i h).trans (List.perm_append_singleton i _).symm
theorem ixN_nat {n m : Nat} (h : m < n) : ixN n (m : Int) = some m := by
  unfold ixN
  rw [if_pos (Int.natCast_nonneg _), if_pos (by omega)]
  rfl
theorem getD_set {l : List Nat} {m x j : Nat} (hm : m < l.length) : (l.set m x).getD j 0 = if m = j then x else l.getD j 0 := by
  rw [List.getD_eq_getElem?_getD, List.getElem?_set]
  by_cases c : m = j
  · rw [if_pos c, if_pos c, if_pos hm]
    rfl
  · rw [if_neg c, if_neg c, List.getD_eq_getElem?_getD]
section
variable {P : Program} {w : World} {K : PySem.W.Frag} {mg : Str → Option Value} {base : Heap}
/-! ### _law_order -/
theorem scOrd : FnScope ["_law_hand_here", "_law_n", "_law_order_here", "_law_k"] ["_law_hand_here", "_law_n"] (defScope sOrd) := ⟨rfl, rfl, rfl, by decide +kernel, rfl, by decide +kernel, by decide +kernel⟩
def spOrd (K : PySem.W.Frag) : Sp := fun vs H Q _ => ∃ (h : Addr) (n : Nat), vs = [.ref h, I n] ∧ HandAt H h ∧ n ≤ 64 ∧ ∀ H' p o, SameX h H H' → HandAt H' h → SqT K H' p (o.map I) → PlT H' p → Ord n o → Q (.ref p) H'
theorem ok_ord {f g : Addr} {fd gd : FuncData} {k : Nat} (F : Fun K "_law_order" "_law_order" sOrd f fd) (G : FnOk P w K mg base CX0 (k + 1) g gd ["_law_hand_here", "_law_many"] spTake) (mG : mg "_law_take" = some (.ref g)) (kG : PySem.W.keepIn K (.ref g) = true) (bG : Binds K gd ["_law_hand_here", "_law_many"] [])
    (mt : mg "tuple" = none) (mr : mg "range" = none) : FnOk P w K mg base CX0 (k + 2) f fd ["_law_hand_here", "_law_n"] (spOrd K) := by
  refine F.ok scOrd (fun vs H Q E h => ?_) (fun cdv A outer s H vs Q E hr h => ?_)
  · obtain ⟨h, n, rfl, _⟩ := h
    rfl
  · obtain ⟨h, n, rfl, hH, hn, q⟩ := h
    refine ⟨_, pss_cons (ps_set (i := 2) scOrd.nd rfl (.inl rfl) (pe_lst pa_nil))
      (pss_cons (ps_for PassesOwn.never rfl (pi_range1 (by rfl) mr (pa_cons (pv 1) pa_nil)) (pg_name (i := 3) scOrd.nd rfl (.inl rfl))
          (pss_one (ps_expr (pe_bm PySem.F.plainAttrs_list PySem.F.slot_list_insert PySem.F.type_list_insert mt_insert (pv 2) (pa_cons (pe_call G hr (by rfl) mG kG bG .nil pass0 (pa_cons (pv 0) (pa_cons (pe_op op_add (pv 3) pe_int) pa_nil))) (pa_cons (pv 3) pa_nil))))))
      (pss_one (ps_ret (pe_callTy call_tuple_frz (by rfl) mt (by decide +kernel) (pa_cons (pv 2) pa_nil))))), ?_⟩
    refine ⟨Nat.zero_le _, fun D nD => ?_⟩
    have nDh := hand_ne hH nD
    refine ⟨I n, rfl, (n : Int), rfl, by omega, by omega, ?_⟩
    refine for_range (lo := 0) (n := n) (fun i σ H' => ∃ y o, σ = [some (.ref h), some (I n), some (.ref D), y] ∧ SameX h H H' ∧ HandAt H' h ∧ H' D = some (.lst (o.map I)) ∧ o.Perm (List.range i))
      ⟨none, [], rfl, SameX.of (same_upd nD), hH.new nDh, upd_same, List.Perm.refl _⟩ (fun i σ H1 hi p => ?_) (fun σ H1 p => ?_)
    · obtain ⟨y, o, rfl, s1, h1, e1, op⟩ := p
      have hol : o.length = i := by rw [op.length_eq, List.length_range]
      rw [Int.zero_add]
      refine ⟨.ref D, rfl, .inl ⟨rfl, _, SqL.of e1⟩, .ref h, rfl, I i, rfl, (i : Int), 1, rfl, rfl, h, i + 1, rfl, h1, by omega, by omega, fun d H3 hd s3 h3 => ?_⟩
      refine ⟨I i, rfl, D, o.map I, (d : Int), I i, rfl, rfl, s3 _ _ nDh e1, by rw [List.length_map]; exact small1 (by omega), Int.natCast_nonneg _, by omega, ?_⟩
      refine ⟨_, o.take d ++ [i] ++ o.drop d, rfl, SameX.new (s1.trans s3) nD, h3.new nDh, ?_, ins_perm op d⟩
      rw [upd_same, List.map_append, List.map_append, List.map_take, List.map_drop]
      rfl
    · obtain ⟨y, o, rfl, s1, h1, e1, op⟩ := p
      refine ⟨.ref D, rfl, D, _, rfl, SqL.of e1, fun l ob nl hc hd => ?_⟩
      exact q _ l o (s1.trans (SameX.of (same_upd nl))) (h1.same (same_upd nl)) (.inl (.inr ⟨ob, upd_same⟩)) ⟨ob, _, upd_same, hc, hd⟩ (Ord.of_perm op)
/-! ### _law_back -/
theorem scBack : FnScope ["_law_order_here", "_law_back_here", "_law_k", "_law_other"] ["_law_order_here"] (defScope sBack) := ⟨rfl, rfl, rfl, by decide +kernel, rfl, by decide +kernel, by decide +kernel⟩
def spBack (K : PySem.W.Frag) : Sp := fun vs H Q _ => ∃ (a : Addr) (n : Nat) (o : List Nat), vs = [.ref a] ∧ SqT K H a (o.map I) ∧ n ≤ 64 ∧ Ord n o ∧ ∀ H' p b, Same H H' → SqT K H' p (b.map I) → Back n o b → Q (.ref p) H'
theorem rep_one (n : Nat) : (List.replicate n ([V.int 0])).flatten = (List.replicate n 0).map I := by
  induction n with
  | zero => rfl
  | succ n ih =>
    rw [List.replicate_succ, List.replicate_succ, List.flatten_cons, ih, List.map_cons]
    rfl
theorem ok_back {f : Addr} {fd : FuncData} {k : Nat} (F : Fun K "_law_back" "_law_back" sBack f fd) (mt : mg "tuple" = none) (ml : mg "len" = none) (me : mg "enumerate" = none) : FnOk P w K mg base CX0 (k + 1) f fd ["_law_order_here"] (spBack K) := by
  refine F.ok scBack (fun vs H Q E h => ?_) (fun cdv A outer s H vs Q E hr h => ?_)
  · obtain ⟨a, n, o, rfl, _⟩ := h
    rfl
  · obtain ⟨a, n, o, rfl, hA, hn, ho, q⟩ := h
    have hol := ho.len
    have hml : (o.map I).length = n := by rw [List.length_map]; exact hol
    refine ⟨_, pss_cons (ps_set (i := 1) scBack.nd rfl (.inl rfl) (pe_op op_rep (pe_lst (pa_cons pe_int pa_nil)) (pe_callB call_len_seq (by rfl) ml PySem.boot_len (pa_cons (pv 0) pa_nil))))
      (pss_cons (ps_for PassesOwn.never rfl (pi_enumT (by rfl) me (pa_cons (pv 0) pa_nil)) (pg_tup rfl (pgs_cons (pg_name (i := 2) scBack.nd rfl (.inl rfl)) (pgs_cons (pg_name (i := 3) scBack.nd rfl (.inl rfl)) pgs_nil)))
          (pss_one (ps_asg (pv 2) (pg_sub (pv 1) (pv 3) set_list))))
      (pss_one (ps_ret (pe_callTy call_tuple_of (by rfl) mt (by decide +kernel) (pa_cons (pv 1) pa_nil))))), ?_⟩
    refine ⟨by show 1 ≤ sizeLine; decide, fun l nl => ?_⟩
    have sl : Same H (upd H l (.lst [V.int 0])) := same_upd nl
    refine ⟨.ref a, rfl, a, _, rfl, .inr (same_sqt sl hA), l, _, [V.int 0], rfl, rfl, upd_same, by omega, by omega, ?_, fun D nD => ?_⟩
    · rw [hml]
      show 1 * n ≤ sizeLine
      exact Nat.le_of_lt (small1 (by omega))
    have nD0 : H D = none := sl.free nD
    refine ⟨.ref a, rfl, a, o.map I, rfl, same_sqt (same_upd nD) (same_sqt sl hA), ?_⟩
    refine for_it (walk_enumT (G := fun H' => SqT K H' a (o.map I)) rfl fun _ z => z) (fun i σ H' => ∃ y z bs, σ = [some (.ref a), some (.ref D), y, z] ∧ Same H H' ∧ H' D = some (.lst (bs.map I)) ∧ bs.length = n ∧ ∀ k, k < i → bs.getD (o.getD k 0) 0 = k)
      ⟨none, none, List.replicate n 0, rfl, sl.trans (same_upd nD), ?_, List.length_replicate, fun _ z => absurd z (Nat.not_lt_zero _)⟩ (fun i σ H1 _ p => ?_) (fun i x σ H1 H2 hi p y => ?_) (fun σ H1 p => ?_)
    · rw [upd_same, hml]
      show some (HO.lst (List.replicate n [V.int 0]).flatten) = _
      rw [rep_one]
    · obtain ⟨y, z, bs, rfl, s1, _⟩ := p
      exact same_sqt s1 hA
    · obtain ⟨y1, z1, bs, rfl, s1, e1, hbl, hb⟩ := p
      obtain ⟨T, x1, x2, rfl, nT, rfl, ex1, ex2⟩ := y
      injection ex1 with ex1
      subst ex1
      obtain ⟨m, hm, rfl⟩ := map_at ex2
      have hin : i < n := by rw [← hml]; exact hi
      have em : o.getD i 0 = m := getD_of 0 hm
      have hmn : m < n := by rw [← em]; exact ho.at hin
      have sT : Same H1 (upd H1 T (.tup [.int (i : Nat), I m])) := same_upd nT
      refine ⟨T, [.int (i : Nat), I m], rfl, SqT.of upd_same, rfl, _, _, rfl, _, _, rfl, rfl, ?_⟩
      refine ⟨_, rfl, .ref D, rfl, I m, rfl, D, bs.map I, (m : Int), m, rfl, rfl, sT _ _ e1, ixN_nat (by rw [List.length_map, hbl]; exact hmn), ?_⟩
      refine ⟨_, _, bs.set m i, rfl, fun b u e => ?_, ?_, by rw [List.length_set]; exact hbl, fun k hk => ?_⟩
      · rw [upd_ne (ne_of_none e nD0)]
        exact sT _ _ (s1 _ _ e)
      · rw [upd_same, List.map_set]
        rfl
      · rw [getD_set (by rw [hbl]; exact hmn)]
        by_cases c : m = o.getD k 0
        · rw [if_pos c]
          rw [← em] at c
          exact getD_inj ho.nd (by rw [hol]; exact hin) (by rw [hol]; omega) c
        · rw [if_neg c]
          refine hb k ?_
          have : k ≠ i := fun z => c (by rw [z]; exact em.symm)
          omega
    · obtain ⟨y, z, bs, rfl, s1, e1, hbl, hb⟩ := p
      refine ⟨.ref D, rfl, D, _, rfl, .inl ⟨SqL.of e1, fun p np => ?_⟩⟩
      exact q _ p bs (s1.trans (same_upd np)) (SqT.of upd_same) ⟨hbl, fun k hk => hb k (by rw [hml]; exact hk)⟩
end
end K6
namespace K6
open PySem PySem.Spec PyProof.Rows L2
/-! ### a def that may be called by its name -/
structure Cl (P : Program) (w : World) (K : PySem.W.Frag) (mg : Str → Option Value) (base : Heap) (x : Str) (k : Nat) (ps : List Str) (sp : Sp) : Prop where
  ex : ∃ (f : Addr) (fd : FuncData), FnOk P w K mg base CX0 k f fd ps sp ∧ mg x = some (.ref f) ∧ PySem.W.keepIn K (.ref f) = true ∧ Binds K fd ps []
theorem Cl.mono {P : Program} {w : World} {K : PySem.W.Frag} {mg : Str → Option Value} {base : Heap} {x : Str} {j k : Nat} {ps : List Str} {sp : Sp} (C : Cl P w K mg base x j ps sp) (h : j ≤ k) : Cl P w K mg base x k ps sp := by
  obtain ⟨f, fd, F, r⟩ := C.ex
  exact ⟨f, fd, F.mono h, r⟩
section
variable {X : Cx} {x : Str} {k : Nat} {ps : List Str} {sp : Sp} {e : Expr} {es : List Expr} {p pos : Pos} {t : TA}
theorem pe_cl (C : Cl X.prog X.w X.K X.mg X.base x k ps sp) (hr : Room k X.A) (hg : Gl X x) (args : PA X (e :: es) t)
    (plain : (x == ("__debug__" : Str)) = false := by decide)
    (first : starEach (e :: es) X.env = (false, eval e X.env) :: starEach es X.env := by rfl)
    (noStar : (backTo pos (starEach es X.env)).any (·.1) = false := by rfl) : PE X (.Call (.Name x p) (e :: es) [] pos) (tCall sp [] E0 t) :=
  let ⟨_, _, F, hm, hk, hb⟩ := C.ex
  pe_call F hr hg hm hk hb .nil pass0 args plain first noStar
end
theorem sqt_upd {K : PySem.W.Frag} {H : Hp} {D p : Addr} {xs acc : List V} {o : HO} (h : SqT K H p xs) (e : H D = some (.lst acc)) : SqT K (upd H D o) p xs := by
  rcases h with (q | ⟨u, q⟩) | q
  · exact .inl (.inl (by rw [upd_ne (fun z => by rw [z, e] at q; cases q)]; exact q))
  · exact .inl (.inr ⟨u, by rw [upd_ne (fun z => by rw [z, e] at q; cases q)]; exact q⟩)
  · exact .inr q
section
variable {te : TE} {vs : List Nat} {σ : L2.St} {H1 : Hp} {D : Addr} {Qd : Hp → Prop}
/-- a list of tuples -/
theorem comp_refs {K : PySem.W.Frag} {a : Addr} {xs : List V} {j : Nat} (g : Nat → List V) (hn : xs.length ≤ 1000) (hx : SqT K H1 a xs) (new : H1 D = none) (hw : ∀ x, wipe ((wipe σ vs).set j (some x)) vs = wipe σ vs)
    (he : ∀ (i : Nat) (x : V) (H : Hp) (k : VK), xs[i]? = some x → Same H1 H → (∀ H' p, Same H H' → SqT K H' p (g i) → k (.ref p) H') → te ((wipe σ vs).set j (some x)) H k)
    (hd : ∀ H (ps : List Addr), Same H1 H → H D = some (.lst (ps.map V.ref)) → ps.length = xs.length → (∀ i p, ps[i]? = some p → SqT K H p (g i)) → Qd H) :
    Lc (Itt K a) (gName j) te vs σ H1 D Qd := by
  refine lc_tup (K := K) (a := a) (xs := xs) (fun i H => Same H1 H ∧ ∃ ps : List Addr, H D = some (.lst (ps.map V.ref)) ∧ ps.length = i ∧ ∀ i p, ps[i]? = some p → SqT K H p (g i)) ⟨same_upd new, [], upd_same, rfl, fun _ _ z => by simp at z⟩ (fun i H _ p => same_sqt p.1 hx) (fun i x H hi p => ?_) (fun H p => ?_)
  · obtain ⟨s1, ps, e1, hl, hp⟩ := p
    have hlt := (List.getElem?_eq_some_iff.mp hi).1
    refine ⟨hw _, ?_⟩
    show te ((wipe σ vs).set j (some x)) H _
    refine he i x H _ hi s1 fun H' p s tp => ?_
    have e2 := s _ _ e1
    refine ⟨ps.map V.ref, e2, by rw [List.length_map]; exact small1 (by omega), fun b o e => ?_, ps ++ [p], by rw [upd_same, List.map_append]; rfl, by rw [List.length_append, hl]; rfl, fun i' p' hp' => ?_⟩
    · rw [upd_ne (ne_of_none e new)]
      exact s _ _ (s1 _ _ e)
    · by_cases c : i' < ps.length
      · rw [List.getElem?_append_left c] at hp'
        exact sqt_upd (same_sqt s (hp i' p' hp')) e2
      · rw [List.getElem?_append_right (by omega)] at hp'
        have ei : i' = i := by
          by_cases z : i' - ps.length = 0
          · omega
          · rw [List.getElem?_eq_none (by rw [List.length_singleton]; omega)] at hp'
            cases hp'
        subst ei
        rw [hl, Nat.sub_self] at hp'
        cases hp'
        exact sqt_upd tp e2
  · obtain ⟨s1, ps, e1, hl, hp⟩ := p
    exact hd H ps s1 e1 hl hp
end
theorem ref2 {ps : List Addr} (h : ps.length = 2) : ∃ p0 p1, ps = [p0, p1] := by
  match ps, h with
  | [p0, p1], _ => exact ⟨p0, p1, rfl⟩
theorem cut_lo {xs : List V} {k : Nat} (h : k ≤ xs.length) : cutV xs none (some (k : Int)) = xs.take k := by
  unfold cutV
  rw [HT.sIx_none, HT.sIx_nat, List.drop_zero, Nat.sub_zero, Nat.min_eq_left h]
theorem cut_hi {xs : List V} {k : Nat} (h : k ≤ xs.length) : cutV xs (some (k : Int)) none = xs.drop k := by
  unfold cutV
  rw [HT.sIx_none, HT.sIx_nat, Nat.min_eq_left h]
  exact List.take_of_length_le (by rw [List.length_drop]; exact Nat.le_refl _)
theorem Good.scal {v : V} (h : Good v) : L2.scal v v = true := by
  rcases h with rfl | rfl | rfl <;> rfl
theorem mk_one (k : Nat) : mk [k] = 2 ^ k := by
  unfold mk
  simp
/-- what the law's own defs lean on -/
structure Cs (P : Program) (w : World) (K : PySem.W.Frag) (mg : Str → Option Value) (base : Heap) : Prop where
  op : Cl P w K mg base "opposite" 2 ["f"] (spOp K)
  tu : Cl P w K mg base "turned" 2 ["f", "some"] (spTu K)
  re : Cl P w K mg base "renamed" 2 ["f", "order"] (spRe K)
  id : Cl P w K mg base "idle" 2 ["f", "k"] (spId K)
  he : Cl P w K mg base "held" 2 ["f", "k", "v"] (spHe K)
  le : Cl P w K mg base "left_out" 2 ["f", "rows"] (spLe K)
  hand : Cl P w K mg base "_law_hand" 2 ["_law_script", "_law_k"] (spHand K)
  take : Cl P w K mg base "_law_take" 2 ["_law_hand_here", "_law_many"] spTake
  vals : Cl P w K mg base "_law_values" 2 ["_law_hand_here", "_law_many"] (spVals K)
  bits : Cl P w K mg base "_law_bits" 2 ["_law_row", "_law_n"] spBits
  row : Cl P w K mg base "_law_row_of" 2 ["_law_bits_here"] (spRow K)
  some : Cl P w K mg base "_law_some" 2 ["_law_hand_here", "_law_n"] (spSome K)
  ord : Cl P w K mg base "_law_order" 2 ["_law_hand_here", "_law_n"] (spOrd K)
  back : Cl P w K mg base "_law_back" 2 ["_law_order_here"] (spBack K)
  mt : mg "tuple" = none
  mr : mg "range" = none
  ml : mg "len" = none
  mso : mg "sorted" = none
  mmin : mg "min" = none
section
variable {P : Program} {w : World} {K : PySem.W.Frag} {mg : Str → Option Value} {base : Heap}
/-! ### _law_held_right -/
theorem scHr : FnScope ["_law_hand_here", "_law_f", "_law_n", "_law_k", "_law_pieces", "_law_row", "_law_bits_here", "_law_piece", "_law_i", "_law_one", "_law_v"] ["_law_hand_here", "_law_f", "_law_n"] (defScope sHr) := ⟨rfl, rfl, rfl, by decide +kernel, rfl, by decide +kernel, by decide +kernel⟩
def spHr (K : PySem.W.Frag) : Sp := fun vs H Q _ => ∃ (h a : Addr) (f : List V) (n : Nat), vs = [.ref h, .ref a, I n] ∧ HandAt H h ∧ SqT K H a f ∧ Fn n f ∧ 0 < n ∧ n ≤ 5 ∧ ∀ H', SameX h H H' → HandAt H' h → Q (.bl true) H'
theorem ok_hr {f : Addr} {fd : FuncData} (F : Fun K "_law_held_right" "_law_held_right" sHr f fd) (C : Cs P w K mg base) : FnOk P w K mg base CX0 3 f fd ["_law_hand_here", "_law_f", "_law_n"] (spHr K) := by
  refine F.ok scHr (fun vs H Q E h => ?_) (fun cdv A outer s H vs Q E hr h => ?_)
  · obtain ⟨h, a, f, n, rfl, _⟩ := h
    rfl
  · obtain ⟨h, a, f, n, rfl, hH, hA, hf, hn0, hn5, q⟩ := h
    refine ⟨_, pss_cons (ps_set (i := 3) scHr.nd rfl (.inr rfl) (pe_cl C.take hr (by rfl) (pa_cons (pv 0) (pa_cons (pv 2) pa_nil))))
      (pss_cons (ps_setLc (i := 4) (own := [("_law_v", 10)]) (g := gName 10) (by rfl) scHr.nd rfl rfl (sw_true rfl rfl rfl (by decide +kernel)) (pi_tup (pe_tup (pa_cons pe_int (pa_cons pe_int pa_nil))))
          (blkOk_by (N := ["_law_hand_here", "_law_f", "_law_n", "_law_k", "_law_pieces", "_law_row", "_law_bits_here", "_law_piece", "_law_i", "_law_one", "_law_v"]) (sc := defScope sHr) (by decide +kernel))
          (fun _ _ _ _ _ => pg_name (i := 10) scHr.nd rfl (Or.inl rfl)) (fun _ _ _ _ _ => pts_nil) (fun _ _ _ _ _ => pe_cl C.he hr (by rfl) (pa_cons (pv 1) (pa_cons (pv 3) (pa_cons (pv 10) pa_nil)))))
      (pss_cons (ps_if (pt_cmpR (op_neD hr.units) (pe_cl C.op hr (by rfl) (pa_cons (pe_ix ix_list (pv 4) pe_int (fun _ _ => rfl)) pa_nil)) (pe_cl C.he hr (by rfl) (pa_cons (pe_cl C.op hr (by rfl) (pa_cons (pv 1) pa_nil)) (pa_cons (pv 3) (pa_cons pe_int pa_nil)))) (nomark _)) (pss_one (ps_ret pe_bl)) pss_nil)
      (pss_cons (ps_for PassesOwn.never rfl (pi_range1 (by rfl) C.mr (pa_cons (pe_op op_shl pe_int (pv 2)) pa_nil)) (pg_name (i := 5) scHr.nd rfl (.inl rfl))
          (pss_cons (ps_set (i := 6) scHr.nd rfl (.inl rfl) (pe_cl C.bits hr (by rfl) (pa_cons (pv 5) (pa_cons (pv 2) pa_nil))))
          (pss_cons (ps_set (i := 7) scHr.nd rfl (.inl rfl) (pe_ix ix_list (pv 4) (pe_ix ix_list (pv 6) (pv 3) (fun _ _ => rfl)) (fun _ _ => rfl)))
          (pss_one (ps_if (pt_cmpR op_ne (pe_ix ix_tup (pv 7) (pe_cl C.row hr (by rfl) (pa_cons (pe_op op_cat (pe_slice sl_list (pv 6) po_none (po_some (pv 3))) (pe_slice sl_list (pv 6) (po_some (pe_op op_add (pv 3) pe_int)) po_none)) pa_nil)) (fun _ _ => rfl)) (pe_ix ix_tup (pv 1) (pv 5) (fun _ _ => rfl)) (nomark _)) (pss_one (ps_ret pe_bl)) pss_nil)))))
      (pss_cons (ps_for PassesOwn.never rfl (pi_range1 (by rfl) C.mr (pa_cons (pv 3) pa_nil)) (pg_name (i := 8) scHr.nd rfl (.inl rfl))
          (pss_cons (ps_set (i := 9) scHr.nd rfl (.inl rfl) (pe_cl C.he hr (by rfl) (pa_cons (pe_cl C.he hr (by rfl) (pa_cons (pv 1) (pa_cons (pv 3) (pa_cons pe_int pa_nil)))) (pa_cons (pv 8) (pa_cons pe_int pa_nil)))))
          (pss_one (ps_if (pt_cmpR (op_neD hr.units) (pv 9) (pe_cl C.he hr (by rfl) (pa_cons (pe_cl C.he hr (by rfl) (pa_cons (pv 1) (pa_cons (pv 8) (pa_cons pe_int pa_nil)))) (pa_cons (pe_op op_sub (pv 3) pe_int) (pa_cons pe_int pa_nil)))) (nomark _)) (pss_one (ps_ret pe_bl)) pss_nil))))
      (pss_one (ps_ret (pe_cmpR (op_eqD hr.units) (pe_cl C.he hr (by rfl) (pa_cons (pe_cl C.tu hr (by rfl) (pa_cons (pv 1) (pa_cons (pe_tup (pa_cons (pv 3) pa_nil)) pa_nil))) (pa_cons (pv 3) (pa_cons pe_int pa_nil)))) (pe_ix ix_list (pv 4) pe_int (fun _ _ => rfl)) (nomark _)))))))), ?_⟩
    have h32 : f.length ≤ 32 := by
      rw [hf.len]
      exact Nat.pow_le_pow_right (by decide) hn5
    -- k = take(hand, n)
    refine ⟨.ref h, rfl, I n, rfl, h, n, rfl, hH, hn0, by omega, fun k H1 hk s1 h1 => ?_⟩
    have A1 := s1.sqt hH hA
    -- pieces
    refine ⟨by show 2 ≤ sizeLine; decide, fun T nT => ?_⟩
    have sT : Same H1 (upd H1 T (.tup [V.int 0, .int 1])) := same_upd nT
    refine ⟨T, rfl, ⟨[V.int 0, .int 1], SqT.of upd_same⟩, fun D nD => comp_refs (K := K) (xs := [V.int 0, .int 1]) (fun v => mHeld .non f n k v) (by show 2 ≤ 1000; decide) (SqT.of upd_same) nD (fun _ => rfl) (fun v x H2 kk hx s2 hkk => ?_) fun H2 ps s2 e2 hl hp => ?_⟩
    · have hv : v < 2 ∧ x = I v := by
        have hh : v = 0 ∨ v = 1 ∨ 2 ≤ v := by omega
        rcases hh with rfl | rfl | hh
        · cases hx; exact ⟨by decide, rfl⟩
        · cases hx; exact ⟨by decide, rfl⟩
        · rw [List.getElem?_eq_none (by show 2 ≤ v; exact hh)] at hx
          cases hx
      obtain ⟨hv, rfl⟩ := hv
      exact ⟨.ref a, rfl, I k, rfl, I v, rfl, a, f, n, k, v, rfl, same_sqt (sT.trans s2) A1, hf.len, by omega, hk, hv, fun H3 p s3 t3 => hkk H3 p s3 t3⟩
    obtain ⟨p0, p1, rfl⟩ := ref2 hl
    have t0 : SqT K H2 p0 (mHeld .non f n k 0) := hp 0 p0 rfl
    have t1 : SqT K H2 p1 (mHeld .non f n k 1) := hp 1 p1 rfl
    have A2 : SqT K H2 a f := same_sqt (sT.trans s2) A1
    have h2 : HandAt H2 h := h1.same (sT.trans s2)
    have s02 : SameX h H H2 := s1.trans (SameX.of (sT.trans s2))
    have hf1 : Fn (n - 1) (mHeld .non f n k 1) := hf.held k 1
    have l1 : (mHeld .non f n k 1).length ≤ 64 := hf1.lt (by omega)
    -- if opposite(pieces[1]) != held(opposite(f), k, 1)
    refine ⟨.ref D, rfl, D, _, 1, .ref p1, rfl, rfl, SqL.of e2, at_of (j := 1) rfl rfl, p1, _, rfl, t1, hf1.ok, l1, fun H3 b3 s3 t3 => ?_⟩
    refine ⟨.ref a, rfl, a, f, rfl, same_sqt s3 A2, hf.ok, by omega, fun H4 b4 s4 t4 => ?_⟩
    refine ⟨I k, rfl, b4, _, n, k, 1, rfl, t4, hf.opp.len, by omega, hk, by decide, fun H5 b5 s5 t5 => ?_⟩
    refine ne_tups (same_sqt (s4.trans s5) t3) t5 hf1.opp (mHeld_map oth rfl n k 1) ⟨false, rfl, iteF ?_⟩
    have s25 : Same H2 H5 := s3.trans (s4.trans s5)
    -- for row in range(1 << n)
    have e1 : (1 : Int) * 2 ^ ((n : Int).toNat) = ((2 ^ n : Nat) : Int) := by rw [Int.one_mul, Int.toNat_natCast, pow_nat]
    have hp2 : 2 ^ n ≤ 32 := by rw [← hf.len]; exact h32
    have hp1 : 0 < 2 ^ n := Nat.two_pow_pos n
    refine ⟨I n, rfl, 1, (n : Int), rfl, rfl, cpow (a := 1) (by decide) (by omega), ((2 ^ n : Nat) : Int), ?_, by omega, by omega, ?_⟩
    · show [V.int ((1 : Int) * 2 ^ ((n : Int).toNat))] = _
      rw [e1]
    refine for_range (lo := 0) (n := 2 ^ n) (fun i σ H' => ∃ y5 y6 y7, σ = [some (.ref h), some (.ref a), some (I n), some (I k), some (.ref D), y5, y6, y7, none, none, none] ∧ Same H2 H')
      ⟨none, none, none, rfl, s25⟩ (fun r σ H6 hrow p => ?_) (fun σ H6 p => ?_)
    · obtain ⟨y5, y6, y7, rfl, s6⟩ := p
      rw [Int.zero_add]
      refine ⟨I r, rfl, I n, rfl, r, n, rfl, by omega, fun H7 B s7 eB => ?_⟩
      have hbl : ((bitsOf r n).map I).length = n := by rw [List.length_map, bits_len]
      have gb : ((bitsOf r n).map I)[k]? = some (I (r / 2 ^ k % 2)) := by
        rw [I_at (by rw [bits_len]; exact hk)]
        unfold bitsOf
        rw [tab_getD _ _ hk]
      have hb2 : r / 2 ^ k % 2 < 2 := Nat.mod_lt _ (by decide)
      have s27 : Same H2 H7 := s6.trans s7
      obtain ⟨pp, hpp, tpp⟩ : ∃ pp, ([p0, p1].map V.ref)[r / 2 ^ k % 2]? = some (.ref pp) ∧ SqT K H7 pp (mHeld .non f n k (r / 2 ^ k % 2)) := by
        have hh : r / 2 ^ k % 2 = 0 ∨ r / 2 ^ k % 2 = 1 := by omega
        rcases hh with hh | hh
        · rw [hh]; exact ⟨p0, rfl, same_sqt s27 t0⟩
        · rw [hh]; exact ⟨p1, rfl, same_sqt s27 t1⟩
      refine ⟨.ref D, rfl, .ref B, rfl, I k, rfl, B, _, (k : Int), _, rfl, rfl, SqL.of eB, at_of rfl gb, D, _, ((r / 2 ^ k % 2 : Nat) : Int), .ref pp, rfl, rfl, SqL.of (s27 _ _ e2), at_of rfl hpp, ?_⟩
      -- piece[row_of(bits[:k] + bits[k + 1:])] != f[row]
      refine ⟨.ref pp, rfl, .ref B, rfl, I k, rfl, (k : Int), rfl, B, _, rfl, SqL.of eB, fun c1 n1 => ?_⟩
      have z1 : Same H7 (upd H7 c1 (.lst (cutV ((bitsOf r n).map I) none (some (k : Int))))) := same_upd n1
      refine ⟨.ref B, rfl, I k, rfl, (k : Int), 1, rfl, rfl, ((k + 1 : Nat) : Int), rfl, B, _, rfl, SqL.of (z1 _ _ eB), fun c2 n2 => ?_⟩
      have z2 := same_upd (o := .lst (cutV ((bitsOf r n).map I) (some ((k + 1 : Nat) : Int)) none)) n2
      refine ⟨c1, c2, _, _, rfl, rfl, z2 _ _ upd_same, upd_same, ?_, fun c3 n3 => ?_⟩
      · rw [cut_lo (by omega), cut_hi (by omega), List.length_take, List.length_drop, hbl]
        exact Nat.le_of_lt (small1 (by omega))
      have z3 := same_upd (o := .lst (cutV ((bitsOf r n).map I) none (some (k : Int)) ++ cutV ((bitsOf r n).map I) (some ((k + 1 : Nat) : Int)) none)) n3
      have ecat : cutV ((bitsOf r n).map I) none (some (k : Int)) ++ cutV ((bitsOf r n).map I) (some ((k + 1 : Nat) : Int)) none = ((bitsOf r n).take k ++ (bitsOf r n).drop (k + 1)).map I := by
        rw [cut_lo (by omega), cut_hi (by omega), List.map_append, List.map_take, List.map_drop]
      refine ⟨c3, (bitsOf r n).take k ++ (bitsOf r n).drop (k + 1), rfl, SqL.of (by rw [upd_same, ecat]), ?_, fun H8 s8 => ?_⟩
      · rw [List.length_append, List.length_take, List.length_drop, bits_len]
        omega
      have s78 : Same H7 H8 := z1.trans (z2.trans (z3.trans s8))
      have s28 : Same H2 H8 := s27.trans s78
      have hwo : wo r k < 2 ^ (n - 1) := wo_lt (by omega) (by rw [show n - 1 + 1 = n by omega]; exact hrow)
      refine ⟨pp, _, ((wo r k : Nat) : Int), _, rfl, congrArg (fun z => I z) (rowOf_cut hk hrow), same_sqt s78 tpp, at_of rfl (getD_lt .non (by rw [mHeld_len]; exact hwo)), ?_⟩
      refine ⟨.ref a, rfl, I r, rfl, a, f, (r : Int), _, rfl, rfl, same_sqt s28 A2, at_of rfl (getD_lt .non (by rw [hf.len]; exact hrow)), ?_⟩
      rw [mHeld_both hk hrow]
      refine ⟨(Good.getD hf.ok r).scal, false, by rw [decide_eq_true rfl]; rfl, iteF ?_⟩
      exact ⟨_, _, _, rfl, s28⟩
    · obtain ⟨y5, y6, y7, rfl, s6⟩ := p
      -- for i in range(k)
      refine ⟨I k, rfl, (k : Int), rfl, by omega, by omega, ?_⟩
      refine for_range (lo := 0) (n := k) (fun i σ H' => ∃ y8 y9, σ = [some (.ref h), some (.ref a), some (I n), some (I k), some (.ref D), y5, y6, y7, y8, y9, none] ∧ Same H2 H')
        ⟨none, none, rfl, s6⟩ (fun i σ H7 hi p => ?_) (fun σ H7 p => ?_)
      · obtain ⟨y8, y9, rfl, s7⟩ := p
        rw [Int.zero_add]
        have hfk : Fn (n - 1) (mHeld .non f n k 1) := hf.held k 1
        have hfi : Fn (n - 1) (mHeld .non f n i 0) := hf.held i 0
        refine ⟨.ref a, rfl, I k, rfl, a, f, n, k, 1, rfl, same_sqt s7 A2, hf.len, by omega, hk, by decide, fun H8 b8 s8 t8 => ?_⟩
        refine ⟨I i, rfl, b8, _, n - 1, i, 0, rfl, t8, hfk.len, by omega, by omega, by decide, fun H9 b9 s9 t9 => ?_⟩
        refine ⟨_, rfl, .ref a, rfl, I i, rfl, a, f, n, i, 0, rfl, same_sqt (s7.trans (s8.trans s9)) A2, hf.len, by omega, by omega, by decide, fun H10 b10 s10 t10 => ?_⟩
        refine ⟨I k, rfl, (k : Int), 1, rfl, rfl, b10, _, n - 1, k - 1, 1, ?_, t10, hfi.len, by omega, by omega, by decide, fun H11 b11 s11 t11 => ?_⟩
        · show [V.ref b10, V.int ((k : Int) - 1), V.int 1] = [.ref b10, I (k - 1), I 1]
          unfold I
          rw [show (k : Int) - 1 = ((k - 1 : Nat) : Int) by omega]
          rfl
        refine ne_tups (same_sqt (s10.trans s11) t9) t11 (hfk.held i 0) (mHeld_held hk hi (by decide) (by decide)) ⟨false, rfl, iteF ?_⟩
        exact ⟨_, _, rfl, s7.trans (s8.trans (s9.trans (s10.trans s11)))⟩
      · obtain ⟨y8, y9, rfl, s7⟩ := p
        -- return held(turned(f, (k,)), k, 0) == pieces[1]
        refine ⟨.ref a, rfl, I k, rfl, by show 1 ≤ sizeLine; decide, fun t nt => ?_⟩
        have z1 : Same H7 (upd H7 t (.tup [I k])) := same_upd nt
        refine ⟨a, t, f, n, [k], rfl, same_sqt (s7.trans z1) A2, hf.len, by omega, SqT.of upd_same, by show 1 ≤ 1000; decide, fun x hx => by rw [List.mem_singleton.mp hx]; omega, ?_, fun H8 b8 s8 t8 => ?_⟩
        · rw [mk_one]
          exact Nat.pow_lt_pow_right (by decide) hk
        rw [mk_one] at t8
        refine ⟨I k, rfl, b8, _, n, k, 0, rfl, t8, (hf.turn _).len, by omega, hk, by decide, fun H9 b9 s9 t9 => ?_⟩
        have s29 : Same H2 H9 := s7.trans (z1.trans (s8.trans s9))
        refine ⟨.ref D, rfl, D, _, 1, .ref p1, rfl, rfl, SqL.of (s29 _ _ e2), at_of (j := 1) rfl rfl, ?_⟩
        exact eq_tups t9 (same_sqt s29 t1) ((hf.turn _).held k 0) (mHeld_turn hf.len hk) (q H9 (s02.trans (SameX.of s29)) (h2.same s29))
end
end K6
namespace K6
open PySem PySem.Spec PyProof.Rows L2
theorem Ord.comp {n : Nat} {a b : List Nat} (ha : Ord n a) (hb : Ord n b) : Ord n (b.map fun k => a.getD k 0) := by
  refine ⟨by rw [List.length_map]; exact hb.len, nodup_map_on hb.nd fun x hx y hy e => getD_inj ha.nd (by rw [ha.len]; exact hb.lt x hx) (by rw [ha.len]; exact hb.lt y hy) e, fun x hx => ?_, fun x hx => ?_⟩
  · obtain ⟨y, hy, e⟩ := List.mem_map.mp hx
    rw [← e]
    exact ha.at (hb.lt y hy)
  · obtain ⟨k, hk, e⟩ := ha.place hx
    exact List.mem_map.mpr ⟨k, hb.all k hk, e⟩
/-- at which place a switch stands in an order -/
def pos (o : List Nat) (x : Nat) : Nat := o.idxOf x
theorem Ord.pos {n : Nat} {o : List Nat} (h : Ord n o) {x : Nat} (hx : x < n) : o[K6.pos o x]? = some x ∧ K6.pos o x < n := by
  have hl : o.idxOf x < o.length := List.idxOf_lt_length_of_mem (h.all x hx)
  refine ⟨?_, by rw [← h.len]; exact hl⟩
  unfold K6.pos
  rw [List.getElem?_eq_getElem hl, List.getElem_idxOf hl]
theorem Ord.pos_at {n : Nat} {o : List Nat} (h : Ord n o) {k : Nat} (hk : k < n) : K6.pos o (o.getD k 0) = k := by
  obtain ⟨h1, h2⟩ := h.pos (h.at hk)
  refine getD_inj h.nd (by rw [h.len]; exact h2) (by rw [h.len]; exact hk) ?_
  rw [getD_of 0 h1]
/-- which places a sorted list of places tells -/
theorem there_ok {n : Nat} {o s t : List Nat} (h : Ord n o) (hs : Few n s) (ht : t.Perm (s.map (K6.pos o))) : Few n t ∧ ∀ k, k < n → (k ∈ t ↔ o.getD k 0 ∈ s) := by
  have hnd : (s.map (K6.pos o)).Nodup := nodup_map_on hs.nd fun x hx y hy e => by
    have h1 := (h.pos (hs.lt x hx)).1
    have h2 := (h.pos (hs.lt y hy)).1
    rw [e, h2] at h1
    exact (Option.some.inj h1).symm
  refine ⟨⟨ht.nodup_iff.mpr hnd, fun x hx => ?_⟩, fun k hk => ?_⟩
  · obtain ⟨y, hy, e⟩ := List.mem_map.mp (ht.mem_iff.mp hx)
    rw [← e]
    exact (h.pos (hs.lt y hy)).2
  · rw [ht.mem_iff, List.mem_map]
    refine ⟨fun ⟨y, hy, e⟩ => ?_, fun hm => ⟨_, hm, h.pos_at hk⟩⟩
    have h1 := (h.pos (hs.lt y hy)).1
    rw [e] at h1
    rw [getD_of 0 h1]
    exact hy
/-- a list of whole numbers that is some arrangement of numbers from 0 on -/
theorem nat_perm {l : List Nat} {ns : List Int} (h : ns.Perm (l.map fun (k : Nat) => (k : Int))) : ∃ t : List Nat, t.Perm l ∧ ns.map V.int = t.map I := by
  refine ⟨ns.map Int.toNat, ?_, ?_⟩
  · have q := h.map Int.toNat
    rw [List.map_map] at q
    have e : (l.map (Int.toNat ∘ fun (k : Nat) => (k : Int))) = l := by
      have e2 : (Int.toNat ∘ fun (k : Nat) => (k : Int)) = id := funext fun k => Int.toNat_natCast k
      rw [e2, List.map_id]
    rw [e] at q
    exact q
  · rw [List.map_map]
    refine List.map_congr_left fun x hx => ?_
    obtain ⟨k, _, e⟩ := List.mem_map.mp (h.mem_iff.mp hx)
    rw [← e]
    show V.int (k : Int) = V.int (((k : Int).toNat : Nat) : Int)
    rw [Int.toNat_natCast]
theorem dec_bl2 (a b : Bool) : (!decide (V.bl a = V.bl b)) = (a != b) := by
  cases a <;> cases b <;> decide
theorem two_sh (f : List V) : SeqAt.shaped (.list [tupD f, tupD f]) = true := by
  unfold SeqAt.shaped
  rw [PyData.canLay0, PyData.canLayAll0, PyData.canLayAll0, PyData.canLayAll0, tupD_can, PyData.depth, PyData.depthAll, PyData.depthAll, PyData.depthAll, tupD_dep]
  rfl
theorem swap_none {targets : List Expr} {value : Expr} {env : Env} (h : swappedStores targets value env = pure none) : swappedStores targets value env = pure none := h
section
variable {P : Program} {w : World} {K : PySem.W.Frag} {mg : Str → Option Value} {base : Heap}
/-! ### _law_undone -/
abbrev NU : List Str := ["_law_hand_here", "_law_f", "_law_n", "_law_some_here", "_law_others", "_law_one", "_law_other", "_law_place", "_law_just", "_law_there", "_law_k", "_law_v"]
theorem scUnd : FnScope NU ["_law_hand_here", "_law_f", "_law_n"] (defScope sUnd) := ⟨rfl, rfl, rfl, by decide +kernel, rfl, by decide +kernel, by decide +kernel⟩
def spUnd (K : PySem.W.Frag) : Sp := fun vs H Q _ => ∃ (h a : Addr) (f : List V) (n : Nat), vs = [.ref h, .ref a, I n] ∧ HandAt H h ∧ SqT K H a f ∧ Fn n f ∧ n ≤ 5 ∧ ∀ H', SameX h H H' → HandAt H' h → Q (.bl true) H'
theorem ok_und {f : Addr} {fd : FuncData} (F : Fun K "_law_undone" "_law_undone" sUnd f fd) (C : Cs P w K mg base) : FnOk P w K mg base CX0 3 f fd ["_law_hand_here", "_law_f", "_law_n"] (spUnd K) := by
  refine F.ok scUnd (fun vs H Q E h => ?_) (fun cdv A outer s H vs Q E hr h => ?_)
  · obtain ⟨h, a, f, n, rfl, _⟩ := h
    rfl
  · obtain ⟨h, a, f, n, rfl, hH, hA, hf, hn5, q⟩ := h
    have nd := scUnd.nd
    refine ⟨_, pss_cons (ps_asg (pe_tup (pa_cons (pe_cl C.some hr (by rfl) (pa_cons (pv 0) (pa_cons (pv 2) pa_nil))) (pa_cons (pe_cl C.some hr (by rfl) (pa_cons (pv 0) (pa_cons (pv 2) pa_nil))) pa_nil))) (pg_tup rfl (pgs_cons (pg_name (i := 3) nd rfl (.inr rfl)) (pgs_cons (pg_name (i := 4) nd rfl (.inr rfl)) pgs_nil))))
      (pss_cons (ps_asg (pe_tup (pa_cons (pe_cl C.ord hr (by rfl) (pa_cons (pv 0) (pa_cons (pv 2) pa_nil))) (pa_cons (pe_cl C.ord hr (by rfl) (pa_cons (pv 0) (pa_cons (pv 2) pa_nil))) pa_nil))) (pg_tup rfl (pgs_cons (pg_name (i := 5) nd rfl (.inr rfl)) (pgs_cons (pg_name (i := 6) nd rfl (.inl rfl)) pgs_nil))))
      (pss_cons (ps_set (i := 7) nd rfl (.inr rfl) (pe_cl C.take hr (by rfl) (pa_cons (pv 0) (pa_cons (pe_op op_add (pv 2) pe_int) pa_nil))))
      (pss_cons (ps_if (PW.pt (pw_or (pt_cmpR (op_neD hr.units) (pe_cl C.op hr (by rfl) (pa_cons (pe_cl C.op hr (by rfl) (pa_cons (pv 1) pa_nil)) pa_nil)) (pv 1) (nomark _))
          (pw_or1 (pt_cmpR (op_neD hr.units) (pe_cl C.tu hr (by rfl) (pa_cons (pe_cl C.tu hr (by rfl) (pa_cons (pv 1) (pa_cons (pv 3) pa_nil))) (pa_cons (pv 3) pa_nil))) (pv 1) (nomark _))))) (pss_one (ps_ret pe_bl)) pss_nil)
      (pss_cons (ps_set (i := 8) nd rfl (.inl rfl) (pe_callTy call_tuple_of (by rfl) C.mt (by decide +kernel) (pa_cons (pe_lc (own := [("_law_k", 10)]) (g := gName 10) (by rfl) nd (pi_range1 (by rfl) C.mr (pa_cons (pv 2) pa_nil)) (blkOk_by (N := NU) (sc := defScope sUnd) (by decide +kernel))
          (fun _ _ _ _ _ => pg_name (i := 10) nd rfl (Or.inl rfl)) (fun _ _ _ _ _ => pts_one (pt_cmpR op_ne (pe_cmpR (inS (K := K) rfl) (pv 10) (pv 3) (by rfl)) (pe_cmpR (inS (K := K) rfl) (pv 10) (pv 4) (by rfl)) (nomark _))) (fun _ _ _ _ _ => pv 10)) pa_nil)))
      (pss_cons (ps_if (pt_cmpR (op_neD hr.units) (pe_cl C.tu hr (by rfl) (pa_cons (pe_cl C.tu hr (by rfl) (pa_cons (pv 1) (pa_cons (pv 3) pa_nil))) (pa_cons (pv 4) pa_nil))) (pe_cl C.tu hr (by rfl) (pa_cons (pv 1) (pa_cons (pv 8) pa_nil))) (nomark _)) (pss_one (ps_ret pe_bl)) pss_nil)
      (pss_cons (ps_if (pt_cmpR (op_neD hr.units) (pe_cl C.re hr (by rfl) (pa_cons (pe_cl C.re hr (by rfl) (pa_cons (pv 1) (pa_cons (pv 5) pa_nil))) (pa_cons (pe_cl C.back hr (by rfl) (pa_cons (pv 5) pa_nil)) pa_nil))) (pv 1) (nomark _)) (pss_one (ps_ret pe_bl)) pss_nil)
      (pss_cons (ps_if (pt_cmpR (op_neD hr.units) (pe_cl C.re hr (by rfl) (pa_cons (pe_cl C.re hr (by rfl) (pa_cons (pv 1) (pa_cons (pv 5) pa_nil))) (pa_cons (pv 6) pa_nil)))
          (pe_cl C.re hr (by rfl) (pa_cons (pv 1) (pa_cons (pe_callTy call_tuple_of (by rfl) C.mt (by decide +kernel) (pa_cons (pe_lc (own := [("_law_k", 10)]) (g := gName 10) (by rfl) nd (pi_tup (pv 6)) (blkOk_by (N := NU) (sc := defScope sUnd) (by decide +kernel))
            (fun _ _ _ _ _ => pg_name (i := 10) nd rfl (Or.inl rfl)) (fun _ _ _ _ _ => pts_nil) (fun _ _ _ _ _ => pe_ix (ixT (K := K) rfl) (pv 5) (pv 10) (fun _ _ => rfl))) pa_nil)) pa_nil))) (nomark _)) (pss_one (ps_ret pe_bl)) pss_nil)
      (pss_cons (ps_if (pt_cmpR (op_neD hr.units) (pe_lc (own := [("_law_v", 11)]) (g := gName 11) (by rfl) nd (pi_tup (pe_tup (pa_cons pe_int (pa_cons pe_int pa_nil)))) (blkOk_by (N := NU) (sc := defScope sUnd) (by decide +kernel))
            (fun _ _ _ _ _ => pg_name (i := 11) nd rfl (Or.inl rfl)) (fun _ _ _ _ _ => pts_nil) (fun _ _ _ _ _ => pe_cl C.he hr (by rfl) (pa_cons (pe_cl C.id hr (by rfl) (pa_cons (pv 1) (pa_cons (pv 7) pa_nil))) (pa_cons (pv 7) (pa_cons (pv 11) pa_nil)))))
          (pe_lst (pa_cons (pv 1) (pa_cons (pv 1) pa_nil))) (nomark _)) (pss_one (ps_ret pe_bl)) pss_nil)
      (pss_cons (ps_if (pt_cmpR (op_neD hr.units) (pe_cl C.op hr (by rfl) (pa_cons (pe_cl C.id hr (by rfl) (pa_cons (pv 1) (pa_cons (pv 7) pa_nil))) pa_nil)) (pe_cl C.id hr (by rfl) (pa_cons (pe_cl C.op hr (by rfl) (pa_cons (pv 1) pa_nil)) (pa_cons (pv 7) pa_nil))) (nomark _)) (pss_one (ps_ret pe_bl)) pss_nil)
      (pss_cons (ps_if (pt_cmpR (op_neD hr.units) (pe_cl C.op hr (by rfl) (pa_cons (pe_cl C.tu hr (by rfl) (pa_cons (pv 1) (pa_cons (pv 3) pa_nil))) pa_nil)) (pe_cl C.tu hr (by rfl) (pa_cons (pe_cl C.op hr (by rfl) (pa_cons (pv 1) pa_nil)) (pa_cons (pv 3) pa_nil))) (nomark _)) (pss_one (ps_ret pe_bl)) pss_nil)
      (pss_cons (ps_set (i := 9) nd rfl (.inl rfl) (pe_callTy call_tuple_of (by rfl) C.mt (by decide +kernel) (pa_cons (pe_callB cr_sorted (by rfl) C.mso (by decide +kernel) (pa_cons (pe_lc (own := [("_law_k", 10)]) (g := gName 10) (by rfl) nd (pi_tup (pv 3)) (blkOk_by (N := NU) (sc := defScope sUnd) (by decide +kernel))
          (fun _ _ _ _ _ => pg_name (i := 10) nd rfl (Or.inl rfl)) (fun _ _ _ _ _ => pts_nil) (fun _ _ _ _ _ => pe_index (K := K) rfl (pv 5) (pv 10))) pa_nil)) pa_nil)))
      (pss_one (ps_ret (pe_cmpR (op_eqD hr.units) (pe_cl C.re hr (by rfl) (pa_cons (pe_cl C.tu hr (by rfl) (pa_cons (pv 1) (pa_cons (pv 3) pa_nil))) (pa_cons (pv 5) pa_nil))) (pe_cl C.tu hr (by rfl) (pa_cons (pe_cl C.re hr (by rfl) (pa_cons (pv 1) (pa_cons (pv 5) pa_nil))) (pa_cons (pv 9) pa_nil))) (nomark _))))))))))))))), ?_⟩
    have h64 : f.length ≤ 64 := hf.lt (by omega)
    -- some, others
    refine ⟨.ref h, rfl, I n, rfl, h, n, rfl, hH, by omega, fun H1 a1 ks s1 h1 t1 fw1 l1 => ?_⟩
    refine ⟨.ref h, rfl, I n, rfl, h, n, rfl, h1, by omega, fun H2 a2 js s2 h2 t2 fw2 l2 => ?_⟩
    refine ⟨by show 2 ≤ sizeLine; decide, fun T nT => ?_⟩
    have zT : Same H2 (upd H2 T (.tup [V.ref a1, .ref a2])) := same_upd nT
    refine ⟨T, [V.ref a1, .ref a2], rfl, SqT.of upd_same, rfl, _, _, rfl, _, _, rfl, rfl, ?_⟩
    have h3 := h2.same zT
    -- one, other
    refine ⟨.ref h, rfl, I n, rfl, h, n, rfl, h3, by omega, fun H4 a3 o1 s4 h4 t4 pl4 ord1 => ?_⟩
    refine ⟨.ref h, rfl, I n, rfl, h, n, rfl, h4, by omega, fun H5 a4 o2 s5 h5 t5 _ ord2 => ?_⟩
    refine ⟨by show 2 ≤ sizeLine; decide, fun T' nT' => ?_⟩
    have zT' : Same H5 (upd H5 T' (.tup [V.ref a3, .ref a4])) := same_upd nT'
    refine ⟨T', [V.ref a3, .ref a4], rfl, SqT.of upd_same, rfl, _, _, rfl, _, _, rfl, rfl, ?_⟩
    have h6 := h5.same zT'
    -- place
    refine ⟨.ref h, rfl, I n, rfl, (n : Int), 1, rfl, rfl, h, n + 1, rfl, h6, by omega, by omega, fun place H7 hplace s7 h7 => ?_⟩
    have s07 : SameX h H H7 := s1.trans (s2.trans ((SameX.of zT).trans (s4.trans (s5.trans ((SameX.of zT').trans s7)))))
    have s17 : SameX h H1 H7 := s2.trans ((SameX.of zT).trans (s4.trans (s5.trans ((SameX.of zT').trans s7))))
    have s27 : SameX h H2 H7 := (SameX.of zT).trans (s4.trans (s5.trans ((SameX.of zT').trans s7)))
    have s47 : SameX h H4 H7 := s5.trans ((SameX.of zT').trans s7)
    have s57 : SameX h H5 H7 := (SameX.of zT').trans s7
    have A : SqT K H7 a f := s07.sqt hH hA
    have S1 : SqT K H7 a1 (ks.map I) := s17.sqt h1 t1
    have S2 : SqT K H7 a2 (js.map I) := s27.sqt h2 t2
    have O1 : SqT K H7 a3 (o1.map I) := s47.sqt h4 t4
    have O2 : SqT K H7 a4 (o2.map I) := s57.sqt h5 t5
    have PL : PlT H7 a3 := by
      obtain ⟨ob, u, e, hc, hd⟩ := pl4
      exact ⟨ob, u, s47.frz h4 e, hc, hd⟩
    have mks := fw1.mk_lt
    have mjs := fw2.mk_lt
    have lks : ks.length ≤ 1000 := by omega
    have ljs : js.length ≤ 1000 := by omega
    have bks : ∀ k, k ∈ ks → k ≤ 1000 := fun k hk => by have := fw1.lt k hk; omega
    have bjs : ∀ k, k ∈ js → k ≤ 1000 := fun k hk => by have := fw2.lt k hk; omega
    -- opposite(opposite(f)) != f
    refine ⟨.ref a, rfl, a, f, rfl, A, hf.ok, h64, fun H8 b8 s8 t8 => ⟨b8, _, rfl, t8, hf.opp.ok, by rw [List.length_map]; exact h64, fun H9 b9 s9 t9 => ⟨.ref a, rfl, ?_⟩⟩⟩
    refine ne_tups t9 (same_sqt (s8.trans s9) A) hf.opp.opp ?_ ⟨false, rfl, iteF ?_⟩
    · rw [List.map_map]
      exact (List.map_congr_left fun v hv => (hf.ok v hv).oth2).trans (List.map_id f)
    have z9 := s8.trans s9
    -- turned(turned(f, some), some) != f
    refine ⟨.ref a, rfl, .ref a1, rfl, a, a1, f, n, ks, rfl, same_sqt z9 A, hf.len, by omega, same_sqt z9 S1, lks, bks, mks, fun H10 b10 s10 t10 => ?_⟩
    have z10 := z9.trans s10
    refine ⟨.ref a1, rfl, b10, a1, _, n, ks, rfl, t10, (hf.turn _).len, by omega, same_sqt z10 S1, lks, bks, mks, fun H11 b11 s11 t11 => ⟨.ref a, rfl, ?_⟩⟩
    have z11 := z10.trans s11
    refine ne_tups t11 (same_sqt z11 A) ((hf.turn _).turn _) (mTurn_twice hf.len mks) ⟨false, rfl, iteF ?_⟩
    -- just
    refine ⟨I n, rfl, (n : Int), rfl, by omega, by omega, fun D new => ?_⟩
    refine lc_range (lo := 0) (n := n) (fun i H => Same H11 H ∧ H D = some (.lst (((List.range i).filter fun k => (decide (k ∈ ks)) != (decide (k ∈ js))).map I))) ⟨same_upd new, upd_same⟩ (fun i H12 hi p => ?_) (fun H12 p => ?_)
    · obtain ⟨s12, e12⟩ := p
      refine ⟨rfl, ?_⟩
      rw [Int.zero_add]
      have z12 := z11.trans s12
      refine ⟨I i, rfl, .ref a1, rfl, a1, _, rfl, .inr (same_sqt z12 S1), rfl, flat_I ks, I i, rfl, .ref a2, rfl, a2, _, rfl, .inr (same_sqt z12 S2), rfl, flat_I js, rfl, _, rfl, ?_⟩
      show if (!decide (V.bl (inV (I i) (ks.map I)) = V.bl (inV (I i) (js.map I)))) = true then _ else _
      rw [in_rows, in_rows, dec_bl2, List.range_succ, List.filter_append]
      have hl := List.length_filter_le (fun k => (decide (k ∈ ks)) != (decide (k ∈ js))) (List.range i)
      rw [List.length_range] at hl
      refine ite2 (fun c => ⟨I i, rfl, _, e12, by rw [List.length_map]; exact small1 (by omega), fun b o e => ?_, ?_⟩) (fun c => ⟨s12, ?_⟩)
      · rw [upd_ne (ne_of_none e new)]
        exact s12 _ _ e
      · rw [upd_same, List.filter_cons, if_pos c, List.map_append]
        rfl
      · rw [List.filter_cons, if_neg c, List.filter_nil, List.append_nil]
        exact e12
    obtain ⟨s12, e12⟩ := p
    have mj := mk_just fw1.nd fw2.nd fw1.lt fw2.lt
    generalize hJ : ((List.range n).filter fun k => (decide (k ∈ ks)) != (decide (k ∈ js))) = J at mj e12
    have bJ : ∀ k, k ∈ J → k < n := fun k hk => by
      rw [← hJ] at hk
      exact List.mem_range.mp (List.mem_filter.mp hk).1
    have lJ : J.length ≤ 1000 := by
      have hl := List.length_filter_le (fun k => (decide (k ∈ ks)) != (decide (k ∈ js))) (List.range n)
      rw [hJ, List.length_range] at hl
      omega
    refine ⟨D, _, rfl, .inl ⟨SqL.of e12, fun aj naj => ?_⟩⟩
    have z13 := z11.trans (s12.trans (same_upd (o := .tup (J.map I)) naj))
    have SJ : SqT K (upd H12 aj (.tup (J.map I))) aj (J.map I) := SqT.of upd_same
    -- turned(turned(f, some), others) != turned(f, just)
    refine ⟨.ref a, rfl, .ref a1, rfl, a, a1, f, n, ks, rfl, same_sqt z13 A, hf.len, by omega, same_sqt z13 S1, lks, bks, mks, fun H14 b14 s14 t14 => ?_⟩
    have z14 := z13.trans s14
    refine ⟨.ref a2, rfl, b14, a2, _, n, js, rfl, t14, (hf.turn _).len, by omega, same_sqt z14 S2, ljs, bjs, mjs, fun H15 b15 s15 t15 => ?_⟩
    have z15 := z14.trans s15
    refine ⟨.ref a, rfl, .ref aj, rfl, a, aj, f, n, J, rfl, same_sqt z15 A, hf.len, by omega, same_sqt (s14.trans s15) SJ, lJ, fun k hk => by have := bJ k hk; omega, by rw [mj]; exact Nat.xor_lt_two_pow mks mjs, fun H16 b16 s16 t16 => ?_⟩
    have z16 := z15.trans s16
    refine ne_tups (same_sqt s16 t15) t16 ((hf.turn _).turn _) (by rw [mTurn_turn hf.len mks mjs, mj]) ⟨false, rfl, iteF ?_⟩
    -- renamed(renamed(f, one), back(one)) != f
    refine ⟨.ref a, rfl, .ref a3, rfl, a, a3, f, n, o1, rfl, same_sqt z16 A, hf.len, by omega, same_sqt z16 O1, ord1, fun H17 b17 s17' t17 => ?_⟩
    have z17 := z16.trans s17'
    refine ⟨.ref a3, rfl, a3, n, o1, rfl, same_sqt z17 O1, by omega, ord1, fun H18 b18 bb s18 t18 hbb => ?_⟩
    have z18 := z17.trans s18
    refine ⟨b17, b18, _, n, bb, rfl, same_sqt s18 t17, (hf.ren _).len, by omega, t18, hbb.ord ord1, fun H19 b19 s19 t19 => ⟨.ref a, rfl, ?_⟩⟩
    have z19 := z18.trans s19
    refine ne_tups t19 (same_sqt z19 A) ((hf.ren _).ren _) (mRen_back hf.len ord1 hbb) ⟨false, rfl, iteF ?_⟩
    -- renamed(renamed(f, one), other) != renamed(f, ..)
    refine ⟨.ref a, rfl, .ref a3, rfl, a, a3, f, n, o1, rfl, same_sqt z19 A, hf.len, by omega, same_sqt z19 O1, ord1, fun H20 b20 s20 t20 => ?_⟩
    have z20 := z19.trans s20
    refine ⟨.ref a4, rfl, b20, a4, _, n, o2, rfl, t20, (hf.ren _).len, by omega, same_sqt z20 O2, ord2, fun H21 b21 s21 t21 => ?_⟩
    have z21 := z20.trans s21
    have lo2 : (o2.map I).length = o2.length := List.length_map _
    have lo2n := ord2.len
    refine ⟨.ref a, rfl, .ref a4, rfl, a4, rfl, ⟨_, same_sqt z21 O2⟩, fun D2 new2 => comp_tup (K := K) (fun i => I (o1.getD (o2.getD i 0) 0)) (by omega) (same_sqt z21 O2) new2 (fun _ => rfl) (fun i x H22 k' hx s22 hk' => ?_) fun H22 s22 e22 => ?_⟩
    · obtain ⟨m, hm, rfl⟩ := map_at hx
      have hmn : m < n := ord2.lt m (List.mem_of_getElem? hm)
      refine ⟨.ref a3, rfl, I m, rfl, a3, o1.map I, (m : Int), _, rfl, rfl, same_sqt (z21.trans s22) O1, at_of rfl (I_at (by rw [ord1.len]; exact hmn)), ?_⟩
      rw [getD_of 0 hm] at hk'
      exact hk' H22 (Same.refl _)
    have z22 := z21.trans s22
    refine ⟨D2, _, rfl, .inl ⟨SqL.of e22, fun ac nac => ?_⟩⟩
    have y22 := same_upd (o := .tup (tab (o2.map I).length fun i => I (o1.getD (o2.getD i 0) 0))) nac
    have ec : (tab (o2.map I).length fun i => I (o1.getD (o2.getD i 0) 0)) = (o2.map fun k => o1.getD k 0).map I := by
      rw [lo2, List.map_map]
      exact map_tab o2 0 fun k => I (o1.getD k 0)
    refine ⟨a, ac, f, n, o2.map fun k => o1.getD k 0, rfl, same_sqt (z22.trans y22) A, hf.len, by omega, SqT.of (by rw [upd_same, ec]), ord1.comp ord2, fun H23 b23 s23 t23 => ?_⟩
    have z23 := z22.trans (y22.trans s23)
    refine ne_tups (same_sqt (s22.trans (y22.trans s23)) t21) t23 ((hf.ren _).ren _) (mRen_ren hf.len ord1 ord2) ⟨false, rfl, iteF ?_⟩
    -- [held(idle(f, place), place, v) for v in (0, 1)] != [f, f]
    refine ⟨by show 2 ≤ sizeLine; decide, fun T2 nT2 => ?_⟩
    have y24 : Same H23 (upd H23 T2 (.tup [V.int 0, .int 1])) := same_upd nT2
    have fi := hf.idle place
    refine ⟨T2, rfl, ⟨[V.int 0, .int 1], SqT.of upd_same⟩, fun D3 new3 => comp_refs (K := K) (xs := [V.int 0, .int 1]) (fun _ => f) (by show 2 ≤ 1000; decide) (SqT.of upd_same) new3 (fun _ => rfl) (fun v x H24 kk hx s24 hkk => ?_) fun H24 ps s24 e24 hl hp => ?_⟩
    · have hv : v < 2 ∧ x = I v := by
        have hh : v = 0 ∨ v = 1 ∨ 2 ≤ v := by omega
        rcases hh with rfl | rfl | hh
        · cases hx; exact ⟨by decide, rfl⟩
        · cases hx; exact ⟨by decide, rfl⟩
        · rw [List.getElem?_eq_none (by show 2 ≤ v; exact hh)] at hx
          cases hx
      obtain ⟨hv, rfl⟩ := hv
      refine ⟨.ref a, rfl, I place, rfl, a, f, n, place, rfl, same_sqt (z23.trans (y24.trans s24)) A, hf.len, hn5, by omega, fun H25 b25 s25 t25 => ?_⟩
      refine ⟨I place, rfl, I v, rfl, b25, _, n + 1, place, v, rfl, t25, fi.len, by omega, by omega, hv, fun H26 b26 s26 t26 => ?_⟩
      rw [mHeld_idle hf.len (by omega) hv] at t26
      exact hkk H26 b26 (s25.trans s26) t26
    obtain ⟨p0, p1, rfl⟩ := ref2 hl
    have z24 := z23.trans (y24.trans s24)
    refine ⟨.ref a, rfl, .ref a, rfl, by show 2 ≤ sizeLine; decide, fun D4 nD4 => ?_⟩
    have y25 : Same H24 (upd H24 D4 (.lst [V.ref a, .ref a])) := same_upd nD4
    have z25 := z24.trans y25
    have dA := dp_tup (same_sqt z25 A) hf.ok
    refine ne_same (d := .list [tupD f, tupD f]) (.lst (SqL.of (y25 _ _ e24)) (.cons (dp_tup (same_sqt y25 (hp 0 p0 rfl)) hf.ok) (.cons (dp_tup (same_sqt y25 (hp 1 p1 rfl)) hf.ok) .nil))) (.lst (SqL.of upd_same) (.cons dA (.cons dA .nil))) (two_sh f) ⟨false, rfl, iteF ?_⟩
    -- opposite(idle(f, place)) != idle(opposite(f), place)
    refine ⟨.ref a, rfl, I place, rfl, a, f, n, place, rfl, same_sqt z25 A, hf.len, hn5, by omega, fun H27 b27 s27' t27 => ?_⟩
    have z27 := z25.trans s27'
    refine ⟨b27, _, rfl, t27, fi.ok, fi.lt (by omega), fun H28 b28 s28 t28 => ?_⟩
    have z28 := z27.trans s28
    refine ⟨.ref a, rfl, a, f, rfl, same_sqt z28 A, hf.ok, h64, fun H29 b29 s29 t29 => ?_⟩
    have z29 := z28.trans s29
    refine ⟨I place, rfl, b29, _, n, place, rfl, t29, hf.opp.len, hn5, by omega, fun H30 b30 s30 t30 => ?_⟩
    have z30 := z29.trans s30
    refine ne_tups (same_sqt (s29.trans s30) t28) t30 fi.opp (mIdle_map oth rfl place) ⟨false, rfl, iteF ?_⟩
    -- opposite(turned(f, some)) != turned(opposite(f), some)
    refine ⟨.ref a, rfl, .ref a1, rfl, a, a1, f, n, ks, rfl, same_sqt z30 A, hf.len, by omega, same_sqt z30 S1, lks, bks, mks, fun H31 b31 s31 t31 => ?_⟩
    have z31 := z30.trans s31
    refine ⟨b31, _, rfl, t31, (hf.turn _).ok, (hf.turn _).lt (by omega), fun H32 b32 s32 t32 => ?_⟩
    have z32 := z31.trans s32
    refine ⟨.ref a, rfl, a, f, rfl, same_sqt z32 A, hf.ok, h64, fun H33 b33 s33 t33 => ?_⟩
    have z33 := z32.trans s33
    refine ⟨.ref a1, rfl, b33, a1, _, n, ks, rfl, t33, hf.opp.len, by omega, same_sqt z33 S1, lks, bks, mks, fun H34 b34 s34 t34 => ?_⟩
    have z34 := z33.trans s34
    refine ne_tups (same_sqt (s33.trans s34) t32) t34 (hf.turn _).opp (mTurn_map oth rfl _) ⟨false, rfl, iteF ?_⟩
    -- there
    have lks2 : (ks.map I).length = ks.length := List.length_map _
    refine ⟨.ref a1, rfl, a1, rfl, ⟨_, same_sqt z34 S1⟩, fun D5 new5 => comp_tup (K := K) (fun i => I (pos o1 (ks.getD i 0))) (by omega) (same_sqt z34 S1) new5 (fun _ => rfl) (fun i x H35 k' hx s35 hk' => ?_) fun H35 s35 e35 => ?_⟩
    · obtain ⟨m, hm, rfl⟩ := map_at hx
      have hmn : m < n := fw1.lt m (List.mem_of_getElem? hm)
      obtain ⟨hp1, hp2⟩ := ord1.pos hmn
      rw [getD_of 0 hm] at hk'
      have PL2 : PlT H35 a3 := by
        obtain ⟨ob, u, e, hc, hd⟩ := PL
        exact ⟨ob, u, (z34.trans s35) _ _ e, hc, hd⟩
      refine ⟨.ref a3, rfl, ⟨a3, rfl, PL2⟩, I m, rfl, a3, o1, m, pos o1 m, rfl, rfl, same_sqt (z34.trans s35) O1, hp1, fun j hj ej => ?_, hk' H35 (Same.refl _)⟩
      have hjn : j < o1.length := (List.getElem?_eq_some_iff.mp ej).1
      have := getD_inj ord1.nd hjn (by rw [ord1.len]; exact hp2) (by rw [getD_of 0 ej, getD_of 0 hp1])
      omega
    have z35 := z34.trans s35
    have ep : (tab (ks.map I).length fun i => I (pos o1 (ks.getD i 0))) = ((ks.map (pos o1)).map fun (k : Nat) => (k : Int)).map V.int := by
      rw [lks2, List.map_map, List.map_map]
      exact map_tab ks 0 fun k => I (pos o1 k)
    refine ⟨D5, (ks.map (pos o1)).map fun (k : Nat) => (k : Int), rfl, SqL.of (by rw [e35, ep]), by rw [List.length_map, List.length_map]; omega, fun ns' D6 hperm _ nD6 => ?_⟩
    obtain ⟨ts, hts, ets⟩ := nat_perm hperm
    obtain ⟨fts, hth⟩ := there_ok ord1 fw1 hts
    have y36 := same_upd (o := .lst (ns'.map V.int)) nD6
    refine ⟨D6, _, rfl, .inl ⟨SqL.of upd_same, fun at_ nat_ => ?_⟩⟩
    have y37 := same_upd (o := .tup (ns'.map V.int)) nat_
    have z37 := z35.trans (y36.trans y37)
    have ST : SqT K (upd (upd H35 D6 (.lst (ns'.map V.int))) at_ (.tup (ns'.map V.int))) at_ (ts.map I) := SqT.of (by rw [upd_same, ets])
    have lts : ts.length ≤ 1000 := by
      rw [hts.length_eq, List.length_map]
      exact lks
    -- return renamed(turned(f, some), one) == turned(renamed(f, one), there)
    refine ⟨.ref a, rfl, .ref a1, rfl, a, a1, f, n, ks, rfl, same_sqt z37 A, hf.len, by omega, same_sqt z37 S1, lks, bks, mks, fun H38 b38 s38 t38 => ?_⟩
    have z38 := z37.trans s38
    refine ⟨.ref a3, rfl, b38, a3, _, n, o1, rfl, t38, (hf.turn _).len, by omega, same_sqt z38 O1, ord1, fun H39 b39 s39 t39 => ?_⟩
    have z39 := z38.trans s39
    refine ⟨.ref a, rfl, .ref a3, rfl, a, a3, f, n, o1, rfl, same_sqt z39 A, hf.len, by omega, same_sqt z39 O1, ord1, fun H40 b40 s40 t40 => ?_⟩
    have z40 := z39.trans s40
    refine ⟨.ref at_, rfl, b40, at_, _, n, ts, rfl, t40, (hf.ren _).len, by omega, same_sqt (s38.trans (s39.trans s40)) ST, lts, fun k hk => by have := fts.lt k hk; omega, fts.mk_lt, fun H41 b41 s41 t41 => ?_⟩
    have z41 := z40.trans s41
    exact eq_tups (same_sqt (s40.trans s41) t39) t41 ((hf.turn _).ren _) (mRen_turn hf.len ord1 fw1.nd fw1.lt fts.nd fts.lt hth) (q H41 (s07.trans (SameX.of z41)) (h7.same z41))
end
end K6
namespace K6
open PySem PySem.Spec PyProof.Rows L2
theorem SameX.sql {K : PySem.W.Frag} {h : Addr} {H H' : Hp} {a : Addr} {xs : List V} (s : SameX h H H') (n : H h = none) (q : SqL K H a xs) : SqL K H' a xs := by
  rcases q with (q | ⟨o, q⟩) | q
  · exact .inl (.inl (s _ _ (ne_of_none q n) q))
  · exact .inl (.inr ⟨o, s _ _ (ne_of_none q n) q⟩)
  · exact .inr q
theorem rows_of : ∀ {acc : List V}, (∀ v, v ∈ acc → ∃ r : Nat, v = I r) → ∃ rows : List Nat, acc = rows.map I
  | [], _ => ⟨[], rfl⟩
  | v :: acc, h => by
    obtain ⟨r, e⟩ := h v List.mem_cons_self
    obtain ⟨rows, e2⟩ := rows_of fun w hw => h w (List.mem_cons_of_mem _ hw)
    exact ⟨r :: rows, by rw [e, e2]; rfl⟩
theorem cat_ok {K : PySem.W.Frag} {H : Hp} {a b : Addr} {xs ys : List V} {Q : VK} (ha : SqT K H a xs) (hb : SqT K H b ys) (hz : xs.length + ys.length ≤ 1000) (q : ∀ H' p, Same H H' → SqT K H' p (xs ++ ys) → Q (.ref p) H') : rCatA K (.ref a) (.ref b) H Q := by
  refine ⟨a, b, xs, ys, rfl, rfl, ha, hb, Nat.le_of_lt (small1 hz), fun e => ?_, fun _ e => ?_, fun _ _ p np => q _ p (same_upd np) (SqT.of upd_same)⟩
  · subst e
    exact q H b (Same.refl _) hb
  · subst e
    exact q H a (Same.refl _) (by rw [List.append_nil]; exact ha)
section
variable {P : Program} {w : World} {K : PySem.W.Frag} {mg : Str → Option Value} {base : Heap}
/-! ### law -/
abbrev NL : List Str := ["_law_script", "_law_k", "_law_hand_here", "_law_n", "_law_f", "_law_one", "_law_other", "_law_turn"]
theorem scLaw : FnScope NL ["_law_script"] (defScope sLaw) := ⟨rfl, rfl, rfl, by decide +kernel, rfl, by decide +kernel, by decide +kernel⟩
def spLaw (K : PySem.W.Frag) : Sp := fun vs H Q _ => ∃ (a : Addr) (ns : List Int), vs = [.ref a] ∧ SqL K H a (ns.map V.int) ∧ ns.length ≤ 63 ∧ ∀ H', Q (.bl true) H'
theorem ok_law {f : Addr} {fd : FuncData} (F : Fun K "law" "law" sLaw f fd) (C : Cs P w K mg base) (CU : Cl P w K mg base "_law_undone" 3 ["_law_hand_here", "_law_f", "_law_n"] (spUnd K)) (CH : Cl P w K mg base "_law_held_right" 3 ["_law_hand_here", "_law_f", "_law_n"] (spHr K)) : FnOk P w K mg base CX0 4 f fd ["_law_script"] (spLaw K) := by
  refine F.ok scLaw (fun vs H Q E h => ?_) (fun cdv A outer s H vs Q E hr h => ?_)
  · obtain ⟨a, ns, rfl, _⟩ := h
    rfl
  · obtain ⟨a, ns, rfl, hS, hl63, q⟩ := h
    have nd := scLaw.nd
    have hr2 := hr.mono (show 2 ≤ 3 by decide)
    refine ⟨_, pss_cons (ps_for PassesOwn.never rfl (pi_range1 (by rfl) C.mr (pa_cons (pe_op op_add pe_int (pe_callB (call_min2 rfl) (by rfl) C.mmin (by decide +kernel) (pa_cons pe_int (pa_cons (pe_callB call_len_seq (by rfl) C.ml PySem.boot_len (pa_cons (pv 0) pa_nil)) pa_nil)))) pa_nil)) (pg_name (i := 1) nd rfl (.inl rfl))
        (pss_cons (ps_set (i := 2) nd rfl (.inr rfl) (pe_cl C.hand hr2 (by rfl) (pa_cons (pv 0) (pa_cons (pv 1) pa_nil))))
        (pss_cons (ps_set (i := 3) nd rfl (.inr rfl) (pe_cl C.take hr2 (by rfl) (pa_cons (pv 2) (pa_cons pe_int pa_nil))))
        (pss_cons (ps_set (i := 4) nd rfl (.inl rfl) (pe_cl C.vals hr2 (by rfl) (pa_cons (pv 2) (pa_cons (pe_op op_shl pe_int (pv 3)) pa_nil))))
        (pss_cons (ps_if (PW.pt (pw_or (pt_not (pt_val (pe_cl CU hr (by rfl) (pa_cons (pv 2) (pa_cons (pv 4) (pa_cons (pv 3) pa_nil)))))) (pw_or1 (PW.pt (pw_and (pt_cmpR op_gt (pv 3) pe_int (nomark _)) (pw_and1 (pt_not (pt_val (pe_cl CH hr (by rfl) (pa_cons (pv 2) (pa_cons (pv 4) (pa_cons (pv 3) pa_nil)))))))))))) (pss_one (ps_ret pe_bl)) pss_nil)
        (pss_cons (ps_set (i := 5) nd rfl (.inl rfl) (pe_callTy call_tuple_of (by rfl) C.mt (by decide +kernel) (pa_cons (pe_lc (own := [("_law_turn", 7)]) (g := gName 7) (by rfl) nd (pi_range1 (by rfl) C.mr (pa_cons (pe_cl C.take hr2 (by rfl) (pa_cons (pv 2) (pa_cons pe_int pa_nil))) pa_nil)) (blkOk_by (N := NL) (sc := defScope sLaw) (by decide +kernel))
            (fun _ _ _ _ _ => pg_name (i := 7) nd rfl (Or.inl rfl)) (fun _ _ _ _ _ => pts_nil) (fun _ _ _ _ _ => pe_cl C.take hr2 (by rfl) (pa_cons (pv 2) (pa_cons (pe_op op_shl pe_int (pv 3)) pa_nil)))) pa_nil)))
        (pss_cons (ps_set (i := 6) nd rfl (.inl rfl) (pe_callTy call_tuple_of (by rfl) C.mt (by decide +kernel) (pa_cons (pe_lc (own := [("_law_turn", 7)]) (g := gName 7) (by rfl) nd (pi_range1 (by rfl) C.mr (pa_cons (pe_cl C.take hr2 (by rfl) (pa_cons (pv 2) (pa_cons pe_int pa_nil))) pa_nil)) (blkOk_by (N := NL) (sc := defScope sLaw) (by decide +kernel))
            (fun _ _ _ _ _ => pg_name (i := 7) nd rfl (Or.inl rfl)) (fun _ _ _ _ _ => pts_nil) (fun _ _ _ _ _ => pe_cl C.take hr2 (by rfl) (pa_cons (pv 2) (pa_cons (pe_op op_shl pe_int (pv 3)) pa_nil)))) pa_nil)))
        (pss_cons (ps_if (pt_cmpR (op_neD hr.units) (pe_cl C.le hr2 (by rfl) (pa_cons (pe_cl C.le hr2 (by rfl) (pa_cons (pv 4) (pa_cons (pv 5) pa_nil))) (pa_cons (pv 6) pa_nil))) (pe_cl C.le hr2 (by rfl) (pa_cons (pv 4) (pa_cons (pe_op op_catA (pv 6) (pv 5)) pa_nil))) (nomark _)) (pss_one (ps_ret pe_bl)) pss_nil)
        (pss_cons (ps_if (pt_cmpR (op_neD hr.units) (pe_cl C.le hr2 (by rfl) (pa_cons (pv 4) (pa_cons (pe_tup pa_nil) pa_nil))) (pv 4) (nomark _)) (pss_one (ps_ret pe_bl)) pss_nil)
        (pss_one (ps_if (pt_cmpR (op_neD hr.units) (pe_cl C.op hr2 (by rfl) (pa_cons (pe_cl C.le hr2 (by rfl) (pa_cons (pv 4) (pa_cons (pv 5) pa_nil))) pa_nil)) (pe_cl C.le hr2 (by rfl) (pa_cons (pe_cl C.op hr2 (by rfl) (pa_cons (pv 4) pa_nil)) (pa_cons (pv 5) pa_nil))) (nomark _)) (pss_one (ps_ret pe_bl)) pss_nil)))))))))))
      (pss_one (ps_ret pe_bl)), ?_⟩
    refine ⟨.ref a, rfl, a, _, rfl, .inl hS, 8, _, rfl, 1, _, rfl, rfl, ((1 + min ns.length 8 : Nat) : Int), ?_, by omega, by omega, ?_⟩
    · show [V.int (1 + if (((ns.map V.int).length : Nat) : Int) < 8 then (((ns.map V.int).length : Nat) : Int) else 8)] = _
      rw [List.length_map]
      congr 2
      split <;> omega
    refine for_range (lo := 0) (n := 1 + min ns.length 8) (fun i σ H' => ∃ y1 y2 y3 y4 y5 y6 y7, σ = [some (.ref a), y1, y2, y3, y4, y5, y6, y7] ∧ SqL K H' a (ns.map V.int))
      ⟨none, none, none, none, none, none, none, rfl, hS⟩ (fun i σ H0 hi p => ?_) (fun σ H0 _ => q H0)
    obtain ⟨y1, y2, y3, y4, y5, y6, y7, rfl, S0⟩ := p
    rw [Int.zero_add]
    -- hand, n, f
    refine ⟨.ref a, rfl, I i, rfl, a, ns, i, rfl, S0, by omega, fun H1 h s1 hn h1 => ?_⟩
    refine ⟨.ref h, rfl, h, 6, rfl, h1, by decide, by decide, fun n H2 hn6 s2 h2 => ?_⟩
    have hp2 : 2 ^ n ≤ 32 := Nat.pow_le_pow_right (n := 2) (by decide) (show n ≤ 5 by omega)
    have hp1 : 0 < 2 ^ n := Nat.two_pow_pos n
    have e1 : V.int ((1 : Int) * 2 ^ ((n : Int).toNat)) = I (2 ^ n) := by
      rw [Int.one_mul, Int.toNat_natCast, pow_nat]
      rfl
    have ea : ([V.ref h, V.int ((1 : Int) * 2 ^ ((n : Int).toNat))] : List V) = [.ref h, I (2 ^ n)] := by rw [e1]
    refine ⟨.ref h, rfl, I n, rfl, 1, (n : Int), rfl, rfl, cpow (a := 1) (by decide) (by omega), h, 2 ^ n, ea, h2, by omega, fun H3 af f s3 h3 t3 hl hg => ?_⟩
    have hf : Fn n f := ⟨hl, hg⟩
    have s03 : SameX h H0 H3 := (SameX.of s1).trans (s2.trans s3)
    -- undone, held_right
    have test : ∀ T : Bool → Hp → Prop, (∀ Hx, SameX h H3 Hx → HandAt Hx h → T false Hx) → tOr (tNot (tB (tCall (spUnd K) [] E0 (tCons (tVar 2) (tCons (tVar 4) (tCons (tVar 3) tNil))))))
        (tAnd (tTest (tOp (rI0 fun i j => .bl (decide (j < i))) (tVar 3) (tC (.int 0)))) (tNot (tB (tCall (spHr K) [] E0 (tCons (tVar 2) (tCons (tVar 4) (tCons (tVar 3) tNil)))))))
        [some (.ref a), some (I i), some (.ref h), some (I n), some (.ref af), y5, y6, y7] H3 T := fun T hT => by
      refine ⟨.ref h, rfl, .ref af, rfl, I n, rfl, h, af, f, n, rfl, h3, t3, hf, by omega, fun H4 s4 h4 => ⟨true, rfl, iteF ?_⟩⟩
      refine ⟨I n, rfl, (n : Int), 0, rfl, rfl, _, rfl, ite2 (fun c => ?_) (fun c => hT H4 s4 h4)⟩
      have c' : (0 : Int) < (n : Int) := of_decide_eq_true c
      refine ⟨.ref h, rfl, .ref af, rfl, I n, rfl, h, af, f, n, rfl, h4, s4.sqt h3 t3, hf, by omega, by omega, fun H5 s5 h5 => ⟨true, rfl, hT H5 (s4.trans s5) h5⟩⟩
    refine test _ fun H4 s4 h4 => iteF ?_
    have t4 : SqT K H4 af f := s4.sqt h3 t3
    -- one
    refine ⟨.ref h, rfl, h, 4, rfl, h4, by decide, by decide, fun d H5 hd s5 h5 => ?_⟩
    refine ⟨(d : Int), rfl, by omega, by omega, fun D new => comp_draw (n := d) (h := h) (fun v => ∃ r : Nat, v = I r) (by omega) h5 new (fun _ => rfl) (fun j H6 k' hj s6 h6 hk' => ?_) fun H6 acc s6 h6 e6 hla hacc => ?_⟩
    · exact ⟨.ref h, rfl, I n, rfl, 1, (n : Int), rfl, rfl, cpow (a := 1) (by decide) (by omega), h, 2 ^ n, ea, h6, by omega, by omega, fun r H7 _ s7 h7 => hk' (I r) H7 ⟨r, rfl⟩ s7 h7⟩
    obtain ⟨one, rfl⟩ := rows_of hacc
    rw [List.length_map] at hla
    refine ⟨D, _, rfl, .inl ⟨SqL.of e6, fun ao nao => ?_⟩⟩
    have y6' := same_upd (o := .tup (one.map I)) nao
    have h6' := h6.same y6'
    -- other
    refine ⟨.ref h, rfl, h, 4, rfl, h6', by decide, by decide, fun d2 H7 hd2 s7 h7 => ?_⟩
    refine ⟨(d2 : Int), rfl, by omega, by omega, fun D2 new2 => comp_draw (n := d2) (h := h) (fun v => ∃ r : Nat, v = I r) (by omega) h7 new2 (fun _ => rfl) (fun j H8 k' hj s8 h8 hk' => ?_) fun H8 acc2 s8 h8 e8 hla2 hacc2 => ?_⟩
    · exact ⟨.ref h, rfl, I n, rfl, 1, (n : Int), rfl, rfl, cpow (a := 1) (by decide) (by omega), h, 2 ^ n, ea, h8, by omega, by omega, fun r H9 _ s9 h9 => hk' (I r) H9 ⟨r, rfl⟩ s9 h9⟩
    obtain ⟨other, rfl⟩ := rows_of hacc2
    rw [List.length_map] at hla2
    refine ⟨D2, _, rfl, .inl ⟨SqL.of e8, fun ax nax => ?_⟩⟩
    have y8 := same_upd (o := .tup (other.map I)) nax
    have w78 : SameX h H7 (upd H8 ax (.tup (other.map I))) := s8.trans (SameX.of y8)
    have w68 : SameX h (upd H6 ao (.tup (one.map I))) (upd H8 ax (.tup (other.map I))) := s7.trans w78
    have w48 : SameX h H4 (upd H8 ax (.tup (other.map I))) := s5.trans (s6.trans ((SameX.of y6').trans w68))
    have TF := w48.sqt h4 t4
    have T1 : SqT K (upd H8 ax (.tup (other.map I))) ao (one.map I) := w68.sqt h6' (SqT.of upd_same)
    have T2 : SqT K (upd H8 ax (.tup (other.map I))) ax (other.map I) := SqT.of upd_same
    have W0 : SameX h H0 (upd H8 ax (.tup (other.map I))) := s03.trans (s4.trans w48)
    have f64 : f.length ≤ 64 := hf.lt (by omega)
    -- left_out(left_out(f, one), other) != left_out(f, other + one)
    refine ⟨.ref af, rfl, .ref ao, rfl, af, ao, f, one, rfl, TF, f64, T1, fun G1 g1 u1 v1 => ?_⟩
    refine ⟨.ref ax, rfl, g1, ax, _, other, rfl, v1, by rw [mLeft_len]; exact f64, same_sqt u1 T2, fun G2 g2 u2 v2 => ?_⟩
    have u12 := u1.trans u2
    refine ⟨.ref af, rfl, .ref ax, rfl, .ref ao, rfl, cat_ok (same_sqt u12 T2) (same_sqt u12 T1) (by rw [List.length_map, List.length_map]; omega) fun G3 g3 u3 v3 => ?_⟩
    have u13 := u12.trans u3
    refine ⟨af, g3, f, other ++ one, rfl, same_sqt u13 TF, f64, by rw [List.map_append]; exact v3, fun G4 g4 u4 v4 => ?_⟩
    have u14 := u13.trans u4
    refine ne_tups (same_sqt (u3.trans u4) v2) v4 ((hf.left _).left _) (mLeft_left one other) ⟨false, rfl, iteF ?_⟩
    -- left_out(f, ()) != f
    refine ⟨.ref af, rfl, Nat.zero_le _, fun t nt => ?_⟩
    have y5 := same_upd (o := .tup []) nt
    have u15 := u14.trans y5
    refine ⟨af, t, f, [], rfl, same_sqt u15 TF, f64, SqT.of upd_same, fun G6 g6 u6 v6 => ⟨.ref af, rfl, ?_⟩⟩
    have u16 := u15.trans u6
    refine ne_tups v6 (same_sqt u16 TF) (hf.left _) mLeft_nil ⟨false, rfl, iteF ?_⟩
    -- opposite(left_out(f, one)) != left_out(opposite(f), one)
    refine ⟨.ref af, rfl, .ref ao, rfl, af, ao, f, one, rfl, same_sqt u16 TF, f64, same_sqt u16 T1, fun G7 g7 u7 v7 => ?_⟩
    have u17 := u16.trans u7
    refine ⟨g7, _, rfl, v7, (hf.left _).ok, by rw [mLeft_len]; exact f64, fun G8 g8 u8 v8 => ?_⟩
    have u18 := u17.trans u8
    refine ⟨.ref af, rfl, af, f, rfl, same_sqt u18 TF, hf.ok, f64, fun G9 g9 u9 v9 => ?_⟩
    have u19 := u18.trans u9
    refine ⟨.ref ao, rfl, g9, ao, _, one, rfl, v9, by rw [List.length_map]; exact f64, same_sqt u19 T1, fun G10 g10 u10 v10 => ?_⟩
    have u110 := u19.trans u10
    refine ne_tups (same_sqt (u9.trans u10) v8) v10 (hf.left _).opp (mLeft_map oth rfl one) ⟨false, rfl, iteF ?_⟩
    exact ⟨_, _, _, _, _, _, _, rfl, (W0.trans (SameX.of u110)).sql hn S0⟩
end
end K6
namespace K6
open PySem PySem.Spec PyProof.Rows L2
/-! ### what the top has written; the law's own head -/
theorem all_mk {l : PySem.W.OpenLaw} {w : World} {K : PySem.W.Frag} {h : Heap} {mg : Str → Option Value} {fa aO : Addr} {es : Array DictEntry} {nO : Nat} (X : K.In h) (G : h.Ns mainGlobals mg) (hfa : mg "law" = some (.ref fa))
    {f1 f2 f3 f4 f5 f6 f7 f8 f9 f10 f11 f12 f13 f14 f15 f16 f17 f18 f19 f20 f21 : Addr} {od1 an1 od2 an2 od3 an3 od4 an4 od5 an5 od6 an6 od7 an7 od8 an8 od9 an9 od10 an10 od11 an11 od12 an12 od13 an13 od14 an14 od15 an15 od16 an16 od17 an17 od18 an18 od19 an19 od20 an20 od21 an21 : Option Addr} {sl1 sl2 sl3 sl4 sl5 sl6 sl7 sl8 sl9 sl10 sl11 sl12 sl13 sl14 sl15 sl16 sl17 sl18 sl19 sl20 sl21 : Array (Option Value)} {oc1 kV1 dc1 pm1 cd1 ct1 oc2 kV2 dc2 pm2 cd2 ct2 oc3 kV3 dc3 pm3 cd3 ct3 oc4 kV4 dc4 pm4 cd4 ct4 oc5 kV5 dc5 pm5 cd5 ct5 oc6 kV6 dc6 pm6 cd6 ct6 oc7 kV7 dc7 pm7 cd7 ct7 oc8 kV8 dc8 pm8 cd8 ct8 oc9 kV9 dc9 pm9 cd9 ct9 oc10 kV10 dc10 pm10 cd10 ct10 oc11 kV11 dc11 pm11 cd11 ct11 oc12 kV12 dc12 pm12 cd12 ct12 oc13 kV13 dc13 pm13 cd13 ct13 oc14 kV14 dc14 pm14 cd14 ct14 oc15 kV15 dc15 pm15 cd15 ct15 oc16 kV16 dc16 pm16 cd16 ct16 oc17 kV17 dc17 pm17 cd17 ct17 oc18 kV18 dc18 pm18 cd18 ct18 oc19 kV19 dc19 pm19 cd19 ct19 oc20 kV20 dc20 pm20 cd20 ct20 oc21 kV21 dc21 pm21 cd21 ct21 : Value}
    (aa : PySem.W.nsIn K mainGlobals "OTHER" = some (some (.ref aO))) (lO : K.lookup aO = some ⟨.type "dict", none, .dict es nO, #[]⟩) (oO : otherOk es = true)
    (a1 : PySem.W.nsIn K mainGlobals "switches_of" = some (some (.ref f1))) (l1 : K.lookup f1 = some ⟨oc1, od1, .func (PySem.W.fnOf "switches_of" "switches_of" (defArgs sSw) (defBody sSw) (defScope sSw) .none kV1 dc1 pm1 an1 cd1 ct1), sl1⟩) (c1 : PySem.W.codeIn K cd1 "switches_of" = true) (k1 : PySem.W.keepIn K (.ref f1) = true)
    (a2 : PySem.W.nsIn K mainGlobals "opposite" = some (some (.ref f2))) (l2 : K.lookup f2 = some ⟨oc2, od2, .func (PySem.W.fnOf "opposite" "opposite" (defArgs sOp) (defBody sOp) (defScope sOp) .none kV2 dc2 pm2 an2 cd2 ct2), sl2⟩) (c2 : PySem.W.codeIn K cd2 "opposite" = true) (k2 : PySem.W.keepIn K (.ref f2) = true)
    (a3 : PySem.W.nsIn K mainGlobals "turned" = some (some (.ref f3))) (l3 : K.lookup f3 = some ⟨oc3, od3, .func (PySem.W.fnOf "turned" "turned" (defArgs sTu) (defBody sTu) (defScope sTu) .none kV3 dc3 pm3 an3 cd3 ct3), sl3⟩) (c3 : PySem.W.codeIn K cd3 "turned" = true) (k3 : PySem.W.keepIn K (.ref f3) = true)
    (a4 : PySem.W.nsIn K mainGlobals "row_by" = some (some (.ref f4))) (l4 : K.lookup f4 = some ⟨oc4, od4, .func (PySem.W.fnOf "row_by" "row_by" (defArgs sRb) (defBody sRb) (defScope sRb) .none kV4 dc4 pm4 an4 cd4 ct4), sl4⟩) (c4 : PySem.W.codeIn K cd4 "row_by" = true) (k4 : PySem.W.keepIn K (.ref f4) = true)
    (a5 : PySem.W.nsIn K mainGlobals "renamed" = some (some (.ref f5))) (l5 : K.lookup f5 = some ⟨oc5, od5, .func (PySem.W.fnOf "renamed" "renamed" (defArgs sRe) (defBody sRe) (defScope sRe) .none kV5 dc5 pm5 an5 cd5 ct5), sl5⟩) (c5 : PySem.W.codeIn K cd5 "renamed" = true) (k5 : PySem.W.keepIn K (.ref f5) = true)
    (a6 : PySem.W.nsIn K mainGlobals "without_switch" = some (some (.ref f6))) (l6 : K.lookup f6 = some ⟨oc6, od6, .func (PySem.W.fnOf "without_switch" "without_switch" (defArgs sWo) (defBody sWo) (defScope sWo) .none kV6 dc6 pm6 an6 cd6 ct6), sl6⟩) (c6 : PySem.W.codeIn K cd6 "without_switch" = true) (k6 : PySem.W.keepIn K (.ref f6) = true)
    (a7 : PySem.W.nsIn K mainGlobals "with_switch" = some (some (.ref f7))) (l7 : K.lookup f7 = some ⟨oc7, od7, .func (PySem.W.fnOf "with_switch" "with_switch" (defArgs sWi) (defBody sWi) (defScope sWi) .none kV7 dc7 pm7 an7 cd7 ct7), sl7⟩) (c7 : PySem.W.codeIn K cd7 "with_switch" = true) (k7 : PySem.W.keepIn K (.ref f7) = true)
    (a8 : PySem.W.nsIn K mainGlobals "idle" = some (some (.ref f8))) (l8 : K.lookup f8 = some ⟨oc8, od8, .func (PySem.W.fnOf "idle" "idle" (defArgs sId) (defBody sId) (defScope sId) .none kV8 dc8 pm8 an8 cd8 ct8), sl8⟩) (c8 : PySem.W.codeIn K cd8 "idle" = true) (k8 : PySem.W.keepIn K (.ref f8) = true)
    (a9 : PySem.W.nsIn K mainGlobals "held" = some (some (.ref f9))) (l9 : K.lookup f9 = some ⟨oc9, od9, .func (PySem.W.fnOf "held" "held" (defArgs sHe) (defBody sHe) (defScope sHe) .none kV9 dc9 pm9 an9 cd9 ct9), sl9⟩) (c9 : PySem.W.codeIn K cd9 "held" = true) (k9 : PySem.W.keepIn K (.ref f9) = true)
    (a10 : PySem.W.nsIn K mainGlobals "left_out" = some (some (.ref f10))) (l10 : K.lookup f10 = some ⟨oc10, od10, .func (PySem.W.fnOf "left_out" "left_out" (defArgs sLe) (defBody sLe) (defScope sLe) .none kV10 dc10 pm10 an10 cd10 ct10), sl10⟩) (c10 : PySem.W.codeIn K cd10 "left_out" = true) (k10 : PySem.W.keepIn K (.ref f10) = true)
    (a11 : PySem.W.nsIn K mainGlobals "_law_hand" = some (some (.ref f11))) (l11 : K.lookup f11 = some ⟨oc11, od11, .func (PySem.W.fnOf "_law_hand" "_law_hand" (defArgs sHand) (defBody sHand) (defScope sHand) .none kV11 dc11 pm11 an11 cd11 ct11), sl11⟩) (c11 : PySem.W.codeIn K cd11 "_law_hand" = true) (k11 : PySem.W.keepIn K (.ref f11) = true)
    (a12 : PySem.W.nsIn K mainGlobals "_law_take" = some (some (.ref f12))) (l12 : K.lookup f12 = some ⟨oc12, od12, .func (PySem.W.fnOf "_law_take" "_law_take" (defArgs sTake) (defBody sTake) (defScope sTake) .none kV12 dc12 pm12 an12 cd12 ct12), sl12⟩) (c12 : PySem.W.codeIn K cd12 "_law_take" = true) (k12 : PySem.W.keepIn K (.ref f12) = true)
    (a13 : PySem.W.nsIn K mainGlobals "_law_values" = some (some (.ref f13))) (l13 : K.lookup f13 = some ⟨oc13, od13, .func (PySem.W.fnOf "_law_values" "_law_values" (defArgs sVals) (defBody sVals) (defScope sVals) .none kV13 dc13 pm13 an13 cd13 ct13), sl13⟩) (c13 : PySem.W.codeIn K cd13 "_law_values" = true) (k13 : PySem.W.keepIn K (.ref f13) = true)
    (a14 : PySem.W.nsIn K mainGlobals "_law_bits" = some (some (.ref f14))) (l14 : K.lookup f14 = some ⟨oc14, od14, .func (PySem.W.fnOf "_law_bits" "_law_bits" (defArgs sBits) (defBody sBits) (defScope sBits) .none kV14 dc14 pm14 an14 cd14 ct14), sl14⟩) (c14 : PySem.W.codeIn K cd14 "_law_bits" = true) (k14 : PySem.W.keepIn K (.ref f14) = true)
    (a15 : PySem.W.nsIn K mainGlobals "_law_row_of" = some (some (.ref f15))) (l15 : K.lookup f15 = some ⟨oc15, od15, .func (PySem.W.fnOf "_law_row_of" "_law_row_of" (defArgs sRow) (defBody sRow) (defScope sRow) .none kV15 dc15 pm15 an15 cd15 ct15), sl15⟩) (c15 : PySem.W.codeIn K cd15 "_law_row_of" = true) (k15 : PySem.W.keepIn K (.ref f15) = true)
    (a16 : PySem.W.nsIn K mainGlobals "_law_some" = some (some (.ref f16))) (l16 : K.lookup f16 = some ⟨oc16, od16, .func (PySem.W.fnOf "_law_some" "_law_some" (defArgs sSome) (defBody sSome) (defScope sSome) .none kV16 dc16 pm16 an16 cd16 ct16), sl16⟩) (c16 : PySem.W.codeIn K cd16 "_law_some" = true) (k16 : PySem.W.keepIn K (.ref f16) = true)
    (a17 : PySem.W.nsIn K mainGlobals "_law_order" = some (some (.ref f17))) (l17 : K.lookup f17 = some ⟨oc17, od17, .func (PySem.W.fnOf "_law_order" "_law_order" (defArgs sOrd) (defBody sOrd) (defScope sOrd) .none kV17 dc17 pm17 an17 cd17 ct17), sl17⟩) (c17 : PySem.W.codeIn K cd17 "_law_order" = true) (k17 : PySem.W.keepIn K (.ref f17) = true)
    (a18 : PySem.W.nsIn K mainGlobals "_law_back" = some (some (.ref f18))) (l18 : K.lookup f18 = some ⟨oc18, od18, .func (PySem.W.fnOf "_law_back" "_law_back" (defArgs sBack) (defBody sBack) (defScope sBack) .none kV18 dc18 pm18 an18 cd18 ct18), sl18⟩) (c18 : PySem.W.codeIn K cd18 "_law_back" = true) (k18 : PySem.W.keepIn K (.ref f18) = true)
    (a19 : PySem.W.nsIn K mainGlobals "_law_undone" = some (some (.ref f19))) (l19 : K.lookup f19 = some ⟨oc19, od19, .func (PySem.W.fnOf "_law_undone" "_law_undone" (defArgs sUnd) (defBody sUnd) (defScope sUnd) .none kV19 dc19 pm19 an19 cd19 ct19), sl19⟩) (c19 : PySem.W.codeIn K cd19 "_law_undone" = true) (k19 : PySem.W.keepIn K (.ref f19) = true)
    (a20 : PySem.W.nsIn K mainGlobals "_law_held_right" = some (some (.ref f20))) (l20 : K.lookup f20 = some ⟨oc20, od20, .func (PySem.W.fnOf "_law_held_right" "_law_held_right" (defArgs sHr) (defBody sHr) (defScope sHr) .none kV20 dc20 pm20 an20 cd20 ct20), sl20⟩) (c20 : PySem.W.codeIn K cd20 "_law_held_right" = true) (k20 : PySem.W.keepIn K (.ref f20) = true)
    (a21 : PySem.W.nsIn K mainGlobals "law" = some (some (.ref f21))) (l21 : K.lookup f21 = some ⟨oc21, od21, .func (PySem.W.fnOf "law" "law" (defArgs sLaw) (defBody sLaw) (defScope sLaw) .none kV21 dc21 pm21 an21 cd21 ct21), sl21⟩) (c21 : PySem.W.codeIn K cd21 "law" = true) (k21 : PySem.W.keepIn K (.ref f21) = true)
    (z1 : PySem.W.nsIn K mainGlobals "len" = some none)
    (z2 : PySem.W.nsIn K mainGlobals "range" = some none)
    (z3 : PySem.W.nsIn K mainGlobals "tuple" = some none)
    (z4 : PySem.W.nsIn K mainGlobals "sum" = some none)
    (z5 : PySem.W.nsIn K mainGlobals "enumerate" = some none)
    (z6 : PySem.W.nsIn K mainGlobals "sorted" = some none)
    (z7 : PySem.W.nsIn K mainGlobals "min" = some none)
    (z8 : PySem.W.nsIn K mainGlobals "abs" = some none)
    (z9 : PySem.W.nsIn K mainGlobals "int" = some none)
    : ∃ fd : FuncData, (∀ (s : Shared) (v : Value), BindsTo s fd ⟨[v], []⟩ [("_law_script", v)]) ∧ ∀ base : Heap, K.In base → base.Ns mainGlobals mg → FnOk l.prog w K mg base CX0 4 fa fd ["_law_script"] (spLaw K) := by
  have e := hfa.symm.trans (PySem.W.mg_of X G a21)
  cases e
  have F1 := fun_mk (st := sSw) l1 c1 k1
  have F2 := fun_mk (st := sOp) l2 c2 k2
  have F3 := fun_mk (st := sTu) l3 c3 k3
  have F4 := fun_mk (st := sRb) l4 c4 k4
  have F5 := fun_mk (st := sRe) l5 c5 k5
  have F6 := fun_mk (st := sWo) l6 c6 k6
  have F7 := fun_mk (st := sWi) l7 c7 k7
  have F8 := fun_mk (st := sId) l8 c8 k8
  have F9 := fun_mk (st := sHe) l9 c9 k9
  have F10 := fun_mk (st := sLe) l10 c10 k10
  have F11 := fun_mk (st := sHand) l11 c11 k11
  have F12 := fun_mk (st := sTake) l12 c12 k12
  have F13 := fun_mk (st := sVals) l13 c13 k13
  have F14 := fun_mk (st := sBits) l14 c14 k14
  have F15 := fun_mk (st := sRow) l15 c15 k15
  have F16 := fun_mk (st := sSome) l16 c16 k16
  have F17 := fun_mk (st := sOrd) l17 c17 k17
  have F18 := fun_mk (st := sBack) l18 c18 k18
  have F19 := fun_mk (st := sUnd) l19 c19 k19
  have F20 := fun_mk (st := sHr) l20 c20 k20
  have F21 := fun_mk (st := sLaw) l21 c21 k21
  have b1 := F1.binds (ps := ["f"]) fun _ _ _ _ _ _ us hl => match us, hl with | [_], _ => rfl
  have g1 := PySem.W.mg_of X G a1
  have b2 := F2.binds (ps := ["f"]) fun _ _ _ _ _ _ us hl => match us, hl with | [_], _ => rfl
  have g2 := PySem.W.mg_of X G a2
  have b3 := F3.binds (ps := ["f", "some"]) fun _ _ _ _ _ _ us hl => match us, hl with | [_, _], _ => rfl
  have g3 := PySem.W.mg_of X G a3
  have b4 := F4.binds (ps := ["row", "order"]) fun _ _ _ _ _ _ us hl => match us, hl with | [_, _], _ => rfl
  have g4 := PySem.W.mg_of X G a4
  have b5 := F5.binds (ps := ["f", "order"]) fun _ _ _ _ _ _ us hl => match us, hl with | [_, _], _ => rfl
  have g5 := PySem.W.mg_of X G a5
  have b6 := F6.binds (ps := ["row", "k"]) fun _ _ _ _ _ _ us hl => match us, hl with | [_, _], _ => rfl
  have g6 := PySem.W.mg_of X G a6
  have b7 := F7.binds (ps := ["row", "k", "v"]) fun _ _ _ _ _ _ us hl => match us, hl with | [_, _, _], _ => rfl
  have g7 := PySem.W.mg_of X G a7
  have b8 := F8.binds (ps := ["f", "k"]) fun _ _ _ _ _ _ us hl => match us, hl with | [_, _], _ => rfl
  have g8 := PySem.W.mg_of X G a8
  have b9 := F9.binds (ps := ["f", "k", "v"]) fun _ _ _ _ _ _ us hl => match us, hl with | [_, _, _], _ => rfl
  have g9 := PySem.W.mg_of X G a9
  have b10 := F10.binds (ps := ["f", "rows"]) fun _ _ _ _ _ _ us hl => match us, hl with | [_, _], _ => rfl
  have g10 := PySem.W.mg_of X G a10
  have b11 := F11.binds (ps := ["_law_script", "_law_k"]) fun _ _ _ _ _ _ us hl => match us, hl with | [_, _], _ => rfl
  have g11 := PySem.W.mg_of X G a11
  have b12 := F12.binds (ps := ["_law_hand_here", "_law_many"]) fun _ _ _ _ _ _ us hl => match us, hl with | [_, _], _ => rfl
  have g12 := PySem.W.mg_of X G a12
  have b13 := F13.binds (ps := ["_law_hand_here", "_law_many"]) fun _ _ _ _ _ _ us hl => match us, hl with | [_, _], _ => rfl
  have g13 := PySem.W.mg_of X G a13
  have b14 := F14.binds (ps := ["_law_row", "_law_n"]) fun _ _ _ _ _ _ us hl => match us, hl with | [_, _], _ => rfl
  have g14 := PySem.W.mg_of X G a14
  have b15 := F15.binds (ps := ["_law_bits_here"]) fun _ _ _ _ _ _ us hl => match us, hl with | [_], _ => rfl
  have g15 := PySem.W.mg_of X G a15
  have b16 := F16.binds (ps := ["_law_hand_here", "_law_n"]) fun _ _ _ _ _ _ us hl => match us, hl with | [_, _], _ => rfl
  have g16 := PySem.W.mg_of X G a16
  have b17 := F17.binds (ps := ["_law_hand_here", "_law_n"]) fun _ _ _ _ _ _ us hl => match us, hl with | [_, _], _ => rfl
  have g17 := PySem.W.mg_of X G a17
  have b18 := F18.binds (ps := ["_law_order_here"]) fun _ _ _ _ _ _ us hl => match us, hl with | [_], _ => rfl
  have g18 := PySem.W.mg_of X G a18
  have b19 := F19.binds (ps := ["_law_hand_here", "_law_f", "_law_n"]) fun _ _ _ _ _ _ us hl => match us, hl with | [_, _, _], _ => rfl
  have g19 := PySem.W.mg_of X G a19
  have b20 := F20.binds (ps := ["_law_hand_here", "_law_f", "_law_n"]) fun _ _ _ _ _ _ us hl => match us, hl with | [_, _, _], _ => rfl
  have g20 := PySem.W.mg_of X G a20
  have m_len := PySem.W.mg_none_of X G z1
  have m_range := PySem.W.mg_none_of X G z2
  have m_tuple := PySem.W.mg_none_of X G z3
  have m_sum := PySem.W.mg_none_of X G z4
  have m_enumerate := PySem.W.mg_none_of X G z5
  have m_sorted := PySem.W.mg_none_of X G z6
  have m_min := PySem.W.mg_none_of X G z7
  have m_abs := PySem.W.mg_none_of X G z8
  have m_int := PySem.W.mg_none_of X G z9
  have gO := PySem.W.mg_of X G aa
  have hO : OtherAt K aO := ⟨es, nO, lO, oO⟩
  refine ⟨PySem.W.fnOf "law" "law" (defArgs sLaw) (defBody sLaw) (defScope sLaw) .none kV21 dc21 pm21 an21 cd21 ct21, fun s v => .of_eq rfl, fun base _ _ => ?_⟩
  have G1 : FnOk l.prog w K mg base CX0 1 f1 _ ["f"] (spSw K) := ok_sw F1 m_len
  have G2 : FnOk l.prog w K mg base CX0 1 f2 _ ["f"] (spOp K) := ok_op F2 m_tuple gO hO
  have G3 : FnOk l.prog w K mg base CX0 1 f3 _ ["f", "some"] (spTu K) := ok_tu F3 m_tuple m_len m_range m_sum
  have G4 : FnOk l.prog w K mg base CX0 1 f4 _ ["row", "order"] (spRb K) := ok_rb F4 m_len m_range m_sum
  have G5 : FnOk l.prog w K mg base CX0 2 f5 _ ["f", "order"] (spRe K) := ok_re F5 G4 g4 k4 b4 m_tuple m_len m_range
  have G6 : FnOk l.prog w K mg base CX0 1 f6 _ ["row", "k"] spWo := ok_wo F6
  have G7 : FnOk l.prog w K mg base CX0 1 f7 _ ["row", "k", "v"] spWi := ok_wi F7
  have G8 : FnOk l.prog w K mg base CX0 2 f8 _ ["f", "k"] (spId K) := ok_id F8 G6 g6 k6 b6 m_tuple m_len m_range
  have G9 : FnOk l.prog w K mg base CX0 2 f9 _ ["f", "k", "v"] (spHe K) := ok_he F9 G7 g7 k7 b7 G1 g1 k1 b1 m_tuple m_range
  have G10 : FnOk l.prog w K mg base CX0 1 f10 _ ["f", "rows"] (spLe K) := ok_le F10 m_tuple m_enumerate
  have G11 : FnOk l.prog w K mg base CX0 1 f11 _ ["_law_script", "_law_k"] (spHand K) := ok_hand F11 m_len m_abs m_int
  have G12 : FnOk l.prog w K mg base CX0 1 f12 _ ["_law_hand_here", "_law_many"] spTake := ok_take F12
  have G13 : FnOk l.prog w K mg base CX0 2 f13 _ ["_law_hand_here", "_law_many"] (spVals K) := ok_vals F13 G12 g12 k12 b12 m_tuple m_range
  have G14 : FnOk l.prog w K mg base CX0 1 f14 _ ["_law_row", "_law_n"] spBits := ok_bits F14 m_range
  have G15 : FnOk l.prog w K mg base CX0 1 f15 _ ["_law_bits_here"] (spRow K) := ok_row F15 m_enumerate m_sum
  have G16 : FnOk l.prog w K mg base CX0 2 f16 _ ["_law_hand_here", "_law_n"] (spSome K) := ok_some F16 G12 g12 k12 b12 m_tuple m_range
  have G17 : FnOk l.prog w K mg base CX0 2 f17 _ ["_law_hand_here", "_law_n"] (spOrd K) := ok_ord F17 G12 g12 k12 b12 m_tuple m_range
  have G18 : FnOk l.prog w K mg base CX0 1 f18 _ ["_law_order_here"] (spBack K) := ok_back F18 m_tuple m_len m_enumerate
  have C : Cs l.prog w K mg base := {
    op := ⟨f2, _, G2.mono (by decide), g2, k2, b2⟩
    tu := ⟨f3, _, G3.mono (by decide), g3, k3, b3⟩
    re := ⟨f5, _, G5, g5, k5, b5⟩
    id := ⟨f8, _, G8, g8, k8, b8⟩
    he := ⟨f9, _, G9, g9, k9, b9⟩
    le := ⟨f10, _, G10.mono (by decide), g10, k10, b10⟩
    hand := ⟨f11, _, G11.mono (by decide), g11, k11, b11⟩
    take := ⟨f12, _, G12.mono (by decide), g12, k12, b12⟩
    vals := ⟨f13, _, G13, g13, k13, b13⟩
    bits := ⟨f14, _, G14.mono (by decide), g14, k14, b14⟩
    row := ⟨f15, _, G15.mono (by decide), g15, k15, b15⟩
    some := ⟨f16, _, G16, g16, k16, b16⟩
    ord := ⟨f17, _, G17, g17, k17, b17⟩
    back := ⟨f18, _, G18.mono (by decide), g18, k18, b18⟩
    mt := m_tuple
    mr := m_range
    ml := m_len
    mso := m_sorted
    mmin := m_min }
  have CU : Cl l.prog w K mg base "_law_undone" 3 ["_law_hand_here", "_law_f", "_law_n"] (spUnd K) := ⟨f19, _, ok_und F19 C, g19, k19, b19⟩
  have CH : Cl l.prog w K mg base "_law_held_right" 3 ["_law_hand_here", "_law_f", "_law_n"] (spHr K) := ⟨f20, _, ok_hr F20 C, g20, k20, b20⟩
  exact ok_law F21 C CU CH
end K6
open PySem PySem.W PyProof.Rows
set_option maxRecDepth 100000 in
set_option maxHeartbeats 0 in
theorem PySem.Challenge.cw_signpoly_k06_whole_moves_undone_holds : PySem.Challenge.rw_signpoly_k06_whole_moves_undone.Holds := by
  w_on; o_law; k_head; (case hw => w_witness2)
  k_fill
  refine L2.walk_of (l := PySem.Challenge.rw_signpoly_k06_whole_moves_undone) (n := 63) (k := 4) (x := "_law_script") (CX := fun _ => L2.CX0) (sp := fun w => K6.spLaw _) rfl (by decide) rfl ⟨rfl, by decide, by decide⟩ (fun w h Y => PySem.W.kIn_of Y) ?F (fun _ _ a ns hl _ hS => ⟨a, ns, rfl, hS, hl, fun _ => rfl⟩) (fun _ _ _ _ _ h => h)
  case F =>
    intro w mg fa h KX G hmg
    refine' K6.all_mk KX G hmg ?aa ?lO ?oO ?a1 ?l1 ?c1 ?k1 ?a2 ?l2 ?c2 ?k2 ?a3 ?l3 ?c3 ?k3 ?a4 ?l4 ?c4 ?k4 ?a5 ?l5 ?c5 ?k5 ?a6 ?l6 ?c6 ?k6 ?a7 ?l7 ?c7 ?k7 ?a8 ?l8 ?c8 ?k8 ?a9 ?l9 ?c9 ?k9 ?a10 ?l10 ?c10 ?k10 ?a11 ?l11 ?c11 ?k11 ?a12 ?l12 ?c12 ?k12 ?a13 ?l13 ?c13 ?k13 ?a14 ?l14 ?c14 ?k14 ?a15 ?l15 ?c15 ?k15 ?a16 ?l16 ?c16 ?k16 ?a17 ?l17 ?c17 ?k17 ?a18 ?l18 ?c18 ?k18 ?a19 ?l19 ?c19 ?k19 ?a20 ?l20 ?c20 ?k20 ?a21 ?l21 ?c21 ?k21 ?z1 ?z2 ?z3 ?z4 ?z5 ?z6 ?z7 ?z8 ?z9
    (case aa => k_is); (case lO => k_is); (case oO => rfl)
    (case a1 => k_is)
    (case l1 => k_is)
    (case c1 => k_is)
    (case k1 => k_is)
    (case a2 => k_is)
    (case l2 => k_is)
    (case c2 => k_is)
    (case k2 => k_is)
    (case a3 => k_is)
    (case l3 => k_is)
    (case c3 => k_is)
    (case k3 => k_is)
    (case a4 => k_is)
    (case l4 => k_is)
    (case c4 => k_is)
    (case k4 => k_is)
    (case a5 => k_is)
    (case l5 => k_is)
    (case c5 => k_is)
    (case k5 => k_is)
    (case a6 => k_is)
    (case l6 => k_is)
    (case c6 => k_is)
    (case k6 => k_is)
    (case a7 => k_is)
    (case l7 => k_is)
    (case c7 => k_is)
    (case k7 => k_is)
    (case a8 => k_is)
    (case l8 => k_is)
    (case c8 => k_is)
    (case k8 => k_is)
    (case a9 => k_is)
    (case l9 => k_is)
    (case c9 => k_is)
    (case k9 => k_is)
    (case a10 => k_is)
    (case l10 => k_is)
    (case c10 => k_is)
    (case k10 => k_is)
    (case a11 => k_is)
    (case l11 => k_is)
    (case c11 => k_is)
    (case k11 => k_is)
    (case a12 => k_is)
    (case l12 => k_is)
    (case c12 => k_is)
    (case k12 => k_is)
    (case a13 => k_is)
    (case l13 => k_is)
    (case c13 => k_is)
    (case k13 => k_is)
    (case a14 => k_is)
    (case l14 => k_is)
    (case c14 => k_is)
    (case k14 => k_is)
    (case a15 => k_is)
    (case l15 => k_is)
    (case c15 => k_is)
    (case k15 => k_is)
    (case a16 => k_is)
    (case l16 => k_is)
    (case c16 => k_is)
    (case k16 => k_is)
    (case a17 => k_is)
    (case l17 => k_is)
    (case c17 => k_is)
    (case k17 => k_is)
    (case a18 => k_is)
    (case l18 => k_is)
    (case c18 => k_is)
    (case k18 => k_is)
    (case a19 => k_is)
    (case l19 => k_is)
    (case c19 => k_is)
    (case k19 => k_is)
    (case a20 => k_is)
    (case l20 => k_is)
    (case c20 => k_is)
    (case k20 => k_is)
    (case a21 => k_is)
    (case l21 => k_is)
    (case c21 => k_is)
    (case k21 => k_is)
    (case z1 => k_is)
    (case z2 => k_is)
    (case z3 => k_is)
    (case z4 => k_is)
    (case z5 => k_is)
    (case z6 => k_is)
    (case z7 => k_is)
    (case z8 => k_is)
    (case z9 => k_is)
