/-
  What the functions over data come to, plainly, and the statement of it. No conditions.
-/
import Derived.Test.YtjkiookhmmalkaaD
namespace Pq
open Go Rx

/-! ### words -/
section
variable {α : Type}
@[simp] theorem fI_cons (k : IntKind) (x : Int) (r : List Dat) (c : Int → List Dat → Option α) : fI k (.int k x :: r) c = c x r := by simp [fI]
@[simp] theorem fJ_cons (k : IntKind) (x : Int) (r : List Dat) (c : Int → List Dat → Option α) : fJ (.int k x :: r) c = c x r := rfl
@[simp] theorem fB_cons (x : Bool) (r : List Dat) (c : Bool → List Dat → Option α) : fB (.bool x :: r) c = c x r := rfl
@[simp] theorem fV_cons (x : List (List Dat)) (r : List Dat) (c : List (List Dat) → List Dat → Option α) : fV (.sl x :: r) c = c x r := rfl
@[simp] theorem outR_ret (l : List Dat) : outR (.ret l) = some l := rfl
@[simp] theorem agree_self (a : Option α) : agree a a = a := by simp [agree]
theorem agree_of {a b : Option α} (h : a = b) : agree a b = b := by simp [agree, h]
theorem agree_eq {a b x : Option α} (ha : a = x) (hb : b = x) : agree a b = x := by simp [agree, ha, hb]
@[simp] theorem nilK_cons (x : List Dat) (l : List (List Dat)) (a b : Option α) : nilK (x :: l) a b = b := by simp [nilK]
@[simp] theorem nilK_nil (a b : Option α) : nilK [] a b = agree a b := by simp [nilK]
theorem ixK_of {rows : List (List Dat)} {i : Int} {c : Option α} (h : 0 ≤ i ∧ i < rows.length) : ixK rows i c = c := if_pos h
theorem slK_of {sz : Nat} {rows : List (List Dat)} {a b : Int} {c : List (List Dat) → Option α} (h : 0 ≤ a ∧ a ≤ b ∧ b ≤ rows.length) (h2 : ∀ r ∈ rows, r.length = sz) : slK sz rows a b c = c ((rows.drop a.toNat).take (b - a).toNat) := if_pos ⟨h.1, h.2.1, h.2.2, h2⟩
theorem apK_of {fl : Bool} {sz : Nat} {rows news : List (List Dat)} {c : List (List Dat) → Option α} (h : ∀ r ∈ news, r.length = sz ∧ (fl = true → flatL r = true)) (h2 : rows.length + news.length ≤ 1000000) : apK fl sz rows news c = c (rows ++ news) := if_pos ⟨h, h2⟩
theorem mkK_of {n : Int} {z : List Dat} {c : List (List Dat) → Option α} (h : 0 ≤ n ∧ n ≤ 1000000) : mkK n z c = c (List.replicate n.toNat z) := if_pos h
theorem ldK_of {rows : List (List Dat)} {i sz off : Nat} {row : List Dat} {c : List Dat → Option α} (h : rows[i]? = some row) (h2 : row.length = sz) : ldK rows i sz off c = c (row.drop off) := by simp [ldK, h, h2]
theorem stK_of {rows : List (List Dat)} {i sz off : Nat} {row ds : List Dat} {c : List (List Dat) → Option α} (h : rows[i]? = some row) (h2 : off + ds.length ≤ sz) : stK rows i sz off ds c = c (rows.set i (row.take off ++ ds ++ row.drop (off + ds.length))) := by simp [stK, h, h2]
end

/-! ### numbers -/
theorem wrap_i64 {n : Int} (h : -9223372036854775808 ≤ n) (h2 : n < 9223372036854775808) : IntKind.i64.wrap n = n := by
  simp [IntKind.wrap, IntKind.bits, IntKind.signed]
  omega
theorem wrap_u64 {n : Int} (h : 0 ≤ n) (h2 : n < 18446744073709551616) : IntKind.u64.wrap n = n := by
  simp [IntKind.wrap, IntKind.bits, IntKind.signed]
  omega
theorem wrap_u64_eq (n : Int) : IntKind.u64.wrap n = n % 18446744073709551616 := by
  simp [IntKind.wrap, IntKind.bits, IntKind.signed]
theorem wrap_u64_rng (n : Int) : 0 ≤ IntKind.u64.wrap n ∧ IntKind.u64.wrap n < 18446744073709551616 := by
  rw [wrap_u64_eq]; omega
def U (n : Int) : Prop := 0 ≤ n ∧ n < 18446744073709551616
theorem U.wrap (n : Int) : U (IntKind.u64.wrap n) := wrap_u64_rng n

/-! ### what there is -/
structure Conf where
  W : Int
  D : Int
  I : Int
  Spin : Int
  deriving DecidableEq
structure Frame where
  Op : Int
  Pc : Int
  Who : Int
  Val : Int
  X : Int
  Y : Int
  Res : Int
  deriving DecidableEq
abbrev Mem := List Int
def memE (m : Mem) : List (List Dat) := m.map fun x => [.int .u64 x]
def intsE (l : List Int) : List (List Dat) := l.map fun x => [.int .i64 x]
@[simp] theorem memE_len (m : Mem) : (memE m).length = m.length := by simp [memE]
@[simp] theorem intsE_len (m : List Int) : (intsE m).length = m.length := by simp [intsE]
theorem memE_get {m : Mem} {i : Nat} {x : Int} (h : m[i]? = some x) : (memE m)[i]? = some [.int .u64 x] := by simp [memE, h]
theorem intsE_get {m : List Int} {i : Nat} {x : Int} (h : m[i]? = some x) : (intsE m)[i]? = some [.int .i64 x] := by simp [intsE, h]
theorem ix_mem {α : Type} {m : Mem} {i : Int} {c : Option α} (h : 0 ≤ i) (h2 : i < m.length) : ixK (memE m) i c = c := ixK_of ⟨h, by simpa using h2⟩
theorem ld_mem {α : Type} {m : Mem} {i : Nat} {x : Int} {c : List Dat → Option α} (h : m[i]? = some x) : ldK (memE m) i 1 0 c = c [.int .u64 x] := ldK_of (memE_get h) rfl
theorem st_mem {α : Type} {m : Mem} {i : Nat} {x v : Int} {c : List (List Dat) → Option α} (h : m[i]? = some x) : stK (memE m) i 1 0 [.int .u64 v] c = c (memE (m.set i v)) := by
  rw [stK_of (memE_get h) (by simp)]
  simp [memE, List.map_set]
theorem ix_ints {α : Type} {m : List Int} {i : Int} {c : Option α} (h : 0 ≤ i) (h2 : i < m.length) : ixK (intsE m) i c = c := ixK_of ⟨h, by simpa using h2⟩
theorem ld_ints {α : Type} {m : List Int} {i : Nat} {x : Int} {c : List Dat → Option α} (h : m[i]? = some x) : ldK (intsE m) i 1 0 c = c [.int .i64 x] := ldK_of (intsE_get h) rfl
theorem memE_set (m : Mem) (i : Nat) (x : Int) : (memE m).set i [.int .u64 x] = memE (m.set i x) := by simp [memE, List.map_set]
theorem memE_row {m : Mem} : ∀ r ∈ memE m, r.length = 1 ∧ (true = true → flatL r = true) := by
  intro r hr
  obtain ⟨x, _, rfl⟩ := List.mem_map.1 hr
  exact ⟨rfl, fun _ => rfl⟩
theorem intsE_row {m : List Int} : ∀ r ∈ intsE m, r.length = 1 ∧ (true = true → flatL r = true) := by
  intro r hr
  obtain ⟨x, _, rfl⟩ := List.mem_map.1 hr
  exact ⟨rfl, fun _ => rfl⟩
theorem intsE_row1 {m : List Int} : ∀ r ∈ intsE m, r.length = 1 := fun r hr => (intsE_row r hr).1

/-! ### clones -/
theorem clone_mem (m : Mem) (h : m.length ≤ 1000000) : slices_Clone_api_Mem_uint64 [.sl (memE m)] = some [.sl (memE m)] := by
  unfold slices_Clone_api_Mem_uint64
  cases m with
  | nil => simp [memE, apK]
  | cons x r => 
    have h0 := memE_row (m := x :: r)
    have h1 : (memE (x :: r)) = [.int .u64 x] :: memE r := rfl
    simp only [fV_cons]
    rw [h1, nilK_cons, ← h1, apK_of h0 (by simpa using h)]
    simp
theorem clone_ints (m : List Int) (h : m.length ≤ 1000000) : slices_Clone__int_int [.sl (intsE m)] = some [.sl (intsE m)] := by
  unfold slices_Clone__int_int
  cases m with
  | nil => simp [intsE, apK]
  | cons x r => 
    have h0 := intsE_row (m := x :: r)
    have h1 : (intsE (x :: r)) = [.int .i64 x] :: intsE r := rfl
    simp only [fV_cons]
    rw [h1, nilK_cons, ← h1, apK_of h0 (by simpa using h)]
    simp

/-! ### cells -/
def load (m : Mem) (i : Int) : Int := if 0 ≤ i then (m[i.toNat]?).getD 0 else 0
def store (m : Mem) (i v : Int) : Mem := if 0 ≤ i then m.set i.toNat v else m
def isCell (m : Mem) (i : Int) : Bool := decide (0 ≤ i) && decide (i < m.length)
def cas (m : Mem) (i old new : Int) : Mem × Bool := if isCell m i && (load m i == old) then (store m i new, true) else (m, false)
def add (m : Mem) (i by_ : Int) : Mem × Int := (store m i (IntKind.u64.wrap (load m i + by_)), load m i)

theorem cell_is_eq (m : Mem) (i : Int) : cell_is [.sl (memE m), .int .i64 i] = some [.bool (isCell m i)] := by
  unfold cell_is isCell
  by_cases h : 0 ≤ i <;> simp [h]
theorem isCell_spec {m : Mem} {i : Int} (h : isCell m i = true) : 0 ≤ i ∧ i < m.length ∧ m[i.toNat]? = some (load m i) := by
  simp only [isCell, Bool.and_eq_true, decide_eq_true_eq] at h
  have h3 : i.toNat < m.length := by omega
  refine ⟨h.1, h.2, ?_⟩
  simp [load, h.1, h3]
theorem isCell_no {m : Mem} {i : Int} (h : isCell m i = false) : load m i = 0 ∧ ∀ v, store m i v = m := by
  simp only [isCell, Bool.and_eq_false_iff, decide_eq_false_iff_not] at h
  by_cases h0 : 0 ≤ i
  · have h3 : m.length ≤ i.toNat := by omega
    refine ⟨by simp [load, h3], fun v => ?_⟩
    simp only [store, h0, if_true]
    exact List.set_eq_of_length_le h3
  · exact ⟨by simp [load, h0], fun v => by simp [store, h0]⟩
theorem cell_Load_eq (m : Mem) (i : Int) : cell_Load [.sl (memE m), .int .i64 i] = some [.int .u64 (load m i)] := by
  unfold cell_Load
  simp only [fV_cons, fI_cons, cell_is_eq, Option.bind_some, fB_cons]
  cases h : isCell m i
  · simp [(isCell_no h).1]
  · obtain ⟨h1, h2, h3⟩ := isCell_spec h
    simp only [Bool.not_true, cond_false, ix_mem h1 h2, ld_mem h3, fI_cons]
    simp
theorem cell_Store_eq (m : Mem) (i v : Int) (hm : m.length ≤ 1000000) : cell_Store [.sl (memE m), .int .i64 i, .int .u64 v] = some [.sl (memE (store m i v))] := by
  unfold cell_Store
  simp only [fV_cons, fI_cons, clone_mem m hm, cell_is_eq, Option.bind_some, fB_cons]
  cases h : isCell m i
  · simp [(isCell_no h).2]
  · obtain ⟨h1, h2, h3⟩ := isCell_spec h
    simp only [Bool.not_true, cond_false, ix_mem h1 h2, ld_mem h3, fI_cons, st_mem h3]
    simp [store, h1]
theorem set_load {m : Mem} {i : Int} (h : isCell m i = true) : m.set i.toNat (load m i) = m := by
  obtain ⟨h1, h2, h3⟩ := isCell_spec h
  have h4 : i.toNat < m.length := by omega
  have : load m i = m[i.toNat] := by rw [List.getElem?_eq_getElem h4] at h3; simpa using h3.symm
  rw [this, List.set_getElem_self]
theorem cell_Cas_eq (m : Mem) (i old new : Int) (hm : m.length ≤ 1000000) : cell_Cas [.sl (memE m), .int .i64 i, .int .u64 old, .int .u64 new] = some [.sl (memE (cas m i old new).1), .bool (cas m i old new).2] := by
  unfold cell_Cas
  simp only [fV_cons, fI_cons, clone_mem m hm, cell_is_eq, Option.bind_some, fB_cons]
  cases h : isCell m i
  · simp [cas, h]
  · obtain ⟨h1, h2, h3⟩ := isCell_spec h
    simp only [Bool.not_true, cond_false, ix_mem h1 h2, ld_mem h3, fI_cons, st_mem h3]
    by_cases ho : load m i = old
    · simp [cas, h, ho, store, h1]
    · have hb : (load m i != old) = true := by simp [ho]
      simp [cas, h, ho, set_load h, hb]
theorem cell_Add_eq (m : Mem) (i v : Int) (hm : m.length ≤ 1000000) : cell_Add [.sl (memE m), .int .i64 i, .int .u64 v] = some [.sl (memE (add m i v).1), .int .u64 (add m i v).2] := by
  unfold cell_Add
  simp only [fV_cons, fI_cons, clone_mem m hm, cell_is_eq, Option.bind_some, fB_cons]
  cases h : isCell m i
  · simp [add, (isCell_no h).1, (isCell_no h).2]
  · obtain ⟨h1, h2, h3⟩ := isCell_spec h
    simp only [Bool.not_true, cond_false, ix_mem h1 h2, ld_mem h3, fI_cons, st_mem h3]
    simp [store, h1, add]
end Pq

namespace Pq
open Go Rx

/-! ### layouts -/
def inn (n lo hi : Int) : Bool := decide (lo ≤ n) && decide (n ≤ hi)
theorem inn_iff {n lo hi : Int} : inn n lo hi = true ↔ lo ≤ n ∧ n ≤ hi := by simp [inn]
theorem lay_in_eq (n lo hi : Int) : lay_in [.int .i64 n, .int .i64 lo, .int .i64 hi] = some [.bool (inn n lo hi)] := by
  unfold lay_in inn
  by_cases h : lo ≤ n <;> simp [h]
def May (c : Conf) : Bool := inn c.W 1 8 && (inn c.D 1 16 && ((ibin .and .i64 c.D (IntKind.i64.wrap (c.D - 1)) == 0) && (inn c.I 1 16 && inn c.Spin 0 4)))
theorem lay_May_eq (w d i s : Int) : lay_May [.int .i64 w, .int .i64 d, .int .i64 i, .int .i64 s] = some [.bool (May ⟨w, d, i, s⟩)] := by
  unfold lay_May May
  simp only [fI_cons, lay_in_eq, Option.bind_some, fB_cons]
  cases inn w 1 8 <;> cases inn d 1 16 <;> cases (ibin .and .i64 d (IntKind.i64.wrap (d - 1)) == 0) <;> cases inn i 1 16 <;> cases inn s 0 4 <;> rfl
theorem May_spec {c : Conf} (h : May c = true) : (1 ≤ c.W ∧ c.W ≤ 8) ∧ (c.D = 1 ∨ c.D = 2 ∨ c.D = 4 ∨ c.D = 8 ∨ c.D = 16) ∧ (1 ≤ c.I ∧ c.I ≤ 16) ∧ 0 ≤ c.Spin ∧ c.Spin ≤ 4 := by
  obtain ⟨w, d, i, s⟩ := c
  simp only [May, Bool.and_eq_true, inn_iff] at h
  obtain ⟨h1, h2, h3, h4, h5⟩ := h
  refine ⟨h1, ?_, h4, h5⟩
  simp only at h2 h3 ⊢
  have : d = 1 ∨ d = 2 ∨ d = 3 ∨ d = 4 ∨ d = 5 ∨ d = 6 ∨ d = 7 ∨ d = 8 ∨ d = 9 ∨ d = 10 ∨ d = 11 ∨ d = 12 ∨ d = 13 ∨ d = 14 ∨ d = 15 ∨ d = 16 := by omega
  rcases this with rfl | rfl | rfl | rfl | rfl | rfl | rfl | rfl | rfl | rfl | rfl | rfl | rfl | rfl | rfl | rfl <;> first | omega | (exact absurd h3 (by decide))
/-- Where a worker's cells begin. -/
def base (c : Conf) (w : Int) : Int := 6 + 2 * c.I + w * (3 + c.D)
theorem base_rng {c : Conf} (h : May c = true) {w : Int} (hw : 0 ≤ w ∧ w ≤ 8) : 0 ≤ w * (3 + c.D) ∧ w * (3 + c.D) ≤ 152 := by
  obtain ⟨_, h2, _⟩ := May_spec h
  have : w = 0 ∨ w = 1 ∨ w = 2 ∨ w = 3 ∨ w = 4 ∨ w = 5 ∨ w = 6 ∨ w = 7 ∨ w = 8 := by omega
  rcases this with rfl | rfl | rfl | rfl | rfl | rfl | rfl | rfl | rfl <;> omega
theorem lay_base_eq (w d i s x : Int) (h : May ⟨w, d, i, s⟩ = true) (hx : 0 ≤ x ∧ x ≤ 8) :
    lay_base [.int .i64 w, .int .i64 d, .int .i64 i, .int .i64 s, .int .i64 x] = some [.int .i64 (base ⟨w, d, i, s⟩ x)] := by
  obtain ⟨h1, h2, h3, h4⟩ := May_spec h
  have h5 := base_rng h hx
  simp only at h1 h2 h3 h4 h5
  unfold lay_base base
  simp only [fI_cons]
  simp (disch := omega) only [wrap_i64]
  simp [Int.add_assoc]
def Size (c : Conf) : Int := if May c then base c c.W else 0
theorem lay_Size_eq (w d i s : Int) : lay_Size [.int .i64 w, .int .i64 d, .int .i64 i, .int .i64 s] = some [.int .i64 (Size ⟨w, d, i, s⟩)] := by
  unfold lay_Size Size
  simp only [fI_cons, lay_May_eq, Option.bind_some, fB_cons]
  cases h : May ⟨w, d, i, s⟩
  · simp
  · have := (May_spec h).1
    simp only at this
    simp only [Bool.not_true, cond_false, lay_base_eq w d i s w h ⟨by omega, by omega⟩, Option.bind_some, fI_cons]
    simp
theorem Size_rng (c : Conf) : 0 ≤ Size c ∧ Size c ≤ 190 := by
  unfold Size
  split
  · rename_i h
    obtain ⟨h1, h2, h3, h4⟩ := May_spec h
    have := base_rng h (w := c.W) ⟨by omega, by omega⟩
    unfold base
    omega
  · omega
/-- New cells. -/
def newMem (c : Conf) : Mem := List.replicate (Size c).toNat 0
theorem memE_snoc (n : Nat) : memE (List.replicate n 0) ++ [[.int .u64 0]] = memE (List.replicate (n + 1) 0) := by
  simp [memE, List.replicate_succ']
theorem lay_New_eq (w d i s : Int) : lay_New [.int .i64 w, .int .i64 d, .int .i64 i, .int .i64 s] = some [.sl (memE (newMem ⟨w, d, i, s⟩))] := by
  unfold lay_New newMem
  simp only [fI_cons, lay_Size_eq, Option.bind_some]
  have hr := Size_rng ⟨w, d, i, s⟩
  generalize Size ⟨w, d, i, s⟩ = n at hr
  have step : ∀ (k : Nat) (j : Nat), (j : Int) + k = n → (loopE 0 (fun ds => fV ds fun v0 ds => fJ ds fun i5 ds => 
      cond (decide ((i5 : Int) < n))
      (apK true 1 v0 [[.int .u64 0]] fun v1 =>
      some (.cont 0 [.sl v1, .int .i64 (IntKind.i64.wrap (i5 + 1))]))
      (some (.ret [.sl v0])))
      [.sl (memE (List.replicate j 0)), .int .i64 j]) = some (.ret [.sl (memE (List.replicate n.toNat 0))]) := by
    intro k
    induction k with
    | zero =>
      intro j hj
      have h1 : ¬ ((j : Int) < n) := by omega
      refine loopE_ret ?_
      have h2 : n.toNat = j := by omega
      simp [h1, h2]
    | succ k ih =>
      intro j hj
      have h1 : ((j : Int) < n) := by omega
      rw [loopE_next (vs := [.sl (memE (List.replicate (j + 1) 0)), .int .i64 ((j + 1 : Nat) : Int)])]
      · exact ih (j + 1) (by omega)
      · simp only [fV_cons, fJ_cons, h1, decide_true, cond_true]
        rw [apK_of (by intro r hr; simp at hr; subst hr; exact ⟨rfl, fun _ => rfl⟩) (by simp; omega), memE_snoc, wrap_i64 (by omega) (by omega)]
        rfl
  have := step n.toNat 0 (by omega)
  simp only [List.replicate_zero] at this
  have h0 : (memE []) = [] := rfl
  rw [h0] at this
  rw [show ((0 : Nat) : Int) = 0 from rfl] at this
  rw [this]
  rfl
def Park (c : Conf) (x : Int) : Int := if May c && inn x 0 (c.W - 1) then base c x + 2 else -1
theorem lay_Park_eq (w d i s x : Int) : lay_Park [.int .i64 w, .int .i64 d, .int .i64 i, .int .i64 s, .int .i64 x] = some [.int .i64 (Park ⟨w, d, i, s⟩ x)] := by
  unfold lay_Park Park
  simp only [fI_cons, lay_May_eq, Option.bind_some, fB_cons]
  cases h : May ⟨w, d, i, s⟩
  · simp
  · obtain ⟨h1, h2, h3, h4⟩ := May_spec h
    simp only at h1 h2 h3 h4
    simp only [Bool.not_true, cond_false, lay_in_eq, Option.bind_some, fB_cons, wrap_i64 (n := w - 1) (by omega) (by omega)]
    cases hx : inn x 0 (w - 1)
    · simp
    · have hx := inn_iff.1 hx
      have h5 := base_rng h (w := x) ⟨by omega, by omega⟩
      have h6 : 0 ≤ base ⟨w, d, i, s⟩ x ∧ base ⟨w, d, i, s⟩ x ≤ 200 := by
        unfold base
        simp only at h5 ⊢
        omega
      simp only [Bool.not_true, cond_false, lay_base_eq w d i s x h ⟨by omega, by omega⟩, Option.bind_some, fI_cons, wrap_i64 (n := base ⟨w, d, i, s⟩ x + 2) (by omega) (by omega)]
      simp
def Seq (c : Conf) (x : Int) : Int := if May c then 6 + Int.tmod x c.I else -1
def Val (c : Conf) (x : Int) : Int := if May c then 6 + c.I + Int.tmod x c.I else -1
theorem tmod_rng (x : Int) {n : Int} (h : 1 ≤ n ∧ n ≤ 16) : -16 < Int.tmod x n ∧ Int.tmod x n < 16 := by
  have h1 := Int.tmod_lt_of_pos x (b := n) (by omega)
  have h2 := Int.lt_tmod_of_pos x (b := n) (by omega)
  omega
theorem lay_Seq_eq (w d i s x : Int) : lay_Seq [.int .i64 w, .int .i64 d, .int .i64 i, .int .i64 s, .int .u64 x] = some [.int .i64 (Seq ⟨w, d, i, s⟩ x)] := by
  unfold lay_Seq Seq
  simp only [fI_cons, lay_May_eq, Option.bind_some, fB_cons]
  cases h : May ⟨w, d, i, s⟩
  · simp
  · obtain ⟨h1, h2, h3, h4⟩ := May_spec h
    simp only at h1 h2 h3 h4
    have h5 := tmod_rng x h3
    have h6 : inn 0 0 (w - 1) = true := inn_iff.2 (by omega)
    have h7 : (i != 0) = true := by simp; omega
    simp only [Bool.not_true, cond_false, lay_in_eq, Option.bind_some, fB_cons, wrap_i64 (n := w - 1) (by omega) (by omega), h6, wrap_u64 (n := i) (by omega) (by omega), h7, cond_true]
    simp (disch := omega) only [wrap_i64]
    simp
theorem lay_Val_eq (w d i s x : Int) : lay_Val [.int .i64 w, .int .i64 d, .int .i64 i, .int .i64 s, .int .u64 x] = some [.int .i64 (Val ⟨w, d, i, s⟩ x)] := by
  unfold lay_Val Val
  simp only [fI_cons, lay_May_eq, Option.bind_some, fB_cons]
  cases h : May ⟨w, d, i, s⟩
  · simp
  · obtain ⟨h1, h2, h3, h4⟩ := May_spec h
    simp only at h1 h2 h3 h4
    have h5 := tmod_rng x h3
    have h6 : inn 0 0 (w - 1) = true := inn_iff.2 (by omega)
    have h7 : (i != 0) = true := by simp; omega
    simp only [Bool.not_true, cond_false, lay_in_eq, Option.bind_some, fB_cons, wrap_i64 (n := w - 1) (by omega) (by omega), h6, wrap_u64 (n := i) (by omega) (by omega), h7, cond_true]
    simp (disch := omega) only [wrap_i64]
    simp

/-! ### frames -/
def Begin (op who val : Int) : Frame := ⟨op, 0, who, val, 0, 0, 0⟩
def End (f : Frame) (res val : Int) : Frame := ⟨f.Op, 0, f.Who, val, 0, 0, res⟩
def Over (f : Frame) : Bool := f.Res != 0
theorem frame_Begin_eq (a b c : Int) : frame_Begin [.int .i64 a, .int .i64 b, .int .u64 c] = some [.int .i64 a, .int .i64 0, .int .i64 b, .int .u64 c, .int .u64 0, .int .u64 0, .int .i64 0] := by
  simp [frame_Begin]
theorem frame_End_eq (a b c d e f g h i : Int) : frame_End [.int .i64 a, .int .i64 b, .int .i64 c, .int .u64 d, .int .u64 e, .int .u64 f, .int .i64 g, .int .i64 h, .int .u64 i] =
    some [.int .i64 a, .int .i64 0, .int .i64 c, .int .u64 i, .int .u64 0, .int .u64 0, .int .i64 h] := by
  simp [frame_End]
theorem frame_Over_eq (a b c d e f g : Int) : frame_Over [.int .i64 a, .int .i64 b, .int .i64 c, .int .u64 d, .int .u64 e, .int .u64 f, .int .i64 g] = some [.bool (g != 0)] := by
  simp [frame_Over]

/-! ### words -/
def Epoch (e : Int) : Int := ibin .shr .u64 e 16
def Mask (e : Int) : Int := ibin .and .u64 e 65535
def Pack (e m : Int) : Int := ibin .or .u64 (ibin .shl .u64 e 16) (ibin .and .u64 m 65535)
def setBit (e w : Int) : Int := if w < 0 ∨ 16 ≤ w then e else ibin .or .u64 e (ibin .shl .u64 1 w)
theorem word_Epoch_eq (e : Int) : word_Epoch [.int .u64 e] = some [.int .u64 (Epoch e)] := by simp [word_Epoch, Epoch]
theorem word_Mask_eq (e : Int) : word_Mask [.int .u64 e] = some [.int .u64 (Mask e)] := by simp [word_Mask, Mask]
theorem word_Pack_eq (e m : Int) : word_Pack [.int .u64 e, .int .u64 m] = some [.int .u64 (Pack e m)] := by simp [word_Pack, Pack]
theorem word_Set_eq (e w : Int) : word_Set [.int .u64 e, .int .i64 w] = some [.int .u64 (setBit e w)] := by
  unfold word_Set setBit
  simp only [fI_cons]
  by_cases h1 : w < 0
  · simp [h1]
  · by_cases h2 : 16 ≤ w
    · simp [h1, h2]
    · have h3 : 0 ≤ w := by omega
      simp [h1, h2, h3]
def bitAt (e w : Int) : Bool := ibin .and .u64 (ibin .shr .u64 e w) 1 == 1
/-- The lowest bit, from one on. -/
def lowFrom (e : Int) : Nat → Int → Int
  | 0, _ => -1
  | n + 1, w => if bitAt e w then w else lowFrom e n (w + 1)
def Lowest (e : Int) : Int := lowFrom e 16 0
theorem word_Lowest_eq (e : Int) : word_Lowest [.int .u64 e] = some [.int .i64 (Lowest e)] := by
  unfold word_Lowest Lowest
  simp only [fI_cons]
  have step : ∀ (n : Nat) (w : Int), 0 ≤ w → w + n = 16 → loopE 0 (fun ds => fJ ds fun i1 ds => 
      cond (decide ((i1 : Int) < 16))
      (cond (decide ((i1 : Int) ≥ 0)) (cond (((ibin .and .u64 (ibin .shr .u64 e i1) 1) : Int) == 1)
      (some (.ret [.int .i64 i1]))
      (some (.cont 0 [.int .i64 (IntKind.i64.wrap (i1 + 1))]))) none)
      (some (.ret [.int .i64 (-1)])))
      [.int .i64 w] = some (.ret [.int .i64 (lowFrom e n w)]) := by
    intro n
    induction n with
    | zero =>
      intro w hw hn
      refine loopE_ret ?_
      have : ¬ (w < 16) := by omega
      simp [this, lowFrom]
    | succ n ih =>
      intro w hw hn
      have h1 : w < 16 := by omega
      cases hb : bitAt e w
      · rw [loopE_next (vs := [.int .i64 (w + 1)])]
        · rw [ih (w + 1) (by omega) (by omega)]
          simp [lowFrom, hb]
        · unfold bitAt at hb
          simp [h1, hw, hb, wrap_i64 (n := w + 1) (by omega) (by omega)]
      · refine loopE_ret ?_
        unfold bitAt at hb
        simp [h1, hw, hb, lowFrom, bitAt]
  rw [step 16 0 (by omega) (by omega)]
  rfl
def Bump (e : Int) : Int × Int := (Pack (IntKind.u64.wrap (Epoch e + 1)) (ibin .and .u64 (Mask e) (IntKind.u64.wrap (Mask e - 1))), Lowest (Mask e))
theorem word_Bump_eq (e : Int) : word_Bump [.int .u64 e] = some [.int .u64 (Bump e).1, .int .i64 (Bump e).2] := by
  unfold word_Bump Bump
  simp [word_Mask_eq, word_Epoch_eq, word_Pack_eq, word_Lowest_eq]
def Wipe (e : Int) : Int := Pack (IntKind.u64.wrap (Epoch e + 1)) 0
theorem word_Wipe_eq (e : Int) : word_Wipe [.int .u64 e] = some [.int .u64 (Wipe e)] := by
  unfold word_Wipe Wipe
  simp [word_Epoch_eq, word_Pack_eq]
def Far (a b : Int) : Int := IntKind.i64.wrap (IntKind.u64.wrap (a - b))
theorem word_Far_eq (a b : Int) : word_Far [.int .u64 a, .int .u64 b] = some [.int .i64 (Far a b)] := by simp [word_Far, Far]
end Pq

namespace Pq
open Go Rx
@[simp] theorem and_ret (b y : Bool) : cond b (some (Out.ret [.bool y])) (some (Out.ret [.bool false])) = some (Out.ret [.bool (b && y)]) := by cases b <;> rfl
@[simp] theorem or_ret (b y : Bool) : cond b (some (Out.ret [.bool true])) (some (Out.ret [.bool y])) = some (Out.ret [.bool (b || y)]) := by cases b <;> rfl
def Frame.e (f : Frame) : List Dat := [.int .i64 f.Op, .int .i64 f.Pc, .int .i64 f.Who, .int .u64 f.Val, .int .u64 f.X, .int .u64 f.Y, .int .i64 f.Res]

/-! ### waiting -/
def fits (c : Conf) (m : Mem) : Bool := May c && ((m.length : Int) == Size c)
def goesP (c : Conf) (m : Mem) (f : Frame) (op pcs : Int) : Bool :=
  May c && (((m.length : Int) == Size c) && (!Over f && (decide (f.Who ≥ 0) && (decide (f.Who < c.W) && ((f.Op == op) && (decide (f.Pc ≥ 0) && decide (f.Pc < pcs)))))))
theorem push_Goes_eq (w d i s : Int) (m : Mem) (a b c d' e f g op pcs : Int) :
    push_Goes [.int .i64 w, .int .i64 d, .int .i64 i, .int .i64 s, .sl (memE m), .int .i64 a, .int .i64 b, .int .i64 c, .int .u64 d', .int .u64 e, .int .u64 f, .int .i64 g, .int .i64 op, .int .i64 pcs] =
      some [.bool (goesP ⟨w, d, i, s⟩ m ⟨a, b, c, d', e, f, g⟩ op pcs)] := by
  unfold push_Goes goesP
  simp only [fI_cons, fV_cons, lay_May_eq, lay_Size_eq, frame_Over_eq, Option.bind_some, fB_cons, memE_len, and_ret, outR_ret, Over]
def waitStep (c : Conf) (m : Mem) (f : Frame) : Mem × Frame :=
  if goesP c m f 5 5 then
    if f.Pc = 0 then (m, { f with X := load m 2, Pc := 1 })
    else if f.Pc = 1 then (if Epoch (load m 2) = Epoch f.X then (m, { f with Pc := 2, Y := load m 2 }) else (m, End f 4 0))
    else if f.Pc = 2 then ((cas m 2 f.Y (setBit f.Y f.Who)).1, { f with Pc := if (cas m 2 f.Y (setBit f.Y f.Who)).2 then 3 else 1 })
    else if f.Pc = 3 then (m, { f with Pc := if load m (Park c f.Who) = 0 then 3 else 4, Y := load m (Park c f.Who) })
    else (store m (Park c f.Who) 0, End f 1 0)
  else (m, f)
theorem store_len (m : Mem) (i v : Int) : (store m i v).length = m.length := by unfold store; split <;> simp
theorem cas_len (m : Mem) (i a b : Int) : (cas m i a b).1.length = m.length := by unfold cas; split <;> simp [store_len]
theorem add_len (m : Mem) (i a : Int) : (add m i a).1.length = m.length := by simp [add, store_len]
theorem wait_Step_eq (w d i s : Int) (m : Mem) (hm : m.length ≤ 1000000) (a b c d' e f g : Int) :
    wait_Step [.int .i64 w, .int .i64 d, .int .i64 i, .int .i64 s, .sl (memE m), .int .i64 a, .int .i64 b, .int .i64 c, .int .u64 d', .int .u64 e, .int .u64 f, .int .i64 g] =
      some (.sl (memE (waitStep ⟨w, d, i, s⟩ m ⟨a, b, c, d', e, f, g⟩).1) :: (waitStep ⟨w, d, i, s⟩ m ⟨a, b, c, d', e, f, g⟩).2.e) := by
  unfold wait_Step waitStep
  simp only [fI_cons, fV_cons, clone_mem m hm, push_Goes_eq, Option.bind_some, fB_cons]
  cases hG : goesP ⟨w, d, i, s⟩ m ⟨a, b, c, d', e, f, g⟩ 5 5
  · simp [Frame.e]
  · have hp : 0 ≤ b ∧ b < 5 := by
      simp only [goesP, Bool.and_eq_true, decide_eq_true_eq] at hG
      omega
    have hb : b = 0 ∨ b = 1 ∨ b = 2 ∨ b = 3 ∨ b = 4 := by omega
    rcases hb with rfl | rfl | rfl | rfl | rfl
    · simp [cell_Load_eq, Frame.e]
    · by_cases h : Epoch (load m 2) = Epoch e
      · simp [cell_Load_eq, word_Epoch_eq, frame_End_eq, Frame.e, h]
      · have hb : (Epoch (load m 2) != Epoch e) = true := by simp [h]
        simp [cell_Load_eq, word_Epoch_eq, frame_End_eq, Frame.e, End, h, hb]
    · cases h : (cas m 2 f (setBit f c)).2 <;> simp [word_Set_eq, cell_Cas_eq m _ _ _ hm, Frame.e, h]
    · by_cases h : load m (Park ⟨w, d, i, s⟩ c) = 0
      · simp [cell_Load_eq, lay_Park_eq, Frame.e, h]
      · have hb : (load m (Park ⟨w, d, i, s⟩ c) != 0) = true := by simp [h]
        simp [cell_Load_eq, lay_Park_eq, Frame.e, h, hb]
    · simp [cell_Store_eq m _ _ hm, lay_Park_eq, Frame.e, frame_End_eq, End]
end Pq

namespace Pq
open Go Rx
theorem loop_once {lv : Nat} {body : List Dat → Option Out} {s s' : List Dat} {o : List Dat} (h0 : body s = some (.cont lv s')) (h1 : body s' = some (.ret o)) : loopE lv body s = some (.ret o) := by
  rw [loopE_next h0, loopE_ret h1]

/-! ### waking -/
def noteGoes (c : Conf) (m : Mem) (f : Frame) : Bool := ((f.Op == 6) || (f.Op == 7)) && (May c && (((m.length : Int) == Size c) && (!Over f && (decide (f.Pc ≥ 0) && decide (f.Pc ≤ 2)))))
theorem note_Goes_eq (w d i s : Int) (m : Mem) (a b c d' e f g : Int) :
    note_Goes [.int .i64 w, .int .i64 d, .int .i64 i, .int .i64 s, .sl (memE m), .int .i64 a, .int .i64 b, .int .i64 c, .int .u64 d', .int .u64 e, .int .u64 f, .int .i64 g] =
      some [.bool (noteGoes ⟨w, d, i, s⟩ m ⟨a, b, c, d', e, f, g⟩)] := by
  unfold note_Goes noteGoes
  simp only [fI_cons, fV_cons, lay_May_eq, lay_Size_eq, frame_Over_eq, Option.bind_some, fB_cons, memE_len, and_ret, Over]
  cases h1 : (a == 6) <;> cases h2 : (a == 7) <;> simp
def noteY (x : Int) : Int := if (Bump x).2 < 0 then 0 else IntKind.u64.wrap (Bump x).2
theorem note_kinds_1_eq (x : Int) : note_kinds_1 [.int .u64 x] = some [.int .u64 (Bump x).1, .int .u64 (noteY x)] := by
  unfold note_kinds_1 noteY
  by_cases h : (Bump x).2 < 0 <;> simp [word_Bump_eq, h]
theorem note_kinds_2_eq (x : Int) : note_kinds_2 [.int .u64 x] = some [.int .u64 (Wipe x), .int .u64 (Mask x)] := by
  unfold note_kinds_2
  simp [word_Wipe_eq, word_Mask_eq]
def less1 (y : Int) : Int := ibin .and .u64 y (IntKind.u64.wrap (y - 1))
def noteStep (c : Conf) (m : Mem) (f : Frame) : Mem × Frame :=
  if noteGoes c m f then
    if f.Pc = 0 then (m, { f with X := load m 2, Pc := 1 })
    else if f.Pc = 1 then
      ((cas m 2 f.X (if f.Op = 6 then (Bump f.X).1 else Wipe f.X)).1,
        if (cas m 2 f.X (if f.Op = 6 then (Bump f.X).1 else Wipe f.X)).2 then
          if Mask f.X = 0 then End f 3 0 else { f with Pc := 2, Y := if f.Op = 6 then noteY f.X else Mask f.X }
        else { f with Pc := 0 })
    else if f.Op = 6 then (store m (Park c (if f.Y < 8 then IntKind.i64.wrap f.Y else -1)) 1, End f 1 f.Y)
    else (store m (Park c (Lowest f.Y)) 1, if less1 (Mask f.Y) = 0 ∨ Mask f.Y = 0 then End f 1 (Mask f.X) else { f with Y := less1 (Mask f.Y) })
  else (m, f)
theorem note_Step_eq (w d i s : Int) (m : Mem) (hm : m.length ≤ 1000000) (a b c d' e f g : Int) :
    note_Step [.int .i64 w, .int .i64 d, .int .i64 i, .int .i64 s, .sl (memE m), .int .i64 a, .int .i64 b, .int .i64 c, .int .u64 d', .int .u64 e, .int .u64 f, .int .i64 g] =
      some (.sl (memE (noteStep ⟨w, d, i, s⟩ m ⟨a, b, c, d', e, f, g⟩).1) :: (noteStep ⟨w, d, i, s⟩ m ⟨a, b, c, d', e, f, g⟩).2.e) := by
  unfold note_Step noteStep
  simp only [fI_cons, fV_cons, clone_mem m hm, note_Goes_eq, Option.bind_some, fB_cons]
  cases hG : noteGoes ⟨w, d, i, s⟩ m ⟨a, b, c, d', e, f, g⟩
  · simp [Frame.e]
  · have hp : (a = 6 ∨ a = 7) ∧ 0 ≤ b ∧ b ≤ 2 := by
      simp only [noteGoes, Bool.and_eq_true, Bool.or_eq_true, beq_iff_eq, decide_eq_true_eq] at hG
      omega
    have hb : b = 0 ∨ b = 1 ∨ b = 2 := by omega
    rcases hb with rfl | rfl | rfl
    · simp [cell_Load_eq, Frame.e]
    · rcases hp.1 with rfl | rfl
      · cases h : (cas m 2 e (Bump e).1).2
        · simp [note_kinds_1_eq, cell_Cas_eq m _ _ _ hm, Frame.e, h]
        · by_cases h2 : Mask e = 0
          · simp [note_kinds_1_eq, cell_Cas_eq m _ _ _ hm, Frame.e, h, h2, word_Mask_eq, frame_End_eq, End]
          · have h2b : (Mask e == 0) = false := by simp [h2]
            simp [note_kinds_1_eq, cell_Cas_eq m _ _ _ hm, Frame.e, h, h2, h2b, word_Mask_eq]
      · cases h : (cas m 2 e (Wipe e)).2
        · simp [note_kinds_2_eq, cell_Cas_eq m _ _ _ hm, Frame.e, h]
        · by_cases h2 : Mask e = 0
          · simp [note_kinds_2_eq, cell_Cas_eq m _ _ _ hm, Frame.e, h, h2, word_Mask_eq, frame_End_eq, End]
          · have h2b : (Mask e == 0) = false := by simp [h2]
            simp [note_kinds_2_eq, cell_Cas_eq m _ _ _ hm, Frame.e, h, h2, h2b, word_Mask_eq]
    · rcases hp.1 with rfl | rfl
      · by_cases h8 : f < 8
        · simp only [Bool.not_true, cond_false, show ((2 : Int) == 0) = false from rfl, show ((2 : Int) == 1) = false from rfl, show ((6 : Int) == 6) = true from rfl, cond_true, h8, decide_true]
          rw [loop_once (s' := [.sl (memE (store m (Park ⟨w, d, i, s⟩ (IntKind.i64.wrap f)) 1)), .int .i64 1])
            (o := .sl (memE (store m (Park ⟨w, d, i, s⟩ (IntKind.i64.wrap f)) 1)) :: (End ⟨6, 2, c, d', e, f, g⟩ 1 f).e)]
          · simp
          · simp [lay_Park_eq, cell_Store_eq m _ _ hm]
            rfl
          · simp [frame_End_eq, End, Frame.e]
        · simp only [Bool.not_true, cond_false, show ((2 : Int) == 0) = false from rfl, show ((2 : Int) == 1) = false from rfl, show ((6 : Int) == 6) = true from rfl, cond_true, h8, decide_false]
          rw [loop_once (s' := [.sl (memE (store m (Park ⟨w, d, i, s⟩ (-1)) 1)), .int .i64 1])
            (o := .sl (memE (store m (Park ⟨w, d, i, s⟩ (-1)) 1)) :: (End ⟨6, 2, c, d', e, f, g⟩ 1 f).e)]
          · simp
          · simp [lay_Park_eq, cell_Store_eq m _ _ hm]
            rfl
          · simp [frame_End_eq, End, Frame.e]
      · simp only [Bool.not_true, cond_false, show ((2 : Int) == 0) = false from rfl, show ((2 : Int) == 1) = false from rfl, show ((7 : Int) == 6) = false from rfl, word_Lowest_eq, Option.bind_some, fI_cons]
        rw [loop_once (s' := [.sl (memE (store m (Park ⟨w, d, i, s⟩ (Lowest f)) 1)), .int .i64 1])
            (o := .sl (memE (store m (Park ⟨w, d, i, s⟩ (Lowest f)) 1)) :: (if less1 (Mask f) = 0 ∨ Mask f = 0 then End ⟨7, 2, c, d', e, f, g⟩ 1 (Mask e) else ⟨7, 2, c, d', e, less1 (Mask f), g⟩ : Frame).e)]
        · simp
        · simp [lay_Park_eq, cell_Store_eq m _ _ hm]
          rfl
        · by_cases h1 : less1 (Mask f) = 0
          · have h1' := h1
            unfold less1 at h1'
            simp [frame_End_eq, End, Frame.e, word_Mask_eq, h1, h1']
          · have h1' := h1
            unfold less1 at h1'
            have hb1 : (ibin .and .u64 (Mask f) (IntKind.u64.wrap (Mask f - 1)) == 0) = false := by simpa using h1'
            by_cases h2 : Mask f = 0
            · exfalso
              rw [h2] at h1'
              exact h1' (by decide)
            · have hb2 : (Mask f == 0) = false := by simpa using h2
              simp [Frame.e, word_Mask_eq, h1, h2, hb1, hb2]
              rfl
def eventStep (c : Conf) (m : Mem) (f : Frame) : Mem × Frame :=
  if f.Op = 5 then waitStep c m f else if f.Op = 6 ∨ f.Op = 7 then noteStep c m f else (m, f)
theorem event_Step_eq (w d i s : Int) (m : Mem) (hm : m.length ≤ 1000000) (a b c d' e f g : Int) :
    event_Step [.int .i64 w, .int .i64 d, .int .i64 i, .int .i64 s, .sl (memE m), .int .i64 a, .int .i64 b, .int .i64 c, .int .u64 d', .int .u64 e, .int .u64 f, .int .i64 g] =
      some (.sl (memE (eventStep ⟨w, d, i, s⟩ m ⟨a, b, c, d', e, f, g⟩).1) :: (eventStep ⟨w, d, i, s⟩ m ⟨a, b, c, d', e, f, g⟩).2.e) := by
  unfold event_Step eventStep
  simp only [fI_cons, fV_cons, wait_Step_eq w d i s m hm, note_Step_eq w d i s m hm, clone_mem m hm, Option.bind_some, Frame.e]
  by_cases h1 : a = 5
  · simp [h1]
  · have h1b : (a == 5) = false := by simp [h1]
    by_cases h2 : a = 6
    · simp [h2]
    · have h2b : (a == 6) = false := by simp [h2]
      by_cases h3 : a = 7
      · simp [h3]
      · have h3b : (a == 7) = false := by simp [h3]
        simp [h1, h2, h3, h1b, h2b, h3b]

/-! ### the injector -/
theorem enq_fits_eq (w d i s : Int) (m : Mem) : enq_fits [.int .i64 w, .int .i64 d, .int .i64 i, .int .i64 s, .sl (memE m)] = some [.bool (fits ⟨w, d, i, s⟩ m)] := by
  unfold enq_fits fits
  simp only [fI_cons, fV_cons, lay_May_eq, lay_Size_eq, Option.bind_some, fB_cons, memE_len, and_ret, outR_ret]
def goesE (c : Conf) (m : Mem) (f : Frame) (op : Int) : Bool := fits c m && (!Over f && ((f.Op == op) && (decide (f.Pc ≥ 0) && decide (f.Pc < 5))))
theorem enq_Goes_eq (w d i s : Int) (m : Mem) (a b c d' e f g op : Int) :
    enq_Goes [.int .i64 w, .int .i64 d, .int .i64 i, .int .i64 s, .sl (memE m), .int .i64 a, .int .i64 b, .int .i64 c, .int .u64 d', .int .u64 e, .int .u64 f, .int .i64 g, .int .i64 op] =
      some [.bool (goesE ⟨w, d, i, s⟩ m ⟨a, b, c, d', e, f, g⟩ op)] := by
  unfold enq_Goes goesE
  simp only [fI_cons, fV_cons, enq_fits_eq, frame_Over_eq, Option.bind_some, fB_cons, and_ret, outR_ret, Over]
/-- The sequence of a slot that is free for a place. -/
def free (c : Conf) (x : Int) : Int := IntKind.u64.wrap (IntKind.u64.wrap (Int.tdiv x c.I) * 2)
def enqStep (c : Conf) (m : Mem) (f : Frame) : Mem × Frame :=
  if goesE c m f 3 then
    if f.Pc = 0 then (m, { f with X := load m 5, Pc := 1 })
    else if f.Pc = 1 then
      (m, if load m (Seq c f.X) = free c f.X then { f with Pc := 2, Y := load m (Seq c f.X) }
        else if Far (load m (Seq c f.X)) (free c f.X) < 0 then End f 2 f.Val else { f with Pc := 0, Y := load m (Seq c f.X) })
    else if f.Pc = 2 then ((cas m 5 f.X (IntKind.u64.wrap (f.X + 1))).1, { f with Pc := if (cas m 5 f.X (IntKind.u64.wrap (f.X + 1))).2 then 3 else 0 })
    else if f.Pc = 3 then (store m (Val c f.X) f.Val, { f with Pc := 4 })
    else (store m (Seq c f.X) (IntKind.u64.wrap (free c f.X + 1)), End f 1 f.Val)
  else (m, f)
theorem enq_Step_eq (w d i s : Int) (m : Mem) (hm : m.length ≤ 1000000) (a b c d' e f g : Int) :
    enq_Step [.int .i64 w, .int .i64 d, .int .i64 i, .int .i64 s, .sl (memE m), .int .i64 a, .int .i64 b, .int .i64 c, .int .u64 d', .int .u64 e, .int .u64 f, .int .i64 g] =
      some (.sl (memE (enqStep ⟨w, d, i, s⟩ m ⟨a, b, c, d', e, f, g⟩).1) :: (enqStep ⟨w, d, i, s⟩ m ⟨a, b, c, d', e, f, g⟩).2.e) := by
  unfold enq_Step enqStep
  simp only [fI_cons, fV_cons, clone_mem m hm, enq_Goes_eq, Option.bind_some, fB_cons]
  cases hG : goesE ⟨w, d, i, s⟩ m ⟨a, b, c, d', e, f, g⟩ 3
  · simp [Frame.e]
  · have hp : May ⟨w, d, i, s⟩ = true ∧ 0 ≤ b ∧ b < 5 := by
      simp only [goesE, fits, Bool.and_eq_true, decide_eq_true_eq] at hG
      refine ⟨hG.1.1, by omega⟩
    obtain ⟨h1, h2, h3, h4⟩ := May_spec hp.1
    simp only at h3
    have hi : IntKind.u64.wrap i = i := wrap_u64 (by omega) (by omega)
    have hib : (i != 0) = true := by simp; omega
    have hb : b = 0 ∨ b = 1 ∨ b = 2 ∨ b = 3 ∨ b = 4 := by omega
    rcases hb with rfl | rfl | rfl | rfl | rfl
    · simp [cell_Load_eq, Frame.e]
    · by_cases h : load m (Seq ⟨w, d, i, s⟩ e) = free ⟨w, d, i, s⟩ e
      · have h' := h
        unfold free at h'
        simp only at h'
        simp [cell_Load_eq, lay_Seq_eq, hi, hib, Frame.e, free, h']
      · have h' := h
        unfold free at h'
        simp only at h'
        have hb : (load m (Seq ⟨w, d, i, s⟩ e) == IntKind.u64.wrap (IntKind.u64.wrap (Int.tdiv e i) * 2)) = false := by simpa using h'
        have hfar : Far (load m (Seq ⟨w, d, i, s⟩ e)) (free ⟨w, d, i, s⟩ e) = Far (load m (Seq ⟨w, d, i, s⟩ e)) (IntKind.u64.wrap (IntKind.u64.wrap (Int.tdiv e i) * 2)) := rfl
        by_cases h5 : Far (load m (Seq ⟨w, d, i, s⟩ e)) (IntKind.u64.wrap (IntKind.u64.wrap (Int.tdiv e i) * 2)) < 0
        · simp [cell_Load_eq, lay_Seq_eq, hi, hib, Frame.e, h, hb, hfar, h5, word_Far_eq, frame_End_eq, End]
        · simp [cell_Load_eq, lay_Seq_eq, hi, hib, Frame.e, h, hb, hfar, h5, word_Far_eq]
    · cases h : (cas m 5 e (IntKind.u64.wrap (e + 1))).2 <;> simp [cell_Cas_eq m _ _ _ hm, Frame.e, h]
    · simp [cell_Store_eq m _ _ hm, lay_Val_eq, Frame.e]
    · simp [cell_Store_eq m _ _ hm, lay_Seq_eq, Frame.e, frame_End_eq, End, hi, hib, free]
/-- The sequence of a slot that has a place's number. -/
def full (c : Conf) (x : Int) : Int := IntKind.u64.wrap (free c x + 1)
theorem deq_full_eq (w d i s x : Int) (h : May ⟨w, d, i, s⟩ = true) : deq_full [.int .i64 w, .int .i64 d, .int .i64 i, .int .i64 s, .int .u64 x] = some [.int .u64 (full ⟨w, d, i, s⟩ x)] := by
  obtain ⟨h1, h2, h3, h4⟩ := May_spec h
  simp only at h3
  have hi : IntKind.u64.wrap i = i := wrap_u64 (by omega) (by omega)
  have hib : (i != 0) = true := by simp; omega
  simp [deq_full, full, free, hi, hib]
def deqStep (c : Conf) (m : Mem) (f : Frame) : Mem × Frame :=
  if goesE c m f 4 then
    if f.Pc = 0 then (m, { f with X := load m 4, Pc := 1 })
    else if f.Pc = 1 then
      (m, if Far (load m (Seq c f.X)) (full c f.X) = 0 then { f with Pc := 2, Y := load m (Seq c f.X) }
        else if Far (load m (Seq c f.X)) (full c f.X) < 0 then End f 3 0 else { f with Pc := 0, Y := load m (Seq c f.X) })
    else if f.Pc = 2 then ((cas m 4 f.X (IntKind.u64.wrap (f.X + 1))).1, { f with Pc := if (cas m 4 f.X (IntKind.u64.wrap (f.X + 1))).2 then 3 else 0 })
    else if f.Pc = 3 then (m, { f with Val := load m (Val c f.X), Pc := 4 })
    else (store m (Seq c f.X) (IntKind.u64.wrap (full c f.X + 1)), End f 1 f.Val)
  else (m, f)
theorem deq_Step_eq (w d i s : Int) (m : Mem) (hm : m.length ≤ 1000000) (a b c d' e f g : Int) :
    deq_Step [.int .i64 w, .int .i64 d, .int .i64 i, .int .i64 s, .sl (memE m), .int .i64 a, .int .i64 b, .int .i64 c, .int .u64 d', .int .u64 e, .int .u64 f, .int .i64 g] =
      some (.sl (memE (deqStep ⟨w, d, i, s⟩ m ⟨a, b, c, d', e, f, g⟩).1) :: (deqStep ⟨w, d, i, s⟩ m ⟨a, b, c, d', e, f, g⟩).2.e) := by
  unfold deq_Step deqStep
  simp only [fI_cons, fV_cons, clone_mem m hm, enq_Goes_eq, Option.bind_some, fB_cons]
  cases hG : goesE ⟨w, d, i, s⟩ m ⟨a, b, c, d', e, f, g⟩ 4
  · simp [Frame.e]
  · have hp : May ⟨w, d, i, s⟩ = true ∧ 0 ≤ b ∧ b < 5 := by
      simp only [goesE, fits, Bool.and_eq_true, decide_eq_true_eq] at hG
      refine ⟨hG.1.1, by omega⟩
    have hb : b = 0 ∨ b = 1 ∨ b = 2 ∨ b = 3 ∨ b = 4 := by omega
    rcases hb with rfl | rfl | rfl | rfl | rfl
    · simp [cell_Load_eq, Frame.e]
    · by_cases h : Far (load m (Seq ⟨w, d, i, s⟩ e)) (full ⟨w, d, i, s⟩ e) = 0
      · simp [cell_Load_eq, lay_Seq_eq, deq_full_eq _ _ _ _ _ hp.1, word_Far_eq, Frame.e, h]
      · have hb : (Far (load m (Seq ⟨w, d, i, s⟩ e)) (full ⟨w, d, i, s⟩ e) == 0) = false := by simpa using h
        by_cases h5 : Far (load m (Seq ⟨w, d, i, s⟩ e)) (full ⟨w, d, i, s⟩ e) < 0
        · simp [cell_Load_eq, lay_Seq_eq, deq_full_eq _ _ _ _ _ hp.1, word_Far_eq, Frame.e, h, hb, h5, frame_End_eq, End]
        · simp [cell_Load_eq, lay_Seq_eq, deq_full_eq _ _ _ _ _ hp.1, word_Far_eq, Frame.e, h, hb, h5]
    · cases h : (cas m 4 e (IntKind.u64.wrap (e + 1))).2 <;> simp [cell_Cas_eq m _ _ _ hm, Frame.e, h]
    · simp [cell_Load_eq, lay_Val_eq, Frame.e]
    · simp [cell_Store_eq m _ _ hm, lay_Seq_eq, deq_full_eq _ _ _ _ _ hp.1, Frame.e, frame_End_eq, End]
def injectStep (c : Conf) (m : Mem) (f : Frame) : Mem × Frame :=
  if f.Op = 3 then enqStep c m f else if f.Op = 4 then deqStep c m f else (m, f)
theorem inject_Step_eq (w d i s : Int) (m : Mem) (hm : m.length ≤ 1000000) (a b c d' e f g : Int) :
    inject_Step [.int .i64 w, .int .i64 d, .int .i64 i, .int .i64 s, .sl (memE m), .int .i64 a, .int .i64 b, .int .i64 c, .int .u64 d', .int .u64 e, .int .u64 f, .int .i64 g] =
      some (.sl (memE (injectStep ⟨w, d, i, s⟩ m ⟨a, b, c, d', e, f, g⟩).1) :: (injectStep ⟨w, d, i, s⟩ m ⟨a, b, c, d', e, f, g⟩).2.e) := by
  unfold inject_Step injectStep
  simp only [fI_cons, fV_cons, enq_Step_eq w d i s m hm, deq_Step_eq w d i s m hm, clone_mem m hm, Option.bind_some, Frame.e]
  by_cases h1 : a = 3
  · simp [h1]
  · have h1b : (a == 3) = false := by simp [h1]
    by_cases h2 : a = 4
    · simp [h2]
    · have h2b : (a == 4) = false := by simp [h2]
      simp [h1, h2, h1b, h2b]
end Pq

namespace Pq
open Go Rx

/-! ### tasks -/
structure Task where
  Work : Int
  Kids : List Int
def Task.e (t : Task) : List Dat := [.int .i64 t.Work, .sl (intsE t.Kids)]
def tasksE (l : List Task) : List (List Dat) := l.map Task.e
@[simp] theorem tasksE_len (l : List Task) : (tasksE l).length = l.length := by simp [tasksE]
theorem tasksE_get {l : List Task} {i : Nat} {x : Task} (h : l[i]? = some x) : (tasksE l)[i]? = some x.e := by simp [tasksE, h]
def boolsE (l : List Bool) : List (List Dat) := l.map fun b => [.bool b]
@[simp] theorem boolsE_len (l : List Bool) : (boolsE l).length = l.length := by simp [boolsE]
theorem boolsE_get {l : List Bool} {i : Nat} {x : Bool} (h : l[i]? = some x) : (boolsE l)[i]? = some [.bool x] := by simp [boolsE, h]
theorem boolsE_rep (n : Nat) : List.replicate n [Dat.bool false] = boolsE (List.replicate n false) := by simp [boolsE]
theorem ix_of {α : Type} {rows : List (List Dat)} {i : Nat} {c : Option α} (h : i < rows.length) : ixK rows i c = c := ixK_of ⟨by omega, by omega⟩
theorem st_bools {α : Type} {m : List Bool} {i : Nat} {v : Bool} {c : List (List Dat) → Option α} (h : i < m.length) : stK (boolsE m) i 1 0 [.bool v] c = c (boolsE (m.set i v)) := by
  rw [stK_of (boolsE_get (List.getElem?_eq_getElem h)) (by simp)]
  simp [boolsE, List.map_set]
def kidsOK (n of : Int) : List Int → List Bool → Option (List Bool)
  | [], h => some h
  | k :: r, h => if k ≤ of ∨ n ≤ k then none else if h.getD k.toNat false then none else kidsOK n of r (h.set k.toNat true)
def tasksOK (n : Int) : Int → List Task → List Bool → Option (List Bool)
  | _, [], h => some h
  | of, t :: r, h => (kidsOK n of t.Kids h).bind fun h => tasksOK n (of + 1) r h
def workBad (x : Task) : Bool := decide (x.Work < 0) || decide (x.Work > 20)
def forestMay (t : List Task) : Bool := if t.length > 30 then false else if t.any workBad then false else (tasksOK t.length 0 t (List.replicate t.length false)).isSome
theorem kidsOK_len {n of : Int} : ∀ {l : List Int} {h h' : List Bool}, kidsOK n of l h = some h' → h'.length = h.length
  | [], h, h', e => by simp [kidsOK] at e; rw [e]
  | k :: r, h, h', e => by
    simp only [kidsOK] at e
    split at e
    · cases e
    · split at e
      · cases e
      · rw [kidsOK_len e]; simp

theorem kids_loop (n : Nat) (of : Nat) (hn : n ≤ 30) (hof : of < n) (kids : List Int) (hk : kids.length ≤ 1000000) : ∀ (rest : List Int) (j : Nat) (had : List Bool), kids.drop j = rest → had.length = n →
    loopE 2 (fun ds => fV ds fun v3 ds => fJ ds fun i5 _ => 
      cond (decide ((i5 : Int) < ((intsE kids).length : Int)))
      (ixK (intsE kids) i5 (ldK (intsE kids) (Int.toNat i5) 1 0 fun ds => fI .i64 ds fun i6 _ => 
      cond (decide ((i6 : Int) ≤ (of : Int)))
      (some (.ret [.bool false]))
      (cond (decide ((i6 : Int) ≥ (n : Int)))
      (some (.ret [.bool false]))
      (ixK v3 i6 (ldK v3 (Int.toNat i6) 1 0 fun ds => fB ds fun b1 _ => 
      cond b1
      (some (.ret [.bool false]))
      (ixK v3 i6 (stK v3 (Int.toNat i6) 1 0 [.bool true] fun v3_0 =>
      some (.cont 2 [.sl v3_0, .int .i64 (IntKind.i64.wrap (i5 + 1))]))))))))
      (some (.cont 1 [.sl v3, .int .i64 (IntKind.i64.wrap ((of : Int) + 1))])))
      [.sl (boolsE had), .int .i64 (j : Int)] = some (match kidsOK n of rest had with
        | none => .ret [.bool false]
        | some h => .cont 1 [.sl (boolsE h), .int .i64 ((of + 1 : Nat) : Int)])
  | [], j, had, hd, hh => by
    have h1 : ¬ ((j : Int) < ((intsE kids).length : Int)) := by
      have := List.drop_eq_nil_iff.1 hd
      simp only [intsE_len]; omega
    refine (loopE_out (lv' := 1) (vs := [.sl (boolsE had), .int .i64 ((of + 1 : Nat) : Int)]) ?_ (by decide)).trans ?_
    · simp only [fV_cons, fJ_cons, h1, decide_false, cond_false]
      rw [wrap_i64 (by omega) (by omega)]
      rfl
    · simp [kidsOK]
  | k :: rest, j, had, hd, hh => by
    have hj : j < kids.length := by
      rcases Nat.lt_or_ge j kids.length with h | h
      · exact h
      · rw [List.drop_eq_nil_of_le h] at hd; cases hd
    have hkj : kids[j]? = some k := by
      rw [List.drop_eq_getElem_cons hj] at hd
      rw [List.getElem?_eq_getElem hj]
      exact congrArg some (List.cons.inj hd).1
    have hd' : kids.drop (j + 1) = rest := by
      rw [List.drop_eq_getElem_cons hj] at hd
      exact (List.cons.inj hd).2
    have h1 : ((j : Int) < ((intsE kids).length : Int)) := by simp only [intsE_len]; omega
    have hix : ∀ {α : Type} (c : Option α), ixK (intsE kids) (j : Int) c = c := fun c => ix_of (by simpa using hj)
    by_cases c1 : k ≤ (of : Int)
    · rw [loopE_ret (r := [.bool false])]
      · simp [kidsOK, c1]
      · simp only [fV_cons, fJ_cons, h1, decide_true, cond_true, hix, Int.toNat_natCast, ld_ints hkj, fI_cons, c1]
    · by_cases c2 : (n : Int) ≤ k
      · rw [loopE_ret (r := [.bool false])]
        · simp [kidsOK, c2]
        · simp only [fV_cons, fJ_cons, h1, decide_true, cond_true, hix, Int.toNat_natCast, ld_ints hkj, fI_cons, c1, decide_false, cond_false, ge_iff_le, c2]
      · have hkn : k.toNat < had.length := by omega
        have hbg : had[k.toNat]? = some (had[k.toNat]) := List.getElem?_eq_getElem hkn
        have hix2 : ∀ {α : Type} (c : Option α), ixK (boolsE had) k c = c := fun c => ixK_of ⟨by omega, by simp; omega⟩
        have hld2 : ∀ {α : Type} (c : List Dat → Option α), ldK (boolsE had) k.toNat 1 0 c = c [.bool (had[k.toNat])] := fun c => ldK_of (boolsE_get hbg) rfl
        cases hb : had[k.toNat]
        · rw [loopE_next (vs := [.sl (boolsE (had.set k.toNat true)), .int .i64 ((j + 1 : Nat) : Int)])]
          · rw [kids_loop n of hn hof kids hk rest (j + 1) (had.set k.toNat true) hd' (by simpa using hh)]
            simp [kidsOK, c1, c2, hbg, hb]
          · simp only [fV_cons, fJ_cons, h1, decide_true, cond_true, hix, Int.toNat_natCast, ld_ints hkj, fI_cons, c1, decide_false, cond_false, ge_iff_le, c2, hix2, hld2, hb, fB_cons, st_bools hkn]
            rw [wrap_i64 (by omega) (by omega)]
            rfl
        · rw [loopE_ret (r := [.bool false])]
          · simp [kidsOK, c1, c2, hbg, hb]
          · simp only [fV_cons, fJ_cons, h1, decide_true, cond_true, hix, Int.toNat_natCast, ld_ints hkj, fI_cons, c1, decide_false, cond_false, ge_iff_le, c2, hix2, hld2, hb, fB_cons]

theorem tasks_loop (t : List Task) (hn : t.length ≤ 30) (hk : ∀ x ∈ t, x.Kids.length ≤ 1000000) : ∀ (rest : List Task) (of : Nat) (had : List Bool), t.drop of = rest → had.length = t.length →
    loopE 1 (fun ds => fV ds fun v1 ds => fJ ds fun i2 _ => 
      cond (decide ((i2 : Int) < ((tasksE t).length : Int)))
      (ixK (tasksE t) i2 (ldK (tasksE t) (Int.toNat i2) 2 0 fun ds => fI .i64 ds fun _ ds => fV ds fun v3 _ => 
      loopE 2 (fun ds => fV ds fun v1 ds => fJ ds fun i4 _ => 
      cond (decide ((i4 : Int) < (v3.length : Int)))
      (ixK v3 i4 (ldK v3 (Int.toNat i4) 1 0 fun ds => fI .i64 ds fun i5 _ => 
      cond (decide ((i5 : Int) ≤ i2))
      (some (.ret [.bool false]))
      (cond (decide ((i5 : Int) ≥ ((tasksE t).length : Int)))
      (some (.ret [.bool false]))
      (ixK v1 i5 (ldK v1 (Int.toNat i5) 1 0 fun ds => fB ds fun b0 _ => 
      cond b0
      (some (.ret [.bool false]))
      (ixK v1 i5 (stK v1 (Int.toNat i5) 1 0 [.bool true] fun v1_1 =>
      some (.cont 2 [.sl v1_1, .int .i64 (IntKind.i64.wrap (i4 + 1))]))))))))
      (some (.cont 1 [.sl v1, .int .i64 (IntKind.i64.wrap (i2 + 1))])))
      [.sl v1, .int .i64 0]))
      (some (.ret [.bool true])))
      [.sl (boolsE had), .int .i64 (of : Int)] = some (.ret [.bool (tasksOK t.length of rest had).isSome])
  | [], of, had, hd, hh => by
    have h1 : ¬ ((of : Int) < ((tasksE t).length : Int)) := by
      have := List.drop_eq_nil_iff.1 hd
      simp only [tasksE_len]; omega
    refine loopE_ret ?_
    simp only [fV_cons, fJ_cons, h1, decide_false, cond_false, tasksOK, Option.isSome_some]
  | x :: rest, of, had, hd, hh => by
    have hj : of < t.length := by
      rcases Nat.lt_or_ge of t.length with h | h
      · exact h
      · rw [List.drop_eq_nil_of_le h] at hd; cases hd
    have hkj : t[of]? = some x := by
      rw [List.drop_eq_getElem_cons hj] at hd
      rw [List.getElem?_eq_getElem hj]
      exact congrArg some (List.cons.inj hd).1
    have hd' : t.drop (of + 1) = rest := by
      rw [List.drop_eq_getElem_cons hj] at hd
      exact (List.cons.inj hd).2
    have h1 : ((of : Int) < ((tasksE t).length : Int)) := by simp only [tasksE_len]; omega
    have hix : ∀ {α : Type} (c : Option α), ixK (tasksE t) (of : Int) c = c := fun c => ix_of (by simpa using hj)
    have hld : ∀ {α : Type} (c : List Dat → Option α), ldK (tasksE t) of 2 0 c = c x.e := fun c => ldK_of (tasksE_get hkj) rfl
    have hkl := kids_loop t.length of hn hj x.Kids (hk x (List.mem_of_getElem? hkj)) x.Kids 0 had rfl hh
    have hbody : (fun ds => fV ds fun v1 ds => fJ ds fun i2 ds => 
      cond (decide ((i2 : Int) < ((tasksE t).length : Int)))
      (ixK (tasksE t) i2 (ldK (tasksE t) (Int.toNat i2) 2 0 fun ds => fI .i64 ds fun i3 ds => fV ds fun v3 ds => 
      loopE 2 (fun ds => fV ds fun v1 ds => fJ ds fun i4 ds => 
      cond (decide ((i4 : Int) < (v3.length : Int)))
      (ixK v3 i4 (ldK v3 (Int.toNat i4) 1 0 fun ds => fI .i64 ds fun i5 ds => 
      cond (decide ((i5 : Int) ≤ i2))
      (some (.ret [.bool false]))
      (cond (decide ((i5 : Int) ≥ ((tasksE t).length : Int)))
      (some (.ret [.bool false]))
      (ixK v1 i5 (ldK v1 (Int.toNat i5) 1 0 fun ds => fB ds fun b0 ds => 
      cond b0
      (some (.ret [.bool false]))
      (ixK v1 i5 (stK v1 (Int.toNat i5) 1 0 [.bool true] fun v1_1 =>
      some (Out.cont 2 [.sl v1_1, .int .i64 (IntKind.i64.wrap (i4 + 1))]))))))))
      (some (.cont 1 [.sl v1, .int .i64 (IntKind.i64.wrap (i2 + 1))])))
      [.sl v1, .int .i64 0]))
      (some (.ret [.bool true]))) [.sl (boolsE had), .int .i64 (of : Int)] = some (match kidsOK t.length of x.Kids had with
        | none => .ret [.bool false]
        | some h => .cont 1 [.sl (boolsE h), .int .i64 ((of + 1 : Nat) : Int)]) := by
      simp only [fV_cons, fJ_cons, h1, decide_true, cond_true, hix, Int.toNat_natCast, hld, Task.e, fI_cons]
      rw [← hkl]
      simp only [tasksE_len]
      rfl
    cases hko : kidsOK t.length of x.Kids had with
    | none =>
      rw [hko] at hbody
      rw [loopE_ret hbody]
      simp [tasksOK, hko]
    | some h =>
      rw [hko] at hbody
      rw [loopE_next hbody, tasks_loop t hn hk rest (of + 1) h hd' (by rw [kidsOK_len hko, hh])]
      simp [tasksOK, hko]
theorem forest_May_1_eq (x : Task) : forest_May_1 [.int .i64 x.Work, .sl (intsE x.Kids)] = some [.bool (workBad x)] := by
  unfold forest_May_1 workBad
  by_cases h : x.Work < 0 <;> simp [h]
theorem drop_cons {α : Type} {l : List α} {j : Nat} (hj : j < l.length) : ∃ x, l[j]? = some x ∧ l.drop j = x :: l.drop (j + 1) :=
  ⟨l[j], List.getElem?_eq_getElem hj, List.drop_eq_getElem_cons hj⟩
/-- A loop that goes through a list, till one is bad. -/
theorem scan_loop {α : Type} {t : List α} {bad : α → Bool} {lv : Nat} {body : List Dat → Option Out} {s : Nat → List Dat} {R1 R2 : List Dat}
    (h1 : ∀ (j : Nat) x, t[j]? = some x → bad x = true → body (s j) = some (.ret R1))
    (h2 : ∀ (j : Nat) x, t[j]? = some x → bad x = false → body (s j) = some (.cont lv (s (j + 1))))
    (h3 : body (s t.length) = some (.ret R2)) : ∀ (n j : Nat), j + n = t.length → loopE lv body (s j) = some (.ret (if (t.drop j).any bad then R1 else R2))
  | 0, j, hj => by
    have : j = t.length := by omega
    subst this
    rw [loopE_ret h3]
    simp
  | n + 1, j, hj => by
    obtain ⟨x, hx, hd⟩ := drop_cons (l := t) (j := j) (by omega)
    rw [hd]
    cases hb : bad x
    · rw [loopE_next (h2 j x hx hb), scan_loop h1 h2 h3 n (j + 1) (by omega)]
      simp [hb]
    · rw [loopE_ret (h1 j x hx hb)]
      simp [hb]
theorem forest_May_eq (t : List Task) (hk : ∀ x ∈ t, x.Kids.length ≤ 1000000) (ht : t.length ≤ 1000000) : forest_May [.sl (tasksE t)] = some [.bool (forestMay t)] := by
  unfold forest_May forestMay
  simp only [fV_cons]
  by_cases hn : t.length > 30
  · have : (((tasksE t).length : Int) > 30) := by simp only [tasksE_len]; omega
    simp only [hn, this, decide_true, cond_true, Option.bind_some, outR_ret, if_true]
  · have h30 : ¬ (((tasksE t).length : Int) > 30) := by simp only [tasksE_len]; omega
    simp only [h30, decide_false, cond_false, hn, if_false]
    have ix : ∀ {α : Type} (j : Nat) (x : Task) (c : Option α), t[j]? = some x → ixK (tasksE t) (j : Int) c = c := fun j x c h => ix_of (by simpa using (List.getElem?_eq_some_iff.1 h).1)
    have ld : ∀ {α : Type} (j : Nat) (x : Task) (c : List Dat → Option α), t[j]? = some x → ldK (tasksE t) j 2 0 c = c x.e := fun j x c h => ldK_of (tasksE_get h) rfl
    have lt : ∀ (j : Nat) (x : Task), t[j]? = some x → ((j : Int) < ((tasksE t).length : Int)) := fun j x h => by
      have := (List.getElem?_eq_some_iff.1 h).1
      simp only [tasksE_len]; omega
    refine (congrArg (fun z => Option.bind z outR) (scan_loop (t := t) (bad := workBad) (lv := 0) (s := fun j => [.int .i64 0, .int .i64 (j : Int)]) (R1 := [.bool false]) (R2 := [.bool (tasksOK t.length 0 t (List.replicate t.length false)).isSome])
      ?_ ?_ ?_ t.length 0 (by omega))).trans ?_
    · intro j x hx hb
      simp only [fJ_cons, lt j x hx, decide_true, cond_true, ix j x _ hx, Int.toNat_natCast, ld j x _ hx, Task.e, fI_cons, fV_cons, forest_May_1_eq, hb, Option.bind_some, fB_cons]
      have : ((j : Int) ≥ 0) := by omega
      simp only [this, decide_true, cond_true]
    · intro j x hx hb
      simp only [fJ_cons, lt j x hx, decide_true, cond_true, ix j x _ hx, Int.toNat_natCast, ld j x _ hx, Task.e, fI_cons, fV_cons, forest_May_1_eq, hb, Option.bind_some, fB_cons, cond_false]
      have := (List.getElem?_eq_some_iff.1 hx).1
      rw [wrap_i64 (by omega) (by omega)]
      rfl
    · have h1 : ¬ (((t.length : Nat) : Int) < ((tasksE t).length : Int)) := by simp only [tasksE_len]; omega
      simp only [fJ_cons, h1, decide_false, cond_false]
      rw [mkK_of ⟨by omega, by simp only [tasksE_len]; omega⟩]
      have := tasks_loop t (by omega) hk t 0 (List.replicate t.length false) rfl (by simp)
      simp only [tasksE_len, Int.toNat_natCast, boolsE_rep] at this ⊢
      exact this
    · cases h : t.any workBad <;> simp [h]
end Pq

namespace Pq
open Go Rx

/-! ### submitters -/
structure Sub where
  Pc : Int
  Roots : List Int
  F : Frame
def Sub.e (x : Sub) : List Dat := .int .i64 x.Pc :: .sl (intsE x.Roots) :: x.F.e
structure Ev where
  Kind : Int
  Task : Int
  Who : Int
  deriving DecidableEq
def evsE (l : List Ev) : List (List Dat) := l.map fun x => [.int .i64 x.Kind, .int .i64 x.Task, .int .i64 x.Who]
@[simp] theorem evsE_len (l : List Ev) : (evsE l).length = l.length := by simp [evsE]
def noF : Frame := ⟨0, 0, 0, 0, 0, 0, 0⟩
def subNew (roots : List Int) : Sub := ⟨0, roots, noF⟩
theorem submit_New_eq (roots : List Int) (h : roots.length ≤ 1000000) : submit_New [.sl (intsE roots)] = some (subNew roots).e := by
  simp [submit_New, clone_ints roots h, subNew, Sub.e, Frame.e, noF]
def subMay (c : Conf) (t : List Task) (m : Mem) (x : Sub) : Bool :=
  May c && (((m.length : Int) == Size c) && (forestMay t && (decide (x.Pc ≥ 0) && (decide (x.Pc < 6) && match x.Roots with
    | [] => false
    | r :: _ => decide (r ≥ 0) && decide (r < t.length)))))
/-- All is as the statements' data are. -/
structure TasksOK (t : List Task) : Prop where
  len : t.length ≤ 1000000
  kids : ∀ x ∈ t, x.Kids.length ≤ 1000000
theorem submit_May_eq (w d i s : Int) (t : List Task) (ht : TasksOK t) (m : Mem) (pc : Int) (roots : List Int) (a b c d' e f g : Int) :
    submit_May [.int .i64 w, .int .i64 d, .int .i64 i, .int .i64 s, .sl (tasksE t), .sl (memE m), .int .i64 pc, .sl (intsE roots), .int .i64 a, .int .i64 b, .int .i64 c, .int .u64 d', .int .u64 e, .int .u64 f, .int .i64 g] =
      some [.bool (subMay ⟨w, d, i, s⟩ t m ⟨pc, roots, ⟨a, b, c, d', e, f, g⟩⟩)] := by
  unfold submit_May subMay
  simp only [fI_cons, fV_cons, lay_May_eq, lay_Size_eq, forest_May_eq t ht.kids ht.len, Option.bind_some, fB_cons, memE_len, tasksE_len, intsE_len]
  cases roots with
  | nil => simp
  | cons r rest =>
    have h1 : (((r :: rest).length : Int) > 0) := by simp only [List.length_cons]; omega
    simp only [h1, decide_true, cond_true, ix_ints (m := r :: rest) (i := 0) (by decide) (by simp only [List.length_cons]; omega), ld_ints (m := r :: rest) (i := Int.toNat 0) (x := r) rfl, fI_cons, and_ret, outR_ret, Option.bind_some]
theorem sl_tail {α : Type} {r : Int} {rest : List Int} {c : List (List Dat) → Option α} : slK 1 (intsE (r :: rest)) 1 (((intsE (r :: rest)).length : Nat) : Int) c = c (intsE rest) := by
  rw [slK_of ⟨by omega, by simp; omega, by omega⟩ intsE_row1]
  congr 1
  have h1 : (1 : Int).toNat = 1 := rfl
  have h2 : ((((intsE (r :: rest)).length : Nat) : Int) - 1).toNat = rest.length := by simp
  rw [h1, h2]
  simp [intsE, List.take_of_length_le]
theorem ap_ev {α : Type} {l : List Ev} {k t w : Int} {c : List (List Dat) → Option α} (h : l.length < 1000000) : apK true 3 (evsE l) [[.int .i64 k, .int .i64 t, .int .i64 w]] c = c (evsE (l ++ [⟨k, t, w⟩])) := by
  rw [apK_of (by intro r hr; simp at hr; subst hr; exact ⟨rfl, fun _ => rfl⟩) (by simp; omega)]
  simp [evsE]
def callStep (c : Conf) (m : Mem) (f : Frame) : Mem × Frame := if f.Op = 3 ∨ f.Op = 4 then injectStep c m f else eventStep c m f
def subDone (x : Sub) : Sub := ⟨0, x.Roots.tail, noF⟩
def subStep (c : Conf) (t : List Task) (m : Mem) (i : Int) (x : Sub) : Mem × Sub × List Ev :=
  if subMay c t m x then
    if x.Pc = 0 then (if load m 3 = 0 then (m, { x with Pc := 1 }, []) else (m, subDone x, [⟨1, x.Roots.headD 0, i⟩]))
    else if x.Pc = 1 then ((add m 0 1).1, { x with Pc := 2, F := Begin 3 i (IntKind.u64.wrap (x.Roots.headD 0)) }, [])
    else if x.Pc = 2 then
      if Over (callStep c m x.F).2 then
        if (callStep c m x.F).2.Res = 2 then ((callStep c m x.F).1, { x with Pc := 5, F := (callStep c m x.F).2 }, [])
        else ((callStep c m x.F).1, { x with Pc := 3, F := (callStep c m x.F).2 }, [⟨0, x.Roots.headD 0, i⟩])
      else ((callStep c m x.F).1, { x with F := (callStep c m x.F).2 }, [])
    else if x.Pc = 3 then (if load m 1 = 0 then (m, { x with Pc := 4, F := Begin 6 i 0 }, []) else (m, subDone x, []))
    else if x.Pc = 4 then
      if Over (callStep c m x.F).2 then ((callStep c m x.F).1, subDone x, []) else ((callStep c m x.F).1, { x with F := (callStep c m x.F).2 }, [])
    else ((add m 0 18446744073709551615).1, subDone x, if load m 0 = 1 then [⟨1, x.Roots.headD 0, i⟩, ⟨5, 0, i⟩] else [⟨1, x.Roots.headD 0, i⟩])
  else (m, x, [])
def subOut (r : Mem × Sub × List Ev) : List Dat := .sl (memE r.1) :: .int .i64 r.2.1.Pc :: .sl (intsE r.2.1.Roots) :: .int .i64 r.2.1.F.Op :: .int .i64 r.2.1.F.Pc :: .int .i64 r.2.1.F.Who :: .int .u64 r.2.1.F.Val :: .int .u64 r.2.1.F.X :: .int .u64 r.2.1.F.Y :: .int .i64 r.2.1.F.Res :: [.sl (evsE r.2.2)]
theorem submit_Step_eq (w d i s : Int) (t : List Task) (ht : TasksOK t) (m : Mem) (hm : m.length ≤ 1000000) (who pc : Int) (roots : List Int) (hr : roots.length ≤ 1000000) (a b c d' e f g : Int) :
    submit_Step [.int .i64 w, .int .i64 d, .int .i64 i, .int .i64 s, .sl (tasksE t), .sl (memE m), .int .i64 who, .int .i64 pc, .sl (intsE roots), .int .i64 a, .int .i64 b, .int .i64 c, .int .u64 d', .int .u64 e, .int .u64 f, .int .i64 g] =
      some (subOut (subStep ⟨w, d, i, s⟩ t m who ⟨pc, roots, ⟨a, b, c, d', e, f, g⟩⟩)) := by
  unfold submit_Step subStep
  simp only [fI_cons, fV_cons, clone_mem m hm, clone_ints roots hr, submit_May_eq w d i s t ht m, Option.bind_some, fB_cons, inject_Step_eq w d i s m hm, event_Step_eq w d i s m hm, Frame.e, cell_Add_eq m _ _ hm, cell_Load_eq, frame_Begin_eq, frame_Over_eq, agree_self]
  cases hG : subMay ⟨w, d, i, s⟩ t m ⟨pc, roots, ⟨a, b, c, d', e, f, g⟩⟩
  · simp [subOut, evsE]
  · have hp : (0 ≤ pc ∧ pc < 6) ∧ ∃ r rest, roots = r :: rest := by
      simp only [subMay, Bool.and_eq_true, decide_eq_true_eq] at hG
      obtain ⟨_, _, _, h1, h2, h3⟩ := hG
      refine ⟨⟨h1, h2⟩, ?_⟩
      cases roots with
      | nil => cases h3
      | cons r rest => exact ⟨r, rest, rfl⟩
    obtain ⟨hp, r, rest, rfl⟩ := hp
    have ap0 : ∀ {α : Type} {k t w : Int} {c : List (List Dat) → Option α}, apK true 3 [] [[.int .i64 k, .int .i64 t, .int .i64 w]] c = c (evsE [⟨k, t, w⟩]) := fun {α k t w c} => ap_ev (l := []) (by decide)
    have e0 : (Dat.sl []) = .sl (evsE []) := rfl
    simp only [Bool.not_true, cond_false, ix_ints (m := r :: rest) (i := 0) (by decide) (by simp only [List.length_cons]; omega), ld_ints (m := r :: rest) (i := Int.toNat 0) (x := r) rfl, fI_cons, sl_tail, ap0, ap_ev (l := [⟨1, r, who⟩]) (by simp)]
    have hb : pc = 0 ∨ pc = 1 ∨ pc = 2 ∨ pc = 3 ∨ pc = 4 ∨ pc = 5 := by omega
    rcases hb with rfl | rfl | rfl | rfl | rfl | rfl
    · by_cases h : load m 3 = 0
      · simp [h, subOut, evsE]
      · have hb : (load m 3 != 0) = true := by simp [h]
        simp [h, hb, subOut, subDone, noF]
    · simp [subOut, Begin, evsE]
    · by_cases h3 : a = 3
      · subst h3
        have hc : callStep ⟨w, d, i, s⟩ m ⟨3, b, c, d', e, f, g⟩ = injectStep ⟨w, d, i, s⟩ m ⟨3, b, c, d', e, f, g⟩ := by simp [callStep]
        rw [hc]
        generalize injectStep ⟨w, d, i, s⟩ m ⟨3, b, c, d', e, f, g⟩ = q
        by_cases h : q.2.Res = 0
        · simp [h, Over, subOut, evsE]
        · have hb : (q.2.Res != 0) = true := by simp [h]
          by_cases h2 : q.2.Res = 2
          · simp [h2, Over, subOut, evsE]
          · have hb2 : (q.2.Res != 2) = true := by simp [h2]
            simp [h2, hb, hb2, Over, subOut]
      · have h3b : (a == 3) = false := by simp [h3]
        by_cases h4 : a = 4
        · subst h4
          have hc : callStep ⟨w, d, i, s⟩ m ⟨4, b, c, d', e, f, g⟩ = injectStep ⟨w, d, i, s⟩ m ⟨4, b, c, d', e, f, g⟩ := by simp [callStep]
          rw [hc]
          generalize injectStep ⟨w, d, i, s⟩ m ⟨4, b, c, d', e, f, g⟩ = q
          by_cases h : q.2.Res = 0
          · simp [h, Over, subOut, evsE]
          · have hb : (q.2.Res != 0) = true := by simp [h]
            by_cases h2 : q.2.Res = 2
            · simp [h2, Over, subOut, evsE]
            · have hb2 : (q.2.Res != 2) = true := by simp [h2]
              simp [h2, hb, hb2, Over, subOut]
        · have h4b : (a == 4) = false := by simp [h4]
          have hc : callStep ⟨w, d, i, s⟩ m ⟨a, b, c, d', e, f, g⟩ = eventStep ⟨w, d, i, s⟩ m ⟨a, b, c, d', e, f, g⟩ := by simp [callStep, h3, h4]
          rw [hc]
          generalize eventStep ⟨w, d, i, s⟩ m ⟨a, b, c, d', e, f, g⟩ = q
          by_cases h : q.2.Res = 0
          · simp [h, Over, subOut, evsE, h3b, h4b]
          · have hb : (q.2.Res != 0) = true := by simp [h]
            by_cases h2 : q.2.Res = 2
            · simp [h2, Over, subOut, evsE, h3b, h4b]
            · have hb2 : (q.2.Res != 2) = true := by simp [h2]
              simp [h2, hb, hb2, Over, subOut, h3b, h4b]
    · by_cases h : load m 1 = 0
      · simp [h, subOut, evsE, Begin]
      · have hb : (load m 1 != 0) = true := by simp [h]
        simp [h, hb, subOut, subDone, noF, evsE]
    · by_cases h3 : a = 3
      · subst h3
        have hc : callStep ⟨w, d, i, s⟩ m ⟨3, b, c, d', e, f, g⟩ = injectStep ⟨w, d, i, s⟩ m ⟨3, b, c, d', e, f, g⟩ := by simp [callStep]
        rw [hc]
        generalize injectStep ⟨w, d, i, s⟩ m ⟨3, b, c, d', e, f, g⟩ = q
        by_cases h : q.2.Res = 0
        · simp [h, Over, subOut, evsE]
        · have hb : (q.2.Res != 0) = true := by simp [h]
          simp [hb, Over, subOut, subDone, noF, evsE]
      · have h3b : (a == 3) = false := by simp [h3]
        by_cases h4 : a = 4
        · subst h4
          have hc : callStep ⟨w, d, i, s⟩ m ⟨4, b, c, d', e, f, g⟩ = injectStep ⟨w, d, i, s⟩ m ⟨4, b, c, d', e, f, g⟩ := by simp [callStep]
          rw [hc]
          generalize injectStep ⟨w, d, i, s⟩ m ⟨4, b, c, d', e, f, g⟩ = q
          by_cases h : q.2.Res = 0
          · simp [h, Over, subOut, evsE]
          · have hb : (q.2.Res != 0) = true := by simp [h]
            simp [hb, Over, subOut, subDone, noF, evsE]
        · have h4b : (a == 4) = false := by simp [h4]
          have hc : callStep ⟨w, d, i, s⟩ m ⟨a, b, c, d', e, f, g⟩ = eventStep ⟨w, d, i, s⟩ m ⟨a, b, c, d', e, f, g⟩ := by simp [callStep, h3, h4]
          rw [hc]
          generalize eventStep ⟨w, d, i, s⟩ m ⟨a, b, c, d', e, f, g⟩ = q
          by_cases h : q.2.Res = 0
          · simp [h, Over, subOut, evsE, h3b, h4b]
          · have hb : (q.2.Res != 0) = true := by simp [h]
            simp [hb, Over, subOut, subDone, noF, evsE, h3b, h4b]
    · by_cases h : load m 0 = 1
      · simp [h, add, subOut, subDone, noF]
      · have hb : (load m 0 == 1) = false := by simp [h]
        simp [h, hb, add, subOut, subDone, noF]
end Pq

namespace Pq
open Go Rx
theorem waitStep_len (c : Conf) (m : Mem) (f : Frame) : (waitStep c m f).1.length = m.length := by
  unfold waitStep
  split
  · split
    · rfl
    · split
      · split <;> rfl
      · split
        · simp [cas_len]
        · split
          · rfl
          · simp [store_len]
  · rfl
theorem noteStep_len (c : Conf) (m : Mem) (f : Frame) : (noteStep c m f).1.length = m.length := by
  unfold noteStep
  split
  · split
    · rfl
    · split
      · simp [cas_len]
      · split <;> simp [store_len]
  · rfl
theorem eventStep_len (c : Conf) (m : Mem) (f : Frame) : (eventStep c m f).1.length = m.length := by
  unfold eventStep
  split
  · exact waitStep_len ..
  · split
    · exact noteStep_len ..
    · rfl
theorem enqStep_len (c : Conf) (m : Mem) (f : Frame) : (enqStep c m f).1.length = m.length := by
  unfold enqStep
  split
  · split
    · rfl
    · split
      · rfl
      · split
        · simp [cas_len]
        · split <;> simp [store_len]
  · rfl
theorem deqStep_len (c : Conf) (m : Mem) (f : Frame) : (deqStep c m f).1.length = m.length := by
  unfold deqStep
  split
  · split
    · rfl
    · split
      · rfl
      · split
        · simp [cas_len]
        · split
          · rfl
          · simp [store_len]
  · rfl
theorem injectStep_len (c : Conf) (m : Mem) (f : Frame) : (injectStep c m f).1.length = m.length := by
  unfold injectStep
  split
  · exact enqStep_len ..
  · split
    · exact deqStep_len ..
    · rfl
theorem callStep_len (c : Conf) (m : Mem) (f : Frame) : (callStep c m f).1.length = m.length := by
  unfold callStep
  split
  · exact injectStep_len ..
  · exact eventStep_len ..
theorem subStep_len (c : Conf) (t : List Task) (m : Mem) (i : Int) (x : Sub) : (subStep c t m i x).1.length = m.length := by
  unfold subStep
  repeat' split
  all_goals first | rfl | (dsimp only; exact callStep_len _ _ _) | (dsimp only; exact add_len _ _ _)
theorem subStep_roots (c : Conf) (t : List Task) (m : Mem) (i : Int) (x : Sub) : (subStep c t m i x).2.1.Roots.length ≤ x.Roots.length := by
  unfold subStep
  repeat' split
  all_goals first | exact Nat.le_refl _ | simp [subDone]

theorem submit_Busy_eq (pc : Int) (v : List (List Dat)) (a b c d' e f g : Int) : submit_Busy [.int .i64 pc, .sl v, .int .i64 a, .int .i64 b, .int .i64 c, .int .u64 d', .int .u64 e, .int .u64 f, .int .i64 g] = some [.bool (pc != 0)] := by
  simp [submit_Busy]
theorem eq_zip : ∀ {a b : List Int}, a.length = b.length → ((a.zip b).any (fun p => p.1 != p.2)) = !(a == b)
  | [], [], _ => rfl
  | x :: a, y :: b, h => by
    have := eq_zip (a := a) (b := b) (by simpa using h)
    simp only [List.zip_cons_cons, List.any_cons, this]
    by_cases hxy : x = y
    · simp [hxy]
    · have h1 : (x != y) = true := by simp [hxy]
      have h2 : (x == y) = false := by simp [hxy]
      simp [h1, h2]
theorem slices_Equal_eq (a b : List Int) (h : a.length ≤ 1000000) : slices_Equal__int_int [.sl (intsE a), .sl (intsE b)] = some [.bool (a == b)] := by
  unfold slices_Equal__int_int
  simp only [fV_cons]
  by_cases hl : a.length = b.length
  · have h0 : ((((intsE a).length : Int) : Int) != ((intsE b).length : Int)) = false := by simp [hl]
    simp only [h0, cond_false]
    refine (congrArg (fun z => Option.bind z outR) (scan_loop (t := a.zip b) (bad := fun p => p.1 != p.2) (lv := 0) (s := fun j => [.bool false, .int .i64 (j : Int)]) (R1 := [.bool false]) (R2 := [.bool true])
      ?_ ?_ ?_ (a.zip b).length 0 (by omega))).trans ?_
    · intro j x hx hb
      have hz := (List.getElem?_zip_eq_some (z := x)).1 hx
      have h1 := (List.getElem?_eq_some_iff.1 hz.1).1
      have h2 : ((j : Int) < ((intsE a).length : Int)) := by simp only [intsE_len]; omega
      have i1 : ∀ {α : Type} (c : Option α), ixK (intsE a) (j : Int) c = c := fun c => ix_of (by simpa using h1)
      have i2 : ∀ {α : Type} (c : Option α), ixK (intsE b) (j : Int) c = c := fun c => ix_of (by simp; omega)
      simp only [fB_cons, fJ_cons, h2, decide_true, cond_true, i1, i2, Int.toNat_natCast, ld_ints hz.1, ld_ints hz.2, fI_cons, hb]
    · intro j x hx hb
      have hz := (List.getElem?_zip_eq_some (z := x)).1 hx
      have h1 := (List.getElem?_eq_some_iff.1 hz.1).1
      have h2 : ((j : Int) < ((intsE a).length : Int)) := by simp only [intsE_len]; omega
      have i1 : ∀ {α : Type} (c : Option α), ixK (intsE a) (j : Int) c = c := fun c => ix_of (by simpa using h1)
      have i2 : ∀ {α : Type} (c : Option α), ixK (intsE b) (j : Int) c = c := fun c => ix_of (by simp; omega)
      simp only [fB_cons, fJ_cons, h2, decide_true, cond_true, i1, i2, Int.toNat_natCast, ld_ints hz.1, ld_ints hz.2, fI_cons, hb, cond_false]
      rw [wrap_i64 (by omega) (by omega)]
      rfl
    · have h1 : ¬ ((((a.zip b).length : Nat) : Int) < ((intsE a).length : Int)) := by simp only [intsE_len, List.length_zip]; omega
      simp only [fB_cons, fJ_cons, h1, decide_false, cond_false]
    · have := eq_zip hl
      simp only [List.drop_zero, this]
      cases a == b <;> simp
  · have h0 : ((((intsE a).length : Int) : Int) != ((intsE b).length : Int)) = true := by
      simp only [intsE_len, bne_iff_ne, ne_eq]; omega
    have h1 : (a == b) = false := by
      simp only [beq_eq_false_iff_ne, ne_eq]
      intro e; exact hl (by rw [e])
    simp only [h0, cond_true, Option.bind_some, outR_ret, h1]
def subSame (x y : Sub) : Bool := (x.Pc == y.Pc) && ((x.F == y.F) && (x.Roots == y.Roots))
theorem frame_beq (a b c d e f g a' b' c' d' e' f' g' : Int) : ((⟨a, b, c, d, e, f, g⟩ : Frame) == ⟨a', b', c', d', e', f', g'⟩) = ((a == a') && ((b == b') && ((c == c') && ((d == d') && ((e == e') && ((f == f') && (g == g'))))))) := by
  rw [Bool.eq_iff_iff]
  simp
theorem submit_Same_eq (p : Int) (l : List Int) (hl : l.length ≤ 1000000) (a b c d e f g p' : Int) (l' : List Int) (a' b' c' d' e' f' g' : Int) :
    submit_Same [.int .i64 p, .sl (intsE l), .int .i64 a, .int .i64 b, .int .i64 c, .int .u64 d, .int .u64 e, .int .u64 f, .int .i64 g, .int .i64 p', .sl (intsE l'), .int .i64 a', .int .i64 b', .int .i64 c', .int .u64 d', .int .u64 e', .int .u64 f', .int .i64 g'] =
      some [.bool (subSame ⟨p, l, ⟨a, b, c, d, e, f, g⟩⟩ ⟨p', l', ⟨a', b', c', d', e', f', g'⟩⟩)] := by
  unfold submit_Same subSame
  simp only [fI_cons, fV_cons, slices_Equal_eq l l' hl, Option.bind_some, fB_cons, and_ret, outR_ret, frame_beq]
def few (t : List Task) : Bool := if (t.take 41).any (fun x => decide ((x.Kids.length : Int) > 40)) then false else decide ((t.length : Int) ≤ 40)
theorem Few_eq (t : List Task) : poacherlaw04_Few [.sl (tasksE t)] = some [.bool (few t)] := by
  unfold poacherlaw04_Few few
  simp only [fV_cons]
  have T : ∀ (j : Nat) (x : Task), (t.take 41)[j]? = some x → t[j]? = some x ∧ j ≤ 40 := fun j x h => by
    rw [List.getElem?_take] at h
    split at h
    · exact ⟨h, by omega⟩
    · cases h
  refine (congrArg (fun z => Option.bind z outR) (scan_loop (t := t.take 41) (bad := fun x => decide ((x.Kids.length : Int) > 40)) (lv := 0) (s := fun j => [.bool false, .int .i64 (j : Int)]) (R1 := [.bool false]) (R2 := [.bool (decide ((t.length : Int) ≤ 40))])
      ?_ ?_ ?_ (t.take 41).length 0 (by omega))).trans ?_
  · intro j x hx hb
    obtain ⟨h0, h40⟩ := T j x hx
    have h1 := (List.getElem?_eq_some_iff.1 h0).1
    have h2 : ((j : Int) < ((tasksE t).length : Int)) := by simp only [tasksE_len]; omega
    have h3 : ((j : Int) ≤ 40) := by omega
    have i1 : ∀ {α : Type} (c : Option α), ixK (tasksE t) (j : Int) c = c := fun c => ix_of (by simpa using h1)
    have l1 : ∀ {α : Type} (c : List Dat → Option α), ldK (tasksE t) j 2 1 c = c [.sl (intsE x.Kids)] := fun c => ldK_of (tasksE_get h0) rfl
    simp only [fB_cons, fJ_cons, h2, h3, decide_true, cond_true, i1, Int.toNat_natCast, l1, fV_cons, intsE_len]
    simp only [hb, cond_true]
  · intro j x hx hb
    obtain ⟨h0, h40⟩ := T j x hx
    have h1 := (List.getElem?_eq_some_iff.1 h0).1
    have h2 : ((j : Int) < ((tasksE t).length : Int)) := by simp only [tasksE_len]; omega
    have h3 : ((j : Int) ≤ 40) := by omega
    have i1 : ∀ {α : Type} (c : Option α), ixK (tasksE t) (j : Int) c = c := fun c => ix_of (by simpa using h1)
    have l1 : ∀ {α : Type} (c : List Dat → Option α), ldK (tasksE t) j 2 1 c = c [.sl (intsE x.Kids)] := fun c => ldK_of (tasksE_get h0) rfl
    simp only [fB_cons, fJ_cons, h2, h3, decide_true, cond_true, i1, Int.toNat_natCast, l1, fV_cons, intsE_len]
    simp only [hb, cond_false]
    rw [wrap_i64 (by omega) (by omega)]
    rfl
  · have hl : (t.take 41).length = min 41 t.length := List.length_take
    simp only [fB_cons, fJ_cons, tasksE_len]
    by_cases h1 : (((t.take 41).length : Nat) : Int) < (t.length : Int)
    · have h2 : ¬ (((t.take 41).length : Nat) : Int) ≤ 40 := by omega
      simp only [h1, h2, decide_true, decide_false, cond_true, cond_false]
    · simp only [h1, decide_false, cond_false]
  · simp only [List.drop_zero]
    split <;> rfl

/-! ### the chapter's example -/
def awIter (c : Conf) (t : List Task) : Nat → Mem → Int → Sub → Mem × Int × Sub
  | 0, m, n, x => (m, n, x)
  | k + 1, m, n, x => awIter c t k (subStep c t m 0 x).1 (IntKind.i64.wrap (n + ((subStep c t m 0 x).2.2.length : Int))) (subStep c t m 0 x).2.1
theorem awake19_eq : poacherlaw19_awake [] = some [.bool true] := by
  unfold poacherlaw19_awake
  have hx : (Dat.sl [[.int .i64 0]]) = .sl (intsE [0]) := rfl
  have ht : (Dat.sl [[.int .i64 1, .sl []]]) = .sl (tasksE [⟨1, []⟩]) := rfl
  have hT : TasksOK [⟨1, []⟩] := ⟨by simp, by simp⟩
  simp only [hx, ht, lay_New_eq, Option.bind_some, fV_cons, submit_New_eq [0] (by simp), Sub.e, Frame.e, fI_cons, submit_May_eq _ _ _ _ _ hT, fB_cons]
  have go : ∀ (k : Nat) (i : Int) (m : Mem) (n : Int) (x : Sub), i + k = 10 → m.length ≤ 1000000 → x.Roots.length ≤ 1000000 → ∀ body : List Dat → Option Out,
      (∀ (i : Int) (m : Mem) (n : Int) (x : Sub), m.length ≤ 1000000 → x.Roots.length ≤ 1000000 → i < 10 → 0 ≤ i → body (.sl (memE m) :: .int .i64 n :: .int .i64 i :: .int .i64 1 :: .int .i64 1 :: .int .i64 1 :: .int .i64 0 :: x.e) =
        some (.cont 0 (.sl (memE (subStep ⟨1, 1, 1, 0⟩ [⟨1, []⟩] m 0 x).1) :: .int .i64 (IntKind.i64.wrap (n + ((subStep ⟨1, 1, 1, 0⟩ [⟨1, []⟩] m 0 x).2.2.length : Int))) :: .int .i64 (i + 1) :: .int .i64 1 :: .int .i64 1 :: .int .i64 1 :: .int .i64 0 :: (subStep ⟨1, 1, 1, 0⟩ [⟨1, []⟩] m 0 x).2.1.e))) →
      0 ≤ i → loopE 0 body (.sl (memE m) :: .int .i64 n :: .int .i64 i :: .int .i64 1 :: .int .i64 1 :: .int .i64 1 :: .int .i64 0 :: x.e) =
        loopE 0 body (.sl (memE (awIter ⟨1, 1, 1, 0⟩ [⟨1, []⟩] k m n x).1) :: .int .i64 (awIter ⟨1, 1, 1, 0⟩ [⟨1, []⟩] k m n x).2.1 :: .int .i64 10 :: .int .i64 1 :: .int .i64 1 :: .int .i64 1 :: .int .i64 0 :: (awIter ⟨1, 1, 1, 0⟩ [⟨1, []⟩] k m n x).2.2.e) := by
    intro k
    induction k with
    | zero =>
      intro i m n x hi _ _ body _ _
      have : i = 10 := by omega
      subst this
      rfl
    | succ k ih =>
      intro i m n x hi hm hr body hb h0
      rw [loopE_next (hb i m n x hm hr (by omega) h0)]
      exact ih (i + 1) _ _ _ (by omega) (by rw [subStep_len]; exact hm) (Nat.le_trans (subStep_roots ..) hr) body hb (by omega)
  have := go 10 0 (newMem ⟨1, 1, 1, 0⟩) 0 (subNew [0]) (by decide) (by decide) (by decide)
  simp only [Sub.e, Frame.e, subNew] at this
  simp only [subNew]
  rw [this]
  · rw [loopE_ret (r := [.bool true])]
    · rfl
    · have e1 : (awIter ⟨1, 1, 1, 0⟩ [⟨1, []⟩] 10 (newMem ⟨1, 1, 1, 0⟩) 0 ⟨0, [0], noF⟩).2.1 = 1 := by decide
      have e2 : (awIter ⟨1, 1, 1, 0⟩ [⟨1, []⟩] 10 (newMem ⟨1, 1, 1, 0⟩) 0 ⟨0, [0], noF⟩).2.2.Roots = [] := by decide
      have e3 : (awIter ⟨1, 1, 1, 0⟩ [⟨1, []⟩] 10 (newMem ⟨1, 1, 1, 0⟩) 0 ⟨0, [0], noF⟩).2.2.Pc = 0 := by decide
      have e4 : load (awIter ⟨1, 1, 1, 0⟩ [⟨1, []⟩] 10 (newMem ⟨1, 1, 1, 0⟩) 0 ⟨0, [0], noF⟩).1 0 = 1 := by decide
      have e5 : subMay ⟨1, 1, 1, 0⟩ [⟨1, []⟩] (newMem ⟨1, 1, 1, 0⟩) ⟨0, [0], noF⟩ = true := by decide
      have e5' : subMay ⟨1, 1, 1, 0⟩ [⟨1, []⟩] (newMem ⟨1, 1, 1, 0⟩) ⟨0, [0], ⟨0, 0, 0, 0, 0, 0, 0⟩⟩ = true := e5
      have h0 : ¬ ((10 : Int) < 10) := by decide
      clear this go
      generalize awIter ⟨1, 1, 1, 0⟩ [⟨1, []⟩] 10 (newMem ⟨1, 1, 1, 0⟩) 0 ⟨0, [0], noF⟩ = q at *
      simp only [fV_cons, fJ_cons, h0, decide_false, cond_false, e1, e2, e3, submit_Busy_eq, cell_Load_eq, e4, submit_Same_eq 0 [] (by simp), Option.bind_some, fB_cons, fI_cons, noF, e5', cond_true]
      simp [subSame, intsE]
  · intro i m n x hm hr hi h0
    have h1 : decide (i < 10) = true := by simpa using hi
    simp only [fV_cons, fJ_cons, h1, cond_true, submit_Step_eq _ _ _ _ _ hT m hm _ _ _ hr, Option.bind_some, subOut, fI_cons, evsE_len]
    rw [wrap_i64 (n := i + 1) (by omega) (by omega)]
  · decide
end Pq

namespace Pq
open Go Rx

/-! ### what a statement's data are -/
theorem OKDs_cons {c : CT} {r : List CT} {ds : List Dat} (h : OKDs (c :: r) ds) : ∃ d s, ds = d :: s ∧ OKD c d ∧ OKDs r s := by
  cases ds with
  | nil => simp [OKDs] at h
  | cons d s => exact ⟨d, s, rfl, by simpa [OKDs] using h⟩
theorem OKDs_nil {ds : List Dat} (h : OKDs [] ds) : ds = [] := by
  cases ds with
  | nil => rfl
  | cons d s => simp [OKDs] at h
def Rng (k : IntKind) (n : Int) : Prop := (Lit.int k n).wf = true
theorem OKD_int {k : IntKind} {d : Dat} (h : OKD (.int k) d) : ∃ n, d = .int k n ∧ Rng k n := by
  cases d with
  | int k' n => simp only [OKD] at h; exact ⟨n, by rw [h.1], h.2⟩
  | bool b => simp [OKD] at h
  | sl r => simp [OKD] at h
theorem Rng_u64 {n : Int} (h : Rng .u64 n) : U n := by
  simp [Rng, Lit.wf, IntKind.min, IntKind.max, IntKind.bits, IntKind.signed] at h
  unfold U
  omega
theorem Rng_i64 {n : Int} (h : Rng .i64 n) : -9223372036854775808 ≤ n ∧ n < 9223372036854775808 := by
  simp [Rng, Lit.wf, IntKind.min, IntKind.max, IntKind.bits, IntKind.signed] at h
  omega
theorem rows_map {α : Type} {f : α → List Dat} {p : α → Prop} : ∀ {rows : List (List Dat)}, (∀ r ∈ rows, ∃ x, r = f x ∧ p x) → ∃ l : List α, rows = l.map f ∧ ∀ x ∈ l, p x
  | [], _ => ⟨[], rfl, by simp⟩
  | r :: rows, h => by
    obtain ⟨x, hx, hp⟩ := h r List.mem_cons_self
    obtain ⟨l, hl, hq⟩ := rows_map (rows := rows) (fun r hr => h r (List.mem_cons_of_mem _ hr))
    exact ⟨x :: l, by rw [hx, hl]; rfl, by simpa using ⟨hp, hq⟩⟩
theorem OKD_sl {l : List CT} {d : Dat} (h : OKD (.sl l) d) : ∃ rows, d = .sl rows ∧ ∀ r ∈ rows, OKDs l r := by
  cases d with
  | int k' n => simp [OKD] at h
  | bool b => simp [OKD] at h
  | sl r => simp only [OKD] at h; exact ⟨r, rfl, h.2⟩
theorem OKD_mem {d : Dat} (h : OKD (.sl [.int .u64]) d) : ∃ m, d = .sl (memE m) ∧ ∀ x ∈ m, U x := by
  obtain ⟨rows, rfl, hh⟩ := OKD_sl h
  obtain ⟨l, rfl, hp⟩ := rows_map (f := fun x => [Dat.int .u64 x]) (p := U) (rows := rows) (fun r hr => by
    obtain ⟨d, s, rfl, h1, h2⟩ := OKDs_cons (hh r hr)
    obtain ⟨n, rfl, hn⟩ := OKD_int h1
    rw [OKDs_nil h2]
    exact ⟨n, rfl, Rng_u64 hn⟩)
  exact ⟨l, rfl, hp⟩
theorem OKD_ints {d : Dat} (h : OKD (.sl [.int .i64]) d) : ∃ m, d = .sl (intsE m) ∧ ∀ x ∈ m, Rng .i64 x := by
  obtain ⟨rows, rfl, hh⟩ := OKD_sl h
  obtain ⟨l, rfl, hp⟩ := rows_map (f := fun x => [Dat.int .i64 x]) (p := Rng .i64) (rows := rows) (fun r hr => by
    obtain ⟨d, s, rfl, h1, h2⟩ := OKDs_cons (hh r hr)
    obtain ⟨n, rfl, hn⟩ := OKD_int h1
    rw [OKDs_nil h2]
    exact ⟨n, rfl, hn⟩)
  exact ⟨l, rfl, hp⟩
theorem OKD_tasks {d : Dat} (h : OKD (.sl [.int .i64, .sl [.int .i64]]) d) : ∃ t, d = .sl (tasksE t) ∧ ∀ x ∈ t, Rng .i64 x.Work ∧ ∀ k ∈ x.Kids, Rng .i64 k := by
  obtain ⟨rows, rfl, hh⟩ := OKD_sl h
  obtain ⟨l, rfl, hp⟩ := rows_map (f := Task.e) (p := fun x => Rng .i64 x.Work ∧ ∀ k ∈ x.Kids, Rng .i64 k) (rows := rows) (fun r hr => by
    obtain ⟨d, s, rfl, h1, h2⟩ := OKDs_cons (hh r hr)
    obtain ⟨n, rfl, hn⟩ := OKD_int h1
    obtain ⟨d, s, rfl, h3, h4⟩ := OKDs_cons h2
    obtain ⟨k, rfl, hk⟩ := OKD_ints h3
    rw [OKDs_nil h4]
    exact ⟨⟨n, k⟩, rfl, hn, hk⟩)
  exact ⟨l, rfl, hp⟩
theorem OKDs_int {k : IntKind} {r : List CT} {ds : List Dat} (h : OKDs (.int k :: r) ds) : ∃ n s, ds = .int k n :: s ∧ Rng k n ∧ OKDs r s := by
  obtain ⟨d, s, rfl, h1, h2⟩ := OKDs_cons h
  obtain ⟨n, rfl, hn⟩ := OKD_int h1
  exact ⟨n, s, rfl, hn, h2⟩
theorem OKDs_mem {r : List CT} {ds : List Dat} (h : OKDs (.sl [.int .u64] :: r) ds) : ∃ m s, ds = .sl (memE m) :: s ∧ (∀ x ∈ m, U x) ∧ OKDs r s := by
  obtain ⟨d, s, rfl, h1, h2⟩ := OKDs_cons h
  obtain ⟨n, rfl, hn⟩ := OKD_mem h1
  exact ⟨n, s, rfl, hn, h2⟩
theorem OKDs_ints {r : List CT} {ds : List Dat} (h : OKDs (.sl [.int .i64] :: r) ds) : ∃ m s, ds = .sl (intsE m) :: s ∧ (∀ x ∈ m, Rng .i64 x) ∧ OKDs r s := by
  obtain ⟨d, s, rfl, h1, h2⟩ := OKDs_cons h
  obtain ⟨n, rfl, hn⟩ := OKD_ints h1
  exact ⟨n, s, rfl, hn, h2⟩
theorem OKDs_tasks {r : List CT} {ds : List Dat} (h : OKDs (.sl [.int .i64, .sl [.int .i64]] :: r) ds) : ∃ m s, ds = .sl (tasksE m) :: s ∧ (∀ x ∈ m, Rng .i64 x.Work ∧ ∀ k ∈ x.Kids, Rng .i64 k) ∧ OKDs r s := by
  obtain ⟨d, s, rfl, h1, h2⟩ := OKDs_cons h
  obtain ⟨n, rfl, hn⟩ := OKD_tasks h1
  exact ⟨n, s, rfl, hn, h2⟩
theorem few_ok {t : List Task} (h : few t = true) : TasksOK t := by
  unfold few at h
  split at h
  · cases h
  · rename_i h1
    simp only [decide_eq_true_eq] at h
    refine ⟨by omega, fun x hx => ?_⟩
    simp only [List.any_eq_true, not_exists, not_and] at h1
    have := h1 x (by rw [List.take_of_length_le (by omega)]; exact hx)
    simp at this
    omega
theorem subMay_len {c : Conf} {t : List Task} {m m' : Mem} {x : Sub} (h : m.length = m'.length) : subMay c t m x = subMay c t m' x := by
  unfold subMay
  rw [h]
theorem load_store {m : Mem} {i v : Int} (h : isCell m i = true) : load (store m i v) i = v := by
  obtain ⟨h1, h2, _⟩ := isCell_spec h
  have : i.toNat < m.length := by omega
  simp [load, store, h1, this]
theorem load_store_ne {m : Mem} {i j v : Int} (h : i ≠ j) : load (store m i v) j = load m j := by
  unfold load store
  split
  · split
    · have : i.toNat ≠ j.toNat := by omega
      simp [this]
    · rfl
  · rfl
theorem Size_pos {c : Conf} (h : May c = true) : 12 ≤ Size c := by
  obtain ⟨h1, h2, h3, h4⟩ := May_spec h
  unfold Size
  rw [if_pos h]
  unfold base
  have : c.W = 1 ∨ c.W = 2 ∨ c.W = 3 ∨ c.W = 4 ∨ c.W = 5 ∨ c.W = 6 ∨ c.W = 7 ∨ c.W = 8 := by omega
  rcases this with h | h | h | h | h | h | h | h <;> rw [h] <;> omega
theorem subMay_spec {c : Conf} {t : List Task} {m : Mem} {x : Sub} (h : subMay c t m x = true) : May c = true ∧ (m.length : Int) = Size c ∧ forestMay t = true ∧ 0 ≤ x.Pc ∧ x.Pc < 6 ∧ ∃ r rest, x.Roots = r :: rest ∧ 0 ≤ r ∧ r < t.length := by
  simp only [subMay, Bool.and_eq_true, decide_eq_true_eq, beq_iff_eq] at h
  obtain ⟨h0, h1, h2, h3, h4, h5⟩ := h
  refine ⟨h0, h1, h2, h3, h4, ?_⟩
  cases hr : x.Roots with
  | nil => rw [hr] at h5; cases h5
  | cons r rest =>
    rw [hr] at h5
    simp only [Bool.and_eq_true, decide_eq_true_eq] at h5
    exact ⟨r, rest, rfl, h5.1, h5.2⟩
theorem isCell_low {c : Conf} {m : Mem} (h : May c = true) (hl : (m.length : Int) = Size c) {i : Int} (h0 : 0 ≤ i) (h1 : i < 12) : isCell m i = true := by
  have := Size_pos h
  simp only [isCell, Bool.and_eq_true, decide_eq_true_eq]
  omega
end Pq

namespace Pq
open Go Rx
/-- How many cells are not the same. -/
def diffs : List Int → List Int → Int
  | x :: a, y :: b => (if x = y then 0 else 1) + diffs a b
  | _, _ => 0
theorem diffs_rng : ∀ (a b : List Int), 0 ≤ diffs a b ∧ diffs a b ≤ a.length
  | [], _ => by simp [diffs]
  | x :: a, [] => by simp [diffs]; omega
  | x :: a, y :: b => by
    have := diffs_rng a b
    simp only [diffs, List.length_cons]
    split <;> omega
theorem diffs_self : ∀ (a : List Int), diffs a a = 0
  | [] => rfl
  | x :: a => by simp [diffs, diffs_self a]
theorem diffs_set : ∀ (a : List Int) (i : Nat) (v : Int), diffs (a.set i v) a ≤ 1
  | [], _, _ => by simp [diffs]
  | x :: a, 0, v => by
    simp only [List.set_cons_zero, diffs, diffs_self]
    split <;> omega
  | x :: a, i + 1, v => by
    have := diffs_set a i v
    simp only [List.set_cons_succ, diffs, if_true]
    omega
theorem diffs_store (m : Mem) (i v : Int) : diffs (store m i v) m ≤ 1 := by
  unfold store
  split
  · exact diffs_set _ _ _
  · rw [diffs_self]; omega
theorem diffs_cas (m : Mem) (i a b : Int) : diffs (cas m i a b).1 m ≤ 1 := by
  unfold cas
  split
  · exact diffs_store _ _ _
  · simp only; rw [diffs_self]; omega
theorem diffs_same (m : Mem) : diffs m m ≤ 1 := by rw [diffs_self]; omega
theorem wait_one (c : Conf) (m : Mem) (f : Frame) : diffs (waitStep c m f).1 m ≤ 1 := by
  unfold waitStep
  repeat' split
  all_goals first | exact diffs_same _ | exact diffs_cas _ _ _ _ | exact diffs_store _ _ _
theorem note_one (c : Conf) (m : Mem) (f : Frame) : diffs (noteStep c m f).1 m ≤ 1 := by
  unfold noteStep
  split
  · split
    · exact diffs_same _
    · split
      · exact diffs_cas _ _ _ _
      · split <;> exact diffs_store _ _ _
  · exact diffs_same _
theorem enq_one (c : Conf) (m : Mem) (f : Frame) : diffs (enqStep c m f).1 m ≤ 1 := by
  unfold enqStep
  split
  · split
    · exact diffs_same _
    · split
      · exact diffs_same _
      · split
        · exact diffs_cas _ _ _ _
        · split <;> exact diffs_store _ _ _
  · exact diffs_same _
theorem deq_one (c : Conf) (m : Mem) (f : Frame) : diffs (deqStep c m f).1 m ≤ 1 := by
  unfold deqStep
  split
  · split
    · exact diffs_same _
    · split
      · exact diffs_same _
      · split
        · exact diffs_cas _ _ _ _
        · split
          · exact diffs_same _
          · exact diffs_store _ _ _
  · exact diffs_same _
theorem call_one (c : Conf) (m : Mem) (f : Frame) : diffs (callStep c m f).1 m ≤ 1 := by
  unfold callStep injectStep eventStep
  split
  · split
    · exact enq_one _ _ _
    · split
      · exact deq_one _ _ _
      · exact diffs_same _
  · split
    · exact wait_one _ _ _
    · split
      · exact note_one _ _ _
      · exact diffs_same _
theorem add_one (m : Mem) (i v : Int) : diffs (add m i v).1 m ≤ 1 := diffs_store _ _ _
theorem sub_one (c : Conf) (t : List Task) (m : Mem) (i : Int) (x : Sub) : diffs (subStep c t m i x).1 m ≤ 1 := by
  unfold subStep
  repeat' split
  all_goals first | exact diffs_same _ | (dsimp only; exact call_one _ _ _) | (dsimp only; exact add_one _ _ _)
/-- A loop that counts where two are not the same. -/
theorem count_loop {a b : List Int} (hl : a.length = b.length) (hb : b.length ≤ 500) {body : List Dat → Option Out} {E : Dat}
    (h1 : ∀ (j : Nat) (n x y : Int), a[j]? = some x → b[j]? = some y → 0 ≤ n → n ≤ j → body [.sl (memE a), E, .int .i64 n, .int .i64 (j : Int)] =
      some (.cont 0 [.sl (memE a), E, .int .i64 (if x = y then n else n + 1), .int .i64 ((j + 1 : Nat) : Int)])) :
    ∀ (k j : Nat) (n : Int), j + k = b.length → 0 ≤ n → n ≤ j → loopE 0 body [.sl (memE a), E, .int .i64 n, .int .i64 (j : Int)] =
      loopE 0 body [.sl (memE a), E, .int .i64 (n + diffs (a.drop j) (b.drop j)), .int .i64 ((b.length : Nat) : Int)]
  | 0, j, n, hj, _, _ => by
    have : j = b.length := by omega
    subst this
    simp [diffs, ← hl]
  | k + 1, j, n, hj, h0, hn => by
    obtain ⟨x, hx, hd⟩ := drop_cons (l := a) (j := j) (by omega)
    obtain ⟨y, hy, he⟩ := drop_cons (l := b) (j := j) (by omega)
    rw [loopE_next (h1 j n x y hx hy h0 hn), count_loop hl hb h1 k (j + 1) _ (by omega) (by split <;> omega) (by split <;> omega), hd, he]
    have e : (if x = y then n else n + 1) + diffs (a.drop (j + 1)) (b.drop (j + 1)) = n + ((if x = y then 0 else 1) + diffs (a.drop (j + 1)) (b.drop (j + 1))) := by
      split <;> omega
    simp only [diffs, e]
theorem sub_kinds (c : Conf) (t : List Task) (m : Mem) (i : Int) (x : Sub) (r : Int) (rest : List Int) (h : subMay c t m x = true) (hr : x.Roots = r :: rest) :
    ((subStep c t m i x).2.1.Roots = r :: rest ∧ (subStep c t m i x).2.2 = []) ∨ ((subStep c t m i x).2.1.Roots = rest ∧ (subStep c t m i x).2.1.Pc = 0 ∧ (subStep c t m i x).2.2 = []) ∨
    ((subStep c t m i x).2.1.Roots = r :: rest ∧ (subStep c t m i x).2.2 = [⟨0, r, i⟩]) ∨ ((subStep c t m i x).2.1.Roots = rest ∧ (subStep c t m i x).2.1.Pc = 0 ∧ ((subStep c t m i x).2.2 = [⟨1, r, i⟩] ∨ (subStep c t m i x).2.2 = [⟨1, r, i⟩, ⟨5, 0, i⟩])) := by
  unfold subStep
  rw [if_pos h]
  repeat' split
  all_goals simp [subDone, hr]
theorem law_SubmitOnce : ∀ ds, OKDs [.int .i64, .int .i64, .int .i64, .int .i64, .sl [.int .i64, .sl [.int .i64]], .sl [.int .u64], .int .i64, .int .i64, .sl [.int .i64], .int .i64, .int .i64, .int .i64, .int .u64, .int .u64, .int .u64, .int .i64] ds → poacherlaw19_SubmitOnce ds = some [.bool true] := by
  intro ds h
  obtain ⟨w, s0, rfl, r0, h0⟩ := OKDs_int h
  obtain ⟨d, s1, rfl, r1, h1⟩ := OKDs_int h0
  obtain ⟨i, s2, rfl, r2, h2⟩ := OKDs_int h1
  obtain ⟨s, s3, rfl, r3, h3⟩ := OKDs_int h2
  obtain ⟨t, s4, rfl, r4, h4⟩ := OKDs_tasks h3
  obtain ⟨m, s5, rfl, r5, h5⟩ := OKDs_mem h4
  obtain ⟨who, s6, rfl, r6, h6⟩ := OKDs_int h5
  obtain ⟨pc, s7, rfl, r7, h7⟩ := OKDs_int h6
  obtain ⟨roots, s8, rfl, r8, h8⟩ := OKDs_ints h7
  obtain ⟨f1, s9, rfl, r9, h9⟩ := OKDs_int h8
  obtain ⟨f2, s10, rfl, r10, h10⟩ := OKDs_int h9
  obtain ⟨f3, s11, rfl, r11, h11⟩ := OKDs_int h10
  obtain ⟨f4, s12, rfl, r12, h12⟩ := OKDs_int h11
  obtain ⟨f5, s13, rfl, r13, h13⟩ := OKDs_int h12
  obtain ⟨f6, s14, rfl, r14, h14⟩ := OKDs_int h13
  obtain ⟨f7, s15, rfl, r15, h15⟩ := OKDs_int h14
  rw [OKDs_nil h15]
  unfold poacherlaw19_SubmitOnce
  simp only [fI_cons, fV_cons, awake19_eq, Few_eq, Option.bind_some, fB_cons, Bool.not_true, cond_false, memE_len, intsE_len]
  cases hf : few t
  · rfl
  have ht := few_ok hf
  by_cases c1 : (m.length : Int) > 500
  · simp [c1]
  by_cases c2 : (roots.length : Int) > 60
  · simp [c1, c2]
  have hm : m.length ≤ 1000000 := by omega
  have hrl : roots.length ≤ 1000000 := by omega
  have hq1 := subStep_len ⟨w, d, i, s⟩ t m who ⟨pc, roots, ⟨f1, f2, f3, f4, f5, f6, f7⟩⟩
  have hq2 := sub_one ⟨w, d, i, s⟩ t m who ⟨pc, roots, ⟨f1, f2, f3, f4, f5, f6, f7⟩⟩
  simp only [c1, c2, decide_false, cond_false, Bool.not_true, submit_Step_eq _ _ _ _ t ht _ hm _ _ roots hrl, subOut, Option.bind_some, fI_cons, fV_cons, memE_len, intsE_len, evsE_len, hq1, bne_self_eq_false, submit_May_eq _ _ _ _ t ht, fB_cons]
  have hE : ¬ (((subStep ⟨w, d, i, s⟩ t m who ⟨pc, roots, ⟨f1, f2, f3, f4, f5, f6, f7⟩⟩).2.2.length : Nat) : Int) > 2 := by
    have : (subStep ⟨w, d, i, s⟩ t m who ⟨pc, roots, ⟨f1, f2, f3, f4, f5, f6, f7⟩⟩).2.2.length ≤ 2 := by
      unfold subStep
      repeat' split
      all_goals simp
    omega
  simp only [hE, decide_false, cond_false]
  refine (congrArg (fun z => Option.bind z outR) ((count_loop (a := (subStep ⟨w, d, i, s⟩ t m who ⟨pc, roots, ⟨f1, f2, f3, f4, f5, f6, f7⟩⟩).1) (b := m) hq1 (by omega) ?_ m.length 0 0 (by omega) (by omega) (by omega)).trans (loopE_ret (r := [.bool true]) ?_))).trans rfl
  · intro j n x y hx hy h0 hn
    have g1 := (List.getElem?_eq_some_iff.1 hy).1
    have g2 : ((j : Int) < (m.length : Int)) := by omega
    have i1 : ∀ {α : Type} (c : Option α), ixK (memE m) (j : Int) c = c := fun c => ix_of (by simpa using g1)
    have i2 : ∀ {α : Type} (c : Option α), ixK (memE (subStep ⟨w, d, i, s⟩ t m who ⟨pc, roots, ⟨f1, f2, f3, f4, f5, f6, f7⟩⟩).1) (j : Int) c = c := fun c => ix_of (by simp; omega)
    simp only [fV_cons, fJ_cons, g2, decide_true, cond_true, i1, i2, Int.toNat_natCast, ld_mem hx, ld_mem hy, fI_cons]
    by_cases hxy : x = y
    · simp only [hxy, bne_self_eq_false, cond_false, if_true]
      rw [wrap_i64 (by omega) (by omega)]
      rfl
    · have hb : (x != y) = true := by simp [hxy]
      simp only [hb, cond_true, hxy, if_false]
      rw [wrap_i64 (by omega) (by omega), wrap_i64 (by omega) (by omega)]
      rfl
  · have g1 : ¬ ((m.length : Int) < (m.length : Int)) := by omega
    simp only [fV_cons, fJ_cons, g1, decide_false, cond_false, List.drop_zero, Int.zero_add]
    have hd0 := (diffs_rng (subStep ⟨w, d, i, s⟩ t m who ⟨pc, roots, ⟨f1, f2, f3, f4, f5, f6, f7⟩⟩).1 m).1
    cases hM : subMay ⟨w, d, i, s⟩ t m ⟨pc, roots, ⟨f1, f2, f3, f4, f5, f6, f7⟩⟩
    · have hq : subStep ⟨w, d, i, s⟩ t m who ⟨pc, roots, ⟨f1, f2, f3, f4, f5, f6, f7⟩⟩ = (m, ⟨pc, roots, ⟨f1, f2, f3, f4, f5, f6, f7⟩⟩, []) := by simp [subStep, hM]
      simp only [hq, diffs_self, submit_Same_eq _ _ hrl, Bool.not_false, cond_true, Option.bind_some, fB_cons]
      simp [subSame]
    · obtain ⟨_, _, _, _, _, r, rest, hr, _⟩ := subMay_spec hM
      simp only at hr
      have hk := sub_kinds ⟨w, d, i, s⟩ t m who ⟨pc, roots, ⟨f1, f2, f3, f4, f5, f6, f7⟩⟩ r rest hM hr
      generalize subStep ⟨w, d, i, s⟩ t m who ⟨pc, roots, ⟨f1, f2, f3, f4, f5, f6, f7⟩⟩ = q at *
      generalize diffs q.1 m = n at *
      have hn : decide (n ≤ 1) = true := by simpa using hq2
      have c2' : (rest.length : Int) + 1 ≤ 60 := by rw [hr] at c2; simpa using c2
      have hw3 : IntKind.i64.wrap ((rest.length : Int) + 1 - 1) = rest.length := by
        rw [wrap_i64 (by omega) (by omega)]; omega
      have hl0 : (((rest.length : Int) + 1) == 0) = false := by
        simp only [beq_eq_false_iff_ne, ne_eq]; omega
      have hl1 : ((rest.length : Int) + 1 == (rest.length : Int)) = false := by
        simp only [beq_eq_false_iff_ne, ne_eq]; omega
      have hl2 : ((rest.length : Int) == (rest.length : Int) + 1) = false := by
        simp only [beq_eq_false_iff_ne, ne_eq]; omega
      subst hr
      have hix : ∀ {α : Type} (c : Option α), ixK (intsE (r :: rest)) 0 c = c := fun c => ix_ints (by decide) (by simp only [List.length_cons]; omega)
      have hld : ∀ {α : Type} (c : List Dat → Option α), ldK (intsE (r :: rest)) (Int.toNat 0) 1 0 c = c [.int .i64 r] := fun c => ld_ints rfl
      have ei : ∀ {α : Type} (x : Ev) (l : List Ev) (c : Option α), ixK (evsE (x :: l)) 0 c = c := fun x l c => ixK_of ⟨by decide, by simp⟩
      have el : ∀ {α : Type} (x : Ev) (l : List Ev) (off : Nat) (c : List Dat → Option α), ldK (evsE (x :: l)) (Int.toNat 0) 3 off c = c ([.int .i64 x.Kind, .int .i64 x.Task, .int .i64 x.Who].drop off) := fun x l off c => ldK_of rfl rfl
      simp only [Bool.not_true, cond_false, List.length_cons, Int.natCast_add, Int.natCast_one, hl0, hix, hld, fI_cons, hn, cond_true, submit_Busy_eq, Option.bind_some, fB_cons, hw3]
      rcases hk with ⟨h1, h2⟩ | ⟨h1, h2, h3⟩ | ⟨h1, h2⟩ | ⟨h1, h2, h3 | h3⟩
      · simp only [h1, h2, List.length_cons, List.length_nil]
        simp [hl1]
      · simp only [h1, h2, h3, List.length_nil]
        simp
      · simp only [h1, h2, List.length_cons, List.length_nil, ei, el]
        simp [hl1]
      · simp only [h1, h2, h3, List.length_cons, List.length_nil, ei, el]
        simp
      · simp only [h1, h2, h3, List.length_cons, List.length_nil, ei, el]
        simp
end Pq
