/-
  The program's functions do to data what is told. No conditions.
-/
import Derived.Test.YtjkiookhmmalkaaD
import Derived.Test.YtjkiookhmmalkaaProg
namespace RxY
open Go Go.Proofs Rx Pq
def eqts : List Nat := [34, 35, 38, 39, 49, 50]
def gl : GL := [(22, 23, 1, [.sl []]), (23, 3, 1, [.int .i64 0]), (26, 33, 1, [.int .u64 0]), (27, 33, 1, [.int .u64 0]), (28, 35, 7, [.int .i64 0, .int .i64 0, .int .i64 0, .int .u64 0, .int .u64 0, .int .u64 0, .int .i64 0]), (40, 75, 2, [.int .i64 0, .sl []]), (44, 50, 3, [.int .i64 0, .int .i64 0, .int .i64 0]), (96, 4, 1, [.bool false])]
theorem progOK : ProgOK Try.prog (fun t => eqts.contains t) (Gof gl) := progOK_of (by kernel_rfl)
noncomputable def lay_in_s : Sg := { args := [.leaf, .leaf, .leaf], res := .one (.leaf), os := [.ro true], fn := lay_in }
theorem lay_in_ok : FnOK Try.prog 54 lay_in_s :=
  fn_of progOK Try.func54 (sigs := []) (K := []) (H := []) (lp := []) (un := [])
    (by kernel_rfl) kof_nil (pats := [(.int .i64 (.v 0)), (.int .i64 (.v 1)), (.int .i64 (.v 2))]) 3 0 0 (by decide) rfl (by kernel_rfl) (by kernel_rfl) (by kernel_rfl) (fun ds => by kernel_rfl)
noncomputable def lay_May_s : Sg := { args := [.agg 4], res := .one (.leaf), os := [.ro true], fn := lay_May }
theorem lay_May_ok : FnOK Try.prog 22 lay_May_s :=
  fn_of progOK Try.func22 (sigs := [(54, (.bool (.c false)))]) (K := [(54, lay_in_s)]) (H := []) (lp := []) (un := [])
    (by kernel_rfl) (kof_cons lay_in_ok kof_nil) (pats := [(.agg [(.int .i64 (.v 0)), (.int .i64 (.v 1)), (.int .i64 (.v 2)), (.int .i64 (.v 3))])]) 4 0 0 (by decide) rfl (by kernel_rfl) (by kernel_rfl) (by kernel_rfl) (fun ds => by kernel_rfl)
noncomputable def lay_base_s : Sg := { args := [.agg 4, .leaf], res := .one (.leaf), os := [.ro true], fn := lay_base }
theorem lay_base_ok : FnOK Try.prog 68 lay_base_s :=
  fn_of progOK Try.func68 (sigs := []) (K := []) (H := []) (lp := []) (un := [])
    (by kernel_rfl) kof_nil (pats := [(.agg [(.int .i64 (.v 0)), (.int .i64 (.v 1)), (.int .i64 (.v 2)), (.int .i64 (.v 3))]), (.int .i64 (.v 4))]) 5 0 0 (by decide) rfl (by kernel_rfl) (by kernel_rfl) (by kernel_rfl) (fun ds => by kernel_rfl)
noncomputable def lay_Size_s : Sg := { args := [.agg 4], res := .one (.leaf), os := [.ro true], fn := lay_Size }
theorem lay_Size_ok : FnOK Try.prog 51 lay_Size_s :=
  fn_of progOK Try.func51 (sigs := [(22, (.bool (.c false))), (68, (.int .i64 (.c 0)))]) (K := [(22, lay_May_s), (68, lay_base_s)]) (H := []) (lp := []) (un := [])
    (by kernel_rfl) (kof_cons lay_May_ok (kof_cons lay_base_ok kof_nil)) (pats := [(.agg [(.int .i64 (.v 0)), (.int .i64 (.v 1)), (.int .i64 (.v 2)), (.int .i64 (.v 3))])]) 4 0 0 (by decide) rfl (by kernel_rfl) (by kernel_rfl) (by kernel_rfl) (fun ds => by kernel_rfl)
noncomputable def lay_New_s : Sg := { args := [.agg 4], res := .one (.leaf), os := [.own 33 1 true], fn := lay_New }
theorem lay_New_ok : FnOK Try.prog 23 lay_New_s :=
  fn_of progOK Try.func23 (sigs := [(51, (.int .i64 (.c 0)))]) (K := [(51, lay_Size_s)]) (H := [(1, ⟨[.v 0, .i 5, .g 0, .g 1, .g 2, .g 3, .g 4], [.own 33 1 true], []⟩)]) (lp := []) (un := [])
    (by kernel_rfl) (kof_cons lay_Size_ok kof_nil) (pats := [(.agg [(.int .i64 (.v 0)), (.int .i64 (.v 1)), (.int .i64 (.v 2)), (.int .i64 (.v 3))])]) 4 0 0 (by decide) rfl (by kernel_rfl) (by kernel_rfl) (by kernel_rfl) (fun ds => by kernel_rfl)
noncomputable def frame_Begin_s : Sg := { args := [.leaf, .leaf, .leaf], res := .one (.agg 7), os := [.ro true, .ro true, .ro true, .ro true, .ro true, .ro true, .ro true], fn := frame_Begin }
theorem frame_Begin_ok : FnOK Try.prog 36 frame_Begin_s :=
  fn_of progOK Try.func36 (sigs := []) (K := []) (H := []) (lp := []) (un := [])
    (by kernel_rfl) kof_nil (pats := [(.int .i64 (.v 0)), (.int .i64 (.v 1)), (.int .u64 (.v 2))]) 3 0 0 (by decide) rfl (by kernel_rfl) (by kernel_rfl) (by kernel_rfl) (fun ds => by kernel_rfl)
noncomputable def slices_Clone_api_Mem_uint64_s : Sg := { args := [.leaf], res := .one (.leaf), os := [.own 33 1 true], fn := slices_Clone_api_Mem_uint64 }
theorem slices_Clone_api_Mem_uint64_ok : FnOK Try.prog 38 slices_Clone_api_Mem_uint64_s :=
  fn_of progOK Try.func38 (sigs := []) (K := []) (H := []) (lp := []) (un := [])
    (by kernel_rfl) kof_nil (pats := [(.val 0)]) 0 0 1 (by decide) rfl (by kernel_rfl) (by kernel_rfl) (by kernel_rfl) (fun ds => by kernel_rfl)
noncomputable def cell_is_s : Sg := { args := [.leaf, .leaf], res := .one (.leaf), os := [.ro true], fn := cell_is }
theorem cell_is_ok : FnOK Try.prog 55 cell_is_s :=
  fn_of progOK Try.func55 (sigs := []) (K := []) (H := []) (lp := []) (un := [])
    (by kernel_rfl) kof_nil (pats := [(.val 0), (.int .i64 (.v 0))]) 1 0 1 (by decide) rfl (by kernel_rfl) (by kernel_rfl) (by kernel_rfl) (fun ds => by kernel_rfl)
noncomputable def cell_Load_s : Sg := { args := [.leaf, .leaf], res := .one (.leaf), os := [.ro true], fn := cell_Load }
theorem cell_Load_ok : FnOK Try.prog 25 cell_Load_s :=
  fn_of progOK Try.func25 (sigs := [(55, (.bool (.c false)))]) (K := [(55, cell_is_s)]) (H := []) (lp := []) (un := [])
    (by kernel_rfl) (kof_cons cell_is_ok kof_nil) (pats := [(.val 0), (.int .i64 (.v 0))]) 1 0 1 (by decide) rfl (by kernel_rfl) (by kernel_rfl) (by kernel_rfl) (fun ds => by kernel_rfl)
noncomputable def word_Epoch_s : Sg := { args := [.leaf], res := .one (.leaf), os := [.ro true], fn := word_Epoch }
theorem word_Epoch_ok : FnOK Try.prog 102 word_Epoch_s :=
  fn_of progOK Try.func102 (sigs := []) (K := []) (H := []) (lp := []) (un := [])
    (by kernel_rfl) kof_nil (pats := [(.int .u64 (.v 0))]) 1 0 0 (by decide) rfl (by kernel_rfl) (by kernel_rfl) (by kernel_rfl) (fun ds => by kernel_rfl)
noncomputable def frame_End_s : Sg := { args := [.agg 7, .leaf, .leaf], res := .one (.agg 7), os := [.ro true, .ro true, .ro true, .ro true, .ro true, .ro true, .ro true], fn := frame_End }
theorem frame_End_ok : FnOK Try.prog 86 frame_End_s :=
  fn_of progOK Try.func86 (sigs := []) (K := []) (H := []) (lp := []) (un := [])
    (by kernel_rfl) kof_nil (pats := [(.agg [(.int .i64 (.v 0)), (.int .i64 (.v 1)), (.int .i64 (.v 2)), (.int .u64 (.v 3)), (.int .u64 (.v 4)), (.int .u64 (.v 5)), (.int .i64 (.v 6))]), (.int .i64 (.v 7)), (.int .u64 (.v 8))]) 9 0 0 (by decide) rfl (by kernel_rfl) (by kernel_rfl) (by kernel_rfl) (fun ds => by kernel_rfl)
noncomputable def word_Set_s : Sg := { args := [.leaf, .leaf], res := .one (.leaf), os := [.ro true], fn := word_Set }
theorem word_Set_ok : FnOK Try.prog 103 word_Set_s :=
  fn_of progOK Try.func103 (sigs := []) (K := []) (H := []) (lp := []) (un := [])
    (by kernel_rfl) kof_nil (pats := [(.int .u64 (.v 0)), (.int .i64 (.v 1))]) 2 0 0 (by decide) rfl (by kernel_rfl) (by kernel_rfl) (by kernel_rfl) (fun ds => by kernel_rfl)
noncomputable def cell_Cas_s : Sg := { args := [.leaf, .leaf, .leaf, .leaf], res := .tup [.leaf, .leaf], os := [.own 33 1 true, .ro true], fn := cell_Cas }
theorem cell_Cas_ok : FnOK Try.prog 85 cell_Cas_s :=
  fn_of progOK Try.func85 (sigs := [(38, .nils), (55, (.bool (.c false)))]) (K := [(38, slices_Clone_api_Mem_uint64_s), (55, cell_is_s)]) (H := []) (lp := []) (un := [])
    (by kernel_rfl) (kof_cons slices_Clone_api_Mem_uint64_ok (kof_cons cell_is_ok kof_nil)) (pats := [(.val 0), (.int .i64 (.v 0)), (.int .u64 (.v 1)), (.int .u64 (.v 2))]) 3 0 1 (by decide) rfl (by kernel_rfl) (by kernel_rfl) (by kernel_rfl) (fun ds => by kernel_rfl)
noncomputable def lay_Park_s : Sg := { args := [.agg 4, .leaf], res := .one (.leaf), os := [.ro true], fn := lay_Park }
theorem lay_Park_ok : FnOK Try.prog 60 lay_Park_s :=
  fn_of progOK Try.func60 (sigs := [(54, (.bool (.c false))), (22, (.bool (.c false))), (68, (.int .i64 (.c 0)))]) (K := [(54, lay_in_s), (22, lay_May_s), (68, lay_base_s)]) (H := []) (lp := []) (un := [])
    (by kernel_rfl) (kof_cons lay_in_ok (kof_cons lay_May_ok (kof_cons lay_base_ok kof_nil))) (pats := [(.agg [(.int .i64 (.v 0)), (.int .i64 (.v 1)), (.int .i64 (.v 2)), (.int .i64 (.v 3))]), (.int .i64 (.v 4))]) 5 0 0 (by decide) rfl (by kernel_rfl) (by kernel_rfl) (by kernel_rfl) (fun ds => by kernel_rfl)
noncomputable def cell_Store_s : Sg := { args := [.leaf, .leaf, .leaf], res := .one (.leaf), os := [.own 33 1 true], fn := cell_Store }
theorem cell_Store_ok : FnOK Try.prog 26 cell_Store_s :=
  fn_of progOK Try.func26 (sigs := [(38, .nils), (55, (.bool (.c false)))]) (K := [(38, slices_Clone_api_Mem_uint64_s), (55, cell_is_s)]) (H := []) (lp := []) (un := [])
    (by kernel_rfl) (kof_cons slices_Clone_api_Mem_uint64_ok (kof_cons cell_is_ok kof_nil)) (pats := [(.val 0), (.int .i64 (.v 0)), (.int .u64 (.v 1))]) 2 0 1 (by decide) rfl (by kernel_rfl) (by kernel_rfl) (by kernel_rfl) (fun ds => by kernel_rfl)
noncomputable def frame_Over_s : Sg := { args := [.agg 7], res := .one (.leaf), os := [.ro true], fn := frame_Over }
theorem frame_Over_ok : FnOK Try.prog 15 frame_Over_s :=
  fn_of progOK Try.func15 (sigs := []) (K := []) (H := []) (lp := []) (un := [])
    (by kernel_rfl) kof_nil (pats := [(.agg [(.int .i64 (.v 0)), (.int .i64 (.v 1)), (.int .i64 (.v 2)), (.int .u64 (.v 3)), (.int .u64 (.v 4)), (.int .u64 (.v 5)), (.int .i64 (.v 6))])]) 7 0 0 (by decide) rfl (by kernel_rfl) (by kernel_rfl) (by kernel_rfl) (fun ds => by kernel_rfl)
noncomputable def push_Goes_s : Sg := { args := [.agg 4, .leaf, .agg 7, .leaf, .leaf], res := .one (.leaf), os := [.ro true], fn := push_Goes }
theorem push_Goes_ok : FnOK Try.prog 82 push_Goes_s :=
  fn_of progOK Try.func82 (sigs := [(22, (.bool (.c false))), (51, (.int .i64 (.c 0))), (15, (.bool (.c false)))]) (K := [(22, lay_May_s), (51, lay_Size_s), (15, frame_Over_s)]) (H := []) (lp := []) (un := [])
    (by kernel_rfl) (kof_cons lay_May_ok (kof_cons lay_Size_ok (kof_cons frame_Over_ok kof_nil))) (pats := [(.agg [(.int .i64 (.v 0)), (.int .i64 (.v 1)), (.int .i64 (.v 2)), (.int .i64 (.v 3))]), (.val 0), (.agg [(.int .i64 (.v 4)), (.int .i64 (.v 5)), (.int .i64 (.v 6)), (.int .u64 (.v 7)), (.int .u64 (.v 8)), (.int .u64 (.v 9)), (.int .i64 (.v 10))]), (.int .i64 (.v 11)), (.int .i64 (.v 12))]) 13 0 1 (by decide) rfl (by kernel_rfl) (by kernel_rfl) (by kernel_rfl) (fun ds => by kernel_rfl)
noncomputable def wait_Step_s : Sg := { args := [.agg 4, .leaf, .agg 7], res := .tup [.leaf, .agg 7], os := [.own 33 1 true, .ro true, .ro true, .ro true, .ro true, .ro true, .ro true, .ro true], fn := wait_Step }
theorem wait_Step_ok : FnOK Try.prog 63 wait_Step_s :=
  fn_of progOK Try.func63 (sigs := [(38, .nils), (25, (.int .u64 (.c 0))), (102, (.int .u64 (.c 0))), (86, (.agg [(.int .i64 (.c 0)), (.int .i64 (.c 0)), (.int .i64 (.c 0)), (.int .u64 (.c 0)), (.int .u64 (.c 0)), (.int .u64 (.c 0)), (.int .i64 (.c 0))])), (103, (.int .u64 (.c 0))), (85, (.tup [.nils, (.bool (.c false))])), (60, (.int .i64 (.c 0))), (26, .nils), (82, (.bool (.c false)))]) (K := [(38, slices_Clone_api_Mem_uint64_s), (25, cell_Load_s), (102, word_Epoch_s), (86, frame_End_s), (103, word_Set_s), (85, cell_Cas_s), (60, lay_Park_s), (26, cell_Store_s), (82, push_Goes_s)]) (H := []) (lp := []) (un := [])
    (by kernel_rfl) (kof_cons slices_Clone_api_Mem_uint64_ok (kof_cons cell_Load_ok (kof_cons word_Epoch_ok (kof_cons frame_End_ok (kof_cons word_Set_ok (kof_cons cell_Cas_ok (kof_cons lay_Park_ok (kof_cons cell_Store_ok (kof_cons push_Goes_ok kof_nil))))))))) (pats := [(.agg [(.int .i64 (.v 0)), (.int .i64 (.v 1)), (.int .i64 (.v 2)), (.int .i64 (.v 3))]), (.val 0), (.agg [(.int .i64 (.v 4)), (.int .i64 (.v 5)), (.int .i64 (.v 6)), (.int .u64 (.v 7)), (.int .u64 (.v 8)), (.int .u64 (.v 9)), (.int .i64 (.v 10))])]) 11 0 1 (by decide) rfl (by kernel_rfl) (by kernel_rfl) (by kernel_rfl) (fun ds => by kernel_rfl)
noncomputable def word_Mask_s : Sg := { args := [.leaf], res := .one (.leaf), os := [.ro true], fn := word_Mask }
theorem word_Mask_ok : FnOK Try.prog 72 word_Mask_s :=
  fn_of progOK Try.func72 (sigs := []) (K := []) (H := []) (lp := []) (un := [])
    (by kernel_rfl) kof_nil (pats := [(.int .u64 (.v 0))]) 1 0 0 (by decide) rfl (by kernel_rfl) (by kernel_rfl) (by kernel_rfl) (fun ds => by kernel_rfl)
noncomputable def word_Pack_s : Sg := { args := [.leaf, .leaf], res := .one (.leaf), os := [.ro true], fn := word_Pack }
theorem word_Pack_ok : FnOK Try.prog 114 word_Pack_s :=
  fn_of progOK Try.func114 (sigs := []) (K := []) (H := []) (lp := []) (un := [])
    (by kernel_rfl) kof_nil (pats := [(.int .u64 (.v 0)), (.int .u64 (.v 1))]) 2 0 0 (by decide) rfl (by kernel_rfl) (by kernel_rfl) (by kernel_rfl) (fun ds => by kernel_rfl)
noncomputable def word_Lowest_s : Sg := { args := [.leaf], res := .one (.leaf), os := [.ro true], fn := word_Lowest }
theorem word_Lowest_ok : FnOK Try.prog 88 word_Lowest_s :=
  fn_of progOK Try.func88 (sigs := []) (K := []) (H := [(4, ⟨[.g 0, .i 1, .g 1, .g 2, .g 3, .g 4, .g 5, .g 6, .g 7, .g 8, .g 9, .g 10, .g 11, .g 12, .g 13, .g 14], [], []⟩)]) (lp := []) (un := [])
    (by kernel_rfl) kof_nil (pats := [(.int .u64 (.v 0))]) 1 0 0 (by decide) rfl (by kernel_rfl) (by kernel_rfl) (by kernel_rfl) (fun ds => by kernel_rfl)
noncomputable def word_Bump_s : Sg := { args := [.leaf], res := .tup [.leaf, .leaf], os := [.ro true, .ro true], fn := word_Bump }
theorem word_Bump_ok : FnOK Try.prog 105 word_Bump_s :=
  fn_of progOK Try.func105 (sigs := [(102, (.int .u64 (.c 0))), (72, (.int .u64 (.c 0))), (114, (.int .u64 (.c 0))), (88, (.int .i64 (.c 0)))]) (K := [(102, word_Epoch_s), (72, word_Mask_s), (114, word_Pack_s), (88, word_Lowest_s)]) (H := []) (lp := []) (un := [])
    (by kernel_rfl) (kof_cons word_Epoch_ok (kof_cons word_Mask_ok (kof_cons word_Pack_ok (kof_cons word_Lowest_ok kof_nil)))) (pats := [(.int .u64 (.v 0))]) 1 0 0 (by decide) rfl (by kernel_rfl) (by kernel_rfl) (by kernel_rfl) (fun ds => by kernel_rfl)
noncomputable def note_kinds_1_s : Sg := { args := [.leaf], res := .tup [.leaf, .leaf], os := [.ro true, .ro true], fn := note_kinds_1 }
theorem note_kinds_1_ok : FnOK Try.prog 104 note_kinds_1_s :=
  fn_of progOK Try.func104 (sigs := [(105, (.tup [(.int .u64 (.c 0)), (.int .i64 (.c 0))]))]) (K := [(105, word_Bump_s)]) (H := []) (lp := []) (un := [])
    (by kernel_rfl) (kof_cons word_Bump_ok kof_nil) (pats := [(.int .u64 (.v 0))]) 1 0 0 (by decide) rfl (by kernel_rfl) (by kernel_rfl) (by kernel_rfl) (fun ds => by kernel_rfl)
noncomputable def word_Wipe_s : Sg := { args := [.leaf], res := .one (.leaf), os := [.ro true], fn := word_Wipe }
theorem word_Wipe_ok : FnOK Try.prog 107 word_Wipe_s :=
  fn_of progOK Try.func107 (sigs := [(102, (.int .u64 (.c 0))), (114, (.int .u64 (.c 0)))]) (K := [(102, word_Epoch_s), (114, word_Pack_s)]) (H := []) (lp := []) (un := [])
    (by kernel_rfl) (kof_cons word_Epoch_ok (kof_cons word_Pack_ok kof_nil)) (pats := [(.int .u64 (.v 0))]) 1 0 0 (by decide) rfl (by kernel_rfl) (by kernel_rfl) (by kernel_rfl) (fun ds => by kernel_rfl)
noncomputable def note_kinds_2_s : Sg := { args := [.leaf], res := .tup [.leaf, .leaf], os := [.ro true, .ro true], fn := note_kinds_2 }
theorem note_kinds_2_ok : FnOK Try.prog 106 note_kinds_2_s :=
  fn_of progOK Try.func106 (sigs := [(72, (.int .u64 (.c 0))), (107, (.int .u64 (.c 0)))]) (K := [(72, word_Mask_s), (107, word_Wipe_s)]) (H := []) (lp := []) (un := [])
    (by kernel_rfl) (kof_cons word_Mask_ok (kof_cons word_Wipe_ok kof_nil)) (pats := [(.int .u64 (.v 0))]) 1 0 0 (by decide) rfl (by kernel_rfl) (by kernel_rfl) (by kernel_rfl) (fun ds => by kernel_rfl)
noncomputable def note_Goes_s : Sg := { args := [.agg 4, .leaf, .agg 7], res := .one (.leaf), os := [.ro true], fn := note_Goes }
theorem note_Goes_ok : FnOK Try.prog 83 note_Goes_s :=
  fn_of progOK Try.func83 (sigs := [(22, (.bool (.c false))), (51, (.int .i64 (.c 0))), (15, (.bool (.c false)))]) (K := [(22, lay_May_s), (51, lay_Size_s), (15, frame_Over_s)]) (H := []) (lp := []) (un := [])
    (by kernel_rfl) (kof_cons lay_May_ok (kof_cons lay_Size_ok (kof_cons frame_Over_ok kof_nil))) (pats := [(.agg [(.int .i64 (.v 0)), (.int .i64 (.v 1)), (.int .i64 (.v 2)), (.int .i64 (.v 3))]), (.val 0), (.agg [(.int .i64 (.v 4)), (.int .i64 (.v 5)), (.int .i64 (.v 6)), (.int .u64 (.v 7)), (.int .u64 (.v 8)), (.int .u64 (.v 9)), (.int .i64 (.v 10))])]) 11 0 1 (by decide) rfl (by kernel_rfl) (by kernel_rfl) (by kernel_rfl) (fun ds => by kernel_rfl)
noncomputable def note_Step_s : Sg := { args := [.agg 4, .leaf, .agg 7], res := .tup [.leaf, .agg 7], os := [.own 33 1 true, .ro true, .ro true, .ro true, .ro true, .ro true, .ro true, .ro true], fn := note_Step }
theorem note_Step_ok : FnOK Try.prog 64 note_Step_s :=
  fn_of progOK Try.func64 (sigs := [(38, .nils), (25, (.int .u64 (.c 0))), (86, (.agg [(.int .i64 (.c 0)), (.int .i64 (.c 0)), (.int .i64 (.c 0)), (.int .u64 (.c 0)), (.int .u64 (.c 0)), (.int .u64 (.c 0)), (.int .i64 (.c 0))])), (85, (.tup [.nils, (.bool (.c false))])), (60, (.int .i64 (.c 0))), (26, .nils), (72, (.int .u64 (.c 0))), (88, (.int .i64 (.c 0))), (104, (.tup [(.int .u64 (.c 0)), (.int .u64 (.c 0))])), (106, (.tup [(.int .u64 (.c 0)), (.int .u64 (.c 0))])), (83, (.bool (.c false)))]) (K := [(38, slices_Clone_api_Mem_uint64_s), (25, cell_Load_s), (86, frame_End_s), (85, cell_Cas_s), (60, lay_Park_s), (26, cell_Store_s), (72, word_Mask_s), (88, word_Lowest_s), (104, note_kinds_1_s), (106, note_kinds_2_s), (83, note_Goes_s)]) (H := [(5, ⟨[.v 2, .g 0, .i 12, .g 1, .g 2, .g 3, .g 4, .g 5, .g 6, .g 7, .g 8, .g 9], [.own 33 1 true], []⟩), (5, ⟨[.v 2, .g 0, .i 11, .g 1, .g 2, .g 3, .g 4, .g 5, .g 6, .g 7, .g 8, .g 9], [.own 33 1 true], []⟩)]) (lp := []) (un := [])
    (by kernel_rfl) (kof_cons slices_Clone_api_Mem_uint64_ok (kof_cons cell_Load_ok (kof_cons frame_End_ok (kof_cons cell_Cas_ok (kof_cons lay_Park_ok (kof_cons cell_Store_ok (kof_cons word_Mask_ok (kof_cons word_Lowest_ok (kof_cons note_kinds_1_ok (kof_cons note_kinds_2_ok (kof_cons note_Goes_ok kof_nil))))))))))) (pats := [(.agg [(.int .i64 (.v 0)), (.int .i64 (.v 1)), (.int .i64 (.v 2)), (.int .i64 (.v 3))]), (.val 0), (.agg [(.int .i64 (.v 4)), (.int .i64 (.v 5)), (.int .i64 (.v 6)), (.int .u64 (.v 7)), (.int .u64 (.v 8)), (.int .u64 (.v 9)), (.int .i64 (.v 10))])]) 11 0 1 (by decide) rfl (by kernel_rfl) (by kernel_rfl) (by kernel_rfl) (fun ds => by kernel_rfl)
noncomputable def event_Step_s : Sg := { args := [.agg 4, .leaf, .agg 7], res := .tup [.leaf, .agg 7], os := [.own 33 1 true, .ro true, .ro true, .ro true, .ro true, .ro true, .ro true, .ro true], fn := event_Step }
theorem event_Step_ok : FnOK Try.prog 37 event_Step_s :=
  fn_of progOK Try.func37 (sigs := [(38, .nils), (63, (.tup [.nils, (.agg [(.int .i64 (.c 0)), (.int .i64 (.c 0)), (.int .i64 (.c 0)), (.int .u64 (.c 0)), (.int .u64 (.c 0)), (.int .u64 (.c 0)), (.int .i64 (.c 0))])])), (64, (.tup [.nils, (.agg [(.int .i64 (.c 0)), (.int .i64 (.c 0)), (.int .i64 (.c 0)), (.int .u64 (.c 0)), (.int .u64 (.c 0)), (.int .u64 (.c 0)), (.int .i64 (.c 0))])]))]) (K := [(38, slices_Clone_api_Mem_uint64_s), (63, wait_Step_s), (64, note_Step_s)]) (H := []) (lp := []) (un := [])
    (by kernel_rfl) (kof_cons slices_Clone_api_Mem_uint64_ok (kof_cons wait_Step_ok (kof_cons note_Step_ok kof_nil))) (pats := [(.agg [(.int .i64 (.v 0)), (.int .i64 (.v 1)), (.int .i64 (.v 2)), (.int .i64 (.v 3))]), (.val 0), (.agg [(.int .i64 (.v 4)), (.int .i64 (.v 5)), (.int .i64 (.v 6)), (.int .u64 (.v 7)), (.int .u64 (.v 8)), (.int .u64 (.v 9)), (.int .i64 (.v 10))])]) 11 0 1 (by decide) rfl (by kernel_rfl) (by kernel_rfl) (by kernel_rfl) (fun ds => by kernel_rfl)
noncomputable def slices_Clone__int_int_s : Sg := { args := [.leaf], res := .one (.leaf), os := [.own 3 1 true], fn := slices_Clone__int_int }
theorem slices_Clone__int_int_ok : FnOK Try.prog 39 slices_Clone__int_int_s :=
  fn_of progOK Try.func39 (sigs := []) (K := []) (H := []) (lp := []) (un := [])
    (by kernel_rfl) kof_nil (pats := [(.val 0)]) 0 0 1 (by decide) rfl (by kernel_rfl) (by kernel_rfl) (by kernel_rfl) (fun ds => by kernel_rfl)
noncomputable def submit_New_s : Sg := { args := [.leaf], res := .one (.agg 9), os := [.ro true, .own 3 1 true, .ro true, .ro true, .ro true, .ro true, .ro true, .ro true, .ro true], fn := submit_New }
theorem submit_New_ok : FnOK Try.prog 24 submit_New_s :=
  fn_of progOK Try.func24 (sigs := [(39, .nils)]) (K := [(39, slices_Clone__int_int_s)]) (H := []) (lp := []) (un := [])
    (by kernel_rfl) (kof_cons slices_Clone__int_int_ok kof_nil) (pats := [(.val 0)]) 0 0 1 (by decide) rfl (by kernel_rfl) (by kernel_rfl) (by kernel_rfl) (fun ds => by kernel_rfl)
noncomputable def forest_May_1_s : Sg := { args := [.agg 2], res := .one (.leaf), os := [.ro true], fn := forest_May_1 }
theorem forest_May_1_ok : FnOK Try.prog 70 forest_May_1_s :=
  fn_of progOK Try.func70 (sigs := []) (K := []) (H := []) (lp := []) (un := [])
    (by kernel_rfl) kof_nil (pats := [(.agg [(.int .i64 (.v 0)), (.val 0)])]) 1 0 1 (by decide) rfl (by kernel_rfl) (by kernel_rfl) (by kernel_rfl) (fun ds => by kernel_rfl)
noncomputable def forest_May_s : Sg := { args := [.leaf], res := .one (.leaf), os := [.ro true], fn := forest_May }
theorem forest_May_ok : FnOK Try.prog 52 forest_May_s :=
  fn_of progOK Try.func52 (sigs := [(70, (.bool (.c false)))]) (K := [(70, forest_May_1_s)]) (H := [(2, ⟨[.i 0, .g 0, .i 1, .g 1, .g 2, .g 3, .g 4, .g 5, .g 6, .g 7, .g 8, .g 9, .g 10], [], []⟩), (6, ⟨[.g 11, .g 12, .g 13, .i 2, .g 14, .g 15, .g 16, .g 17, .g 18, .g 19, .g 20, .g 21, .g 22, .g 23, .g 24, .g 25, .g 26, .g 27, .g 28, .g 29, .g 30, .g 31], [], [(1, .own 4 1 true)]⟩), (7, ⟨[.g 32, .i 4, .g 33, .g 34, .g 35, .g 36, .g 37, .g 38, .g 39, .g 40, .g 41], [], [(1, .own 4 1 true)]⟩), (6, ⟨[.g 11, .g 12, .g 13, .i 3, .g 14, .g 15, .g 16, .g 17, .g 18, .g 19, .g 20, .g 21, .g 22, .g 23, .g 24, .g 25, .g 26, .g 27, .g 28, .g 29, .g 30, .g 31], [], [(3, .own 4 1 true)]⟩), (7, ⟨[.g 32, .i 5, .g 33, .g 34, .g 35, .g 36, .g 37, .g 38, .g 39, .g 40, .g 41], [], [(3, .own 4 1 true)]⟩)]) (lp := []) (un := [])
    (by kernel_rfl) (kof_cons forest_May_1_ok kof_nil) (pats := [(.val 0)]) 0 0 1 (by decide) rfl (by kernel_rfl) (by kernel_rfl) (by kernel_rfl) (fun ds => by kernel_rfl)
noncomputable def submit_May_s : Sg := { args := [.agg 4, .leaf, .leaf, .agg 9], res := .one (.leaf), os := [.ro true], fn := submit_May }
theorem submit_May_ok : FnOK Try.prog 19 submit_May_s :=
  fn_of progOK Try.func19 (sigs := [(22, (.bool (.c false))), (51, (.int .i64 (.c 0))), (52, (.bool (.c false)))]) (K := [(22, lay_May_s), (51, lay_Size_s), (52, forest_May_s)]) (H := []) (lp := []) (un := [])
    (by kernel_rfl) (kof_cons lay_May_ok (kof_cons lay_Size_ok (kof_cons forest_May_ok kof_nil))) (pats := [(.agg [(.int .i64 (.v 0)), (.int .i64 (.v 1)), (.int .i64 (.v 2)), (.int .i64 (.v 3))]), (.val 0), (.val 1), (.agg [(.int .i64 (.v 4)), (.val 2), (.int .i64 (.v 5)), (.int .i64 (.v 6)), (.int .i64 (.v 7)), (.int .u64 (.v 8)), (.int .u64 (.v 9)), (.int .u64 (.v 10)), (.int .i64 (.v 11))])]) 12 0 3 (by decide) rfl (by kernel_rfl) (by kernel_rfl) (by kernel_rfl) (fun ds => by kernel_rfl)
noncomputable def enq_fits_s : Sg := { args := [.agg 4, .leaf], res := .one (.leaf), os := [.ro true], fn := enq_fits }
theorem enq_fits_ok : FnOK Try.prog 110 enq_fits_s :=
  fn_of progOK Try.func110 (sigs := [(22, (.bool (.c false))), (51, (.int .i64 (.c 0)))]) (K := [(22, lay_May_s), (51, lay_Size_s)]) (H := []) (lp := []) (un := [])
    (by kernel_rfl) (kof_cons lay_May_ok (kof_cons lay_Size_ok kof_nil)) (pats := [(.agg [(.int .i64 (.v 0)), (.int .i64 (.v 1)), (.int .i64 (.v 2)), (.int .i64 (.v 3))]), (.val 0)]) 4 0 1 (by decide) rfl (by kernel_rfl) (by kernel_rfl) (by kernel_rfl) (fun ds => by kernel_rfl)
noncomputable def enq_Goes_s : Sg := { args := [.agg 4, .leaf, .agg 7, .leaf], res := .one (.leaf), os := [.ro true], fn := enq_Goes }
theorem enq_Goes_ok : FnOK Try.prog 89 enq_Goes_s :=
  fn_of progOK Try.func89 (sigs := [(15, (.bool (.c false))), (110, (.bool (.c false)))]) (K := [(15, frame_Over_s), (110, enq_fits_s)]) (H := []) (lp := []) (un := [])
    (by kernel_rfl) (kof_cons frame_Over_ok (kof_cons enq_fits_ok kof_nil)) (pats := [(.agg [(.int .i64 (.v 0)), (.int .i64 (.v 1)), (.int .i64 (.v 2)), (.int .i64 (.v 3))]), (.val 0), (.agg [(.int .i64 (.v 4)), (.int .i64 (.v 5)), (.int .i64 (.v 6)), (.int .u64 (.v 7)), (.int .u64 (.v 8)), (.int .u64 (.v 9)), (.int .i64 (.v 10))]), (.int .i64 (.v 11))]) 12 0 1 (by decide) rfl (by kernel_rfl) (by kernel_rfl) (by kernel_rfl) (fun ds => by kernel_rfl)
noncomputable def lay_Seq_s : Sg := { args := [.agg 4, .leaf], res := .one (.leaf), os := [.ro true], fn := lay_Seq }
theorem lay_Seq_ok : FnOK Try.prog 96 lay_Seq_s :=
  fn_of progOK Try.func96 (sigs := [(54, (.bool (.c false))), (22, (.bool (.c false)))]) (K := [(54, lay_in_s), (22, lay_May_s)]) (H := []) (lp := []) (un := [])
    (by kernel_rfl) (kof_cons lay_in_ok (kof_cons lay_May_ok kof_nil)) (pats := [(.agg [(.int .i64 (.v 0)), (.int .i64 (.v 1)), (.int .i64 (.v 2)), (.int .i64 (.v 3))]), (.int .u64 (.v 4))]) 5 0 0 (by decide) rfl (by kernel_rfl) (by kernel_rfl) (by kernel_rfl) (fun ds => by kernel_rfl)
noncomputable def word_Far_s : Sg := { args := [.leaf, .leaf], res := .one (.leaf), os := [.ro true], fn := word_Far }
theorem word_Far_ok : FnOK Try.prog 97 word_Far_s :=
  fn_of progOK Try.func97 (sigs := []) (K := []) (H := []) (lp := []) (un := [])
    (by kernel_rfl) kof_nil (pats := [(.int .u64 (.v 0)), (.int .u64 (.v 1))]) 2 0 0 (by decide) rfl (by kernel_rfl) (by kernel_rfl) (by kernel_rfl) (fun ds => by kernel_rfl)
noncomputable def lay_Val_s : Sg := { args := [.agg 4, .leaf], res := .one (.leaf), os := [.ro true], fn := lay_Val }
theorem lay_Val_ok : FnOK Try.prog 99 lay_Val_s :=
  fn_of progOK Try.func99 (sigs := [(54, (.bool (.c false))), (22, (.bool (.c false)))]) (K := [(54, lay_in_s), (22, lay_May_s)]) (H := []) (lp := []) (un := [])
    (by kernel_rfl) (kof_cons lay_in_ok (kof_cons lay_May_ok kof_nil)) (pats := [(.agg [(.int .i64 (.v 0)), (.int .i64 (.v 1)), (.int .i64 (.v 2)), (.int .i64 (.v 3))]), (.int .u64 (.v 4))]) 5 0 0 (by decide) rfl (by kernel_rfl) (by kernel_rfl) (by kernel_rfl) (fun ds => by kernel_rfl)
noncomputable def enq_Step_s : Sg := { args := [.agg 4, .leaf, .agg 7], res := .tup [.leaf, .agg 7], os := [.own 33 1 true, .ro true, .ro true, .ro true, .ro true, .ro true, .ro true, .ro true], fn := enq_Step }
theorem enq_Step_ok : FnOK Try.prog 65 enq_Step_s :=
  fn_of progOK Try.func65 (sigs := [(38, .nils), (25, (.int .u64 (.c 0))), (86, (.agg [(.int .i64 (.c 0)), (.int .i64 (.c 0)), (.int .i64 (.c 0)), (.int .u64 (.c 0)), (.int .u64 (.c 0)), (.int .u64 (.c 0)), (.int .i64 (.c 0))])), (85, (.tup [.nils, (.bool (.c false))])), (26, .nils), (89, (.bool (.c false))), (96, (.int .i64 (.c 0))), (97, (.int .i64 (.c 0))), (99, (.int .i64 (.c 0)))]) (K := [(38, slices_Clone_api_Mem_uint64_s), (25, cell_Load_s), (86, frame_End_s), (85, cell_Cas_s), (26, cell_Store_s), (89, enq_Goes_s), (96, lay_Seq_s), (97, word_Far_s), (99, lay_Val_s)]) (H := []) (lp := []) (un := [])
    (by kernel_rfl) (kof_cons slices_Clone_api_Mem_uint64_ok (kof_cons cell_Load_ok (kof_cons frame_End_ok (kof_cons cell_Cas_ok (kof_cons cell_Store_ok (kof_cons enq_Goes_ok (kof_cons lay_Seq_ok (kof_cons word_Far_ok (kof_cons lay_Val_ok kof_nil))))))))) (pats := [(.agg [(.int .i64 (.v 0)), (.int .i64 (.v 1)), (.int .i64 (.v 2)), (.int .i64 (.v 3))]), (.val 0), (.agg [(.int .i64 (.v 4)), (.int .i64 (.v 5)), (.int .i64 (.v 6)), (.int .u64 (.v 7)), (.int .u64 (.v 8)), (.int .u64 (.v 9)), (.int .i64 (.v 10))])]) 11 0 1 (by decide) rfl (by kernel_rfl) (by kernel_rfl) (by kernel_rfl) (fun ds => by kernel_rfl)
noncomputable def deq_full_s : Sg := { args := [.agg 4, .leaf], res := .one (.leaf), os := [.ro true], fn := deq_full }
theorem deq_full_ok : FnOK Try.prog 98 deq_full_s :=
  fn_of progOK Try.func98 (sigs := []) (K := []) (H := []) (lp := []) (un := [])
    (by kernel_rfl) kof_nil (pats := [(.agg [(.int .i64 (.v 0)), (.int .i64 (.v 1)), (.int .i64 (.v 2)), (.int .i64 (.v 3))]), (.int .u64 (.v 4))]) 5 0 0 (by decide) rfl (by kernel_rfl) (by kernel_rfl) (by kernel_rfl) (fun ds => by kernel_rfl)
noncomputable def deq_Step_s : Sg := { args := [.agg 4, .leaf, .agg 7], res := .tup [.leaf, .agg 7], os := [.own 33 1 true, .ro true, .ro true, .ro true, .ro true, .ro true, .ro true, .ro true], fn := deq_Step }
theorem deq_Step_ok : FnOK Try.prog 66 deq_Step_s :=
  fn_of progOK Try.func66 (sigs := [(38, .nils), (25, (.int .u64 (.c 0))), (86, (.agg [(.int .i64 (.c 0)), (.int .i64 (.c 0)), (.int .i64 (.c 0)), (.int .u64 (.c 0)), (.int .u64 (.c 0)), (.int .u64 (.c 0)), (.int .i64 (.c 0))])), (85, (.tup [.nils, (.bool (.c false))])), (26, .nils), (89, (.bool (.c false))), (96, (.int .i64 (.c 0))), (97, (.int .i64 (.c 0))), (99, (.int .i64 (.c 0))), (98, (.int .u64 (.c 0)))]) (K := [(38, slices_Clone_api_Mem_uint64_s), (25, cell_Load_s), (86, frame_End_s), (85, cell_Cas_s), (26, cell_Store_s), (89, enq_Goes_s), (96, lay_Seq_s), (97, word_Far_s), (99, lay_Val_s), (98, deq_full_s)]) (H := []) (lp := []) (un := [])
    (by kernel_rfl) (kof_cons slices_Clone_api_Mem_uint64_ok (kof_cons cell_Load_ok (kof_cons frame_End_ok (kof_cons cell_Cas_ok (kof_cons cell_Store_ok (kof_cons enq_Goes_ok (kof_cons lay_Seq_ok (kof_cons word_Far_ok (kof_cons lay_Val_ok (kof_cons deq_full_ok kof_nil)))))))))) (pats := [(.agg [(.int .i64 (.v 0)), (.int .i64 (.v 1)), (.int .i64 (.v 2)), (.int .i64 (.v 3))]), (.val 0), (.agg [(.int .i64 (.v 4)), (.int .i64 (.v 5)), (.int .i64 (.v 6)), (.int .u64 (.v 7)), (.int .u64 (.v 8)), (.int .u64 (.v 9)), (.int .i64 (.v 10))])]) 11 0 1 (by decide) rfl (by kernel_rfl) (by kernel_rfl) (by kernel_rfl) (fun ds => by kernel_rfl)
noncomputable def inject_Step_s : Sg := { args := [.agg 4, .leaf, .agg 7], res := .tup [.leaf, .agg 7], os := [.own 33 1 true, .ro true, .ro true, .ro true, .ro true, .ro true, .ro true, .ro true], fn := inject_Step }
theorem inject_Step_ok : FnOK Try.prog 43 inject_Step_s :=
  fn_of progOK Try.func43 (sigs := [(38, .nils), (65, (.tup [.nils, (.agg [(.int .i64 (.c 0)), (.int .i64 (.c 0)), (.int .i64 (.c 0)), (.int .u64 (.c 0)), (.int .u64 (.c 0)), (.int .u64 (.c 0)), (.int .i64 (.c 0))])])), (66, (.tup [.nils, (.agg [(.int .i64 (.c 0)), (.int .i64 (.c 0)), (.int .i64 (.c 0)), (.int .u64 (.c 0)), (.int .u64 (.c 0)), (.int .u64 (.c 0)), (.int .i64 (.c 0))])]))]) (K := [(38, slices_Clone_api_Mem_uint64_s), (65, enq_Step_s), (66, deq_Step_s)]) (H := []) (lp := []) (un := [])
    (by kernel_rfl) (kof_cons slices_Clone_api_Mem_uint64_ok (kof_cons enq_Step_ok (kof_cons deq_Step_ok kof_nil))) (pats := [(.agg [(.int .i64 (.v 0)), (.int .i64 (.v 1)), (.int .i64 (.v 2)), (.int .i64 (.v 3))]), (.val 0), (.agg [(.int .i64 (.v 4)), (.int .i64 (.v 5)), (.int .i64 (.v 6)), (.int .u64 (.v 7)), (.int .u64 (.v 8)), (.int .u64 (.v 9)), (.int .i64 (.v 10))])]) 11 0 1 (by decide) rfl (by kernel_rfl) (by kernel_rfl) (by kernel_rfl) (fun ds => by kernel_rfl)
noncomputable def cell_Add_s : Sg := { args := [.leaf, .leaf, .leaf], res := .tup [.leaf, .leaf], os := [.own 33 1 true, .ro true], fn := cell_Add }
theorem cell_Add_ok : FnOK Try.prog 46 cell_Add_s :=
  fn_of progOK Try.func46 (sigs := [(38, .nils), (55, (.bool (.c false)))]) (K := [(38, slices_Clone_api_Mem_uint64_s), (55, cell_is_s)]) (H := []) (lp := []) (un := [])
    (by kernel_rfl) (kof_cons slices_Clone_api_Mem_uint64_ok (kof_cons cell_is_ok kof_nil)) (pats := [(.val 0), (.int .i64 (.v 0)), (.int .u64 (.v 1))]) 2 0 1 (by decide) rfl (by kernel_rfl) (by kernel_rfl) (by kernel_rfl) (fun ds => by kernel_rfl)
noncomputable def submit_Step_s : Sg := { args := [.agg 4, .leaf, .leaf, .leaf, .agg 9], res := .tup [.leaf, .agg 9, .leaf], os := [.own 33 1 true, .ro true, .ro true, .ro true, .ro true, .ro true, .ro true, .ro true, .ro true, .ro true, .own 50 3 true], fn := submit_Step }
theorem submit_Step_ok : FnOK Try.prog 18 submit_Step_s :=
  fn_of progOK Try.func18 (sigs := [(36, (.agg [(.int .i64 (.c 0)), (.int .i64 (.c 0)), (.int .i64 (.c 0)), (.int .u64 (.c 0)), (.int .u64 (.c 0)), (.int .u64 (.c 0)), (.int .i64 (.c 0))])), (38, .nils), (25, (.int .u64 (.c 0))), (15, (.bool (.c false))), (37, (.tup [.nils, (.agg [(.int .i64 (.c 0)), (.int .i64 (.c 0)), (.int .i64 (.c 0)), (.int .u64 (.c 0)), (.int .u64 (.c 0)), (.int .u64 (.c 0)), (.int .i64 (.c 0))])])), (39, .nils), (19, (.bool (.c false))), (43, (.tup [.nils, (.agg [(.int .i64 (.c 0)), (.int .i64 (.c 0)), (.int .i64 (.c 0)), (.int .u64 (.c 0)), (.int .u64 (.c 0)), (.int .u64 (.c 0)), (.int .i64 (.c 0))])])), (46, (.tup [.nils, (.int .u64 (.c 0))]))]) (K := [(36, frame_Begin_s), (38, slices_Clone_api_Mem_uint64_s), (25, cell_Load_s), (15, frame_Over_s), (37, event_Step_s), (39, slices_Clone__int_int_s), (19, submit_May_s), (43, inject_Step_s), (46, cell_Add_s)]) (H := []) (lp := []) (un := [])
    (by kernel_rfl) (kof_cons frame_Begin_ok (kof_cons slices_Clone_api_Mem_uint64_ok (kof_cons cell_Load_ok (kof_cons frame_Over_ok (kof_cons event_Step_ok (kof_cons slices_Clone__int_int_ok (kof_cons submit_May_ok (kof_cons inject_Step_ok (kof_cons cell_Add_ok kof_nil))))))))) (pats := [(.agg [(.int .i64 (.v 0)), (.int .i64 (.v 1)), (.int .i64 (.v 2)), (.int .i64 (.v 3))]), (.val 0), (.val 1), (.int .i64 (.v 4)), (.agg [(.int .i64 (.v 5)), (.val 2), (.int .i64 (.v 6)), (.int .i64 (.v 7)), (.int .i64 (.v 8)), (.int .u64 (.v 9)), (.int .u64 (.v 10)), (.int .u64 (.v 11)), (.int .i64 (.v 12))])]) 13 0 3 (by decide) rfl (by kernel_rfl) (by kernel_rfl) (by kernel_rfl) (fun ds => by kernel_rfl)
noncomputable def submit_Busy_s : Sg := { args := [.agg 9], res := .one (.leaf), os := [.ro true], fn := submit_Busy }
theorem submit_Busy_ok : FnOK Try.prog 21 submit_Busy_s :=
  fn_of progOK Try.func21 (sigs := []) (K := []) (H := []) (lp := []) (un := [])
    (by kernel_rfl) kof_nil (pats := [(.agg [(.int .i64 (.v 0)), (.val 0), (.int .i64 (.v 1)), (.int .i64 (.v 2)), (.int .i64 (.v 3)), (.int .u64 (.v 4)), (.int .u64 (.v 5)), (.int .u64 (.v 6)), (.int .i64 (.v 7))])]) 8 0 1 (by decide) rfl (by kernel_rfl) (by kernel_rfl) (by kernel_rfl) (fun ds => by kernel_rfl)
noncomputable def slices_Equal__int_int_s : Sg := { args := [.leaf, .leaf], res := .one (.leaf), os := [.ro true], fn := slices_Equal__int_int }
theorem slices_Equal__int_int_ok : FnOK Try.prog 53 slices_Equal__int_int_s :=
  fn_of progOK Try.func53 (sigs := []) (K := []) (H := [(0, ⟨[.b 0, .g 0, .i 0, .g 1, .g 2, .g 3, .g 4, .g 5, .g 6, .g 7, .g 8, .g 9, .g 10, .g 11, .g 12], [], []⟩)]) (lp := []) (un := [])
    (by kernel_rfl) kof_nil (pats := [(.val 0), (.val 1)]) 0 0 2 (by decide) rfl (by kernel_rfl) (by kernel_rfl) (by kernel_rfl) (fun ds => by kernel_rfl)
noncomputable def submit_Same_s : Sg := { args := [.agg 9, .agg 9], res := .one (.leaf), os := [.ro true], fn := submit_Same }
theorem submit_Same_ok : FnOK Try.prog 20 submit_Same_s :=
  fn_of progOK Try.func20 (sigs := [(53, (.bool (.c false)))]) (K := [(53, slices_Equal__int_int_s)]) (H := []) (lp := []) (un := [])
    (by kernel_rfl) (kof_cons slices_Equal__int_int_ok kof_nil) (pats := [(.agg [(.int .i64 (.v 0)), (.val 0), (.int .i64 (.v 1)), (.int .i64 (.v 2)), (.int .i64 (.v 3)), (.int .u64 (.v 4)), (.int .u64 (.v 5)), (.int .u64 (.v 6)), (.int .i64 (.v 7))]), (.agg [(.int .i64 (.v 8)), (.val 1), (.int .i64 (.v 9)), (.int .i64 (.v 10)), (.int .i64 (.v 11)), (.int .u64 (.v 12)), (.int .u64 (.v 13)), (.int .u64 (.v 14)), (.int .i64 (.v 15))])]) 16 0 2 (by decide) rfl (by kernel_rfl) (by kernel_rfl) (by kernel_rfl) (fun ds => by kernel_rfl)
noncomputable def poacherlaw19_awake_s : Sg := { args := [], res := .one (.leaf), os := [.ro true], fn := poacherlaw19_awake }
theorem poacherlaw19_awake_ok : FnOK Try.prog 16 poacherlaw19_awake_s :=
  fn_of progOK Try.func16 (sigs := [(23, .nils), (25, (.int .u64 (.c 0))), (24, (.agg [(.int .i64 (.c 0)), .nils, (.int .i64 (.c 0)), (.int .i64 (.c 0)), (.int .i64 (.c 0)), (.int .u64 (.c 0)), (.int .u64 (.c 0)), (.int .u64 (.c 0)), (.int .i64 (.c 0))])), (19, (.bool (.c false))), (18, (.tup [.nils, (.agg [(.int .i64 (.c 0)), .nils, (.int .i64 (.c 0)), (.int .i64 (.c 0)), (.int .i64 (.c 0)), (.int .u64 (.c 0)), (.int .u64 (.c 0)), (.int .u64 (.c 0)), (.int .i64 (.c 0))]), .nils])), (21, (.bool (.c false))), (20, (.bool (.c false)))]) (K := [(23, lay_New_s), (25, cell_Load_s), (24, submit_New_s), (19, submit_May_s), (18, submit_Step_s), (21, submit_Busy_s), (20, submit_Same_s)]) (H := [(4, ⟨[.v 2, .i 8, .i 9, .g 0, .g 1, .g 2, .g 3, .g 4, .g 5, .g 6, .g 7, .g 8, .g 9, .g 10, .g 11, .g 12, .g 13, .g 14, .g 15, .g 16, .g 17, .g 18, .g 19, .g 20, .g 21, .i 10, .i 11, .i 12, .i 13, .i 14, .v 3, .i 15, .i 16, .i 17, .i 18, .i 19, .i 20, .i 21], [.own 33 1 true, .ro true], []⟩)]) (lp := [([23, 24, 28, 29, 30, 31, 32, 27, 33, 34, 35, 9, 8, 10, 36, 3, 37, 38, 39, 40, 41, 6, 25, 26, 7], [(3, 0), (3, 1), (3, 2), (3, 3), (3, 4), (3, 5), (3, 6), (3, 7), (3, 8), (0, 0), (0, 1), (0, 2), (0, 3)])]) (un := [])
    (by kernel_rfl) (kof_cons lay_New_ok (kof_cons cell_Load_ok (kof_cons submit_New_ok (kof_cons submit_May_ok (kof_cons submit_Step_ok (kof_cons submit_Busy_ok (kof_cons submit_Same_ok kof_nil))))))) (pats := []) 0 0 0 (by decide) rfl (by kernel_rfl) (by kernel_rfl) (by kernel_rfl) (fun ds => by kernel_rfl)
noncomputable def poacherlaw04_Few_s : Sg := { args := [.leaf], res := .one (.leaf), os := [.ro true], fn := poacherlaw04_Few }
theorem poacherlaw04_Few_ok : FnOK Try.prog 17 poacherlaw04_Few_s :=
  fn_of progOK Try.func17 (sigs := []) (K := []) (H := [(0, ⟨[.b 0, .i 0, .g 0, .g 1, .g 2, .g 3, .g 4, .g 5, .g 6, .g 7, .g 8, .g 9, .g 10, .g 11, .g 12, .g 13, .g 14, .g 15, .g 16], [], []⟩)]) (lp := []) (un := [])
    (by kernel_rfl) kof_nil (pats := [(.val 0)]) 0 0 1 (by decide) rfl (by kernel_rfl) (by kernel_rfl) (by kernel_rfl) (fun ds => by kernel_rfl)
noncomputable def poacherlaw19_SubmitOnce_s : Sg := { args := [.agg 4, .leaf, .leaf, .leaf, .agg 9], res := .one (.leaf), os := [.ro true], fn := poacherlaw19_SubmitOnce }
theorem poacherlaw19_SubmitOnce_ok : FnOK Try.prog 6 poacherlaw19_SubmitOnce_s :=
  fn_of progOK Try.func6 (sigs := [(19, (.bool (.c false))), (18, (.tup [.nils, (.agg [(.int .i64 (.c 0)), .nils, (.int .i64 (.c 0)), (.int .i64 (.c 0)), (.int .i64 (.c 0)), (.int .u64 (.c 0)), (.int .u64 (.c 0)), (.int .u64 (.c 0)), (.int .i64 (.c 0))]), .nils])), (21, (.bool (.c false))), (20, (.bool (.c false))), (16, (.bool (.c false))), (17, (.bool (.c false)))]) (K := [(19, submit_May_s), (18, submit_Step_s), (21, submit_Busy_s), (20, submit_Same_s), (16, poacherlaw19_awake_s), (17, poacherlaw04_Few_s)]) (H := [(3, ⟨[.i 21, .i 22, .g 0, .g 1, .g 2, .g 3, .g 4, .g 5, .g 6, .g 7, .g 8, .g 9, .g 10, .g 11, .g 12, .g 13, .g 14, .g 15, .g 16], [], [(3, .own 33 1 true), (5, .own 50 3 true)]⟩)]) (lp := []) (un := [])
    (by kernel_rfl) (kof_cons submit_May_ok (kof_cons submit_Step_ok (kof_cons submit_Busy_ok (kof_cons submit_Same_ok (kof_cons poacherlaw19_awake_ok (kof_cons poacherlaw04_Few_ok kof_nil)))))) (pats := [(.agg [(.int .i64 (.v 0)), (.int .i64 (.v 1)), (.int .i64 (.v 2)), (.int .i64 (.v 3))]), (.val 0), (.val 1), (.int .i64 (.v 4)), (.agg [(.int .i64 (.v 5)), (.val 2), (.int .i64 (.v 6)), (.int .i64 (.v 7)), (.int .i64 (.v 8)), (.int .u64 (.v 9)), (.int .u64 (.v 10)), (.int .u64 (.v 11)), (.int .i64 (.v 12))])]) 13 0 3 (by decide) rfl (by kernel_rfl) (by kernel_rfl) (by kernel_rfl) (fun ds => by kernel_rfl)
end RxY
