/-
  SubmitOnce: a submitter's roots go one by one, and no step is at two cells. No conditions but the statement's own.
-/
import Derived.Test.YtjkiookhmmalkaaP
import Derived.Test.YtjkiookhmmalkaaO
import Derived.Test.YtjkiookhmmalkaaRows
namespace Go.Proofs.Ytjkiookhmmalkaa
open Go.ChangeShapes Go.WideShapes Go.ChangeAt Go.RowKit Rx RxY
theorem own : ownKnob Try.prog.godebug = none := by kernel_rfl
theorem laidOut : laidOutB Try.prog = true := by kernel_rfl
set_option maxRecDepth 100000 in
theorem submitOnce_lifted (os : Os) (started : os.Started) (H : Type) (enc : TypeId × Value → H) :
    ReturnsInHanded {} Try.checked os 6 .any (Rows.submitOnceSpec.pre6 enc Try.prog Try.f6 Rows.submitOnceRow.domain false) (Rows.submitOnceSpec.post enc Try.prog Try.f6 false true false false) := by
  refine returnsInHanded_of_change (C := Try.checked) own started (by kernel_rfl) Try.func6
    (ChangeSpec.witness6 (enc := enc) (C := Try.checked) false ⟨#[], #[.agg #[.int .i64 0, .int .i64 0, .int .i64 0, .int .i64 0], .slice none 0 0, .slice none 0 0, .int .i64 0, .agg #[.int .i64 0, .slice none 0 0, .int .i64 0, .int .i64 0, .int .i64 0, .int .u64 0, .int .u64 0, .int .u64 0, .int .i64 0]], []⟩ 8 (by kernel_rfl) (by kernel_rfl) (by kernel_rfl) (by kernel_rfl)) ?_
  intro W base args ds gs before hval hW _ _
  exact law_calls (P := Try.prog) laidOut poacherlaw19_SubmitOnce_ok rfl (tb := 4) (by kernel_rfl) (by kernel_rfl) (by kernel_rfl) (by kernel_rfl) (by kernel_rfl) (by kernel_rfl) (fun ds h => by
    match ds, h with
    | [_, _, _, _, _], _ => exact ⟨rfl, rfl, rfl⟩) Pq.law_SubmitOnce W base args ds gs before hval hW
theorem submitOnce_holds : Rows.SubmitOnceSaid :=
  OpenClaim.holds_of_wide 6 Try.f6 rfl rfl rfl rfl rfl rfl rfl ⟨rfl, rfl, rfl, rfl, rfl⟩ rfl rfl rfl rfl rfl (by kernel_rfl) Try.func6 (by kernel_rfl)
    (of_decide_eq_true (by kernel_rfl)) (by unfold Func.isWrapper; first | (rw [if_pos (by decide +kernel)]; kernel_rfl) | (rw [if_neg (by decide +kernel)]; exact ⟨rfl, rfl⟩))
    (fun os started H enc _ => submitOnce_lifted os started H enc)
end Go.Proofs.Ytjkiookhmmalkaa
