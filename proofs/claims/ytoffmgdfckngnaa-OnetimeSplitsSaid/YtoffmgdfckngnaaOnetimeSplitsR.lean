/- OnetimeSplits: for every input the law returns true, and each argument reads as it read before: no condition. -/
import Derived.Test.YtoffmgdfckngnaaRows
import Derived.Test.YtoffmgdfckngnaaOnetimeSplitsK
import Derived.Test.YtoffmgdfckngnaaOnetimeSplitsL
import Derived.OpenShut
import Derived.ShutString
import Derived.ChangeOld
import Derived.Below
namespace Go.Proofs.Ytoffmgdfckngnaa
open Go.Vm Go.RowKit
theorem onetimeSplits_lifted (os : Os) (started : os.Started) (H : Type) (enc : TypeId × Value → H) :
    ReturnsInHanded {} Try.checked os 3 .any (Rows.onetimeSplitsSpec.pre6 enc Try.prog Try.f3 Rows.onetimeSplitsRow.domain false) (Rows.onetimeSplitsSpec.post enc Try.prog Try.f3 false true false false) :=
  law_lifted (C := Try.checked) (φ := Go.Vm.Ytoffmgdfckngnaa.OnetimeSplits.phi) (S := Go.Vm.Ytoffmgdfckngnaa.OnetimeSplits.S) (by kernel_rfl) started (by kernel_rfl) Try.func3
    (ChangeSpec.witness6 (enc := enc) (C := Try.checked) false ⟨#[], #[.int .u64 0], []⟩ 8 (by kernel_rfl) (by kernel_rfl) (by kernel_rfl) (by kernel_rfl))
    (by kernel_rfl) rfl (ts := [22]) rfl (rt := 4) rfl (by kernel_rfl) (fun ds h => by
      match ds, h with
      | [a0], _ => rfl) (by kernel_rfl) Go.Vm.Ytoffmgdfckngnaa.OnetimeSplits.hS Go.Vm.Ytoffmgdfckngnaa.OnetimeSplits.hphi rfl (tys := [(.int .u64)]) (by kernel_rfl) Go.Vm.Ytoffmgdfckngnaa.OnetimeSplits.k_passkeylaw3_OnetimeSplits (y := true) rfl (fun x _ => OnetimeSplits_true x)
theorem onetimeSplits_holds : Rows.OnetimeSplitsSaid :=
  OpenClaim.holds_of_wide 3 Try.f3 rfl rfl rfl rfl rfl rfl rfl ⟨rfl, rfl, rfl, rfl, rfl⟩ rfl rfl rfl rfl rfl (by kernel_rfl) Try.func3 (by kernel_rfl)
    (of_decide_eq_true (by kernel_rfl)) (by unfold Func.isWrapper; first | (rw [if_pos (by decide +kernel)]; kernel_rfl) | (rw [if_neg (by decide +kernel)]; exact ⟨rfl, rfl⟩))
    (fun os started H enc _ => onetimeSplits_lifted os started H enc)
end Go.Proofs.Ytoffmgdfckngnaa
#print axioms Go.Proofs.Ytoffmgdfckngnaa.onetimeSplits_holds
