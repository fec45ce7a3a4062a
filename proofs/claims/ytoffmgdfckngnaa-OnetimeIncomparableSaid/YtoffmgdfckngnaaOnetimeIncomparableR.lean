/- OnetimeIncomparable: for every input the law returns true, and each argument reads as it read before: no condition. -/
import Derived.Test.YtoffmgdfckngnaaRows
import Derived.Test.YtoffmgdfckngnaaOnetimeIncomparableK
import Derived.Test.YtoffmgdfckngnaaOnetimeIncomparableL
import Derived.OpenShut
import Derived.ShutString
import Derived.ChangeOld
import Derived.Below
namespace Go.Proofs.Ytoffmgdfckngnaa
open Go.Vm Go.RowKit
theorem onetimeIncomparable_lifted (os : Os) (started : os.Started) (H : Type) (enc : TypeId × Value → H) :
    ReturnsInHanded {} Try.checked os 4 .any (Rows.onetimeIncomparableSpec.pre6 enc Try.prog Try.f4 Rows.onetimeIncomparableRow.domain false) (Rows.onetimeIncomparableSpec.post enc Try.prog Try.f4 false true false false) :=
  law_lifted (C := Try.checked) (φ := Go.Vm.Ytoffmgdfckngnaa.OnetimeIncomparable.phi) (S := Go.Vm.Ytoffmgdfckngnaa.OnetimeIncomparable.S) (by kernel_rfl) started (by kernel_rfl) Try.func4
    (ChangeSpec.witness6 (enc := enc) (C := Try.checked) false ⟨#[], #[.int .u64 0, .int .u64 0, .int .u8 0], []⟩ 8 (by kernel_rfl) (by kernel_rfl) (by kernel_rfl) (by kernel_rfl))
    (by kernel_rfl) rfl (ts := [22, 22, 5]) rfl (rt := 4) rfl (by kernel_rfl) (fun ds h => by
      match ds, h with
      | [a0, a1, a2], _ => rfl) (by kernel_rfl) Go.Vm.Ytoffmgdfckngnaa.OnetimeIncomparable.hS Go.Vm.Ytoffmgdfckngnaa.OnetimeIncomparable.hphi rfl (tys := [(.int .u64), (.int .u64), (.int .u8)]) (by kernel_rfl) Go.Vm.Ytoffmgdfckngnaa.OnetimeIncomparable.k_passkeylaw3_OnetimeIncomparable (y := true) rfl (fun x hx => OnetimeIncomparable_true x hx)
theorem onetimeIncomparable_holds : Rows.OnetimeIncomparableSaid :=
  OpenClaim.holds_of_wide 4 Try.f4 rfl rfl rfl rfl rfl rfl rfl ⟨rfl, rfl, rfl, rfl, rfl⟩ rfl rfl rfl rfl rfl (by kernel_rfl) Try.func4 (by kernel_rfl)
    (of_decide_eq_true (by kernel_rfl)) (by unfold Func.isWrapper; first | (rw [if_pos (by decide +kernel)]; kernel_rfl) | (rw [if_neg (by decide +kernel)]; exact ⟨rfl, rfl⟩))
    (fun os started H enc _ => onetimeIncomparable_lifted os started H enc)
end Go.Proofs.Ytoffmgdfckngnaa
#print axioms Go.Proofs.Ytoffmgdfckngnaa.onetimeIncomparable_holds
