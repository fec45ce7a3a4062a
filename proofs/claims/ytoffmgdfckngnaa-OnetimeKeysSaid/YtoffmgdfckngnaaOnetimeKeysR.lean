/- OnetimeKeys: for every input the law returns true, and each argument reads as it read before: no condition. -/
import Derived.Test.YtoffmgdfckngnaaRows
import Derived.Test.YtoffmgdfckngnaaOnetimeKeysK
import Derived.Test.YtoffmgdfckngnaaOnetimeKeysL
import Derived.OpenShut
import Derived.ShutString
import Derived.ChangeOld
import Derived.Below
namespace Go.Proofs.Ytoffmgdfckngnaa
open Go.Vm Go.RowKit
theorem onetimeKeys_lifted (os : Os) (started : os.Started) (H : Type) (enc : TypeId × Value → H) :
    ReturnsInHanded {} Try.checked os 7 .any (Rows.onetimeKeysSpec.pre6 enc Try.prog Try.f7 Rows.onetimeKeysRow.domain false) (Rows.onetimeKeysSpec.post enc Try.prog Try.f7 false true false false) :=
  law_lifted (C := Try.checked) (φ := Go.Vm.Ytoffmgdfckngnaa.OnetimeKeys.phi) (S := Go.Vm.Ytoffmgdfckngnaa.OnetimeKeys.S) (by kernel_rfl) started (by kernel_rfl) Try.func7
    (ChangeSpec.witness6 (enc := enc) (C := Try.checked) false ⟨#[], #[.int .u64 0, .int .i64 0, .int .i64 0], []⟩ 8 (by kernel_rfl) (by kernel_rfl) (by kernel_rfl) (by kernel_rfl))
    (by kernel_rfl) rfl (ts := [22, 3, 3]) rfl (rt := 4) rfl (by kernel_rfl) (fun ds h => by
      match ds, h with
      | [a0, a1, a2], _ => rfl) (by kernel_rfl) Go.Vm.Ytoffmgdfckngnaa.OnetimeKeys.hS Go.Vm.Ytoffmgdfckngnaa.OnetimeKeys.hphi rfl (tys := [(.int .u64), (.int .i64), (.int .i64)]) (by kernel_rfl) Go.Vm.Ytoffmgdfckngnaa.OnetimeKeys.k_passkeylaw3_OnetimeKeys (y := true) rfl (fun x _ => OnetimeKeys_true x)
theorem onetimeKeys_holds : Rows.OnetimeKeysSaid :=
  OpenClaim.holds_of_wide 7 Try.f7 rfl rfl rfl rfl rfl rfl rfl ⟨rfl, rfl, rfl, rfl, rfl⟩ rfl rfl rfl rfl rfl (by kernel_rfl) Try.func7 (by kernel_rfl)
    (of_decide_eq_true (by kernel_rfl)) (by unfold Func.isWrapper; first | (rw [if_pos (by decide +kernel)]; kernel_rfl) | (rw [if_neg (by decide +kernel)]; exact ⟨rfl, rfl⟩))
    (fun os started H enc _ => onetimeKeys_lifted os started H enc)
end Go.Proofs.Ytoffmgdfckngnaa
#print axioms Go.Proofs.Ytoffmgdfckngnaa.onetimeKeys_holds
