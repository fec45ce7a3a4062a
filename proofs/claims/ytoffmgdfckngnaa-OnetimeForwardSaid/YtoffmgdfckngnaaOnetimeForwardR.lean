/- OnetimeForward: for every input the law returns true, and each argument reads as it read before: no condition. -/
import Derived.Test.YtoffmgdfckngnaaRows
import Derived.Test.YtoffmgdfckngnaaOnetimeForwardK
import Derived.Test.YtoffmgdfckngnaaOnetimeForwardL
import Derived.OpenShut
import Derived.ShutString
import Derived.ChangeOld
import Derived.Below
namespace Go.Proofs.Ytoffmgdfckngnaa
open Go.Vm Go.RowKit
theorem onetimeForward_lifted (os : Os) (started : os.Started) (H : Type) (enc : TypeId × Value → H) :
    ReturnsInHanded {} Try.checked os 6 .any (Rows.onetimeForwardSpec.pre6 enc Try.prog Try.f6 Rows.onetimeForwardRow.domain false) (Rows.onetimeForwardSpec.post enc Try.prog Try.f6 false true false false) :=
  law_lifted (C := Try.checked) (φ := Go.Vm.Ytoffmgdfckngnaa.OnetimeForward.phi) (S := Go.Vm.Ytoffmgdfckngnaa.OnetimeForward.S) (by kernel_rfl) started (by kernel_rfl) Try.func6
    (ChangeSpec.witness6 (enc := enc) (C := Try.checked) false ⟨#[], #[.int .u8 0, .int .u8 0, .int .u8 0, .int .u8 0, .int .u8 0, .int .u64 0], []⟩ 8 (by kernel_rfl) (by kernel_rfl) (by kernel_rfl) (by kernel_rfl))
    (by kernel_rfl) rfl (ts := [5, 5, 5, 5, 5, 22]) rfl (rt := 4) rfl (by kernel_rfl) (fun ds h => by
      match ds, h with
      | [a0, a1, a2, a3, a4, a5], _ => rfl) (by kernel_rfl) Go.Vm.Ytoffmgdfckngnaa.OnetimeForward.hS Go.Vm.Ytoffmgdfckngnaa.OnetimeForward.hphi rfl (tys := [(.int .u8), (.int .u8), (.int .u8), (.int .u8), (.int .u8), (.int .u64)]) (by kernel_rfl) Go.Vm.Ytoffmgdfckngnaa.OnetimeForward.k_passkeylaw3_OnetimeForward (y := true) rfl (fun x hx => OnetimeForward_true x hx)
theorem onetimeForward_holds : Rows.OnetimeForwardSaid :=
  OpenClaim.holds_of_wide 6 Try.f6 rfl rfl rfl rfl rfl rfl rfl ⟨rfl, rfl, rfl, rfl, rfl⟩ rfl rfl rfl rfl rfl (by kernel_rfl) Try.func6 (by kernel_rfl)
    (of_decide_eq_true (by kernel_rfl)) (by unfold Func.isWrapper; first | (rw [if_pos (by decide +kernel)]; kernel_rfl) | (rw [if_neg (by decide +kernel)]; exact ⟨rfl, rfl⟩))
    (fun os started H enc _ => onetimeForward_lifted os started H enc)
end Go.Proofs.Ytoffmgdfckngnaa
#print axioms Go.Proofs.Ytoffmgdfckngnaa.onetimeForward_holds
