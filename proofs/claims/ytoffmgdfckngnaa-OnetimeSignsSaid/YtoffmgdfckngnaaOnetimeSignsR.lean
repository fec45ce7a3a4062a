/- OnetimeSigns: for every input the law returns true, and each argument reads as it read before: no condition. -/
import Derived.Test.YtoffmgdfckngnaaRows
import Derived.Test.YtoffmgdfckngnaaOnetimeSignsK
import Derived.Test.YtoffmgdfckngnaaOnetimeSignsL
import Derived.OpenShut
import Derived.ShutString
import Derived.ChangeOld
import Derived.Below
namespace Go.Proofs.Ytoffmgdfckngnaa
open Go.Vm Go.RowKit
theorem onetimeSigns_lifted (os : Os) (started : os.Started) (H : Type) (enc : TypeId × Value → H) :
    ReturnsInHanded {} Try.checked os 8 .any (Rows.onetimeSignsSpec.pre6 enc Try.prog Try.f8 Rows.onetimeSignsRow.domain false) (Rows.onetimeSignsSpec.post enc Try.prog Try.f8 false true false false) :=
  law_lifted (C := Try.checked) (φ := Go.Vm.Ytoffmgdfckngnaa.OnetimeSigns.phi) (S := Go.Vm.Ytoffmgdfckngnaa.OnetimeSigns.S) (by kernel_rfl) started (by kernel_rfl) Try.func8
    (ChangeSpec.witness6 (enc := enc) (C := Try.checked) false ⟨#[], #[.int .u64 0, .int .i64 0, .int .u64 0, .slice none 0 0, .int .u8 0], []⟩ 8 (by kernel_rfl) (by kernel_rfl) (by kernel_rfl) (by kernel_rfl))
    (by kernel_rfl) rfl (ts := [22, 3, 22, 36, 5]) rfl (rt := 4) rfl (by kernel_rfl) (fun ds h => by
      match ds, h with
      | [a0, a1, a2, a3, a4], _ => rfl) (by kernel_rfl) Go.Vm.Ytoffmgdfckngnaa.OnetimeSigns.hS Go.Vm.Ytoffmgdfckngnaa.OnetimeSigns.hphi rfl (tys := [(.int .u64), (.int .i64), (.int .u64), (.list (.int .u64)), (.int .u8)]) (by kernel_rfl) Go.Vm.Ytoffmgdfckngnaa.OnetimeSigns.k_passkeylaw3_OnetimeSigns (y := true) rfl (fun x _ => OnetimeSigns_true x)
theorem onetimeSigns_holds : Rows.OnetimeSignsSaid :=
  OpenClaim.holds_of_wide 8 Try.f8 rfl rfl rfl rfl rfl rfl rfl ⟨rfl, rfl, rfl, rfl, rfl⟩ rfl rfl rfl rfl rfl (by kernel_rfl) Try.func8 (by kernel_rfl)
    (of_decide_eq_true (by kernel_rfl)) (by unfold Func.isWrapper; first | (rw [if_pos (by decide +kernel)]; kernel_rfl) | (rw [if_neg (by decide +kernel)]; exact ⟨rfl, rfl⟩))
    (fun os started H enc _ => onetimeSigns_lifted os started H enc)
end Go.Proofs.Ytoffmgdfckngnaa
#print axioms Go.Proofs.Ytoffmgdfckngnaa.onetimeSigns_holds
