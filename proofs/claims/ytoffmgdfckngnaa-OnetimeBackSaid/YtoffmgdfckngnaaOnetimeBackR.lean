/- OnetimeBack: for every input the law returns true, and each argument reads as it read before: no condition. -/
import Derived.Test.YtoffmgdfckngnaaRows
import Derived.Test.YtoffmgdfckngnaaOnetimeBackK
import Derived.Test.YtoffmgdfckngnaaOnetimeBackL
import Derived.OpenShut
import Derived.ShutString
import Derived.ChangeOld
import Derived.Below
namespace Go.Proofs.Ytoffmgdfckngnaa
open Go.Vm Go.RowKit
theorem onetimeBack_lifted (os : Os) (started : os.Started) (H : Type) (enc : TypeId × Value → H) :
    ReturnsInHanded {} Try.checked os 9 .any (Rows.onetimeBackSpec.pre6 enc Try.prog Try.f9 Rows.onetimeBackRow.domain false) (Rows.onetimeBackSpec.post enc Try.prog Try.f9 false true false false) :=
  law_lifted (C := Try.checked) (φ := Go.Vm.Ytoffmgdfckngnaa.OnetimeBack.phi) (S := Go.Vm.Ytoffmgdfckngnaa.OnetimeBack.S) (by kernel_rfl) started (by kernel_rfl) Try.func9
    (ChangeSpec.witness6 (enc := enc) (C := Try.checked) false ⟨#[], #[.int .u64 0, .int .i64 0, .int .u64 0], []⟩ 8 (by kernel_rfl) (by kernel_rfl) (by kernel_rfl) (by kernel_rfl))
    (by kernel_rfl) rfl (ts := [22, 3, 22]) rfl (rt := 4) rfl (by kernel_rfl) (fun ds h => by
      match ds, h with
      | [a0, a1, a2], _ => rfl) (by kernel_rfl) Go.Vm.Ytoffmgdfckngnaa.OnetimeBack.hS Go.Vm.Ytoffmgdfckngnaa.OnetimeBack.hphi rfl (tys := [(.int .u64), (.int .i64), (.int .u64)]) (by kernel_rfl) Go.Vm.Ytoffmgdfckngnaa.OnetimeBack.k_passkeylaw3_OnetimeBack (y := true) rfl (fun x _ => OnetimeBack_true x)
theorem onetimeBack_holds : Rows.OnetimeBackSaid :=
  OpenClaim.holds_of_wide 9 Try.f9 rfl rfl rfl rfl rfl rfl rfl ⟨rfl, rfl, rfl, rfl, rfl⟩ rfl rfl rfl rfl rfl (by kernel_rfl) Try.func9 (by kernel_rfl)
    (of_decide_eq_true (by kernel_rfl)) (by unfold Func.isWrapper; first | (rw [if_pos (by decide +kernel)]; kernel_rfl) | (rw [if_neg (by decide +kernel)]; exact ⟨rfl, rfl⟩))
    (fun os started H enc _ => onetimeBack_lifted os started H enc)
end Go.Proofs.Ytoffmgdfckngnaa
#print axioms Go.Proofs.Ytoffmgdfckngnaa.onetimeBack_holds
