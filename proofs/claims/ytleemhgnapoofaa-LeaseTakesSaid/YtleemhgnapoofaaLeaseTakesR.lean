/- LeaseTakes: for every input the law returns true, and each argument reads as it read before: no condition. -/
import Derived.Test.YtleemhgnapoofaaRows
import Derived.Test.YtleemhgnapoofaaLeaseTakesK
import Derived.Test.YtleemhgnapoofaaLeaseTakesL
import Derived.OpenShut
import Derived.ShutString
import Derived.ChangeOld
import Derived.Below
namespace Go.Proofs.Ytleemhgnapoofaa
open Go.Vm Go.RowKit
theorem leaseTakes_lifted (os : Os) (started : os.Started) (H : Type) (enc : TypeId × Value → H) :
    ReturnsInHanded {} Try.checked os 7 .any (Rows.leaseTakesSpec.pre6 enc Try.prog Try.f7 Rows.leaseTakesRow.domain false) (Rows.leaseTakesSpec.post enc Try.prog Try.f7 false true false false) :=
  law_lifted (C := Try.checked) (φ := Go.Vm.Ytleemhgnapoofaa.LeaseTakes.phi) (S := Go.Vm.Ytleemhgnapoofaa.LeaseTakes.S) (by kernel_rfl) started (by kernel_rfl) Try.func7
    (ChangeSpec.witness6 (enc := enc) (C := Try.checked) false ⟨#[], #[.slice none 0 0, .int .u8 0], []⟩ 8 (by kernel_rfl) (by kernel_rfl) (by kernel_rfl) (by kernel_rfl))
    (by kernel_rfl) rfl (ts := [23, 5]) rfl (rt := 4) rfl (by kernel_rfl) (fun ds h => by
      match ds, h with
      | [a0, a1], _ => rfl) (by kernel_rfl) Go.Vm.Ytleemhgnapoofaa.LeaseTakes.hS Go.Vm.Ytleemhgnapoofaa.LeaseTakes.hphi rfl (tys := [(.list (.int .i64)), (.int .u8)]) (by kernel_rfl) Go.Vm.Ytleemhgnapoofaa.LeaseTakes.k_passkeylaw10_LeaseTakes (y := true) rfl (fun x _ => LeaseTakes_true x)
theorem leaseTakes_holds : Rows.LeaseTakesSaid :=
  OpenClaim.holds_of_wide 7 Try.f7 rfl rfl rfl rfl rfl rfl rfl ⟨rfl, rfl, rfl, rfl, rfl⟩ rfl rfl rfl rfl rfl (by kernel_rfl) Try.func7 (by kernel_rfl)
    (of_decide_eq_true (by kernel_rfl)) (by unfold Func.isWrapper; first | (rw [if_pos (by decide +kernel)]; kernel_rfl) | (rw [if_neg (by decide +kernel)]; exact ⟨rfl, rfl⟩))
    (fun os started H enc _ => leaseTakes_lifted os started H enc)
end Go.Proofs.Ytleemhgnapoofaa
#print axioms Go.Proofs.Ytleemhgnapoofaa.leaseTakes_holds
