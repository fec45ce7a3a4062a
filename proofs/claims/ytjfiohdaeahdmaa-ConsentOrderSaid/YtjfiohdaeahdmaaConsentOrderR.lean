/- ConsentOrder: for every input the law returns true, and each argument reads as it read before: no condition. -/
import Derived.Test.YtjfiohdaeahdmaaRows
import Derived.Test.YtjfiohdaeahdmaaConsentOrderK
import Derived.Test.YtjfiohdaeahdmaaConsentOrderL
import Derived.OpenShut
import Derived.ShutString
import Derived.ChangeOld
import Derived.Below
namespace Go.Proofs.Ytjfiohdaeahdmaa
open Go.Vm Go.RowKit
theorem consentOrder_lifted (os : Os) (started : os.Started) (H : Type) (enc : TypeId × Value → H) :
    ReturnsInHanded {} Try.checked os 4 .any (Rows.consentOrderSpec.pre6 enc Try.prog Try.f4 Rows.consentOrderRow.domain false) (Rows.consentOrderSpec.post enc Try.prog Try.f4 false true false false) :=
  law_lifted (C := Try.checked) (φ := Go.Vm.Ytjfiohdaeahdmaa.ConsentOrder.phi) (S := Go.Vm.Ytjfiohdaeahdmaa.ConsentOrder.S) (by kernel_rfl) started (by kernel_rfl) Try.func4
    (ChangeSpec.witness6 (enc := enc) (C := Try.checked) false ⟨#[], #[.int .u16 0, .bool false, .bool false, .slice none 0 0], []⟩ 8 (by kernel_rfl) (by kernel_rfl) (by kernel_rfl) (by kernel_rfl))
    (by kernel_rfl) rfl (ts := [24, 4, 4, 23]) rfl (rt := 4) rfl (by kernel_rfl) (fun ds h => by
      match ds, h with
      | [a0, a1, a2, a3], _ => rfl) (by kernel_rfl) Go.Vm.Ytjfiohdaeahdmaa.ConsentOrder.hS Go.Vm.Ytjfiohdaeahdmaa.ConsentOrder.hphi rfl (tys := [(.int .u16), .bool, .bool, (.list (.int .u16))]) (by kernel_rfl) Go.Vm.Ytjfiohdaeahdmaa.ConsentOrder.k_passkeylaw13_ConsentOrder (y := true) rfl (fun x hx => ConsentOrder_true x hx)
theorem consentOrder_holds : Rows.ConsentOrderSaid :=
  OpenClaim.holds_of_wide 4 Try.f4 rfl rfl rfl rfl rfl rfl rfl ⟨rfl, rfl, rfl, rfl, rfl⟩ rfl rfl rfl rfl rfl (by kernel_rfl) Try.func4 (by kernel_rfl)
    (of_decide_eq_true (by kernel_rfl)) (by unfold Func.isWrapper; first | (rw [if_pos (by decide +kernel)]; kernel_rfl) | (rw [if_neg (by decide +kernel)]; exact ⟨rfl, rfl⟩))
    (fun os started H enc _ => consentOrder_lifted os started H enc)
end Go.Proofs.Ytjfiohdaeahdmaa
#print axioms Go.Proofs.Ytjfiohdaeahdmaa.consentOrder_holds
