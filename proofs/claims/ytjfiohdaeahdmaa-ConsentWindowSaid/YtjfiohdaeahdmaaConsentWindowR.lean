/- ConsentWindow: for every input the law returns true, and each argument reads as it read before: no condition. -/
import Derived.Test.YtjfiohdaeahdmaaRows
import Derived.Test.YtjfiohdaeahdmaaConsentWindowK
import Derived.Test.YtjfiohdaeahdmaaConsentWindowL
import Derived.OpenShut
import Derived.ShutString
import Derived.ChangeOld
import Derived.Below
namespace Go.Proofs.Ytjfiohdaeahdmaa
open Go.Vm Go.RowKit
theorem consentWindow_lifted (os : Os) (started : os.Started) (H : Type) (enc : TypeId × Value → H) :
    ReturnsInHanded {} Try.checked os 5 .any (Rows.consentWindowSpec.pre6 enc Try.prog Try.f5 Rows.consentWindowRow.domain false) (Rows.consentWindowSpec.post enc Try.prog Try.f5 false true false false) :=
  law_lifted (C := Try.checked) (φ := Go.Vm.Ytjfiohdaeahdmaa.ConsentWindow.phi) (S := Go.Vm.Ytjfiohdaeahdmaa.ConsentWindow.S) (by kernel_rfl) started (by kernel_rfl) Try.func5
    (ChangeSpec.witness6 (enc := enc) (C := Try.checked) false ⟨#[], #[.int .u16 0, .bool false, .bool false, .slice none 0 0, .slice none 0 0], []⟩ 8 (by kernel_rfl) (by kernel_rfl) (by kernel_rfl) (by kernel_rfl))
    (by kernel_rfl) rfl (ts := [24, 4, 4, 23, 23]) rfl (rt := 4) rfl (by kernel_rfl) (fun ds h => by
      match ds, h with
      | [a0, a1, a2, a3, a4], _ => rfl) (by kernel_rfl) Go.Vm.Ytjfiohdaeahdmaa.ConsentWindow.hS Go.Vm.Ytjfiohdaeahdmaa.ConsentWindow.hphi rfl (tys := [(.int .u16), .bool, .bool, (.list (.int .u16)), (.list (.int .u16))]) (by kernel_rfl) Go.Vm.Ytjfiohdaeahdmaa.ConsentWindow.k_passkeylaw13_ConsentWindow (y := true) rfl (fun x hx => ConsentWindow_true x hx)
theorem consentWindow_holds : Rows.ConsentWindowSaid :=
  OpenClaim.holds_of_wide 5 Try.f5 rfl rfl rfl rfl rfl rfl rfl ⟨rfl, rfl, rfl, rfl, rfl⟩ rfl rfl rfl rfl rfl (by kernel_rfl) Try.func5 (by kernel_rfl)
    (of_decide_eq_true (by kernel_rfl)) (by unfold Func.isWrapper; first | (rw [if_pos (by decide +kernel)]; kernel_rfl) | (rw [if_neg (by decide +kernel)]; exact ⟨rfl, rfl⟩))
    (fun os started H enc _ => consentWindow_lifted os started H enc)
end Go.Proofs.Ytjfiohdaeahdmaa
#print axioms Go.Proofs.Ytjfiohdaeahdmaa.consentWindow_holds
