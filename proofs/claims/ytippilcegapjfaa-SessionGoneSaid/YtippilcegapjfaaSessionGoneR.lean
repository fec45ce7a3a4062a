/- SessionGone: for every input the law returns true, and each argument reads as it read before: no condition. -/
import Derived.Test.YtippilcegapjfaaRows
import Derived.Test.YtippilcegapjfaaSessionGoneK
import Derived.Test.YtippilcegapjfaaSessionGoneL
import Derived.OpenShut
import Derived.ShutString
import Derived.ChangeOld
import Derived.Below
namespace Go.Proofs.Ytippilcegapjfaa
open Go.Vm Go.RowKit
theorem sessionGone_lifted (os : Os) (started : os.Started) (H : Type) (enc : TypeId × Value → H) :
    ReturnsInHanded {} Try.checked os 5 .any (Rows.sessionGoneSpec.pre6 enc Try.prog Try.f5 Rows.sessionGoneRow.domain false) (Rows.sessionGoneSpec.post enc Try.prog Try.f5 false true false false) :=
  law_lifted (C := Try.checked) (φ := Go.Vm.Ytippilcegapjfaa.SessionGone.phi) (S := Go.Vm.Ytippilcegapjfaa.SessionGone.S) (by kernel_rfl) started (by kernel_rfl) Try.func5
    (ChangeSpec.witness6 (enc := enc) (C := Try.checked) false ⟨#[], #[.int .u64 0, .slice none 0 0, .int .u8 0, .int .u8 0], []⟩ 8 (by kernel_rfl) (by kernel_rfl) (by kernel_rfl) (by kernel_rfl))
    (by kernel_rfl) rfl (ts := [22, 26, 5, 5]) rfl (rt := 4) rfl (by kernel_rfl) (fun ds h => by
      match ds, h with
      | [a0, a1, a2, a3], _ => rfl) (by kernel_rfl) Go.Vm.Ytippilcegapjfaa.SessionGone.hS Go.Vm.Ytippilcegapjfaa.SessionGone.hphi rfl (tys := [(.int .u64), (.list (.int .u8)), (.int .u8), (.int .u8)]) (by kernel_rfl) Go.Vm.Ytippilcegapjfaa.SessionGone.k_passkeylaw34_SessionGone (y := true) rfl (fun x hx => SessionGone_true x hx)
theorem sessionGone_holds : Rows.SessionGoneSaid :=
  OpenClaim.holds_of_wide 5 Try.f5 rfl rfl rfl rfl rfl rfl rfl ⟨rfl, rfl, rfl, rfl, rfl⟩ rfl rfl rfl rfl rfl (by kernel_rfl) Try.func5 (by kernel_rfl)
    (of_decide_eq_true (by kernel_rfl)) (by unfold Func.isWrapper; first | (rw [if_pos (by decide +kernel)]; kernel_rfl) | (rw [if_neg (by decide +kernel)]; exact ⟨rfl, rfl⟩))
    (fun os started H enc _ => sessionGone_lifted os started H enc)
end Go.Proofs.Ytippilcegapjfaa
#print axioms Go.Proofs.Ytippilcegapjfaa.sessionGone_holds
