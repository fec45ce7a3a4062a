/- AuthdataUnique: for every input the law returns true, and each argument reads as it read before: no condition. -/
import Derived.Test.YtengonaonfdlkaaRows
import Derived.Test.YtengonaonfdlkaaAuthdataUniqueK
import Derived.Test.YtengonaonfdlkaaAuthdataUniqueL
import Derived.OpenShut
import Derived.ShutString
import Derived.ChangeOld
import Derived.Below
namespace Go.Proofs.Ytengonaonfdlkaa
open Go.Vm Go.RowKit
theorem authdataUnique_lifted (os : Os) (started : os.Started) (H : Type) (enc : TypeId × Value → H) :
    ReturnsInHanded {} Try.checked os 7 .any (Rows.authdataUniqueSpec.pre6 enc Try.prog Try.f7 Rows.authdataUniqueRow.domain false) (Rows.authdataUniqueSpec.post enc Try.prog Try.f7 false true false false) :=
  law_lifted (C := Try.checked) (φ := Go.Vm.Ytengonaonfdlkaa.AuthdataUnique.phi) (S := Go.Vm.Ytengonaonfdlkaa.AuthdataUnique.S) (by kernel_rfl) started (by kernel_rfl) Try.func7
    (ChangeSpec.witness6 (enc := enc) (C := Try.checked) false ⟨#[], #[.slice none 0 0, .int .i64 0, .int .i64 0, .int .u8 0], []⟩ 8 (by kernel_rfl) (by kernel_rfl) (by kernel_rfl) (by kernel_rfl))
    (by kernel_rfl) rfl (ts := [23, 3, 3, 5]) rfl (rt := 4) rfl (by kernel_rfl) (fun ds h => by
      match ds, h with
      | [a0, a1, a2, a3], _ => rfl) (by kernel_rfl) Go.Vm.Ytengonaonfdlkaa.AuthdataUnique.hS Go.Vm.Ytengonaonfdlkaa.AuthdataUnique.hphi rfl (tys := [(.list (.int .u8)), (.int .i64), (.int .i64), (.int .u8)]) (by kernel_rfl) Go.Vm.Ytengonaonfdlkaa.AuthdataUnique.k_passkeylaw14_AuthdataUnique (y := true) rfl (fun x hx => AuthdataUnique_true x hx)
theorem authdataUnique_holds : Rows.AuthdataUniqueSaid :=
  OpenClaim.holds_of_wide 7 Try.f7 rfl rfl rfl rfl rfl rfl rfl ⟨rfl, rfl, rfl, rfl, rfl⟩ rfl rfl rfl rfl rfl (by kernel_rfl) Try.func7 (by kernel_rfl)
    (of_decide_eq_true (by kernel_rfl)) (by unfold Func.isWrapper; first | (rw [if_pos (by decide +kernel)]; kernel_rfl) | (rw [if_neg (by decide +kernel)]; exact ⟨rfl, rfl⟩))
    (fun os started H enc _ => authdataUnique_lifted os started H enc)
end Go.Proofs.Ytengonaonfdlkaa
#print axioms Go.Proofs.Ytengonaonfdlkaa.authdataUnique_holds
