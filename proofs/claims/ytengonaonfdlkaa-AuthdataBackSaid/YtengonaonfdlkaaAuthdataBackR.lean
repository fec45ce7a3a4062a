/- AuthdataBack: for every input the law returns true, and each argument reads as it read before: no condition. -/
import Derived.Test.YtengonaonfdlkaaRows
import Derived.Test.YtengonaonfdlkaaAuthdataBackK
import Derived.Test.YtengonaonfdlkaaAuthdataBackL
import Derived.OpenShut
import Derived.ShutString
import Derived.ChangeOld
import Derived.Below
namespace Go.Proofs.Ytengonaonfdlkaa
open Go.Vm Go.RowKit
theorem authdataBack_lifted (os : Os) (started : os.Started) (H : Type) (enc : TypeId × Value → H) :
    ReturnsInHanded {} Try.checked os 6 .any (Rows.authdataBackSpec.pre6 enc Try.prog Try.f6 Rows.authdataBackRow.domain false) (Rows.authdataBackSpec.post enc Try.prog Try.f6 false true false false) :=
  law_lifted (C := Try.checked) (φ := Go.Vm.Ytengonaonfdlkaa.AuthdataBack.phi) (S := Go.Vm.Ytengonaonfdlkaa.AuthdataBack.S) (by kernel_rfl) started (by kernel_rfl) Try.func6
    (ChangeSpec.witness6 (enc := enc) (C := Try.checked) false ⟨#[], #[.int .i64 0, .int .u64 0], []⟩ 8 (by kernel_rfl) (by kernel_rfl) (by kernel_rfl) (by kernel_rfl))
    (by kernel_rfl) rfl (ts := [3, 22]) rfl (rt := 4) rfl (by kernel_rfl) (fun ds h => by
      match ds, h with
      | [a0, a1], _ => rfl) (by kernel_rfl) Go.Vm.Ytengonaonfdlkaa.AuthdataBack.hS Go.Vm.Ytengonaonfdlkaa.AuthdataBack.hphi rfl (tys := [(.int .i64), (.int .u64)]) (by kernel_rfl) Go.Vm.Ytengonaonfdlkaa.AuthdataBack.k_passkeylaw14_AuthdataBack (y := true) rfl (fun x hx => AuthdataBack_true x hx)
theorem authdataBack_holds : Rows.AuthdataBackSaid :=
  OpenClaim.holds_of_wide 6 Try.f6 rfl rfl rfl rfl rfl rfl rfl ⟨rfl, rfl, rfl, rfl, rfl⟩ rfl rfl rfl rfl rfl (by kernel_rfl) Try.func6 (by kernel_rfl)
    (of_decide_eq_true (by kernel_rfl)) (by unfold Func.isWrapper; first | (rw [if_pos (by decide +kernel)]; kernel_rfl) | (rw [if_neg (by decide +kernel)]; exact ⟨rfl, rfl⟩))
    (fun os started H enc _ => authdataBack_lifted os started H enc)
end Go.Proofs.Ytengonaonfdlkaa
#print axioms Go.Proofs.Ytengonaonfdlkaa.authdataBack_holds
