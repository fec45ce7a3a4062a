/- The functions of the seat Ytleemhgnapoofaa: what they compute. PRINTED by a program of this session's. -/
import Derived.Test.YtleemhgnapoofaaProg
import Derived.KernelRfl
import Derived.Test.YtleemhgnapoofaaLeaseDisjointP
namespace Go.Vm.Ytleemhgnapoofaa.LeaseDisjoint
open Go.Proofs
noncomputable def phi : Phi := mkPhi [28, 11, 13, 30, 15, 31, 20, 9, 18, 6]
noncomputable def own : Nat → List Nat := fun g => (([(32, [0])] : List (Nat × List Nat)).lookup g).getD []
noncomputable def X (rh : List Nat) : Cx := { P := Try.prog, φ := phi, own := own, h := { rehome := rh } }
noncomputable def F28 : RFunc := (funcP (X []) Try.f28).getD default
theorem c28 : funcP (X []) Try.f28 = some F28 := some_getD (by kernel_rfl)
noncomputable def F11 : RFunc := (funcP (X []) Try.f11).getD default
theorem c11 : funcP (X []) Try.f11 = some F11 := some_getD (by kernel_rfl)
noncomputable def F13 : RFunc := (funcP (X []) Try.f13).getD default
theorem c13 : funcP (X []) Try.f13 = some F13 := some_getD (by kernel_rfl)
noncomputable def F15 : RFunc := (funcP (X []) Try.f15).getD default
theorem c15 : funcP (X []) Try.f15 = some F15 := some_getD (by kernel_rfl)
noncomputable def F31 : RFunc := (funcP (X []) Try.f31).getD default
theorem c31 : funcP (X []) Try.f31 = some F31 := some_getD (by kernel_rfl)
noncomputable def F20 : RFunc := (funcP (X []) Try.f20).getD default
theorem c20 : funcP (X []) Try.f20 = some F20 := some_getD (by kernel_rfl)
noncomputable def F9 : RFunc := (funcP (X []) Try.f9).getD default
theorem c9 : funcP (X []) Try.f9 = some F9 := some_getD (by kernel_rfl)
noncomputable def F18 : RFunc := (funcP (X []) Try.f18).getD default
theorem c18 : funcP (X []) Try.f18 = some F18 := some_getD (by kernel_rfl)
noncomputable def F6 : RFunc := (funcP (X []) Try.f6).getD default
theorem c6 : funcP (X []) Try.f6 = some F6 := some_getD (by kernel_rfl)
theorem c30 : funcP (X []) Try.f30 = some (cloneF 4 32 (.agg [(.int .u64 0), (.int .i64 0), (.int .i64 0), (.int .i64 0)]) [none, none, none, none]) := by kernel_rfl
theorem hphi : PhiOK Try.prog phi := phi_ok (by kernel_rfl)
noncomputable def prims : List (Nat × (List AV → Option Res)) := [(30, clonePrim 4 32)]
theorem hprims : PrimsOK Try.prog phi prims := (.cons (clone_call Try.func30 rfl rfl c30 hphi rfl rfl (by decide)) .nil)
noncomputable def S : Sys := mkS [(28, F28), (11, F11), (13, F13), (15, F15), (31, F31), (20, F20), (9, F9), (18, F18), (6, F6)] prims
theorem hS : SysOK Try.prog phi S := sys_ok (.cons Try.func28 rfl rfl c28 (.cons Try.func11 rfl rfl c11 (.cons Try.func13 rfl rfl c13 (.cons Try.func15 rfl rfl c15 (.cons Try.func31 rfl rfl c31 (.cons Try.func20 rfl rfl c20 (.cons Try.func9 rfl rfl c9 (.cons Try.func18 rfl rfl c18 (.cons Try.func6 rfl rfl c6 .nil))))))))) hprims
noncomputable def sig_lease_valid : Sig := ⟨[.val (.st (.pair (.int .u64) (.pair (.int .i64) (.pair (.int .i64) (.int .i64)))))], [(.one, [.v .bool])]⟩
noncomputable def fns_lease_valid : List (Nat × FnT) := []
noncomputable def anns_lease_valid : List (Nat × Ann) := []
noncomputable def tys_lease_valid : List (Nat × Ty) := []
theorem d_lease_valid (x : pd sig_lease_valid.apt) : (runT (mkE fns_lease_valid anns_lease_valid tys_lease_valid) F28 sig_lease_valid x).den = sh_lease_valid x := by kernel_rfl
theorem k_lease_valid : FnOK S.lim 28 ⟨sig_lease_valid, sh_lease_valid⟩ := fn_ok' (fns := fns_lease_valid) (anns := anns_lease_valid) (tys := tys_lease_valid) .nil rfl rfl d_lease_valid
noncomputable def sig_lease_Find : Sig := ⟨[.val (.list (.st (.pair (.int .u64) (.pair (.int .i64) (.pair (.int .i64) (.int .i64)))))), .val (.int .u64)], [(.one, [.v (.int .i64)]), (.one, [.v .bool])]⟩
noncomputable def fns_lease_Find : List (Nat × FnT) := []
noncomputable def anns_lease_Find : List (Nat × Ann) := [(1000006, ⟨0, 21, [], []⟩), (6, ⟨0, 21, [(1, .c (.v (.int .u64))), (8, .c (.lst (.st (.pair (.int .u64) (.pair (.int .i64) (.pair (.int .i64) (.int .i64))))) [])), (9, .c (.v (.int .i64))), (10, .c (.v (.int .i64)))], []⟩)]
noncomputable def tys_lease_Find : List (Nat × Ty) := []
theorem d_lease_Find (x : pd sig_lease_Find.apt) : (runT (mkE fns_lease_Find anns_lease_Find tys_lease_Find) F11 sig_lease_Find x).den = sh_lease_Find x := by kernel_rfl
theorem k_lease_Find : FnOK S.lim 11 ⟨sig_lease_Find, sh_lease_Find⟩ := fn_ok' (fns := fns_lease_Find) (anns := anns_lease_Find) (tys := tys_lease_Find) .nil rfl rfl d_lease_Find
noncomputable def sig_lease_Validate : Sig := ⟨[.val (.list (.st (.pair (.int .u64) (.pair (.int .i64) (.pair (.int .i64) (.int .i64))))))], [(.one, [.v (.int .i64)])]⟩
noncomputable def fns_lease_Validate : List (Nat × FnT) := [(28, ⟨sig_lease_valid, sh_lease_valid⟩), (11, ⟨sig_lease_Find, sh_lease_Find⟩)]
noncomputable def anns_lease_Validate : List (Nat × Ann) := [(1000014, ⟨0, 31, [], []⟩), (14, ⟨0, 31, [(0, .c (.lst (.st (.pair (.int .u64) (.pair (.int .i64) (.pair (.int .i64) (.int .i64))))) [])), (10, .c (.lst (.st (.pair (.int .u64) (.pair (.int .i64) (.pair (.int .i64) (.int .i64))))) [])), (11, .c (.v (.int .i64))), (12, .c (.v (.int .i64)))], []⟩)]
noncomputable def tys_lease_Validate : List (Nat × Ty) := []
theorem d_lease_Validate (x : pd sig_lease_Validate.apt) : (runT (mkE fns_lease_Validate anns_lease_Validate tys_lease_Validate) F13 sig_lease_Validate x).den = sh_lease_Validate x := by kernel_rfl
theorem k_lease_Validate : FnOK S.lim 13 ⟨sig_lease_Validate, sh_lease_Validate⟩ := fn_ok' (fns := fns_lease_Validate) (anns := anns_lease_Validate) (tys := tys_lease_Validate) (.cons k_lease_valid (.cons k_lease_Find .nil)) rfl rfl d_lease_Validate
noncomputable def sig_slices_Clone___passkey_api_Lease_passkey_api_Lease_ : Sig := ⟨[.val (.list (.st (.pair (.int .u64) (.pair (.int .i64) (.pair (.int .i64) (.int .i64))))))], [(.one, [.own (.st (.pair (.int .u64) (.pair (.int .i64) (.pair (.int .i64) (.int .i64)))))])]⟩
theorem k_slices_Clone___passkey_api_Lease_passkey_api_Lease_ : FnOK S.lim 30 ⟨sig_slices_Clone___passkey_api_Lease_passkey_api_Lease_, sh_slices_Clone___passkey_api_Lease_passkey_api_Lease_⟩ := clone_fn (t := (.st (.pair (.int .u64) (.pair (.int .i64) (.pair (.int .i64) (.int .i64)))))) (b := 32) rfl
noncomputable def sig_lease_Grant : Sig := ⟨[.val (.list (.st (.pair (.int .u64) (.pair (.int .i64) (.pair (.int .i64) (.int .i64)))))), .val (.int .u64), .val (.int .i64), .val (.int .i64), .val (.int .i64)], [(.one, [.own (.st (.pair (.int .u64) (.pair (.int .i64) (.pair (.int .i64) (.int .i64)))))]), (.one, [.v (.int .i64)])]⟩
noncomputable def fns_lease_Grant : List (Nat × FnT) := [(28, ⟨sig_lease_valid, sh_lease_valid⟩), (11, ⟨sig_lease_Find, sh_lease_Find⟩), (13, ⟨sig_lease_Validate, sh_lease_Validate⟩), (30, ⟨sig_slices_Clone___passkey_api_Lease_passkey_api_Lease_, sh_slices_Clone___passkey_api_Lease_passkey_api_Lease_⟩)]
noncomputable def anns_lease_Grant : List (Nat × Ann) := []
noncomputable def tys_lease_Grant : List (Nat × Ty) := [(42, (.st (.pair (.int .u64) (.pair (.int .i64) (.pair (.int .i64) (.int .i64)))))), (43, (.st (.pair (.int .u64) (.pair (.int .i64) (.pair (.int .i64) (.int .i64))))))]
theorem d_lease_Grant (x : pd sig_lease_Grant.apt) : (runT (mkE fns_lease_Grant anns_lease_Grant tys_lease_Grant) F15 sig_lease_Grant x).den = sh_lease_Grant x := by kernel_rfl
theorem k_lease_Grant : FnOK S.lim 15 ⟨sig_lease_Grant, sh_lease_Grant⟩ := fn_ok' (fns := fns_lease_Grant) (anns := anns_lease_Grant) (tys := tys_lease_Grant) (.cons k_lease_valid (.cons k_lease_Find (.cons k_lease_Validate (.cons k_slices_Clone___passkey_api_Lease_passkey_api_Lease_ .nil)))) rfl rfl d_lease_Grant
noncomputable def sig_lease_held : Sig := ⟨[.val (.list (.st (.pair (.int .u64) (.pair (.int .i64) (.pair (.int .i64) (.int .i64)))))), .val (.int .u64)], [(.one, [.own (.st (.pair (.int .u64) (.pair (.int .i64) (.pair (.int .i64) (.int .i64)))))]), (.one, [.v (.int .i64)]), (.one, [.v (.int .i64)])]⟩
noncomputable def fns_lease_held : List (Nat × FnT) := [(11, ⟨sig_lease_Find, sh_lease_Find⟩), (13, ⟨sig_lease_Validate, sh_lease_Validate⟩), (30, ⟨sig_slices_Clone___passkey_api_Lease_passkey_api_Lease_, sh_slices_Clone___passkey_api_Lease_passkey_api_Lease_⟩)]
noncomputable def anns_lease_held : List (Nat × Ann) := []
noncomputable def tys_lease_held : List (Nat × Ty) := []
theorem d_lease_held (x : pd sig_lease_held.apt) : (runT (mkE fns_lease_held anns_lease_held tys_lease_held) F31 sig_lease_held x).den = sh_lease_held x := by kernel_rfl
theorem k_lease_held : FnOK S.lim 31 ⟨sig_lease_held, sh_lease_held⟩ := fn_ok' (fns := fns_lease_held) (anns := anns_lease_held) (tys := tys_lease_held) (.cons k_lease_Find (.cons k_lease_Validate (.cons k_slices_Clone___passkey_api_Lease_passkey_api_Lease_ .nil))) rfl rfl d_lease_held
noncomputable def sig_lease_Take : Sig := ⟨[.val (.list (.st (.pair (.int .u64) (.pair (.int .i64) (.pair (.int .i64) (.int .i64)))))), .val (.int .u64)], [(.one, [.own (.st (.pair (.int .u64) (.pair (.int .i64) (.pair (.int .i64) (.int .i64)))))]), (.one, [.v (.int .i64)]), (.one, [.v (.int .i64)])]⟩
noncomputable def fns_lease_Take : List (Nat × FnT) := [(31, ⟨sig_lease_held, sh_lease_held⟩)]
noncomputable def anns_lease_Take : List (Nat × Ann) := []
noncomputable def tys_lease_Take : List (Nat × Ty) := []
theorem d_lease_Take (x : pd sig_lease_Take.apt) : (runT (mkE fns_lease_Take anns_lease_Take tys_lease_Take) F20 sig_lease_Take x).den = sh_lease_Take x := by kernel_rfl
theorem k_lease_Take : FnOK S.lim 20 ⟨sig_lease_Take, sh_lease_Take⟩ := fn_ok' (fns := fns_lease_Take) (anns := anns_lease_Take) (tys := tys_lease_Take) (.cons k_lease_held .nil) rfl rfl d_lease_Take
noncomputable def sig_passkeylaw10_awake : Sig := ⟨[], [(.one, [.v .bool])]⟩
noncomputable def fns_passkeylaw10_awake : List (Nat × FnT) := [(15, ⟨sig_lease_Grant, sh_lease_Grant⟩), (20, ⟨sig_lease_Take, sh_lease_Take⟩)]
noncomputable def anns_passkeylaw10_awake : List (Nat × Ann) := []
noncomputable def tys_passkeylaw10_awake : List (Nat × Ty) := []
theorem d_passkeylaw10_awake (x : pd sig_passkeylaw10_awake.apt) : (runT (mkE fns_passkeylaw10_awake anns_passkeylaw10_awake tys_passkeylaw10_awake) F9 sig_passkeylaw10_awake x).den = sh_passkeylaw10_awake x := by kernel_rfl
theorem k_passkeylaw10_awake : FnOK S.lim 9 ⟨sig_passkeylaw10_awake, sh_passkeylaw10_awake⟩ := fn_ok' (fns := fns_passkeylaw10_awake) (anns := anns_passkeylaw10_awake) (tys := tys_passkeylaw10_awake) (.cons k_lease_Grant (.cons k_lease_Take .nil)) rfl rfl d_passkeylaw10_awake
noncomputable def sig_lease_Part : Sig := ⟨[.val (.list (.st (.pair (.int .u64) (.pair (.int .i64) (.pair (.int .i64) (.int .i64)))))), .val (.int .u64), .val (.int .i64)], [(.one, [.own (.st (.pair (.int .u64) (.pair (.int .i64) (.pair (.int .i64) (.int .i64)))))]), (.one, [.v (.int .i64)]), (.one, [.v (.int .i64)]), (.one, [.v (.int .i64)])]⟩
noncomputable def fns_lease_Part : List (Nat × FnT) := [(31, ⟨sig_lease_held, sh_lease_held⟩)]
noncomputable def anns_lease_Part : List (Nat × Ann) := []
noncomputable def tys_lease_Part : List (Nat × Ty) := []
theorem d_lease_Part (x : pd sig_lease_Part.apt) : (runT (mkE fns_lease_Part anns_lease_Part tys_lease_Part) F18 sig_lease_Part x).den = sh_lease_Part x := by kernel_rfl
theorem k_lease_Part : FnOK S.lim 18 ⟨sig_lease_Part, sh_lease_Part⟩ := fn_ok' (fns := fns_lease_Part) (anns := anns_lease_Part) (tys := tys_lease_Part) (.cons k_lease_held .nil) rfl rfl d_lease_Part
noncomputable def sig_passkeylaw10_LeaseDisjoint : Sig := ⟨[.val (.list (.int .i64))], [(.one, [.v .bool])]⟩
noncomputable def fns_passkeylaw10_LeaseDisjoint : List (Nat × FnT) := [(15, ⟨sig_lease_Grant, sh_lease_Grant⟩), (20, ⟨sig_lease_Take, sh_lease_Take⟩), (9, ⟨sig_passkeylaw10_awake, sh_passkeylaw10_awake⟩), (18, ⟨sig_lease_Part, sh_lease_Part⟩)]
noncomputable def anns_passkeylaw10_LeaseDisjoint : List (Nat × Ann) := [(29, ⟨0, 129, [(0, .c (.lst (.int .i64) [])), (3, .c (.own 1216 false)), (6, .c (.own 1856 false)), (7, .c (.v (.int .i64))), (35, .c (.v (.int .i64))), (36, .c (.v .bool))], [(1216, [1216], .sl (.list (.st (.pair (.int .u64) (.pair (.int .i64) (.pair (.int .i64) (.int .i64)))))) false false), (1856, [1856], .sl .bool false false)]⟩), (47, ⟨0, 129, [(0, .c (.lst (.int .i64) [])), (3, .c (.own 1216 false)), (6, .c (.own 1856 false)), (7, .c (.v (.int .i64))), (9, .c (.v (.int .i64))), (10, .c (.own 3584 false)), (11, .c (.v (.int .i64))), (35, .c (.v (.int .i64))), (36, .c (.v .bool)), (65, .c (.v (.int .i64))), (66, .c (.v .bool)), (69, .c (.own 1856 false)), (70, .c (.v (.int .i64))), (71, .c (.eref 1856 0)), (72, .c (.v .bool))], [(3584, [3584], .sl (.st (.pair (.int .u64) (.pair (.int .i64) (.pair (.int .i64) (.int .i64))))) false false), (1856, [1856], .sl .bool false false), (1216, [1216], .sl (.list (.st (.pair (.int .u64) (.pair (.int .i64) (.pair (.int .i64) (.int .i64)))))) false false)]⟩), (1000022, ⟨0, 129, [], []⟩), (23, ⟨0, 129, [(0, .c (.lst (.int .i64) [])), (3, .c (.own 1216 false)), (6, .c (.own 1856 false)), (7, .c (.v (.int .i64))), (35, .c (.v (.int .i64))), (36, .c (.v .bool))], [(1856, [1856], .sl .bool false false), (1216, [1216], .sl (.list (.st (.pair (.int .u64) (.pair (.int .i64) (.pair (.int .i64) (.int .i64)))))) false false)]⟩), (22, ⟨0, 129, [(0, .c (.lst (.int .i64) [])), (3, .c (.own 1216 false)), (6, .c (.own 1856 false)), (7, .c (.v (.int .i64)))], [(1856, [1856], .sl .bool false false), (1216, [1216], .sl (.list (.st (.pair (.int .u64) (.pair (.int .i64) (.pair (.int .i64) (.int .i64)))))) false false)]⟩)]
noncomputable def tys_passkeylaw10_LeaseDisjoint : List (Nat × Ty) := [(19, (.list (.st (.pair (.int .u64) (.pair (.int .i64) (.pair (.int .i64) (.int .i64))))))), (29, .bool)]
theorem d_passkeylaw10_LeaseDisjoint (x : pd sig_passkeylaw10_LeaseDisjoint.apt) : (runT (mkE fns_passkeylaw10_LeaseDisjoint anns_passkeylaw10_LeaseDisjoint tys_passkeylaw10_LeaseDisjoint) F6 sig_passkeylaw10_LeaseDisjoint x).den = sh_passkeylaw10_LeaseDisjoint x := by kernel_rfl
theorem k_passkeylaw10_LeaseDisjoint : FnOK S.lim 6 ⟨sig_passkeylaw10_LeaseDisjoint, sh_passkeylaw10_LeaseDisjoint⟩ := fn_ok' (fns := fns_passkeylaw10_LeaseDisjoint) (anns := anns_passkeylaw10_LeaseDisjoint) (tys := tys_passkeylaw10_LeaseDisjoint) (.cons k_lease_Grant (.cons k_lease_Take (.cons k_passkeylaw10_awake (.cons k_lease_Part .nil)))) rfl rfl d_passkeylaw10_LeaseDisjoint
end Go.Vm.Ytleemhgnapoofaa.LeaseDisjoint
