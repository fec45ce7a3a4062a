/- The functions of the seat Ytleemhgnapoofaa: what they compute. PRINTED by a program of this session's. -/
import Derived.Test.YtleemhgnapoofaaProg
import Derived.KernelRfl
import Derived.Test.YtleemhgnapoofaaLeaseTakesP
namespace Go.Vm.Ytleemhgnapoofaa.LeaseTakes
open Go.Proofs
noncomputable def phi : Phi := mkPhi [28, 11, 13, 30, 15, 31, 20, 9, 10, 12, 29, 14, 17, 21, 32, 22, 23, 7]
noncomputable def own : Nat → List Nat := fun g => (([(32, [0])] : List (Nat × List Nat)).lookup g).getD []
noncomputable def X (rh : List Nat) : Cx := { P := Try.prog, φ := phi, own := own, h := { rehome := rh } }
noncomputable def F28 : RFunc := (funcP (X []) Try.f28).getD default
theorem c28 : funcP (X []) Try.f28 = some F28 := some_getD (by kernel_rfl)
noncomputable def F11 : RFunc := (funcP (X []) Try.f11).getD default
theorem c11 : funcP (X []) Try.f11 = some F11 := some_getD (by kernel_rfl)
noncomputable def F13 : RFunc := (funcP (X []) Try.f13).getD default
theorem c13 : funcP (X []) Try.f13 = some F13 := some_getD (by kernel_rfl)
noncomputable def F15 : RFunc := (funcP (X []) Try.f15).getD default
theorem c15 : funcP (X []) Try.f15 = some F15 := some_getD (by kernel_rfl)
noncomputable def F31 : RFunc := (funcP (X []) Try.f31).getD default
theorem c31 : funcP (X []) Try.f31 = some F31 := some_getD (by kernel_rfl)
noncomputable def F20 : RFunc := (funcP (X []) Try.f20).getD default
theorem c20 : funcP (X []) Try.f20 = some F20 := some_getD (by kernel_rfl)
noncomputable def F9 : RFunc := (funcP (X []) Try.f9).getD default
theorem c9 : funcP (X []) Try.f9 = some F9 := some_getD (by kernel_rfl)
noncomputable def F10 : RFunc := (funcP (X []) Try.f10).getD default
theorem c10 : funcP (X []) Try.f10 = some F10 := some_getD (by kernel_rfl)
noncomputable def F12 : RFunc := (funcP (X []) Try.f12).getD default
theorem c12 : funcP (X []) Try.f12 = some F12 := some_getD (by kernel_rfl)
noncomputable def F29 : RFunc := (funcP (X []) Try.f29).getD default
theorem c29 : funcP (X []) Try.f29 = some F29 := some_getD (by kernel_rfl)
noncomputable def F14 : RFunc := (funcP (X []) Try.f14).getD default
theorem c14 : funcP (X []) Try.f14 = some F14 := some_getD (by kernel_rfl)
noncomputable def F17 : RFunc := (funcP (X []) Try.f17).getD default
theorem c17 : funcP (X []) Try.f17 = some F17 := some_getD (by kernel_rfl)
noncomputable def F21 : RFunc := (funcP (X []) Try.f21).getD default
theorem c21 : funcP (X []) Try.f21 = some F21 := some_getD (by kernel_rfl)
noncomputable def F32 : RFunc := (funcP (X []) Try.f32).getD default
theorem c32 : funcP (X []) Try.f32 = some F32 := some_getD (by kernel_rfl)
noncomputable def F22 : RFunc := (funcP (X []) Try.f22).getD default
theorem c22 : funcP (X []) Try.f22 = some F22 := some_getD (by kernel_rfl)
noncomputable def F23 : RFunc := (funcP (X []) Try.f23).getD default
theorem c23 : funcP (X []) Try.f23 = some F23 := some_getD (by kernel_rfl)
noncomputable def F7 : RFunc := (funcP (X []) Try.f7).getD default
theorem c7 : funcP (X []) Try.f7 = some F7 := some_getD (by kernel_rfl)
theorem c30 : funcP (X []) Try.f30 = some (cloneF 4 32 (.agg [(.int .u64 0), (.int .i64 0), (.int .i64 0), (.int .i64 0)]) [none, none, none, none]) := by kernel_rfl
theorem hphi : PhiOK Try.prog phi := phi_ok (by kernel_rfl)
noncomputable def prims : List (Nat × (List AV → Option Res)) := [(30, clonePrim 4 32)]
theorem hprims : PrimsOK Try.prog phi prims := (.cons (clone_call Try.func30 rfl rfl c30 hphi rfl rfl (by decide)) .nil)
noncomputable def S : Sys := mkS [(28, F28), (11, F11), (13, F13), (15, F15), (31, F31), (20, F20), (9, F9), (10, F10), (12, F12), (29, F29), (14, F14), (17, F17), (21, F21), (32, F32), (22, F22), (23, F23), (7, F7)] prims
theorem hS : SysOK Try.prog phi S := sys_ok (.cons Try.func28 rfl rfl c28 (.cons Try.func11 rfl rfl c11 (.cons Try.func13 rfl rfl c13 (.cons Try.func15 rfl rfl c15 (.cons Try.func31 rfl rfl c31 (.cons Try.func20 rfl rfl c20 (.cons Try.func9 rfl rfl c9 (.cons Try.func10 rfl rfl c10 (.cons Try.func12 rfl rfl c12 (.cons Try.func29 rfl rfl c29 (.cons Try.func14 rfl rfl c14 (.cons Try.func17 rfl rfl c17 (.cons Try.func21 rfl rfl c21 (.cons Try.func32 rfl rfl c32 (.cons Try.func22 rfl rfl c22 (.cons Try.func23 rfl rfl c23 (.cons Try.func7 rfl rfl c7 .nil))))))))))))))))) hprims
noncomputable def sig_lease_valid : Sig := ⟨[.val (.st (.pair (.int .u64) (.pair (.int .i64) (.pair (.int .i64) (.int .i64)))))], [(.one, [.v .bool])]⟩
noncomputable def fns_lease_valid : List (Nat × FnT) := []
noncomputable def anns_lease_valid : List (Nat × Ann) := []
noncomputable def tys_lease_valid : List (Nat × Ty) := []
theorem d_lease_valid (x : pd sig_lease_valid.apt) : (runT (mkE fns_lease_valid anns_lease_valid tys_lease_valid) F28 sig_lease_valid x).den = sh_lease_valid x := by kernel_rfl
theorem k_lease_valid : FnOK S.lim 28 ⟨sig_lease_valid, sh_lease_valid⟩ := fn_ok' (fns := fns_lease_valid) (anns := anns_lease_valid) (tys := tys_lease_valid) .nil rfl rfl d_lease_valid
noncomputable def sig_lease_Find : Sig := ⟨[.val (.list (.st (.pair (.int .u64) (.pair (.int .i64) (.pair (.int .i64) (.int .i64)))))), .val (.int .u64)], [(.one, [.v (.int .i64)]), (.one, [.v .bool])]⟩
noncomputable def fns_lease_Find : List (Nat × FnT) := []
noncomputable def anns_lease_Find : List (Nat × Ann) := [(1000006, ⟨0, 21, [], []⟩), (6, ⟨0, 21, [(1, .c (.v (.int .u64))), (8, .c (.lst (.st (.pair (.int .u64) (.pair (.int .i64) (.pair (.int .i64) (.int .i64))))) [])), (9, .c (.v (.int .i64))), (10, .c (.v (.int .i64)))], []⟩)]
noncomputable def tys_lease_Find : List (Nat × Ty) := []
theorem d_lease_Find (x : pd sig_lease_Find.apt) : (runT (mkE fns_lease_Find anns_lease_Find tys_lease_Find) F11 sig_lease_Find x).den = sh_lease_Find x := by kernel_rfl
theorem k_lease_Find : FnOK S.lim 11 ⟨sig_lease_Find, sh_lease_Find⟩ := fn_ok' (fns := fns_lease_Find) (anns := anns_lease_Find) (tys := tys_lease_Find) .nil rfl rfl d_lease_Find
noncomputable def sig_lease_Validate : Sig := ⟨[.val (.list (.st (.pair (.int .u64) (.pair (.int .i64) (.pair (.int .i64) (.int .i64))))))], [(.one, [.v (.int .i64)])]⟩
noncomputable def fns_lease_Validate : List (Nat × FnT) := [(28, ⟨sig_lease_valid, sh_lease_valid⟩), (11, ⟨sig_lease_Find, sh_lease_Find⟩)]
noncomputable def anns_lease_Validate : List (Nat × Ann) := [(1000014, ⟨0, 31, [], []⟩), (14, ⟨0, 31, [(0, .c (.lst (.st (.pair (.int .u64) (.pair (.int .i64) (.pair (.int .i64) (.int .i64))))) [])), (10, .c (.lst (.st (.pair (.int .u64) (.pair (.int .i64) (.pair (.int .i64) (.int .i64))))) [])), (11, .c (.v (.int .i64))), (12, .c (.v (.int .i64)))], []⟩)]
noncomputable def tys_lease_Validate : List (Nat × Ty) := []
theorem d_lease_Validate (x : pd sig_lease_Validate.apt) : (runT (mkE fns_lease_Validate anns_lease_Validate tys_lease_Validate) F13 sig_lease_Validate x).den = sh_lease_Validate x := by kernel_rfl
theorem k_lease_Validate : FnOK S.lim 13 ⟨sig_lease_Validate, sh_lease_Validate⟩ := fn_ok' (fns := fns_lease_Validate) (anns := anns_lease_Validate) (tys := tys_lease_Validate) (.cons k_lease_valid (.cons k_lease_Find .nil)) rfl rfl d_lease_Validate
noncomputable def sig_slices_Clone___passkey_api_Lease_passkey_api_Lease_ : Sig := ⟨[.val (.list (.st (.pair (.int .u64) (.pair (.int .i64) (.pair (.int .i64) (.int .i64))))))], [(.one, [.own (.st (.pair (.int .u64) (.pair (.int .i64) (.pair (.int .i64) (.int .i64)))))])]⟩
theorem k_slices_Clone___passkey_api_Lease_passkey_api_Lease_ : FnOK S.lim 30 ⟨sig_slices_Clone___passkey_api_Lease_passkey_api_Lease_, sh_slices_Clone___passkey_api_Lease_passkey_api_Lease_⟩ := clone_fn (t := (.st (.pair (.int .u64) (.pair (.int .i64) (.pair (.int .i64) (.int .i64)))))) (b := 32) rfl
noncomputable def sig_lease_Grant : Sig := ⟨[.val (.list (.st (.pair (.int .u64) (.pair (.int .i64) (.pair (.int .i64) (.int .i64)))))), .val (.int .u64), .val (.int .i64), .val (.int .i64), .val (.int .i64)], [(.one, [.own (.st (.pair (.int .u64) (.pair (.int .i64) (.pair (.int .i64) (.int .i64)))))]), (.one, [.v (.int .i64)])]⟩
noncomputable def fns_lease_Grant : List (Nat × FnT) := [(28, ⟨sig_lease_valid, sh_lease_valid⟩), (11, ⟨sig_lease_Find, sh_lease_Find⟩), (13, ⟨sig_lease_Validate, sh_lease_Validate⟩), (30, ⟨sig_slices_Clone___passkey_api_Lease_passkey_api_Lease_, sh_slices_Clone___passkey_api_Lease_passkey_api_Lease_⟩)]
noncomputable def anns_lease_Grant : List (Nat × Ann) := []
noncomputable def tys_lease_Grant : List (Nat × Ty) := [(42, (.st (.pair (.int .u64) (.pair (.int .i64) (.pair (.int .i64) (.int .i64)))))), (43, (.st (.pair (.int .u64) (.pair (.int .i64) (.pair (.int .i64) (.int .i64))))))]
theorem d_lease_Grant (x : pd sig_lease_Grant.apt) : (runT (mkE fns_lease_Grant anns_lease_Grant tys_lease_Grant) F15 sig_lease_Grant x).den = sh_lease_Grant x := by kernel_rfl
theorem k_lease_Grant : FnOK S.lim 15 ⟨sig_lease_Grant, sh_lease_Grant⟩ := fn_ok' (fns := fns_lease_Grant) (anns := anns_lease_Grant) (tys := tys_lease_Grant) (.cons k_lease_valid (.cons k_lease_Find (.cons k_lease_Validate (.cons k_slices_Clone___passkey_api_Lease_passkey_api_Lease_ .nil)))) rfl rfl d_lease_Grant
noncomputable def sig_lease_held : Sig := ⟨[.val (.list (.st (.pair (.int .u64) (.pair (.int .i64) (.pair (.int .i64) (.int .i64)))))), .val (.int .u64)], [(.one, [.own (.st (.pair (.int .u64) (.pair (.int .i64) (.pair (.int .i64) (.int .i64)))))]), (.one, [.v (.int .i64)]), (.one, [.v (.int .i64)])]⟩
noncomputable def fns_lease_held : List (Nat × FnT) := [(11, ⟨sig_lease_Find, sh_lease_Find⟩), (13, ⟨sig_lease_Validate, sh_lease_Validate⟩), (30, ⟨sig_slices_Clone___passkey_api_Lease_passkey_api_Lease_, sh_slices_Clone___passkey_api_Lease_passkey_api_Lease_⟩)]
noncomputable def anns_lease_held : List (Nat × Ann) := []
noncomputable def tys_lease_held : List (Nat × Ty) := []
theorem d_lease_held (x : pd sig_lease_held.apt) : (runT (mkE fns_lease_held anns_lease_held tys_lease_held) F31 sig_lease_held x).den = sh_lease_held x := by kernel_rfl
theorem k_lease_held : FnOK S.lim 31 ⟨sig_lease_held, sh_lease_held⟩ := fn_ok' (fns := fns_lease_held) (anns := anns_lease_held) (tys := tys_lease_held) (.cons k_lease_Find (.cons k_lease_Validate (.cons k_slices_Clone___passkey_api_Lease_passkey_api_Lease_ .nil))) rfl rfl d_lease_held
noncomputable def sig_lease_Take : Sig := ⟨[.val (.list (.st (.pair (.int .u64) (.pair (.int .i64) (.pair (.int .i64) (.int .i64)))))), .val (.int .u64)], [(.one, [.own (.st (.pair (.int .u64) (.pair (.int .i64) (.pair (.int .i64) (.int .i64)))))]), (.one, [.v (.int .i64)]), (.one, [.v (.int .i64)])]⟩
noncomputable def fns_lease_Take : List (Nat × FnT) := [(31, ⟨sig_lease_held, sh_lease_held⟩)]
noncomputable def anns_lease_Take : List (Nat × Ann) := []
noncomputable def tys_lease_Take : List (Nat × Ty) := []
theorem d_lease_Take (x : pd sig_lease_Take.apt) : (runT (mkE fns_lease_Take anns_lease_Take tys_lease_Take) F20 sig_lease_Take x).den = sh_lease_Take x := by kernel_rfl
theorem k_lease_Take : FnOK S.lim 20 ⟨sig_lease_Take, sh_lease_Take⟩ := fn_ok' (fns := fns_lease_Take) (anns := anns_lease_Take) (tys := tys_lease_Take) (.cons k_lease_held .nil) rfl rfl d_lease_Take
noncomputable def sig_passkeylaw10_awake : Sig := ⟨[], [(.one, [.v .bool])]⟩
noncomputable def fns_passkeylaw10_awake : List (Nat × FnT) := [(15, ⟨sig_lease_Grant, sh_lease_Grant⟩), (20, ⟨sig_lease_Take, sh_lease_Take⟩)]
noncomputable def anns_passkeylaw10_awake : List (Nat × Ann) := []
noncomputable def tys_passkeylaw10_awake : List (Nat × Ty) := []
theorem d_passkeylaw10_awake (x : pd sig_passkeylaw10_awake.apt) : (runT (mkE fns_passkeylaw10_awake anns_passkeylaw10_awake tys_passkeylaw10_awake) F9 sig_passkeylaw10_awake x).den = sh_passkeylaw10_awake x := by kernel_rfl
theorem k_passkeylaw10_awake : FnOK S.lim 9 ⟨sig_passkeylaw10_awake, sh_passkeylaw10_awake⟩ := fn_ok' (fns := fns_passkeylaw10_awake) (anns := anns_passkeylaw10_awake) (tys := tys_passkeylaw10_awake) (.cons k_lease_Grant (.cons k_lease_Take .nil)) rfl rfl d_passkeylaw10_awake
noncomputable def sig_passkeylaw10_made : Sig := ⟨[.val (.list (.int .i64))], [(.one, [.own (.st (.pair (.int .u64) (.pair (.int .i64) (.pair (.int .i64) (.int .i64)))))])]⟩
noncomputable def fns_passkeylaw10_made : List (Nat × FnT) := []
noncomputable def anns_passkeylaw10_made : List (Nat × Ann) := [(25, ⟨0, 84, [(0, .c (.lst (.int .i64) [])), (3, .c (.own 1000007 true)), (4, .c (.v (.int .i64))), (6, .c (.vref 384 0)), (12, .c (.v (.int .i64))), (13, .c (.v .bool))], [(1000007, [5248], .sl (.st (.pair (.int .u64) (.pair (.int .i64) (.pair (.int .i64) (.int .i64))))) false false), (384, [384], .var true [(.v (.int .u64)), (.v (.int .i64)), (.v (.int .i64)), (.v (.int .i64))] false false)]⟩), (1000008, ⟨0, 84, [(3, .c (.own 1000003 true))], [(1000003, [5248], .sl (.st (.pair (.int .u64) (.pair (.int .i64) (.pair (.int .i64) (.int .i64))))) false false)]⟩), (9, ⟨0, 84, [(0, .c (.lst (.int .i64) [])), (3, .c (.own 1000002 true)), (4, .c (.v (.int .i64))), (12, .c (.v (.int .i64))), (13, .c (.v .bool))], [(1000002, [5248], .sl (.st (.pair (.int .u64) (.pair (.int .i64) (.pair (.int .i64) (.int .i64))))) false false)]⟩), (8, ⟨0, 84, [(0, .c (.lst (.int .i64) [])), (3, .c (.own 1000001 true)), (4, .c (.v (.int .i64)))], [(1000001, [5248], .sl (.st (.pair (.int .u64) (.pair (.int .i64) (.pair (.int .i64) (.int .i64))))) false false)]⟩), (15, ⟨0, 84, [(0, .c (.lst (.int .i64) [])), (3, .c (.own 5248 false)), (4, .c (.v (.int .i64))), (12, .c (.v (.int .i64))), (13, .c (.v .bool))], [(5248, [5248], .sl (.st (.pair (.int .u64) (.pair (.int .i64) (.pair (.int .i64) (.int .i64))))) false false)]⟩)]
noncomputable def tys_passkeylaw10_made : List (Nat × Ty) := [(81, (.st (.pair (.int .u64) (.pair (.int .i64) (.pair (.int .i64) (.int .i64)))))), (82, (.st (.pair (.int .u64) (.pair (.int .i64) (.pair (.int .i64) (.int .i64))))))]
theorem d_passkeylaw10_made (x : pd sig_passkeylaw10_made.apt) : (runT (mkE fns_passkeylaw10_made anns_passkeylaw10_made tys_passkeylaw10_made) F10 sig_passkeylaw10_made x).den = sh_passkeylaw10_made x := by kernel_rfl
theorem k_passkeylaw10_made : FnOK S.lim 10 ⟨sig_passkeylaw10_made, sh_passkeylaw10_made⟩ := fn_ok' (fns := fns_passkeylaw10_made) (anns := anns_passkeylaw10_made) (tys := tys_passkeylaw10_made) .nil rfl rfl d_passkeylaw10_made
noncomputable def sig_passkeyref10_FindLease : Sig := ⟨[.val (.list (.st (.pair (.int .u64) (.pair (.int .i64) (.pair (.int .i64) (.int .i64)))))), .val (.int .u64)], [(.one, [.v (.int .i64)]), (.one, [.v .bool])]⟩
noncomputable def fns_passkeyref10_FindLease : List (Nat × FnT) := []
noncomputable def anns_passkeyref10_FindLease : List (Nat × Ann) := [(1000006, ⟨0, 21, [], []⟩), (6, ⟨0, 21, [(0, .c (.lst (.st (.pair (.int .u64) (.pair (.int .i64) (.pair (.int .i64) (.int .i64))))) [])), (1, .c (.v (.int .u64))), (6, .c (.v (.int .i64)))], []⟩)]
noncomputable def tys_passkeyref10_FindLease : List (Nat × Ty) := []
theorem d_passkeyref10_FindLease (x : pd sig_passkeyref10_FindLease.apt) : (runT (mkE fns_passkeyref10_FindLease anns_passkeyref10_FindLease tys_passkeyref10_FindLease) F12 sig_passkeyref10_FindLease x).den = sh_passkeyref10_FindLease x := by kernel_rfl
theorem k_passkeyref10_FindLease : FnOK S.lim 12 ⟨sig_passkeyref10_FindLease, sh_passkeyref10_FindLease⟩ := fn_ok' (fns := fns_passkeyref10_FindLease) (anns := anns_passkeyref10_FindLease) (tys := tys_passkeyref10_FindLease) .nil rfl rfl d_passkeyref10_FindLease
noncomputable def sig_passkeyref10_Valid : Sig := ⟨[.val (.st (.pair (.int .u64) (.pair (.int .i64) (.pair (.int .i64) (.int .i64)))))], [(.one, [.v .bool])]⟩
noncomputable def fns_passkeyref10_Valid : List (Nat × FnT) := []
noncomputable def anns_passkeyref10_Valid : List (Nat × Ann) := []
noncomputable def tys_passkeyref10_Valid : List (Nat × Ty) := []
theorem d_passkeyref10_Valid (x : pd sig_passkeyref10_Valid.apt) : (runT (mkE fns_passkeyref10_Valid anns_passkeyref10_Valid tys_passkeyref10_Valid) F29 sig_passkeyref10_Valid x).den = sh_passkeyref10_Valid x := by kernel_rfl
theorem k_passkeyref10_Valid : FnOK S.lim 29 ⟨sig_passkeyref10_Valid, sh_passkeyref10_Valid⟩ := fn_ok' (fns := fns_passkeyref10_Valid) (anns := anns_passkeyref10_Valid) (tys := tys_passkeyref10_Valid) .nil rfl rfl d_passkeyref10_Valid
noncomputable def sig_passkeyref10_ValidateLeases : Sig := ⟨[.val (.list (.st (.pair (.int .u64) (.pair (.int .i64) (.pair (.int .i64) (.int .i64))))))], [(.one, [.v (.int .i64)])]⟩
noncomputable def fns_passkeyref10_ValidateLeases : List (Nat × FnT) := [(12, ⟨sig_passkeyref10_FindLease, sh_passkeyref10_FindLease⟩), (29, ⟨sig_passkeyref10_Valid, sh_passkeyref10_Valid⟩)]
noncomputable def anns_passkeyref10_ValidateLeases : List (Nat × Ann) := [(1000014, ⟨0, 34, [], []⟩), (14, ⟨0, 34, [(0, .c (.lst (.st (.pair (.int .u64) (.pair (.int .i64) (.pair (.int .i64) (.int .i64))))) [])), (3, .c (.v (.int .i64)))], []⟩)]
noncomputable def tys_passkeyref10_ValidateLeases : List (Nat × Ty) := []
theorem d_passkeyref10_ValidateLeases (x : pd sig_passkeyref10_ValidateLeases.apt) : (runT (mkE fns_passkeyref10_ValidateLeases anns_passkeyref10_ValidateLeases tys_passkeyref10_ValidateLeases) F14 sig_passkeyref10_ValidateLeases x).den = sh_passkeyref10_ValidateLeases x := by kernel_rfl
theorem k_passkeyref10_ValidateLeases : FnOK S.lim 14 ⟨sig_passkeyref10_ValidateLeases, sh_passkeyref10_ValidateLeases⟩ := fn_ok' (fns := fns_passkeyref10_ValidateLeases) (anns := anns_passkeyref10_ValidateLeases) (tys := tys_passkeyref10_ValidateLeases) (.cons k_passkeyref10_FindLease (.cons k_passkeyref10_Valid .nil)) rfl rfl d_passkeyref10_ValidateLeases
noncomputable def sig_passkeyref10_SameLeases : Sig := ⟨[.val (.list (.st (.pair (.int .u64) (.pair (.int .i64) (.pair (.int .i64) (.int .i64)))))), .val (.list (.st (.pair (.int .u64) (.pair (.int .i64) (.pair (.int .i64) (.int .i64))))))], [(.one, [.v .bool])]⟩
noncomputable def fns_passkeyref10_SameLeases : List (Nat × FnT) := []
noncomputable def anns_passkeyref10_SameLeases : List (Nat × Ann) := [(1000014, ⟨0, 26, [], []⟩), (14, ⟨0, 26, [(0, .c (.lst (.st (.pair (.int .u64) (.pair (.int .i64) (.pair (.int .i64) (.int .i64))))) [])), (1, .c (.lst (.st (.pair (.int .u64) (.pair (.int .i64) (.pair (.int .i64) (.int .i64))))) [])), (5, .c (.v (.int .i64)))], []⟩)]
noncomputable def tys_passkeyref10_SameLeases : List (Nat × Ty) := []
theorem d_passkeyref10_SameLeases (x : pd sig_passkeyref10_SameLeases.apt) : (runT (mkE fns_passkeyref10_SameLeases anns_passkeyref10_SameLeases tys_passkeyref10_SameLeases) F17 sig_passkeyref10_SameLeases x).den = sh_passkeyref10_SameLeases x := by kernel_rfl
theorem k_passkeyref10_SameLeases : FnOK S.lim 17 ⟨sig_passkeyref10_SameLeases, sh_passkeyref10_SameLeases⟩ := fn_ok' (fns := fns_passkeyref10_SameLeases) (anns := anns_passkeyref10_SameLeases) (tys := tys_passkeyref10_SameLeases) .nil rfl rfl d_passkeyref10_SameLeases
noncomputable def sig_passkeyref10_Take : Sig := ⟨[.val (.list (.st (.pair (.int .u64) (.pair (.int .i64) (.pair (.int .i64) (.int .i64)))))), .val (.int .u64)], [(.one, [.own (.st (.pair (.int .u64) (.pair (.int .i64) (.pair (.int .i64) (.int .i64)))))]), (.one, [.v (.int .i64)]), (.one, [.v (.int .i64)])]⟩
noncomputable def fns_passkeyref10_Take : List (Nat × FnT) := [(12, ⟨sig_passkeyref10_FindLease, sh_passkeyref10_FindLease⟩), (14, ⟨sig_passkeyref10_ValidateLeases, sh_passkeyref10_ValidateLeases⟩)]
noncomputable def anns_passkeyref10_Take : List (Nat × Ann) := []
noncomputable def tys_passkeyref10_Take : List (Nat × Ty) := [(36, (.st (.pair (.int .u64) (.pair (.int .i64) (.pair (.int .i64) (.int .i64))))))]
theorem d_passkeyref10_Take (x : pd sig_passkeyref10_Take.apt) : (runT (mkE fns_passkeyref10_Take anns_passkeyref10_Take tys_passkeyref10_Take) F21 sig_passkeyref10_Take x).den = sh_passkeyref10_Take x := by kernel_rfl
theorem k_passkeyref10_Take : FnOK S.lim 21 ⟨sig_passkeyref10_Take, sh_passkeyref10_Take⟩ := fn_ok' (fns := fns_passkeyref10_Take) (anns := anns_passkeyref10_Take) (tys := tys_passkeyref10_Take) (.cons k_passkeyref10_FindLease (.cons k_passkeyref10_ValidateLeases .nil)) rfl rfl d_passkeyref10_Take
noncomputable def sig_slices_Delete___passkey_api_Lease_passkey_api_Lease_ : Sig := ⟨[.own (.st (.pair (.int .u64) (.pair (.int .i64) (.pair (.int .i64) (.int .i64))))) false, .val (.int .i64), .val (.int .i64)], [(.one, [.own (.st (.pair (.int .u64) (.pair (.int .i64) (.pair (.int .i64) (.int .i64)))))])]⟩
noncomputable def fns_slices_Delete___passkey_api_Lease_passkey_api_Lease_ : List (Nat × FnT) := []
noncomputable def anns_slices_Delete___passkey_api_Lease_passkey_api_Lease_ : List (Nat × Ann) := []
noncomputable def tys_slices_Delete___passkey_api_Lease_passkey_api_Lease_ : List (Nat × Ty) := [(26, (.st (.pair (.int .u64) (.pair (.int .i64) (.pair (.int .i64) (.int .i64)))))), (31, .str)]
theorem d_slices_Delete___passkey_api_Lease_passkey_api_Lease_ (x : pd sig_slices_Delete___passkey_api_Lease_passkey_api_Lease_.apt) : (runT (mkE fns_slices_Delete___passkey_api_Lease_passkey_api_Lease_ anns_slices_Delete___passkey_api_Lease_passkey_api_Lease_ tys_slices_Delete___passkey_api_Lease_passkey_api_Lease_) F32 sig_slices_Delete___passkey_api_Lease_passkey_api_Lease_ x).den = sh_slices_Delete___passkey_api_Lease_passkey_api_Lease_ x := by kernel_rfl
theorem k_slices_Delete___passkey_api_Lease_passkey_api_Lease_ : FnOK S.lim 32 ⟨sig_slices_Delete___passkey_api_Lease_passkey_api_Lease_, sh_slices_Delete___passkey_api_Lease_passkey_api_Lease_⟩ := fn_ok' (fns := fns_slices_Delete___passkey_api_Lease_passkey_api_Lease_) (anns := anns_slices_Delete___passkey_api_Lease_passkey_api_Lease_) (tys := tys_slices_Delete___passkey_api_Lease_passkey_api_Lease_) .nil rfl rfl d_slices_Delete___passkey_api_Lease_passkey_api_Lease_
noncomputable def sig_lease_Drop : Sig := ⟨[.val (.list (.st (.pair (.int .u64) (.pair (.int .i64) (.pair (.int .i64) (.int .i64)))))), .val (.int .u64)], [(.one, [.own (.st (.pair (.int .u64) (.pair (.int .i64) (.pair (.int .i64) (.int .i64)))))]), (.one, [.v (.int .i64)])]⟩
noncomputable def fns_lease_Drop : List (Nat × FnT) := [(31, ⟨sig_lease_held, sh_lease_held⟩), (32, ⟨sig_slices_Delete___passkey_api_Lease_passkey_api_Lease_, sh_slices_Delete___passkey_api_Lease_passkey_api_Lease_⟩)]
noncomputable def anns_lease_Drop : List (Nat × Ann) := []
noncomputable def tys_lease_Drop : List (Nat × Ty) := []
theorem d_lease_Drop (x : pd sig_lease_Drop.apt) : (runT (mkE fns_lease_Drop anns_lease_Drop tys_lease_Drop) F22 sig_lease_Drop x).den = sh_lease_Drop x := by kernel_rfl
theorem k_lease_Drop : FnOK S.lim 22 ⟨sig_lease_Drop, sh_lease_Drop⟩ := fn_ok' (fns := fns_lease_Drop) (anns := anns_lease_Drop) (tys := tys_lease_Drop) (.cons k_lease_held (.cons k_slices_Delete___passkey_api_Lease_passkey_api_Lease_ .nil)) rfl rfl d_lease_Drop
noncomputable def sig_passkeyref10_Drop : Sig := ⟨[.val (.list (.st (.pair (.int .u64) (.pair (.int .i64) (.pair (.int .i64) (.int .i64)))))), .val (.int .u64)], [(.one, [.own (.st (.pair (.int .u64) (.pair (.int .i64) (.pair (.int .i64) (.int .i64)))))]), (.one, [.v (.int .i64)])]⟩
noncomputable def fns_passkeyref10_Drop : List (Nat × FnT) := [(12, ⟨sig_passkeyref10_FindLease, sh_passkeyref10_FindLease⟩), (14, ⟨sig_passkeyref10_ValidateLeases, sh_passkeyref10_ValidateLeases⟩)]
noncomputable def anns_passkeyref10_Drop : List (Nat × Ann) := []
noncomputable def tys_passkeyref10_Drop : List (Nat × Ty) := [(25, (.st (.pair (.int .u64) (.pair (.int .i64) (.pair (.int .i64) (.int .i64)))))), (30, (.st (.pair (.int .u64) (.pair (.int .i64) (.pair (.int .i64) (.int .i64))))))]
theorem d_passkeyref10_Drop (x : pd sig_passkeyref10_Drop.apt) : (runT (mkE fns_passkeyref10_Drop anns_passkeyref10_Drop tys_passkeyref10_Drop) F23 sig_passkeyref10_Drop x).den = sh_passkeyref10_Drop x := by kernel_rfl
theorem k_passkeyref10_Drop : FnOK S.lim 23 ⟨sig_passkeyref10_Drop, sh_passkeyref10_Drop⟩ := fn_ok' (fns := fns_passkeyref10_Drop) (anns := anns_passkeyref10_Drop) (tys := tys_passkeyref10_Drop) (.cons k_passkeyref10_FindLease (.cons k_passkeyref10_ValidateLeases .nil)) rfl rfl d_passkeyref10_Drop
noncomputable def sig_passkeylaw10_LeaseTakes : Sig := ⟨[.val (.list (.int .i64)), .val (.int .u8)], [(.one, [.v .bool])]⟩
noncomputable def fns_passkeylaw10_LeaseTakes : List (Nat × FnT) := [(20, ⟨sig_lease_Take, sh_lease_Take⟩), (9, ⟨sig_passkeylaw10_awake, sh_passkeylaw10_awake⟩), (10, ⟨sig_passkeylaw10_made, sh_passkeylaw10_made⟩), (17, ⟨sig_passkeyref10_SameLeases, sh_passkeyref10_SameLeases⟩), (21, ⟨sig_passkeyref10_Take, sh_passkeyref10_Take⟩), (22, ⟨sig_lease_Drop, sh_lease_Drop⟩), (23, ⟨sig_passkeyref10_Drop, sh_passkeyref10_Drop⟩)]
noncomputable def anns_passkeylaw10_LeaseTakes : List (Nat × Ann) := []
noncomputable def tys_passkeylaw10_LeaseTakes : List (Nat × Ty) := []
theorem d_passkeylaw10_LeaseTakes (x : pd sig_passkeylaw10_LeaseTakes.apt) : (runT (mkE fns_passkeylaw10_LeaseTakes anns_passkeylaw10_LeaseTakes tys_passkeylaw10_LeaseTakes) F7 sig_passkeylaw10_LeaseTakes x).den = sh_passkeylaw10_LeaseTakes x := by kernel_rfl
theorem k_passkeylaw10_LeaseTakes : FnOK S.lim 7 ⟨sig_passkeylaw10_LeaseTakes, sh_passkeylaw10_LeaseTakes⟩ := fn_ok' (fns := fns_passkeylaw10_LeaseTakes) (anns := anns_passkeylaw10_LeaseTakes) (tys := tys_passkeylaw10_LeaseTakes) (.cons k_lease_Take (.cons k_passkeylaw10_awake (.cons k_passkeylaw10_made (.cons k_passkeyref10_SameLeases (.cons k_passkeyref10_Take (.cons k_lease_Drop (.cons k_passkeyref10_Drop .nil))))))) rfl rfl d_passkeylaw10_LeaseTakes
end Go.Vm.Ytleemhgnapoofaa.LeaseTakes
