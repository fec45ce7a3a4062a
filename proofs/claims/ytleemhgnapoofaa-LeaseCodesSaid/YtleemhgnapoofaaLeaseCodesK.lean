/- The functions of the seat Ytleemhgnapoofaa: what they compute. PRINTED by a program of this session's. -/
import Derived.Test.YtleemhgnapoofaaProg
import Derived.KernelRfl
import Derived.Test.YtleemhgnapoofaaLeaseCodesP
namespace Go.Vm.Ytleemhgnapoofaa.LeaseCodes
open Go.Proofs
noncomputable def phi : Phi := mkPhi [28, 11, 13, 30, 15, 31, 20, 9, 10, 29, 33, 24, 34, 25, 35, 26, 36, 27, 8]
noncomputable def own : Nat → List Nat := fun g => (([(32, [0])] : List (Nat × List Nat)).lookup g).getD []
noncomputable def X (rh : List Nat) : Cx := { P := Try.prog, φ := phi, own := own, h := { rehome := rh } }
noncomputable def F28 : RFunc := (funcP (X []) Try.f28).getD default
theorem c28 : funcP (X []) Try.f28 = some F28 := some_getD (by kernel_rfl)
noncomputable def F11 : RFunc := (funcP (X []) Try.f11).getD default
theorem c11 : funcP (X []) Try.f11 = some F11 := some_getD (by kernel_rfl)
noncomputable def F13 : RFunc := (funcP (X []) Try.f13).getD default
theorem c13 : funcP (X []) Try.f13 = some F13 := some_getD (by kernel_rfl)
noncomputable def F15 : RFunc := (funcP (X []) Try.f15).getD default
theorem c15 : funcP (X []) Try.f15 = some F15 := some_getD (by kernel_rfl)
noncomputable def F31 : RFunc := (funcP (X []) Try.f31).getD default
theorem c31 : funcP (X []) Try.f31 = some F31 := some_getD (by kernel_rfl)
noncomputable def F20 : RFunc := (funcP (X []) Try.f20).getD default
theorem c20 : funcP (X []) Try.f20 = some F20 := some_getD (by kernel_rfl)
noncomputable def F9 : RFunc := (funcP (X []) Try.f9).getD default
theorem c9 : funcP (X []) Try.f9 = some F9 := some_getD (by kernel_rfl)
noncomputable def F10 : RFunc := (funcP (X []) Try.f10).getD default
theorem c10 : funcP (X []) Try.f10 = some F10 := some_getD (by kernel_rfl)
noncomputable def F29 : RFunc := (funcP (X []) Try.f29).getD default
theorem c29 : funcP (X []) Try.f29 = some F29 := some_getD (by kernel_rfl)
noncomputable def F33 : RFunc := (funcP (X []) Try.f33).getD default
theorem c33 : funcP (X []) Try.f33 = some F33 := some_getD (by kernel_rfl)
noncomputable def F24 : RFunc := (funcP (X []) Try.f24).getD default
theorem c24 : funcP (X []) Try.f24 = some F24 := some_getD (by kernel_rfl)
noncomputable def F34 : RFunc := (funcP (X []) Try.f34).getD default
theorem c34 : funcP (X []) Try.f34 = some F34 := some_getD (by kernel_rfl)
noncomputable def F25 : RFunc := (funcP (X []) Try.f25).getD default
theorem c25 : funcP (X []) Try.f25 = some F25 := some_getD (by kernel_rfl)
noncomputable def F35 : RFunc := (funcP (X []) Try.f35).getD default
theorem c35 : funcP (X []) Try.f35 = some F35 := some_getD (by kernel_rfl)
noncomputable def F26 : RFunc := (funcP (X []) Try.f26).getD default
theorem c26 : funcP (X []) Try.f26 = some F26 := some_getD (by kernel_rfl)
noncomputable def F36 : RFunc := (funcP (X []) Try.f36).getD default
theorem c36 : funcP (X []) Try.f36 = some F36 := some_getD (by kernel_rfl)
noncomputable def F27 : RFunc := (funcP (X []) Try.f27).getD default
theorem c27 : funcP (X []) Try.f27 = some F27 := some_getD (by kernel_rfl)
noncomputable def F8 : RFunc := (funcP (X []) Try.f8).getD default
theorem c8 : funcP (X []) Try.f8 = some F8 := some_getD (by kernel_rfl)
theorem c30 : funcP (X []) Try.f30 = some (cloneF 4 32 (.agg [(.int .u64 0), (.int .i64 0), (.int .i64 0), (.int .i64 0)]) [none, none, none, none]) := by kernel_rfl
theorem hphi : PhiOK Try.prog phi := phi_ok (by kernel_rfl)
noncomputable def prims : List (Nat × (List AV → Option Res)) := [(30, clonePrim 4 32)]
theorem hprims : PrimsOK Try.prog phi prims := (.cons (clone_call Try.func30 rfl rfl c30 hphi rfl rfl (by decide)) .nil)
noncomputable def S : Sys := mkS [(28, F28), (11, F11), (13, F13), (15, F15), (31, F31), (20, F20), (9, F9), (10, F10), (29, F29), (33, F33), (24, F24), (34, F34), (25, F25), (35, F35), (26, F26), (36, F36), (27, F27), (8, F8)] prims
theorem hS : SysOK Try.prog phi S := sys_ok (.cons Try.func28 rfl rfl c28 (.cons Try.func11 rfl rfl c11 (.cons Try.func13 rfl rfl c13 (.cons Try.func15 rfl rfl c15 (.cons Try.func31 rfl rfl c31 (.cons Try.func20 rfl rfl c20 (.cons Try.func9 rfl rfl c9 (.cons Try.func10 rfl rfl c10 (.cons Try.func29 rfl rfl c29 (.cons Try.func33 rfl rfl c33 (.cons Try.func24 rfl rfl c24 (.cons Try.func34 rfl rfl c34 (.cons Try.func25 rfl rfl c25 (.cons Try.func35 rfl rfl c35 (.cons Try.func26 rfl rfl c26 (.cons Try.func36 rfl rfl c36 (.cons Try.func27 rfl rfl c27 (.cons Try.func8 rfl rfl c8 .nil)))))))))))))))))) hprims
noncomputable def sig_lease_valid : Sig := ⟨[.val (.st (.pair (.int .u64) (.pair (.int .i64) (.pair (.int .i64) (.int .i64)))))], [(.one, [.v .bool])]⟩
noncomputable def fns_lease_valid : List (Nat × FnT) := []
noncomputable def anns_lease_valid : List (Nat × Ann) := []
noncomputable def tys_lease_valid : List (Nat × Ty) := []
theorem d_lease_valid (x : pd sig_lease_valid.apt) : (runT (mkE fns_lease_valid anns_lease_valid tys_lease_valid) F28 sig_lease_valid x).den = sh_lease_valid x := by kernel_rfl
theorem k_lease_valid : FnOK S.lim 28 ⟨sig_lease_valid, sh_lease_valid⟩ := fn_ok' (fns := fns_lease_valid) (anns := anns_lease_valid) (tys := tys_lease_valid) .nil rfl rfl d_lease_valid
noncomputable def sig_lease_Find : Sig := ⟨[.val (.list (.st (.pair (.int .u64) (.pair (.int .i64) (.pair (.int .i64) (.int .i64)))))), .val (.int .u64)], [(.one, [.v (.int .i64)]), (.one, [.v .bool])]⟩
noncomputable def fns_lease_Find : List (Nat × FnT) := []
noncomputable def anns_lease_Find : List (Nat × Ann) := [(1000006, ⟨0, 21, [], []⟩), (6, ⟨0, 21, [(1, .c (.v (.int .u64))), (8, .c (.lst (.st (.pair (.int .u64) (.pair (.int .i64) (.pair (.int .i64) (.int .i64))))) [])), (9, .c (.v (.int .i64))), (10, .c (.v (.int .i64)))], []⟩)]
noncomputable def tys_lease_Find : List (Nat × Ty) := []
theorem d_lease_Find (x : pd sig_lease_Find.apt) : (runT (mkE fns_lease_Find anns_lease_Find tys_lease_Find) F11 sig_lease_Find x).den = sh_lease_Find x := by kernel_rfl
theorem k_lease_Find : FnOK S.lim 11 ⟨sig_lease_Find, sh_lease_Find⟩ := fn_ok' (fns := fns_lease_Find) (anns := anns_lease_Find) (tys := tys_lease_Find) .nil rfl rfl d_lease_Find
noncomputable def sig_lease_Validate : Sig := ⟨[.val (.list (.st (.pair (.int .u64) (.pair (.int .i64) (.pair (.int .i64) (.int .i64))))))], [(.one, [.v (.int .i64)])]⟩
noncomputable def fns_lease_Validate : List (Nat × FnT) := [(28, ⟨sig_lease_valid, sh_lease_valid⟩), (11, ⟨sig_lease_Find, sh_lease_Find⟩)]
noncomputable def anns_lease_Validate : List (Nat × Ann) := [(1000014, ⟨0, 31, [], []⟩), (14, ⟨0, 31, [(0, .c (.lst (.st (.pair (.int .u64) (.pair (.int .i64) (.pair (.int .i64) (.int .i64))))) [])), (10, .c (.lst (.st (.pair (.int .u64) (.pair (.int .i64) (.pair (.int .i64) (.int .i64))))) [])), (11, .c (.v (.int .i64))), (12, .c (.v (.int .i64)))], []⟩)]
noncomputable def tys_lease_Validate : List (Nat × Ty) := []
theorem d_lease_Validate (x : pd sig_lease_Validate.apt) : (runT (mkE fns_lease_Validate anns_lease_Validate tys_lease_Validate) F13 sig_lease_Validate x).den = sh_lease_Validate x := by kernel_rfl
theorem k_lease_Validate : FnOK S.lim 13 ⟨sig_lease_Validate, sh_lease_Validate⟩ := fn_ok' (fns := fns_lease_Validate) (anns := anns_lease_Validate) (tys := tys_lease_Validate) (.cons k_lease_valid (.cons k_lease_Find .nil)) rfl rfl d_lease_Validate
noncomputable def sig_slices_Clone___passkey_api_Lease_passkey_api_Lease_ : Sig := ⟨[.val (.list (.st (.pair (.int .u64) (.pair (.int .i64) (.pair (.int .i64) (.int .i64))))))], [(.one, [.own (.st (.pair (.int .u64) (.pair (.int .i64) (.pair (.int .i64) (.int .i64)))))])]⟩
theorem k_slices_Clone___passkey_api_Lease_passkey_api_Lease_ : FnOK S.lim 30 ⟨sig_slices_Clone___passkey_api_Lease_passkey_api_Lease_, sh_slices_Clone___passkey_api_Lease_passkey_api_Lease_⟩ := clone_fn (t := (.st (.pair (.int .u64) (.pair (.int .i64) (.pair (.int .i64) (.int .i64)))))) (b := 32) rfl
noncomputable def sig_lease_Grant : Sig := ⟨[.val (.list (.st (.pair (.int .u64) (.pair (.int .i64) (.pair (.int .i64) (.int .i64)))))), .val (.int .u64), .val (.int .i64), .val (.int .i64), .val (.int .i64)], [(.one, [.own (.st (.pair (.int .u64) (.pair (.int .i64) (.pair (.int .i64) (.int .i64)))))]), (.one, [.v (.int .i64)])]⟩
noncomputable def fns_lease_Grant : List (Nat × FnT) := [(28, ⟨sig_lease_valid, sh_lease_valid⟩), (11, ⟨sig_lease_Find, sh_lease_Find⟩), (13, ⟨sig_lease_Validate, sh_lease_Validate⟩), (30, ⟨sig_slices_Clone___passkey_api_Lease_passkey_api_Lease_, sh_slices_Clone___passkey_api_Lease_passkey_api_Lease_⟩)]
noncomputable def anns_lease_Grant : List (Nat × Ann) := []
noncomputable def tys_lease_Grant : List (Nat × Ty) := [(42, (.st (.pair (.int .u64) (.pair (.int .i64) (.pair (.int .i64) (.int .i64)))))), (43, (.st (.pair (.int .u64) (.pair (.int .i64) (.pair (.int .i64) (.int .i64))))))]
theorem d_lease_Grant (x : pd sig_lease_Grant.apt) : (runT (mkE fns_lease_Grant anns_lease_Grant tys_lease_Grant) F15 sig_lease_Grant x).den = sh_lease_Grant x := by kernel_rfl
theorem k_lease_Grant : FnOK S.lim 15 ⟨sig_lease_Grant, sh_lease_Grant⟩ := fn_ok' (fns := fns_lease_Grant) (anns := anns_lease_Grant) (tys := tys_lease_Grant) (.cons k_lease_valid (.cons k_lease_Find (.cons k_lease_Validate (.cons k_slices_Clone___passkey_api_Lease_passkey_api_Lease_ .nil)))) rfl rfl d_lease_Grant
noncomputable def sig_lease_held : Sig := ⟨[.val (.list (.st (.pair (.int .u64) (.pair (.int .i64) (.pair (.int .i64) (.int .i64)))))), .val (.int .u64)], [(.one, [.own (.st (.pair (.int .u64) (.pair (.int .i64) (.pair (.int .i64) (.int .i64)))))]), (.one, [.v (.int .i64)]), (.one, [.v (.int .i64)])]⟩
noncomputable def fns_lease_held : List (Nat × FnT) := [(11, ⟨sig_lease_Find, sh_lease_Find⟩), (13, ⟨sig_lease_Validate, sh_lease_Validate⟩), (30, ⟨sig_slices_Clone___passkey_api_Lease_passkey_api_Lease_, sh_slices_Clone___passkey_api_Lease_passkey_api_Lease_⟩)]
noncomputable def anns_lease_held : List (Nat × Ann) := []
noncomputable def tys_lease_held : List (Nat × Ty) := []
theorem d_lease_held (x : pd sig_lease_held.apt) : (runT (mkE fns_lease_held anns_lease_held tys_lease_held) F31 sig_lease_held x).den = sh_lease_held x := by kernel_rfl
theorem k_lease_held : FnOK S.lim 31 ⟨sig_lease_held, sh_lease_held⟩ := fn_ok' (fns := fns_lease_held) (anns := anns_lease_held) (tys := tys_lease_held) (.cons k_lease_Find (.cons k_lease_Validate (.cons k_slices_Clone___passkey_api_Lease_passkey_api_Lease_ .nil))) rfl rfl d_lease_held
noncomputable def sig_lease_Take : Sig := ⟨[.val (.list (.st (.pair (.int .u64) (.pair (.int .i64) (.pair (.int .i64) (.int .i64)))))), .val (.int .u64)], [(.one, [.own (.st (.pair (.int .u64) (.pair (.int .i64) (.pair (.int .i64) (.int .i64)))))]), (.one, [.v (.int .i64)]), (.one, [.v (.int .i64)])]⟩
noncomputable def fns_lease_Take : List (Nat × FnT) := [(31, ⟨sig_lease_held, sh_lease_held⟩)]
noncomputable def anns_lease_Take : List (Nat × Ann) := []
noncomputable def tys_lease_Take : List (Nat × Ty) := []
theorem d_lease_Take (x : pd sig_lease_Take.apt) : (runT (mkE fns_lease_Take anns_lease_Take tys_lease_Take) F20 sig_lease_Take x).den = sh_lease_Take x := by kernel_rfl
theorem k_lease_Take : FnOK S.lim 20 ⟨sig_lease_Take, sh_lease_Take⟩ := fn_ok' (fns := fns_lease_Take) (anns := anns_lease_Take) (tys := tys_lease_Take) (.cons k_lease_held .nil) rfl rfl d_lease_Take
noncomputable def sig_passkeylaw10_awake : Sig := ⟨[], [(.one, [.v .bool])]⟩
noncomputable def fns_passkeylaw10_awake : List (Nat × FnT) := [(15, ⟨sig_lease_Grant, sh_lease_Grant⟩), (20, ⟨sig_lease_Take, sh_lease_Take⟩)]
noncomputable def anns_passkeylaw10_awake : List (Nat × Ann) := []
noncomputable def tys_passkeylaw10_awake : List (Nat × Ty) := []
theorem d_passkeylaw10_awake (x : pd sig_passkeylaw10_awake.apt) : (runT (mkE fns_passkeylaw10_awake anns_passkeylaw10_awake tys_passkeylaw10_awake) F9 sig_passkeylaw10_awake x).den = sh_passkeylaw10_awake x := by kernel_rfl
theorem k_passkeylaw10_awake : FnOK S.lim 9 ⟨sig_passkeylaw10_awake, sh_passkeylaw10_awake⟩ := fn_ok' (fns := fns_passkeylaw10_awake) (anns := anns_passkeylaw10_awake) (tys := tys_passkeylaw10_awake) (.cons k_lease_Grant (.cons k_lease_Take .nil)) rfl rfl d_passkeylaw10_awake
noncomputable def sig_passkeylaw10_made : Sig := ⟨[.val (.list (.int .i64))], [(.one, [.own (.st (.pair (.int .u64) (.pair (.int .i64) (.pair (.int .i64) (.int .i64)))))])]⟩
noncomputable def fns_passkeylaw10_made : List (Nat × FnT) := []
noncomputable def anns_passkeylaw10_made : List (Nat × Ann) := [(25, ⟨0, 84, [(0, .c (.lst (.int .i64) [])), (3, .c (.own 1000007 true)), (4, .c (.v (.int .i64))), (6, .c (.vref 384 0)), (12, .c (.v (.int .i64))), (13, .c (.v .bool))], [(1000007, [5248], .sl (.st (.pair (.int .u64) (.pair (.int .i64) (.pair (.int .i64) (.int .i64))))) false false), (384, [384], .var true [(.v (.int .u64)), (.v (.int .i64)), (.v (.int .i64)), (.v (.int .i64))] false false)]⟩), (1000008, ⟨0, 84, [(3, .c (.own 1000003 true))], [(1000003, [5248], .sl (.st (.pair (.int .u64) (.pair (.int .i64) (.pair (.int .i64) (.int .i64))))) false false)]⟩), (9, ⟨0, 84, [(0, .c (.lst (.int .i64) [])), (3, .c (.own 1000002 true)), (4, .c (.v (.int .i64))), (12, .c (.v (.int .i64))), (13, .c (.v .bool))], [(1000002, [5248], .sl (.st (.pair (.int .u64) (.pair (.int .i64) (.pair (.int .i64) (.int .i64))))) false false)]⟩), (8, ⟨0, 84, [(0, .c (.lst (.int .i64) [])), (3, .c (.own 1000001 true)), (4, .c (.v (.int .i64)))], [(1000001, [5248], .sl (.st (.pair (.int .u64) (.pair (.int .i64) (.pair (.int .i64) (.int .i64))))) false false)]⟩), (15, ⟨0, 84, [(0, .c (.lst (.int .i64) [])), (3, .c (.own 5248 false)), (4, .c (.v (.int .i64))), (12, .c (.v (.int .i64))), (13, .c (.v .bool))], [(5248, [5248], .sl (.st (.pair (.int .u64) (.pair (.int .i64) (.pair (.int .i64) (.int .i64))))) false false)]⟩)]
noncomputable def tys_passkeylaw10_made : List (Nat × Ty) := [(81, (.st (.pair (.int .u64) (.pair (.int .i64) (.pair (.int .i64) (.int .i64)))))), (82, (.st (.pair (.int .u64) (.pair (.int .i64) (.pair (.int .i64) (.int .i64))))))]
theorem d_passkeylaw10_made (x : pd sig_passkeylaw10_made.apt) : (runT (mkE fns_passkeylaw10_made anns_passkeylaw10_made tys_passkeylaw10_made) F10 sig_passkeylaw10_made x).den = sh_passkeylaw10_made x := by kernel_rfl
theorem k_passkeylaw10_made : FnOK S.lim 10 ⟨sig_passkeylaw10_made, sh_passkeylaw10_made⟩ := fn_ok' (fns := fns_passkeylaw10_made) (anns := anns_passkeylaw10_made) (tys := tys_passkeylaw10_made) .nil rfl rfl d_passkeylaw10_made
noncomputable def sig_passkeyref10_Valid : Sig := ⟨[.val (.st (.pair (.int .u64) (.pair (.int .i64) (.pair (.int .i64) (.int .i64)))))], [(.one, [.v .bool])]⟩
noncomputable def fns_passkeyref10_Valid : List (Nat × FnT) := []
noncomputable def anns_passkeyref10_Valid : List (Nat × Ann) := []
noncomputable def tys_passkeyref10_Valid : List (Nat × Ty) := []
theorem d_passkeyref10_Valid (x : pd sig_passkeyref10_Valid.apt) : (runT (mkE fns_passkeyref10_Valid anns_passkeyref10_Valid tys_passkeyref10_Valid) F29 sig_passkeyref10_Valid x).den = sh_passkeyref10_Valid x := by kernel_rfl
theorem k_passkeyref10_Valid : FnOK S.lim 29 ⟨sig_passkeyref10_Valid, sh_passkeyref10_Valid⟩ := fn_ok' (fns := fns_passkeyref10_Valid) (anns := anns_passkeyref10_Valid) (tys := tys_passkeyref10_Valid) .nil rfl rfl d_passkeyref10_Valid
noncomputable def sig_digest_Words : Sig := ⟨[.val (.list (.int .u64))], [(.one, [.own (.int .u8)])]⟩
noncomputable def fns_digest_Words : List (Nat × FnT) := []
noncomputable def anns_digest_Words : List (Nat × Ann) := [(1000008, ⟨0, 28, [(3, .c (.own 1000004 true))], [(1000004, [1536], .sl (.int .u8) false false)]⟩), (8, ⟨0, 28, [(3, .c (.own 1000003 true)), (7, .c (.lst (.int .u64) [])), (8, .c (.v (.int .i64))), (9, .c (.v (.int .i64)))], [(1000003, [1536], .sl (.int .u8) false false)]⟩), (1000022, ⟨2, 28, [(3, .c (.own 1000002 true)), (7, .c (.lst (.int .u64) [])), (8, .c (.v (.int .i64))), (9, .c (.v (.int .i64)))], [(1000002, [1536], .sl (.int .u8) false false)]⟩), (22, ⟨0, 28, [(3, .c (.own 1000001 true)), (5, .c (.v (.int .u64))), (7, .c (.lst (.int .u64) [])), (8, .c (.v (.int .i64))), (9, .c (.v (.int .i64))), (13, .c (.v (.int .i64)))], [(1000001, [1536], .sl (.int .u8) false false)]⟩)]
noncomputable def tys_digest_Words : List (Nat × Ty) := [(23, (.int .u8)), (24, (.int .u8))]
theorem d_digest_Words (x : pd sig_digest_Words.apt) : (runT (mkE fns_digest_Words anns_digest_Words tys_digest_Words) F33 sig_digest_Words x).den = sh_digest_Words x := by kernel_rfl
theorem k_digest_Words : FnOK S.lim 33 ⟨sig_digest_Words, sh_digest_Words⟩ := fn_ok' (fns := fns_digest_Words) (anns := anns_digest_Words) (tys := tys_digest_Words) .nil rfl rfl d_digest_Words
noncomputable def sig_lease_Encode : Sig := ⟨[.val (.st (.pair (.int .u64) (.pair (.int .i64) (.pair (.int .i64) (.int .i64)))))], [(.one, [.own (.int .u8)])]⟩
noncomputable def fns_lease_Encode : List (Nat × FnT) := [(28, ⟨sig_lease_valid, sh_lease_valid⟩), (33, ⟨sig_digest_Words, sh_digest_Words⟩)]
noncomputable def anns_lease_Encode : List (Nat × Ann) := []
noncomputable def tys_lease_Encode : List (Nat × Ty) := [(8, (.int .u64)), (19, (.int .u8)), (20, (.int .u8))]
theorem d_lease_Encode (x : pd sig_lease_Encode.apt) : (runT (mkE fns_lease_Encode anns_lease_Encode tys_lease_Encode) F24 sig_lease_Encode x).den = sh_lease_Encode x := by kernel_rfl
theorem k_lease_Encode : FnOK S.lim 24 ⟨sig_lease_Encode, sh_lease_Encode⟩ := fn_ok' (fns := fns_lease_Encode) (anns := anns_lease_Encode) (tys := tys_lease_Encode) (.cons k_lease_valid (.cons k_digest_Words .nil)) rfl rfl d_lease_Encode
noncomputable def sig_passkeyref1_Words : Sig := ⟨[.val (.list (.int .u64))], [(.one, [.own (.int .u8)])]⟩
noncomputable def fns_passkeyref1_Words : List (Nat × FnT) := []
noncomputable def anns_passkeyref1_Words : List (Nat × Ann) := [(1000008, ⟨0, 29, [(3, .c (.own 1000004 true))], [(1000004, [1728], .sl (.int .u8) false false)]⟩), (8, ⟨0, 29, [(0, .c (.lst (.int .u64) [])), (3, .c (.own 1000003 true)), (4, .c (.v (.int .i64)))], [(1000003, [1728], .sl (.int .u8) false false)]⟩), (1000020, ⟨2, 29, [(0, .c (.lst (.int .u64) [])), (3, .c (.own 1000002 true)), (4, .c (.v (.int .i64)))], [(1000002, [1728], .sl (.int .u8) false false)]⟩), (20, ⟨0, 29, [(0, .c (.lst (.int .u64) [])), (3, .c (.own 1000001 true)), (4, .c (.v (.int .i64))), (5, .c (.v (.int .i64)))], [(1000001, [1728], .sl (.int .u8) false false)]⟩)]
noncomputable def tys_passkeyref1_Words : List (Nat × Ty) := [(26, (.int .u8)), (27, (.int .u8))]
theorem d_passkeyref1_Words (x : pd sig_passkeyref1_Words.apt) : (runT (mkE fns_passkeyref1_Words anns_passkeyref1_Words tys_passkeyref1_Words) F34 sig_passkeyref1_Words x).den = sh_passkeyref1_Words x := by kernel_rfl
theorem k_passkeyref1_Words : FnOK S.lim 34 ⟨sig_passkeyref1_Words, sh_passkeyref1_Words⟩ := fn_ok' (fns := fns_passkeyref1_Words) (anns := anns_passkeyref1_Words) (tys := tys_passkeyref1_Words) .nil rfl rfl d_passkeyref1_Words
noncomputable def sig_passkeyref10_EncodeLease : Sig := ⟨[.val (.st (.pair (.int .u64) (.pair (.int .i64) (.pair (.int .i64) (.int .i64)))))], [(.one, [.own (.int .u8)])]⟩
noncomputable def fns_passkeyref10_EncodeLease : List (Nat × FnT) := [(29, ⟨sig_passkeyref10_Valid, sh_passkeyref10_Valid⟩), (34, ⟨sig_passkeyref1_Words, sh_passkeyref1_Words⟩)]
noncomputable def anns_passkeyref10_EncodeLease : List (Nat × Ann) := []
noncomputable def tys_passkeyref10_EncodeLease : List (Nat × Ty) := [(8, (.int .u64)), (19, (.int .u8)), (20, (.int .u8))]
theorem d_passkeyref10_EncodeLease (x : pd sig_passkeyref10_EncodeLease.apt) : (runT (mkE fns_passkeyref10_EncodeLease anns_passkeyref10_EncodeLease tys_passkeyref10_EncodeLease) F25 sig_passkeyref10_EncodeLease x).den = sh_passkeyref10_EncodeLease x := by kernel_rfl
theorem k_passkeyref10_EncodeLease : FnOK S.lim 25 ⟨sig_passkeyref10_EncodeLease, sh_passkeyref10_EncodeLease⟩ := fn_ok' (fns := fns_passkeyref10_EncodeLease) (anns := anns_passkeyref10_EncodeLease) (tys := tys_passkeyref10_EncodeLease) (.cons k_passkeyref10_Valid (.cons k_passkeyref1_Words .nil)) rfl rfl d_passkeyref10_EncodeLease
noncomputable def sig_lease_word : Sig := ⟨[.val (.list (.int .u8))], [(.one, [.v (.int .u64)])]⟩
noncomputable def fns_lease_word : List (Nat × FnT) := []
noncomputable def anns_lease_word : List (Nat × Ann) := [(1000008, ⟨0, 20, [(3, .c (.v (.int .u64)))], []⟩), (8, ⟨0, 20, [(3, .c (.v (.int .u64))), (7, .c (.lst (.int .u8) [])), (8, .c (.v (.int .i64))), (9, .c (.v (.int .i64)))], []⟩)]
noncomputable def tys_lease_word : List (Nat × Ty) := []
theorem d_lease_word (x : pd sig_lease_word.apt) : (runT (mkE fns_lease_word anns_lease_word tys_lease_word) F35 sig_lease_word x).den = sh_lease_word x := by kernel_rfl
theorem k_lease_word : FnOK S.lim 35 ⟨sig_lease_word, sh_lease_word⟩ := fn_ok' (fns := fns_lease_word) (anns := anns_lease_word) (tys := tys_lease_word) .nil rfl rfl d_lease_word
noncomputable def sig_lease_Decode : Sig := ⟨[.val (.list (.int .u8))], [(.agg, [.v (.int .u64), .v (.int .i64), .v (.int .i64), .v (.int .i64)]), (.one, [.v (.int .i64)])]⟩
noncomputable def fns_lease_Decode : List (Nat × FnT) := [(28, ⟨sig_lease_valid, sh_lease_valid⟩), (35, ⟨sig_lease_word, sh_lease_word⟩)]
noncomputable def anns_lease_Decode : List (Nat × Ann) := []
noncomputable def tys_lease_Decode : List (Nat × Ty) := []
theorem d_lease_Decode (x : pd sig_lease_Decode.apt) : (runT (mkE fns_lease_Decode anns_lease_Decode tys_lease_Decode) F26 sig_lease_Decode x).den = sh_lease_Decode x := by kernel_rfl
theorem k_lease_Decode : FnOK S.lim 26 ⟨sig_lease_Decode, sh_lease_Decode⟩ := fn_ok' (fns := fns_lease_Decode) (anns := anns_lease_Decode) (tys := tys_lease_Decode) (.cons k_lease_valid (.cons k_lease_word .nil)) rfl rfl d_lease_Decode
noncomputable def sig_passkeyref1_Word : Sig := ⟨[.val (.list (.int .u8))], [(.one, [.v (.int .u64)])]⟩
noncomputable def fns_passkeyref1_Word : List (Nat × FnT) := []
noncomputable def anns_passkeyref1_Word : List (Nat × Ann) := [(1000008, ⟨0, 24, [(3, .c (.v (.int .u64)))], []⟩), (9, ⟨0, 24, [(0, .c (.lst (.int .u8) [])), (3, .c (.v (.int .u64))), (4, .c (.v (.int .i64))), (8, .c (.v (.int .i64))), (9, .c (.lst (.int .u8) [])), (10, .c (.v (.int .i64))), (11, .c (.v .bool))], []⟩), (8, ⟨0, 24, [(0, .c (.lst (.int .u8) [])), (3, .c (.v (.int .u64))), (4, .c (.v (.int .i64)))], []⟩)]
noncomputable def tys_passkeyref1_Word : List (Nat × Ty) := []
theorem d_passkeyref1_Word (x : pd sig_passkeyref1_Word.apt) : (runT (mkE fns_passkeyref1_Word anns_passkeyref1_Word tys_passkeyref1_Word) F36 sig_passkeyref1_Word x).den = sh_passkeyref1_Word x := by kernel_rfl
theorem k_passkeyref1_Word : FnOK S.lim 36 ⟨sig_passkeyref1_Word, sh_passkeyref1_Word⟩ := fn_ok' (fns := fns_passkeyref1_Word) (anns := anns_passkeyref1_Word) (tys := tys_passkeyref1_Word) .nil rfl rfl d_passkeyref1_Word
noncomputable def sig_passkeyref10_DecodeLease : Sig := ⟨[.val (.list (.int .u8))], [(.agg, [.v (.int .u64), .v (.int .i64), .v (.int .i64), .v (.int .i64)]), (.one, [.v (.int .i64)])]⟩
noncomputable def fns_passkeyref10_DecodeLease : List (Nat × FnT) := [(29, ⟨sig_passkeyref10_Valid, sh_passkeyref10_Valid⟩), (36, ⟨sig_passkeyref1_Word, sh_passkeyref1_Word⟩)]
noncomputable def anns_passkeyref10_DecodeLease : List (Nat × Ann) := []
noncomputable def tys_passkeyref10_DecodeLease : List (Nat × Ty) := []
theorem d_passkeyref10_DecodeLease (x : pd sig_passkeyref10_DecodeLease.apt) : (runT (mkE fns_passkeyref10_DecodeLease anns_passkeyref10_DecodeLease tys_passkeyref10_DecodeLease) F27 sig_passkeyref10_DecodeLease x).den = sh_passkeyref10_DecodeLease x := by kernel_rfl
theorem k_passkeyref10_DecodeLease : FnOK S.lim 27 ⟨sig_passkeyref10_DecodeLease, sh_passkeyref10_DecodeLease⟩ := fn_ok' (fns := fns_passkeyref10_DecodeLease) (anns := anns_passkeyref10_DecodeLease) (tys := tys_passkeyref10_DecodeLease) (.cons k_passkeyref10_Valid (.cons k_passkeyref1_Word .nil)) rfl rfl d_passkeyref10_DecodeLease
noncomputable def sig_passkeylaw10_LeaseCodes : Sig := ⟨[.val (.st (.pair (.int .u64) (.pair (.int .i64) (.pair (.int .i64) (.int .i64))))), .val (.list (.int .i64)), .val (.list (.int .u8))], [(.one, [.v .bool])]⟩
noncomputable def fns_passkeylaw10_LeaseCodes : List (Nat × FnT) := [(9, ⟨sig_passkeylaw10_awake, sh_passkeylaw10_awake⟩), (10, ⟨sig_passkeylaw10_made, sh_passkeylaw10_made⟩), (24, ⟨sig_lease_Encode, sh_lease_Encode⟩), (25, ⟨sig_passkeyref10_EncodeLease, sh_passkeyref10_EncodeLease⟩), (26, ⟨sig_lease_Decode, sh_lease_Decode⟩), (27, ⟨sig_passkeyref10_DecodeLease, sh_passkeyref10_DecodeLease⟩)]
noncomputable def anns_passkeylaw10_LeaseCodes : List (Nat × Ann) := [(1000016, ⟨0, 118, [(2, .c (.lst (.int .u8) []))], []⟩), (23, ⟨0, 118, [(2, .c (.lst (.int .u8) [])), (7, .c (.own 1792 false)), (8, .c (.v (.int .i64)))], [(1792, [1792], .sl (.st (.pair (.int .u64) (.pair (.int .i64) (.pair (.int .i64) (.int .i64))))) false false)]⟩), (16, ⟨0, 118, [(2, .c (.lst (.int .u8) [])), (7, .c (.own 1792 false)), (8, .c (.v (.int .i64)))], [(1792, [1792], .sl (.st (.pair (.int .u64) (.pair (.int .i64) (.pair (.int .i64) (.int .i64))))) false false)]⟩)]
noncomputable def tys_passkeylaw10_LeaseCodes : List (Nat × Ty) := [(27, (.st (.pair (.int .u64) (.pair (.int .i64) (.pair (.int .i64) (.int .i64)))))), (28, (.st (.pair (.int .u64) (.pair (.int .i64) (.pair (.int .i64) (.int .i64))))))]
theorem d_passkeylaw10_LeaseCodes (x : pd sig_passkeylaw10_LeaseCodes.apt) : (runT (mkE fns_passkeylaw10_LeaseCodes anns_passkeylaw10_LeaseCodes tys_passkeylaw10_LeaseCodes) F8 sig_passkeylaw10_LeaseCodes x).den = sh_passkeylaw10_LeaseCodes x := by kernel_rfl
theorem k_passkeylaw10_LeaseCodes : FnOK S.lim 8 ⟨sig_passkeylaw10_LeaseCodes, sh_passkeylaw10_LeaseCodes⟩ := fn_ok' (fns := fns_passkeylaw10_LeaseCodes) (anns := anns_passkeylaw10_LeaseCodes) (tys := tys_passkeylaw10_LeaseCodes) (.cons k_passkeylaw10_awake (.cons k_passkeylaw10_made (.cons k_lease_Encode (.cons k_passkeyref10_EncodeLease (.cons k_lease_Decode (.cons k_passkeyref10_DecodeLease .nil)))))) rfl rfl d_passkeylaw10_LeaseCodes
end Go.Vm.Ytleemhgnapoofaa.LeaseCodes
