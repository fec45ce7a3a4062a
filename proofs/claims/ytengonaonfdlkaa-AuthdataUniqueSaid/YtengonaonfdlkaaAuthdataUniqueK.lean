/- The functions of the seat Ytengonaonfdlkaa: what they compute. PRINTED by a program of this session's. -/
import Derived.Test.YtengonaonfdlkaaProg
import Derived.KernelRfl
import Derived.Test.YtengonaonfdlkaaAuthdataUniqueP
namespace Go.Vm.Ytengonaonfdlkaa.AuthdataUnique
open Go.Proofs
noncomputable def phi : Phi := mkPhi [34, 22, 23, 12, 10, 43, 46, 44, 42, 36, 27, 14, 8, 24, 47, 45, 37, 41, 33, 21, 9, 26, 35, 25, 13, 11, 29, 31, 40, 32, 19, 7]
noncomputable def own : Nat → List Nat := fun g => (([] : List (Nat × List Nat)).lookup g).getD []
noncomputable def X (rh : List Nat) : Cx := { P := Try.prog, φ := phi, own := own, h := { rehome := rh } }
noncomputable def F34 : RFunc := (funcP (X []) Try.f34).getD default
theorem c34 : funcP (X []) Try.f34 = some F34 := some_getD (by kernel_rfl)
noncomputable def F22 : RFunc := (funcP (X []) Try.f22).getD default
theorem c22 : funcP (X []) Try.f22 = some F22 := some_getD (by kernel_rfl)
noncomputable def F23 : RFunc := (funcP (X []) Try.f23).getD default
theorem c23 : funcP (X []) Try.f23 = some F23 := some_getD (by kernel_rfl)
noncomputable def F12 : RFunc := (funcP (X []) Try.f12).getD default
theorem c12 : funcP (X []) Try.f12 = some F12 := some_getD (by kernel_rfl)
noncomputable def F10 : RFunc := (funcP (X []) Try.f10).getD default
theorem c10 : funcP (X []) Try.f10 = some F10 := some_getD (by kernel_rfl)
noncomputable def F43 : RFunc := (funcP (X []) Try.f43).getD default
theorem c43 : funcP (X []) Try.f43 = some F43 := some_getD (by kernel_rfl)
noncomputable def F46 : RFunc := (funcP (X []) Try.f46).getD default
theorem c46 : funcP (X []) Try.f46 = some F46 := some_getD (by kernel_rfl)
noncomputable def F44 : RFunc := (funcP (X []) Try.f44).getD default
theorem c44 : funcP (X []) Try.f44 = some F44 := some_getD (by kernel_rfl)
noncomputable def F42 : RFunc := (funcP (X []) Try.f42).getD default
theorem c42 : funcP (X []) Try.f42 = some F42 := some_getD (by kernel_rfl)
noncomputable def F36 : RFunc := (funcP (X []) Try.f36).getD default
theorem c36 : funcP (X []) Try.f36 = some F36 := some_getD (by kernel_rfl)
noncomputable def F27 : RFunc := (funcP (X []) Try.f27).getD default
theorem c27 : funcP (X []) Try.f27 = some F27 := some_getD (by kernel_rfl)
noncomputable def F14 : RFunc := (funcP (X []) Try.f14).getD default
theorem c14 : funcP (X []) Try.f14 = some F14 := some_getD (by kernel_rfl)
noncomputable def F8 : RFunc := (funcP (X []) Try.f8).getD default
theorem c8 : funcP (X []) Try.f8 = some F8 := some_getD (by kernel_rfl)
noncomputable def F24 : RFunc := (funcP (X []) Try.f24).getD default
theorem c24 : funcP (X []) Try.f24 = some F24 := some_getD (by kernel_rfl)
noncomputable def F47 : RFunc := (funcP (X []) Try.f47).getD default
theorem c47 : funcP (X []) Try.f47 = some F47 := some_getD (by kernel_rfl)
noncomputable def F45 : RFunc := (funcP (X []) Try.f45).getD default
theorem c45 : funcP (X []) Try.f45 = some F45 := some_getD (by kernel_rfl)
noncomputable def F37 : RFunc := (funcP (X []) Try.f37).getD default
theorem c37 : funcP (X []) Try.f37 = some F37 := some_getD (by kernel_rfl)
noncomputable def F41 : RFunc := (funcP (X []) Try.f41).getD default
theorem c41 : funcP (X []) Try.f41 = some F41 := some_getD (by kernel_rfl)
noncomputable def F33 : RFunc := (funcP (X []) Try.f33).getD default
theorem c33 : funcP (X []) Try.f33 = some F33 := some_getD (by kernel_rfl)
noncomputable def F21 : RFunc := (funcP (X []) Try.f21).getD default
theorem c21 : funcP (X []) Try.f21 = some F21 := some_getD (by kernel_rfl)
noncomputable def F9 : RFunc := (funcP (X []) Try.f9).getD default
theorem c9 : funcP (X []) Try.f9 = some F9 := some_getD (by kernel_rfl)
noncomputable def F26 : RFunc := (funcP (X []) Try.f26).getD default
theorem c26 : funcP (X []) Try.f26 = some F26 := some_getD (by kernel_rfl)
noncomputable def F35 : RFunc := (funcP (X []) Try.f35).getD default
theorem c35 : funcP (X []) Try.f35 = some F35 := some_getD (by kernel_rfl)
noncomputable def F25 : RFunc := (funcP (X []) Try.f25).getD default
theorem c25 : funcP (X []) Try.f25 = some F25 := some_getD (by kernel_rfl)
noncomputable def F13 : RFunc := (funcP (X []) Try.f13).getD default
theorem c13 : funcP (X []) Try.f13 = some F13 := some_getD (by kernel_rfl)
noncomputable def F11 : RFunc := (funcP (X []) Try.f11).getD default
theorem c11 : funcP (X []) Try.f11 = some F11 := some_getD (by kernel_rfl)
noncomputable def F31 : RFunc := (funcP (X []) Try.f31).getD default
theorem c31 : funcP (X []) Try.f31 = some F31 := some_getD (by kernel_rfl)
noncomputable def F40 : RFunc := (funcP (X []) Try.f40).getD default
theorem c40 : funcP (X []) Try.f40 = some F40 := some_getD (by kernel_rfl)
noncomputable def F32 : RFunc := (funcP (X []) Try.f32).getD default
theorem c32 : funcP (X []) Try.f32 = some F32 := some_getD (by kernel_rfl)
noncomputable def F19 : RFunc := (funcP (X []) Try.f19).getD default
theorem c19 : funcP (X []) Try.f19 = some F19 := some_getD (by kernel_rfl)
noncomputable def F7 : RFunc := (funcP (X []) Try.f7).getD default
theorem c7 : funcP (X []) Try.f7 = some F7 := some_getD (by kernel_rfl)
theorem c29 : funcP (X []) Try.f29 = some (cloneF 1 1 (.int .u8 0) [none]) := by kernel_rfl
theorem hphi : PhiOK Try.prog phi := phi_ok (by kernel_rfl)
noncomputable def prims : List (Nat × (List AV → Option Res)) := [(29, clonePrim 1 1)]
theorem hprims : PrimsOK Try.prog phi prims := (.cons (clone_call Try.func29 rfl rfl c29 hphi rfl rfl (by decide)) .nil)
noncomputable def S : Sys := mkS [(34, F34), (22, F22), (23, F23), (12, F12), (10, F10), (43, F43), (46, F46), (44, F44), (42, F42), (36, F36), (27, F27), (14, F14), (8, F8), (24, F24), (47, F47), (45, F45), (37, F37), (41, F41), (33, F33), (21, F21), (9, F9), (26, F26), (35, F35), (25, F25), (13, F13), (11, F11), (31, F31), (40, F40), (32, F32), (19, F19), (7, F7)] prims
theorem hS : SysOK Try.prog phi S := sys_ok (.cons Try.func34 rfl rfl c34 (.cons Try.func22 rfl rfl c22 (.cons Try.func23 rfl rfl c23 (.cons Try.func12 rfl rfl c12 (.cons Try.func10 rfl rfl c10 (.cons Try.func43 rfl rfl c43 (.cons Try.func46 rfl rfl c46 (.cons Try.func44 rfl rfl c44 (.cons Try.func42 rfl rfl c42 (.cons Try.func36 rfl rfl c36 (.cons Try.func27 rfl rfl c27 (.cons Try.func14 rfl rfl c14 (.cons Try.func8 rfl rfl c8 (.cons Try.func24 rfl rfl c24 (.cons Try.func47 rfl rfl c47 (.cons Try.func45 rfl rfl c45 (.cons Try.func37 rfl rfl c37 (.cons Try.func41 rfl rfl c41 (.cons Try.func33 rfl rfl c33 (.cons Try.func21 rfl rfl c21 (.cons Try.func9 rfl rfl c9 (.cons Try.func26 rfl rfl c26 (.cons Try.func35 rfl rfl c35 (.cons Try.func25 rfl rfl c25 (.cons Try.func13 rfl rfl c13 (.cons Try.func11 rfl rfl c11 (.cons Try.func31 rfl rfl c31 (.cons Try.func40 rfl rfl c40 (.cons Try.func32 rfl rfl c32 (.cons Try.func19 rfl rfl c19 (.cons Try.func7 rfl rfl c7 .nil))))))))))))))))))))))))))))))) hprims
noncomputable def sig_treekey_tall : Sig := ⟨[.val (.int .i64)], [(.one, [.v .bool])]⟩
noncomputable def fns_treekey_tall : List (Nat × FnT) := []
noncomputable def anns_treekey_tall : List (Nat × Ann) := []
noncomputable def tys_treekey_tall : List (Nat × Ty) := []
theorem d_treekey_tall (x : pd sig_treekey_tall.apt) : (runT (mkE fns_treekey_tall anns_treekey_tall tys_treekey_tall) F34 sig_treekey_tall x).den = sh_treekey_tall x := by kernel_rfl
theorem k_treekey_tall : FnOK S.lim 34 ⟨sig_treekey_tall, sh_treekey_tall⟩ := fn_ok' (fns := fns_treekey_tall) (anns := anns_treekey_tall) (tys := tys_treekey_tall) .nil rfl rfl d_treekey_tall
noncomputable def sig_digest_Words : Sig := ⟨[.val (.list (.int .u64))], [(.one, [.own (.int .u8)])]⟩
noncomputable def fns_digest_Words : List (Nat × FnT) := []
noncomputable def anns_digest_Words : List (Nat × Ann) := [(1000008, ⟨0, 28, [(3, .c (.own 1000004 true))], [(1000004, [1536], .sl (.int .u8) false false)]⟩), (8, ⟨0, 28, [(3, .c (.own 1000003 true)), (7, .c (.lst (.int .u64) [])), (8, .c (.v (.int .i64))), (9, .c (.v (.int .i64)))], [(1000003, [1536], .sl (.int .u8) false false)]⟩), (1000022, ⟨2, 28, [(3, .c (.own 1000002 true)), (7, .c (.lst (.int .u64) [])), (8, .c (.v (.int .i64))), (9, .c (.v (.int .i64)))], [(1000002, [1536], .sl (.int .u8) false false)]⟩), (22, ⟨0, 28, [(3, .c (.own 1000001 true)), (5, .c (.v (.int .u64))), (7, .c (.lst (.int .u64) [])), (8, .c (.v (.int .i64))), (9, .c (.v (.int .i64))), (13, .c (.v (.int .i64)))], [(1000001, [1536], .sl (.int .u8) false false)]⟩)]
noncomputable def tys_digest_Words : List (Nat × Ty) := [(23, (.int .u8)), (24, (.int .u8))]
theorem d_digest_Words (x : pd sig_digest_Words.apt) : (runT (mkE fns_digest_Words anns_digest_Words tys_digest_Words) F22 sig_digest_Words x).den = sh_digest_Words x := by kernel_rfl
theorem k_digest_Words : FnOK S.lim 22 ⟨sig_digest_Words, sh_digest_Words⟩ := fn_ok' (fns := fns_digest_Words) (anns := anns_digest_Words) (tys := tys_digest_Words) .nil rfl rfl d_digest_Words
noncomputable def sig_treekey_EncodeKey : Sig := ⟨[.val (.st (.pair (.int .i64) (.int .u64)))], [(.one, [.own (.int .u8)]), (.one, [.v (.int .i64)])]⟩
noncomputable def fns_treekey_EncodeKey : List (Nat × FnT) := [(34, ⟨sig_treekey_tall, sh_treekey_tall⟩), (22, ⟨sig_digest_Words, sh_digest_Words⟩)]
noncomputable def anns_treekey_EncodeKey : List (Nat × Ann) := []
noncomputable def tys_treekey_EncodeKey : List (Nat × Ty) := [(11, (.int .u8)), (14, (.int .u64)), (16, (.int .u8))]
theorem d_treekey_EncodeKey (x : pd sig_treekey_EncodeKey.apt) : (runT (mkE fns_treekey_EncodeKey anns_treekey_EncodeKey tys_treekey_EncodeKey) F23 sig_treekey_EncodeKey x).den = sh_treekey_EncodeKey x := by kernel_rfl
theorem k_treekey_EncodeKey : FnOK S.lim 23 ⟨sig_treekey_EncodeKey, sh_treekey_EncodeKey⟩ := fn_ok' (fns := fns_treekey_EncodeKey) (anns := anns_treekey_EncodeKey) (tys := tys_treekey_EncodeKey) (.cons k_treekey_tall (.cons k_digest_Words .nil)) rfl rfl d_treekey_EncodeKey
noncomputable def sig_authdata_Validate : Sig := ⟨[.val (.st (.pair (.int .u64) (.pair (.int .i64) (.pair (.int .i64) (.pair (.int .i64) (.pair (.int .u64) (.pair (.list (.int .u8)) (.st (.pair (.int .i64) (.int .u64))))))))))], [(.one, [.v (.int .i64)])]⟩
noncomputable def fns_authdata_Validate : List (Nat × FnT) := [(23, ⟨sig_treekey_EncodeKey, sh_treekey_EncodeKey⟩)]
noncomputable def anns_authdata_Validate : List (Nat × Ann) := [(10, ⟨0, 69, [(1, .c (.vref 64 0))], [(64, [64], .var true [(.v (.int .u64)), (.v (.int .i64)), (.v (.int .i64)), (.v (.int .i64)), (.v (.int .u64)), (.lst (.int .u8) []), (.v (.int .i64)), (.v (.int .u64))] false false)]⟩), (2, ⟨0, 69, [(1, .c (.vref 64 0))], [(64, [64], .var true [(.v (.int .u64)), (.v (.int .i64)), (.v (.int .i64)), (.v (.int .i64)), (.v (.int .u64)), (.lst (.int .u8) []), (.v (.int .i64)), (.v (.int .u64))] false false)]⟩)]
noncomputable def tys_authdata_Validate : List (Nat × Ty) := []
theorem d_authdata_Validate (x : pd sig_authdata_Validate.apt) : (runT (mkE fns_authdata_Validate anns_authdata_Validate tys_authdata_Validate) F12 sig_authdata_Validate x).den = sh_authdata_Validate x := by kernel_rfl
theorem k_authdata_Validate : FnOK S.lim 12 ⟨sig_authdata_Validate, sh_authdata_Validate⟩ := fn_ok' (fns := fns_authdata_Validate) (anns := anns_authdata_Validate) (tys := tys_authdata_Validate) (.cons k_treekey_EncodeKey .nil) rfl rfl d_authdata_Validate
noncomputable def sig_authdata_Encode : Sig := ⟨[.val (.st (.pair (.int .u64) (.pair (.int .i64) (.pair (.int .i64) (.pair (.int .i64) (.pair (.int .u64) (.pair (.list (.int .u8)) (.st (.pair (.int .i64) (.int .u64))))))))))], [(.one, [.own (.int .u8)]), (.one, [.v (.int .i64)])]⟩
noncomputable def fns_authdata_Encode : List (Nat × FnT) := [(22, ⟨sig_digest_Words, sh_digest_Words⟩), (23, ⟨sig_treekey_EncodeKey, sh_treekey_EncodeKey⟩), (12, ⟨sig_authdata_Validate, sh_authdata_Validate⟩)]
noncomputable def anns_authdata_Encode : List (Nat × Ann) := [(14, ⟨0, 50, [(5, .c (.own 1000001 false))], [(1000001, [1728, 3072], .sl (.int .u8) false false)]⟩)]
noncomputable def tys_authdata_Encode : List (Nat × Ty) := [(15, (.int .u64)), (26, (.int .u8)), (27, (.int .u8)), (41, (.int .u64)), (43, (.int .u8)), (46, (.int .u8)), (48, (.int .u8))]
theorem d_authdata_Encode (x : pd sig_authdata_Encode.apt) : (runT (mkE fns_authdata_Encode anns_authdata_Encode tys_authdata_Encode) F10 sig_authdata_Encode x).den = sh_authdata_Encode x := by kernel_rfl
theorem k_authdata_Encode : FnOK S.lim 10 ⟨sig_authdata_Encode, sh_authdata_Encode⟩ := fn_ok' (fns := fns_authdata_Encode) (anns := anns_authdata_Encode) (tys := tys_authdata_Encode) (.cons k_digest_Words (.cons k_treekey_EncodeKey (.cons k_authdata_Validate .nil))) rfl rfl d_authdata_Encode
noncomputable def sig_digest_little : Sig := ⟨[.val (.list (.int .u8))], [(.one, [.v (.int .u64)])]⟩
noncomputable def fns_digest_little : List (Nat × FnT) := []
noncomputable def anns_digest_little : List (Nat × Ann) := [(1000008, ⟨0, 22, [(3, .c (.v (.int .u64)))], []⟩), (8, ⟨0, 22, [(3, .c (.v (.int .u64))), (6, .c (.lst (.int .u8) [])), (7, .c (.v (.int .i64))), (8, .c (.v (.int .i64)))], []⟩)]
noncomputable def tys_digest_little : List (Nat × Ty) := []
theorem d_digest_little (x : pd sig_digest_little.apt) : (runT (mkE fns_digest_little anns_digest_little tys_digest_little) F43 sig_digest_little x).den = sh_digest_little x := by kernel_rfl
theorem k_digest_little : FnOK S.lim 43 ⟨sig_digest_little, sh_digest_little⟩ := fn_ok' (fns := fns_digest_little) (anns := anns_digest_little) (tys := tys_digest_little) .nil rfl rfl d_digest_little
noncomputable def sig_math_bits_RotateLeft64 : Sig := ⟨[.val (.int .u64), .val (.int .i64)], [(.one, [.v (.int .u64)])]⟩
noncomputable def fns_math_bits_RotateLeft64 : List (Nat × FnT) := []
noncomputable def anns_math_bits_RotateLeft64 : List (Nat × Ann) := []
noncomputable def tys_math_bits_RotateLeft64 : List (Nat × Ty) := []
theorem d_math_bits_RotateLeft64 (x : pd sig_math_bits_RotateLeft64.apt) : (runT (mkE fns_math_bits_RotateLeft64 anns_math_bits_RotateLeft64 tys_math_bits_RotateLeft64) F46 sig_math_bits_RotateLeft64 x).den = sh_math_bits_RotateLeft64 x := by kernel_rfl
theorem k_math_bits_RotateLeft64 : FnOK S.lim 46 ⟨sig_math_bits_RotateLeft64, sh_math_bits_RotateLeft64⟩ := fn_ok' (fns := fns_math_bits_RotateLeft64) (anns := anns_math_bits_RotateLeft64) (tys := tys_math_bits_RotateLeft64) .nil rfl rfl d_math_bits_RotateLeft64
noncomputable def sig___passkey_digest_state__round : Sig := ⟨[.io [.v (.int .u64), .v (.int .u64), .v (.int .u64), .v (.int .u64)] [.v (.int .u64), .v (.int .u64), .v (.int .u64), .v (.int .u64)], .val (.int .i64)], []⟩
noncomputable def fns___passkey_digest_state__round : List (Nat × FnT) := [(46, ⟨sig_math_bits_RotateLeft64, sh_math_bits_RotateLeft64⟩)]
noncomputable def anns___passkey_digest_state__round : List (Nat × Ann) := [(1000003, ⟨0, 120, [], [(0, [0], .var true [(.v (.int .u64)), (.v (.int .u64)), (.v (.int .u64)), (.v (.int .u64))] false true)]⟩), (3, ⟨0, 120, [(0, .c (.vref 0 0)), (4, .c (.v (.int .i64))), (5, .c (.v (.int .i64)))], [(0, [0], .var true [(.v (.int .u64)), (.v (.int .u64)), (.v (.int .u64)), (.v (.int .u64))] false true)]⟩)]
noncomputable def tys___passkey_digest_state__round : List (Nat × Ty) := []
theorem d___passkey_digest_state__round (x : pd sig___passkey_digest_state__round.apt) : (runT (mkE fns___passkey_digest_state__round anns___passkey_digest_state__round tys___passkey_digest_state__round) F44 sig___passkey_digest_state__round x).den = sh___passkey_digest_state__round x := by kernel_rfl
theorem k___passkey_digest_state__round : FnOK S.lim 44 ⟨sig___passkey_digest_state__round, sh___passkey_digest_state__round⟩ := fn_ok' (fns := fns___passkey_digest_state__round) (anns := anns___passkey_digest_state__round) (tys := tys___passkey_digest_state__round) (.cons k_math_bits_RotateLeft64 .nil) rfl rfl d___passkey_digest_state__round
noncomputable def sig___passkey_digest_state__word : Sig := ⟨[.io [.v (.int .u64), .v (.int .u64), .v (.int .u64), .v (.int .u64)] [.v (.int .u64), .v (.int .u64), .v (.int .u64), .v (.int .u64)], .val (.int .u64)], []⟩
noncomputable def fns___passkey_digest_state__word : List (Nat × FnT) := [(44, ⟨sig___passkey_digest_state__round, sh___passkey_digest_state__round⟩)]
noncomputable def anns___passkey_digest_state__word : List (Nat × Ann) := []
noncomputable def tys___passkey_digest_state__word : List (Nat × Ty) := []
theorem d___passkey_digest_state__word (x : pd sig___passkey_digest_state__word.apt) : (runT (mkE fns___passkey_digest_state__word anns___passkey_digest_state__word tys___passkey_digest_state__word) F42 sig___passkey_digest_state__word x).den = sh___passkey_digest_state__word x := by kernel_rfl
theorem k___passkey_digest_state__word : FnOK S.lim 42 ⟨sig___passkey_digest_state__word, sh___passkey_digest_state__word⟩ := fn_ok' (fns := fns___passkey_digest_state__word) (anns := anns___passkey_digest_state__word) (tys := tys___passkey_digest_state__word) (.cons k___passkey_digest_state__round .nil) rfl rfl d___passkey_digest_state__word
noncomputable def sig_digest_Sum : Sig := ⟨[.val (.int .u64), .val (.int .u64), .val (.list (.int .u8))], [(.one, [.v (.int .u64)])]⟩
noncomputable def fns_digest_Sum : List (Nat × FnT) := [(43, ⟨sig_digest_little, sh_digest_little⟩), (44, ⟨sig___passkey_digest_state__round, sh___passkey_digest_state__round⟩), (42, ⟨sig___passkey_digest_state__word, sh___passkey_digest_state__word⟩)]
noncomputable def anns_digest_Sum : List (Nat × Ann) := [(1000008, ⟨0, 67, [(2, .c (.lst (.int .u8) [])), (7, .c (.vref 1152 0)), (8, .c (.v (.int .u64)))], [(1152, [1152], .var true [(.v (.int .u64)), (.v (.int .u64)), (.v (.int .u64)), (.v (.int .u64))] false false)]⟩), (8, ⟨0, 67, [(2, .c (.lst (.int .u8) [])), (7, .c (.vref 1152 0)), (8, .c (.v (.int .u64)))], [(1152, [1152], .var true [(.v (.int .u64)), (.v (.int .u64)), (.v (.int .u64)), (.v (.int .u64))] false false)]⟩)]
noncomputable def tys_digest_Sum : List (Nat × Ty) := []
theorem d_digest_Sum (x : pd sig_digest_Sum.apt) : (runT (mkE fns_digest_Sum anns_digest_Sum tys_digest_Sum) F36 sig_digest_Sum x).den = sh_digest_Sum x := by kernel_rfl
theorem k_digest_Sum : FnOK S.lim 36 ⟨sig_digest_Sum, sh_digest_Sum⟩ := fn_ok' (fns := fns_digest_Sum) (anns := anns_digest_Sum) (tys := tys_digest_Sum) (.cons k_digest_little (.cons k___passkey_digest_state__round (.cons k___passkey_digest_state__word .nil))) rfl rfl d_digest_Sum
noncomputable def sig_digest_Hash : Sig := ⟨[.val (.int .i64), .val (.list (.int .u8))], [(.one, [.v (.int .u64)])]⟩
noncomputable def fns_digest_Hash : List (Nat × FnT) := [(36, ⟨sig_digest_Sum, sh_digest_Sum⟩)]
noncomputable def anns_digest_Hash : List (Nat × Ann) := []
noncomputable def tys_digest_Hash : List (Nat × Ty) := []
theorem d_digest_Hash (x : pd sig_digest_Hash.apt) : (runT (mkE fns_digest_Hash anns_digest_Hash tys_digest_Hash) F27 sig_digest_Hash x).den = sh_digest_Hash x := by kernel_rfl
theorem k_digest_Hash : FnOK S.lim 27 ⟨sig_digest_Hash, sh_digest_Hash⟩ := fn_ok' (fns := fns_digest_Hash) (anns := anns_digest_Hash) (tys := tys_digest_Hash) (.cons k_digest_Sum .nil) rfl rfl d_digest_Hash
noncomputable def sig_authdata_RPHash : Sig := ⟨[.val .str], [(.one, [.v (.int .u64)])]⟩
noncomputable def fns_authdata_RPHash : List (Nat × FnT) := [(27, ⟨sig_digest_Hash, sh_digest_Hash⟩)]
noncomputable def anns_authdata_RPHash : List (Nat × Ann) := []
noncomputable def tys_authdata_RPHash : List (Nat × Ty) := []
theorem d_authdata_RPHash (x : pd sig_authdata_RPHash.apt) : (runT (mkE fns_authdata_RPHash anns_authdata_RPHash tys_authdata_RPHash) F14 sig_authdata_RPHash x).den = sh_authdata_RPHash x := by kernel_rfl
theorem k_authdata_RPHash : FnOK S.lim 14 ⟨sig_authdata_RPHash, sh_authdata_RPHash⟩ := fn_ok' (fns := fns_authdata_RPHash) (anns := anns_authdata_RPHash) (tys := tys_authdata_RPHash) (.cons k_digest_Hash .nil) rfl rfl d_authdata_RPHash
noncomputable def sig_passkeylaw14_awake : Sig := ⟨[], [(.one, [.v .bool])]⟩
noncomputable def fns_passkeylaw14_awake : List (Nat × FnT) := [(12, ⟨sig_authdata_Validate, sh_authdata_Validate⟩), (10, ⟨sig_authdata_Encode, sh_authdata_Encode⟩), (14, ⟨sig_authdata_RPHash, sh_authdata_RPHash⟩)]
noncomputable def anns_passkeylaw14_awake : List (Nat × Ann) := []
noncomputable def tys_passkeylaw14_awake : List (Nat × Ty) := []
theorem d_passkeylaw14_awake (x : pd sig_passkeylaw14_awake.apt) : (runT (mkE fns_passkeylaw14_awake anns_passkeylaw14_awake tys_passkeylaw14_awake) F8 sig_passkeylaw14_awake x).den = sh_passkeylaw14_awake x := by kernel_rfl
theorem k_passkeylaw14_awake : FnOK S.lim 8 ⟨sig_passkeylaw14_awake, sh_passkeylaw14_awake⟩ := fn_ok' (fns := fns_passkeylaw14_awake) (anns := anns_passkeylaw14_awake) (tys := tys_passkeylaw14_awake) (.cons k_authdata_Validate (.cons k_authdata_Encode (.cons k_authdata_RPHash .nil))) rfl rfl d_passkeylaw14_awake
noncomputable def sig_passkeyref1_Words : Sig := ⟨[.val (.list (.int .u64))], [(.one, [.own (.int .u8)])]⟩
noncomputable def fns_passkeyref1_Words : List (Nat × FnT) := []
noncomputable def anns_passkeyref1_Words : List (Nat × Ann) := [(1000008, ⟨0, 29, [(3, .c (.own 1000004 true))], [(1000004, [1728], .sl (.int .u8) false false)]⟩), (8, ⟨0, 29, [(0, .c (.lst (.int .u64) [])), (3, .c (.own 1000003 true)), (4, .c (.v (.int .i64)))], [(1000003, [1728], .sl (.int .u8) false false)]⟩), (1000020, ⟨2, 29, [(0, .c (.lst (.int .u64) [])), (3, .c (.own 1000002 true)), (4, .c (.v (.int .i64)))], [(1000002, [1728], .sl (.int .u8) false false)]⟩), (20, ⟨0, 29, [(0, .c (.lst (.int .u64) [])), (3, .c (.own 1000001 true)), (4, .c (.v (.int .i64))), (5, .c (.v (.int .i64)))], [(1000001, [1728], .sl (.int .u8) false false)]⟩)]
noncomputable def tys_passkeyref1_Words : List (Nat × Ty) := [(26, (.int .u8)), (27, (.int .u8))]
theorem d_passkeyref1_Words (x : pd sig_passkeyref1_Words.apt) : (runT (mkE fns_passkeyref1_Words anns_passkeyref1_Words tys_passkeyref1_Words) F24 sig_passkeyref1_Words x).den = sh_passkeyref1_Words x := by kernel_rfl
theorem k_passkeyref1_Words : FnOK S.lim 24 ⟨sig_passkeyref1_Words, sh_passkeyref1_Words⟩ := fn_ok' (fns := fns_passkeyref1_Words) (anns := anns_passkeyref1_Words) (tys := tys_passkeyref1_Words) .nil rfl rfl d_passkeyref1_Words
noncomputable def sig_passkeyref1_rotl : Sig := ⟨[.val (.int .u64), .val (.int .u64)], [(.one, [.v (.int .u64)])]⟩
noncomputable def fns_passkeyref1_rotl : List (Nat × FnT) := []
noncomputable def anns_passkeyref1_rotl : List (Nat × Ann) := []
noncomputable def tys_passkeyref1_rotl : List (Nat × Ty) := []
theorem d_passkeyref1_rotl (x : pd sig_passkeyref1_rotl.apt) : (runT (mkE fns_passkeyref1_rotl anns_passkeyref1_rotl tys_passkeyref1_rotl) F47 sig_passkeyref1_rotl x).den = sh_passkeyref1_rotl x := by kernel_rfl
theorem k_passkeyref1_rotl : FnOK S.lim 47 ⟨sig_passkeyref1_rotl, sh_passkeyref1_rotl⟩ := fn_ok' (fns := fns_passkeyref1_rotl) (anns := anns_passkeyref1_rotl) (tys := tys_passkeyref1_rotl) .nil rfl rfl d_passkeyref1_rotl
noncomputable def sig_passkeyref1_round : Sig := ⟨[.val (.arr 4 (.int .u64))], [(.agg, [.v (.arr 4 (.int .u64))])]⟩
noncomputable def fns_passkeyref1_round : List (Nat × FnT) := [(47, ⟨sig_passkeyref1_rotl, sh_passkeyref1_rotl⟩)]
noncomputable def anns_passkeyref1_round : List (Nat × Ann) := []
noncomputable def tys_passkeyref1_round : List (Nat × Ty) := [(3, (.int .u64)), (5, (.int .u64)), (8, (.int .u64)), (9, (.int .u64)), (12, (.int .u64)), (15, (.int .u64)), (16, (.int .u64)), (19, (.int .u64)), (20, (.int .u64)), (22, (.int .u64)), (25, (.int .u64)), (26, (.int .u64)), (29, (.int .u64)), (32, (.int .u64)), (33, (.int .u64)), (35, (.int .u64)), (38, (.int .u64)), (39, (.int .u64)), (42, (.int .u64)), (45, (.int .u64)), (46, (.int .u64)), (48, (.int .u64)), (51, (.int .u64)), (52, (.int .u64)), (55, (.int .u64)), (58, (.int .u64)), (59, (.int .u64)), (62, (.int .u64))]
theorem d_passkeyref1_round (x : pd sig_passkeyref1_round.apt) : (runT (mkE fns_passkeyref1_round anns_passkeyref1_round tys_passkeyref1_round) F45 sig_passkeyref1_round x).den = sh_passkeyref1_round x := by kernel_rfl
theorem k_passkeyref1_round : FnOK S.lim 45 ⟨sig_passkeyref1_round, sh_passkeyref1_round⟩ := fn_ok' (fns := fns_passkeyref1_round) (anns := anns_passkeyref1_round) (tys := tys_passkeyref1_round) (.cons k_passkeyref1_rotl .nil) rfl rfl d_passkeyref1_round
noncomputable def sig_passkeyref1_Sum : Sig := ⟨[.val (.int .u64), .val (.int .u64), .val (.list (.int .u8))], [(.one, [.v (.int .u64)])]⟩
noncomputable def fns_passkeyref1_Sum : List (Nat × FnT) := [(45, ⟨sig_passkeyref1_round, sh_passkeyref1_round⟩)]
noncomputable def anns_passkeyref1_Sum : List (Nat × Ann) := [(30, ⟨0, 86, [(2, .c (.lst (.int .u8) [])), (7, .c (.vref 448 0)), (8, .c (.v (.int .i64))), (9, .c (.v (.int .u64))), (10, .c (.v (.int .i64)))], [(448, [448], .var true [(.v (.arr 4 (.int .u64)))] false false)]⟩), (1000023, ⟨2, 86, [(2, .c (.lst (.int .u8) [])), (7, .c (.vref 448 0)), (8, .c (.v (.int .i64))), (9, .c (.v (.int .u64)))], [(448, [448], .var true [(.v (.arr 4 (.int .u64)))] false false)]⟩), (34, ⟨0, 86, [(2, .c (.lst (.int .u8) [])), (7, .c (.vref 448 0)), (8, .c (.v (.int .i64))), (9, .c (.v (.int .u64))), (10, .c (.v (.int .i64))), (11, .c (.v (.int .u8)))], [(448, [448], .var true [(.v (.arr 4 (.int .u64)))] false false)]⟩), (1000008, ⟨0, 86, [(7, .c (.vref 448 0))], [(448, [448], .var true [(.v (.arr 4 (.int .u64)))] false false)]⟩), (23, ⟨0, 86, [(2, .c (.lst (.int .u8) [])), (7, .c (.vref 448 0)), (8, .c (.v (.int .i64))), (9, .c (.v (.int .u64))), (10, .c (.v (.int .i64)))], [(448, [448], .var true [(.v (.arr 4 (.int .u64)))] false false)]⟩), (8, ⟨0, 86, [(2, .c (.lst (.int .u8) [])), (7, .c (.vref 448 0)), (8, .c (.v (.int .i64)))], [(448, [448], .var true [(.v (.arr 4 (.int .u64)))] false false)]⟩)]
noncomputable def tys_passkeyref1_Sum : List (Nat × Ty) := [(53, (.int .u64)), (57, (.int .u64)), (61, (.int .u64)), (65, (.int .u64)), (66, (.int .u64)), (69, (.int .u64)), (75, (.int .u64)), (77, (.int .u64)), (80, (.int .u64)), (83, (.int .u64))]
theorem d_passkeyref1_Sum (x : pd sig_passkeyref1_Sum.apt) : (runT (mkE fns_passkeyref1_Sum anns_passkeyref1_Sum tys_passkeyref1_Sum) F37 sig_passkeyref1_Sum x).den = sh_passkeyref1_Sum x := by kernel_rfl
theorem k_passkeyref1_Sum : FnOK S.lim 37 ⟨sig_passkeyref1_Sum, sh_passkeyref1_Sum⟩ := fn_ok' (fns := fns_passkeyref1_Sum) (anns := anns_passkeyref1_Sum) (tys := tys_passkeyref1_Sum) (.cons k_passkeyref1_round .nil) rfl rfl d_passkeyref1_Sum
noncomputable def sig_passkeyref1_Mac : Sig := ⟨[.val (.int .u64), .val (.int .i64), .val (.list (.int .u8))], [(.one, [.v (.int .u64)])]⟩
noncomputable def fns_passkeyref1_Mac : List (Nat × FnT) := [(37, ⟨sig_passkeyref1_Sum, sh_passkeyref1_Sum⟩)]
noncomputable def anns_passkeyref1_Mac : List (Nat × Ann) := []
noncomputable def tys_passkeyref1_Mac : List (Nat × Ty) := []
theorem d_passkeyref1_Mac (x : pd sig_passkeyref1_Mac.apt) : (runT (mkE fns_passkeyref1_Mac anns_passkeyref1_Mac tys_passkeyref1_Mac) F41 sig_passkeyref1_Mac x).den = sh_passkeyref1_Mac x := by kernel_rfl
theorem k_passkeyref1_Mac : FnOK S.lim 41 ⟨sig_passkeyref1_Mac, sh_passkeyref1_Mac⟩ := fn_ok' (fns := fns_passkeyref1_Mac) (anns := anns_passkeyref1_Mac) (tys := tys_passkeyref1_Mac) (.cons k_passkeyref1_Sum .nil) rfl rfl d_passkeyref1_Mac
noncomputable def sig_passkeyref3_Stream : Sig := ⟨[.val (.int .u64), .val (.int .u64), .val (.int .i64)], [(.one, [.own (.int .u8)])]⟩
noncomputable def fns_passkeyref3_Stream : List (Nat × FnT) := [(24, ⟨sig_passkeyref1_Words, sh_passkeyref1_Words⟩), (41, ⟨sig_passkeyref1_Mac, sh_passkeyref1_Mac⟩)]
noncomputable def anns_passkeyref3_Stream : List (Nat × Ann) := [(1000010, ⟨0, 32, [(2, .c (.v (.int .i64))), (7, .c (.own 1000002 true))], [(1000002, [1792], .sl (.int .u8) false false)]⟩), (10, ⟨0, 32, [(0, .c (.v (.int .u64))), (1, .c (.v (.int .u64))), (2, .c (.v (.int .i64))), (7, .c (.own 1000001 true)), (8, .c (.v (.int .i64)))], [(1000001, [1792], .sl (.int .u8) false false)]⟩)]
noncomputable def tys_passkeyref3_Stream : List (Nat × Ty) := [(23, (.int .u64)), (26, (.int .u64)), (28, (.int .u8))]
theorem d_passkeyref3_Stream (x : pd sig_passkeyref3_Stream.apt) : (runT (mkE fns_passkeyref3_Stream anns_passkeyref3_Stream tys_passkeyref3_Stream) F33 sig_passkeyref3_Stream x).den = sh_passkeyref3_Stream x := by kernel_rfl
theorem k_passkeyref3_Stream : FnOK S.lim 33 ⟨sig_passkeyref3_Stream, sh_passkeyref3_Stream⟩ := fn_ok' (fns := fns_passkeyref3_Stream) (anns := anns_passkeyref3_Stream) (tys := tys_passkeyref3_Stream) (.cons k_passkeyref1_Words (.cons k_passkeyref1_Mac .nil)) rfl rfl d_passkeyref3_Stream
noncomputable def sig_passkeybase_ID : Sig := ⟨[.val (.int .i64)], [(.one, [.own (.int .u8)])]⟩
noncomputable def fns_passkeybase_ID : List (Nat × FnT) := [(33, ⟨sig_passkeyref3_Stream, sh_passkeyref3_Stream⟩)]
noncomputable def anns_passkeybase_ID : List (Nat × Ann) := []
noncomputable def tys_passkeybase_ID : List (Nat × Ty) := []
theorem d_passkeybase_ID (x : pd sig_passkeybase_ID.apt) : (runT (mkE fns_passkeybase_ID anns_passkeybase_ID tys_passkeybase_ID) F21 sig_passkeybase_ID x).den = sh_passkeybase_ID x := by kernel_rfl
theorem k_passkeybase_ID : FnOK S.lim 21 ⟨sig_passkeybase_ID, sh_passkeybase_ID⟩ := fn_ok' (fns := fns_passkeybase_ID) (anns := anns_passkeybase_ID) (tys := tys_passkeybase_ID) (.cons k_passkeyref3_Stream .nil) rfl rfl d_passkeybase_ID
noncomputable def sig_passkeylaw14_made : Sig := ⟨[.val (.int .i64), .val (.int .u64)], [(.agg, [.v (.int .u64), .v (.int .i64), .v (.int .i64), .v (.int .i64), .v (.int .u64), .own (.int .u8), .v (.int .i64), .v (.int .u64)])]⟩
noncomputable def fns_passkeylaw14_made : List (Nat × FnT) := [(21, ⟨sig_passkeybase_ID, sh_passkeybase_ID⟩)]
noncomputable def anns_passkeylaw14_made : List (Nat × Ann) := [(10, ⟨0, 107, [(0, .c (.v (.int .i64))), (4, .c (.vref 256 0)), (5, .c (.vref 320 0))], [(256, [256], .var true [(.v (.int .u64)), (.v (.int .i64)), (.v (.int .i64)), (.v (.int .i64)), (.v (.int .u64)), .nil, (.v (.int .i64)), (.v (.int .u64))] false false), (320, [320], .var true [(.v (.int .u64)), (.v (.int .i64)), (.v (.int .i64)), (.v (.int .i64)), (.v (.int .u64)), (.own 1000001 true), (.v (.int .i64)), (.v (.int .u64))] false false), (1000001, [3008], .sl (.int .u8) false false)]⟩), (4, ⟨0, 107, [(0, .c (.v (.int .i64))), (1, .c (.v (.int .u64))), (4, .c (.vref 256 0)), (5, .c (.vref 320 0))], [(256, [256], .var true [(.v (.int .u64)), (.v (.int .i64)), (.v (.int .i64)), (.v (.int .i64)), (.v (.int .u64)), .nil, (.v (.int .i64)), (.v (.int .u64))] false false), (320, [320], .var true [(.v (.int .u64)), (.v (.int .i64)), (.v (.int .i64)), (.v (.int .i64)), (.v (.int .u64)), .nil, (.v (.int .i64)), (.v (.int .u64))] false false)]⟩)]
noncomputable def tys_passkeylaw14_made : List (Nat × Ty) := []
theorem d_passkeylaw14_made (x : pd sig_passkeylaw14_made.apt) : (runT (mkE fns_passkeylaw14_made anns_passkeylaw14_made tys_passkeylaw14_made) F9 sig_passkeylaw14_made x).den = sh_passkeylaw14_made x := by kernel_rfl
theorem k_passkeylaw14_made : FnOK S.lim 9 ⟨sig_passkeylaw14_made, sh_passkeylaw14_made⟩ := fn_ok' (fns := fns_passkeylaw14_made) (anns := anns_passkeylaw14_made) (tys := tys_passkeylaw14_made) (.cons k_passkeybase_ID .nil) rfl rfl d_passkeylaw14_made
noncomputable def sig_passkeyref14_within : Sig := ⟨[.val (.int .i64), .val (.int .i64), .val (.int .i64)], [(.one, [.v .bool])]⟩
noncomputable def fns_passkeyref14_within : List (Nat × FnT) := []
noncomputable def anns_passkeyref14_within : List (Nat × Ann) := []
noncomputable def tys_passkeyref14_within : List (Nat × Ty) := []
theorem d_passkeyref14_within (x : pd sig_passkeyref14_within.apt) : (runT (mkE fns_passkeyref14_within anns_passkeyref14_within tys_passkeyref14_within) F26 sig_passkeyref14_within x).den = sh_passkeyref14_within x := by kernel_rfl
theorem k_passkeyref14_within : FnOK S.lim 26 ⟨sig_passkeyref14_within, sh_passkeyref14_within⟩ := fn_ok' (fns := fns_passkeyref14_within) (anns := anns_passkeyref14_within) (tys := tys_passkeyref14_within) .nil rfl rfl d_passkeyref14_within
noncomputable def sig_passkeyref3_height : Sig := ⟨[.val (.int .i64)], [(.one, [.v .bool])]⟩
noncomputable def fns_passkeyref3_height : List (Nat × FnT) := []
noncomputable def anns_passkeyref3_height : List (Nat × Ann) := []
noncomputable def tys_passkeyref3_height : List (Nat × Ty) := []
theorem d_passkeyref3_height (x : pd sig_passkeyref3_height.apt) : (runT (mkE fns_passkeyref3_height anns_passkeyref3_height tys_passkeyref3_height) F35 sig_passkeyref3_height x).den = sh_passkeyref3_height x := by kernel_rfl
theorem k_passkeyref3_height : FnOK S.lim 35 ⟨sig_passkeyref3_height, sh_passkeyref3_height⟩ := fn_ok' (fns := fns_passkeyref3_height) (anns := anns_passkeyref3_height) (tys := tys_passkeyref3_height) .nil rfl rfl d_passkeyref3_height
noncomputable def sig_passkeyref3_EncodeKey : Sig := ⟨[.val (.st (.pair (.int .i64) (.int .u64)))], [(.one, [.own (.int .u8)]), (.one, [.v (.int .i64)])]⟩
noncomputable def fns_passkeyref3_EncodeKey : List (Nat × FnT) := [(24, ⟨sig_passkeyref1_Words, sh_passkeyref1_Words⟩), (35, ⟨sig_passkeyref3_height, sh_passkeyref3_height⟩)]
noncomputable def anns_passkeyref3_EncodeKey : List (Nat × Ann) := []
noncomputable def tys_passkeyref3_EncodeKey : List (Nat × Ty) := [(11, (.int .u8)), (14, (.int .u64)), (16, (.int .u8))]
theorem d_passkeyref3_EncodeKey (x : pd sig_passkeyref3_EncodeKey.apt) : (runT (mkE fns_passkeyref3_EncodeKey anns_passkeyref3_EncodeKey tys_passkeyref3_EncodeKey) F25 sig_passkeyref3_EncodeKey x).den = sh_passkeyref3_EncodeKey x := by kernel_rfl
theorem k_passkeyref3_EncodeKey : FnOK S.lim 25 ⟨sig_passkeyref3_EncodeKey, sh_passkeyref3_EncodeKey⟩ := fn_ok' (fns := fns_passkeyref3_EncodeKey) (anns := anns_passkeyref3_EncodeKey) (tys := tys_passkeyref3_EncodeKey) (.cons k_passkeyref1_Words (.cons k_passkeyref3_height .nil)) rfl rfl d_passkeyref3_EncodeKey
noncomputable def sig_passkeyref14_ValidateData : Sig := ⟨[.val (.st (.pair (.int .u64) (.pair (.int .i64) (.pair (.int .i64) (.pair (.int .i64) (.pair (.int .u64) (.pair (.list (.int .u8)) (.st (.pair (.int .i64) (.int .u64))))))))))], [(.one, [.v (.int .i64)])]⟩
noncomputable def fns_passkeyref14_ValidateData : List (Nat × FnT) := [(26, ⟨sig_passkeyref14_within, sh_passkeyref14_within⟩), (25, ⟨sig_passkeyref3_EncodeKey, sh_passkeyref3_EncodeKey⟩)]
noncomputable def anns_passkeyref14_ValidateData : List (Nat × Ann) := [(10, ⟨0, 61, [(1, .c (.vref 64 0))], [(64, [64], .var true [(.v (.int .u64)), (.v (.int .i64)), (.v (.int .i64)), (.v (.int .i64)), (.v (.int .u64)), (.lst (.int .u8) []), (.v (.int .i64)), (.v (.int .u64))] false false)]⟩), (2, ⟨0, 61, [(1, .c (.vref 64 0))], [(64, [64], .var true [(.v (.int .u64)), (.v (.int .i64)), (.v (.int .i64)), (.v (.int .i64)), (.v (.int .u64)), (.lst (.int .u8) []), (.v (.int .i64)), (.v (.int .u64))] false false)]⟩)]
noncomputable def tys_passkeyref14_ValidateData : List (Nat × Ty) := []
theorem d_passkeyref14_ValidateData (x : pd sig_passkeyref14_ValidateData.apt) : (runT (mkE fns_passkeyref14_ValidateData anns_passkeyref14_ValidateData tys_passkeyref14_ValidateData) F13 sig_passkeyref14_ValidateData x).den = sh_passkeyref14_ValidateData x := by kernel_rfl
theorem k_passkeyref14_ValidateData : FnOK S.lim 13 ⟨sig_passkeyref14_ValidateData, sh_passkeyref14_ValidateData⟩ := fn_ok' (fns := fns_passkeyref14_ValidateData) (anns := anns_passkeyref14_ValidateData) (tys := tys_passkeyref14_ValidateData) (.cons k_passkeyref14_within (.cons k_passkeyref3_EncodeKey .nil)) rfl rfl d_passkeyref14_ValidateData
noncomputable def sig_passkeyref14_EncodeData : Sig := ⟨[.val (.st (.pair (.int .u64) (.pair (.int .i64) (.pair (.int .i64) (.pair (.int .i64) (.pair (.int .u64) (.pair (.list (.int .u8)) (.st (.pair (.int .i64) (.int .u64))))))))))], [(.one, [.own (.int .u8)]), (.one, [.v (.int .i64)])]⟩
noncomputable def fns_passkeyref14_EncodeData : List (Nat × FnT) := [(24, ⟨sig_passkeyref1_Words, sh_passkeyref1_Words⟩), (25, ⟨sig_passkeyref3_EncodeKey, sh_passkeyref3_EncodeKey⟩), (13, ⟨sig_passkeyref14_ValidateData, sh_passkeyref14_ValidateData⟩)]
noncomputable def anns_passkeyref14_EncodeData : List (Nat × Ann) := [(14, ⟨0, 50, [(5, .c (.own 1000001 false))], [(1000001, [1728, 3072], .sl (.int .u8) false false)]⟩)]
noncomputable def tys_passkeyref14_EncodeData : List (Nat × Ty) := [(15, (.int .u64)), (26, (.int .u8)), (27, (.int .u8)), (41, (.int .u64)), (43, (.int .u8)), (46, (.int .u8)), (48, (.int .u8))]
theorem d_passkeyref14_EncodeData (x : pd sig_passkeyref14_EncodeData.apt) : (runT (mkE fns_passkeyref14_EncodeData anns_passkeyref14_EncodeData tys_passkeyref14_EncodeData) F11 sig_passkeyref14_EncodeData x).den = sh_passkeyref14_EncodeData x := by kernel_rfl
theorem k_passkeyref14_EncodeData : FnOK S.lim 11 ⟨sig_passkeyref14_EncodeData, sh_passkeyref14_EncodeData⟩ := fn_ok' (fns := fns_passkeyref14_EncodeData) (anns := anns_passkeyref14_EncodeData) (tys := tys_passkeyref14_EncodeData) (.cons k_passkeyref1_Words (.cons k_passkeyref3_EncodeKey (.cons k_passkeyref14_ValidateData .nil))) rfl rfl d_passkeyref14_EncodeData
noncomputable def sig_slices_Clone___byte_byte_ : Sig := ⟨[.val (.list (.int .u8))], [(.one, [.own (.int .u8)])]⟩
theorem k_slices_Clone___byte_byte_ : FnOK S.lim 29 ⟨sig_slices_Clone___byte_byte_, sh_slices_Clone___byte_byte_⟩ := clone_fn (t := (.int .u8)) (b := 1) rfl
noncomputable def sig_authdata_word : Sig := ⟨[.val (.list (.int .u8))], [(.one, [.v (.int .u64)])]⟩
noncomputable def fns_authdata_word : List (Nat × FnT) := []
noncomputable def anns_authdata_word : List (Nat × Ann) := [(1000008, ⟨0, 20, [(3, .c (.v (.int .u64)))], []⟩), (8, ⟨0, 20, [(3, .c (.v (.int .u64))), (7, .c (.lst (.int .u8) [])), (8, .c (.v (.int .i64))), (9, .c (.v (.int .i64)))], []⟩)]
noncomputable def tys_authdata_word : List (Nat × Ty) := []
theorem d_authdata_word (x : pd sig_authdata_word.apt) : (runT (mkE fns_authdata_word anns_authdata_word tys_authdata_word) F31 sig_authdata_word x).den = sh_authdata_word x := by kernel_rfl
theorem k_authdata_word : FnOK S.lim 31 ⟨sig_authdata_word, sh_authdata_word⟩ := fn_ok' (fns := fns_authdata_word) (anns := anns_authdata_word) (tys := tys_authdata_word) .nil rfl rfl d_authdata_word
noncomputable def sig_treekey_words : Sig := ⟨[.val (.list (.int .u8)), .val (.int .i64)], [(.one, [.own (.int .u64)])]⟩
noncomputable def fns_treekey_words : List (Nat × FnT) := []
noncomputable def anns_treekey_words : List (Nat × Ann) := [(1000025, ⟨2, 38, [(0, .c (.lst (.int .u8) [])), (5, .c (.own 1000003 true)), (7, .c (.v (.int .u64))), (10, .c (.v (.int .i64))), (11, .c (.v (.int .i64)))], [(1000003, [2240], .sl (.int .u64) false false)]⟩), (1000008, ⟨0, 38, [(5, .c (.own 1000002 true))], [(1000002, [2240], .sl (.int .u64) false false)]⟩), (25, ⟨0, 38, [(0, .c (.lst (.int .u8) [])), (5, .c (.own 1000002 true)), (7, .c (.v (.int .u64))), (10, .c (.v (.int .i64))), (11, .c (.v (.int .i64))), (20, .c (.lst (.int .u8) [])), (21, .c (.v (.int .i64))), (22, .c (.v (.int .i64)))], [(1000002, [2240], .sl (.int .u64) false false)]⟩), (8, ⟨0, 38, [(0, .c (.lst (.int .u8) [])), (5, .c (.own 1000001 true)), (10, .c (.v (.int .i64))), (11, .c (.v (.int .i64)))], [(1000001, [2240], .sl (.int .u64) false false)]⟩)]
noncomputable def tys_treekey_words : List (Nat × Ty) := [(34, (.int .u64)), (35, (.int .u64))]
theorem d_treekey_words (x : pd sig_treekey_words.apt) : (runT (mkE fns_treekey_words anns_treekey_words tys_treekey_words) F40 sig_treekey_words x).den = sh_treekey_words x := by kernel_rfl
theorem k_treekey_words : FnOK S.lim 40 ⟨sig_treekey_words, sh_treekey_words⟩ := fn_ok' (fns := fns_treekey_words) (anns := anns_treekey_words) (tys := tys_treekey_words) .nil rfl rfl d_treekey_words
noncomputable def sig_treekey_DecodeKey : Sig := ⟨[.val (.list (.int .u8))], [(.agg, [.v (.int .i64), .v (.int .u64)]), (.one, [.v (.int .i64)])]⟩
noncomputable def fns_treekey_DecodeKey : List (Nat × FnT) := [(34, ⟨sig_treekey_tall, sh_treekey_tall⟩), (40, ⟨sig_treekey_words, sh_treekey_words⟩)]
noncomputable def anns_treekey_DecodeKey : List (Nat × Ann) := [(2, ⟨0, 26, [(0, .c (.lst (.int .u8) [])), (2, .c (.vref 128 0))], [(128, [128], .var true [(.v (.int .i64)), (.v (.int .u64))] false false)]⟩)]
noncomputable def tys_treekey_DecodeKey : List (Nat × Ty) := []
theorem d_treekey_DecodeKey (x : pd sig_treekey_DecodeKey.apt) : (runT (mkE fns_treekey_DecodeKey anns_treekey_DecodeKey tys_treekey_DecodeKey) F32 sig_treekey_DecodeKey x).den = sh_treekey_DecodeKey x := by kernel_rfl
theorem k_treekey_DecodeKey : FnOK S.lim 32 ⟨sig_treekey_DecodeKey, sh_treekey_DecodeKey⟩ := fn_ok' (fns := fns_treekey_DecodeKey) (anns := anns_treekey_DecodeKey) (tys := tys_treekey_DecodeKey) (.cons k_treekey_tall (.cons k_treekey_words .nil)) rfl rfl d_treekey_DecodeKey
noncomputable def sig_authdata_Decode : Sig := ⟨[.val (.list (.int .u8))], [(.agg, [.v (.int .u64), .v (.int .i64), .v (.int .i64), .v (.int .i64), .v (.int .u64), .own (.int .u8), .v (.int .i64), .v (.int .u64)]), (.one, [.v (.int .i64)])]⟩
noncomputable def fns_authdata_Decode : List (Nat × FnT) := [(12, ⟨sig_authdata_Validate, sh_authdata_Validate⟩), (29, ⟨sig_slices_Clone___byte_byte_, sh_slices_Clone___byte_byte_⟩), (31, ⟨sig_authdata_word, sh_authdata_word⟩), (32, ⟨sig_treekey_DecodeKey, sh_treekey_DecodeKey⟩)]
noncomputable def anns_authdata_Decode : List (Nat × Ann) := [(42, ⟨0, 66, [(2, .c (.vref 128 0)), (4, .c (.vref 256 0))], [(128, [128], .var true [(.v (.int .u64)), (.v (.int .i64)), (.v (.int .i64)), (.v (.int .i64)), (.v (.int .u64)), .nil, (.v (.int .i64)), (.v (.int .u64))] false false), (256, [256], .var true [(.v (.int .u64)), (.v (.int .i64)), (.v (.int .i64)), (.v (.int .i64)), (.v (.int .u64)), (.own 1000001 true), (.v (.int .i64)), (.v (.int .u64))] false false), (1000001, [2688], .sl (.int .u8) false false)]⟩), (14, ⟨0, 66, [(2, .c (.vref 128 0)), (4, .c (.vref 256 0)), (5, .c (.lst (.int .u8) []))], [(128, [128], .var true [(.v (.int .u64)), (.v (.int .i64)), (.v (.int .i64)), (.v (.int .i64)), (.v (.int .u64)), .nil, (.v (.int .i64)), (.v (.int .u64))] false false), (256, [256], .var true [(.v (.int .u64)), (.v (.int .i64)), (.v (.int .i64)), (.v (.int .i64)), (.v (.int .u64)), (.own 1000001 true), (.v (.int .i64)), (.v (.int .u64))] false false), (1000001, [2688], .sl (.int .u8) false false)]⟩)]
noncomputable def tys_authdata_Decode : List (Nat × Ty) := []
theorem d_authdata_Decode (x : pd sig_authdata_Decode.apt) : (runT (mkE fns_authdata_Decode anns_authdata_Decode tys_authdata_Decode) F19 sig_authdata_Decode x).den = sh_authdata_Decode x := by kernel_rfl
theorem k_authdata_Decode : FnOK S.lim 19 ⟨sig_authdata_Decode, sh_authdata_Decode⟩ := fn_ok' (fns := fns_authdata_Decode) (anns := anns_authdata_Decode) (tys := tys_authdata_Decode) (.cons k_authdata_Validate (.cons k_slices_Clone___byte_byte_ (.cons k_authdata_word (.cons k_treekey_DecodeKey .nil)))) rfl rfl d_authdata_Decode
noncomputable def sig_passkeylaw14_AuthdataUnique : Sig := ⟨[.val (.list (.int .u8)), .val (.int .i64), .val (.int .i64), .val (.int .u8)], [(.one, [.v .bool])]⟩
noncomputable def fns_passkeylaw14_AuthdataUnique : List (Nat × FnT) := [(10, ⟨sig_authdata_Encode, sh_authdata_Encode⟩), (8, ⟨sig_passkeylaw14_awake, sh_passkeylaw14_awake⟩), (9, ⟨sig_passkeylaw14_made, sh_passkeylaw14_made⟩), (11, ⟨sig_passkeyref14_EncodeData, sh_passkeyref14_EncodeData⟩), (19, ⟨sig_authdata_Decode, sh_authdata_Decode⟩)]
noncomputable def anns_passkeylaw14_AuthdataUnique : List (Nat × Ann) := [(22, ⟨0, 73, [(0, .c (.lst (.int .u8) [])), (9, .c (.own 1536 false)), (11, .c (.v (.int .i64)))], [(1536, [1536], .sl (.int .u8) true false)]⟩), (1000022, ⟨0, 73, [], []⟩), (29, ⟨0, 73, [(0, .c (.lst (.int .u8) [])), (9, .c (.own 1536 false)), (11, .c (.v (.int .i64)))], [(1536, [1536], .sl (.int .u8) true false)]⟩), (12, ⟨0, 73, [(0, .c (.lst (.int .u8) [])), (9, .c (.own 1536 false))], [(1536, [1536], .sl (.int .u8) false false)]⟩)]
noncomputable def tys_passkeylaw14_AuthdataUnique : List (Nat × Ty) := [(47, (.list (.int .u8)))]
theorem d_passkeylaw14_AuthdataUnique (x : pd sig_passkeylaw14_AuthdataUnique.apt) : (runT (mkE fns_passkeylaw14_AuthdataUnique anns_passkeylaw14_AuthdataUnique tys_passkeylaw14_AuthdataUnique) F7 sig_passkeylaw14_AuthdataUnique x).den = sh_passkeylaw14_AuthdataUnique x := by kernel_rfl
theorem k_passkeylaw14_AuthdataUnique : FnOK S.lim 7 ⟨sig_passkeylaw14_AuthdataUnique, sh_passkeylaw14_AuthdataUnique⟩ := fn_ok' (fns := fns_passkeylaw14_AuthdataUnique) (anns := anns_passkeylaw14_AuthdataUnique) (tys := tys_passkeylaw14_AuthdataUnique) (.cons k_authdata_Encode (.cons k_passkeylaw14_awake (.cons k_passkeylaw14_made (.cons k_passkeyref14_EncodeData (.cons k_authdata_Decode .nil))))) rfl rfl d_passkeylaw14_AuthdataUnique
end Go.Vm.Ytengonaonfdlkaa.AuthdataUnique
