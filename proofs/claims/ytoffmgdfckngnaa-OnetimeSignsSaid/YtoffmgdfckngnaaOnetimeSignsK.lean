/- The functions of the seat Ytoffmgdfckngnaa: what they compute. PRINTED by a program of this session's. -/
import Derived.Test.YtoffmgdfckngnaaProg
import Derived.KernelRfl
import Derived.Test.YtoffmgdfckngnaaOnetimeSignsP
namespace Go.Vm.Ytoffmgdfckngnaa.OnetimeSigns
open Go.Proofs
noncomputable def phi : Phi := mkPhi [26, 11, 12, 28, 39, 42, 40, 38, 36, 27, 15, 13, 30, 43, 41, 37, 29, 16, 31, 17, 32, 18, 34, 33, 35, 21, 22, 23, 24, 25, 8]
noncomputable def own : Nat → List Nat := fun g => (([] : List (Nat × List Nat)).lookup g).getD []
noncomputable def X (rh : List Nat) : Cx := { P := Try.prog, φ := phi, own := own, h := { rehome := rh } }
noncomputable def F26 : RFunc := (funcP (X []) Try.f26).getD default
theorem c26 : funcP (X []) Try.f26 = some F26 := some_getD (by kernel_rfl)
noncomputable def F11 : RFunc := (funcP (X []) Try.f11).getD default
theorem c11 : funcP (X []) Try.f11 = some F11 := some_getD (by kernel_rfl)
noncomputable def F12 : RFunc := (funcP (X []) Try.f12).getD default
theorem c12 : funcP (X []) Try.f12 = some F12 := some_getD (by kernel_rfl)
noncomputable def F28 : RFunc := (funcP (X []) Try.f28).getD default
theorem c28 : funcP (X []) Try.f28 = some F28 := some_getD (by kernel_rfl)
noncomputable def F39 : RFunc := (funcP (X []) Try.f39).getD default
theorem c39 : funcP (X []) Try.f39 = some F39 := some_getD (by kernel_rfl)
noncomputable def F42 : RFunc := (funcP (X []) Try.f42).getD default
theorem c42 : funcP (X []) Try.f42 = some F42 := some_getD (by kernel_rfl)
noncomputable def F40 : RFunc := (funcP (X []) Try.f40).getD default
theorem c40 : funcP (X []) Try.f40 = some F40 := some_getD (by kernel_rfl)
noncomputable def F38 : RFunc := (funcP (X []) Try.f38).getD default
theorem c38 : funcP (X []) Try.f38 = some F38 := some_getD (by kernel_rfl)
noncomputable def F36 : RFunc := (funcP (X []) Try.f36).getD default
theorem c36 : funcP (X []) Try.f36 = some F36 := some_getD (by kernel_rfl)
noncomputable def F27 : RFunc := (funcP (X []) Try.f27).getD default
theorem c27 : funcP (X []) Try.f27 = some F27 := some_getD (by kernel_rfl)
noncomputable def F15 : RFunc := (funcP (X []) Try.f15).getD default
theorem c15 : funcP (X []) Try.f15 = some F15 := some_getD (by kernel_rfl)
noncomputable def F13 : RFunc := (funcP (X []) Try.f13).getD default
theorem c13 : funcP (X []) Try.f13 = some F13 := some_getD (by kernel_rfl)
noncomputable def F30 : RFunc := (funcP (X []) Try.f30).getD default
theorem c30 : funcP (X []) Try.f30 = some F30 := some_getD (by kernel_rfl)
noncomputable def F43 : RFunc := (funcP (X []) Try.f43).getD default
theorem c43 : funcP (X []) Try.f43 = some F43 := some_getD (by kernel_rfl)
noncomputable def F41 : RFunc := (funcP (X []) Try.f41).getD default
theorem c41 : funcP (X []) Try.f41 = some F41 := some_getD (by kernel_rfl)
noncomputable def F37 : RFunc := (funcP (X []) Try.f37).getD default
theorem c37 : funcP (X []) Try.f37 = some F37 := some_getD (by kernel_rfl)
noncomputable def F29 : RFunc := (funcP (X []) Try.f29).getD default
theorem c29 : funcP (X []) Try.f29 = some F29 := some_getD (by kernel_rfl)
noncomputable def F16 : RFunc := (funcP (X []) Try.f16).getD default
theorem c16 : funcP (X []) Try.f16 = some F16 := some_getD (by kernel_rfl)
noncomputable def F31 : RFunc := (funcP (X []) Try.f31).getD default
theorem c31 : funcP (X []) Try.f31 = some F31 := some_getD (by kernel_rfl)
noncomputable def F17 : RFunc := (funcP (X []) Try.f17).getD default
theorem c17 : funcP (X []) Try.f17 = some F17 := some_getD (by kernel_rfl)
noncomputable def F32 : RFunc := (funcP (X []) Try.f32).getD default
theorem c32 : funcP (X []) Try.f32 = some F32 := some_getD (by kernel_rfl)
noncomputable def F18 : RFunc := (funcP (X []) Try.f18).getD default
theorem c18 : funcP (X []) Try.f18 = some F18 := some_getD (by kernel_rfl)
noncomputable def F34 : RFunc := (funcP (X []) Try.f34).getD default
theorem c34 : funcP (X []) Try.f34 = some F34 := some_getD (by kernel_rfl)
noncomputable def F33 : RFunc := (funcP (X []) Try.f33).getD default
theorem c33 : funcP (X []) Try.f33 = some F33 := some_getD (by kernel_rfl)
noncomputable def F35 : RFunc := (funcP (X []) Try.f35).getD default
theorem c35 : funcP (X []) Try.f35 = some F35 := some_getD (by kernel_rfl)
noncomputable def F21 : RFunc := (funcP (X []) Try.f21).getD default
theorem c21 : funcP (X []) Try.f21 = some F21 := some_getD (by kernel_rfl)
noncomputable def F22 : RFunc := (funcP (X []) Try.f22).getD default
theorem c22 : funcP (X []) Try.f22 = some F22 := some_getD (by kernel_rfl)
noncomputable def F23 : RFunc := (funcP (X []) Try.f23).getD default
theorem c23 : funcP (X []) Try.f23 = some F23 := some_getD (by kernel_rfl)
noncomputable def F24 : RFunc := (funcP (X []) Try.f24).getD default
theorem c24 : funcP (X []) Try.f24 = some F24 := some_getD (by kernel_rfl)
noncomputable def F25 : RFunc := (funcP (X []) Try.f25).getD default
theorem c25 : funcP (X []) Try.f25 = some F25 := some_getD (by kernel_rfl)
noncomputable def F8 : RFunc := (funcP (X []) Try.f8).getD default
theorem c8 : funcP (X []) Try.f8 = some F8 := some_getD (by kernel_rfl)
theorem hphi : PhiOK Try.prog phi := phi_ok (by kernel_rfl)
noncomputable def prims : List (Nat × (List AV → Option Res)) := []
theorem hprims : PrimsOK Try.prog phi prims := .nil
noncomputable def S : Sys := mkS [(26, F26), (11, F11), (12, F12), (28, F28), (39, F39), (42, F42), (40, F40), (38, F38), (36, F36), (27, F27), (15, F15), (13, F13), (30, F30), (43, F43), (41, F41), (37, F37), (29, F29), (16, F16), (31, F31), (17, F17), (32, F32), (18, F18), (34, F34), (33, F33), (35, F35), (21, F21), (22, F22), (23, F23), (24, F24), (25, F25), (8, F8)] prims
theorem hS : SysOK Try.prog phi S := sys_ok (.cons Try.func26 rfl rfl c26 (.cons Try.func11 rfl rfl c11 (.cons Try.func12 rfl rfl c12 (.cons Try.func28 rfl rfl c28 (.cons Try.func39 rfl rfl c39 (.cons Try.func42 rfl rfl c42 (.cons Try.func40 rfl rfl c40 (.cons Try.func38 rfl rfl c38 (.cons Try.func36 rfl rfl c36 (.cons Try.func27 rfl rfl c27 (.cons Try.func15 rfl rfl c15 (.cons Try.func13 rfl rfl c13 (.cons Try.func30 rfl rfl c30 (.cons Try.func43 rfl rfl c43 (.cons Try.func41 rfl rfl c41 (.cons Try.func37 rfl rfl c37 (.cons Try.func29 rfl rfl c29 (.cons Try.func16 rfl rfl c16 (.cons Try.func31 rfl rfl c31 (.cons Try.func17 rfl rfl c17 (.cons Try.func32 rfl rfl c32 (.cons Try.func18 rfl rfl c18 (.cons Try.func34 rfl rfl c34 (.cons Try.func33 rfl rfl c33 (.cons Try.func35 rfl rfl c35 (.cons Try.func21 rfl rfl c21 (.cons Try.func22 rfl rfl c22 (.cons Try.func23 rfl rfl c23 (.cons Try.func24 rfl rfl c24 (.cons Try.func25 rfl rfl c25 (.cons Try.func8 rfl rfl c8 .nil))))))))))))))))))))))))))))))) hprims
noncomputable def sig_onetime_split : Sig := ⟨[.val (.int .u64)], [(.agg, [.v (.arr 18 (.int .i64))])]⟩
noncomputable def fns_onetime_split : List (Nat × FnT) := []
noncomputable def anns_onetime_split : List (Nat × Ann) := [(1000008, ⟨0, 31, [(2, .c (.vref 128 0)), (3, .c (.v (.int .i64)))], [(128, [128], .var true [(.v (.arr 18 (.int .i64)))] false false)]⟩), (8, ⟨0, 31, [(0, .c (.v (.int .u64))), (2, .c (.vref 128 0)), (3, .c (.v (.int .i64))), (5, .c (.v (.int .i64)))], [(128, [128], .var true [(.v (.arr 18 (.int .i64)))] false false)]⟩)]
noncomputable def tys_onetime_split : List (Nat × Ty) := [(16, (.int .i64)), (19, (.int .i64)), (28, (.int .i64)), (29, (.int .i64))]
theorem d_onetime_split (x : pd sig_onetime_split.apt) : (runT (mkE fns_onetime_split anns_onetime_split tys_onetime_split) F26 sig_onetime_split x).den = sh_onetime_split x := by kernel_rfl
theorem k_onetime_split : FnOK S.lim 26 ⟨sig_onetime_split, sh_onetime_split⟩ := fn_ok' (fns := fns_onetime_split) (anns := anns_onetime_split) (tys := tys_onetime_split) .nil rfl rfl d_onetime_split
noncomputable def sig_onetime_Split : Sig := ⟨[.val (.int .u64)], [(.one, [.own (.int .i64)])]⟩
noncomputable def fns_onetime_Split : List (Nat × FnT) := [(26, ⟨sig_onetime_split, sh_onetime_split⟩)]
noncomputable def anns_onetime_Split : List (Nat × Ann) := []
noncomputable def tys_onetime_Split : List (Nat × Ty) := [(6, (.int .i64))]
theorem d_onetime_Split (x : pd sig_onetime_Split.apt) : (runT (mkE fns_onetime_Split anns_onetime_Split tys_onetime_Split) F11 sig_onetime_Split x).den = sh_onetime_Split x := by kernel_rfl
theorem k_onetime_Split : FnOK S.lim 11 ⟨sig_onetime_Split, sh_onetime_Split⟩ := fn_ok' (fns := fns_onetime_Split) (anns := anns_onetime_Split) (tys := tys_onetime_Split) (.cons k_onetime_split .nil) rfl rfl d_onetime_Split
noncomputable def sig_passkeyref3_Split : Sig := ⟨[.val (.int .u64)], [(.one, [.own (.int .i64)])]⟩
noncomputable def fns_passkeyref3_Split : List (Nat × FnT) := []
noncomputable def anns_passkeyref3_Split : List (Nat × Ann) := [(1000010, ⟨0, 33, [(3, .c (.own 1000002 true)), (4, .c (.v (.int .i64)))], [(1000002, [1344], .sl (.int .i64) false false)]⟩), (10, ⟨0, 33, [(0, .c (.v (.int .u64))), (3, .c (.own 1000001 true)), (4, .c (.v (.int .i64))), (5, .c (.v (.int .i64)))], [(1000001, [1344], .sl (.int .i64) false false)]⟩)]
noncomputable def tys_passkeyref3_Split : List (Nat × Ty) := [(20, (.int .i64)), (21, (.int .i64)), (31, (.int .i64)), (32, (.int .i64))]
theorem d_passkeyref3_Split (x : pd sig_passkeyref3_Split.apt) : (runT (mkE fns_passkeyref3_Split anns_passkeyref3_Split tys_passkeyref3_Split) F12 sig_passkeyref3_Split x).den = sh_passkeyref3_Split x := by kernel_rfl
theorem k_passkeyref3_Split : FnOK S.lim 12 ⟨sig_passkeyref3_Split, sh_passkeyref3_Split⟩ := fn_ok' (fns := fns_passkeyref3_Split) (anns := anns_passkeyref3_Split) (tys := tys_passkeyref3_Split) .nil rfl rfl d_passkeyref3_Split
noncomputable def sig_digest_Words : Sig := ⟨[.val (.list (.int .u64))], [(.one, [.own (.int .u8)])]⟩
noncomputable def fns_digest_Words : List (Nat × FnT) := []
noncomputable def anns_digest_Words : List (Nat × Ann) := [(1000008, ⟨0, 28, [(3, .c (.own 1000004 true))], [(1000004, [1536], .sl (.int .u8) false false)]⟩), (8, ⟨0, 28, [(3, .c (.own 1000003 true)), (7, .c (.lst (.int .u64) [])), (8, .c (.v (.int .i64))), (9, .c (.v (.int .i64)))], [(1000003, [1536], .sl (.int .u8) false false)]⟩), (1000022, ⟨2, 28, [(3, .c (.own 1000002 true)), (7, .c (.lst (.int .u64) [])), (8, .c (.v (.int .i64))), (9, .c (.v (.int .i64)))], [(1000002, [1536], .sl (.int .u8) false false)]⟩), (22, ⟨0, 28, [(3, .c (.own 1000001 true)), (5, .c (.v (.int .u64))), (7, .c (.lst (.int .u64) [])), (8, .c (.v (.int .i64))), (9, .c (.v (.int .i64))), (13, .c (.v (.int .i64)))], [(1000001, [1536], .sl (.int .u8) false false)]⟩)]
noncomputable def tys_digest_Words : List (Nat × Ty) := [(23, (.int .u8)), (24, (.int .u8))]
theorem d_digest_Words (x : pd sig_digest_Words.apt) : (runT (mkE fns_digest_Words anns_digest_Words tys_digest_Words) F28 sig_digest_Words x).den = sh_digest_Words x := by kernel_rfl
theorem k_digest_Words : FnOK S.lim 28 ⟨sig_digest_Words, sh_digest_Words⟩ := fn_ok' (fns := fns_digest_Words) (anns := anns_digest_Words) (tys := tys_digest_Words) .nil rfl rfl d_digest_Words
noncomputable def sig_digest_little : Sig := ⟨[.val (.list (.int .u8))], [(.one, [.v (.int .u64)])]⟩
noncomputable def fns_digest_little : List (Nat × FnT) := []
noncomputable def anns_digest_little : List (Nat × Ann) := [(1000008, ⟨0, 22, [(3, .c (.v (.int .u64)))], []⟩), (8, ⟨0, 22, [(3, .c (.v (.int .u64))), (6, .c (.lst (.int .u8) [])), (7, .c (.v (.int .i64))), (8, .c (.v (.int .i64)))], []⟩)]
noncomputable def tys_digest_little : List (Nat × Ty) := []
theorem d_digest_little (x : pd sig_digest_little.apt) : (runT (mkE fns_digest_little anns_digest_little tys_digest_little) F39 sig_digest_little x).den = sh_digest_little x := by kernel_rfl
theorem k_digest_little : FnOK S.lim 39 ⟨sig_digest_little, sh_digest_little⟩ := fn_ok' (fns := fns_digest_little) (anns := anns_digest_little) (tys := tys_digest_little) .nil rfl rfl d_digest_little
noncomputable def sig_math_bits_RotateLeft64 : Sig := ⟨[.val (.int .u64), .val (.int .i64)], [(.one, [.v (.int .u64)])]⟩
noncomputable def fns_math_bits_RotateLeft64 : List (Nat × FnT) := []
noncomputable def anns_math_bits_RotateLeft64 : List (Nat × Ann) := []
noncomputable def tys_math_bits_RotateLeft64 : List (Nat × Ty) := []
theorem d_math_bits_RotateLeft64 (x : pd sig_math_bits_RotateLeft64.apt) : (runT (mkE fns_math_bits_RotateLeft64 anns_math_bits_RotateLeft64 tys_math_bits_RotateLeft64) F42 sig_math_bits_RotateLeft64 x).den = sh_math_bits_RotateLeft64 x := by kernel_rfl
theorem k_math_bits_RotateLeft64 : FnOK S.lim 42 ⟨sig_math_bits_RotateLeft64, sh_math_bits_RotateLeft64⟩ := fn_ok' (fns := fns_math_bits_RotateLeft64) (anns := anns_math_bits_RotateLeft64) (tys := tys_math_bits_RotateLeft64) .nil rfl rfl d_math_bits_RotateLeft64
noncomputable def sig___passkey_digest_state__round : Sig := ⟨[.io [.v (.int .u64), .v (.int .u64), .v (.int .u64), .v (.int .u64)] [.v (.int .u64), .v (.int .u64), .v (.int .u64), .v (.int .u64)], .val (.int .i64)], []⟩
noncomputable def fns___passkey_digest_state__round : List (Nat × FnT) := [(42, ⟨sig_math_bits_RotateLeft64, sh_math_bits_RotateLeft64⟩)]
noncomputable def anns___passkey_digest_state__round : List (Nat × Ann) := [(1000003, ⟨0, 120, [], [(0, [0], .var true [(.v (.int .u64)), (.v (.int .u64)), (.v (.int .u64)), (.v (.int .u64))] false true)]⟩), (3, ⟨0, 120, [(0, .c (.vref 0 0)), (4, .c (.v (.int .i64))), (5, .c (.v (.int .i64)))], [(0, [0], .var true [(.v (.int .u64)), (.v (.int .u64)), (.v (.int .u64)), (.v (.int .u64))] false true)]⟩)]
noncomputable def tys___passkey_digest_state__round : List (Nat × Ty) := []
theorem d___passkey_digest_state__round (x : pd sig___passkey_digest_state__round.apt) : (runT (mkE fns___passkey_digest_state__round anns___passkey_digest_state__round tys___passkey_digest_state__round) F40 sig___passkey_digest_state__round x).den = sh___passkey_digest_state__round x := by kernel_rfl
theorem k___passkey_digest_state__round : FnOK S.lim 40 ⟨sig___passkey_digest_state__round, sh___passkey_digest_state__round⟩ := fn_ok' (fns := fns___passkey_digest_state__round) (anns := anns___passkey_digest_state__round) (tys := tys___passkey_digest_state__round) (.cons k_math_bits_RotateLeft64 .nil) rfl rfl d___passkey_digest_state__round
noncomputable def sig___passkey_digest_state__word : Sig := ⟨[.io [.v (.int .u64), .v (.int .u64), .v (.int .u64), .v (.int .u64)] [.v (.int .u64), .v (.int .u64), .v (.int .u64), .v (.int .u64)], .val (.int .u64)], []⟩
noncomputable def fns___passkey_digest_state__word : List (Nat × FnT) := [(40, ⟨sig___passkey_digest_state__round, sh___passkey_digest_state__round⟩)]
noncomputable def anns___passkey_digest_state__word : List (Nat × Ann) := []
noncomputable def tys___passkey_digest_state__word : List (Nat × Ty) := []
theorem d___passkey_digest_state__word (x : pd sig___passkey_digest_state__word.apt) : (runT (mkE fns___passkey_digest_state__word anns___passkey_digest_state__word tys___passkey_digest_state__word) F38 sig___passkey_digest_state__word x).den = sh___passkey_digest_state__word x := by kernel_rfl
theorem k___passkey_digest_state__word : FnOK S.lim 38 ⟨sig___passkey_digest_state__word, sh___passkey_digest_state__word⟩ := fn_ok' (fns := fns___passkey_digest_state__word) (anns := anns___passkey_digest_state__word) (tys := tys___passkey_digest_state__word) (.cons k___passkey_digest_state__round .nil) rfl rfl d___passkey_digest_state__word
noncomputable def sig_digest_Sum : Sig := ⟨[.val (.int .u64), .val (.int .u64), .val (.list (.int .u8))], [(.one, [.v (.int .u64)])]⟩
noncomputable def fns_digest_Sum : List (Nat × FnT) := [(39, ⟨sig_digest_little, sh_digest_little⟩), (40, ⟨sig___passkey_digest_state__round, sh___passkey_digest_state__round⟩), (38, ⟨sig___passkey_digest_state__word, sh___passkey_digest_state__word⟩)]
noncomputable def anns_digest_Sum : List (Nat × Ann) := [(1000008, ⟨0, 67, [(2, .c (.lst (.int .u8) [])), (7, .c (.vref 1152 0)), (8, .c (.v (.int .u64)))], [(1152, [1152], .var true [(.v (.int .u64)), (.v (.int .u64)), (.v (.int .u64)), (.v (.int .u64))] false false)]⟩), (8, ⟨0, 67, [(2, .c (.lst (.int .u8) [])), (7, .c (.vref 1152 0)), (8, .c (.v (.int .u64)))], [(1152, [1152], .var true [(.v (.int .u64)), (.v (.int .u64)), (.v (.int .u64)), (.v (.int .u64))] false false)]⟩)]
noncomputable def tys_digest_Sum : List (Nat × Ty) := []
theorem d_digest_Sum (x : pd sig_digest_Sum.apt) : (runT (mkE fns_digest_Sum anns_digest_Sum tys_digest_Sum) F36 sig_digest_Sum x).den = sh_digest_Sum x := by kernel_rfl
theorem k_digest_Sum : FnOK S.lim 36 ⟨sig_digest_Sum, sh_digest_Sum⟩ := fn_ok' (fns := fns_digest_Sum) (anns := anns_digest_Sum) (tys := tys_digest_Sum) (.cons k_digest_little (.cons k___passkey_digest_state__round (.cons k___passkey_digest_state__word .nil))) rfl rfl d_digest_Sum
noncomputable def sig_digest_Hash : Sig := ⟨[.val (.int .i64), .val (.list (.int .u8))], [(.one, [.v (.int .u64)])]⟩
noncomputable def fns_digest_Hash : List (Nat × FnT) := [(36, ⟨sig_digest_Sum, sh_digest_Sum⟩)]
noncomputable def anns_digest_Hash : List (Nat × Ann) := []
noncomputable def tys_digest_Hash : List (Nat × Ty) := []
theorem d_digest_Hash (x : pd sig_digest_Hash.apt) : (runT (mkE fns_digest_Hash anns_digest_Hash tys_digest_Hash) F27 sig_digest_Hash x).den = sh_digest_Hash x := by kernel_rfl
theorem k_digest_Hash : FnOK S.lim 27 ⟨sig_digest_Hash, sh_digest_Hash⟩ := fn_ok' (fns := fns_digest_Hash) (anns := anns_digest_Hash) (tys := tys_digest_Hash) (.cons k_digest_Sum .nil) rfl rfl d_digest_Hash
noncomputable def sig_onetime_Run : Sig := ⟨[.val (.int .i64), .val (.int .i64), .val (.int .i64), .val (.int .i64), .val (.int .u64)], [(.one, [.v (.int .u64)])]⟩
noncomputable def fns_onetime_Run : List (Nat × FnT) := [(28, ⟨sig_digest_Words, sh_digest_Words⟩), (27, ⟨sig_digest_Hash, sh_digest_Hash⟩)]
noncomputable def anns_onetime_Run : List (Nat × Ann) := [(1000006, ⟨0, 31, [(4, .c (.v (.int .u64)))], []⟩), (6, ⟨0, 31, [(0, .c (.v (.int .i64))), (1, .c (.v (.int .i64))), (3, .c (.v (.int .i64))), (4, .c (.v (.int .u64))), (11, .c (.v (.int .i64)))], []⟩)]
noncomputable def tys_onetime_Run : List (Nat × Ty) := [(27, (.int .u64))]
theorem d_onetime_Run (x : pd sig_onetime_Run.apt) : (runT (mkE fns_onetime_Run anns_onetime_Run tys_onetime_Run) F15 sig_onetime_Run x).den = sh_onetime_Run x := by kernel_rfl
theorem k_onetime_Run : FnOK S.lim 15 ⟨sig_onetime_Run, sh_onetime_Run⟩ := fn_ok' (fns := fns_onetime_Run) (anns := anns_onetime_Run) (tys := tys_onetime_Run) (.cons k_digest_Words (.cons k_digest_Hash .nil)) rfl rfl d_onetime_Run
noncomputable def sig_passkeylaw3_awake : Sig := ⟨[], [(.one, [.v .bool])]⟩
noncomputable def fns_passkeylaw3_awake : List (Nat × FnT) := [(11, ⟨sig_onetime_Split, sh_onetime_Split⟩), (15, ⟨sig_onetime_Run, sh_onetime_Run⟩)]
noncomputable def anns_passkeylaw3_awake : List (Nat × Ann) := []
noncomputable def tys_passkeylaw3_awake : List (Nat × Ty) := []
theorem d_passkeylaw3_awake (x : pd sig_passkeylaw3_awake.apt) : (runT (mkE fns_passkeylaw3_awake anns_passkeylaw3_awake tys_passkeylaw3_awake) F13 sig_passkeylaw3_awake x).den = sh_passkeylaw3_awake x := by kernel_rfl
theorem k_passkeylaw3_awake : FnOK S.lim 13 ⟨sig_passkeylaw3_awake, sh_passkeylaw3_awake⟩ := fn_ok' (fns := fns_passkeylaw3_awake) (anns := anns_passkeylaw3_awake) (tys := tys_passkeylaw3_awake) (.cons k_onetime_Split (.cons k_onetime_Run .nil)) rfl rfl d_passkeylaw3_awake
noncomputable def sig_passkeyref1_Words : Sig := ⟨[.val (.list (.int .u64))], [(.one, [.own (.int .u8)])]⟩
noncomputable def fns_passkeyref1_Words : List (Nat × FnT) := []
noncomputable def anns_passkeyref1_Words : List (Nat × Ann) := [(1000008, ⟨0, 29, [(3, .c (.own 1000004 true))], [(1000004, [1728], .sl (.int .u8) false false)]⟩), (8, ⟨0, 29, [(0, .c (.lst (.int .u64) [])), (3, .c (.own 1000003 true)), (4, .c (.v (.int .i64)))], [(1000003, [1728], .sl (.int .u8) false false)]⟩), (1000020, ⟨2, 29, [(0, .c (.lst (.int .u64) [])), (3, .c (.own 1000002 true)), (4, .c (.v (.int .i64)))], [(1000002, [1728], .sl (.int .u8) false false)]⟩), (20, ⟨0, 29, [(0, .c (.lst (.int .u64) [])), (3, .c (.own 1000001 true)), (4, .c (.v (.int .i64))), (5, .c (.v (.int .i64)))], [(1000001, [1728], .sl (.int .u8) false false)]⟩)]
noncomputable def tys_passkeyref1_Words : List (Nat × Ty) := [(26, (.int .u8)), (27, (.int .u8))]
theorem d_passkeyref1_Words (x : pd sig_passkeyref1_Words.apt) : (runT (mkE fns_passkeyref1_Words anns_passkeyref1_Words tys_passkeyref1_Words) F30 sig_passkeyref1_Words x).den = sh_passkeyref1_Words x := by kernel_rfl
theorem k_passkeyref1_Words : FnOK S.lim 30 ⟨sig_passkeyref1_Words, sh_passkeyref1_Words⟩ := fn_ok' (fns := fns_passkeyref1_Words) (anns := anns_passkeyref1_Words) (tys := tys_passkeyref1_Words) .nil rfl rfl d_passkeyref1_Words
noncomputable def sig_passkeyref1_rotl : Sig := ⟨[.val (.int .u64), .val (.int .u64)], [(.one, [.v (.int .u64)])]⟩
noncomputable def fns_passkeyref1_rotl : List (Nat × FnT) := []
noncomputable def anns_passkeyref1_rotl : List (Nat × Ann) := []
noncomputable def tys_passkeyref1_rotl : List (Nat × Ty) := []
theorem d_passkeyref1_rotl (x : pd sig_passkeyref1_rotl.apt) : (runT (mkE fns_passkeyref1_rotl anns_passkeyref1_rotl tys_passkeyref1_rotl) F43 sig_passkeyref1_rotl x).den = sh_passkeyref1_rotl x := by kernel_rfl
theorem k_passkeyref1_rotl : FnOK S.lim 43 ⟨sig_passkeyref1_rotl, sh_passkeyref1_rotl⟩ := fn_ok' (fns := fns_passkeyref1_rotl) (anns := anns_passkeyref1_rotl) (tys := tys_passkeyref1_rotl) .nil rfl rfl d_passkeyref1_rotl
noncomputable def sig_passkeyref1_round : Sig := ⟨[.val (.arr 4 (.int .u64))], [(.agg, [.v (.arr 4 (.int .u64))])]⟩
noncomputable def fns_passkeyref1_round : List (Nat × FnT) := [(43, ⟨sig_passkeyref1_rotl, sh_passkeyref1_rotl⟩)]
noncomputable def anns_passkeyref1_round : List (Nat × Ann) := []
noncomputable def tys_passkeyref1_round : List (Nat × Ty) := [(3, (.int .u64)), (5, (.int .u64)), (8, (.int .u64)), (9, (.int .u64)), (12, (.int .u64)), (15, (.int .u64)), (16, (.int .u64)), (19, (.int .u64)), (20, (.int .u64)), (22, (.int .u64)), (25, (.int .u64)), (26, (.int .u64)), (29, (.int .u64)), (32, (.int .u64)), (33, (.int .u64)), (35, (.int .u64)), (38, (.int .u64)), (39, (.int .u64)), (42, (.int .u64)), (45, (.int .u64)), (46, (.int .u64)), (48, (.int .u64)), (51, (.int .u64)), (52, (.int .u64)), (55, (.int .u64)), (58, (.int .u64)), (59, (.int .u64)), (62, (.int .u64))]
theorem d_passkeyref1_round (x : pd sig_passkeyref1_round.apt) : (runT (mkE fns_passkeyref1_round anns_passkeyref1_round tys_passkeyref1_round) F41 sig_passkeyref1_round x).den = sh_passkeyref1_round x := by kernel_rfl
theorem k_passkeyref1_round : FnOK S.lim 41 ⟨sig_passkeyref1_round, sh_passkeyref1_round⟩ := fn_ok' (fns := fns_passkeyref1_round) (anns := anns_passkeyref1_round) (tys := tys_passkeyref1_round) (.cons k_passkeyref1_rotl .nil) rfl rfl d_passkeyref1_round
noncomputable def sig_passkeyref1_Sum : Sig := ⟨[.val (.int .u64), .val (.int .u64), .val (.list (.int .u8))], [(.one, [.v (.int .u64)])]⟩
noncomputable def fns_passkeyref1_Sum : List (Nat × FnT) := [(41, ⟨sig_passkeyref1_round, sh_passkeyref1_round⟩)]
noncomputable def anns_passkeyref1_Sum : List (Nat × Ann) := [(30, ⟨0, 86, [(2, .c (.lst (.int .u8) [])), (7, .c (.vref 448 0)), (8, .c (.v (.int .i64))), (9, .c (.v (.int .u64))), (10, .c (.v (.int .i64)))], [(448, [448], .var true [(.v (.arr 4 (.int .u64)))] false false)]⟩), (1000023, ⟨2, 86, [(2, .c (.lst (.int .u8) [])), (7, .c (.vref 448 0)), (8, .c (.v (.int .i64))), (9, .c (.v (.int .u64)))], [(448, [448], .var true [(.v (.arr 4 (.int .u64)))] false false)]⟩), (34, ⟨0, 86, [(2, .c (.lst (.int .u8) [])), (7, .c (.vref 448 0)), (8, .c (.v (.int .i64))), (9, .c (.v (.int .u64))), (10, .c (.v (.int .i64))), (11, .c (.v (.int .u8)))], [(448, [448], .var true [(.v (.arr 4 (.int .u64)))] false false)]⟩), (1000008, ⟨0, 86, [(7, .c (.vref 448 0))], [(448, [448], .var true [(.v (.arr 4 (.int .u64)))] false false)]⟩), (23, ⟨0, 86, [(2, .c (.lst (.int .u8) [])), (7, .c (.vref 448 0)), (8, .c (.v (.int .i64))), (9, .c (.v (.int .u64))), (10, .c (.v (.int .i64)))], [(448, [448], .var true [(.v (.arr 4 (.int .u64)))] false false)]⟩), (8, ⟨0, 86, [(2, .c (.lst (.int .u8) [])), (7, .c (.vref 448 0)), (8, .c (.v (.int .i64)))], [(448, [448], .var true [(.v (.arr 4 (.int .u64)))] false false)]⟩)]
noncomputable def tys_passkeyref1_Sum : List (Nat × Ty) := [(53, (.int .u64)), (57, (.int .u64)), (61, (.int .u64)), (65, (.int .u64)), (66, (.int .u64)), (69, (.int .u64)), (75, (.int .u64)), (77, (.int .u64)), (80, (.int .u64)), (83, (.int .u64))]
theorem d_passkeyref1_Sum (x : pd sig_passkeyref1_Sum.apt) : (runT (mkE fns_passkeyref1_Sum anns_passkeyref1_Sum tys_passkeyref1_Sum) F37 sig_passkeyref1_Sum x).den = sh_passkeyref1_Sum x := by kernel_rfl
theorem k_passkeyref1_Sum : FnOK S.lim 37 ⟨sig_passkeyref1_Sum, sh_passkeyref1_Sum⟩ := fn_ok' (fns := fns_passkeyref1_Sum) (anns := anns_passkeyref1_Sum) (tys := tys_passkeyref1_Sum) (.cons k_passkeyref1_round .nil) rfl rfl d_passkeyref1_Sum
noncomputable def sig_passkeyref1_Hash : Sig := ⟨[.val (.int .i64), .val (.list (.int .u8))], [(.one, [.v (.int .u64)])]⟩
noncomputable def fns_passkeyref1_Hash : List (Nat × FnT) := [(37, ⟨sig_passkeyref1_Sum, sh_passkeyref1_Sum⟩)]
noncomputable def anns_passkeyref1_Hash : List (Nat × Ann) := []
noncomputable def tys_passkeyref1_Hash : List (Nat × Ty) := []
theorem d_passkeyref1_Hash (x : pd sig_passkeyref1_Hash.apt) : (runT (mkE fns_passkeyref1_Hash anns_passkeyref1_Hash tys_passkeyref1_Hash) F29 sig_passkeyref1_Hash x).den = sh_passkeyref1_Hash x := by kernel_rfl
theorem k_passkeyref1_Hash : FnOK S.lim 29 ⟨sig_passkeyref1_Hash, sh_passkeyref1_Hash⟩ := fn_ok' (fns := fns_passkeyref1_Hash) (anns := anns_passkeyref1_Hash) (tys := tys_passkeyref1_Hash) (.cons k_passkeyref1_Sum .nil) rfl rfl d_passkeyref1_Hash
noncomputable def sig_passkeyref3_Run : Sig := ⟨[.val (.int .i64), .val (.int .i64), .val (.int .i64), .val (.int .i64), .val (.int .u64)], [(.one, [.v (.int .u64)])]⟩
noncomputable def fns_passkeyref3_Run : List (Nat × FnT) := [(30, ⟨sig_passkeyref1_Words, sh_passkeyref1_Words⟩), (29, ⟨sig_passkeyref1_Hash, sh_passkeyref1_Hash⟩)]
noncomputable def anns_passkeyref3_Run : List (Nat × Ann) := [(1000006, ⟨0, 31, [(4, .c (.v (.int .u64)))], []⟩), (6, ⟨0, 31, [(0, .c (.v (.int .i64))), (1, .c (.v (.int .i64))), (3, .c (.v (.int .i64))), (4, .c (.v (.int .u64))), (11, .c (.v (.int .i64)))], []⟩)]
noncomputable def tys_passkeyref3_Run : List (Nat × Ty) := [(27, (.int .u64))]
theorem d_passkeyref3_Run (x : pd sig_passkeyref3_Run.apt) : (runT (mkE fns_passkeyref3_Run anns_passkeyref3_Run tys_passkeyref3_Run) F16 sig_passkeyref3_Run x).den = sh_passkeyref3_Run x := by kernel_rfl
theorem k_passkeyref3_Run : FnOK S.lim 16 ⟨sig_passkeyref3_Run, sh_passkeyref3_Run⟩ := fn_ok' (fns := fns_passkeyref3_Run) (anns := anns_passkeyref3_Run) (tys := tys_passkeyref3_Run) (.cons k_passkeyref1_Words (.cons k_passkeyref1_Hash .nil)) rfl rfl d_passkeyref3_Run
noncomputable def sig_digest_Mac : Sig := ⟨[.val (.int .u64), .val (.int .i64), .val (.list (.int .u8))], [(.one, [.v (.int .u64)])]⟩
noncomputable def fns_digest_Mac : List (Nat × FnT) := [(36, ⟨sig_digest_Sum, sh_digest_Sum⟩)]
noncomputable def anns_digest_Mac : List (Nat × Ann) := []
noncomputable def tys_digest_Mac : List (Nat × Ty) := []
theorem d_digest_Mac (x : pd sig_digest_Mac.apt) : (runT (mkE fns_digest_Mac anns_digest_Mac tys_digest_Mac) F31 sig_digest_Mac x).den = sh_digest_Mac x := by kernel_rfl
theorem k_digest_Mac : FnOK S.lim 31 ⟨sig_digest_Mac, sh_digest_Mac⟩ := fn_ok' (fns := fns_digest_Mac) (anns := anns_digest_Mac) (tys := tys_digest_Mac) (.cons k_digest_Sum .nil) rfl rfl d_digest_Mac
noncomputable def sig_onetime_Secret : Sig := ⟨[.val (.int .u64), .val (.int .i64), .val (.int .i64)], [(.one, [.v (.int .u64)])]⟩
noncomputable def fns_onetime_Secret : List (Nat × FnT) := [(28, ⟨sig_digest_Words, sh_digest_Words⟩), (31, ⟨sig_digest_Mac, sh_digest_Mac⟩)]
noncomputable def anns_onetime_Secret : List (Nat × Ann) := []
noncomputable def tys_onetime_Secret : List (Nat × Ty) := [(12, (.int .u64))]
theorem d_onetime_Secret (x : pd sig_onetime_Secret.apt) : (runT (mkE fns_onetime_Secret anns_onetime_Secret tys_onetime_Secret) F17 sig_onetime_Secret x).den = sh_onetime_Secret x := by kernel_rfl
theorem k_onetime_Secret : FnOK S.lim 17 ⟨sig_onetime_Secret, sh_onetime_Secret⟩ := fn_ok' (fns := fns_onetime_Secret) (anns := anns_onetime_Secret) (tys := tys_onetime_Secret) (.cons k_digest_Words (.cons k_digest_Mac .nil)) rfl rfl d_onetime_Secret
noncomputable def sig_passkeyref1_Mac : Sig := ⟨[.val (.int .u64), .val (.int .i64), .val (.list (.int .u8))], [(.one, [.v (.int .u64)])]⟩
noncomputable def fns_passkeyref1_Mac : List (Nat × FnT) := [(37, ⟨sig_passkeyref1_Sum, sh_passkeyref1_Sum⟩)]
noncomputable def anns_passkeyref1_Mac : List (Nat × Ann) := []
noncomputable def tys_passkeyref1_Mac : List (Nat × Ty) := []
theorem d_passkeyref1_Mac (x : pd sig_passkeyref1_Mac.apt) : (runT (mkE fns_passkeyref1_Mac anns_passkeyref1_Mac tys_passkeyref1_Mac) F32 sig_passkeyref1_Mac x).den = sh_passkeyref1_Mac x := by kernel_rfl
theorem k_passkeyref1_Mac : FnOK S.lim 32 ⟨sig_passkeyref1_Mac, sh_passkeyref1_Mac⟩ := fn_ok' (fns := fns_passkeyref1_Mac) (anns := anns_passkeyref1_Mac) (tys := tys_passkeyref1_Mac) (.cons k_passkeyref1_Sum .nil) rfl rfl d_passkeyref1_Mac
noncomputable def sig_passkeyref3_Secret : Sig := ⟨[.val (.int .u64), .val (.int .i64), .val (.int .i64)], [(.one, [.v (.int .u64)])]⟩
noncomputable def fns_passkeyref3_Secret : List (Nat × FnT) := [(30, ⟨sig_passkeyref1_Words, sh_passkeyref1_Words⟩), (32, ⟨sig_passkeyref1_Mac, sh_passkeyref1_Mac⟩)]
noncomputable def anns_passkeyref3_Secret : List (Nat × Ann) := []
noncomputable def tys_passkeyref3_Secret : List (Nat × Ty) := [(12, (.int .u64))]
theorem d_passkeyref3_Secret (x : pd sig_passkeyref3_Secret.apt) : (runT (mkE fns_passkeyref3_Secret anns_passkeyref3_Secret tys_passkeyref3_Secret) F18 sig_passkeyref3_Secret x).den = sh_passkeyref3_Secret x := by kernel_rfl
theorem k_passkeyref3_Secret : FnOK S.lim 18 ⟨sig_passkeyref3_Secret, sh_passkeyref3_Secret⟩ := fn_ok' (fns := fns_passkeyref3_Secret) (anns := anns_passkeyref3_Secret) (tys := tys_passkeyref3_Secret) (.cons k_passkeyref1_Words (.cons k_passkeyref1_Mac .nil)) rfl rfl d_passkeyref3_Secret
noncomputable def sig_onetime_at : Sig := ⟨[.val (.int .u64), .val (.int .i64), .val (.arr 18 (.int .i64))], [(.agg, [.v (.arr 18 (.int .u64))])]⟩
noncomputable def fns_onetime_at : List (Nat × FnT) := [(15, ⟨sig_onetime_Run, sh_onetime_Run⟩), (17, ⟨sig_onetime_Secret, sh_onetime_Secret⟩)]
noncomputable def anns_onetime_at : List (Nat × Ann) := [(1000006, ⟨0, 25, [(6, .c (.vref 384 0))], [(384, [384], .var true [(.v (.arr 18 (.int .u64)))] false false)]⟩), (6, ⟨0, 25, [(0, .c (.v (.int .u64))), (1, .c (.v (.int .i64))), (5, .c (.vref 320 0)), (6, .c (.vref 384 0)), (8, .c (.v (.int .i64)))], [(320, [320], .var true [(.v (.arr 18 (.int .i64)))] false false), (384, [384], .var true [(.v (.arr 18 (.int .u64)))] false false)]⟩)]
noncomputable def tys_onetime_at : List (Nat × Ty) := [(15, (.int .i64)), (22, (.int .u64))]
theorem d_onetime_at (x : pd sig_onetime_at.apt) : (runT (mkE fns_onetime_at anns_onetime_at tys_onetime_at) F34 sig_onetime_at x).den = sh_onetime_at x := by kernel_rfl
theorem k_onetime_at : FnOK S.lim 34 ⟨sig_onetime_at, sh_onetime_at⟩ := fn_ok' (fns := fns_onetime_at) (anns := anns_onetime_at) (tys := tys_onetime_at) (.cons k_onetime_Run (.cons k_onetime_Secret .nil)) rfl rfl d_onetime_at
noncomputable def sig_onetime_word : Sig := ⟨[.val (.int .i64), .val (.arr 18 (.int .u64))], [(.one, [.v (.int .u64)])]⟩
noncomputable def fns_onetime_word : List (Nat × FnT) := [(28, ⟨sig_digest_Words, sh_digest_Words⟩), (27, ⟨sig_digest_Hash, sh_digest_Hash⟩)]
noncomputable def anns_onetime_word : List (Nat × Ann) := []
noncomputable def tys_onetime_word : List (Nat × Ty) := [(7, (.int .u64)), (8, (.int .u64)), (9, (.int .u64))]
theorem d_onetime_word (x : pd sig_onetime_word.apt) : (runT (mkE fns_onetime_word anns_onetime_word tys_onetime_word) F33 sig_onetime_word x).den = sh_onetime_word x := by kernel_rfl
theorem k_onetime_word : FnOK S.lim 33 ⟨sig_onetime_word, sh_onetime_word⟩ := fn_ok' (fns := fns_onetime_word) (anns := anns_onetime_word) (tys := tys_onetime_word) (.cons k_digest_Words (.cons k_digest_Hash .nil)) rfl rfl d_onetime_word
noncomputable def sig_passkeyref3_ends : Sig := ⟨[.val (.int .i64), .val (.list (.int .u64))], [(.one, [.v (.int .u64)])]⟩
noncomputable def fns_passkeyref3_ends : List (Nat × FnT) := [(30, ⟨sig_passkeyref1_Words, sh_passkeyref1_Words⟩), (29, ⟨sig_passkeyref1_Hash, sh_passkeyref1_Hash⟩)]
noncomputable def anns_passkeyref3_ends : List (Nat × Ann) := []
noncomputable def tys_passkeyref3_ends : List (Nat × Ty) := [(7, (.int .u64)), (11, (.int .u8))]
theorem d_passkeyref3_ends (x : pd sig_passkeyref3_ends.apt) : (runT (mkE fns_passkeyref3_ends anns_passkeyref3_ends tys_passkeyref3_ends) F35 sig_passkeyref3_ends x).den = sh_passkeyref3_ends x := by kernel_rfl
theorem k_passkeyref3_ends : FnOK S.lim 35 ⟨sig_passkeyref3_ends, sh_passkeyref3_ends⟩ := fn_ok' (fns := fns_passkeyref3_ends) (anns := anns_passkeyref3_ends) (tys := tys_passkeyref3_ends) (.cons k_passkeyref1_Words (.cons k_passkeyref1_Hash .nil)) rfl rfl d_passkeyref3_ends
noncomputable def sig_onetime_Sign : Sig := ⟨[.val (.int .u64), .val (.int .i64), .val (.int .u64)], [(.one, [.own (.int .u64)])]⟩
noncomputable def fns_onetime_Sign : List (Nat × FnT) := [(26, ⟨sig_onetime_split, sh_onetime_split⟩), (34, ⟨sig_onetime_at, sh_onetime_at⟩)]
noncomputable def anns_onetime_Sign : List (Nat × Ann) := []
noncomputable def tys_onetime_Sign : List (Nat × Ty) := [(13, (.int .u64))]
theorem d_onetime_Sign (x : pd sig_onetime_Sign.apt) : (runT (mkE fns_onetime_Sign anns_onetime_Sign tys_onetime_Sign) F21 sig_onetime_Sign x).den = sh_onetime_Sign x := by kernel_rfl
theorem k_onetime_Sign : FnOK S.lim 21 ⟨sig_onetime_Sign, sh_onetime_Sign⟩ := fn_ok' (fns := fns_onetime_Sign) (anns := anns_onetime_Sign) (tys := tys_onetime_Sign) (.cons k_onetime_split (.cons k_onetime_at .nil)) rfl rfl d_onetime_Sign
noncomputable def sig_passkeyref3_SignLeaf : Sig := ⟨[.val (.int .u64), .val (.int .i64), .val (.int .u64)], [(.one, [.own (.int .u64)])]⟩
noncomputable def fns_passkeyref3_SignLeaf : List (Nat × FnT) := [(12, ⟨sig_passkeyref3_Split, sh_passkeyref3_Split⟩), (16, ⟨sig_passkeyref3_Run, sh_passkeyref3_Run⟩), (18, ⟨sig_passkeyref3_Secret, sh_passkeyref3_Secret⟩)]
noncomputable def anns_passkeyref3_SignLeaf : List (Nat × Ann) := [(1000010, ⟨0, 31, [(8, .c (.own 1000002 true))], [(1000002, [1856], .sl (.int .u64) false false)]⟩), (10, ⟨0, 31, [(0, .c (.v (.int .u64))), (1, .c (.v (.int .i64))), (7, .c (.own 704 false)), (8, .c (.own 1000001 true)), (9, .c (.v (.int .i64)))], [(704, [704], .sl (.int .i64) false false), (1000001, [1856], .sl (.int .u64) false false)]⟩)]
noncomputable def tys_passkeyref3_SignLeaf : List (Nat × Ty) := [(28, (.int .u64)), (29, (.int .u64))]
theorem d_passkeyref3_SignLeaf (x : pd sig_passkeyref3_SignLeaf.apt) : (runT (mkE fns_passkeyref3_SignLeaf anns_passkeyref3_SignLeaf tys_passkeyref3_SignLeaf) F22 sig_passkeyref3_SignLeaf x).den = sh_passkeyref3_SignLeaf x := by kernel_rfl
theorem k_passkeyref3_SignLeaf : FnOK S.lim 22 ⟨sig_passkeyref3_SignLeaf, sh_passkeyref3_SignLeaf⟩ := fn_ok' (fns := fns_passkeyref3_SignLeaf) (anns := anns_passkeyref3_SignLeaf) (tys := tys_passkeyref3_SignLeaf) (.cons k_passkeyref3_Split (.cons k_passkeyref3_Run (.cons k_passkeyref3_Secret .nil))) rfl rfl d_passkeyref3_SignLeaf
noncomputable def sig_onetime_Recover : Sig := ⟨[.val (.int .i64), .val (.int .u64), .val (.list (.int .u64))], [(.one, [.v (.int .u64)]), (.one, [.v (.int .i64)])]⟩
noncomputable def fns_onetime_Recover : List (Nat × FnT) := [(26, ⟨sig_onetime_split, sh_onetime_split⟩), (15, ⟨sig_onetime_Run, sh_onetime_Run⟩), (33, ⟨sig_onetime_word, sh_onetime_word⟩)]
noncomputable def anns_onetime_Recover : List (Nat × Ann) := [(1000018, ⟨0, 35, [(0, .c (.v (.int .i64))), (9, .c (.vref 576 0))], [(576, [576], .var true [(.v (.arr 18 (.int .u64)))] false false)]⟩), (18, ⟨0, 35, [(0, .c (.v (.int .i64))), (2, .c (.lst (.int .u64) [])), (8, .c (.vref 512 0)), (9, .c (.vref 576 0)), (16, .c (.v (.int .i64)))], [(512, [512], .var true [(.v (.arr 18 (.int .i64)))] false false), (576, [576], .var true [(.v (.arr 18 (.int .u64)))] false false)]⟩)]
noncomputable def tys_onetime_Recover : List (Nat × Ty) := [(23, (.int .i64)), (30, (.int .u64))]
theorem d_onetime_Recover (x : pd sig_onetime_Recover.apt) : (runT (mkE fns_onetime_Recover anns_onetime_Recover tys_onetime_Recover) F23 sig_onetime_Recover x).den = sh_onetime_Recover x := by kernel_rfl
theorem k_onetime_Recover : FnOK S.lim 23 ⟨sig_onetime_Recover, sh_onetime_Recover⟩ := fn_ok' (fns := fns_onetime_Recover) (anns := anns_onetime_Recover) (tys := tys_onetime_Recover) (.cons k_onetime_split (.cons k_onetime_Run (.cons k_onetime_word .nil))) rfl rfl d_onetime_Recover
noncomputable def sig_passkeyref3_Recover : Sig := ⟨[.val (.int .i64), .val (.int .u64), .val (.list (.int .u64))], [(.one, [.v (.int .u64)]), (.one, [.v (.int .i64)])]⟩
noncomputable def fns_passkeyref3_Recover : List (Nat × FnT) := [(12, ⟨sig_passkeyref3_Split, sh_passkeyref3_Split⟩), (16, ⟨sig_passkeyref3_Run, sh_passkeyref3_Run⟩), (35, ⟨sig_passkeyref3_ends, sh_passkeyref3_ends⟩)]
noncomputable def anns_passkeyref3_Recover : List (Nat × Ann) := [(1000018, ⟨0, 37, [(0, .c (.v (.int .i64))), (9, .c (.own 1000002 true))], [(1000002, [2112], .sl (.int .u64) false false)]⟩), (18, ⟨0, 37, [(0, .c (.v (.int .i64))), (2, .c (.lst (.int .u64) [])), (8, .c (.own 960 false)), (9, .c (.own 1000001 true)), (10, .c (.v (.int .i64)))], [(960, [960], .sl (.int .i64) false false), (1000001, [2112], .sl (.int .u64) false false)]⟩)]
noncomputable def tys_passkeyref3_Recover : List (Nat × Ty) := [(32, (.int .u64)), (33, (.int .u64))]
theorem d_passkeyref3_Recover (x : pd sig_passkeyref3_Recover.apt) : (runT (mkE fns_passkeyref3_Recover anns_passkeyref3_Recover tys_passkeyref3_Recover) F24 sig_passkeyref3_Recover x).den = sh_passkeyref3_Recover x := by kernel_rfl
theorem k_passkeyref3_Recover : FnOK S.lim 24 ⟨sig_passkeyref3_Recover, sh_passkeyref3_Recover⟩ := fn_ok' (fns := fns_passkeyref3_Recover) (anns := anns_passkeyref3_Recover) (tys := tys_passkeyref3_Recover) (.cons k_passkeyref3_Split (.cons k_passkeyref3_Run (.cons k_passkeyref3_ends .nil))) rfl rfl d_passkeyref3_Recover
noncomputable def sig_passkeyref3_SameWords : Sig := ⟨[.val (.list (.int .u64)), .val (.list (.int .u64))], [(.one, [.v .bool])]⟩
noncomputable def fns_passkeyref3_SameWords : List (Nat × FnT) := []
noncomputable def anns_passkeyref3_SameWords : List (Nat × Ann) := [(1000014, ⟨0, 26, [], []⟩), (14, ⟨0, 26, [(0, .c (.lst (.int .u64) [])), (1, .c (.lst (.int .u64) [])), (5, .c (.v (.int .i64)))], []⟩)]
noncomputable def tys_passkeyref3_SameWords : List (Nat × Ty) := []
theorem d_passkeyref3_SameWords (x : pd sig_passkeyref3_SameWords.apt) : (runT (mkE fns_passkeyref3_SameWords anns_passkeyref3_SameWords tys_passkeyref3_SameWords) F25 sig_passkeyref3_SameWords x).den = sh_passkeyref3_SameWords x := by kernel_rfl
theorem k_passkeyref3_SameWords : FnOK S.lim 25 ⟨sig_passkeyref3_SameWords, sh_passkeyref3_SameWords⟩ := fn_ok' (fns := fns_passkeyref3_SameWords) (anns := anns_passkeyref3_SameWords) (tys := tys_passkeyref3_SameWords) .nil rfl rfl d_passkeyref3_SameWords
noncomputable def sig_passkeylaw3_OnetimeSigns : Sig := ⟨[.val (.int .u64), .val (.int .i64), .val (.int .u64), .val (.list (.int .u64)), .val (.int .u8)], [(.one, [.v .bool])]⟩
noncomputable def fns_passkeylaw3_OnetimeSigns : List (Nat × FnT) := [(13, ⟨sig_passkeylaw3_awake, sh_passkeylaw3_awake⟩), (21, ⟨sig_onetime_Sign, sh_onetime_Sign⟩), (22, ⟨sig_passkeyref3_SignLeaf, sh_passkeyref3_SignLeaf⟩), (23, ⟨sig_onetime_Recover, sh_onetime_Recover⟩), (24, ⟨sig_passkeyref3_Recover, sh_passkeyref3_Recover⟩), (25, ⟨sig_passkeyref3_SameWords, sh_passkeyref3_SameWords⟩)]
noncomputable def anns_passkeylaw3_OnetimeSigns : List (Nat × Ann) := [(1000020, ⟨0, 117, [(0, .c (.v (.int .u64))), (1, .c (.v (.int .i64))), (2, .c (.v (.int .u64))), (11, .c (.own 1856 false)), (12, .c (.own 2112 false)), (13, .c (.v (.int .u64))), (14, .c (.v (.int .i64))), (15, .c (.v (.int .u64))), (16, .c (.v (.int .i64)))], [(1856, [1856], .sl (.int .u64) false false), (2112, [2112], .sl (.int .u64) false false)]⟩), (21, ⟨0, 117, [(0, .c (.v (.int .u64))), (1, .c (.v (.int .i64))), (2, .c (.v (.int .u64))), (3, .c (.lst (.int .u64) [])), (4, .c (.v (.int .u8))), (11, .c (.own 1856 false)), (12, .c (.own 2112 false)), (13, .c (.v (.int .u64))), (14, .c (.v (.int .i64))), (15, .c (.v (.int .u64))), (16, .c (.v (.int .i64))), (17, .c (.v (.int .i64))), (53, .c (.v (.int .i64))), (54, .c (.own 2112 false)), (55, .c (.v (.int .i64))), (56, .c (.v .bool))], [(2112, [2112], .sl (.int .u64) false false), (1856, [1856], .sl (.int .u64) false false)]⟩), (20, ⟨0, 117, [(0, .c (.v (.int .u64))), (1, .c (.v (.int .i64))), (2, .c (.v (.int .u64))), (3, .c (.lst (.int .u64) [])), (4, .c (.v (.int .u8))), (11, .c (.own 1856 false)), (12, .c (.own 2112 false)), (13, .c (.v (.int .u64))), (14, .c (.v (.int .i64))), (15, .c (.v (.int .u64))), (16, .c (.v (.int .i64))), (17, .c (.v (.int .i64)))], [(2112, [2112], .sl (.int .u64) false false), (1856, [1856], .sl (.int .u64) false false)]⟩)]
noncomputable def tys_passkeylaw3_OnetimeSigns : List (Nat × Ty) := []
theorem d_passkeylaw3_OnetimeSigns (x : pd sig_passkeylaw3_OnetimeSigns.apt) : (runT (mkE fns_passkeylaw3_OnetimeSigns anns_passkeylaw3_OnetimeSigns tys_passkeylaw3_OnetimeSigns) F8 sig_passkeylaw3_OnetimeSigns x).den = sh_passkeylaw3_OnetimeSigns x := by kernel_rfl
theorem k_passkeylaw3_OnetimeSigns : FnOK S.lim 8 ⟨sig_passkeylaw3_OnetimeSigns, sh_passkeylaw3_OnetimeSigns⟩ := fn_ok' (fns := fns_passkeylaw3_OnetimeSigns) (anns := anns_passkeylaw3_OnetimeSigns) (tys := tys_passkeylaw3_OnetimeSigns) (.cons k_passkeylaw3_awake (.cons k_onetime_Sign (.cons k_passkeyref3_SignLeaf (.cons k_onetime_Recover (.cons k_passkeyref3_Recover (.cons k_passkeyref3_SameWords .nil)))))) rfl rfl d_passkeylaw3_OnetimeSigns
end Go.Vm.Ytoffmgdfckngnaa.OnetimeSigns
