/- The functions of the seat Ytippilcegapjfaa: what they compute. PRINTED by a program of this session's. -/
import Derived.Test.YtippilcegapjfaaProg
import Derived.KernelRfl
import Derived.Test.YtippilcegapjfaaSessionManyP
namespace Go.Vm.Ytippilcegapjfaa.SessionMany
open Go.Proofs
noncomputable def phi : Phi := mkPhi [9, 19, 29, 23, 20, 21, 15, 33, 36, 34, 32, 27, 16, 7, 10, 31, 30, 22, 11, 26, 14, 24, 12, 6, 4]
noncomputable def own : Nat → List Nat := fun g => (([] : List (Nat × List Nat)).lookup g).getD []
noncomputable def X (rh : List Nat) : Cx := { P := Try.prog, φ := phi, own := own, h := { rehome := rh } }
noncomputable def F9 : RFunc := (funcP (X []) Try.f9).getD default
theorem c9 : funcP (X []) Try.f9 = some F9 := some_getD (by kernel_rfl)
noncomputable def F19 : RFunc := (funcP (X []) Try.f19).getD default
theorem c19 : funcP (X []) Try.f19 = some F19 := some_getD (by kernel_rfl)
noncomputable def F29 : RFunc := (funcP (X []) Try.f29).getD default
theorem c29 : funcP (X []) Try.f29 = some F29 := some_getD (by kernel_rfl)
noncomputable def F23 : RFunc := (funcP (X []) Try.f23).getD default
theorem c23 : funcP (X []) Try.f23 = some F23 := some_getD (by kernel_rfl)
noncomputable def F20 : RFunc := (funcP (X []) Try.f20).getD default
theorem c20 : funcP (X []) Try.f20 = some F20 := some_getD (by kernel_rfl)
noncomputable def F15 : RFunc := (funcP (X []) Try.f15).getD default
theorem c15 : funcP (X []) Try.f15 = some F15 := some_getD (by kernel_rfl)
noncomputable def F33 : RFunc := (funcP (X []) Try.f33).getD default
theorem c33 : funcP (X []) Try.f33 = some F33 := some_getD (by kernel_rfl)
noncomputable def F36 : RFunc := (funcP (X []) Try.f36).getD default
theorem c36 : funcP (X []) Try.f36 = some F36 := some_getD (by kernel_rfl)
noncomputable def F34 : RFunc := (funcP (X []) Try.f34).getD default
theorem c34 : funcP (X []) Try.f34 = some F34 := some_getD (by kernel_rfl)
noncomputable def F32 : RFunc := (funcP (X []) Try.f32).getD default
theorem c32 : funcP (X []) Try.f32 = some F32 := some_getD (by kernel_rfl)
noncomputable def F27 : RFunc := (funcP (X []) Try.f27).getD default
theorem c27 : funcP (X []) Try.f27 = some F27 := some_getD (by kernel_rfl)
noncomputable def F16 : RFunc := (funcP (X []) Try.f16).getD default
theorem c16 : funcP (X []) Try.f16 = some F16 := some_getD (by kernel_rfl)
noncomputable def F7 : RFunc := (funcP (X []) Try.f7).getD default
theorem c7 : funcP (X []) Try.f7 = some F7 := some_getD (by kernel_rfl)
noncomputable def F10 : RFunc := (funcP (X []) Try.f10).getD default
theorem c10 : funcP (X []) Try.f10 = some F10 := some_getD (by kernel_rfl)
noncomputable def F31 : RFunc := (funcP (X []) Try.f31).getD default
theorem c31 : funcP (X []) Try.f31 = some F31 := some_getD (by kernel_rfl)
noncomputable def F30 : RFunc := (funcP (X []) Try.f30).getD default
theorem c30 : funcP (X []) Try.f30 = some F30 := some_getD (by kernel_rfl)
noncomputable def F22 : RFunc := (funcP (X []) Try.f22).getD default
theorem c22 : funcP (X []) Try.f22 = some F22 := some_getD (by kernel_rfl)
noncomputable def F11 : RFunc := (funcP (X []) Try.f11).getD default
theorem c11 : funcP (X []) Try.f11 = some F11 := some_getD (by kernel_rfl)
noncomputable def F26 : RFunc := (funcP (X []) Try.f26).getD default
theorem c26 : funcP (X []) Try.f26 = some F26 := some_getD (by kernel_rfl)
noncomputable def F14 : RFunc := (funcP (X []) Try.f14).getD default
theorem c14 : funcP (X []) Try.f14 = some F14 := some_getD (by kernel_rfl)
noncomputable def F24 : RFunc := (funcP (X []) Try.f24).getD default
theorem c24 : funcP (X []) Try.f24 = some F24 := some_getD (by kernel_rfl)
noncomputable def F12 : RFunc := (funcP (X []) Try.f12).getD default
theorem c12 : funcP (X []) Try.f12 = some F12 := some_getD (by kernel_rfl)
noncomputable def F6 : RFunc := (funcP (X []) Try.f6).getD default
theorem c6 : funcP (X []) Try.f6 = some F6 := some_getD (by kernel_rfl)
noncomputable def F4 : RFunc := (funcP (X []) Try.f4).getD default
theorem c4 : funcP (X []) Try.f4 = some F4 := some_getD (by kernel_rfl)
theorem c21 : funcP (X []) Try.f21 = some (cloneF 1 1 (.int .u8 0) [none]) := by kernel_rfl
theorem hphi : PhiOK Try.prog phi := phi_ok (by kernel_rfl)
noncomputable def prims : List (Nat × (List AV → Option Res)) := [(21, clonePrim 1 1)]
theorem hprims : PrimsOK Try.prog phi prims := (.cons (clone_call Try.func21 rfl rfl c21 hphi rfl rfl (by decide)) .nil)
noncomputable def S : Sys := mkS [(9, F9), (19, F19), (29, F29), (23, F23), (20, F20), (15, F15), (33, F33), (36, F36), (34, F34), (32, F32), (27, F27), (16, F16), (7, F7), (10, F10), (31, F31), (30, F30), (22, F22), (11, F11), (26, F26), (14, F14), (24, F24), (12, F12), (6, F6), (4, F4)] prims
theorem hS : SysOK Try.prog phi S := sys_ok (.cons Try.func9 rfl rfl c9 (.cons Try.func19 rfl rfl c19 (.cons Try.func29 rfl rfl c29 (.cons Try.func23 rfl rfl c23 (.cons Try.func20 rfl rfl c20 (.cons Try.func15 rfl rfl c15 (.cons Try.func33 rfl rfl c33 (.cons Try.func36 rfl rfl c36 (.cons Try.func34 rfl rfl c34 (.cons Try.func32 rfl rfl c32 (.cons Try.func27 rfl rfl c27 (.cons Try.func16 rfl rfl c16 (.cons Try.func7 rfl rfl c7 (.cons Try.func10 rfl rfl c10 (.cons Try.func31 rfl rfl c31 (.cons Try.func30 rfl rfl c30 (.cons Try.func22 rfl rfl c22 (.cons Try.func11 rfl rfl c11 (.cons Try.func26 rfl rfl c26 (.cons Try.func14 rfl rfl c14 (.cons Try.func24 rfl rfl c24 (.cons Try.func12 rfl rfl c12 (.cons Try.func6 rfl rfl c6 (.cons Try.func4 rfl rfl c4 .nil)))))))))))))))))))))))) hprims
noncomputable def sig_session_New : Sig := ⟨[.val (.int .u64)], [(.agg, [.v (.int .u64), .v (.int .i64), .own (.st (.pair (.int .i64) (.pair .str (.pair (.list (.int .u8)) (.pair (.int .u64) (.pair (.int .i64) (.int .i64)))))))])]⟩
noncomputable def fns_session_New : List (Nat × FnT) := []
noncomputable def anns_session_New : List (Nat × Ann) := []
noncomputable def tys_session_New : List (Nat × Ty) := []
theorem d_session_New (x : pd sig_session_New.apt) : (runT (mkE fns_session_New anns_session_New tys_session_New) F9 sig_session_New x).den = sh_session_New x := by kernel_rfl
theorem k_session_New : FnOK S.lim 9 ⟨sig_session_New, sh_session_New⟩ := fn_ok' (fns := fns_session_New) (anns := anns_session_New) (tys := tys_session_New) .nil rfl rfl d_session_New
noncomputable def sig_session_bad : Sig := ⟨[.val (.int .i64)], [(.one, [.v .bool])]⟩
noncomputable def fns_session_bad : List (Nat × FnT) := []
noncomputable def anns_session_bad : List (Nat × Ann) := []
noncomputable def tys_session_bad : List (Nat × Ty) := []
theorem d_session_bad (x : pd sig_session_bad.apt) : (runT (mkE fns_session_bad anns_session_bad tys_session_bad) F19 sig_session_bad x).den = sh_session_bad x := by kernel_rfl
theorem k_session_bad : FnOK S.lim 19 ⟨sig_session_bad, sh_session_bad⟩ := fn_ok' (fns := fns_session_bad) (anns := anns_session_bad) (tys := tys_session_bad) .nil rfl rfl d_session_bad
noncomputable def sig_session_Expire_1 : Sig := ⟨[.val (.st (.pair (.int .i64) (.pair .str (.pair (.list (.int .u8)) (.pair (.int .u64) (.pair (.int .i64) (.int .i64))))))), .ro (.int .i64)], [(.one, [.v .bool])]⟩
noncomputable def fns_session_Expire_1 : List (Nat × FnT) := [(19, ⟨sig_session_bad, sh_session_bad⟩)]
noncomputable def anns_session_Expire_1 : List (Nat × Ann) := []
noncomputable def tys_session_Expire_1 : List (Nat × Ty) := []
theorem d_session_Expire_1 (x : pd sig_session_Expire_1.apt) : (runT (mkE fns_session_Expire_1 anns_session_Expire_1 tys_session_Expire_1) F29 sig_session_Expire_1 x).den = sh_session_Expire_1 x := by kernel_rfl
theorem k_session_Expire_1 : FnOK S.lim 29 ⟨sig_session_Expire_1, sh_session_Expire_1⟩ := fn_ok' (fns := fns_session_Expire_1) (anns := anns_session_Expire_1) (tys := tys_session_Expire_1) (.cons k_session_bad .nil) rfl rfl d_session_Expire_1
noncomputable def sig_session_without : Sig := ⟨[.val (.st (.pair (.int .u64) (.pair (.int .i64) (.list (.st (.pair (.int .i64) (.pair .str (.pair (.list (.int .u8)) (.pair (.int .u64) (.pair (.int .i64) (.int .i64))))))))))), .fn 29 [] [(.int .i64)]], [(.agg, [.v (.int .u64), .v (.int .i64), .own (.st (.pair (.int .i64) (.pair .str (.pair (.list (.int .u8)) (.pair (.int .u64) (.pair (.int .i64) (.int .i64)))))))])]⟩
noncomputable def fns_session_without : List (Nat × FnT) := [(29, ⟨sig_session_Expire_1, sh_session_Expire_1⟩)]
noncomputable def anns_session_without : List (Nat × Ann) := [(1000008, ⟨0, 32, [(4, .c (.vref 256 0)), (5, .c (.vref 320 0))], [(256, [256], .var true [(.v (.int .u64)), (.v (.int .i64)), .nil] false false), (320, [320], .var true [(.v (.int .u64)), (.v (.int .i64)), (.own 1000002 true)] false false), (1000002, [1792], .sl (.st (.pair (.int .i64) (.pair .str (.pair (.list (.int .u8)) (.pair (.int .u64) (.pair (.int .i64) (.int .i64))))))) false false)]⟩), (8, ⟨0, 32, [(1, .fn 29 [] [(.rp (.int .i64) 0 [])]), (4, .c (.vref 256 0)), (5, .c (.vref 320 0)), (14, .c (.lst (.st (.pair (.int .i64) (.pair .str (.pair (.list (.int .u8)) (.pair (.int .u64) (.pair (.int .i64) (.int .i64))))))) [])), (15, .c (.v (.int .i64))), (16, .c (.v (.int .i64)))], [(256, [256], .var true [(.v (.int .u64)), (.v (.int .i64)), .nil] false false), (320, [320], .var true [(.v (.int .u64)), (.v (.int .i64)), (.own 1000001 true)] false false), (1000001, [1792], .sl (.st (.pair (.int .i64) (.pair .str (.pair (.list (.int .u8)) (.pair (.int .u64) (.pair (.int .i64) (.int .i64))))))) false false)]⟩)]
noncomputable def tys_session_without : List (Nat × Ty) := [(27, (.st (.pair (.int .i64) (.pair .str (.pair (.list (.int .u8)) (.pair (.int .u64) (.pair (.int .i64) (.int .i64)))))))), (28, (.st (.pair (.int .i64) (.pair .str (.pair (.list (.int .u8)) (.pair (.int .u64) (.pair (.int .i64) (.int .i64))))))))]
theorem d_session_without (x : pd sig_session_without.apt) : (runT (mkE fns_session_without anns_session_without tys_session_without) F23 sig_session_without x).den = sh_session_without x := by kernel_rfl
theorem k_session_without : FnOK S.lim 23 ⟨sig_session_without, sh_session_without⟩ := fn_ok' (fns := fns_session_without) (anns := anns_session_without) (tys := tys_session_without) (.cons k_session_Expire_1 .nil) rfl rfl d_session_without
noncomputable def sig_session_Expire : Sig := ⟨[.val (.st (.pair (.int .u64) (.pair (.int .i64) (.list (.st (.pair (.int .i64) (.pair .str (.pair (.list (.int .u8)) (.pair (.int .u64) (.pair (.int .i64) (.int .i64))))))))))), .val (.int .i64)], [(.agg, [.v (.int .u64), .v (.int .i64), .own (.st (.pair (.int .i64) (.pair .str (.pair (.list (.int .u8)) (.pair (.int .u64) (.pair (.int .i64) (.int .i64)))))))])]⟩
noncomputable def fns_session_Expire : List (Nat × FnT) := [(23, ⟨sig_session_without, sh_session_without⟩)]
noncomputable def anns_session_Expire : List (Nat × Ann) := []
noncomputable def tys_session_Expire : List (Nat × Ty) := []
theorem d_session_Expire (x : pd sig_session_Expire.apt) : (runT (mkE fns_session_Expire anns_session_Expire tys_session_Expire) F20 sig_session_Expire x).den = sh_session_Expire x := by kernel_rfl
theorem k_session_Expire : FnOK S.lim 20 ⟨sig_session_Expire, sh_session_Expire⟩ := fn_ok' (fns := fns_session_Expire) (anns := anns_session_Expire) (tys := tys_session_Expire) (.cons k_session_without .nil) rfl rfl d_session_Expire
noncomputable def sig_slices_Clone___byte_byte_ : Sig := ⟨[.val (.list (.int .u8))], [(.one, [.own (.int .u8)])]⟩
theorem k_slices_Clone___byte_byte_ : FnOK S.lim 21 ⟨sig_slices_Clone___byte_byte_, sh_slices_Clone___byte_byte_⟩ := clone_fn (t := (.int .u8)) (b := 1) rfl
noncomputable def sig_digest_Words : Sig := ⟨[.val (.list (.int .u64))], [(.one, [.own (.int .u8)])]⟩
noncomputable def fns_digest_Words : List (Nat × FnT) := []
noncomputable def anns_digest_Words : List (Nat × Ann) := [(1000008, ⟨0, 28, [(3, .c (.own 1000004 true))], [(1000004, [1536], .sl (.int .u8) false false)]⟩), (8, ⟨0, 28, [(3, .c (.own 1000003 true)), (7, .c (.lst (.int .u64) [])), (8, .c (.v (.int .i64))), (9, .c (.v (.int .i64)))], [(1000003, [1536], .sl (.int .u8) false false)]⟩), (1000022, ⟨2, 28, [(3, .c (.own 1000002 true)), (7, .c (.lst (.int .u64) [])), (8, .c (.v (.int .i64))), (9, .c (.v (.int .i64)))], [(1000002, [1536], .sl (.int .u8) false false)]⟩), (22, ⟨0, 28, [(3, .c (.own 1000001 true)), (5, .c (.v (.int .u64))), (7, .c (.lst (.int .u64) [])), (8, .c (.v (.int .i64))), (9, .c (.v (.int .i64))), (13, .c (.v (.int .i64)))], [(1000001, [1536], .sl (.int .u8) false false)]⟩)]
noncomputable def tys_digest_Words : List (Nat × Ty) := [(23, (.int .u8)), (24, (.int .u8))]
theorem d_digest_Words (x : pd sig_digest_Words.apt) : (runT (mkE fns_digest_Words anns_digest_Words tys_digest_Words) F15 sig_digest_Words x).den = sh_digest_Words x := by kernel_rfl
theorem k_digest_Words : FnOK S.lim 15 ⟨sig_digest_Words, sh_digest_Words⟩ := fn_ok' (fns := fns_digest_Words) (anns := anns_digest_Words) (tys := tys_digest_Words) .nil rfl rfl d_digest_Words
noncomputable def sig_digest_little : Sig := ⟨[.val (.list (.int .u8))], [(.one, [.v (.int .u64)])]⟩
noncomputable def fns_digest_little : List (Nat × FnT) := []
noncomputable def anns_digest_little : List (Nat × Ann) := [(1000008, ⟨0, 22, [(3, .c (.v (.int .u64)))], []⟩), (8, ⟨0, 22, [(3, .c (.v (.int .u64))), (6, .c (.lst (.int .u8) [])), (7, .c (.v (.int .i64))), (8, .c (.v (.int .i64)))], []⟩)]
noncomputable def tys_digest_little : List (Nat × Ty) := []
theorem d_digest_little (x : pd sig_digest_little.apt) : (runT (mkE fns_digest_little anns_digest_little tys_digest_little) F33 sig_digest_little x).den = sh_digest_little x := by kernel_rfl
theorem k_digest_little : FnOK S.lim 33 ⟨sig_digest_little, sh_digest_little⟩ := fn_ok' (fns := fns_digest_little) (anns := anns_digest_little) (tys := tys_digest_little) .nil rfl rfl d_digest_little
noncomputable def sig_math_bits_RotateLeft64 : Sig := ⟨[.val (.int .u64), .val (.int .i64)], [(.one, [.v (.int .u64)])]⟩
noncomputable def fns_math_bits_RotateLeft64 : List (Nat × FnT) := []
noncomputable def anns_math_bits_RotateLeft64 : List (Nat × Ann) := []
noncomputable def tys_math_bits_RotateLeft64 : List (Nat × Ty) := []
theorem d_math_bits_RotateLeft64 (x : pd sig_math_bits_RotateLeft64.apt) : (runT (mkE fns_math_bits_RotateLeft64 anns_math_bits_RotateLeft64 tys_math_bits_RotateLeft64) F36 sig_math_bits_RotateLeft64 x).den = sh_math_bits_RotateLeft64 x := by kernel_rfl
theorem k_math_bits_RotateLeft64 : FnOK S.lim 36 ⟨sig_math_bits_RotateLeft64, sh_math_bits_RotateLeft64⟩ := fn_ok' (fns := fns_math_bits_RotateLeft64) (anns := anns_math_bits_RotateLeft64) (tys := tys_math_bits_RotateLeft64) .nil rfl rfl d_math_bits_RotateLeft64
noncomputable def sig___passkey_digest_state__round : Sig := ⟨[.io [.v (.int .u64), .v (.int .u64), .v (.int .u64), .v (.int .u64)] [.v (.int .u64), .v (.int .u64), .v (.int .u64), .v (.int .u64)], .val (.int .i64)], []⟩
noncomputable def fns___passkey_digest_state__round : List (Nat × FnT) := [(36, ⟨sig_math_bits_RotateLeft64, sh_math_bits_RotateLeft64⟩)]
noncomputable def anns___passkey_digest_state__round : List (Nat × Ann) := [(1000003, ⟨0, 120, [], [(0, [0], .var true [(.v (.int .u64)), (.v (.int .u64)), (.v (.int .u64)), (.v (.int .u64))] false true)]⟩), (3, ⟨0, 120, [(0, .c (.vref 0 0)), (4, .c (.v (.int .i64))), (5, .c (.v (.int .i64)))], [(0, [0], .var true [(.v (.int .u64)), (.v (.int .u64)), (.v (.int .u64)), (.v (.int .u64))] false true)]⟩)]
noncomputable def tys___passkey_digest_state__round : List (Nat × Ty) := []
theorem d___passkey_digest_state__round (x : pd sig___passkey_digest_state__round.apt) : (runT (mkE fns___passkey_digest_state__round anns___passkey_digest_state__round tys___passkey_digest_state__round) F34 sig___passkey_digest_state__round x).den = sh___passkey_digest_state__round x := by kernel_rfl
theorem k___passkey_digest_state__round : FnOK S.lim 34 ⟨sig___passkey_digest_state__round, sh___passkey_digest_state__round⟩ := fn_ok' (fns := fns___passkey_digest_state__round) (anns := anns___passkey_digest_state__round) (tys := tys___passkey_digest_state__round) (.cons k_math_bits_RotateLeft64 .nil) rfl rfl d___passkey_digest_state__round
noncomputable def sig___passkey_digest_state__word : Sig := ⟨[.io [.v (.int .u64), .v (.int .u64), .v (.int .u64), .v (.int .u64)] [.v (.int .u64), .v (.int .u64), .v (.int .u64), .v (.int .u64)], .val (.int .u64)], []⟩
noncomputable def fns___passkey_digest_state__word : List (Nat × FnT) := [(34, ⟨sig___passkey_digest_state__round, sh___passkey_digest_state__round⟩)]
noncomputable def anns___passkey_digest_state__word : List (Nat × Ann) := []
noncomputable def tys___passkey_digest_state__word : List (Nat × Ty) := []
theorem d___passkey_digest_state__word (x : pd sig___passkey_digest_state__word.apt) : (runT (mkE fns___passkey_digest_state__word anns___passkey_digest_state__word tys___passkey_digest_state__word) F32 sig___passkey_digest_state__word x).den = sh___passkey_digest_state__word x := by kernel_rfl
theorem k___passkey_digest_state__word : FnOK S.lim 32 ⟨sig___passkey_digest_state__word, sh___passkey_digest_state__word⟩ := fn_ok' (fns := fns___passkey_digest_state__word) (anns := anns___passkey_digest_state__word) (tys := tys___passkey_digest_state__word) (.cons k___passkey_digest_state__round .nil) rfl rfl d___passkey_digest_state__word
noncomputable def sig_digest_Sum : Sig := ⟨[.val (.int .u64), .val (.int .u64), .val (.list (.int .u8))], [(.one, [.v (.int .u64)])]⟩
noncomputable def fns_digest_Sum : List (Nat × FnT) := [(33, ⟨sig_digest_little, sh_digest_little⟩), (34, ⟨sig___passkey_digest_state__round, sh___passkey_digest_state__round⟩), (32, ⟨sig___passkey_digest_state__word, sh___passkey_digest_state__word⟩)]
noncomputable def anns_digest_Sum : List (Nat × Ann) := [(1000008, ⟨0, 67, [(2, .c (.lst (.int .u8) [])), (7, .c (.vref 1152 0)), (8, .c (.v (.int .u64)))], [(1152, [1152], .var true [(.v (.int .u64)), (.v (.int .u64)), (.v (.int .u64)), (.v (.int .u64))] false false)]⟩), (8, ⟨0, 67, [(2, .c (.lst (.int .u8) [])), (7, .c (.vref 1152 0)), (8, .c (.v (.int .u64)))], [(1152, [1152], .var true [(.v (.int .u64)), (.v (.int .u64)), (.v (.int .u64)), (.v (.int .u64))] false false)]⟩)]
noncomputable def tys_digest_Sum : List (Nat × Ty) := []
theorem d_digest_Sum (x : pd sig_digest_Sum.apt) : (runT (mkE fns_digest_Sum anns_digest_Sum tys_digest_Sum) F27 sig_digest_Sum x).den = sh_digest_Sum x := by kernel_rfl
theorem k_digest_Sum : FnOK S.lim 27 ⟨sig_digest_Sum, sh_digest_Sum⟩ := fn_ok' (fns := fns_digest_Sum) (anns := anns_digest_Sum) (tys := tys_digest_Sum) (.cons k_digest_little (.cons k___passkey_digest_state__round (.cons k___passkey_digest_state__word .nil))) rfl rfl d_digest_Sum
noncomputable def sig_digest_Mac : Sig := ⟨[.val (.int .u64), .val (.int .i64), .val (.list (.int .u8))], [(.one, [.v (.int .u64)])]⟩
noncomputable def fns_digest_Mac : List (Nat × FnT) := [(27, ⟨sig_digest_Sum, sh_digest_Sum⟩)]
noncomputable def anns_digest_Mac : List (Nat × Ann) := []
noncomputable def tys_digest_Mac : List (Nat × Ty) := []
theorem d_digest_Mac (x : pd sig_digest_Mac.apt) : (runT (mkE fns_digest_Mac anns_digest_Mac tys_digest_Mac) F16 sig_digest_Mac x).den = sh_digest_Mac x := by kernel_rfl
theorem k_digest_Mac : FnOK S.lim 16 ⟨sig_digest_Mac, sh_digest_Mac⟩ := fn_ok' (fns := fns_digest_Mac) (anns := anns_digest_Mac) (tys := tys_digest_Mac) (.cons k_digest_Sum .nil) rfl rfl d_digest_Mac
noncomputable def sig_session_Bytes : Sig := ⟨[.val (.st (.pair (.int .u64) (.pair (.int .i64) (.list (.st (.pair (.int .i64) (.pair .str (.pair (.list (.int .u8)) (.pair (.int .u64) (.pair (.int .i64) (.int .i64))))))))))), .val (.st (.pair (.int .i64) (.pair .str (.pair (.list (.int .u8)) (.pair (.int .u64) (.pair (.int .i64) (.int .i64)))))))], [(.one, [.own (.int .u8)])]⟩
noncomputable def fns_session_Bytes : List (Nat × FnT) := [(15, ⟨sig_digest_Words, sh_digest_Words⟩), (16, ⟨sig_digest_Mac, sh_digest_Mac⟩)]
noncomputable def anns_session_Bytes : List (Nat × Ann) := []
noncomputable def tys_session_Bytes : List (Nat × Ty) := [(12, (.int .u64)), (16, (.int .u8)), (24, (.int .u64))]
theorem d_session_Bytes (x : pd sig_session_Bytes.apt) : (runT (mkE fns_session_Bytes anns_session_Bytes tys_session_Bytes) F7 sig_session_Bytes x).den = sh_session_Bytes x := by kernel_rfl
theorem k_session_Bytes : FnOK S.lim 7 ⟨sig_session_Bytes, sh_session_Bytes⟩ := fn_ok' (fns := fns_session_Bytes) (anns := anns_session_Bytes) (tys := tys_session_Bytes) (.cons k_digest_Words (.cons k_digest_Mac .nil)) rfl rfl d_session_Bytes
noncomputable def sig_session_Open : Sig := ⟨[.val (.st (.pair (.int .u64) (.pair (.int .i64) (.list (.st (.pair (.int .i64) (.pair .str (.pair (.list (.int .u8)) (.pair (.int .u64) (.pair (.int .i64) (.int .i64))))))))))), .val .str, .val (.list (.int .u8)), .val (.int .u64), .val (.int .i64), .val (.int .i64)], [(.agg, [.v (.int .u64), .v (.int .i64), .lst (.st (.pair (.int .i64) (.pair .str (.pair (.list (.int .u8)) (.pair (.int .u64) (.pair (.int .i64) (.int .i64)))))))]), (.one, [.own (.int .u8)]), (.one, [.v (.int .i64)])]⟩
noncomputable def fns_session_Open : List (Nat × FnT) := [(19, ⟨sig_session_bad, sh_session_bad⟩), (20, ⟨sig_session_Expire, sh_session_Expire⟩), (21, ⟨sig_slices_Clone___byte_byte_, sh_slices_Clone___byte_byte_⟩), (7, ⟨sig_session_Bytes, sh_session_Bytes⟩)]
noncomputable def anns_session_Open : List (Nat × Ann) := [(12, ⟨0, 65, [(1, .c (.v .str)), (2, .c (.lst (.int .u8) [])), (3, .c (.v (.int .u64))), (4, .c (.v (.int .i64))), (5, .c (.v (.int .i64))), (6, .c (.vref 384 0)), (12, .c (.vref 768 0)), (15, .c (.vref 960 0))], [(384, [384], .var true [(.v (.int .u64)), (.v (.int .i64)), (.lst (.st (.pair (.int .i64) (.pair .str (.pair (.list (.int .u8)) (.pair (.int .u64) (.pair (.int .i64) (.int .i64))))))) [])] false false), (768, [768], .var true [(.v (.int .u64)), (.v (.int .i64)), .nil] false false), (960, [960], .var true [(.v (.int .u64)), (.v (.int .i64)), (.ownp 1920 false)] false false), (1920, [1920], .sl (.st (.pair (.int .i64) (.pair .str (.pair (.list (.int .u8)) (.pair (.int .u64) (.pair (.int .i64) (.int .i64))))))) false false)]⟩), (2, ⟨0, 65, [(1, .c (.v .str)), (2, .c (.lst (.int .u8) [])), (3, .c (.v (.int .u64))), (4, .c (.v (.int .i64))), (5, .c (.v (.int .i64))), (6, .c (.vref 384 0)), (12, .c (.vref 768 0))], [(768, [768], .var true [(.v (.int .u64)), (.v (.int .i64)), .nil] false false), (384, [384], .var true [(.v (.int .u64)), (.v (.int .i64)), (.lst (.st (.pair (.int .i64) (.pair .str (.pair (.list (.int .u8)) (.pair (.int .u64) (.pair (.int .i64) (.int .i64))))))) [])] false false)]⟩)]
noncomputable def tys_session_Open : List (Nat × Ty) := [(58, (.st (.pair (.int .i64) (.pair .str (.pair (.list (.int .u8)) (.pair (.int .u64) (.pair (.int .i64) (.int .i64)))))))), (59, (.st (.pair (.int .i64) (.pair .str (.pair (.list (.int .u8)) (.pair (.int .u64) (.pair (.int .i64) (.int .i64))))))))]
theorem d_session_Open (x : pd sig_session_Open.apt) : (runT (mkE fns_session_Open anns_session_Open tys_session_Open) F10 sig_session_Open x).den = sh_session_Open x := by kernel_rfl
theorem k_session_Open : FnOK S.lim 10 ⟨sig_session_Open, sh_session_Open⟩ := fn_ok' (fns := fns_session_Open) (anns := anns_session_Open) (tys := tys_session_Open) (.cons k_session_bad (.cons k_session_Expire (.cons k_slices_Clone___byte_byte_ (.cons k_session_Bytes .nil)))) rfl rfl d_session_Open
noncomputable def sig_session_find_1 : Sig := ⟨[.val (.st (.pair (.int .i64) (.pair .str (.pair (.list (.int .u8)) (.pair (.int .u64) (.pair (.int .i64) (.int .i64))))))), .ro (.int .i64), .ro (.st (.pair (.int .u64) (.pair (.int .i64) (.list (.st (.pair (.int .i64) (.pair .str (.pair (.list (.int .u8)) (.pair (.int .u64) (.pair (.int .i64) (.int .i64))))))))))), .ro (.list (.int .u8))], [(.one, [.v .bool])]⟩
noncomputable def fns_session_find_1 : List (Nat × FnT) := [(7, ⟨sig_session_Bytes, sh_session_Bytes⟩)]
noncomputable def anns_session_find_1 : List (Nat × Ann) := []
noncomputable def tys_session_find_1 : List (Nat × Ty) := []
theorem d_session_find_1 (x : pd sig_session_find_1.apt) : (runT (mkE fns_session_find_1 anns_session_find_1 tys_session_find_1) F31 sig_session_find_1 x).den = sh_session_find_1 x := by kernel_rfl
theorem k_session_find_1 : FnOK S.lim 31 ⟨sig_session_find_1, sh_session_find_1⟩ := fn_ok' (fns := fns_session_find_1) (anns := anns_session_find_1) (tys := tys_session_find_1) (.cons k_session_Bytes .nil) rfl rfl d_session_find_1
noncomputable def sig_slices_IndexFunc___passkey_api_Session_passkey_api_Session_ : Sig := ⟨[.val (.list (.st (.pair (.int .i64) (.pair .str (.pair (.list (.int .u8)) (.pair (.int .u64) (.pair (.int .i64) (.int .i64)))))))), .fn 31 [] [(.int .i64), (.st (.pair (.int .u64) (.pair (.int .i64) (.list (.st (.pair (.int .i64) (.pair .str (.pair (.list (.int .u8)) (.pair (.int .u64) (.pair (.int .i64) (.int .i64))))))))))), (.list (.int .u8))]], [(.one, [.v (.int .i64)])]⟩
noncomputable def fns_slices_IndexFunc___passkey_api_Session_passkey_api_Session_ : List (Nat × FnT) := [(31, ⟨sig_session_find_1, sh_session_find_1⟩)]
noncomputable def anns_slices_IndexFunc___passkey_api_Session_passkey_api_Session_ : List (Nat × Ann) := [(1000006, ⟨0, 19, [], []⟩), (6, ⟨0, 19, [(0, .c (.lst (.st (.pair (.int .i64) (.pair .str (.pair (.list (.int .u8)) (.pair (.int .u64) (.pair (.int .i64) (.int .i64))))))) [])), (1, .fn 31 [] [(.rp (.int .i64) 0 []), (.rp (.st (.pair (.int .u64) (.pair (.int .i64) (.list (.st (.pair (.int .i64) (.pair .str (.pair (.list (.int .u8)) (.pair (.int .u64) (.pair (.int .i64) (.int .i64))))))))))) 0 []), (.rp (.list (.int .u8)) 0 [])]), (7, .c (.v (.int .i64))), (8, .c (.v (.int .i64)))], []⟩)]
noncomputable def tys_slices_IndexFunc___passkey_api_Session_passkey_api_Session_ : List (Nat × Ty) := []
theorem d_slices_IndexFunc___passkey_api_Session_passkey_api_Session_ (x : pd sig_slices_IndexFunc___passkey_api_Session_passkey_api_Session_.apt) : (runT (mkE fns_slices_IndexFunc___passkey_api_Session_passkey_api_Session_ anns_slices_IndexFunc___passkey_api_Session_passkey_api_Session_ tys_slices_IndexFunc___passkey_api_Session_passkey_api_Session_) F30 sig_slices_IndexFunc___passkey_api_Session_passkey_api_Session_ x).den = sh_slices_IndexFunc___passkey_api_Session_passkey_api_Session_ x := by kernel_rfl
theorem k_slices_IndexFunc___passkey_api_Session_passkey_api_Session_ : FnOK S.lim 30 ⟨sig_slices_IndexFunc___passkey_api_Session_passkey_api_Session_, sh_slices_IndexFunc___passkey_api_Session_passkey_api_Session_⟩ := fn_ok' (fns := fns_slices_IndexFunc___passkey_api_Session_passkey_api_Session_) (anns := anns_slices_IndexFunc___passkey_api_Session_passkey_api_Session_) (tys := tys_slices_IndexFunc___passkey_api_Session_passkey_api_Session_) (.cons k_session_find_1 .nil) rfl rfl d_slices_IndexFunc___passkey_api_Session_passkey_api_Session_
noncomputable def sig_session_find : Sig := ⟨[.val (.st (.pair (.int .u64) (.pair (.int .i64) (.list (.st (.pair (.int .i64) (.pair .str (.pair (.list (.int .u8)) (.pair (.int .u64) (.pair (.int .i64) (.int .i64))))))))))), .val (.list (.int .u8)), .val (.int .i64)], [(.one, [.v (.int .i64)])]⟩
noncomputable def fns_session_find : List (Nat × FnT) := [(30, ⟨sig_slices_IndexFunc___passkey_api_Session_passkey_api_Session_, sh_slices_IndexFunc___passkey_api_Session_passkey_api_Session_⟩)]
noncomputable def anns_session_find : List (Nat × Ann) := []
noncomputable def tys_session_find : List (Nat × Ty) := []
theorem d_session_find (x : pd sig_session_find.apt) : (runT (mkE fns_session_find anns_session_find tys_session_find) F22 sig_session_find x).den = sh_session_find x := by kernel_rfl
theorem k_session_find : FnOK S.lim 22 ⟨sig_session_find, sh_session_find⟩ := fn_ok' (fns := fns_session_find) (anns := anns_session_find) (tys := tys_session_find) (.cons k_slices_IndexFunc___passkey_api_Session_passkey_api_Session_ .nil) rfl rfl d_session_find
noncomputable def sig_session_Check : Sig := ⟨[.val (.st (.pair (.int .u64) (.pair (.int .i64) (.list (.st (.pair (.int .i64) (.pair .str (.pair (.list (.int .u8)) (.pair (.int .u64) (.pair (.int .i64) (.int .i64))))))))))), .val (.list (.int .u8)), .val (.int .i64)], [(.agg, [.v (.int .i64), .v .str, .own (.int .u8), .v (.int .u64), .v (.int .i64), .v (.int .i64)]), (.one, [.v (.int .i64)])]⟩
noncomputable def fns_session_Check : List (Nat × FnT) := [(19, ⟨sig_session_bad, sh_session_bad⟩), (21, ⟨sig_slices_Clone___byte_byte_, sh_slices_Clone___byte_byte_⟩), (22, ⟨sig_session_find, sh_session_find⟩)]
noncomputable def anns_session_Check : List (Nat × Ann) := []
noncomputable def tys_session_Check : List (Nat × Ty) := []
theorem d_session_Check (x : pd sig_session_Check.apt) : (runT (mkE fns_session_Check anns_session_Check tys_session_Check) F11 sig_session_Check x).den = sh_session_Check x := by kernel_rfl
theorem k_session_Check : FnOK S.lim 11 ⟨sig_session_Check, sh_session_Check⟩ := fn_ok' (fns := fns_session_Check) (anns := anns_session_Check) (tys := tys_session_Check) (.cons k_session_bad (.cons k_slices_Clone___byte_byte_ (.cons k_session_find .nil))) rfl rfl d_session_Check
noncomputable def sig_session_Close_1 : Sig := ⟨[.val (.st (.pair (.int .i64) (.pair .str (.pair (.list (.int .u8)) (.pair (.int .u64) (.pair (.int .i64) (.int .i64))))))), .ro (.int .i64)], [(.one, [.v .bool])]⟩
noncomputable def fns_session_Close_1 : List (Nat × FnT) := []
noncomputable def anns_session_Close_1 : List (Nat × Ann) := []
noncomputable def tys_session_Close_1 : List (Nat × Ty) := []
theorem d_session_Close_1 (x : pd sig_session_Close_1.apt) : (runT (mkE fns_session_Close_1 anns_session_Close_1 tys_session_Close_1) F26 sig_session_Close_1 x).den = sh_session_Close_1 x := by kernel_rfl
theorem k_session_Close_1 : FnOK S.lim 26 ⟨sig_session_Close_1, sh_session_Close_1⟩ := fn_ok' (fns := fns_session_Close_1) (anns := anns_session_Close_1) (tys := tys_session_Close_1) .nil rfl rfl d_session_Close_1
noncomputable def sig_session_without_2 : Sig := ⟨[.val (.st (.pair (.int .u64) (.pair (.int .i64) (.list (.st (.pair (.int .i64) (.pair .str (.pair (.list (.int .u8)) (.pair (.int .u64) (.pair (.int .i64) (.int .i64))))))))))), .fn 26 [] [(.int .i64)]], [(.agg, [.v (.int .u64), .v (.int .i64), .own (.st (.pair (.int .i64) (.pair .str (.pair (.list (.int .u8)) (.pair (.int .u64) (.pair (.int .i64) (.int .i64)))))))])]⟩
noncomputable def fns_session_without_2 : List (Nat × FnT) := [(26, ⟨sig_session_Close_1, sh_session_Close_1⟩)]
noncomputable def anns_session_without_2 : List (Nat × Ann) := [(1000008, ⟨0, 32, [(4, .c (.vref 256 0)), (5, .c (.vref 320 0))], [(256, [256], .var true [(.v (.int .u64)), (.v (.int .i64)), .nil] false false), (320, [320], .var true [(.v (.int .u64)), (.v (.int .i64)), (.own 1000002 true)] false false), (1000002, [1792], .sl (.st (.pair (.int .i64) (.pair .str (.pair (.list (.int .u8)) (.pair (.int .u64) (.pair (.int .i64) (.int .i64))))))) false false)]⟩), (8, ⟨0, 32, [(1, .fn 26 [] [(.rp (.int .i64) 0 [])]), (4, .c (.vref 256 0)), (5, .c (.vref 320 0)), (14, .c (.lst (.st (.pair (.int .i64) (.pair .str (.pair (.list (.int .u8)) (.pair (.int .u64) (.pair (.int .i64) (.int .i64))))))) [])), (15, .c (.v (.int .i64))), (16, .c (.v (.int .i64)))], [(256, [256], .var true [(.v (.int .u64)), (.v (.int .i64)), .nil] false false), (320, [320], .var true [(.v (.int .u64)), (.v (.int .i64)), (.own 1000001 true)] false false), (1000001, [1792], .sl (.st (.pair (.int .i64) (.pair .str (.pair (.list (.int .u8)) (.pair (.int .u64) (.pair (.int .i64) (.int .i64))))))) false false)]⟩)]
noncomputable def tys_session_without_2 : List (Nat × Ty) := [(27, (.st (.pair (.int .i64) (.pair .str (.pair (.list (.int .u8)) (.pair (.int .u64) (.pair (.int .i64) (.int .i64)))))))), (28, (.st (.pair (.int .i64) (.pair .str (.pair (.list (.int .u8)) (.pair (.int .u64) (.pair (.int .i64) (.int .i64))))))))]
theorem d_session_without_2 (x : pd sig_session_without_2.apt) : (runT (mkE fns_session_without_2 anns_session_without_2 tys_session_without_2) F23 sig_session_without_2 x).den = sh_session_without_2 x := by kernel_rfl
theorem k_session_without_2 : FnOK S.lim 23 ⟨sig_session_without_2, sh_session_without_2⟩ := fn_ok' (fns := fns_session_without_2) (anns := anns_session_without_2) (tys := tys_session_without_2) (.cons k_session_Close_1 .nil) rfl rfl d_session_without_2
noncomputable def sig_session_Close : Sig := ⟨[.val (.st (.pair (.int .u64) (.pair (.int .i64) (.list (.st (.pair (.int .i64) (.pair .str (.pair (.list (.int .u8)) (.pair (.int .u64) (.pair (.int .i64) (.int .i64))))))))))), .val (.list (.int .u8)), .val (.int .i64)], [(.agg, [.v (.int .u64), .v (.int .i64), .lst (.st (.pair (.int .i64) (.pair .str (.pair (.list (.int .u8)) (.pair (.int .u64) (.pair (.int .i64) (.int .i64)))))))]), (.one, [.v (.int .i64)])]⟩
noncomputable def fns_session_Close : List (Nat × FnT) := [(19, ⟨sig_session_bad, sh_session_bad⟩), (23, ⟨sig_session_without, sh_session_without⟩), (20, ⟨sig_session_Expire, sh_session_Expire⟩), (22, ⟨sig_session_find, sh_session_find⟩), (23, ⟨sig_session_without_2, sh_session_without_2⟩)]
noncomputable def anns_session_Close : List (Nat × Ann) := []
noncomputable def tys_session_Close : List (Nat × Ty) := []
theorem d_session_Close (x : pd sig_session_Close.apt) : (runT (mkE fns_session_Close anns_session_Close tys_session_Close) F14 sig_session_Close x).den = sh_session_Close x := by kernel_rfl
theorem k_session_Close : FnOK S.lim 14 ⟨sig_session_Close, sh_session_Close⟩ := fn_ok' (fns := fns_session_Close) (anns := anns_session_Close) (tys := tys_session_Close) (.cons k_session_bad (.cons k_session_without (.cons k_session_Expire (.cons k_session_find (.cons k_session_without_2 .nil))))) rfl rfl d_session_Close
noncomputable def sig_session_RevokeModel_1 : Sig := ⟨[.val (.st (.pair (.int .i64) (.pair .str (.pair (.list (.int .u8)) (.pair (.int .u64) (.pair (.int .i64) (.int .i64))))))), .ro (.int .u64)], [(.one, [.v .bool])]⟩
noncomputable def fns_session_RevokeModel_1 : List (Nat × FnT) := []
noncomputable def anns_session_RevokeModel_1 : List (Nat × Ann) := []
noncomputable def tys_session_RevokeModel_1 : List (Nat × Ty) := []
theorem d_session_RevokeModel_1 (x : pd sig_session_RevokeModel_1.apt) : (runT (mkE fns_session_RevokeModel_1 anns_session_RevokeModel_1 tys_session_RevokeModel_1) F24 sig_session_RevokeModel_1 x).den = sh_session_RevokeModel_1 x := by kernel_rfl
theorem k_session_RevokeModel_1 : FnOK S.lim 24 ⟨sig_session_RevokeModel_1, sh_session_RevokeModel_1⟩ := fn_ok' (fns := fns_session_RevokeModel_1) (anns := anns_session_RevokeModel_1) (tys := tys_session_RevokeModel_1) .nil rfl rfl d_session_RevokeModel_1
noncomputable def sig_session_without_3 : Sig := ⟨[.val (.st (.pair (.int .u64) (.pair (.int .i64) (.list (.st (.pair (.int .i64) (.pair .str (.pair (.list (.int .u8)) (.pair (.int .u64) (.pair (.int .i64) (.int .i64))))))))))), .fn 24 [] [(.int .u64)]], [(.agg, [.v (.int .u64), .v (.int .i64), .own (.st (.pair (.int .i64) (.pair .str (.pair (.list (.int .u8)) (.pair (.int .u64) (.pair (.int .i64) (.int .i64)))))))])]⟩
noncomputable def fns_session_without_3 : List (Nat × FnT) := [(24, ⟨sig_session_RevokeModel_1, sh_session_RevokeModel_1⟩)]
noncomputable def anns_session_without_3 : List (Nat × Ann) := [(1000008, ⟨0, 32, [(4, .c (.vref 256 0)), (5, .c (.vref 320 0))], [(256, [256], .var true [(.v (.int .u64)), (.v (.int .i64)), .nil] false false), (320, [320], .var true [(.v (.int .u64)), (.v (.int .i64)), (.own 1000002 true)] false false), (1000002, [1792], .sl (.st (.pair (.int .i64) (.pair .str (.pair (.list (.int .u8)) (.pair (.int .u64) (.pair (.int .i64) (.int .i64))))))) false false)]⟩), (8, ⟨0, 32, [(1, .fn 24 [] [(.rp (.int .u64) 0 [])]), (4, .c (.vref 256 0)), (5, .c (.vref 320 0)), (14, .c (.lst (.st (.pair (.int .i64) (.pair .str (.pair (.list (.int .u8)) (.pair (.int .u64) (.pair (.int .i64) (.int .i64))))))) [])), (15, .c (.v (.int .i64))), (16, .c (.v (.int .i64)))], [(256, [256], .var true [(.v (.int .u64)), (.v (.int .i64)), .nil] false false), (320, [320], .var true [(.v (.int .u64)), (.v (.int .i64)), (.own 1000001 true)] false false), (1000001, [1792], .sl (.st (.pair (.int .i64) (.pair .str (.pair (.list (.int .u8)) (.pair (.int .u64) (.pair (.int .i64) (.int .i64))))))) false false)]⟩)]
noncomputable def tys_session_without_3 : List (Nat × Ty) := [(27, (.st (.pair (.int .i64) (.pair .str (.pair (.list (.int .u8)) (.pair (.int .u64) (.pair (.int .i64) (.int .i64)))))))), (28, (.st (.pair (.int .i64) (.pair .str (.pair (.list (.int .u8)) (.pair (.int .u64) (.pair (.int .i64) (.int .i64))))))))]
theorem d_session_without_3 (x : pd sig_session_without_3.apt) : (runT (mkE fns_session_without_3 anns_session_without_3 tys_session_without_3) F23 sig_session_without_3 x).den = sh_session_without_3 x := by kernel_rfl
theorem k_session_without_3 : FnOK S.lim 23 ⟨sig_session_without_3, sh_session_without_3⟩ := fn_ok' (fns := fns_session_without_3) (anns := anns_session_without_3) (tys := tys_session_without_3) (.cons k_session_RevokeModel_1 .nil) rfl rfl d_session_without_3
noncomputable def sig_session_RevokeModel : Sig := ⟨[.val (.st (.pair (.int .u64) (.pair (.int .i64) (.list (.st (.pair (.int .i64) (.pair .str (.pair (.list (.int .u8)) (.pair (.int .u64) (.pair (.int .i64) (.int .i64))))))))))), .val (.int .u64)], [(.agg, [.v (.int .u64), .v (.int .i64), .own (.st (.pair (.int .i64) (.pair .str (.pair (.list (.int .u8)) (.pair (.int .u64) (.pair (.int .i64) (.int .i64)))))))])]⟩
noncomputable def fns_session_RevokeModel : List (Nat × FnT) := [(23, ⟨sig_session_without, sh_session_without⟩), (23, ⟨sig_session_without_2, sh_session_without_2⟩), (23, ⟨sig_session_without_3, sh_session_without_3⟩)]
noncomputable def anns_session_RevokeModel : List (Nat × Ann) := []
noncomputable def tys_session_RevokeModel : List (Nat × Ty) := []
theorem d_session_RevokeModel (x : pd sig_session_RevokeModel.apt) : (runT (mkE fns_session_RevokeModel anns_session_RevokeModel tys_session_RevokeModel) F12 sig_session_RevokeModel x).den = sh_session_RevokeModel x := by kernel_rfl
theorem k_session_RevokeModel : FnOK S.lim 12 ⟨sig_session_RevokeModel, sh_session_RevokeModel⟩ := fn_ok' (fns := fns_session_RevokeModel) (anns := anns_session_RevokeModel) (tys := tys_session_RevokeModel) (.cons k_session_without (.cons k_session_without_2 (.cons k_session_without_3 .nil))) rfl rfl d_session_RevokeModel
noncomputable def sig_passkeylaw34_awake : Sig := ⟨[], [(.one, [.v .bool])]⟩
noncomputable def fns_passkeylaw34_awake : List (Nat × FnT) := [(9, ⟨sig_session_New, sh_session_New⟩), (10, ⟨sig_session_Open, sh_session_Open⟩), (11, ⟨sig_session_Check, sh_session_Check⟩), (14, ⟨sig_session_Close, sh_session_Close⟩), (12, ⟨sig_session_RevokeModel, sh_session_RevokeModel⟩)]
noncomputable def anns_passkeylaw34_awake : List (Nat × Ann) := []
noncomputable def tys_passkeylaw34_awake : List (Nat × Ty) := [(16, (.int .u8))]
theorem d_passkeylaw34_awake (x : pd sig_passkeylaw34_awake.apt) : (runT (mkE fns_passkeylaw34_awake anns_passkeylaw34_awake tys_passkeylaw34_awake) F6 sig_passkeylaw34_awake x).den = sh_passkeylaw34_awake x := by kernel_rfl
theorem k_passkeylaw34_awake : FnOK S.lim 6 ⟨sig_passkeylaw34_awake, sh_passkeylaw34_awake⟩ := fn_ok' (fns := fns_passkeylaw34_awake) (anns := anns_passkeylaw34_awake) (tys := tys_passkeylaw34_awake) (.cons k_session_New (.cons k_session_Open (.cons k_session_Check (.cons k_session_Close (.cons k_session_RevokeModel .nil))))) rfl rfl d_passkeylaw34_awake
noncomputable def sig_passkeylaw34_SessionMany : Sig := ⟨[.val (.int .u64), .val (.int .u8)], [(.one, [.v .bool])]⟩
noncomputable def fns_passkeylaw34_SessionMany : List (Nat × FnT) := [(9, ⟨sig_session_New, sh_session_New⟩), (10, ⟨sig_session_Open, sh_session_Open⟩), (11, ⟨sig_session_Check, sh_session_Check⟩), (6, ⟨sig_passkeylaw34_awake, sh_passkeylaw34_awake⟩)]
noncomputable def anns_passkeylaw34_SessionMany : List (Nat × Ann) := [(44, ⟨0, 79, [(5, .c (.vref 320 0)), (6, .c (.v (.int .i64))), (7, .c (.own 1000003 true)), (12, .c (.v (.int .i64))), (69, .c (.v (.int .i64))), (70, .c (.v .bool)), (71, .c (.v .bool)), (76, .c (.v .bool))], [(320, [320], .var true [(.v (.int .u64)), (.v (.int .i64)), (.lst (.st (.pair (.int .i64) (.pair .str (.pair (.list (.int .u8)) (.pair (.int .u64) (.pair (.int .i64) (.int .i64))))))) [1856, 1024])] false false), (1000003, [2880], .sl (.list (.int .u8)) false false)]⟩), (37, ⟨0, 79, [(5, .c (.vref 320 0)), (6, .c (.v (.int .i64))), (7, .c (.own 1000003 true)), (12, .c (.v (.int .i64)))], [(320, [320], .var true [(.v (.int .u64)), (.v (.int .i64)), (.lst (.st (.pair (.int .i64) (.pair .str (.pair (.list (.int .u8)) (.pair (.int .u64) (.pair (.int .i64) (.int .i64))))))) [1856, 1024])] false false), (1000003, [2880], .sl (.list (.int .u8)) false false)]⟩), (1000012, ⟨0, 79, [(5, .c (.vref 320 0)), (6, .c (.v (.int .i64))), (7, .c (.own 1000002 true))], [(320, [320], .var true [(.v (.int .u64)), (.v (.int .i64)), (.lst (.st (.pair (.int .i64) (.pair .str (.pair (.list (.int .u8)) (.pair (.int .u64) (.pair (.int .i64) (.int .i64))))))) [1856, 1024])] false false), (1000002, [2880], .sl (.list (.int .u8)) false false)]⟩), (23, ⟨0, 79, [(5, .c (.vref 320 0)), (6, .c (.v (.int .i64))), (7, .c (.own 1000002 true)), (8, .c (.v (.int .i64))), (9, .c (.vref 576 0)), (10, .c (.own 1857 false)), (36, .c (.vref 576 2)), (37, .c (.lst (.st (.pair (.int .i64) (.pair .str (.pair (.list (.int .u8)) (.pair (.int .u64) (.pair (.int .i64) (.int .i64))))))) [1856])), (38, .c (.v (.int .i64))), (39, .c (.v .bool))], [(320, [320], .var true [(.v (.int .u64)), (.v (.int .i64)), .any] false false), (1000002, [2880], .sl (.list (.int .u8)) false false), (576, [576], .var true [(.v (.int .u64)), (.v (.int .i64)), (.lst (.st (.pair (.int .i64) (.pair .str (.pair (.list (.int .u8)) (.pair (.int .u64) (.pair (.int .i64) (.int .i64))))))) [1856])] false false), (1857, [1857], .sl (.int .u8) false false)]⟩), (1000037, ⟨2, 79, [], []⟩), (12, ⟨0, 79, [(5, .c (.vref 320 0)), (6, .c (.v (.int .i64))), (7, .c (.own 1000001 true)), (8, .c (.v (.int .i64)))], [(320, [320], .var true [(.v (.int .u64)), (.v (.int .i64)), (.lst (.st (.pair (.int .i64) (.pair .str (.pair (.list (.int .u8)) (.pair (.int .u64) (.pair (.int .i64) (.int .i64))))))) [1856, 1024])] false false), (1000001, [2880], .sl (.list (.int .u8)) false false)]⟩), (19, ⟨0, 79, [(5, .c (.vref 320 0)), (6, .c (.v (.int .i64))), (7, .c (.own 2880 false)), (8, .c (.v (.int .i64))), (36, .c (.vref 576 2)), (37, .c (.lst (.st (.pair (.int .i64) (.pair .str (.pair (.list (.int .u8)) (.pair (.int .u64) (.pair (.int .i64) (.int .i64))))))) [1856])), (38, .c (.v (.int .i64))), (39, .c (.v .bool))], [(320, [320], .var true [(.v (.int .u64)), (.v (.int .i64)), (.lst (.st (.pair (.int .i64) (.pair .str (.pair (.list (.int .u8)) (.pair (.int .u64) (.pair (.int .i64) (.int .i64))))))) [1856])] false false), (576, [576], .var true [(.v (.int .u64)), (.v (.int .i64)), (.lst (.st (.pair (.int .i64) (.pair .str (.pair (.list (.int .u8)) (.pair (.int .u64) (.pair (.int .i64) (.int .i64))))))) [1856])] false false), (2880, [2880], .sl (.list (.int .u8)) false false)]⟩)]
noncomputable def tys_passkeylaw34_SessionMany : List (Nat × Ty) := [(44, (.list (.int .u8))), (45, (.list (.int .u8)))]
theorem d_passkeylaw34_SessionMany (x : pd sig_passkeylaw34_SessionMany.apt) : (runT (mkE fns_passkeylaw34_SessionMany anns_passkeylaw34_SessionMany tys_passkeylaw34_SessionMany) F4 sig_passkeylaw34_SessionMany x).den = sh_passkeylaw34_SessionMany x := by kernel_rfl
theorem k_passkeylaw34_SessionMany : FnOK S.lim 4 ⟨sig_passkeylaw34_SessionMany, sh_passkeylaw34_SessionMany⟩ := fn_ok' (fns := fns_passkeylaw34_SessionMany) (anns := anns_passkeylaw34_SessionMany) (tys := tys_passkeylaw34_SessionMany) (.cons k_session_New (.cons k_session_Open (.cons k_session_Check (.cons k_passkeylaw34_awake .nil)))) rfl rfl d_passkeylaw34_SessionMany
end Go.Vm.Ytippilcegapjfaa.SessionMany
