import Derived.Test.YtcjpmmbenlbndaaKNa
import Derived.Test.YtcjpmmbenlbndaaEvC
namespace Go.Rv
noncomputable def knownS : CK := tabS [(9, reevelaw12_awake_e 200), (14, state_New_e 200), (24, geo_Plain_e 200), (19, state_Gap_e 200), (11, state_Good_e 200), (17, state_Owner_e 200), (18, state_Free_e 200), (13, state_Holders_e 200), (23, state_Clone_e 200), (25, state_Forest_e 200), (20, state_Same_e 200), (26, reevelaw12_ints_e 200), (27, forest_Good_i1_e 200), (28, state_Inside_e 200), (12, cap_None_e 200)]
set_option maxRecDepth 100000 in
theorem known : topF knownS 200 m7 [] = some ⟨.b true, [], []⟩ := by kernel_rfl
theorem knownS_ok : CK.OK knownS (L tab) := tabS_ok _ (List.forall_mem_cons.2 ⟨reevelaw12_awake_ok 200, List.forall_mem_cons.2 ⟨state_New_ok 200, List.forall_mem_cons.2 ⟨geo_Plain_ok 200, List.forall_mem_cons.2 ⟨state_Gap_ok 200, List.forall_mem_cons.2 ⟨state_Good_ok 200, List.forall_mem_cons.2 ⟨state_Owner_ok 200, List.forall_mem_cons.2 ⟨state_Free_ok 200, List.forall_mem_cons.2 ⟨state_Holders_ok 200, List.forall_mem_cons.2 ⟨state_Clone_ok 200, List.forall_mem_cons.2 ⟨state_Forest_ok 200, List.forall_mem_cons.2 ⟨state_Same_ok 200, List.forall_mem_cons.2 ⟨reevelaw12_ints_ok 200, List.forall_mem_cons.2 ⟨forest_Good_i1_ok 200, List.forall_mem_cons.2 ⟨state_Inside_ok 200, List.forall_mem_cons.2 ⟨cap_None_ok 200, (fun _ h => nomatch h)⟩⟩⟩⟩⟩⟩⟩⟩⟩⟩⟩⟩⟩⟩⟩)
theorem known_L : L tab 7 [] = some ⟨.b true, [], []⟩ := topF_le knownS_ok (n := 200) (m := m7) (by kernel_rfl) known
end Go.Rv
