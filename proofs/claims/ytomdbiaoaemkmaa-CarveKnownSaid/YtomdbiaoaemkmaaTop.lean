/- the law runs, its callees by their programs -/
import Derived.Test.YtomdbiaoaemkmaaNb
import Derived.Test.YtomdbiaoaemkmaaEvC
namespace Go.Rv
noncomputable def knownS : CK := tabS [(15, (reevelaw15_awake_e 3000)), (16, (reevelaw15_first_e 3000)), (17, (reevelaw15_does_e 3000)), (18, (reevelaw15_way_e 3000)), (19, (state_Clone_e 3000)), (20, (altE [.agg [.i .i64 none, .i .i64 none, .i .i64 none, .lst none none 5 none, .lst none none 13 none], .i .i64 none, .agg [.i .i64 none, .lst none none 1 none, .lst none none 1 none, .i .i64 none, .i .i64 none, .i .u64 none]] (carve_Do_e 3000) (carve_Do_i1_e 3000))), (21, (carve_Used_e 3000))]
theorem knownS_ok : CK.OK knownS (L tab) := tabS_ok _ (List.forall_mem_cons.2 ⟨(reevelaw15_awake_ok 3000), List.forall_mem_cons.2 ⟨(reevelaw15_first_ok 3000), List.forall_mem_cons.2 ⟨(reevelaw15_does_ok 3000), List.forall_mem_cons.2 ⟨(reevelaw15_way_ok 3000), List.forall_mem_cons.2 ⟨(state_Clone_ok 3000), List.forall_mem_cons.2 ⟨(altE_ok (carve_Do_ok 3000) (carve_Do_i1_ok 3000)), List.forall_mem_cons.2 ⟨(carve_Used_ok 3000), (fun _ h => nomatch h)⟩⟩⟩⟩⟩⟩⟩)
set_option maxRecDepth 100000 in
theorem known : topF knownS 3000 m4 [] = some ⟨.b true, [], []⟩ := by kernel_rfl
theorem known_L : L tab 4 [] = some ⟨.b true, [], []⟩ := topF_le knownS_ok (n := 3000) (m := m4) (by kernel_rfl) known
end Go.Rv
