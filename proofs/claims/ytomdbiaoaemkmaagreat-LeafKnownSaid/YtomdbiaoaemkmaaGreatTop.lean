/- the law runs, its callees by their programs -/
import Derived.Test.YtomdbiaoaemkmaaGreatNc
import Derived.Test.YtomdbiaoaemkmaaGreatEvC
namespace Go.Rv
noncomputable def knownS : CK := tabS [(10, (reevelaw20_awake_e 3000)), (11, (reevelaw20_paged_e 3000)), (12, (altE [.agg [.i .i64 none, .i .i64 none, .i .i64 none, .lst none none 5 none, .lst none none 13 none], .i .i64 none, .agg [.i .i64 none, .lst none none 1 none, .lst none none 0 (some []), .i .i64 none, .i .i64 none, .i .u64 none]] (leaf_Do_e 3000) (leaf_Do_i1_e 3000))), (13, (reevelaw20_way_e 3000)), (14, (cap_Word_e 3000)), (15, (state_Same_e 3000))]
theorem knownS_ok : CK.OK knownS (L tab) := tabS_ok _ (List.forall_mem_cons.2 ⟨(reevelaw20_awake_ok 3000), List.forall_mem_cons.2 ⟨(reevelaw20_paged_ok 3000), List.forall_mem_cons.2 ⟨(altE_ok (leaf_Do_ok 3000) (leaf_Do_i1_ok 3000)), List.forall_mem_cons.2 ⟨(reevelaw20_way_ok 3000), List.forall_mem_cons.2 ⟨(cap_Word_ok 3000), List.forall_mem_cons.2 ⟨(state_Same_ok 3000), (fun _ h => nomatch h)⟩⟩⟩⟩⟩⟩)
set_option maxRecDepth 100000 in
theorem known : topF knownS 3000 m4 [] = some ⟨.b true, [], []⟩ := by kernel_rfl
theorem known_L : L tab 4 [] = some ⟨.b true, [], []⟩ := topF_le knownS_ok (n := 3000) (m := m4) (by kernel_rfl) known
end Go.Rv
