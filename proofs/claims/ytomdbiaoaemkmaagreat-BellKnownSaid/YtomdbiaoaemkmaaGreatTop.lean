/- the law runs, its callees by their programs -/
import Derived.Test.YtomdbiaoaemkmaaGreatNc
import Derived.Test.YtomdbiaoaemkmaaGreatEvC
namespace Go.Rv
noncomputable def knownS : CK := tabS [(5, (reevelaw19_awake_e 3000)), (6, (reevelaw19_rung_e 3000)), (7, (altE [.agg [.i .i64 none, .i .i64 none, .i .i64 none, .lst none none 5 none, .lst none none 13 none], .i .i64 none, .agg [.i .i64 none, .lst none none 1 none, .lst none none 0 (some []), .i .i64 none, .i .i64 none, .i .u64 none]] (bell_Do_e 3000) (bell_Do_i1_e 3000))), (8, (reevelaw19_way_e 3000)), (9, (cap_Good_e 3000))]
theorem knownS_ok : CK.OK knownS (L tab) := tabS_ok _ (List.forall_mem_cons.2 ⟨(reevelaw19_awake_ok 3000), List.forall_mem_cons.2 ⟨(reevelaw19_rung_ok 3000), List.forall_mem_cons.2 ⟨(altE_ok (bell_Do_ok 3000) (bell_Do_i1_ok 3000)), List.forall_mem_cons.2 ⟨(reevelaw19_way_ok 3000), List.forall_mem_cons.2 ⟨(cap_Good_ok 3000), (fun _ h => nomatch h)⟩⟩⟩⟩⟩)
set_option maxRecDepth 100000 in
theorem known : topF knownS 3000 m3 [] = some ⟨.b true, [], []⟩ := by kernel_rfl
theorem known_L : L tab 3 [] = some ⟨.b true, [], []⟩ := topF_le knownS_ok (n := 3000) (m := m3) (by kernel_rfl) known
end Go.Rv
