/- the law runs, its callees by their programs -/
import Derived.Test.YtomdbiaoaemkmaaNb
import Derived.Test.YtomdbiaoaemkmaaEvC
namespace Go.Rv
noncomputable def knownS : CK := tabS [(22, (reevelaw16_awake_e 3000)), (23, (reevelaw16_first_e 3000)), (24, (reevelaw16_does_e 3000)), (25, (reevelaw16_way_e 3000)), (26, (give_Put_e 3000))]
theorem knownS_ok : CK.OK knownS (L tab) := tabS_ok _ (List.forall_mem_cons.2 ⟨(reevelaw16_awake_ok 3000), List.forall_mem_cons.2 ⟨(reevelaw16_first_ok 3000), List.forall_mem_cons.2 ⟨(reevelaw16_does_ok 3000), List.forall_mem_cons.2 ⟨(reevelaw16_way_ok 3000), List.forall_mem_cons.2 ⟨(give_Put_ok 3000), (fun _ h => nomatch h)⟩⟩⟩⟩⟩)
set_option maxRecDepth 100000 in
theorem known : topF knownS 3000 m5 [] = some ⟨.b true, [], []⟩ := by kernel_rfl
theorem known_L : L tab 5 [] = some ⟨.b true, [], []⟩ := topF_le knownS_ok (n := 3000) (m := m5) (by kernel_rfl) known
end Go.Rv
