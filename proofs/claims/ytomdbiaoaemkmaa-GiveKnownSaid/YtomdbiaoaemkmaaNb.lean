/- functions as programs of ours, and their ties, part 2 -/
import Derived.Test.YtomdbiaoaemkmaaNa
import Derived.KernelRfl
namespace Go.Rv
/-! reeve/forest.Good -/
abbrev forest_Good_T : Type 1 := (ρ : Type) → Bool → Bool → Rows → (Bool → Option ρ) → Option ρ
def forest_Good_E (G : forest_Good_T) : EK := fun ρ args K => decL [.agg [.lst none none 1 none]] args fun c => G ρ c.1.1.1 c.1.1.2.1 c.1.1.2.2 (fun w0 => K ⟨.b w0, [], []⟩)
structure forest_Good_G where
  mk ::
  forest_Forest_is : forest_Forest_is_T
abbrev forest_Good_l4_V : Type := Int
noncomputable def forest_Good_l4_s (G : forest_Good_G) {ρ : Type} (_n : Nat) (_p0 : Bool) (_p1 : Bool) (p2 : Rows) (p3 : Int) (p4 : Bool) (p5 : Bool) (p6 : Rows) (k0 : (Option ρ)) (k1 : (Option ρ)) (rec' : forest_Good_l4_V → Option ρ) : forest_Good_l4_V → Option ρ
  | v =>
  bif decide ((v : Int) < p3) then
    rowT [.i .i64] p2 v fun c0 =>
    bif ((c0.1 : Int) != (-2)) then
      bif ((c0.1 : Int) != (-1)) then
        G.forest_Forest_is ρ p4 p5 p6 c0.1 (fun w1_0 =>
          bif w1_0 then
            rec' ((IntKind.wrap .i64 (v + 1)))
          else k0)
      else rec' ((IntKind.wrap .i64 (v + 1)))
    else rec' ((IntKind.wrap .i64 (v + 1)))
  else k1
noncomputable def forest_Good_l4 (G : forest_Good_G) {ρ : Type} (n : Nat) (p0 : Bool) (p1 : Bool) (p2 : Rows) (p3 : Int) (p4 : Bool) (p5 : Bool) (p6 : Rows) (k0 : (Option ρ)) (k1 : (Option ρ)) (v : forest_Good_l4_V) : Option ρ := fuelN (forest_Good_l4_s G n p0 p1 p2 p3 p4 p5 p6 k0 k1) n v
def forest_Good_l4_enc (p0 : Bool) (p1 : Bool) (p2 : Rows) (p3 : Int) (p4 : Bool) (p5 : Bool) (p6 : Rows) : forest_Good_l4_V → St
  | v => ⟨[(1, .ptr 0 1 1 0 0), (13, .lst p0 p1 1 p2), (14, .i .i64 p3), (15, .i .i64 v)], [.row 1 true false [[.lst p4 p5 1 p6]]]⟩
abbrev forest_Good_l14_V : Type := Int × Int
noncomputable def forest_Good_l14_s (G : forest_Good_G) {ρ : Type} (_n : Nat) (_p1 : Int) (_p2 : Int) (p3 : Bool) (p4 : Bool) (p5 : Rows) (k0 : (Option ρ)) (k1 : (Option ρ)) (rec' : forest_Good_l14_V → Option ρ) : forest_Good_l14_V → Option ρ
  | v =>
  G.forest_Forest_is ρ p3 p4 p5 v.2 (fun w0_0 =>
    bif w0_0 then
      bif decide ((v.1 : Int) > (((List.length (p5 : Rows)) : Nat) : Int)) then
        k0
      else rowT [.i .i64] p5 v.2 fun c1 =>
      rec' ((IntKind.wrap .i64 (v.1 + 1)), c1.1)
    else k1)
noncomputable def forest_Good_l14 (G : forest_Good_G) {ρ : Type} (n : Nat) (p1 : Int) (p2 : Int) (p3 : Bool) (p4 : Bool) (p5 : Rows) (k0 : (Option ρ)) (k1 : (Option ρ)) (v : forest_Good_l14_V) : Option ρ := fuelN (forest_Good_l14_s G n p1 p2 p3 p4 p5 k0 k1) n v
def forest_Good_l14_enc (p1 : Int) (p2 : Int) (p3 : Bool) (p4 : Bool) (p5 : Rows) : forest_Good_l14_V → St
  | v => ⟨[(1, .ptr 0 1 1 0 0), (6, .i .i64 v.1), (7, .i .i64 v.2), (34, .i .i64 p1), (35, .i .i64 p2)], [.row 1 true false [[.lst p3 p4 1 p5]]]⟩
abbrev forest_Good_l10_V : Type := Int
noncomputable def forest_Good_l10_s (G : forest_Good_G) {ρ : Type} (n : Nat) (p0 : Int) (p1 : Bool) (p2 : Bool) (p3 : Rows) (k0 : (Option ρ)) (k1 : (Option ρ)) (rec' : forest_Good_l10_V → Option ρ) : forest_Good_l10_V → Option ρ
  | v =>
  bif decide ((v : Int) < p0) then
    forest_Good_l14 G n p0 v p1 p2 p3 (k0) (rec' ((IntKind.wrap .i64 (v + 1)))) (0, v)
  else k1
noncomputable def forest_Good_l10 (G : forest_Good_G) {ρ : Type} (n : Nat) (p0 : Int) (p1 : Bool) (p2 : Bool) (p3 : Rows) (k0 : (Option ρ)) (k1 : (Option ρ)) (v : forest_Good_l10_V) : Option ρ := fuelN (forest_Good_l10_s G n p0 p1 p2 p3 k0 k1) n v
def forest_Good_l10_enc (p0 : Int) (p1 : Bool) (p2 : Bool) (p3 : Rows) : forest_Good_l10_V → St
  | v => ⟨[(1, .ptr 0 1 1 0 0), (34, .i .i64 p0), (35, .i .i64 v)], [.row 1 true false [[.lst p1 p2 1 p3]]]⟩
noncomputable def forest_Good_s (G : forest_Good_G) {ρ : Type} (n : Nat) (a0 : Bool) (a1 : Bool) (a2 : Rows) (k0 : (Bool → Option ρ)) : Option ρ :=
  bif decide (((((List.length (a2 : Rows)) : Nat) : Int) : Int) > 96) then
    k0 false
  else forest_Good_l4 G n a0 a1 a2 (((List.length (a2 : Rows)) : Nat) : Int) a0 a1 a2 (k0 false) (forest_Good_l10 G n (((List.length (a2 : Rows)) : Nat) : Int) a0 a1 a2 (k0 false) (k0 true) (0)) (0)
noncomputable def forest_Good_g (n : Nat) : forest_Good_G := ⟨forest_Forest_is n⟩
noncomputable def forest_Good (n : Nat) : forest_Good_T := fun _ρ a0 a1 a2 k0 => forest_Good_s (forest_Good_g n) n a0 a1 a2 k0
noncomputable def forest_Good_e (n : Nat) : EK := forest_Good_E (forest_Good n)
def forest_Good_S (G : forest_Good_G) : CK := tabS [(92, forest_Forest_is_E G.forest_Forest_is)]
theorem forest_Good_Sok (n : Nat) : CK.OK (forest_Good_S (forest_Good_g n)) (L tab) := tabS_ok _ (List.forall_mem_cons.2 ⟨(forest_Forest_is_ok n), (fun _ h => nomatch h)⟩)
def forest_Good_hs : HintC := hintL [(17, [.i .i64]), (45, [.i .i64])]
def forest_Good_c4 : Nat × List Nat × List Nat × MC := loopAt 4 m62
noncomputable def forest_Good_l4_d (G : forest_Good_G) (n : Nat) : Go.Rv.LE := fun _ρ h K => decSt [(1, .ptr 0 1 0 (some 1) (some 0)), (13, .lst none none 1 none), (14, .i .i64 none), (15, .i .i64 none)] [.row 1 true false (some [[.lst none none 1 none]])] h fun a b => forest_Good_l4 G n a.2.1.1 a.2.1.2.1 a.2.1.2.2 a.2.2.1 b.1.1.1.1 b.1.1.1.2.1 b.1.1.1.2.2 (K .ret ⟨[(1, .ptr 0 1 1 0 0), (2, .b false)], [.row 1 true false [[.lst b.1.1.1.1 b.1.1.1.2.1 1 b.1.1.1.2.2]]]⟩) (K (.exit 0) ⟨[(1, .ptr 0 1 1 0 0), (2, .u)], [.row 1 true false [[.lst b.1.1.1.1 b.1.1.1.2.1 1 b.1.1.1.2.2]]]⟩) (a.2.2.2.1)
noncomputable def forest_Good_d4 (G : forest_Good_G) (n : Nat) : Go.Rv.LE := forest_Good_l4_d G n
def forest_Good_c14 : Nat × List Nat × List Nat × MC := loopAt 14 m62
noncomputable def forest_Good_l14_d (G : forest_Good_G) (n : Nat) : Go.Rv.LE := fun _ρ h K => decSt [(1, .ptr 0 1 0 (some 1) (some 0)), (6, .i .i64 none), (7, .i .i64 none), (34, .i .i64 none), (35, .i .i64 none)] [.row 1 true false (some [[.lst none none 1 none]])] h fun a b => forest_Good_l14 G n a.2.2.2.1 a.2.2.2.2.1 b.1.1.1.1 b.1.1.1.2.1 b.1.1.1.2.2 (K .ret ⟨[(1, .ptr 0 1 1 0 0), (2, .b false), (34, .i .i64 a.2.2.2.1), (35, .i .i64 a.2.2.2.2.1)], [.row 1 true false [[.lst b.1.1.1.1 b.1.1.1.2.1 1 b.1.1.1.2.2]]]⟩) (K (.exit 4) ⟨[(1, .ptr 0 1 1 0 0), (2, .u), (34, .i .i64 a.2.2.2.1), (35, .i .i64 a.2.2.2.2.1)], [.row 1 true false [[.lst b.1.1.1.1 b.1.1.1.2.1 1 b.1.1.1.2.2]]]⟩) (a.2.1, a.2.2.1)
noncomputable def forest_Good_d14 (G : forest_Good_G) (n : Nat) : Go.Rv.LE := forest_Good_l14_d G n
def forest_Good_c10 : Nat × List Nat × List Nat × MC := loopAt 10 m62
noncomputable def forest_Good_l10_d (G : forest_Good_G) (n : Nat) : Go.Rv.LE := fun _ρ h K => decSt [(1, .ptr 0 1 0 (some 1) (some 0)), (34, .i .i64 none), (35, .i .i64 none)] [.row 1 true false (some [[.lst none none 1 none]])] h fun a b => forest_Good_l10 G n a.2.1 b.1.1.1.1 b.1.1.1.2.1 b.1.1.1.2.2 (K .ret ⟨[(2, .b false)], [.row 1 true false [[.lst b.1.1.1.1 b.1.1.1.2.1 1 b.1.1.1.2.2]]]⟩) (K (.exit 2) ⟨[(2, .u)], [.row 1 true false [[.lst b.1.1.1.1 b.1.1.1.2.1 1 b.1.1.1.2.2]]]⟩) (a.2.2.1)
noncomputable def forest_Good_d10 (G : forest_Good_G) (n : Nat) : Go.Rv.LE := forest_Good_l10_d G n
noncomputable def forest_Good_lp (G : forest_Good_G) (n : Nat) : LK := tabL [(4, forest_Good_d4 G n), (14, forest_Good_d14 G n), (10, forest_Good_d10 G n)]
theorem forest_Good_l4_k (G : forest_Good_G) {ρ : Type} (n : Nat) (p0 : Bool) (p1 : Bool) (p2 : Rows) (p3 : Int) (p4 : Bool) (p5 : Bool) (p6 : Rows) (K : Ex → St → Option ρ) (N : St → Option ρ) : ∀ v, roundC (forest_Good_S G) forest_Good_hs (forest_Good_lp G n) forest_Good_c4 1 N K (forest_Good_l4_enc p0 p1 p2 p3 p4 p5 p6 v) = forest_Good_l4_s G n p0 p1 p2 p3 p4 p5 p6 (K .ret ⟨[(1, .ptr 0 1 1 0 0), (2, .b false)], [.row 1 true false [[.lst p4 p5 1 p6]]]⟩) (K (.exit 0) ⟨[(1, .ptr 0 1 1 0 0), (2, .u)], [.row 1 true false [[.lst p4 p5 1 p6]]]⟩) (fun v => N (forest_Good_l4_enc p0 p1 p2 p3 p4 p5 p6 v)) v
  | v => by kernel_rfl
theorem forest_Good_l4_dok (n : Nat) : LE.OK (forest_Good_l4_d (forest_Good_g n) n) (L tab) forest_Good_c4 := LE.shp (fun _ _ _ => rfl) fun ρ K y a b e => LE.rounds (forest_Good_Sok n) (LK.of (l := []) (by kernel_rfl) ((fun _ h => nomatch h))) (forest_Good_l4_k (forest_Good_g n) n _ _ _ _ _ _ _ K) (by kernel_rfl) (by kernel_rfl) e
theorem forest_Good_d4_ok (n : Nat) : LE.OK (forest_Good_d4 (forest_Good_g n) n) (L tab) forest_Good_c4 := forest_Good_l4_dok n
theorem forest_Good_l14_k (G : forest_Good_G) {ρ : Type} (n : Nat) (p1 : Int) (p2 : Int) (p3 : Bool) (p4 : Bool) (p5 : Rows) (K : Ex → St → Option ρ) (N : St → Option ρ) : ∀ v, roundC (forest_Good_S G) forest_Good_hs (forest_Good_lp G n) forest_Good_c14 1 N K (forest_Good_l14_enc p1 p2 p3 p4 p5 v) = forest_Good_l14_s G n p1 p2 p3 p4 p5 (K .ret ⟨[(1, .ptr 0 1 1 0 0), (2, .b false), (34, .i .i64 p1), (35, .i .i64 p2)], [.row 1 true false [[.lst p3 p4 1 p5]]]⟩) (K (.exit 4) ⟨[(1, .ptr 0 1 1 0 0), (2, .u), (34, .i .i64 p1), (35, .i .i64 p2)], [.row 1 true false [[.lst p3 p4 1 p5]]]⟩) (fun v => N (forest_Good_l14_enc p1 p2 p3 p4 p5 v)) v
  | v => by kernel_rfl
theorem forest_Good_l14_dok (n : Nat) : LE.OK (forest_Good_l14_d (forest_Good_g n) n) (L tab) forest_Good_c14 := LE.shp (fun _ _ _ => rfl) fun ρ K y a b e => LE.rounds (forest_Good_Sok n) (LK.of (l := []) (by kernel_rfl) ((fun _ h => nomatch h))) (forest_Good_l14_k (forest_Good_g n) n _ _ _ _ _ K) (by kernel_rfl) (by kernel_rfl) e
theorem forest_Good_d14_ok (n : Nat) : LE.OK (forest_Good_d14 (forest_Good_g n) n) (L tab) forest_Good_c14 := forest_Good_l14_dok n
theorem forest_Good_l10_k (G : forest_Good_G) {ρ : Type} (n : Nat) (p0 : Int) (p1 : Bool) (p2 : Bool) (p3 : Rows) (K : Ex → St → Option ρ) (N : St → Option ρ) : ∀ v, roundC (forest_Good_S G) forest_Good_hs (forest_Good_lp G n) forest_Good_c10 1 N K (forest_Good_l10_enc p0 p1 p2 p3 v) = forest_Good_l10_s G n p0 p1 p2 p3 (K .ret ⟨[(2, .b false)], [.row 1 true false [[.lst p1 p2 1 p3]]]⟩) (K (.exit 2) ⟨[(2, .u)], [.row 1 true false [[.lst p1 p2 1 p3]]]⟩) (fun v => N (forest_Good_l10_enc p0 p1 p2 p3 v)) v
  | v => by kernel_rfl
theorem forest_Good_l10_dok (n : Nat) : LE.OK (forest_Good_l10_d (forest_Good_g n) n) (L tab) forest_Good_c10 := LE.shp (fun _ _ _ => rfl) fun ρ K y a b e => LE.rounds (forest_Good_Sok n) (LK.of (l := [forest_Good_c14]) (by kernel_rfl) (List.forall_mem_cons.2 ⟨LE.at (e := forest_Good_d14 (forest_Good_g n) n) (by kernel_rfl) (forest_Good_d14_ok n), (fun _ h => nomatch h)⟩)) (forest_Good_l10_k (forest_Good_g n) n _ _ _ _ K) (by kernel_rfl) (by kernel_rfl) e
theorem forest_Good_d10_ok (n : Nat) : LE.OK (forest_Good_d10 (forest_Good_g n) n) (L tab) forest_Good_c10 := forest_Good_l10_dok n
theorem forest_Good_k (G : forest_Good_G) {ρ : Type} (n : Nat) (a0 : Bool) (a1 : Bool) (a2 : Rows) (K : Res → Option ρ) : runC (forest_Good_S G) forest_Good_hs (forest_Good_lp G n) m62 [.agg [.lst a0 a1 1 a2]] K = forest_Good_s G n a0 a1 a2 (fun w0 => K ⟨.b w0, [], []⟩) := by kernel_rfl
theorem forest_Good_ok (n : Nat) : EK.OK (forest_Good_e n) 62 (L tab) := EK.shp (fun _ _ _ => rfl) fun ρ K y c e => EK.run (forest_Good_Sok n) (by kernel_rfl) (MF.LKOK.of (LK.of (l := [forest_Good_c4, forest_Good_c10]) (by kernel_rfl) (List.forall_mem_cons.2 ⟨LE.at (e := forest_Good_d4 (forest_Good_g n) n) (by kernel_rfl) (forest_Good_d4_ok n), List.forall_mem_cons.2 ⟨LE.at (e := forest_Good_d10 (forest_Good_g n) n) (by kernel_rfl) (forest_Good_d10_ok n), (fun _ h => nomatch h)⟩⟩))) (forest_Good_k (forest_Good_g n) n _ _ _ K) (by kernel_rfl) e

/-! reeve/right.of -/
abbrev right_of_T : Type 1 := (ρ : Type) → Int → (Int → Option ρ) → Option ρ
def right_of_E (G : right_of_T) : EK := fun ρ args K => decL [.i .i64 none] args fun c => G ρ c.1 (fun w0 => K ⟨.i .i64 w0, [], []⟩)
structure right_of_G where
  mk ::
  right_Good : right_Good_T
noncomputable def right_of_s (G : right_of_G) {ρ : Type} (_n : Nat) (a0 : Int) (k0 : (Int → Option ρ)) : Option ρ :=
  G.right_Good ρ a0 (fun w0_0 =>
    bif w0_0 then
      k0 a0
    else k0 0)
noncomputable def right_of_g (n : Nat) : right_of_G := ⟨right_Good n⟩
noncomputable def right_of (n : Nat) : right_of_T := fun _ρ a0 k0 => right_of_s (right_of_g n) n a0 k0
noncomputable def right_of_e (n : Nat) : EK := right_of_E (right_of n)
def right_of_S (G : right_of_G) : CK := tabS [(55, right_Good_E G.right_Good)]
theorem right_of_Sok (n : Nat) : CK.OK (right_of_S (right_of_g n)) (L tab) := tabS_ok _ (List.forall_mem_cons.2 ⟨(right_Good_ok n), (fun _ h => nomatch h)⟩)
def right_of_hs : HintC := hintL []
noncomputable def right_of_lp (_G : right_of_G) (_n : Nat) : LK := tabL []
theorem right_of_k (G : right_of_G) {ρ : Type} (n : Nat) (a0 : Int) (K : Res → Option ρ) : runC (right_of_S G) right_of_hs (right_of_lp G n) m128 [.i .i64 a0] K = right_of_s G n a0 (fun w0 => K ⟨.i .i64 w0, [], []⟩) := by kernel_rfl
theorem right_of_ok (n : Nat) : EK.OK (right_of_e n) 128 (L tab) := EK.shp (fun _ _ _ => rfl) fun ρ K y c e => EK.run (right_of_Sok n) (by kernel_rfl) (MF.LKOK.of (LK.of (l := []) (by kernel_rfl) ((fun _ h => nomatch h)))) (right_of_k (right_of_g n) n _ K) (by kernel_rfl) e

/-! reeve/right.Less -/
abbrev right_Less_T : Type 1 := (ρ : Type) → Int → Int → (Int → Option ρ) → Option ρ
def right_Less_E (G : right_Less_T) : EK := fun ρ args K => decL [.i .i64 none, .i .i64 none] args fun c => G ρ c.1 c.2.1 (fun w0 => K ⟨.i .i64 w0, [], []⟩)
structure right_Less_G where
  mk ::
  right_of : right_of_T
noncomputable def right_Less_s (G : right_Less_G) {ρ : Type} (_n : Nat) (a0 : Int) (a1 : Int) (k0 : (Int → Option ρ)) : Option ρ :=
  G.right_of ρ a0 (fun w0_0 =>
    G.right_of ρ a1 (fun w1_0 =>
      k0 (IntKind.wrap .i64 (BitVec.ofInt (IntKind.bits .i64) w0_0 &&& ~~~ BitVec.ofInt (IntKind.bits .i64) w1_0).toNat)))
noncomputable def right_Less_g (n : Nat) : right_Less_G := ⟨right_of n⟩
noncomputable def right_Less (n : Nat) : right_Less_T := fun _ρ a0 a1 k0 => right_Less_s (right_Less_g n) n a0 a1 k0
noncomputable def right_Less_e (n : Nat) : EK := right_Less_E (right_Less n)
def right_Less_S (G : right_Less_G) : CK := tabS [(128, right_of_E G.right_of)]
theorem right_Less_Sok (n : Nat) : CK.OK (right_Less_S (right_Less_g n)) (L tab) := tabS_ok _ (List.forall_mem_cons.2 ⟨(right_of_ok n), (fun _ h => nomatch h)⟩)
def right_Less_hs : HintC := hintL []
noncomputable def right_Less_lp (_G : right_Less_G) (_n : Nat) : LK := tabL []
theorem right_Less_k (G : right_Less_G) {ρ : Type} (n : Nat) (a0 : Int) (a1 : Int) (K : Res → Option ρ) : runC (right_Less_S G) right_Less_hs (right_Less_lp G n) m108 [.i .i64 a0, .i .i64 a1] K = right_Less_s G n a0 a1 (fun w0 => K ⟨.i .i64 w0, [], []⟩) := by kernel_rfl
theorem right_Less_ok (n : Nat) : EK.OK (right_Less_e n) 108 (L tab) := EK.shp (fun _ _ _ => rfl) fun ρ K y c e => EK.run (right_Less_Sok n) (by kernel_rfl) (MF.LKOK.of (LK.of (l := []) (by kernel_rfl) ((fun _ h => nomatch h)))) (right_Less_k (right_Less_g n) n _ _ K) (by kernel_rfl) e

/-! reeve/right.Within -/
abbrev right_Within_T : Type 1 := (ρ : Type) → Int → Int → (Bool → Option ρ) → Option ρ
def right_Within_E (G : right_Within_T) : EK := fun ρ args K => decL [.i .i64 none, .i .i64 none] args fun c => G ρ c.1 c.2.1 (fun w0 => K ⟨.b w0, [], []⟩)
structure right_Within_G where
  mk ::
  right_Less : right_Less_T
noncomputable def right_Within_s (G : right_Within_G) {ρ : Type} (_n : Nat) (a0 : Int) (a1 : Int) (k0 : (Bool → Option ρ)) : Option ρ :=
  G.right_Less ρ a0 a1 (fun w0_0 =>
    bif ((w0_0 : Int) == 0) then
      k0 true
    else k0 false)
noncomputable def right_Within_g (n : Nat) : right_Within_G := ⟨right_Less n⟩
noncomputable def right_Within (n : Nat) : right_Within_T := fun _ρ a0 a1 k0 => right_Within_s (right_Within_g n) n a0 a1 k0
noncomputable def right_Within_e (n : Nat) : EK := right_Within_E (right_Within n)
def right_Within_S (G : right_Within_G) : CK := tabS [(108, right_Less_E G.right_Less)]
theorem right_Within_Sok (n : Nat) : CK.OK (right_Within_S (right_Within_g n)) (L tab) := tabS_ok _ (List.forall_mem_cons.2 ⟨(right_Less_ok n), (fun _ h => nomatch h)⟩)
def right_Within_hs : HintC := hintL []
noncomputable def right_Within_lp (_G : right_Within_G) (_n : Nat) : LK := tabL []
theorem right_Within_k (G : right_Within_G) {ρ : Type} (n : Nat) (a0 : Int) (a1 : Int) (K : Res → Option ρ) : runC (right_Within_S G) right_Within_hs (right_Within_lp G n) m79 [.i .i64 a0, .i .i64 a1] K = right_Within_s G n a0 a1 (fun w0 => K ⟨.b w0, [], []⟩) := by kernel_rfl
theorem right_Within_ok (n : Nat) : EK.OK (right_Within_e n) 79 (L tab) := EK.shp (fun _ _ _ => rfl) fun ρ K y c e => EK.run (right_Within_Sok n) (by kernel_rfl) (MF.LKOK.of (LK.of (l := []) (by kernel_rfl) ((fun _ h => nomatch h)))) (right_Within_k (right_Within_g n) n _ _ K) (by kernel_rfl) e

/-! reeve/cap.Less -/
abbrev cap_Less_T : Type 1 := (ρ : Type) → Int → Int → Int → Int → Int → Int → Int → Int → (Bool → Option ρ) → Option ρ
def cap_Less_E (G : cap_Less_T) : EK := fun ρ args K => decL [.agg [.i .i64 none, .i .i64 none, .i .i64 none, .i .i64 none], .agg [.i .i64 none, .i .i64 none, .i .i64 none, .i .i64 none]] args fun c => G ρ c.1.1 c.1.2.1 c.1.2.2.1 c.1.2.2.2.1 c.2.1.1 c.2.1.2.1 c.2.1.2.2.1 c.2.1.2.2.2.1 (fun w0 => K ⟨.b w0, [], []⟩)
structure cap_Less_G where
  mk ::
  cap_None : cap_None_T
  right_Within : right_Within_T
noncomputable def cap_Less_s (G : cap_Less_G) {ρ : Type} (_n : Nat) (a0 : Int) (a1 : Int) (a2 : Int) (a3 : Int) (a4 : Int) (a5 : Int) (a6 : Int) (a7 : Int) (k0 : (Bool → Option ρ)) : Option ρ :=
  G.cap_None ρ a0 a1 a2 a3 (fun w0_0 =>
    bif w0_0 then
      k0 true
    else bif ((a0 : Int) == a4) then
      bif ((a1 : Int) == a5) then
        G.right_Within ρ a2 a6 (fun w1_0 =>
          bif w1_0 then
            bif ((a7 : Int) == 0) then
              k0 true
            else bif ((a7 : Int) == a3) then
              k0 true
            else k0 false
          else k0 false)
      else k0 false
    else k0 false)
noncomputable def cap_Less_g (n : Nat) : cap_Less_G := ⟨cap_None n, right_Within n⟩
noncomputable def cap_Less (n : Nat) : cap_Less_T := fun _ρ a0 a1 a2 a3 a4 a5 a6 a7 k0 => cap_Less_s (cap_Less_g n) n a0 a1 a2 a3 a4 a5 a6 a7 k0
noncomputable def cap_Less_e (n : Nat) : EK := cap_Less_E (cap_Less n)
def cap_Less_S (G : cap_Less_G) : CK := tabS [(50, cap_None_E G.cap_None), (79, right_Within_E G.right_Within)]
theorem cap_Less_Sok (n : Nat) : CK.OK (cap_Less_S (cap_Less_g n)) (L tab) := tabS_ok _ (List.forall_mem_cons.2 ⟨(cap_None_ok n), List.forall_mem_cons.2 ⟨(right_Within_ok n), (fun _ h => nomatch h)⟩⟩)
def cap_Less_hs : HintC := hintL []
noncomputable def cap_Less_lp (_G : cap_Less_G) (_n : Nat) : LK := tabL []
theorem cap_Less_k (G : cap_Less_G) {ρ : Type} (n : Nat) (a0 : Int) (a1 : Int) (a2 : Int) (a3 : Int) (a4 : Int) (a5 : Int) (a6 : Int) (a7 : Int) (K : Res → Option ρ) : runC (cap_Less_S G) cap_Less_hs (cap_Less_lp G n) m52 [.agg [.i .i64 a0, .i .i64 a1, .i .i64 a2, .i .i64 a3], .agg [.i .i64 a4, .i .i64 a5, .i .i64 a6, .i .i64 a7]] K = cap_Less_s G n a0 a1 a2 a3 a4 a5 a6 a7 (fun w0 => K ⟨.b w0, [], []⟩) := by kernel_rfl
theorem cap_Less_ok (n : Nat) : EK.OK (cap_Less_e n) 52 (L tab) := EK.shp (fun _ _ _ => rfl) fun ρ K y c e => EK.run (cap_Less_Sok n) (by kernel_rfl) (MF.LKOK.of (LK.of (l := []) (by kernel_rfl) ((fun _ h => nomatch h)))) (cap_Less_k (cap_Less_g n) n _ _ _ _ _ _ _ _ K) (by kernel_rfl) e

/-! (reeve/state.State).allowed -/
abbrev state_State_allowed_T : Type 1 := (ρ : Type) → Int → Int → Int → Bool → Bool → Rows → Bool → Bool → Rows → (Bool → Option ρ) → Option ρ
def state_State_allowed_E (G : state_State_allowed_T) : EK := fun ρ args K => decL [.agg [.i .i64 none, .i .i64 none, .i .i64 none, .lst none none 5 none, .lst none none 13 none]] args fun c => G ρ c.1.1 c.1.2.1 c.1.2.2.1 c.1.2.2.2.1.1 c.1.2.2.2.1.2.1 c.1.2.2.2.1.2.2 c.1.2.2.2.2.1.1 c.1.2.2.2.2.1.2.1 c.1.2.2.2.2.1.2.2 (fun w0 => K ⟨.b w0, [], []⟩)
structure state_State_allowed_G where
  mk ::
  cap_Less : cap_Less_T
abbrev state_State_allowed_l6_V : Type := Int × Int
noncomputable def state_State_allowed_l6_s (G : state_State_allowed_G) {ρ : Type} (_n : Nat) (_p1 : Bool) (_p2 : Bool) (_p3 : Rows) (_p4 : Int) (_p5 : Int) (p6 : Int) (_p7 : Int) (_p8 : Int) (_p9 : Int) (_p10 : Bool) (_p11 : Bool) (p12 : Rows) (_p13 : Bool) (_p14 : Bool) (_p15 : Rows) (p16 : Int) (p17 : Int) (p18 : Int) (p19 : Int) (_p20 : Int) (k0 : (Option ρ)) (k1 : (Option ρ)) (rec' : state_State_allowed_l6_V → Option ρ) : state_State_allowed_l6_V → Option ρ
  | v =>
  bif decide ((v.2 : Int) < p6) then
    bif decide ((v.1 : Int) < 0) then
      k0
    else rowT [.i .i64, .i .i64, .i .i64, .i .i64, .i .i64] p12 v.1 fun c0 =>
    G.cap_Less ρ p16 p17 p18 p19 c0.1 c0.2.1 c0.2.2.1 c0.2.2.2.1 (fun w1_0 =>
      bif w1_0 then
        rec' (c0.2.2.2.2.1, (IntKind.wrap .i64 (v.2 + 1)))
      else bif ((c0.1 : Int) != 1) then
        k1
      else bif ((p17 : Int) == c0.2.1) then
        k1
      else rec' (c0.2.2.2.2.1, (IntKind.wrap .i64 (v.2 + 1))))
  else k0
noncomputable def state_State_allowed_l6 (G : state_State_allowed_G) {ρ : Type} (n : Nat) (p1 : Bool) (p2 : Bool) (p3 : Rows) (p4 : Int) (p5 : Int) (p6 : Int) (p7 : Int) (p8 : Int) (p9 : Int) (p10 : Bool) (p11 : Bool) (p12 : Rows) (p13 : Bool) (p14 : Bool) (p15 : Rows) (p16 : Int) (p17 : Int) (p18 : Int) (p19 : Int) (p20 : Int) (k0 : (Option ρ)) (k1 : (Option ρ)) (v : state_State_allowed_l6_V) : Option ρ := fuelN (state_State_allowed_l6_s G n p1 p2 p3 p4 p5 p6 p7 p8 p9 p10 p11 p12 p13 p14 p15 p16 p17 p18 p19 p20 k0 k1) n v
def state_State_allowed_l6_enc (p1 : Bool) (p2 : Bool) (p3 : Rows) (p4 : Int) (p5 : Int) (p6 : Int) (p7 : Int) (p8 : Int) (p9 : Int) (p10 : Bool) (p11 : Bool) (p12 : Rows) (p13 : Bool) (p14 : Bool) (p15 : Rows) (p16 : Int) (p17 : Int) (p18 : Int) (p19 : Int) (p20 : Int) : state_State_allowed_l6_V → St
  | v => ⟨[(1, .ptr 0 1 5 0 0), (4, .ptr 1 1 5 0 0), (5, .i .i64 v.1), (8, .lst p1 p2 5 p3), (9, .i .i64 p4), (10, .i .i64 p5), (18, .i .i64 p6), (19, .i .i64 v.2)], [.row 5 true false [[.i .i64 p7, .i .i64 p8, .i .i64 p9, .lst p10 p11 5 p12, .lst p13 p14 13 p15]], .row 5 true false [[.i .i64 p16, .i .i64 p17, .i .i64 p18, .i .i64 p19, .i .i64 p20]]]⟩
abbrev state_State_allowed_l2_V : Type := Int
noncomputable def state_State_allowed_l2_s (G : state_State_allowed_G) {ρ : Type} (n : Nat) (p0 : Bool) (p1 : Bool) (p2 : Rows) (p3 : Int) (p4 : Int) (p5 : Int) (p6 : Int) (p7 : Bool) (p8 : Bool) (p9 : Rows) (p10 : Bool) (p11 : Bool) (p12 : Rows) (k0 : (Option ρ)) (k1 : (Option ρ)) (rec' : state_State_allowed_l2_V → Option ρ) : state_State_allowed_l2_V → Option ρ
  | v =>
  bif decide ((v : Int) < p3) then
    rowT [.i .i64, .i .i64, .i .i64, .i .i64, .i .i64] p2 v fun c0 =>
    state_State_allowed_l6 G n p0 p1 p2 p3 v (((List.length (p9 : Rows)) : Nat) : Int) p4 p5 p6 p7 p8 p9 p10 p11 p12 c0.1 c0.2.1 c0.2.2.1 c0.2.2.2.1 c0.2.2.2.2.1 (rec' ((IntKind.wrap .i64 (v + 1)))) (k0) (c0.2.2.2.2.1, 0)
  else k1
noncomputable def state_State_allowed_l2 (G : state_State_allowed_G) {ρ : Type} (n : Nat) (p0 : Bool) (p1 : Bool) (p2 : Rows) (p3 : Int) (p4 : Int) (p5 : Int) (p6 : Int) (p7 : Bool) (p8 : Bool) (p9 : Rows) (p10 : Bool) (p11 : Bool) (p12 : Rows) (k0 : (Option ρ)) (k1 : (Option ρ)) (v : state_State_allowed_l2_V) : Option ρ := fuelN (state_State_allowed_l2_s G n p0 p1 p2 p3 p4 p5 p6 p7 p8 p9 p10 p11 p12 k0 k1) n v
def state_State_allowed_l2_enc (p0 : Bool) (p1 : Bool) (p2 : Rows) (p3 : Int) (p4 : Int) (p5 : Int) (p6 : Int) (p7 : Bool) (p8 : Bool) (p9 : Rows) (p10 : Bool) (p11 : Bool) (p12 : Rows) : state_State_allowed_l2_V → St
  | v => ⟨[(1, .ptr 0 1 5 0 0), (8, .lst p0 p1 5 p2), (9, .i .i64 p3), (10, .i .i64 v)], [.row 5 true false [[.i .i64 p4, .i .i64 p5, .i .i64 p6, .lst p7 p8 5 p9, .lst p10 p11 13 p12]]]⟩
noncomputable def state_State_allowed_s (G : state_State_allowed_G) {ρ : Type} (n : Nat) (a0 : Int) (a1 : Int) (a2 : Int) (a3 : Bool) (a4 : Bool) (a5 : Rows) (a6 : Bool) (a7 : Bool) (a8 : Rows) (k0 : (Bool → Option ρ)) : Option ρ :=
  state_State_allowed_l2 G n a3 a4 a5 (((List.length (a5 : Rows)) : Nat) : Int) a0 a1 a2 a3 a4 a5 a6 a7 a8 (k0 false) (k0 true) (0)
noncomputable def state_State_allowed_g (n : Nat) : state_State_allowed_G := ⟨cap_Less n⟩
noncomputable def state_State_allowed (n : Nat) : state_State_allowed_T := fun _ρ a0 a1 a2 a3 a4 a5 a6 a7 a8 k0 => state_State_allowed_s (state_State_allowed_g n) n a0 a1 a2 a3 a4 a5 a6 a7 a8 k0
noncomputable def state_State_allowed_e (n : Nat) : EK := state_State_allowed_E (state_State_allowed n)
def state_State_allowed_S (G : state_State_allowed_G) : CK := tabS [(52, cap_Less_E G.cap_Less)]
theorem state_State_allowed_Sok (n : Nat) : CK.OK (state_State_allowed_S (state_State_allowed_g n)) (L tab) := tabS_ok _ (List.forall_mem_cons.2 ⟨(cap_Less_ok n), (fun _ h => nomatch h)⟩)
def state_State_allowed_hs : HintC := hintL [(12, [.i .i64, .i .i64, .i .i64, .i .i64, .i .i64]), (26, [.i .i64, .i .i64, .i .i64, .i .i64, .i .i64])]
def state_State_allowed_c6 : Nat × List Nat × List Nat × MC := loopAt 6 m63
noncomputable def state_State_allowed_l6_d (G : state_State_allowed_G) (n : Nat) : Go.Rv.LE := fun _ρ h K => decSt [(1, .ptr 0 5 0 (some 1) (some 0)), (4, .ptr 1 5 0 (some 1) (some 0)), (5, .i .i64 none), (8, .lst none none 5 none), (9, .i .i64 none), (10, .i .i64 none), (18, .i .i64 none), (19, .i .i64 none)] [.row 5 true false (some [[.i .i64 none, .i .i64 none, .i .i64 none, .lst none none 5 none, .lst none none 13 none]]), .row 5 true false (some [[.i .i64 none, .i .i64 none, .i .i64 none, .i .i64 none, .i .i64 none]])] h fun a b => state_State_allowed_l6 G n a.2.2.2.1.1 a.2.2.2.1.2.1 a.2.2.2.1.2.2 a.2.2.2.2.1 a.2.2.2.2.2.1 a.2.2.2.2.2.2.1 b.1.1.1 b.1.1.2.1 b.1.1.2.2.1 b.1.1.2.2.2.1.1 b.1.1.2.2.2.1.2.1 b.1.1.2.2.2.1.2.2 b.1.1.2.2.2.2.1.1 b.1.1.2.2.2.2.1.2.1 b.1.1.2.2.2.2.1.2.2 b.2.1.1.1 b.2.1.1.2.1 b.2.1.1.2.2.1 b.2.1.1.2.2.2.1 b.2.1.1.2.2.2.2.1 (K (.exit 2) ⟨[(1, .ptr 0 1 5 0 0), (2, .u), (8, .lst a.2.2.2.1.1 a.2.2.2.1.2.1 5 a.2.2.2.1.2.2), (9, .i .i64 a.2.2.2.2.1), (10, .i .i64 a.2.2.2.2.2.1)], [.row 5 true false [[.i .i64 b.1.1.1, .i .i64 b.1.1.2.1, .i .i64 b.1.1.2.2.1, .lst b.1.1.2.2.2.1.1 b.1.1.2.2.2.1.2.1 5 b.1.1.2.2.2.1.2.2, .lst b.1.1.2.2.2.2.1.1 b.1.1.2.2.2.2.1.2.1 13 b.1.1.2.2.2.2.1.2.2]], .row 5 true false [[.i .i64 b.2.1.1.1, .i .i64 b.2.1.1.2.1, .i .i64 b.2.1.1.2.2.1, .i .i64 b.2.1.1.2.2.2.1, .i .i64 b.2.1.1.2.2.2.2.1]]]⟩) (K .ret ⟨[(1, .ptr 0 1 5 0 0), (2, .b false), (8, .lst a.2.2.2.1.1 a.2.2.2.1.2.1 5 a.2.2.2.1.2.2), (9, .i .i64 a.2.2.2.2.1), (10, .i .i64 a.2.2.2.2.2.1)], [.row 5 true false [[.i .i64 b.1.1.1, .i .i64 b.1.1.2.1, .i .i64 b.1.1.2.2.1, .lst b.1.1.2.2.2.1.1 b.1.1.2.2.2.1.2.1 5 b.1.1.2.2.2.1.2.2, .lst b.1.1.2.2.2.2.1.1 b.1.1.2.2.2.2.1.2.1 13 b.1.1.2.2.2.2.1.2.2]], .row 5 true false [[.i .i64 b.2.1.1.1, .i .i64 b.2.1.1.2.1, .i .i64 b.2.1.1.2.2.1, .i .i64 b.2.1.1.2.2.2.1, .i .i64 b.2.1.1.2.2.2.2.1]]]⟩) (a.2.2.1, a.2.2.2.2.2.2.2.1)
noncomputable def state_State_allowed_d6 (G : state_State_allowed_G) (n : Nat) : Go.Rv.LE := state_State_allowed_l6_d G n
def state_State_allowed_c2 : Nat × List Nat × List Nat × MC := loopAt 2 m63
noncomputable def state_State_allowed_l2_d (G : state_State_allowed_G) (n : Nat) : Go.Rv.LE := fun _ρ h K => decSt [(1, .ptr 0 5 0 (some 1) (some 0)), (8, .lst none none 5 none), (9, .i .i64 none), (10, .i .i64 none)] [.row 5 true false (some [[.i .i64 none, .i .i64 none, .i .i64 none, .lst none none 5 none, .lst none none 13 none]])] h fun a b => state_State_allowed_l2 G n a.2.1.1 a.2.1.2.1 a.2.1.2.2 a.2.2.1 b.1.1.1 b.1.1.2.1 b.1.1.2.2.1 b.1.1.2.2.2.1.1 b.1.1.2.2.2.1.2.1 b.1.1.2.2.2.1.2.2 b.1.1.2.2.2.2.1.1 b.1.1.2.2.2.2.1.2.1 b.1.1.2.2.2.2.1.2.2 (K .ret ⟨[(2, .b false)], [.row 5 true false [[.i .i64 b.1.1.1, .i .i64 b.1.1.2.1, .i .i64 b.1.1.2.2.1, .lst b.1.1.2.2.2.1.1 b.1.1.2.2.2.1.2.1 5 b.1.1.2.2.2.1.2.2, .lst b.1.1.2.2.2.2.1.1 b.1.1.2.2.2.2.1.2.1 13 b.1.1.2.2.2.2.1.2.2]]]⟩) (K (.exit 0) ⟨[(2, .u)], [.row 5 true false [[.i .i64 b.1.1.1, .i .i64 b.1.1.2.1, .i .i64 b.1.1.2.2.1, .lst b.1.1.2.2.2.1.1 b.1.1.2.2.2.1.2.1 5 b.1.1.2.2.2.1.2.2, .lst b.1.1.2.2.2.2.1.1 b.1.1.2.2.2.2.1.2.1 13 b.1.1.2.2.2.2.1.2.2]]]⟩) (a.2.2.2.1)
noncomputable def state_State_allowed_d2 (G : state_State_allowed_G) (n : Nat) : Go.Rv.LE := state_State_allowed_l2_d G n
noncomputable def state_State_allowed_lp (G : state_State_allowed_G) (n : Nat) : LK := tabL [(6, state_State_allowed_d6 G n), (2, state_State_allowed_d2 G n)]
theorem state_State_allowed_l6_k (G : state_State_allowed_G) {ρ : Type} (n : Nat) (p1 : Bool) (p2 : Bool) (p3 : Rows) (p4 : Int) (p5 : Int) (p6 : Int) (p7 : Int) (p8 : Int) (p9 : Int) (p10 : Bool) (p11 : Bool) (p12 : Rows) (p13 : Bool) (p14 : Bool) (p15 : Rows) (p16 : Int) (p17 : Int) (p18 : Int) (p19 : Int) (p20 : Int) (K : Ex → St → Option ρ) (N : St → Option ρ) : ∀ v, roundC (state_State_allowed_S G) state_State_allowed_hs (state_State_allowed_lp G n) state_State_allowed_c6 2 N K (state_State_allowed_l6_enc p1 p2 p3 p4 p5 p6 p7 p8 p9 p10 p11 p12 p13 p14 p15 p16 p17 p18 p19 p20 v) = state_State_allowed_l6_s G n p1 p2 p3 p4 p5 p6 p7 p8 p9 p10 p11 p12 p13 p14 p15 p16 p17 p18 p19 p20 (K (.exit 2) ⟨[(1, .ptr 0 1 5 0 0), (2, .u), (8, .lst p1 p2 5 p3), (9, .i .i64 p4), (10, .i .i64 p5)], [.row 5 true false [[.i .i64 p7, .i .i64 p8, .i .i64 p9, .lst p10 p11 5 p12, .lst p13 p14 13 p15]], .row 5 true false [[.i .i64 p16, .i .i64 p17, .i .i64 p18, .i .i64 p19, .i .i64 p20]]]⟩) (K .ret ⟨[(1, .ptr 0 1 5 0 0), (2, .b false), (8, .lst p1 p2 5 p3), (9, .i .i64 p4), (10, .i .i64 p5)], [.row 5 true false [[.i .i64 p7, .i .i64 p8, .i .i64 p9, .lst p10 p11 5 p12, .lst p13 p14 13 p15]], .row 5 true false [[.i .i64 p16, .i .i64 p17, .i .i64 p18, .i .i64 p19, .i .i64 p20]]]⟩) (fun v => N (state_State_allowed_l6_enc p1 p2 p3 p4 p5 p6 p7 p8 p9 p10 p11 p12 p13 p14 p15 p16 p17 p18 p19 p20 v)) v
  | v => by kernel_rfl
theorem state_State_allowed_l6_dok (n : Nat) : LE.OK (state_State_allowed_l6_d (state_State_allowed_g n) n) (L tab) state_State_allowed_c6 := LE.shp (fun _ _ _ => rfl) fun ρ K y a b e => LE.rounds (state_State_allowed_Sok n) (LK.of (l := []) (by kernel_rfl) ((fun _ h => nomatch h))) (state_State_allowed_l6_k (state_State_allowed_g n) n _ _ _ _ _ _ _ _ _ _ _ _ _ _ _ _ _ _ _ _ K) (by kernel_rfl) (by kernel_rfl) e
theorem state_State_allowed_d6_ok (n : Nat) : LE.OK (state_State_allowed_d6 (state_State_allowed_g n) n) (L tab) state_State_allowed_c6 := state_State_allowed_l6_dok n
theorem state_State_allowed_l2_k (G : state_State_allowed_G) {ρ : Type} (n : Nat) (p0 : Bool) (p1 : Bool) (p2 : Rows) (p3 : Int) (p4 : Int) (p5 : Int) (p6 : Int) (p7 : Bool) (p8 : Bool) (p9 : Rows) (p10 : Bool) (p11 : Bool) (p12 : Rows) (K : Ex → St → Option ρ) (N : St → Option ρ) : ∀ v, roundC (state_State_allowed_S G) state_State_allowed_hs (state_State_allowed_lp G n) state_State_allowed_c2 1 N K (state_State_allowed_l2_enc p0 p1 p2 p3 p4 p5 p6 p7 p8 p9 p10 p11 p12 v) = state_State_allowed_l2_s G n p0 p1 p2 p3 p4 p5 p6 p7 p8 p9 p10 p11 p12 (K .ret ⟨[(2, .b false)], [.row 5 true false [[.i .i64 p4, .i .i64 p5, .i .i64 p6, .lst p7 p8 5 p9, .lst p10 p11 13 p12]]]⟩) (K (.exit 0) ⟨[(2, .u)], [.row 5 true false [[.i .i64 p4, .i .i64 p5, .i .i64 p6, .lst p7 p8 5 p9, .lst p10 p11 13 p12]]]⟩) (fun v => N (state_State_allowed_l2_enc p0 p1 p2 p3 p4 p5 p6 p7 p8 p9 p10 p11 p12 v)) v
  | v => by kernel_rfl
theorem state_State_allowed_l2_dok (n : Nat) : LE.OK (state_State_allowed_l2_d (state_State_allowed_g n) n) (L tab) state_State_allowed_c2 := LE.shp (fun _ _ _ => rfl) fun ρ K y a b e => LE.rounds (state_State_allowed_Sok n) (LK.of (l := [state_State_allowed_c6]) (by kernel_rfl) (List.forall_mem_cons.2 ⟨LE.at (e := state_State_allowed_d6 (state_State_allowed_g n) n) (by kernel_rfl) (state_State_allowed_d6_ok n), (fun _ h => nomatch h)⟩)) (state_State_allowed_l2_k (state_State_allowed_g n) n _ _ _ _ _ _ _ _ _ _ _ _ _ K) (by kernel_rfl) (by kernel_rfl) e
theorem state_State_allowed_d2_ok (n : Nat) : LE.OK (state_State_allowed_d2 (state_State_allowed_g n) n) (L tab) state_State_allowed_c2 := state_State_allowed_l2_dok n
theorem state_State_allowed_k (G : state_State_allowed_G) {ρ : Type} (n : Nat) (a0 : Int) (a1 : Int) (a2 : Int) (a3 : Bool) (a4 : Bool) (a5 : Rows) (a6 : Bool) (a7 : Bool) (a8 : Rows) (K : Res → Option ρ) : runC (state_State_allowed_S G) state_State_allowed_hs (state_State_allowed_lp G n) m63 [.agg [.i .i64 a0, .i .i64 a1, .i .i64 a2, .lst a3 a4 5 a5, .lst a6 a7 13 a8]] K = state_State_allowed_s G n a0 a1 a2 a3 a4 a5 a6 a7 a8 (fun w0 => K ⟨.b w0, [], []⟩) := by kernel_rfl
theorem state_State_allowed_ok (n : Nat) : EK.OK (state_State_allowed_e n) 63 (L tab) := EK.shp (fun _ _ _ => rfl) fun ρ K y c e => EK.run (state_State_allowed_Sok n) (by kernel_rfl) (MF.LKOK.of (LK.of (l := [state_State_allowed_c2]) (by kernel_rfl) (List.forall_mem_cons.2 ⟨LE.at (e := state_State_allowed_d2 (state_State_allowed_g n) n) (by kernel_rfl) (state_State_allowed_d2_ok n), (fun _ h => nomatch h)⟩))) (state_State_allowed_k (state_State_allowed_g n) n _ _ _ _ _ _ _ _ _ K) (by kernel_rfl) e

/-! reeve/state.Good -/
abbrev state_Good_T : Type 1 := (ρ : Type) → Int → Int → Int → Bool → Bool → Rows → Bool → Bool → Rows → (Bool → Option ρ) → Option ρ
def state_Good_E (G : state_Good_T) : EK := fun ρ args K => decL [.agg [.i .i64 none, .i .i64 none, .i .i64 none, .lst none none 5 none, .lst none none 13 none]] args fun c => G ρ c.1.1 c.1.2.1 c.1.2.2.1 c.1.2.2.2.1.1 c.1.2.2.2.1.2.1 c.1.2.2.2.1.2.2 c.1.2.2.2.2.1.1 c.1.2.2.2.2.1.2.1 c.1.2.2.2.2.1.2.2 (fun w0 => K ⟨.b w0, [], []⟩)
structure state_Good_G where
  mk ::
  geo_Good : geo_Good_T
  state_State_caps : state_State_caps_T
  state_State_things : state_State_things_T
  state_State_nodes : state_State_nodes_T
  state_State_ring : state_State_ring_T
  state_Forest : state_Forest_T
  forest_Good : forest_Good_T
  state_State_allowed : state_State_allowed_T
noncomputable def state_Good_s (G : state_Good_G) {ρ : Type} (_n : Nat) (a0 : Int) (a1 : Int) (a2 : Int) (a3 : Bool) (a4 : Bool) (a5 : Rows) (a6 : Bool) (a7 : Bool) (a8 : Rows) (k0 : (Bool → Option ρ)) : Option ρ :=
  G.geo_Good ρ a0 a1 a2 (fun w0_0 =>
    bif w0_0 then
      bif (((((List.length (a5 : Rows)) : Nat) : Int) : Int) != a1) then
        k0 false
      else bif (((((List.length (a8 : Rows)) : Nat) : Int) : Int) != a2) then
        k0 false
      else G.state_State_caps ρ a0 a1 a2 a3 a4 a5 a6 a7 a8 (fun w1_0 =>
        bif w1_0 then
          G.state_State_things ρ a0 a1 a2 a3 a4 a5 a6 a7 a8 (fun w2_0 =>
            bif w2_0 then
              G.state_State_nodes ρ a0 a1 a2 a3 a4 a5 a6 a7 a8 (fun w3_0 =>
                bif w3_0 then
                  G.state_State_ring ρ a0 a1 a2 a3 a4 a5 a6 a7 a8 (fun w4_0 =>
                    bif w4_0 then
                      k0 false
                    else G.state_Forest ρ a0 a1 a2 a3 a4 a5 a6 a7 a8 (fun w5_0 w5_1 w5_2 =>
                      G.forest_Good ρ w5_0 w5_1 w5_2 (fun w6_0 =>
                        bif w6_0 then
                          G.state_State_allowed ρ a0 a1 a2 a3 a4 a5 a6 a7 a8 (fun w7_0 =>
                            bif w7_0 then
                              k0 true
                            else k0 false)
                        else k0 false)))
                else k0 false)
            else k0 false)
        else k0 false)
    else k0 false)
noncomputable def state_Good_g (n : Nat) : state_Good_G := ⟨geo_Good n, state_State_caps n, state_State_things n, state_State_nodes n, state_State_ring n, state_Forest n, forest_Good n, state_State_allowed n⟩
noncomputable def state_Good (n : Nat) : state_Good_T := fun _ρ a0 a1 a2 a3 a4 a5 a6 a7 a8 k0 => state_Good_s (state_Good_g n) n a0 a1 a2 a3 a4 a5 a6 a7 a8 k0
noncomputable def state_Good_e (n : Nat) : EK := state_Good_E (state_Good n)
def state_Good_S (G : state_Good_G) : CK := tabS [(35, geo_Good_E G.geo_Good), (58, state_State_caps_E G.state_State_caps), (59, state_State_things_E G.state_State_things), (60, state_State_nodes_E G.state_State_nodes), (61, state_State_ring_E G.state_State_ring), (48, state_Forest_E G.state_Forest), (62, forest_Good_E G.forest_Good), (63, state_State_allowed_E G.state_State_allowed)]
theorem state_Good_Sok (n : Nat) : CK.OK (state_Good_S (state_Good_g n)) (L tab) := tabS_ok _ (List.forall_mem_cons.2 ⟨(geo_Good_ok n), List.forall_mem_cons.2 ⟨(state_State_caps_ok n), List.forall_mem_cons.2 ⟨(state_State_things_ok n), List.forall_mem_cons.2 ⟨(state_State_nodes_ok n), List.forall_mem_cons.2 ⟨(state_State_ring_ok n), List.forall_mem_cons.2 ⟨(state_Forest_ok n), List.forall_mem_cons.2 ⟨(forest_Good_ok n), List.forall_mem_cons.2 ⟨(state_State_allowed_ok n), (fun _ h => nomatch h)⟩⟩⟩⟩⟩⟩⟩⟩)
def state_Good_hs : HintC := hintL []
noncomputable def state_Good_lp (_G : state_Good_G) (_n : Nat) : LK := tabL []
theorem state_Good_k (G : state_Good_G) {ρ : Type} (n : Nat) (a0 : Int) (a1 : Int) (a2 : Int) (a3 : Bool) (a4 : Bool) (a5 : Rows) (a6 : Bool) (a7 : Bool) (a8 : Rows) (K : Res → Option ρ) : runC (state_Good_S G) state_Good_hs (state_Good_lp G n) m28 [.agg [.i .i64 a0, .i .i64 a1, .i .i64 a2, .lst a3 a4 5 a5, .lst a6 a7 13 a8]] K = state_Good_s G n a0 a1 a2 a3 a4 a5 a6 a7 a8 (fun w0 => K ⟨.b w0, [], []⟩) := by kernel_rfl
theorem state_Good_ok (n : Nat) : EK.OK (state_Good_e n) 28 (L tab) := EK.shp (fun _ _ _ => rfl) fun ρ K y c e => EK.run (state_Good_Sok n) (by kernel_rfl) (MF.LKOK.of (LK.of (l := []) (by kernel_rfl) ((fun _ h => nomatch h)))) (state_Good_k (state_Good_g n) n _ _ _ _ _ _ _ _ _ K) (by kernel_rfl) e

/-! reeve/find.in -/
abbrev find_in_T : Type 1 := (ρ : Type) → Int → Int → Int → (Bool → Option ρ) → Option ρ
def find_in_E (G : find_in_T) : EK := fun ρ args K => decL [.i .i64 none, .i .i64 none, .i .i64 none] args fun c => G ρ c.1 c.2.1 c.2.2.1 (fun w0 => K ⟨.b w0, [], []⟩)
structure find_in_G where
  mk ::
noncomputable def find_in_s (_G : find_in_G) {ρ : Type} (_n : Nat) (a0 : Int) (a1 : Int) (a2 : Int) (k0 : (Bool → Option ρ)) : Option ρ :=
  bif decide ((a0 : Int) ≥ a1) then
    bif decide ((a0 : Int) ≤ a2) then
      k0 true
    else k0 false
  else k0 false
noncomputable def find_in_g (_n : Nat) : find_in_G := ⟨⟩
noncomputable def find_in (n : Nat) : find_in_T := fun _ρ a0 a1 a2 k0 => find_in_s (find_in_g n) n a0 a1 a2 k0
noncomputable def find_in_e (n : Nat) : EK := find_in_E (find_in n)
def find_in_S (_G : find_in_G) : CK := tabS []
theorem find_in_Sok (n : Nat) : CK.OK (find_in_S (find_in_g n)) (L tab) := tabS_ok _ ((fun _ h => nomatch h))
def find_in_hs : HintC := hintL []
noncomputable def find_in_lp (_G : find_in_G) (_n : Nat) : LK := tabL []
theorem find_in_k (G : find_in_G) {ρ : Type} (n : Nat) (a0 : Int) (a1 : Int) (a2 : Int) (K : Res → Option ρ) : runC (find_in_S G) find_in_hs (find_in_lp G n) m125 [.i .i64 a0, .i .i64 a1, .i .i64 a2] K = find_in_s G n a0 a1 a2 (fun w0 => K ⟨.b w0, [], []⟩) := by kernel_rfl
theorem find_in_ok (n : Nat) : EK.OK (find_in_e n) 125 (L tab) := EK.shp (fun _ _ _ => rfl) fun ρ K y c e => EK.run (find_in_Sok n) (by kernel_rfl) (MF.LKOK.of (LK.of (l := []) (by kernel_rfl) ((fun _ h => nomatch h)))) (find_in_k (find_in_g n) n _ _ _ K) (by kernel_rfl) e

/-! reeve/find.step -/
abbrev find_step_T : Type 1 := (ρ : Type) → Int → Int → Int → Int → Int → Int → Int → Bool → Int → Int → Int → Int → Int → Int → (Int → Option ρ) → Option ρ
def find_step_E (G : find_step_T) : EK := fun ρ args K => decL [.agg [.i .i64 none, .i .i64 none, .i .i64 none, .i .i64 none, .i .i64 none, .i .i64 none, .i .i64 none, .b none, .i .u64 none, .i .u64 none, .i .u64 none, .i .u64 none, .i .u64 none], .i .i64 none] args fun c => G ρ c.1.1 c.1.2.1 c.1.2.2.1 c.1.2.2.2.1 c.1.2.2.2.2.1 c.1.2.2.2.2.2.1 c.1.2.2.2.2.2.2.1 c.1.2.2.2.2.2.2.2.1 c.1.2.2.2.2.2.2.2.2.1 c.1.2.2.2.2.2.2.2.2.2.1 c.1.2.2.2.2.2.2.2.2.2.2.1 c.1.2.2.2.2.2.2.2.2.2.2.2.1 c.1.2.2.2.2.2.2.2.2.2.2.2.2.1 c.2.1 (fun w0 => K ⟨.i .i64 w0, [], []⟩)
structure find_step_G where
  mk ::
noncomputable def find_step_s (_G : find_step_G) {ρ : Type} (_n : Nat) (_a0 : Int) (a1 : Int) (a2 : Int) (_a3 : Int) (_a4 : Int) (_a5 : Int) (_a6 : Int) (_a7 : Bool) (_a8 : Int) (_a9 : Int) (_a10 : Int) (_a11 : Int) (_a12 : Int) (a13 : Int) (k0 : (Int → Option ρ)) : Option ρ :=
  chk (decide (0 ≤ (a1 : Int))) <|
  bif decide ((a13 : Int) ≥ (IntKind.wrap .i64 ((1 : Int) * 2 ^ (min a1.toNat (IntKind.bits .i64))))) then
    k0 (-1)
  else k0 (IntKind.wrap .i64 (a2 + a13))
noncomputable def find_step_g (_n : Nat) : find_step_G := ⟨⟩
noncomputable def find_step (n : Nat) : find_step_T := fun _ρ a0 a1 a2 a3 a4 a5 a6 a7 a8 a9 a10 a11 a12 a13 k0 => find_step_s (find_step_g n) n a0 a1 a2 a3 a4 a5 a6 a7 a8 a9 a10 a11 a12 a13 k0
noncomputable def find_step_e (n : Nat) : EK := find_step_E (find_step n)
def find_step_S (_G : find_step_G) : CK := tabS []
theorem find_step_Sok (n : Nat) : CK.OK (find_step_S (find_step_g n)) (L tab) := tabS_ok _ ((fun _ h => nomatch h))
def find_step_hs : HintC := hintL []
noncomputable def find_step_lp (_G : find_step_G) (_n : Nat) : LK := tabL []
theorem find_step_k (G : find_step_G) {ρ : Type} (n : Nat) (a0 : Int) (a1 : Int) (a2 : Int) (a3 : Int) (a4 : Int) (a5 : Int) (a6 : Int) (a7 : Bool) (a8 : Int) (a9 : Int) (a10 : Int) (a11 : Int) (a12 : Int) (a13 : Int) (K : Res → Option ρ) : runC (find_step_S G) find_step_hs (find_step_lp G n) m127 [.agg [.i .i64 a0, .i .i64 a1, .i .i64 a2, .i .i64 a3, .i .i64 a4, .i .i64 a5, .i .i64 a6, .b a7, .i .u64 a8, .i .u64 a9, .i .u64 a10, .i .u64 a11, .i .u64 a12], .i .i64 a13] K = find_step_s G n a0 a1 a2 a3 a4 a5 a6 a7 a8 a9 a10 a11 a12 a13 (fun w0 => K ⟨.i .i64 w0, [], []⟩) := by kernel_rfl
theorem find_step_ok (n : Nat) : EK.OK (find_step_e n) 127 (L tab) := EK.shp (fun _ _ _ => rfl) fun ρ K y c e => EK.run (find_step_Sok n) (by kernel_rfl) (MF.LKOK.of (LK.of (l := []) (by kernel_rfl) ((fun _ h => nomatch h)))) (find_step_k (find_step_g n) n _ _ _ _ _ _ _ _ _ _ _ _ _ _ K) (by kernel_rfl) e

/-! reeve/find.through -/
abbrev find_through_T : Type 1 := (ρ : Type) → Int → Int → Int → Bool → Bool → Rows → Bool → Bool → Rows → Int → (Int → Int → Int → Int → Int → Int → Int → Bool → Int → Int → Int → Int → Int → Bool → Option ρ) → Option ρ
def find_through_E (G : find_through_T) : EK := fun ρ args K => decL [.agg [.i .i64 none, .i .i64 none, .i .i64 none, .lst none none 5 none, .lst none none 13 none], .i .i64 none] args fun c => G ρ c.1.1 c.1.2.1 c.1.2.2.1 c.1.2.2.2.1.1 c.1.2.2.2.1.2.1 c.1.2.2.2.1.2.2 c.1.2.2.2.2.1.1 c.1.2.2.2.2.1.2.1 c.1.2.2.2.2.1.2.2 c.2.1 (fun w0 w1 w2 w3 w4 w5 w6 w7 w8 w9 w10 w11 w12 w13 => K ⟨.tup [.agg [.i .i64 w0, .i .i64 w1, .i .i64 w2, .i .i64 w3, .i .i64 w4, .i .i64 w5, .i .i64 w6, .b w7, .i .u64 w8, .i .u64 w9, .i .u64 w10, .i .u64 w11, .i .u64 w12], .b w13], [], []⟩)
structure find_through_G where
  mk ::
  right_Within : right_Within_T
noncomputable def find_through_s (G : find_through_G) {ρ : Type} (_n : Nat) (_a0 : Int) (_a1 : Int) (_a2 : Int) (_a3 : Bool) (_a4 : Bool) (a5 : Rows) (_a6 : Bool) (_a7 : Bool) (a8 : Rows) (a9 : Int) (k0 : (Int → Int → Int → Int → Int → Int → Int → Bool → Int → Int → Int → Int → Int → Bool → Option ρ)) : Option ρ :=
  rowT [.i .i64, .i .i64, .i .i64, .i .i64, .i .i64] a5 a9 fun c0 =>
  bif ((c0.1 : Int) != 2) then
    k0 0 0 0 0 0 0 0 false 0 0 0 0 0 false
  else G.right_Within ρ 1 c0.2.2.1 (fun w1_0 =>
    bif w1_0 then
      rowT [.i .i64, .i .i64, .i .i64, .i .i64, .i .i64, .i .i64, .i .i64, .b, .i .u64, .i .u64, .i .u64, .i .u64, .i .u64] a8 c0.2.1 fun c2 =>
      k0 c2.1 c2.2.1 c2.2.2.1 c2.2.2.2.1 c2.2.2.2.2.1 c2.2.2.2.2.2.1 c2.2.2.2.2.2.2.1 c2.2.2.2.2.2.2.2.1 c2.2.2.2.2.2.2.2.2.1 c2.2.2.2.2.2.2.2.2.2.1 c2.2.2.2.2.2.2.2.2.2.2.1 c2.2.2.2.2.2.2.2.2.2.2.2.1 c2.2.2.2.2.2.2.2.2.2.2.2.2.1 true
    else k0 0 0 0 0 0 0 0 false 0 0 0 0 0 false)
noncomputable def find_through_g (n : Nat) : find_through_G := ⟨right_Within n⟩
noncomputable def find_through (n : Nat) : find_through_T := fun _ρ a0 a1 a2 a3 a4 a5 a6 a7 a8 a9 k0 => find_through_s (find_through_g n) n a0 a1 a2 a3 a4 a5 a6 a7 a8 a9 k0
noncomputable def find_through_e (n : Nat) : EK := find_through_E (find_through n)
def find_through_S (G : find_through_G) : CK := tabS [(79, right_Within_E G.right_Within)]
theorem find_through_Sok (n : Nat) : CK.OK (find_through_S (find_through_g n)) (L tab) := tabS_ok _ (List.forall_mem_cons.2 ⟨(right_Within_ok n), (fun _ h => nomatch h)⟩)
def find_through_hs : HintC := hintL [(10, [.i .i64, .i .i64, .i .i64, .i .i64, .i .i64]), (27, [.i .i64, .i .i64, .i .i64, .i .i64, .i .i64, .i .i64, .i .i64, .b, .i .u64, .i .u64, .i .u64, .i .u64, .i .u64])]
noncomputable def find_through_lp (_G : find_through_G) (_n : Nat) : LK := tabL []
theorem find_through_k (G : find_through_G) {ρ : Type} (n : Nat) (a0 : Int) (a1 : Int) (a2 : Int) (a3 : Bool) (a4 : Bool) (a5 : Rows) (a6 : Bool) (a7 : Bool) (a8 : Rows) (a9 : Int) (K : Res → Option ρ) : runC (find_through_S G) find_through_hs (find_through_lp G n) m126 [.agg [.i .i64 a0, .i .i64 a1, .i .i64 a2, .lst a3 a4 5 a5, .lst a6 a7 13 a8], .i .i64 a9] K = find_through_s G n a0 a1 a2 a3 a4 a5 a6 a7 a8 a9 (fun w0 w1 w2 w3 w4 w5 w6 w7 w8 w9 w10 w11 w12 w13 => K ⟨.tup [.agg [.i .i64 w0, .i .i64 w1, .i .i64 w2, .i .i64 w3, .i .i64 w4, .i .i64 w5, .i .i64 w6, .b w7, .i .u64 w8, .i .u64 w9, .i .u64 w10, .i .u64 w11, .i .u64 w12], .b w13], [], []⟩) := by kernel_rfl
theorem find_through_ok (n : Nat) : EK.OK (find_through_e n) 126 (L tab) := EK.shp (fun _ _ _ => rfl) fun ρ K y c e => EK.run (find_through_Sok n) (by kernel_rfl) (MF.LKOK.of (LK.of (l := []) (by kernel_rfl) ((fun _ h => nomatch h)))) (find_through_k (find_through_g n) n _ _ _ _ _ _ _ _ _ _ K) (by kernel_rfl) e

/-! reeve/find.Slot -/
abbrev find_Slot_T : Type 1 := (ρ : Type) → Int → Int → Int → Bool → Bool → Rows → Bool → Bool → Rows → Int → Bool → Bool → Rows → (Int → Int → Option ρ) → Option ρ
def find_Slot_E (G : find_Slot_T) : EK := fun ρ args K => decL [.agg [.i .i64 none, .i .i64 none, .i .i64 none, .lst none none 5 none, .lst none none 13 none], .i .i64 none, .agg [.lst none none 1 none]] args fun c => G ρ c.1.1 c.1.2.1 c.1.2.2.1 c.1.2.2.2.1.1 c.1.2.2.2.1.2.1 c.1.2.2.2.1.2.2 c.1.2.2.2.2.1.1 c.1.2.2.2.2.1.2.1 c.1.2.2.2.2.1.2.2 c.2.1 c.2.2.1.1.1 c.2.2.1.1.2.1 c.2.2.1.1.2.2 (fun w0 w1 => K ⟨.tup [.i .i64 w0, .i .i64 w1], [], []⟩)
structure find_Slot_G where
  mk ::
  state_Good : state_Good_T
  find_in : find_in_T
  path_Good : path_Good_T
  find_step : find_step_T
  find_through : find_through_T
abbrev find_Slot_l6_V : Type := Int × Int × Int × Int × Int × Int × Int × Int × Int × Bool × Int × Int × Int × Int × Int
noncomputable def find_Slot_l6_s (G : find_Slot_G) {ρ : Type} (_n : Nat) (_p0 : Bool) (_p1 : Bool) (p2 : Rows) (p3 : Int) (p4 : Int) (p5 : Int) (p6 : Int) (p7 : Bool) (p8 : Bool) (p9 : Rows) (p10 : Bool) (p11 : Bool) (p12 : Rows) (_p13 : Bool) (_p14 : Bool) (_p15 : Rows) (k0 : (Int → Int → Int → Int → Int → Int → Int → Int → Bool → Int → Int → Int → Int → Int → Option ρ)) (k1 : (Int → Int → Int → Int → Int → Int → Int → Int → Bool → Int → Int → Int → Int → Int → Option ρ)) (k2 : (Int → Int → Int → Int → Int → Int → Int → Bool → Int → Int → Int → Int → Int → Option ρ)) (rec' : find_Slot_l6_V → Option ρ) : find_Slot_l6_V → Option ρ
  | v =>
  bif decide ((v.2.1 : Int) < p3) then
    rowT [.i .i64] p2 v.2.1 fun c0 =>
    bif decide ((v.2.1 : Int) > 0) then
      G.find_through ρ p4 p5 p6 p7 p8 p9 p10 p11 p12 v.1 (fun w1_0 w1_1 w1_2 w1_3 w1_4 w1_5 w1_6 w1_7 w1_8 w1_9 w1_10 w1_11 w1_12 w1_13 =>
        bif w1_13 then
          G.find_step ρ w1_0 w1_1 w1_2 w1_3 w1_4 w1_5 w1_6 w1_7 w1_8 w1_9 w1_10 w1_11 w1_12 c0.1 (fun w2_0 =>
            bif decide ((w2_0 : Int) < 0) then
              k2 w1_0 w1_1 w1_2 w1_3 w1_4 w1_5 w1_6 w1_7 w1_8 w1_9 w1_10 w1_11 w1_12
            else G.find_step ρ w1_0 w1_1 w1_2 w1_3 w1_4 w1_5 w1_6 w1_7 w1_8 w1_9 w1_10 w1_11 w1_12 c0.1 (fun w3_0 =>
              rec' (w3_0, (IntKind.wrap .i64 (v.2.1 + 1)), w1_0, w1_1, w1_2, w1_3, w1_4, w1_5, w1_6, w1_7, w1_8, w1_9, w1_10, w1_11, w1_12)))
        else k2 w1_0 w1_1 w1_2 w1_3 w1_4 w1_5 w1_6 w1_7 w1_8 w1_9 w1_10 w1_11 w1_12)
    else G.find_step ρ v.2.2.1 v.2.2.2.1 v.2.2.2.2.1 v.2.2.2.2.2.1 v.2.2.2.2.2.2.1 v.2.2.2.2.2.2.2.1 v.2.2.2.2.2.2.2.2.1 v.2.2.2.2.2.2.2.2.2.1 v.2.2.2.2.2.2.2.2.2.2.1 v.2.2.2.2.2.2.2.2.2.2.2.1 v.2.2.2.2.2.2.2.2.2.2.2.2.1 v.2.2.2.2.2.2.2.2.2.2.2.2.2.1 v.2.2.2.2.2.2.2.2.2.2.2.2.2.2 c0.1 (fun w4_0 =>
      bif decide ((w4_0 : Int) < 0) then
        k0 v.1 v.2.2.1 v.2.2.2.1 v.2.2.2.2.1 v.2.2.2.2.2.1 v.2.2.2.2.2.2.1 v.2.2.2.2.2.2.2.1 v.2.2.2.2.2.2.2.2.1 v.2.2.2.2.2.2.2.2.2.1 v.2.2.2.2.2.2.2.2.2.2.1 v.2.2.2.2.2.2.2.2.2.2.2.1 v.2.2.2.2.2.2.2.2.2.2.2.2.1 v.2.2.2.2.2.2.2.2.2.2.2.2.2.1 v.2.2.2.2.2.2.2.2.2.2.2.2.2.2
      else G.find_step ρ v.2.2.1 v.2.2.2.1 v.2.2.2.2.1 v.2.2.2.2.2.1 v.2.2.2.2.2.2.1 v.2.2.2.2.2.2.2.1 v.2.2.2.2.2.2.2.2.1 v.2.2.2.2.2.2.2.2.2.1 v.2.2.2.2.2.2.2.2.2.2.1 v.2.2.2.2.2.2.2.2.2.2.2.1 v.2.2.2.2.2.2.2.2.2.2.2.2.1 v.2.2.2.2.2.2.2.2.2.2.2.2.2.1 v.2.2.2.2.2.2.2.2.2.2.2.2.2.2 c0.1 (fun w5_0 =>
        rec' (w5_0, (IntKind.wrap .i64 (v.2.1 + 1)), v.2.2.1, v.2.2.2.1, v.2.2.2.2.1, v.2.2.2.2.2.1, v.2.2.2.2.2.2.1, v.2.2.2.2.2.2.2.1, v.2.2.2.2.2.2.2.2.1, v.2.2.2.2.2.2.2.2.2.1, v.2.2.2.2.2.2.2.2.2.2.1, v.2.2.2.2.2.2.2.2.2.2.2.1, v.2.2.2.2.2.2.2.2.2.2.2.2.1, v.2.2.2.2.2.2.2.2.2.2.2.2.2.1, v.2.2.2.2.2.2.2.2.2.2.2.2.2.2)))
  else k1 v.1 v.2.2.1 v.2.2.2.1 v.2.2.2.2.1 v.2.2.2.2.2.1 v.2.2.2.2.2.2.1 v.2.2.2.2.2.2.2.1 v.2.2.2.2.2.2.2.2.1 v.2.2.2.2.2.2.2.2.2.1 v.2.2.2.2.2.2.2.2.2.2.1 v.2.2.2.2.2.2.2.2.2.2.2.1 v.2.2.2.2.2.2.2.2.2.2.2.2.1 v.2.2.2.2.2.2.2.2.2.2.2.2.2.1 v.2.2.2.2.2.2.2.2.2.2.2.2.2.2
noncomputable def find_Slot_l6 (G : find_Slot_G) {ρ : Type} (n : Nat) (p0 : Bool) (p1 : Bool) (p2 : Rows) (p3 : Int) (p4 : Int) (p5 : Int) (p6 : Int) (p7 : Bool) (p8 : Bool) (p9 : Rows) (p10 : Bool) (p11 : Bool) (p12 : Rows) (p13 : Bool) (p14 : Bool) (p15 : Rows) (k0 : (Int → Int → Int → Int → Int → Int → Int → Int → Bool → Int → Int → Int → Int → Int → Option ρ)) (k1 : (Int → Int → Int → Int → Int → Int → Int → Int → Bool → Int → Int → Int → Int → Int → Option ρ)) (k2 : (Int → Int → Int → Int → Int → Int → Int → Bool → Int → Int → Int → Int → Int → Option ρ)) (v : find_Slot_l6_V) : Option ρ := fuelN (find_Slot_l6_s G n p0 p1 p2 p3 p4 p5 p6 p7 p8 p9 p10 p11 p12 p13 p14 p15 k0 k1 k2) n v
def find_Slot_l6_enc (p0 : Bool) (p1 : Bool) (p2 : Rows) (p3 : Int) (p4 : Int) (p5 : Int) (p6 : Int) (p7 : Bool) (p8 : Bool) (p9 : Rows) (p10 : Bool) (p11 : Bool) (p12 : Rows) (p13 : Bool) (p14 : Bool) (p15 : Rows) : find_Slot_l6_V → St
  | v => ⟨[(3, .ptr 0 1 5 0 0), (8, .ptr 2 1 13 0 0), (9, .b true), (10, .i .i64 v.1), (37, .lst p0 p1 1 p2), (38, .i .i64 p3), (39, .i .i64 v.2.1)], [.row 5 true false [[.i .i64 p4, .i .i64 p5, .i .i64 p6, .lst p7 p8 5 p9, .lst p10 p11 13 p12]], .row 1 true false [[.lst p13 p14 1 p15]], .row 13 true false [[.i .i64 v.2.2.1, .i .i64 v.2.2.2.1, .i .i64 v.2.2.2.2.1, .i .i64 v.2.2.2.2.2.1, .i .i64 v.2.2.2.2.2.2.1, .i .i64 v.2.2.2.2.2.2.2.1, .i .i64 v.2.2.2.2.2.2.2.2.1, .b v.2.2.2.2.2.2.2.2.2.1, .i .u64 v.2.2.2.2.2.2.2.2.2.2.1, .i .u64 v.2.2.2.2.2.2.2.2.2.2.2.1, .i .u64 v.2.2.2.2.2.2.2.2.2.2.2.2.1, .i .u64 v.2.2.2.2.2.2.2.2.2.2.2.2.2.1, .i .u64 v.2.2.2.2.2.2.2.2.2.2.2.2.2.2]]]⟩
noncomputable def find_Slot_s (G : find_Slot_G) {ρ : Type} (n : Nat) (a0 : Int) (a1 : Int) (a2 : Int) (a3 : Bool) (a4 : Bool) (a5 : Rows) (a6 : Bool) (a7 : Bool) (a8 : Rows) (a9 : Int) (a10 : Bool) (a11 : Bool) (a12 : Rows) (k0 : (Int → Int → Option ρ)) : Option ρ :=
  G.state_Good ρ a0 a1 a2 a3 a4 a5 a6 a7 a8 (fun w0_0 =>
    bif w0_0 then
      G.find_in ρ a9 0 (IntKind.wrap .i64 (a0 - 1)) (fun w1_0 =>
        bif w1_0 then
          G.path_Good ρ a10 a11 a12 (fun w2_0 =>
            bif w2_0 then
              rowT [.i .i64, .i .i64, .i .i64, .i .i64, .i .i64, .i .i64, .i .i64, .b, .i .u64, .i .u64, .i .u64, .i .u64, .i .u64] a8 (IntKind.wrap .i64 (2 + a9)) fun c3 =>
              find_Slot_l6 G n a10 a11 a12 (((List.length (a12 : Rows)) : Nat) : Int) a0 a1 a2 a3 a4 a5 a6 a7 a8 a10 a11 a12 (fun _w4_0 _w4_1 _w4_2 _w4_3 _w4_4 _w4_5 _w4_6 _w4_7 _w4_8 _w4_9 _w4_10 _w4_11 _w4_12 _w4_13 =>
                k0 0 3) (fun w5_0 _w5_1 _w5_2 _w5_3 _w5_4 _w5_5 _w5_6 _w5_7 _w5_8 _w5_9 _w5_10 _w5_11 _w5_12 _w5_13 =>
                k0 w5_0 0) (fun _w6_0 _w6_1 _w6_2 _w6_3 _w6_4 _w6_5 _w6_6 _w6_7 _w6_8 _w6_9 _w6_10 _w6_11 _w6_12 =>
                k0 0 3) (0, 0, c3.1, c3.2.1, c3.2.2.1, c3.2.2.2.1, c3.2.2.2.2.1, c3.2.2.2.2.2.1, c3.2.2.2.2.2.2.1, c3.2.2.2.2.2.2.2.1, c3.2.2.2.2.2.2.2.2.1, c3.2.2.2.2.2.2.2.2.2.1, c3.2.2.2.2.2.2.2.2.2.2.1, c3.2.2.2.2.2.2.2.2.2.2.2.1, c3.2.2.2.2.2.2.2.2.2.2.2.2.1)
            else k0 0 1)
        else k0 0 1)
    else k0 0 1)
noncomputable def find_Slot_g (n : Nat) : find_Slot_G := ⟨state_Good n, find_in n, path_Good n, find_step n, find_through n⟩
noncomputable def find_Slot (n : Nat) : find_Slot_T := fun _ρ a0 a1 a2 a3 a4 a5 a6 a7 a8 a9 a10 a11 a12 k0 => find_Slot_s (find_Slot_g n) n a0 a1 a2 a3 a4 a5 a6 a7 a8 a9 a10 a11 a12 k0
noncomputable def find_Slot_e (n : Nat) : EK := find_Slot_E (find_Slot n)
def find_Slot_S (G : find_Slot_G) : CK := tabS [(28, state_Good_E G.state_Good), (125, find_in_E G.find_in), (104, path_Good_E G.path_Good), (127, find_step_E G.find_step), (126, find_through_E G.find_through)]
theorem find_Slot_Sok (n : Nat) : CK.OK (find_Slot_S (find_Slot_g n)) (L tab) := tabS_ok _ (List.forall_mem_cons.2 ⟨(state_Good_ok n), List.forall_mem_cons.2 ⟨(find_in_ok n), List.forall_mem_cons.2 ⟨(path_Good_ok n), List.forall_mem_cons.2 ⟨(find_step_ok n), List.forall_mem_cons.2 ⟨(find_through_ok n), (fun _ h => nomatch h)⟩⟩⟩⟩⟩)
def find_Slot_hs : HintC := hintL [(34, [.i .i64, .i .i64, .i .i64, .i .i64, .i .i64, .i .i64, .i .i64, .b, .i .u64, .i .u64, .i .u64, .i .u64, .i .u64]), (42, [.i .i64])]
def find_Slot_c6 : Nat × List Nat × List Nat × MC := loopAt 6 m107
noncomputable def find_Slot_l6_d (G : find_Slot_G) (n : Nat) : Go.Rv.LE := fun _ρ h K => decSt [(3, .ptr 0 5 0 (some 1) (some 0)), (8, .ptr 2 13 0 (some 1) (some 0)), (9, .b (some true)), (10, .i .i64 none), (37, .lst none none 1 none), (38, .i .i64 none), (39, .i .i64 none)] [.row 5 true false (some [[.i .i64 none, .i .i64 none, .i .i64 none, .lst none none 5 none, .lst none none 13 none]]), .row 1 true false (some [[.lst none none 1 none]]), .row 13 true false (some [[.i .i64 none, .i .i64 none, .i .i64 none, .i .i64 none, .i .i64 none, .i .i64 none, .i .i64 none, .b none, .i .u64 none, .i .u64 none, .i .u64 none, .i .u64 none, .i .u64 none]])] h fun a b => find_Slot_l6 G n a.2.2.2.2.1.1 a.2.2.2.2.1.2.1 a.2.2.2.2.1.2.2 a.2.2.2.2.2.1 b.1.1.1 b.1.1.2.1 b.1.1.2.2.1 b.1.1.2.2.2.1.1 b.1.1.2.2.2.1.2.1 b.1.1.2.2.2.1.2.2 b.1.1.2.2.2.2.1.1 b.1.1.2.2.2.2.1.2.1 b.1.1.2.2.2.2.1.2.2 b.2.1.1.1.1 b.2.1.1.1.2.1 b.2.1.1.1.2.2 (fun w0 w1 w2 w3 w4 w5 w6 w7 w8 w9 w10 w11 w12 w13 => K .ret ⟨[(6, .i .i64 0), (7, .i .i64 3), (10, .i .i64 w0)], [.row 5 true false [[.i .i64 b.1.1.1, .i .i64 b.1.1.2.1, .i .i64 b.1.1.2.2.1, .lst b.1.1.2.2.2.1.1 b.1.1.2.2.2.1.2.1 5 b.1.1.2.2.2.1.2.2, .lst b.1.1.2.2.2.2.1.1 b.1.1.2.2.2.2.1.2.1 13 b.1.1.2.2.2.2.1.2.2]], .row 1 true false [[.lst b.2.1.1.1.1 b.2.1.1.1.2.1 1 b.2.1.1.1.2.2]], .row 13 true false [[.i .i64 w1, .i .i64 w2, .i .i64 w3, .i .i64 w4, .i .i64 w5, .i .i64 w6, .i .i64 w7, .b w8, .i .u64 w9, .i .u64 w10, .i .u64 w11, .i .u64 w12, .i .u64 w13]]]⟩) (fun w0 w1 w2 w3 w4 w5 w6 w7 w8 w9 w10 w11 w12 w13 => K (.exit 0) ⟨[(6, .u), (7, .u), (10, .i .i64 w0)], [.row 5 true false [[.i .i64 b.1.1.1, .i .i64 b.1.1.2.1, .i .i64 b.1.1.2.2.1, .lst b.1.1.2.2.2.1.1 b.1.1.2.2.2.1.2.1 5 b.1.1.2.2.2.1.2.2, .lst b.1.1.2.2.2.2.1.1 b.1.1.2.2.2.2.1.2.1 13 b.1.1.2.2.2.2.1.2.2]], .row 1 true false [[.lst b.2.1.1.1.1 b.2.1.1.1.2.1 1 b.2.1.1.1.2.2]], .row 13 true false [[.i .i64 w1, .i .i64 w2, .i .i64 w3, .i .i64 w4, .i .i64 w5, .i .i64 w6, .i .i64 w7, .b w8, .i .u64 w9, .i .u64 w10, .i .u64 w11, .i .u64 w12, .i .u64 w13]]]⟩) (fun w0 w1 w2 w3 w4 w5 w6 w7 w8 w9 w10 w11 w12 => K .ret ⟨[(6, .i .i64 0), (7, .i .i64 3), (10, .u)], [.row 5 true false [[.i .i64 b.1.1.1, .i .i64 b.1.1.2.1, .i .i64 b.1.1.2.2.1, .lst b.1.1.2.2.2.1.1 b.1.1.2.2.2.1.2.1 5 b.1.1.2.2.2.1.2.2, .lst b.1.1.2.2.2.2.1.1 b.1.1.2.2.2.2.1.2.1 13 b.1.1.2.2.2.2.1.2.2]], .row 1 true false [[.lst b.2.1.1.1.1 b.2.1.1.1.2.1 1 b.2.1.1.1.2.2]], .row 13 true false [[.i .i64 w0, .i .i64 w1, .i .i64 w2, .i .i64 w3, .i .i64 w4, .i .i64 w5, .i .i64 w6, .b w7, .i .u64 w8, .i .u64 w9, .i .u64 w10, .i .u64 w11, .i .u64 w12]]]⟩) (a.2.2.2.1, a.2.2.2.2.2.2.1, b.2.2.1.1.1, b.2.2.1.1.2.1, b.2.2.1.1.2.2.1, b.2.2.1.1.2.2.2.1, b.2.2.1.1.2.2.2.2.1, b.2.2.1.1.2.2.2.2.2.1, b.2.2.1.1.2.2.2.2.2.2.1, b.2.2.1.1.2.2.2.2.2.2.2.1, b.2.2.1.1.2.2.2.2.2.2.2.2.1, b.2.2.1.1.2.2.2.2.2.2.2.2.2.1, b.2.2.1.1.2.2.2.2.2.2.2.2.2.2.1, b.2.2.1.1.2.2.2.2.2.2.2.2.2.2.2.1, b.2.2.1.1.2.2.2.2.2.2.2.2.2.2.2.2.1)
noncomputable def find_Slot_d6 (G : find_Slot_G) (n : Nat) : Go.Rv.LE := find_Slot_l6_d G n
noncomputable def find_Slot_lp (G : find_Slot_G) (n : Nat) : LK := tabL [(6, find_Slot_d6 G n)]
theorem find_Slot_l6_k (G : find_Slot_G) {ρ : Type} (n : Nat) (p0 : Bool) (p1 : Bool) (p2 : Rows) (p3 : Int) (p4 : Int) (p5 : Int) (p6 : Int) (p7 : Bool) (p8 : Bool) (p9 : Rows) (p10 : Bool) (p11 : Bool) (p12 : Rows) (p13 : Bool) (p14 : Bool) (p15 : Rows) (K : Ex → St → Option ρ) (N : St → Option ρ) : ∀ v, roundC (find_Slot_S G) find_Slot_hs (find_Slot_lp G n) find_Slot_c6 3 N K (find_Slot_l6_enc p0 p1 p2 p3 p4 p5 p6 p7 p8 p9 p10 p11 p12 p13 p14 p15 v) = find_Slot_l6_s G n p0 p1 p2 p3 p4 p5 p6 p7 p8 p9 p10 p11 p12 p13 p14 p15 (fun w0 w1 w2 w3 w4 w5 w6 w7 w8 w9 w10 w11 w12 w13 => K .ret ⟨[(6, .i .i64 0), (7, .i .i64 3), (10, .i .i64 w0)], [.row 5 true false [[.i .i64 p4, .i .i64 p5, .i .i64 p6, .lst p7 p8 5 p9, .lst p10 p11 13 p12]], .row 1 true false [[.lst p13 p14 1 p15]], .row 13 true false [[.i .i64 w1, .i .i64 w2, .i .i64 w3, .i .i64 w4, .i .i64 w5, .i .i64 w6, .i .i64 w7, .b w8, .i .u64 w9, .i .u64 w10, .i .u64 w11, .i .u64 w12, .i .u64 w13]]]⟩) (fun w0 w1 w2 w3 w4 w5 w6 w7 w8 w9 w10 w11 w12 w13 => K (.exit 0) ⟨[(6, .u), (7, .u), (10, .i .i64 w0)], [.row 5 true false [[.i .i64 p4, .i .i64 p5, .i .i64 p6, .lst p7 p8 5 p9, .lst p10 p11 13 p12]], .row 1 true false [[.lst p13 p14 1 p15]], .row 13 true false [[.i .i64 w1, .i .i64 w2, .i .i64 w3, .i .i64 w4, .i .i64 w5, .i .i64 w6, .i .i64 w7, .b w8, .i .u64 w9, .i .u64 w10, .i .u64 w11, .i .u64 w12, .i .u64 w13]]]⟩) (fun w0 w1 w2 w3 w4 w5 w6 w7 w8 w9 w10 w11 w12 => K .ret ⟨[(6, .i .i64 0), (7, .i .i64 3), (10, .u)], [.row 5 true false [[.i .i64 p4, .i .i64 p5, .i .i64 p6, .lst p7 p8 5 p9, .lst p10 p11 13 p12]], .row 1 true false [[.lst p13 p14 1 p15]], .row 13 true false [[.i .i64 w0, .i .i64 w1, .i .i64 w2, .i .i64 w3, .i .i64 w4, .i .i64 w5, .i .i64 w6, .b w7, .i .u64 w8, .i .u64 w9, .i .u64 w10, .i .u64 w11, .i .u64 w12]]]⟩) (fun v => N (find_Slot_l6_enc p0 p1 p2 p3 p4 p5 p6 p7 p8 p9 p10 p11 p12 p13 p14 p15 v)) v
  | v => by kernel_rfl
theorem find_Slot_l6_dok (n : Nat) : LE.OK (find_Slot_l6_d (find_Slot_g n) n) (L tab) find_Slot_c6 := LE.shp (fun _ _ _ => rfl) fun ρ K y a b e => LE.rounds (find_Slot_Sok n) (LK.of (l := []) (by kernel_rfl) ((fun _ h => nomatch h))) (find_Slot_l6_k (find_Slot_g n) n _ _ _ _ _ _ _ _ _ _ _ _ _ _ _ _ K) (by kernel_rfl) (by kernel_rfl) e
theorem find_Slot_d6_ok (n : Nat) : LE.OK (find_Slot_d6 (find_Slot_g n) n) (L tab) find_Slot_c6 := find_Slot_l6_dok n
theorem find_Slot_k (G : find_Slot_G) {ρ : Type} (n : Nat) (a0 : Int) (a1 : Int) (a2 : Int) (a3 : Bool) (a4 : Bool) (a5 : Rows) (a6 : Bool) (a7 : Bool) (a8 : Rows) (a9 : Int) (a10 : Bool) (a11 : Bool) (a12 : Rows) (K : Res → Option ρ) : runC (find_Slot_S G) find_Slot_hs (find_Slot_lp G n) m107 [.agg [.i .i64 a0, .i .i64 a1, .i .i64 a2, .lst a3 a4 5 a5, .lst a6 a7 13 a8], .i .i64 a9, .agg [.lst a10 a11 1 a12]] K = find_Slot_s G n a0 a1 a2 a3 a4 a5 a6 a7 a8 a9 a10 a11 a12 (fun w0 w1 => K ⟨.tup [.i .i64 w0, .i .i64 w1], [], []⟩) := by kernel_rfl
theorem find_Slot_ok (n : Nat) : EK.OK (find_Slot_e n) 107 (L tab) := EK.shp (fun _ _ _ => rfl) fun ρ K y c e => EK.run (find_Slot_Sok n) (by kernel_rfl) (MF.LKOK.of (LK.of (l := [find_Slot_c6]) (by kernel_rfl) (List.forall_mem_cons.2 ⟨LE.at (e := find_Slot_d6 (find_Slot_g n) n) (by kernel_rfl) (find_Slot_d6_ok n), (fun _ h => nomatch h)⟩))) (find_Slot_k (find_Slot_g n) n _ _ _ _ _ _ _ _ _ _ _ _ _ K) (by kernel_rfl) e

/-! reeve/find.Cap -/
abbrev find_Cap_T : Type 1 := (ρ : Type) → Int → Int → Int → Bool → Bool → Rows → Bool → Bool → Rows → Int → Bool → Bool → Rows → (Int → Int → Int → Int → Int → Int → Option ρ) → Option ρ
def find_Cap_E (G : find_Cap_T) : EK := fun ρ args K => decL [.agg [.i .i64 none, .i .i64 none, .i .i64 none, .lst none none 5 none, .lst none none 13 none], .i .i64 none, .agg [.lst none none 1 none]] args fun c => G ρ c.1.1 c.1.2.1 c.1.2.2.1 c.1.2.2.2.1.1 c.1.2.2.2.1.2.1 c.1.2.2.2.1.2.2 c.1.2.2.2.2.1.1 c.1.2.2.2.2.1.2.1 c.1.2.2.2.2.1.2.2 c.2.1 c.2.2.1.1.1 c.2.2.1.1.2.1 c.2.2.1.1.2.2 (fun w0 w1 w2 w3 w4 w5 => K ⟨.tup [.i .i64 w0, .agg [.i .i64 w1, .i .i64 w2, .i .i64 w3, .i .i64 w4], .i .i64 w5], [], []⟩)
structure find_Cap_G where
  mk ::
  find_Slot : find_Slot_T
  cap_None : cap_None_T
noncomputable def find_Cap_s (G : find_Cap_G) {ρ : Type} (_n : Nat) (a0 : Int) (a1 : Int) (a2 : Int) (a3 : Bool) (a4 : Bool) (a5 : Rows) (a6 : Bool) (a7 : Bool) (a8 : Rows) (a9 : Int) (a10 : Bool) (a11 : Bool) (a12 : Rows) (k0 : (Int → Int → Int → Int → Int → Int → Option ρ)) : Option ρ :=
  G.find_Slot ρ a0 a1 a2 a3 a4 a5 a6 a7 a8 a9 a10 a11 a12 (fun w0_0 w0_1 =>
    bif ((w0_1 : Int) != 0) then
      k0 0 0 0 0 0 w0_1
    else rowT [.i .i64, .i .i64, .i .i64, .i .i64, .i .i64] a5 w0_0 fun c1 =>
    G.cap_None ρ c1.1 c1.2.1 c1.2.2.1 c1.2.2.2.1 (fun w2_0 =>
      bif w2_0 then
        k0 0 0 0 0 0 4
      else rowT [.i .i64, .i .i64, .i .i64, .i .i64, .i .i64] a5 w0_0 fun c3 =>
      k0 w0_0 c3.1 c3.2.1 c3.2.2.1 c3.2.2.2.1 0))
noncomputable def find_Cap_g (n : Nat) : find_Cap_G := ⟨find_Slot n, cap_None n⟩
noncomputable def find_Cap (n : Nat) : find_Cap_T := fun _ρ a0 a1 a2 a3 a4 a5 a6 a7 a8 a9 a10 a11 a12 k0 => find_Cap_s (find_Cap_g n) n a0 a1 a2 a3 a4 a5 a6 a7 a8 a9 a10 a11 a12 k0
noncomputable def find_Cap_e (n : Nat) : EK := find_Cap_E (find_Cap n)
def find_Cap_S (G : find_Cap_G) : CK := tabS [(107, find_Slot_E G.find_Slot), (50, cap_None_E G.cap_None)]
theorem find_Cap_Sok (n : Nat) : CK.OK (find_Cap_S (find_Cap_g n)) (L tab) := tabS_ok _ (List.forall_mem_cons.2 ⟨(find_Slot_ok n), List.forall_mem_cons.2 ⟨(cap_None_ok n), (fun _ h => nomatch h)⟩⟩)
def find_Cap_hs : HintC := hintL [(27, [.i .i64, .i .i64, .i .i64, .i .i64, .i .i64]), (36, [.i .i64, .i .i64, .i .i64, .i .i64, .i .i64])]
noncomputable def find_Cap_lp (_G : find_Cap_G) (_n : Nat) : LK := tabL []
theorem find_Cap_k (G : find_Cap_G) {ρ : Type} (n : Nat) (a0 : Int) (a1 : Int) (a2 : Int) (a3 : Bool) (a4 : Bool) (a5 : Rows) (a6 : Bool) (a7 : Bool) (a8 : Rows) (a9 : Int) (a10 : Bool) (a11 : Bool) (a12 : Rows) (K : Res → Option ρ) : runC (find_Cap_S G) find_Cap_hs (find_Cap_lp G n) m78 [.agg [.i .i64 a0, .i .i64 a1, .i .i64 a2, .lst a3 a4 5 a5, .lst a6 a7 13 a8], .i .i64 a9, .agg [.lst a10 a11 1 a12]] K = find_Cap_s G n a0 a1 a2 a3 a4 a5 a6 a7 a8 a9 a10 a11 a12 (fun w0 w1 w2 w3 w4 w5 => K ⟨.tup [.i .i64 w0, .agg [.i .i64 w1, .i .i64 w2, .i .i64 w3, .i .i64 w4], .i .i64 w5], [], []⟩) := by kernel_rfl
theorem find_Cap_ok (n : Nat) : EK.OK (find_Cap_e n) 78 (L tab) := EK.shp (fun _ _ _ => rfl) fun ρ K y c e => EK.run (find_Cap_Sok n) (by kernel_rfl) (MF.LKOK.of (LK.of (l := []) (by kernel_rfl) ((fun _ h => nomatch h)))) (find_Cap_k (find_Cap_g n) n _ _ _ _ _ _ _ _ _ _ _ _ _ K) (by kernel_rfl) e

/-! reeve/right.Both -/
abbrev right_Both_T : Type 1 := (ρ : Type) → Int → Int → (Int → Option ρ) → Option ρ
def right_Both_E (G : right_Both_T) : EK := fun ρ args K => decL [.i .i64 none, .i .i64 none] args fun c => G ρ c.1 c.2.1 (fun w0 => K ⟨.i .i64 w0, [], []⟩)
structure right_Both_G where
  mk ::
  right_of : right_of_T
noncomputable def right_Both_s (G : right_Both_G) {ρ : Type} (_n : Nat) (a0 : Int) (a1 : Int) (k0 : (Int → Option ρ)) : Option ρ :=
  G.right_of ρ a0 (fun w0_0 =>
    G.right_of ρ a1 (fun w1_0 =>
      k0 (IntKind.wrap .i64 (BitVec.ofInt (IntKind.bits .i64) w0_0 &&& BitVec.ofInt (IntKind.bits .i64) w1_0).toNat)))
noncomputable def right_Both_g (n : Nat) : right_Both_G := ⟨right_of n⟩
noncomputable def right_Both (n : Nat) : right_Both_T := fun _ρ a0 a1 k0 => right_Both_s (right_Both_g n) n a0 a1 k0
noncomputable def right_Both_e (n : Nat) : EK := right_Both_E (right_Both n)
def right_Both_S (G : right_Both_G) : CK := tabS [(128, right_of_E G.right_of)]
theorem right_Both_Sok (n : Nat) : CK.OK (right_Both_S (right_Both_g n)) (L tab) := tabS_ok _ (List.forall_mem_cons.2 ⟨(right_of_ok n), (fun _ h => nomatch h)⟩)
def right_Both_hs : HintC := hintL []
noncomputable def right_Both_lp (_G : right_Both_G) (_n : Nat) : LK := tabL []
theorem right_Both_k (G : right_Both_G) {ρ : Type} (n : Nat) (a0 : Int) (a1 : Int) (K : Res → Option ρ) : runC (right_Both_S G) right_Both_hs (right_Both_lp G n) m129 [.i .i64 a0, .i .i64 a1] K = right_Both_s G n a0 a1 (fun w0 => K ⟨.i .i64 w0, [], []⟩) := by kernel_rfl
theorem right_Both_ok (n : Nat) : EK.OK (right_Both_e n) 129 (L tab) := EK.shp (fun _ _ _ => rfl) fun ρ K y c e => EK.run (right_Both_Sok n) (by kernel_rfl) (MF.LKOK.of (LK.of (l := []) (by kernel_rfl) ((fun _ h => nomatch h)))) (right_Both_k (right_Both_g n) n _ _ K) (by kernel_rfl) e

/-! reeve/cap.Cut -/
abbrev cap_Cut_T : Type 1 := (ρ : Type) → Int → Int → Int → Int → Int → (Int → Int → Int → Int → Option ρ) → Option ρ
def cap_Cut_E (G : cap_Cut_T) : EK := fun ρ args K => decL [.agg [.i .i64 none, .i .i64 none, .i .i64 none, .i .i64 none], .i .i64 none] args fun c => G ρ c.1.1 c.1.2.1 c.1.2.2.1 c.1.2.2.2.1 c.2.1 (fun w0 w1 w2 w3 => K ⟨.agg [.i .i64 w0, .i .i64 w1, .i .i64 w2, .i .i64 w3], [], []⟩)
structure cap_Cut_G where
  mk ::
  cap_Good : cap_Good_T
  right_Both : right_Both_T
noncomputable def cap_Cut_s (G : cap_Cut_G) {ρ : Type} (_n : Nat) (a0 : Int) (a1 : Int) (a2 : Int) (a3 : Int) (a4 : Int) (k0 : (Int → Int → Int → Int → Option ρ)) : Option ρ :=
  G.cap_Good ρ a0 a1 a2 a3 (fun w0_0 =>
    bif w0_0 then
      G.right_Both ρ a2 a4 (fun w1_0 =>
        k0 a0 a1 w1_0 a3)
    else k0 0 0 0 0)
noncomputable def cap_Cut_g (n : Nat) : cap_Cut_G := ⟨cap_Good n, right_Both n⟩
noncomputable def cap_Cut (n : Nat) : cap_Cut_T := fun _ρ a0 a1 a2 a3 a4 k0 => cap_Cut_s (cap_Cut_g n) n a0 a1 a2 a3 a4 k0
noncomputable def cap_Cut_e (n : Nat) : EK := cap_Cut_E (cap_Cut n)
def cap_Cut_S (G : cap_Cut_G) : CK := tabS [(27, cap_Good_E G.cap_Good), (129, right_Both_E G.right_Both)]
theorem cap_Cut_Sok (n : Nat) : CK.OK (cap_Cut_S (cap_Cut_g n)) (L tab) := tabS_ok _ (List.forall_mem_cons.2 ⟨(cap_Good_ok n), List.forall_mem_cons.2 ⟨(right_Both_ok n), (fun _ h => nomatch h)⟩⟩)
def cap_Cut_hs : HintC := hintL []
noncomputable def cap_Cut_lp (_G : cap_Cut_G) (_n : Nat) : LK := tabL []
theorem cap_Cut_k (G : cap_Cut_G) {ρ : Type} (n : Nat) (a0 : Int) (a1 : Int) (a2 : Int) (a3 : Int) (a4 : Int) (K : Res → Option ρ) : runC (cap_Cut_S G) cap_Cut_hs (cap_Cut_lp G n) m111 [.agg [.i .i64 a0, .i .i64 a1, .i .i64 a2, .i .i64 a3], .i .i64 a4] K = cap_Cut_s G n a0 a1 a2 a3 a4 (fun w0 w1 w2 w3 => K ⟨.agg [.i .i64 w0, .i .i64 w1, .i .i64 w2, .i .i64 w3], [], []⟩) := by kernel_rfl
theorem cap_Cut_ok (n : Nat) : EK.OK (cap_Cut_e n) 111 (L tab) := EK.shp (fun _ _ _ => rfl) fun ρ K y c e => EK.run (cap_Cut_Sok n) (by kernel_rfl) (MF.LKOK.of (LK.of (l := []) (by kernel_rfl) ((fun _ h => nomatch h)))) (cap_Cut_k (cap_Cut_g n) n _ _ _ _ _ K) (by kernel_rfl) e

/-! reeve/cap.Stamp -/
abbrev cap_Stamp_T : Type 1 := (ρ : Type) → Int → Int → Int → Int → Int → (Int → Int → Int → Int → Int → Option ρ) → Option ρ
def cap_Stamp_E (G : cap_Stamp_T) : EK := fun ρ args K => decL [.agg [.i .i64 none, .i .i64 none, .i .i64 none, .i .i64 none], .i .i64 none] args fun c => G ρ c.1.1 c.1.2.1 c.1.2.2.1 c.1.2.2.2.1 c.2.1 (fun w0 w1 w2 w3 w4 => K ⟨.tup [.agg [.i .i64 w0, .i .i64 w1, .i .i64 w2, .i .i64 w3], .i .i64 w4], [], []⟩)
structure cap_Stamp_G where
  mk ::
  cap_Good : cap_Good_T
  right_Badge : right_Badge_T
  cap_badged : cap_badged_T
noncomputable def cap_Stamp_s (G : cap_Stamp_G) {ρ : Type} (_n : Nat) (a0 : Int) (a1 : Int) (a2 : Int) (a3 : Int) (a4 : Int) (k0 : (Int → Int → Int → Int → Int → Option ρ)) : Option ρ :=
  G.cap_Good ρ a0 a1 a2 a3 (fun w0_0 =>
    bif w0_0 then
      G.right_Badge ρ a4 (fun w1_0 =>
        bif w1_0 then
          bif ((a4 : Int) == 0) then
            k0 0 0 0 0 1
          else G.cap_badged ρ a0 (fun w2_0 =>
            bif w2_0 then
              bif ((a3 : Int) != 0) then
                k0 0 0 0 0 5
              else k0 a0 a1 a2 a4 0
            else k0 0 0 0 0 7)
        else k0 0 0 0 0 1)
    else k0 0 0 0 0 1)
noncomputable def cap_Stamp_g (n : Nat) : cap_Stamp_G := ⟨cap_Good n, right_Badge n, cap_badged n⟩
noncomputable def cap_Stamp (n : Nat) : cap_Stamp_T := fun _ρ a0 a1 a2 a3 a4 k0 => cap_Stamp_s (cap_Stamp_g n) n a0 a1 a2 a3 a4 k0
noncomputable def cap_Stamp_e (n : Nat) : EK := cap_Stamp_E (cap_Stamp n)
def cap_Stamp_S (G : cap_Stamp_G) : CK := tabS [(27, cap_Good_E G.cap_Good), (56, right_Badge_E G.right_Badge), (57, cap_badged_E G.cap_badged)]
theorem cap_Stamp_Sok (n : Nat) : CK.OK (cap_Stamp_S (cap_Stamp_g n)) (L tab) := tabS_ok _ (List.forall_mem_cons.2 ⟨(cap_Good_ok n), List.forall_mem_cons.2 ⟨(right_Badge_ok n), List.forall_mem_cons.2 ⟨(cap_badged_ok n), (fun _ h => nomatch h)⟩⟩⟩)
def cap_Stamp_hs : HintC := hintL []
noncomputable def cap_Stamp_lp (_G : cap_Stamp_G) (_n : Nat) : LK := tabL []
theorem cap_Stamp_k (G : cap_Stamp_G) {ρ : Type} (n : Nat) (a0 : Int) (a1 : Int) (a2 : Int) (a3 : Int) (a4 : Int) (K : Res → Option ρ) : runC (cap_Stamp_S G) cap_Stamp_hs (cap_Stamp_lp G n) m112 [.agg [.i .i64 a0, .i .i64 a1, .i .i64 a2, .i .i64 a3], .i .i64 a4] K = cap_Stamp_s G n a0 a1 a2 a3 a4 (fun w0 w1 w2 w3 w4 => K ⟨.tup [.agg [.i .i64 w0, .i .i64 w1, .i .i64 w2, .i .i64 w3], .i .i64 w4], [], []⟩) := by kernel_rfl
theorem cap_Stamp_ok (n : Nat) : EK.OK (cap_Stamp_e n) 112 (L tab) := EK.shp (fun _ _ _ => rfl) fun ρ K y c e => EK.run (cap_Stamp_Sok n) (by kernel_rfl) (MF.LKOK.of (LK.of (l := []) (by kernel_rfl) ((fun _ h => nomatch h)))) (cap_Stamp_k (cap_Stamp_g n) n _ _ _ _ _ K) (by kernel_rfl) e

/-! reeve/find.Empty -/
abbrev find_Empty_T : Type 1 := (ρ : Type) → Int → Int → Int → Bool → Bool → Rows → Bool → Bool → Rows → Int → Bool → Bool → Rows → (Int → Int → Option ρ) → Option ρ
def find_Empty_E (G : find_Empty_T) : EK := fun ρ args K => decL [.agg [.i .i64 none, .i .i64 none, .i .i64 none, .lst none none 5 none, .lst none none 13 none], .i .i64 none, .agg [.lst none none 1 none]] args fun c => G ρ c.1.1 c.1.2.1 c.1.2.2.1 c.1.2.2.2.1.1 c.1.2.2.2.1.2.1 c.1.2.2.2.1.2.2 c.1.2.2.2.2.1.1 c.1.2.2.2.2.1.2.1 c.1.2.2.2.2.1.2.2 c.2.1 c.2.2.1.1.1 c.2.2.1.1.2.1 c.2.2.1.1.2.2 (fun w0 w1 => K ⟨.tup [.i .i64 w0, .i .i64 w1], [], []⟩)
structure find_Empty_G where
  mk ::
  find_Slot : find_Slot_T
  cap_None : cap_None_T
noncomputable def find_Empty_s (G : find_Empty_G) {ρ : Type} (_n : Nat) (a0 : Int) (a1 : Int) (a2 : Int) (a3 : Bool) (a4 : Bool) (a5 : Rows) (a6 : Bool) (a7 : Bool) (a8 : Rows) (a9 : Int) (a10 : Bool) (a11 : Bool) (a12 : Rows) (k0 : (Int → Int → Option ρ)) : Option ρ :=
  G.find_Slot ρ a0 a1 a2 a3 a4 a5 a6 a7 a8 a9 a10 a11 a12 (fun w0_0 w0_1 =>
    bif ((w0_1 : Int) != 0) then
      k0 0 w0_1
    else rowT [.i .i64, .i .i64, .i .i64, .i .i64, .i .i64] a5 w0_0 fun c1 =>
    G.cap_None ρ c1.1 c1.2.1 c1.2.2.1 c1.2.2.2.1 (fun w2_0 =>
      bif w2_0 then
        k0 w0_0 0
      else k0 0 5))
noncomputable def find_Empty_g (n : Nat) : find_Empty_G := ⟨find_Slot n, cap_None n⟩
noncomputable def find_Empty (n : Nat) : find_Empty_T := fun _ρ a0 a1 a2 a3 a4 a5 a6 a7 a8 a9 a10 a11 a12 k0 => find_Empty_s (find_Empty_g n) n a0 a1 a2 a3 a4 a5 a6 a7 a8 a9 a10 a11 a12 k0
noncomputable def find_Empty_e (n : Nat) : EK := find_Empty_E (find_Empty n)
def find_Empty_S (G : find_Empty_G) : CK := tabS [(107, find_Slot_E G.find_Slot), (50, cap_None_E G.cap_None)]
theorem find_Empty_Sok (n : Nat) : CK.OK (find_Empty_S (find_Empty_g n)) (L tab) := tabS_ok _ (List.forall_mem_cons.2 ⟨(find_Slot_ok n), List.forall_mem_cons.2 ⟨(cap_None_ok n), (fun _ h => nomatch h)⟩⟩)
def find_Empty_hs : HintC := hintL [(25, [.i .i64, .i .i64, .i .i64, .i .i64, .i .i64])]
noncomputable def find_Empty_lp (_G : find_Empty_G) (_n : Nat) : LK := tabL []
theorem find_Empty_k (G : find_Empty_G) {ρ : Type} (n : Nat) (a0 : Int) (a1 : Int) (a2 : Int) (a3 : Bool) (a4 : Bool) (a5 : Rows) (a6 : Bool) (a7 : Bool) (a8 : Rows) (a9 : Int) (a10 : Bool) (a11 : Bool) (a12 : Rows) (K : Res → Option ρ) : runC (find_Empty_S G) find_Empty_hs (find_Empty_lp G n) m80 [.agg [.i .i64 a0, .i .i64 a1, .i .i64 a2, .lst a3 a4 5 a5, .lst a6 a7 13 a8], .i .i64 a9, .agg [.lst a10 a11 1 a12]] K = find_Empty_s G n a0 a1 a2 a3 a4 a5 a6 a7 a8 a9 a10 a11 a12 (fun w0 w1 => K ⟨.tup [.i .i64 w0, .i .i64 w1], [], []⟩) := by kernel_rfl
theorem find_Empty_ok (n : Nat) : EK.OK (find_Empty_e n) 80 (L tab) := EK.shp (fun _ _ _ => rfl) fun ρ K y c e => EK.run (find_Empty_Sok n) (by kernel_rfl) (MF.LKOK.of (LK.of (l := []) (by kernel_rfl) ((fun _ h => nomatch h)))) (find_Empty_k (find_Empty_g n) n _ _ _ _ _ _ _ _ _ _ _ _ _ K) (by kernel_rfl) e

/-! reeve/state.Owner -/
abbrev state_Owner_T : Type 1 := (ρ : Type) → Int → Int → Int → Bool → Bool → Rows → Bool → Bool → Rows → Int → (Int → Option ρ) → Option ρ
def state_Owner_E (G : state_Owner_T) : EK := fun ρ args K => decL [.agg [.i .i64 none, .i .i64 none, .i .i64 none, .lst none none 5 none, .lst none none 13 none], .i .i64 none] args fun c => G ρ c.1.1 c.1.2.1 c.1.2.2.1 c.1.2.2.2.1.1 c.1.2.2.2.1.2.1 c.1.2.2.2.1.2.2 c.1.2.2.2.2.1.1 c.1.2.2.2.2.1.2.1 c.1.2.2.2.2.1.2.2 c.2.1 (fun w0 => K ⟨.i .i64 w0, [], []⟩)
structure state_Owner_G where
  mk ::
  state_Good : state_Good_T
  state_State_owner : state_State_owner_T
noncomputable def state_Owner_s (G : state_Owner_G) {ρ : Type} (_n : Nat) (a0 : Int) (a1 : Int) (a2 : Int) (a3 : Bool) (a4 : Bool) (a5 : Rows) (a6 : Bool) (a7 : Bool) (a8 : Rows) (a9 : Int) (k0 : (Int → Option ρ)) : Option ρ :=
  G.state_Good ρ a0 a1 a2 a3 a4 a5 a6 a7 a8 (fun w0_0 =>
    bif w0_0 then
      bif decide ((a9 : Int) < 0) then
        k0 (-1)
      else bif decide ((a9 : Int) ≥ (((List.length (a5 : Rows)) : Nat) : Int)) then
        k0 (-1)
      else G.state_State_owner ρ a0 a1 a2 a3 a4 a5 a6 a7 a8 a9 (fun w1_0 =>
        k0 w1_0)
    else k0 (-1))
noncomputable def state_Owner_g (n : Nat) : state_Owner_G := ⟨state_Good n, state_State_owner n⟩
noncomputable def state_Owner (n : Nat) : state_Owner_T := fun _ρ a0 a1 a2 a3 a4 a5 a6 a7 a8 a9 k0 => state_Owner_s (state_Owner_g n) n a0 a1 a2 a3 a4 a5 a6 a7 a8 a9 k0
noncomputable def state_Owner_e (n : Nat) : EK := state_Owner_E (state_Owner n)
def state_Owner_S (G : state_Owner_G) : CK := tabS [(28, state_Good_E G.state_Good), (87, state_State_owner_E G.state_State_owner)]
theorem state_Owner_Sok (n : Nat) : CK.OK (state_Owner_S (state_Owner_g n)) (L tab) := tabS_ok _ (List.forall_mem_cons.2 ⟨(state_Good_ok n), List.forall_mem_cons.2 ⟨(state_State_owner_ok n), (fun _ h => nomatch h)⟩⟩)
def state_Owner_hs : HintC := hintL []
noncomputable def state_Owner_lp (_G : state_Owner_G) (_n : Nat) : LK := tabL []
theorem state_Owner_k (G : state_Owner_G) {ρ : Type} (n : Nat) (a0 : Int) (a1 : Int) (a2 : Int) (a3 : Bool) (a4 : Bool) (a5 : Rows) (a6 : Bool) (a7 : Bool) (a8 : Rows) (a9 : Int) (K : Res → Option ρ) : runC (state_Owner_S G) state_Owner_hs (state_Owner_lp G n) m51 [.agg [.i .i64 a0, .i .i64 a1, .i .i64 a2, .lst a3 a4 5 a5, .lst a6 a7 13 a8], .i .i64 a9] K = state_Owner_s G n a0 a1 a2 a3 a4 a5 a6 a7 a8 a9 (fun w0 => K ⟨.i .i64 w0, [], []⟩) := by kernel_rfl
theorem state_Owner_ok (n : Nat) : EK.OK (state_Owner_e n) 51 (L tab) := EK.shp (fun _ _ _ => rfl) fun ρ K y c e => EK.run (state_Owner_Sok n) (by kernel_rfl) (MF.LKOK.of (LK.of (l := []) (by kernel_rfl) ((fun _ h => nomatch h)))) (state_Owner_k (state_Owner_g n) n _ _ _ _ _ _ _ _ _ _ K) (by kernel_rfl) e

/-! reeve/state.Inside -/
abbrev state_Inside_T : Type 1 := (ρ : Type) → Int → Int → Int → Bool → Bool → Rows → Bool → Bool → Rows → Int → Int → (Bool → Option ρ) → Option ρ
def state_Inside_E (G : state_Inside_T) : EK := fun ρ args K => decL [.agg [.i .i64 none, .i .i64 none, .i .i64 none, .lst none none 5 none, .lst none none 13 none], .i .i64 none, .i .i64 none] args fun c => G ρ c.1.1 c.1.2.1 c.1.2.2.1 c.1.2.2.2.1.1 c.1.2.2.2.1.2.1 c.1.2.2.2.1.2.2 c.1.2.2.2.2.1.1 c.1.2.2.2.2.1.2.1 c.1.2.2.2.2.1.2.2 c.2.1 c.2.2.1 (fun w0 => K ⟨.b w0, [], []⟩)
structure state_Inside_G where
  mk ::
  state_Good : state_Good_T
  state_State_inside : state_State_inside_T
noncomputable def state_Inside_s (G : state_Inside_G) {ρ : Type} (_n : Nat) (a0 : Int) (a1 : Int) (a2 : Int) (a3 : Bool) (a4 : Bool) (a5 : Rows) (a6 : Bool) (a7 : Bool) (a8 : Rows) (a9 : Int) (a10 : Int) (k0 : (Bool → Option ρ)) : Option ρ :=
  G.state_Good ρ a0 a1 a2 a3 a4 a5 a6 a7 a8 (fun w0_0 =>
    bif w0_0 then
      bif decide ((a10 : Int) ≥ 0) then
        bif decide ((a10 : Int) < (((List.length (a5 : Rows)) : Nat) : Int)) then
          G.state_State_inside ρ a0 a1 a2 a3 a4 a5 a6 a7 a8 a9 a10 (fun w1_0 =>
            bif w1_0 then
              k0 true
            else k0 false)
        else k0 false
      else k0 false
    else k0 false)
noncomputable def state_Inside_g (n : Nat) : state_Inside_G := ⟨state_Good n, state_State_inside n⟩
noncomputable def state_Inside (n : Nat) : state_Inside_T := fun _ρ a0 a1 a2 a3 a4 a5 a6 a7 a8 a9 a10 k0 => state_Inside_s (state_Inside_g n) n a0 a1 a2 a3 a4 a5 a6 a7 a8 a9 a10 k0
noncomputable def state_Inside_e (n : Nat) : EK := state_Inside_E (state_Inside n)
def state_Inside_S (G : state_Inside_G) : CK := tabS [(28, state_Good_E G.state_Good), (91, state_State_inside_E G.state_State_inside)]
theorem state_Inside_Sok (n : Nat) : CK.OK (state_Inside_S (state_Inside_g n)) (L tab) := tabS_ok _ (List.forall_mem_cons.2 ⟨(state_Good_ok n), List.forall_mem_cons.2 ⟨(state_State_inside_ok n), (fun _ h => nomatch h)⟩⟩)
def state_Inside_hs : HintC := hintL []
noncomputable def state_Inside_lp (_G : state_Inside_G) (_n : Nat) : LK := tabL []
theorem state_Inside_k (G : state_Inside_G) {ρ : Type} (n : Nat) (a0 : Int) (a1 : Int) (a2 : Int) (a3 : Bool) (a4 : Bool) (a5 : Rows) (a6 : Bool) (a7 : Bool) (a8 : Rows) (a9 : Int) (a10 : Int) (K : Res → Option ρ) : runC (state_Inside_S G) state_Inside_hs (state_Inside_lp G n) m88 [.agg [.i .i64 a0, .i .i64 a1, .i .i64 a2, .lst a3 a4 5 a5, .lst a6 a7 13 a8], .i .i64 a9, .i .i64 a10] K = state_Inside_s G n a0 a1 a2 a3 a4 a5 a6 a7 a8 a9 a10 (fun w0 => K ⟨.b w0, [], []⟩) := by kernel_rfl
theorem state_Inside_ok (n : Nat) : EK.OK (state_Inside_e n) 88 (L tab) := EK.shp (fun _ _ _ => rfl) fun ρ K y c e => EK.run (state_Inside_Sok n) (by kernel_rfl) (MF.LKOK.of (LK.of (l := []) (by kernel_rfl) ((fun _ h => nomatch h)))) (state_Inside_k (state_Inside_g n) n _ _ _ _ _ _ _ _ _ _ _ K) (by kernel_rfl) e

/-! reeve/give.ring -/
abbrev give_ring_T : Type 1 := (ρ : Type) → Int → Int → Int → Bool → Bool → Rows → Bool → Bool → Rows → Int → Int → Int → Int → Int → (Bool → Option ρ) → Option ρ
def give_ring_E (G : give_ring_T) : EK := fun ρ args K => decL [.agg [.i .i64 none, .i .i64 none, .i .i64 none, .lst none none 5 none, .lst none none 13 none], .agg [.i .i64 none, .i .i64 none, .i .i64 none, .i .i64 none], .i .i64 none] args fun c => G ρ c.1.1 c.1.2.1 c.1.2.2.1 c.1.2.2.2.1.1 c.1.2.2.2.1.2.1 c.1.2.2.2.1.2.2 c.1.2.2.2.2.1.1 c.1.2.2.2.2.1.2.1 c.1.2.2.2.2.1.2.2 c.2.1.1 c.2.1.2.1 c.2.1.2.2.1 c.2.1.2.2.2.1 c.2.2.1 (fun w0 => K ⟨.b w0, [], []⟩)
structure give_ring_G where
  mk ::
  state_Inside : state_Inside_T
noncomputable def give_ring_s (G : give_ring_G) {ρ : Type} (_n : Nat) (a0 : Int) (a1 : Int) (a2 : Int) (a3 : Bool) (a4 : Bool) (a5 : Rows) (a6 : Bool) (a7 : Bool) (a8 : Rows) (a9 : Int) (a10 : Int) (_a11 : Int) (_a12 : Int) (a13 : Int) (k0 : (Bool → Option ρ)) : Option ρ :=
  bif ((a9 : Int) == 2) then
    G.state_Inside ρ a0 a1 a2 a3 a4 a5 a6 a7 a8 a10 a13 (fun w0_0 =>
      bif w0_0 then
        k0 true
      else k0 false)
  else k0 false
noncomputable def give_ring_g (n : Nat) : give_ring_G := ⟨state_Inside n⟩
noncomputable def give_ring (n : Nat) : give_ring_T := fun _ρ a0 a1 a2 a3 a4 a5 a6 a7 a8 a9 a10 a11 a12 a13 k0 => give_ring_s (give_ring_g n) n a0 a1 a2 a3 a4 a5 a6 a7 a8 a9 a10 a11 a12 a13 k0
noncomputable def give_ring_e (n : Nat) : EK := give_ring_E (give_ring n)
def give_ring_S (G : give_ring_G) : CK := tabS [(88, state_Inside_E G.state_Inside)]
theorem give_ring_Sok (n : Nat) : CK.OK (give_ring_S (give_ring_g n)) (L tab) := tabS_ok _ (List.forall_mem_cons.2 ⟨(state_Inside_ok n), (fun _ h => nomatch h)⟩)
def give_ring_hs : HintC := hintL []
noncomputable def give_ring_lp (_G : give_ring_G) (_n : Nat) : LK := tabL []
theorem give_ring_k (G : give_ring_G) {ρ : Type} (n : Nat) (a0 : Int) (a1 : Int) (a2 : Int) (a3 : Bool) (a4 : Bool) (a5 : Rows) (a6 : Bool) (a7 : Bool) (a8 : Rows) (a9 : Int) (a10 : Int) (a11 : Int) (a12 : Int) (a13 : Int) (K : Res → Option ρ) : runC (give_ring_S G) give_ring_hs (give_ring_lp G n) m53 [.agg [.i .i64 a0, .i .i64 a1, .i .i64 a2, .lst a3 a4 5 a5, .lst a6 a7 13 a8], .agg [.i .i64 a9, .i .i64 a10, .i .i64 a11, .i .i64 a12], .i .i64 a13] K = give_ring_s G n a0 a1 a2 a3 a4 a5 a6 a7 a8 a9 a10 a11 a12 a13 (fun w0 => K ⟨.b w0, [], []⟩) := by kernel_rfl
theorem give_ring_ok (n : Nat) : EK.OK (give_ring_e n) 53 (L tab) := EK.shp (fun _ _ _ => rfl) fun ρ K y c e => EK.run (give_ring_Sok n) (by kernel_rfl) (MF.LKOK.of (LK.of (l := []) (by kernel_rfl) ((fun _ h => nomatch h)))) (give_ring_k (give_ring_g n) n _ _ _ _ _ _ _ _ _ _ _ _ _ _ K) (by kernel_rfl) e

/-! slices.Clone[[]reeve/state.Slot,reeve/state.Slot] -/
abbrev slices_Clone_Slot_T : Type 1 := (ρ : Type) → Bool → Bool → Rows → (Option ρ) → (Nat → Nat → Rows → Option ρ) → Option ρ
def slices_Clone_Slot_E (G : slices_Clone_Slot_T) : EK := fun ρ args K => decL [.lst none none 5 none] args fun c => G ρ c.1.1 c.1.2.1 c.1.2.2 (K ⟨.lst true true 0 [], [], []⟩) (fun w0 w1 w2 => K ⟨.sl 0 w0 5 0 w1, [.row 5 true false w2], []⟩)
structure slices_Clone_Slot_G where
  mk ::
noncomputable def slices_Clone_Slot_s (_G : slices_Clone_Slot_G) {ρ : Type} (_n : Nat) (a0 : Bool) (_a1 : Bool) (a2 : Rows) (k0 : (Option ρ)) (k1 : (Nat → Nat → Rows → Option ρ)) : Option ρ :=
  bif a0 then
    k0
  else chk (List.all (a2 : Rows) fun e => e.length == 5) <|
  chk (decide ((0 + (List.length (a2 : Rows))) ≤ most)) <|
  chk (List.all (a2 : Rows) fun e => !ownL e) <|
  k1 (0 + (List.length (a2 : Rows))) (0 + (List.length (a2 : Rows))) ([] ++ a2)
noncomputable def slices_Clone_Slot_g (_n : Nat) : slices_Clone_Slot_G := ⟨⟩
noncomputable def slices_Clone_Slot (n : Nat) : slices_Clone_Slot_T := fun _ρ a0 a1 a2 k0 k1 => slices_Clone_Slot_s (slices_Clone_Slot_g n) n a0 a1 a2 k0 k1
noncomputable def slices_Clone_Slot_e (n : Nat) : EK := slices_Clone_Slot_E (slices_Clone_Slot n)
def slices_Clone_Slot_S (_G : slices_Clone_Slot_G) : CK := tabS []
theorem slices_Clone_Slot_Sok (n : Nat) : CK.OK (slices_Clone_Slot_S (slices_Clone_Slot_g n)) (L tab) := tabS_ok _ ((fun _ h => nomatch h))
def slices_Clone_Slot_hs : HintC := hintL []
noncomputable def slices_Clone_Slot_lp (_G : slices_Clone_Slot_G) (_n : Nat) : LK := tabL []
theorem slices_Clone_Slot_k (G : slices_Clone_Slot_G) {ρ : Type} (n : Nat) (a0 : Bool) (a1 : Bool) (a2 : Rows) (K : Res → Option ρ) : runC (slices_Clone_Slot_S G) slices_Clone_Slot_hs (slices_Clone_Slot_lp G n) m44 [.lst a0 a1 5 a2] K = slices_Clone_Slot_s G n a0 a1 a2 (K ⟨.lst true true 0 [], [], []⟩) (fun w0 w1 w2 => K ⟨.sl 0 w0 5 0 w1, [.row 5 true false w2], []⟩) := by kernel_rfl
theorem slices_Clone_Slot_ok (n : Nat) : EK.OK (slices_Clone_Slot_e n) 44 (L tab) := EK.shp (fun _ _ _ => rfl) fun ρ K y c e => EK.run (slices_Clone_Slot_Sok n) (by kernel_rfl) (MF.LKOK.of (LK.of (l := []) (by kernel_rfl) ((fun _ h => nomatch h)))) (slices_Clone_Slot_k (slices_Clone_Slot_g n) n _ _ _ K) (by kernel_rfl) e

/-! slices.Clone[[]reeve/thing.Thing,reeve/thing.Thing] -/
abbrev slices_Clone_Thing_T : Type 1 := (ρ : Type) → Bool → Bool → Rows → (Option ρ) → (Nat → Nat → Rows → Option ρ) → Option ρ
def slices_Clone_Thing_E (G : slices_Clone_Thing_T) : EK := fun ρ args K => decL [.lst none none 13 none] args fun c => G ρ c.1.1 c.1.2.1 c.1.2.2 (K ⟨.lst true true 0 [], [], []⟩) (fun w0 w1 w2 => K ⟨.sl 0 w0 13 0 w1, [.row 13 true false w2], []⟩)
structure slices_Clone_Thing_G where
  mk ::
noncomputable def slices_Clone_Thing_s (_G : slices_Clone_Thing_G) {ρ : Type} (_n : Nat) (a0 : Bool) (_a1 : Bool) (a2 : Rows) (k0 : (Option ρ)) (k1 : (Nat → Nat → Rows → Option ρ)) : Option ρ :=
  bif a0 then
    k0
  else chk (List.all (a2 : Rows) fun e => e.length == 13) <|
  chk (decide ((0 + (List.length (a2 : Rows))) ≤ most)) <|
  chk (List.all (a2 : Rows) fun e => !ownL e) <|
  k1 (0 + (List.length (a2 : Rows))) (0 + (List.length (a2 : Rows))) ([] ++ a2)
noncomputable def slices_Clone_Thing_g (_n : Nat) : slices_Clone_Thing_G := ⟨⟩
noncomputable def slices_Clone_Thing (n : Nat) : slices_Clone_Thing_T := fun _ρ a0 a1 a2 k0 k1 => slices_Clone_Thing_s (slices_Clone_Thing_g n) n a0 a1 a2 k0 k1
noncomputable def slices_Clone_Thing_e (n : Nat) : EK := slices_Clone_Thing_E (slices_Clone_Thing n)
def slices_Clone_Thing_S (_G : slices_Clone_Thing_G) : CK := tabS []
theorem slices_Clone_Thing_Sok (n : Nat) : CK.OK (slices_Clone_Thing_S (slices_Clone_Thing_g n)) (L tab) := tabS_ok _ ((fun _ h => nomatch h))
def slices_Clone_Thing_hs : HintC := hintL []
noncomputable def slices_Clone_Thing_lp (_G : slices_Clone_Thing_G) (_n : Nat) : LK := tabL []
theorem slices_Clone_Thing_k (G : slices_Clone_Thing_G) {ρ : Type} (n : Nat) (a0 : Bool) (a1 : Bool) (a2 : Rows) (K : Res → Option ρ) : runC (slices_Clone_Thing_S G) slices_Clone_Thing_hs (slices_Clone_Thing_lp G n) m45 [.lst a0 a1 13 a2] K = slices_Clone_Thing_s G n a0 a1 a2 (K ⟨.lst true true 0 [], [], []⟩) (fun w0 w1 w2 => K ⟨.sl 0 w0 13 0 w1, [.row 13 true false w2], []⟩) := by kernel_rfl
theorem slices_Clone_Thing_ok (n : Nat) : EK.OK (slices_Clone_Thing_e n) 45 (L tab) := EK.shp (fun _ _ _ => rfl) fun ρ K y c e => EK.run (slices_Clone_Thing_Sok n) (by kernel_rfl) (MF.LKOK.of (LK.of (l := []) (by kernel_rfl) ((fun _ h => nomatch h)))) (slices_Clone_Thing_k (slices_Clone_Thing_g n) n _ _ _ K) (by kernel_rfl) e

/-! reeve/state.Clone -/
abbrev state_Clone_T : Type 1 := (ρ : Type) → Int → Int → Int → Bool → Bool → Rows → Bool → Bool → Rows → (Option ρ) → (Nat → Nat → Rows → Option ρ) → (Nat → Nat → Rows → Option ρ) → (Nat → Nat → Nat → Nat → Rows → Rows → Option ρ) → Option ρ
def state_Clone_E (G : state_Clone_T) : EK := fun ρ args K => decL [.agg [.i .i64 none, .i .i64 none, .i .i64 none, .lst none none 5 none, .lst none none 13 none]] args fun c => G ρ c.1.1 c.1.2.1 c.1.2.2.1 c.1.2.2.2.1.1 c.1.2.2.2.1.2.1 c.1.2.2.2.1.2.2 c.1.2.2.2.2.1.1 c.1.2.2.2.2.1.2.1 c.1.2.2.2.2.1.2.2 (K ⟨.agg [.i .i64 c.1.1, .i .i64 c.1.2.1, .i .i64 c.1.2.2.1, .lst true true 0 [], .lst true true 0 []], [], []⟩) (fun w0 w1 w2 => K ⟨.agg [.i .i64 c.1.1, .i .i64 c.1.2.1, .i .i64 c.1.2.2.1, .lst true true 0 [], .sl 0 w0 13 0 w1], [.row 13 true false w2], []⟩) (fun w0 w1 w2 => K ⟨.agg [.i .i64 c.1.1, .i .i64 c.1.2.1, .i .i64 c.1.2.2.1, .sl 0 w0 5 0 w1, .lst true true 0 []], [.row 5 true false w2], []⟩) (fun w0 w1 w2 w3 w4 w5 => K ⟨.agg [.i .i64 c.1.1, .i .i64 c.1.2.1, .i .i64 c.1.2.2.1, .sl 0 w0 5 0 w1, .sl 1 w2 13 0 w3], [.row 5 true false w4, .row 13 true false w5], []⟩)
structure state_Clone_G where
  mk ::
  slices_Clone_Slot : slices_Clone_Slot_T
  slices_Clone_Thing : slices_Clone_Thing_T
noncomputable def state_Clone_s (G : state_Clone_G) {ρ : Type} (_n : Nat) (_a0 : Int) (_a1 : Int) (_a2 : Int) (a3 : Bool) (a4 : Bool) (a5 : Rows) (a6 : Bool) (a7 : Bool) (a8 : Rows) (k0 : (Option ρ)) (k1 : (Nat → Nat → Rows → Option ρ)) (k2 : (Nat → Nat → Rows → Option ρ)) (k3 : (Nat → Nat → Nat → Nat → Rows → Rows → Option ρ)) : Option ρ :=
  G.slices_Clone_Slot ρ a3 a4 a5 (G.slices_Clone_Thing ρ a6 a7 a8 (k0) (fun w2_0 w2_1 w2_2 =>
      k1 w2_0 w2_1 w2_2)) (fun w3_0 w3_1 w3_2 =>
    G.slices_Clone_Thing ρ a6 a7 a8 (k2 w3_0 w3_1 w3_2) (fun w5_0 w5_1 w5_2 =>
      k3 w3_0 w3_1 w5_0 w5_1 w3_2 w5_2))
noncomputable def state_Clone_g (n : Nat) : state_Clone_G := ⟨slices_Clone_Slot n, slices_Clone_Thing n⟩
noncomputable def state_Clone (n : Nat) : state_Clone_T := fun _ρ a0 a1 a2 a3 a4 a5 a6 a7 a8 k0 k1 k2 k3 => state_Clone_s (state_Clone_g n) n a0 a1 a2 a3 a4 a5 a6 a7 a8 k0 k1 k2 k3
noncomputable def state_Clone_e (n : Nat) : EK := state_Clone_E (state_Clone n)
def state_Clone_S (G : state_Clone_G) : CK := tabS [(44, slices_Clone_Slot_E G.slices_Clone_Slot), (45, slices_Clone_Thing_E G.slices_Clone_Thing)]
theorem state_Clone_Sok (n : Nat) : CK.OK (state_Clone_S (state_Clone_g n)) (L tab) := tabS_ok _ (List.forall_mem_cons.2 ⟨(slices_Clone_Slot_ok n), List.forall_mem_cons.2 ⟨(slices_Clone_Thing_ok n), (fun _ h => nomatch h)⟩⟩)
def state_Clone_hs : HintC := hintL []
noncomputable def state_Clone_lp (_G : state_Clone_G) (_n : Nat) : LK := tabL []
theorem state_Clone_k (G : state_Clone_G) {ρ : Type} (n : Nat) (a0 : Int) (a1 : Int) (a2 : Int) (a3 : Bool) (a4 : Bool) (a5 : Rows) (a6 : Bool) (a7 : Bool) (a8 : Rows) (K : Res → Option ρ) : runC (state_Clone_S G) state_Clone_hs (state_Clone_lp G n) m19 [.agg [.i .i64 a0, .i .i64 a1, .i .i64 a2, .lst a3 a4 5 a5, .lst a6 a7 13 a8]] K = state_Clone_s G n a0 a1 a2 a3 a4 a5 a6 a7 a8 (K ⟨.agg [.i .i64 a0, .i .i64 a1, .i .i64 a2, .lst true true 0 [], .lst true true 0 []], [], []⟩) (fun w0 w1 w2 => K ⟨.agg [.i .i64 a0, .i .i64 a1, .i .i64 a2, .lst true true 0 [], .sl 0 w0 13 0 w1], [.row 13 true false w2], []⟩) (fun w0 w1 w2 => K ⟨.agg [.i .i64 a0, .i .i64 a1, .i .i64 a2, .sl 0 w0 5 0 w1, .lst true true 0 []], [.row 5 true false w2], []⟩) (fun w0 w1 w2 w3 w4 w5 => K ⟨.agg [.i .i64 a0, .i .i64 a1, .i .i64 a2, .sl 0 w0 5 0 w1, .sl 1 w2 13 0 w3], [.row 5 true false w4, .row 13 true false w5], []⟩) := by kernel_rfl
theorem state_Clone_ok (n : Nat) : EK.OK (state_Clone_e n) 19 (L tab) := EK.shp (fun _ _ _ => rfl) fun ρ K y c e => EK.run (state_Clone_Sok n) (by kernel_rfl) (MF.LKOK.of (LK.of (l := []) (by kernel_rfl) ((fun _ h => nomatch h)))) (state_Clone_k (state_Clone_g n) n _ _ _ _ _ _ _ _ _ K) (by kernel_rfl) e

/-! reeve/give.Put -/
abbrev give_Put_T : Type 1 := (ρ : Type) → Int → Int → Int → Bool → Bool → Rows → Bool → Bool → Rows → Int → Int → Int → Int → Int → Int → (Bool → Bool → Rows → Bool → Bool → Rows → Int → Option ρ) → Option ρ
def give_Put_E (G : give_Put_T) : EK := fun ρ args K => decL [.agg [.i .i64 none, .i .i64 none, .i .i64 none, .lst none none 5 none, .lst none none 13 none], .i .i64 none, .i .i64 none, .agg [.i .i64 none, .i .i64 none, .i .i64 none, .i .i64 none]] args fun c => G ρ c.1.1 c.1.2.1 c.1.2.2.1 c.1.2.2.2.1.1 c.1.2.2.2.1.2.1 c.1.2.2.2.1.2.2 c.1.2.2.2.2.1.1 c.1.2.2.2.2.1.2.1 c.1.2.2.2.2.1.2.2 c.2.1 c.2.2.1 c.2.2.2.1.1 c.2.2.2.1.2.1 c.2.2.2.1.2.2.1 c.2.2.2.1.2.2.2.1 (fun w0 w1 w2 w3 w4 w5 w6 => K ⟨.tup [.agg [.i .i64 c.1.1, .i .i64 c.1.2.1, .i .i64 c.1.2.2.1, .lst w0 w1 5 w2, .lst w3 w4 13 w5], .i .i64 w6], [], []⟩)
structure give_Put_G where
  mk ::
  state_Good : state_Good_T
  cap_Good : cap_Good_T
  cap_None : cap_None_T
  state_Owner : state_Owner_T
  cap_Less : cap_Less_T
  give_ring : give_ring_T
  state_Clone : state_Clone_T
noncomputable def give_Put_s (G : give_Put_G) {ρ : Type} (_n : Nat) (a0 : Int) (a1 : Int) (a2 : Int) (a3 : Bool) (a4 : Bool) (a5 : Rows) (a6 : Bool) (a7 : Bool) (a8 : Rows) (a9 : Int) (a10 : Int) (a11 : Int) (a12 : Int) (a13 : Int) (a14 : Int) (k0 : (Bool → Bool → Rows → Bool → Bool → Rows → Int → Option ρ)) : Option ρ :=
  G.state_Good ρ a0 a1 a2 a3 a4 a5 a6 a7 a8 (fun w0_0 =>
    bif w0_0 then
      bif decide ((a9 : Int) < 0) then
        k0 a3 a4 a5 a6 a7 a8 1
      else bif decide ((a9 : Int) ≥ (((List.length (a5 : Rows)) : Nat) : Int)) then
        k0 a3 a4 a5 a6 a7 a8 1
      else bif decide ((a10 : Int) < 0) then
        k0 a3 a4 a5 a6 a7 a8 1
      else bif decide ((a10 : Int) ≥ (((List.length (a5 : Rows)) : Nat) : Int)) then
        k0 a3 a4 a5 a6 a7 a8 1
      else G.cap_Good ρ a11 a12 a13 a14 (fun w1_0 =>
        bif w1_0 then
          G.cap_None ρ a11 a12 a13 a14 (fun w2_0 =>
            bif w2_0 then
              k0 a3 a4 a5 a6 a7 a8 1
            else G.state_Owner ρ a0 a1 a2 a3 a4 a5 a6 a7 a8 a10 (fun w3_0 =>
              bif decide ((w3_0 : Int) < 0) then
                k0 a3 a4 a5 a6 a7 a8 1
              else rowT [.i .i64, .i .i64, .i .i64, .i .i64, .i .i64] a5 a9 fun c4 =>
              G.cap_None ρ c4.1 c4.2.1 c4.2.2.1 c4.2.2.2.1 (fun w5_0 =>
                bif w5_0 then
                  k0 a3 a4 a5 a6 a7 a8 4
                else rowT [.i .i64, .i .i64, .i .i64, .i .i64, .i .i64] a5 a10 fun c6 =>
                G.cap_None ρ c6.1 c6.2.1 c6.2.2.1 c6.2.2.2.1 (fun w7_0 =>
                  bif w7_0 then
                    rowT [.i .i64, .i .i64, .i .i64, .i .i64, .i .i64] a5 a9 fun c8 =>
                    bif ((c8.1 : Int) == 1) then
                      k0 a3 a4 a5 a6 a7 a8 7
                    else rowT [.i .i64, .i .i64, .i .i64, .i .i64, .i .i64] a5 a9 fun c9 =>
                    G.cap_Less ρ a11 a12 a13 a14 c9.1 c9.2.1 c9.2.2.1 c9.2.2.2.1 (fun w10_0 =>
                      bif w10_0 then
                        G.give_ring ρ a0 a1 a2 a3 a4 a5 a6 a7 a8 a11 a12 a13 a14 a10 (fun w11_0 =>
                          bif w11_0 then
                            k0 a3 a4 a5 a6 a7 a8 1
                          else G.state_Clone ρ a0 a1 a2 a3 a4 a5 a6 a7 a8 (none) (fun _w13_0 _w13_1 _w13_2 =>
                            none) (fun w14_0 w14_1 w14_2 =>
                            chk (decide ((0 : Int) ≤ a10)) <|
                            chk (decide ((a10 : Int) < ((w14_1 : Nat) : Int))) <|
                            chk (((List.length (w14_2 : Rows)) : Nat) == w14_0) <|
                            rowN [.a, .a, .a, .a, .a] w14_2 (0 + a10.toNat) fun _c15 =>
                            chk (((List.length ((List.set (w14_2 : Rows) (0 + a10.toNat) [.i .i64 a11, .i .i64 a12, .i .i64 a13, .i .i64 a14, .i .i64 a9]) : Rows)) : Nat) == w14_0) <|
                            k0 false false (List.take w14_1 (List.drop 0 ((List.set (w14_2 : Rows) (0 + a10.toNat) [.i .i64 a11, .i .i64 a12, .i .i64 a13, .i .i64 a14, .i .i64 a9]) : Rows))) true true [] 0) (fun w16_0 w16_1 w16_2 w16_3 w16_4 w16_5 =>
                            chk (decide ((0 : Int) ≤ a10)) <|
                            chk (decide ((a10 : Int) < ((w16_1 : Nat) : Int))) <|
                            chk (((List.length (w16_4 : Rows)) : Nat) == w16_0) <|
                            rowN [.a, .a, .a, .a, .a] w16_4 (0 + a10.toNat) fun _c17 =>
                            chk (((List.length ((List.set (w16_4 : Rows) (0 + a10.toNat) [.i .i64 a11, .i .i64 a12, .i .i64 a13, .i .i64 a14, .i .i64 a9]) : Rows)) : Nat) == w16_0) <|
                            chk (((List.length (w16_5 : Rows)) : Nat) == w16_2) <|
                            k0 false false (List.take w16_1 (List.drop 0 ((List.set (w16_4 : Rows) (0 + a10.toNat) [.i .i64 a11, .i .i64 a12, .i .i64 a13, .i .i64 a14, .i .i64 a9]) : Rows))) false false (List.take w16_3 (List.drop 0 (w16_5 : Rows))) 0))
                      else k0 a3 a4 a5 a6 a7 a8 1)
                  else k0 a3 a4 a5 a6 a7 a8 5))))
        else k0 a3 a4 a5 a6 a7 a8 1)
    else k0 a3 a4 a5 a6 a7 a8 1)
noncomputable def give_Put_g (n : Nat) : give_Put_G := ⟨state_Good n, cap_Good n, cap_None n, state_Owner n, cap_Less n, give_ring n, state_Clone n⟩
noncomputable def give_Put (n : Nat) : give_Put_T := fun _ρ a0 a1 a2 a3 a4 a5 a6 a7 a8 a9 a10 a11 a12 a13 a14 k0 => give_Put_s (give_Put_g n) n a0 a1 a2 a3 a4 a5 a6 a7 a8 a9 a10 a11 a12 a13 a14 k0
noncomputable def give_Put_e (n : Nat) : EK := give_Put_E (give_Put n)
def give_Put_S (G : give_Put_G) : CK := tabS [(28, state_Good_E G.state_Good), (27, cap_Good_E G.cap_Good), (50, cap_None_E G.cap_None), (51, state_Owner_E G.state_Owner), (52, cap_Less_E G.cap_Less), (53, give_ring_E G.give_ring), (19, state_Clone_E G.state_Clone)]
theorem give_Put_Sok (n : Nat) : CK.OK (give_Put_S (give_Put_g n)) (L tab) := tabS_ok _ (List.forall_mem_cons.2 ⟨(state_Good_ok n), List.forall_mem_cons.2 ⟨(cap_Good_ok n), List.forall_mem_cons.2 ⟨(cap_None_ok n), List.forall_mem_cons.2 ⟨(state_Owner_ok n), List.forall_mem_cons.2 ⟨(cap_Less_ok n), List.forall_mem_cons.2 ⟨(give_ring_ok n), List.forall_mem_cons.2 ⟨(state_Clone_ok n), (fun _ h => nomatch h)⟩⟩⟩⟩⟩⟩⟩)
def give_Put_hs : HintC := hintL [(52, [.i .i64, .i .i64, .i .i64, .i .i64, .i .i64]), (61, [.i .i64, .i .i64, .i .i64, .i .i64, .i .i64]), (71, [.i .i64, .i .i64, .i .i64, .i .i64, .i .i64]), (82, [.i .i64, .i .i64, .i .i64, .i .i64, .i .i64])]
noncomputable def give_Put_lp (_G : give_Put_G) (_n : Nat) : LK := tabL []
theorem give_Put_k (G : give_Put_G) {ρ : Type} (n : Nat) (a0 : Int) (a1 : Int) (a2 : Int) (a3 : Bool) (a4 : Bool) (a5 : Rows) (a6 : Bool) (a7 : Bool) (a8 : Rows) (a9 : Int) (a10 : Int) (a11 : Int) (a12 : Int) (a13 : Int) (a14 : Int) (K : Res → Option ρ) : runC (give_Put_S G) give_Put_hs (give_Put_lp G n) m26 [.agg [.i .i64 a0, .i .i64 a1, .i .i64 a2, .lst a3 a4 5 a5, .lst a6 a7 13 a8], .i .i64 a9, .i .i64 a10, .agg [.i .i64 a11, .i .i64 a12, .i .i64 a13, .i .i64 a14]] K = give_Put_s G n a0 a1 a2 a3 a4 a5 a6 a7 a8 a9 a10 a11 a12 a13 a14 (fun w0 w1 w2 w3 w4 w5 w6 => K ⟨.tup [.agg [.i .i64 a0, .i .i64 a1, .i .i64 a2, .lst w0 w1 5 w2, .lst w3 w4 13 w5], .i .i64 w6], [], []⟩) := by kernel_rfl
theorem give_Put_ok (n : Nat) : EK.OK (give_Put_e n) 26 (L tab) := EK.shp (fun _ _ _ => rfl) fun ρ K y c e => EK.run (give_Put_Sok n) (by kernel_rfl) (MF.LKOK.of (LK.of (l := []) (by kernel_rfl) ((fun _ h => nomatch h)))) (give_Put_k (give_Put_g n) n _ _ _ _ _ _ _ _ _ _ _ _ _ _ _ K) (by kernel_rfl) e

/-! reeve/forest.may -/
abbrev forest_may_T : Type 1 := (ρ : Type) → Bool → Bool → Rows → Int → (Bool → Option ρ) → Option ρ
def forest_may_E (G : forest_may_T) : EK := fun ρ args K => decL [.agg [.lst none none 1 none], .i .i64 none] args fun c => G ρ c.1.1.1 c.1.1.2.1 c.1.1.2.2 c.2.1 (fun w0 => K ⟨.b w0, [], []⟩)
structure forest_may_G where
  mk ::
  forest_Good : forest_Good_T
  forest_Forest_is : forest_Forest_is_T
noncomputable def forest_may_s (G : forest_may_G) {ρ : Type} (_n : Nat) (a0 : Bool) (a1 : Bool) (a2 : Rows) (a3 : Int) (k0 : (Bool → Option ρ)) : Option ρ :=
  G.forest_Good ρ a0 a1 a2 (fun w0_0 =>
    bif w0_0 then
      G.forest_Forest_is ρ a0 a1 a2 a3 (fun w1_0 =>
        bif w1_0 then
          k0 true
        else k0 false)
    else k0 false)
noncomputable def forest_may_g (n : Nat) : forest_may_G := ⟨forest_Good n, forest_Forest_is n⟩
noncomputable def forest_may (n : Nat) : forest_may_T := fun _ρ a0 a1 a2 a3 k0 => forest_may_s (forest_may_g n) n a0 a1 a2 a3 k0
noncomputable def forest_may_e (n : Nat) : EK := forest_may_E (forest_may n)
def forest_may_S (G : forest_may_G) : CK := tabS [(62, forest_Good_E G.forest_Good), (92, forest_Forest_is_E G.forest_Forest_is)]
theorem forest_may_Sok (n : Nat) : CK.OK (forest_may_S (forest_may_g n)) (L tab) := tabS_ok _ (List.forall_mem_cons.2 ⟨(forest_Good_ok n), List.forall_mem_cons.2 ⟨(forest_Forest_is_ok n), (fun _ h => nomatch h)⟩⟩)
def forest_may_hs : HintC := hintL []
noncomputable def forest_may_lp (_G : forest_may_G) (_n : Nat) : LK := tabL []
theorem forest_may_k (G : forest_may_G) {ρ : Type} (n : Nat) (a0 : Bool) (a1 : Bool) (a2 : Rows) (a3 : Int) (K : Res → Option ρ) : runC (forest_may_S G) forest_may_hs (forest_may_lp G n) m84 [.agg [.lst a0 a1 1 a2], .i .i64 a3] K = forest_may_s G n a0 a1 a2 a3 (fun w0 => K ⟨.b w0, [], []⟩) := by kernel_rfl
theorem forest_may_ok (n : Nat) : EK.OK (forest_may_e n) 84 (L tab) := EK.shp (fun _ _ _ => rfl) fun ρ K y c e => EK.run (forest_may_Sok n) (by kernel_rfl) (MF.LKOK.of (LK.of (l := []) (by kernel_rfl) ((fun _ h => nomatch h)))) (forest_may_k (forest_may_g n) n _ _ _ _ K) (by kernel_rfl) e

end Go.Rv
/- functions as programs of ours, and their ties, part 3 -/
namespace Go.Rv
/-! slices.Clone[[]int,int] -/
abbrev slices_Clone_int_T : Type 1 := (ρ : Type) → Bool → Bool → Rows → (Option ρ) → (Nat → Nat → Rows → Option ρ) → Option ρ
def slices_Clone_int_E (G : slices_Clone_int_T) : EK := fun ρ args K => decL [.lst none none 1 none] args fun c => G ρ c.1.1 c.1.2.1 c.1.2.2 (K ⟨.lst true true 0 [], [], []⟩) (fun w0 w1 w2 => K ⟨.sl 0 w0 1 0 w1, [.row 1 true false w2], []⟩)
structure slices_Clone_int_G where
  mk ::
noncomputable def slices_Clone_int_s (_G : slices_Clone_int_G) {ρ : Type} (_n : Nat) (a0 : Bool) (_a1 : Bool) (a2 : Rows) (k0 : (Option ρ)) (k1 : (Nat → Nat → Rows → Option ρ)) : Option ρ :=
  bif a0 then
    k0
  else chk (List.all (a2 : Rows) fun e => e.length == 1) <|
  chk (decide ((0 + (List.length (a2 : Rows))) ≤ most)) <|
  chk (List.all (a2 : Rows) fun e => !ownL e) <|
  k1 (0 + (List.length (a2 : Rows))) (0 + (List.length (a2 : Rows))) ([] ++ a2)
noncomputable def slices_Clone_int_g (_n : Nat) : slices_Clone_int_G := ⟨⟩
noncomputable def slices_Clone_int (n : Nat) : slices_Clone_int_T := fun _ρ a0 a1 a2 k0 k1 => slices_Clone_int_s (slices_Clone_int_g n) n a0 a1 a2 k0 k1
noncomputable def slices_Clone_int_e (n : Nat) : EK := slices_Clone_int_E (slices_Clone_int n)
def slices_Clone_int_S (_G : slices_Clone_int_G) : CK := tabS []
theorem slices_Clone_int_Sok (n : Nat) : CK.OK (slices_Clone_int_S (slices_Clone_int_g n)) (L tab) := tabS_ok _ ((fun _ h => nomatch h))
def slices_Clone_int_hs : HintC := hintL []
noncomputable def slices_Clone_int_lp (_G : slices_Clone_int_G) (_n : Nat) : LK := tabL []
theorem slices_Clone_int_k (G : slices_Clone_int_G) {ρ : Type} (n : Nat) (a0 : Bool) (a1 : Bool) (a2 : Rows) (K : Res → Option ρ) : runC (slices_Clone_int_S G) slices_Clone_int_hs (slices_Clone_int_lp G n) m150 [.lst a0 a1 1 a2] K = slices_Clone_int_s G n a0 a1 a2 (K ⟨.lst true true 0 [], [], []⟩) (fun w0 w1 w2 => K ⟨.sl 0 w0 1 0 w1, [.row 1 true false w2], []⟩) := by kernel_rfl
theorem slices_Clone_int_ok (n : Nat) : EK.OK (slices_Clone_int_e n) 150 (L tab) := EK.shp (fun _ _ _ => rfl) fun ρ K y c e => EK.run (slices_Clone_int_Sok n) (by kernel_rfl) (MF.LKOK.of (LK.of (l := []) (by kernel_rfl) ((fun _ h => nomatch h)))) (slices_Clone_int_k (slices_Clone_int_g n) n _ _ _ K) (by kernel_rfl) e

/-! (reeve/forest.Forest).clone -/
abbrev forest_Forest_clone_T : Type 1 := (ρ : Type) → Bool → Bool → Rows → (Option ρ) → (Nat → Nat → Rows → Option ρ) → Option ρ
def forest_Forest_clone_E (G : forest_Forest_clone_T) : EK := fun ρ args K => decL [.agg [.lst none none 1 none]] args fun c => G ρ c.1.1.1 c.1.1.2.1 c.1.1.2.2 (K ⟨.agg [.lst true true 0 []], [], []⟩) (fun w0 w1 w2 => K ⟨.agg [.sl 0 w0 1 0 w1], [.row 1 true false w2], []⟩)
structure forest_Forest_clone_G where
  mk ::
  slices_Clone_int : slices_Clone_int_T
noncomputable def forest_Forest_clone_s (G : forest_Forest_clone_G) {ρ : Type} (_n : Nat) (a0 : Bool) (a1 : Bool) (a2 : Rows) (k0 : (Option ρ)) (k1 : (Nat → Nat → Rows → Option ρ)) : Option ρ :=
  G.slices_Clone_int ρ a0 a1 a2 (k0) (fun w1_0 w1_1 w1_2 =>
    k1 w1_0 w1_1 w1_2)
noncomputable def forest_Forest_clone_g (n : Nat) : forest_Forest_clone_G := ⟨slices_Clone_int n⟩
noncomputable def forest_Forest_clone (n : Nat) : forest_Forest_clone_T := fun _ρ a0 a1 a2 k0 k1 => forest_Forest_clone_s (forest_Forest_clone_g n) n a0 a1 a2 k0 k1
noncomputable def forest_Forest_clone_e (n : Nat) : EK := forest_Forest_clone_E (forest_Forest_clone n)
def forest_Forest_clone_S (G : forest_Forest_clone_G) : CK := tabS [(150, slices_Clone_int_E G.slices_Clone_int)]
theorem forest_Forest_clone_Sok (n : Nat) : CK.OK (forest_Forest_clone_S (forest_Forest_clone_g n)) (L tab) := tabS_ok _ (List.forall_mem_cons.2 ⟨(slices_Clone_int_ok n), (fun _ h => nomatch h)⟩)
def forest_Forest_clone_hs : HintC := hintL []
noncomputable def forest_Forest_clone_lp (_G : forest_Forest_clone_G) (_n : Nat) : LK := tabL []
theorem forest_Forest_clone_k (G : forest_Forest_clone_G) {ρ : Type} (n : Nat) (a0 : Bool) (a1 : Bool) (a2 : Rows) (K : Res → Option ρ) : runC (forest_Forest_clone_S G) forest_Forest_clone_hs (forest_Forest_clone_lp G n) m140 [.agg [.lst a0 a1 1 a2]] K = forest_Forest_clone_s G n a0 a1 a2 (K ⟨.agg [.lst true true 0 []], [], []⟩) (fun w0 w1 w2 => K ⟨.agg [.sl 0 w0 1 0 w1], [.row 1 true false w2], []⟩) := by kernel_rfl
theorem forest_Forest_clone_ok (n : Nat) : EK.OK (forest_Forest_clone_e n) 140 (L tab) := EK.shp (fun _ _ _ => rfl) fun ρ K y c e => EK.run (forest_Forest_clone_Sok n) (by kernel_rfl) (MF.LKOK.of (LK.of (l := []) (by kernel_rfl) ((fun _ h => nomatch h)))) (forest_Forest_clone_k (forest_Forest_clone_g n) n _ _ _ K) (by kernel_rfl) e

/-! (reeve/forest.Forest).of -/
abbrev forest_Forest_of_T : Type 1 := (ρ : Type) → Bool → Bool → Int → (Option ρ) → Option ρ
def forest_Forest_of_E (G : forest_Forest_of_T) : EK := fun ρ args K => decL [.agg [.lst none none 0 (some [])], .i .i64 none] args fun c => G ρ c.1.1.1 c.1.1.2.1 c.2.1 (K ⟨.lst true true 0 [], [], []⟩)
structure forest_Forest_of_G where
  mk ::
abbrev forest_Forest_of_l3_V : Type := Unit
noncomputable def forest_Forest_of_l3_s (_G : forest_Forest_of_G) {ρ : Type} (_n : Nat) (_p0 : Int) (_p1 : Bool) (_p2 : Bool) (_p3 : Bool) (_p4 : Bool) (k0 : (Option ρ)) (_rec' : forest_Forest_of_l3_V → Option ρ) : forest_Forest_of_l3_V → Option ρ
  | _v =>
  k0
noncomputable def forest_Forest_of_l3 (G : forest_Forest_of_G) {ρ : Type} (n : Nat) (p0 : Int) (p1 : Bool) (p2 : Bool) (p3 : Bool) (p4 : Bool) (k0 : (Option ρ)) (v : forest_Forest_of_l3_V) : Option ρ := fuelN (forest_Forest_of_l3_s G n p0 p1 p2 p3 p4 k0) n v
def forest_Forest_of_l3_enc (p0 : Int) (p1 : Bool) (p2 : Bool) (p3 : Bool) (p4 : Bool) : forest_Forest_of_l3_V → St
  | _v => ⟨[(1, .i .i64 p0), (5, .lst true true 0 []), (9, .lst p1 p2 0 []), (10, .i .i64 0), (11, .i .i64 0)], [.row 1 true false [[.lst p3 p4 0 []]]]⟩
noncomputable def forest_Forest_of_s (G : forest_Forest_of_G) {ρ : Type} (n : Nat) (a0 : Bool) (a1 : Bool) (a2 : Int) (k0 : (Option ρ)) : Option ρ :=
  forest_Forest_of_l3 G n a2 a0 a1 a0 a1 (k0) ()
noncomputable def forest_Forest_of_g (_n : Nat) : forest_Forest_of_G := ⟨⟩
noncomputable def forest_Forest_of (n : Nat) : forest_Forest_of_T := fun _ρ a0 a1 a2 k0 => forest_Forest_of_s (forest_Forest_of_g n) n a0 a1 a2 k0
noncomputable def forest_Forest_of_e (n : Nat) : EK := forest_Forest_of_E (forest_Forest_of n)
def forest_Forest_of_S (_G : forest_Forest_of_G) : CK := tabS []
theorem forest_Forest_of_Sok (n : Nat) : CK.OK (forest_Forest_of_S (forest_Forest_of_g n)) (L tab) := tabS_ok _ ((fun _ h => nomatch h))
def forest_Forest_of_hs : HintC := hintL []
def forest_Forest_of_c3 : Nat × List Nat × List Nat × MC := loopAt 3 m85
noncomputable def forest_Forest_of_l3_d (G : forest_Forest_of_G) (n : Nat) : Go.Rv.LE := fun _ρ h K => decSt [(1, .i .i64 none), (5, .lst (some true) (some true) 0 (some [])), (9, .lst none none 0 (some [])), (10, .i .i64 (some 0)), (11, .i .i64 (some 0))] [.row 1 true false (some [[.lst none none 0 (some [])]])] h fun a b => forest_Forest_of_l3 G n a.1 a.2.2.1.1 a.2.2.1.2.1 b.1.1.1.1 b.1.1.1.2.1 (K (.exit 0) ⟨[(5, .lst true true 0 [])], [.row 1 true false [[.lst b.1.1.1.1 b.1.1.1.2.1 0 []]]]⟩) ()
noncomputable def forest_Forest_of_d3 (G : forest_Forest_of_G) (n : Nat) : Go.Rv.LE := forest_Forest_of_l3_d G n
noncomputable def forest_Forest_of_lp (G : forest_Forest_of_G) (n : Nat) : LK := tabL [(3, forest_Forest_of_d3 G n)]
theorem forest_Forest_of_l3_k (G : forest_Forest_of_G) {ρ : Type} (n : Nat) (p0 : Int) (p1 : Bool) (p2 : Bool) (p3 : Bool) (p4 : Bool) (K : Ex → St → Option ρ) (N : St → Option ρ) : ∀ v, roundC (forest_Forest_of_S G) forest_Forest_of_hs (forest_Forest_of_lp G n) forest_Forest_of_c3 1 N K (forest_Forest_of_l3_enc p0 p1 p2 p3 p4 v) = forest_Forest_of_l3_s G n p0 p1 p2 p3 p4 (K (.exit 0) ⟨[(5, .lst true true 0 [])], [.row 1 true false [[.lst p3 p4 0 []]]]⟩) (fun v => N (forest_Forest_of_l3_enc p0 p1 p2 p3 p4 v)) v
  | v => by kernel_rfl
theorem forest_Forest_of_l3_dok (n : Nat) : LE.OK (forest_Forest_of_l3_d (forest_Forest_of_g n) n) (L tab) forest_Forest_of_c3 := LE.shp (fun _ _ _ => rfl) fun ρ K y a b e => LE.rounds (forest_Forest_of_Sok n) (LK.of (l := []) (by kernel_rfl) ((fun _ h => nomatch h))) (forest_Forest_of_l3_k (forest_Forest_of_g n) n _ _ _ _ _ K) (by kernel_rfl) (by kernel_rfl) e
theorem forest_Forest_of_d3_ok (n : Nat) : LE.OK (forest_Forest_of_d3 (forest_Forest_of_g n) n) (L tab) forest_Forest_of_c3 := forest_Forest_of_l3_dok n
theorem forest_Forest_of_k (G : forest_Forest_of_G) {ρ : Type} (n : Nat) (a0 : Bool) (a1 : Bool) (a2 : Int) (K : Res → Option ρ) : runC (forest_Forest_of_S G) forest_Forest_of_hs (forest_Forest_of_lp G n) m85 [.agg [.lst a0 a1 0 []], .i .i64 a2] K = forest_Forest_of_s G n a0 a1 a2 (K ⟨.lst true true 0 [], [], []⟩) := by kernel_rfl
theorem forest_Forest_of_ok (n : Nat) : EK.OK (forest_Forest_of_e n) 85 (L tab) := EK.shp (fun _ _ _ => rfl) fun ρ K y c e => EK.run (forest_Forest_of_Sok n) (by kernel_rfl) (MF.LKOK.of (LK.of (l := [forest_Forest_of_c3]) (by kernel_rfl) (List.forall_mem_cons.2 ⟨LE.at (e := forest_Forest_of_d3 (forest_Forest_of_g n) n) (by kernel_rfl) (forest_Forest_of_d3_ok n), (fun _ h => nomatch h)⟩))) (forest_Forest_of_k (forest_Forest_of_g n) n _ _ _ K) (by kernel_rfl) e

/-! (reeve/forest.Forest).of -/
abbrev forest_Forest_of_i1_T : Type 1 := (ρ : Type) → Bool → Bool → Rows → Int → (Option ρ) → (Nat → Nat → Rows → Option ρ) → Option ρ
def forest_Forest_of_i1_E (G : forest_Forest_of_i1_T) : EK := fun ρ args K => decL [.agg [.lst none none 1 none], .i .i64 none] args fun c => G ρ c.1.1.1 c.1.1.2.1 c.1.1.2.2 c.2.1 (K ⟨.lst true true 0 [], [], []⟩) (fun w0 w1 w2 => K ⟨.sl 0 w0 1 0 w1, [.row 1 true false w2], []⟩)
structure forest_Forest_of_i1_G where
  mk ::
abbrev forest_Forest_of_i1_l3_V : Type := (Int) ⊕ (Nat × Nat × Int × Rows)
noncomputable def forest_Forest_of_i1_l3_s (_G : forest_Forest_of_i1_G) {ρ : Type} (_n : Nat) (p0 : Int) (_p1 : Bool) (_p2 : Bool) (p3 : Rows) (p4 : Int) (_p5 : Bool) (_p6 : Bool) (_p7 : Rows) (k0 : (Option ρ)) (k1 : (Nat → Nat → Rows → Option ρ)) (rec' : forest_Forest_of_i1_l3_V → Option ρ) : forest_Forest_of_i1_l3_V → Option ρ
  | (.inl v) =>
  bif decide ((v : Int) < p4) then
    rowT [.i .i64] p3 v fun c0 =>
    bif ((c0.1 : Int) == p0) then
      rec' (.inr (1, 1, (IntKind.wrap .i64 (v + 1)), [[.i .i64 v]]))
    else rec' (.inl ((IntKind.wrap .i64 (v + 1))))
  else k0
  | (.inr v) =>
  bif decide ((v.2.2.1 : Int) < p4) then
    rowT [.i .i64] p3 v.2.2.1 fun c1 =>
    bif ((c1.1 : Int) == p0) then
      chk (((List.length (v.2.2.2 : Rows)) : Nat) == v.1) <|
      chk ((v.2.1 : Nat) == v.1) <|
      chk (decide ((v.1 + 1) ≤ most)) <|
      rec' (.inr ((v.1 + 1), (v.1 + 1), (IntKind.wrap .i64 (v.2.2.1 + 1)), (v.2.2.2 ++ [[.i .i64 v.2.2.1]])))
    else rec' (.inr (v.1, v.2.1, (IntKind.wrap .i64 (v.2.2.1 + 1)), v.2.2.2))
  else k1 v.1 v.2.1 v.2.2.2
noncomputable def forest_Forest_of_i1_l3 (G : forest_Forest_of_i1_G) {ρ : Type} (n : Nat) (p0 : Int) (p1 : Bool) (p2 : Bool) (p3 : Rows) (p4 : Int) (p5 : Bool) (p6 : Bool) (p7 : Rows) (k0 : (Option ρ)) (k1 : (Nat → Nat → Rows → Option ρ)) (v : forest_Forest_of_i1_l3_V) : Option ρ := fuelN (forest_Forest_of_i1_l3_s G n p0 p1 p2 p3 p4 p5 p6 p7 k0 k1) n v
def forest_Forest_of_i1_l3_enc (p0 : Int) (p1 : Bool) (p2 : Bool) (p3 : Rows) (p4 : Int) (p5 : Bool) (p6 : Bool) (p7 : Rows) : forest_Forest_of_i1_l3_V → St
  | (.inl v) => ⟨[(1, .i .i64 p0), (5, .lst true true 0 []), (9, .lst p1 p2 1 p3), (10, .i .i64 p4), (11, .i .i64 v)], [.row 1 true false [[.lst p5 p6 1 p7]]]⟩
  | (.inr v) => ⟨[(1, .i .i64 p0), (5, .sl 1 v.1 1 0 v.2.1), (9, .lst p1 p2 1 p3), (10, .i .i64 p4), (11, .i .i64 v.2.2.1)], [.row 1 true false [[.lst p5 p6 1 p7]], .row 1 true false v.2.2.2]⟩
noncomputable def forest_Forest_of_i1_s (G : forest_Forest_of_i1_G) {ρ : Type} (n : Nat) (a0 : Bool) (a1 : Bool) (a2 : Rows) (a3 : Int) (k0 : (Option ρ)) (k1 : (Nat → Nat → Rows → Option ρ)) : Option ρ :=
  forest_Forest_of_i1_l3 G n a3 a0 a1 a2 (((List.length (a2 : Rows)) : Nat) : Int) a0 a1 a2 (k0) (fun w1_0 w1_1 w1_2 =>
    k1 w1_0 w1_1 w1_2) (.inl (0))
noncomputable def forest_Forest_of_i1_g (_n : Nat) : forest_Forest_of_i1_G := ⟨⟩
noncomputable def forest_Forest_of_i1 (n : Nat) : forest_Forest_of_i1_T := fun _ρ a0 a1 a2 a3 k0 k1 => forest_Forest_of_i1_s (forest_Forest_of_i1_g n) n a0 a1 a2 a3 k0 k1
noncomputable def forest_Forest_of_i1_e (n : Nat) : EK := forest_Forest_of_i1_E (forest_Forest_of_i1 n)
def forest_Forest_of_i1_S (_G : forest_Forest_of_i1_G) : CK := tabS []
theorem forest_Forest_of_i1_Sok (n : Nat) : CK.OK (forest_Forest_of_i1_S (forest_Forest_of_i1_g n)) (L tab) := tabS_ok _ ((fun _ h => nomatch h))
def forest_Forest_of_i1_hs : HintC := hintL [(14, [.i .i64])]
def forest_Forest_of_i1_c3 : Nat × List Nat × List Nat × MC := loopAt 3 m85
noncomputable def forest_Forest_of_i1_l3_d (G : forest_Forest_of_i1_G) (n : Nat) : Go.Rv.LE := fun _ρ h K => decSt [(1, .i .i64 none), (5, .lst (some true) (some true) 0 (some [])), (9, .lst none none 1 none), (10, .i .i64 none), (11, .i .i64 none)] [.row 1 true false (some [[.lst none none 1 none]])] h fun a b => forest_Forest_of_i1_l3 G n a.1 a.2.2.1.1 a.2.2.1.2.1 a.2.2.1.2.2 a.2.2.2.1 b.1.1.1.1 b.1.1.1.2.1 b.1.1.1.2.2 (K (.exit 0) ⟨[(5, .lst true true 0 [])], [.row 1 true false [[.lst b.1.1.1.1 b.1.1.1.2.1 1 b.1.1.1.2.2]]]⟩) (fun w0 w1 w2 => K (.exit 0) ⟨[(5, .sl 1 w0 1 0 w1)], [.row 1 true false [[.lst b.1.1.1.1 b.1.1.1.2.1 1 b.1.1.1.2.2]], .row 1 true false w2]⟩) (.inl (a.2.2.2.2.1))
noncomputable def forest_Forest_of_i1_d3 (G : forest_Forest_of_i1_G) (n : Nat) : Go.Rv.LE := forest_Forest_of_i1_l3_d G n
noncomputable def forest_Forest_of_i1_lp (G : forest_Forest_of_i1_G) (n : Nat) : LK := tabL [(3, forest_Forest_of_i1_d3 G n)]
theorem forest_Forest_of_i1_l3_k (G : forest_Forest_of_i1_G) {ρ : Type} (n : Nat) (p0 : Int) (p1 : Bool) (p2 : Bool) (p3 : Rows) (p4 : Int) (p5 : Bool) (p6 : Bool) (p7 : Rows) (K : Ex → St → Option ρ) (N : St → Option ρ) : ∀ v, roundC (forest_Forest_of_i1_S G) forest_Forest_of_i1_hs (forest_Forest_of_i1_lp G n) forest_Forest_of_i1_c3 1 N K (forest_Forest_of_i1_l3_enc p0 p1 p2 p3 p4 p5 p6 p7 v) = forest_Forest_of_i1_l3_s G n p0 p1 p2 p3 p4 p5 p6 p7 (K (.exit 0) ⟨[(5, .lst true true 0 [])], [.row 1 true false [[.lst p5 p6 1 p7]]]⟩) (fun w0 w1 w2 => K (.exit 0) ⟨[(5, .sl 1 w0 1 0 w1)], [.row 1 true false [[.lst p5 p6 1 p7]], .row 1 true false w2]⟩) (fun v => N (forest_Forest_of_i1_l3_enc p0 p1 p2 p3 p4 p5 p6 p7 v)) v
  | (.inl v) => by kernel_rfl
  | (.inr v) => by kernel_rfl
theorem forest_Forest_of_i1_l3_dok (n : Nat) : LE.OK (forest_Forest_of_i1_l3_d (forest_Forest_of_i1_g n) n) (L tab) forest_Forest_of_i1_c3 := LE.shp (fun _ _ _ => rfl) fun ρ K y a b e => LE.rounds (forest_Forest_of_i1_Sok n) (LK.of (l := []) (by kernel_rfl) ((fun _ h => nomatch h))) (forest_Forest_of_i1_l3_k (forest_Forest_of_i1_g n) n _ _ _ _ _ _ _ _ K) (by kernel_rfl) (by kernel_rfl) e
theorem forest_Forest_of_i1_d3_ok (n : Nat) : LE.OK (forest_Forest_of_i1_d3 (forest_Forest_of_i1_g n) n) (L tab) forest_Forest_of_i1_c3 := forest_Forest_of_i1_l3_dok n
theorem forest_Forest_of_i1_k (G : forest_Forest_of_i1_G) {ρ : Type} (n : Nat) (a0 : Bool) (a1 : Bool) (a2 : Rows) (a3 : Int) (K : Res → Option ρ) : runC (forest_Forest_of_i1_S G) forest_Forest_of_i1_hs (forest_Forest_of_i1_lp G n) m85 [.agg [.lst a0 a1 1 a2], .i .i64 a3] K = forest_Forest_of_i1_s G n a0 a1 a2 a3 (K ⟨.lst true true 0 [], [], []⟩) (fun w0 w1 w2 => K ⟨.sl 0 w0 1 0 w1, [.row 1 true false w2], []⟩) := by kernel_rfl
theorem forest_Forest_of_i1_ok (n : Nat) : EK.OK (forest_Forest_of_i1_e n) 85 (L tab) := EK.shp (fun _ _ _ => rfl) fun ρ K y c e => EK.run (forest_Forest_of_i1_Sok n) (by kernel_rfl) (MF.LKOK.of (LK.of (l := [forest_Forest_of_i1_c3]) (by kernel_rfl) (List.forall_mem_cons.2 ⟨LE.at (e := forest_Forest_of_i1_d3 (forest_Forest_of_i1_g n) n) (by kernel_rfl) (forest_Forest_of_i1_d3_ok n), (fun _ h => nomatch h)⟩))) (forest_Forest_of_i1_k (forest_Forest_of_i1_g n) n _ _ _ _ K) (by kernel_rfl) e

/-! reeve/forest.Move -/
abbrev forest_Move_T : Type 1 := (ρ : Type) → Bool → Bool → Rows → Int → Int → (Option ρ) → (Nat → Nat → Rows → Option ρ) → Option ρ
def forest_Move_E (G : forest_Move_T) : EK := fun ρ args K => decL [.agg [.lst none none 1 none], .i .i64 none, .i .i64 none] args fun c => G ρ c.1.1.1 c.1.1.2.1 c.1.1.2.2 c.2.1 c.2.2.1 (K ⟨.tup [.agg [.lst true true 0 []], .b false], [], []⟩) (fun w0 w1 w2 => K ⟨.tup [.agg [.sl 0 w0 1 0 w1], .b true], [.row 1 true false w2], []⟩)
structure forest_Move_G where
  mk ::
  forest_may : forest_may_T
  forest_Forest_is : forest_Forest_is_T
  forest_Forest_clone : forest_Forest_clone_T
  forest_Forest_of : forest_Forest_of_T
  forest_Forest_of_i1 : forest_Forest_of_i1_T
abbrev forest_Move_l5_0_V : Type := Unit
noncomputable def forest_Move_l5_0_s (_G : forest_Move_G) {ρ : Type} (_n : Nat) (_p0 : Int) (_p1 : Int) (k0 : (Option ρ)) (_rec' : forest_Move_l5_0_V → Option ρ) : forest_Move_l5_0_V → Option ρ
  | _v =>
  k0
noncomputable def forest_Move_l5_0 (G : forest_Move_G) {ρ : Type} (n : Nat) (p0 : Int) (p1 : Int) (k0 : (Option ρ)) (v : forest_Move_l5_0_V) : Option ρ := fuelN (forest_Move_l5_0_s G n p0 p1 k0) n v
def forest_Move_l5_0_enc (p0 : Int) (p1 : Int) : forest_Move_l5_0_V → St
  | _v => ⟨[(1, .i .i64 p0), (2, .i .i64 p1), (3, .ptr 0 1 1 0 0), (6, .ptr 1 1 1 0 0), (35, .lst true true 0 []), (36, .i .i64 0), (37, .i .i64 0)], [.row 1 true false [[.lst true true 0 []]], .row 1 true false [[.lst true true 0 []]]]⟩
abbrev forest_Move_l5_1_V : Type := Unit
noncomputable def forest_Move_l5_1_s (_G : forest_Move_G) {ρ : Type} (_n : Nat) (_p0 : Int) (_p1 : Int) (_p2 : Nat) (_p3 : Nat) (_p4 : Rows) (k0 : (Option ρ)) (_rec' : forest_Move_l5_1_V → Option ρ) : forest_Move_l5_1_V → Option ρ
  | _v =>
  k0
noncomputable def forest_Move_l5_1 (G : forest_Move_G) {ρ : Type} (n : Nat) (p0 : Int) (p1 : Int) (p2 : Nat) (p3 : Nat) (p4 : Rows) (k0 : (Option ρ)) (v : forest_Move_l5_1_V) : Option ρ := fuelN (forest_Move_l5_1_s G n p0 p1 p2 p3 p4 k0) n v
def forest_Move_l5_1_enc (p0 : Int) (p1 : Int) (p2 : Nat) (p3 : Nat) (p4 : Rows) : forest_Move_l5_1_V → St
  | _v => ⟨[(1, .i .i64 p0), (2, .i .i64 p1), (3, .ptr 0 1 1 0 0), (6, .ptr 1 1 1 0 0), (35, .lst true true 0 []), (36, .i .i64 0), (37, .i .i64 0)], [.row 1 false false [[.sl 2 p2 1 0 p3]], .row 1 true false [[.lst true true 0 []]], .row 1 true false p4]⟩
abbrev forest_Move_l5_2_V : Type := Unit
noncomputable def forest_Move_l5_2_s (_G : forest_Move_G) {ρ : Type} (_n : Nat) (_p0 : Int) (_p1 : Int) (p2 : Nat) (p3 : Nat) (p4 : Int) (_p5 : Nat) (p6 : Nat) (_p7 : Rows) (p8 : Rows) (k0 : (Option ρ)) (_rec' : forest_Move_l5_2_V → Option ρ) : forest_Move_l5_2_V → Option ρ
  | _v =>
  bif decide ((0 : Int) < p4) then
    chk (decide ((0 : Int) < ((p3 : Nat) : Int))) <|
    chk (((List.length (p8 : Rows)) : Nat) == p2) <|
    rowN [.i .i64] p8 0 fun c0 =>
    chk (decide ((0 : Int) ≤ c0.1)) <|
    chk (decide ((c0.1 : Int) < ((p6 : Nat) : Int))) <|
    none
  else k0
noncomputable def forest_Move_l5_2 (G : forest_Move_G) {ρ : Type} (n : Nat) (p0 : Int) (p1 : Int) (p2 : Nat) (p3 : Nat) (p4 : Int) (p5 : Nat) (p6 : Nat) (p7 : Rows) (p8 : Rows) (k0 : (Option ρ)) (v : forest_Move_l5_2_V) : Option ρ := fuelN (forest_Move_l5_2_s G n p0 p1 p2 p3 p4 p5 p6 p7 p8 k0) n v
def forest_Move_l5_2_enc (p0 : Int) (p1 : Int) (p2 : Nat) (p3 : Nat) (p4 : Int) (p5 : Nat) (p6 : Nat) (p7 : Rows) (p8 : Rows) : forest_Move_l5_2_V → St
  | _v => ⟨[(1, .i .i64 p0), (2, .i .i64 p1), (3, .ptr 0 1 1 0 0), (6, .ptr 1 1 1 0 0), (35, .sl 3 p2 1 0 p3), (36, .i .i64 p4), (37, .i .i64 0)], [.row 1 false false [[.sl 2 p5 1 0 p6]], .row 1 true false [[.lst true true 0 []]], .row 1 true true p7, .row 1 true false p8]⟩
abbrev forest_Move_l5_3_V : Type := Int × Rows
noncomputable def forest_Move_l5_3_s (_G : forest_Move_G) {ρ : Type} (_n : Nat) (_p0 : Int) (p1 : Int) (p2 : Nat) (p3 : Nat) (p4 : Int) (p5 : Nat) (p6 : Nat) (p8 : Rows) (k0 : (Rows → Option ρ)) (rec' : forest_Move_l5_3_V → Option ρ) : forest_Move_l5_3_V → Option ρ
  | v =>
  bif decide ((v.1 : Int) < p4) then
    chk (decide ((0 : Int) ≤ v.1)) <|
    chk (decide ((v.1 : Int) < ((p3 : Nat) : Int))) <|
    chk (((List.length (p8 : Rows)) : Nat) == p2) <|
    rowN [.i .i64] p8 (0 + v.1.toNat) fun c0 =>
    chk (decide ((0 : Int) ≤ c0.1)) <|
    chk (decide ((c0.1 : Int) < ((p6 : Nat) : Int))) <|
    chk (((List.length (v.2 : Rows)) : Nat) == p5) <|
    rowN [.a] v.2 (0 + c0.1.toNat) fun _c1 =>
    rec' ((IntKind.wrap .i64 (v.1 + 1)), (List.set (v.2 : Rows) (0 + c0.1.toNat) [.i .i64 p1]))
  else k0 v.2
noncomputable def forest_Move_l5_3 (G : forest_Move_G) {ρ : Type} (n : Nat) (p0 : Int) (p1 : Int) (p2 : Nat) (p3 : Nat) (p4 : Int) (p5 : Nat) (p6 : Nat) (p8 : Rows) (k0 : (Rows → Option ρ)) (v : forest_Move_l5_3_V) : Option ρ := fuelN (forest_Move_l5_3_s G n p0 p1 p2 p3 p4 p5 p6 p8 k0) n v
def forest_Move_l5_3_enc (p0 : Int) (p1 : Int) (p2 : Nat) (p3 : Nat) (p4 : Int) (p5 : Nat) (p6 : Nat) (p8 : Rows) : forest_Move_l5_3_V → St
  | v => ⟨[(1, .i .i64 p0), (2, .i .i64 p1), (3, .ptr 0 1 1 0 0), (6, .ptr 1 1 1 0 0), (35, .sl 3 p2 1 0 p3), (36, .i .i64 p4), (37, .i .i64 v.1)], [.row 1 false false [[.sl 2 p5 1 0 p6]], .row 1 true false [[.lst true true 0 []]], .row 1 true false v.2, .row 1 true false p8]⟩
noncomputable def forest_Move_s (G : forest_Move_G) {ρ : Type} (n : Nat) (a0 : Bool) (a1 : Bool) (a2 : Rows) (a3 : Int) (a4 : Int) (k0 : (Option ρ)) (k1 : (Nat → Nat → Rows → Option ρ)) : Option ρ :=
  G.forest_may ρ a0 a1 a2 a3 (fun w0_0 =>
    bif w0_0 then
      bif decide ((a4 : Int) < 0) then
        k0
      else bif decide ((a4 : Int) ≥ (((List.length (a2 : Rows)) : Nat) : Int)) then
        k0
      else G.forest_Forest_is ρ a0 a1 a2 a4 (fun w1_0 =>
        bif w1_0 then
          k0
        else G.forest_Forest_clone ρ a0 a1 a2 (G.forest_Forest_of ρ true true a3 (forest_Move_l5_0 G n a3 a4 (none) ())) (fun w5_0 w5_1 w5_2 =>
          chk (((List.length (w5_2 : Rows)) : Nat) == w5_0) <|
          G.forest_Forest_of_i1 ρ false false (List.take w5_1 (List.drop 0 (w5_2 : Rows))) a3 (forest_Move_l5_1 G n a3 a4 w5_0 w5_1 w5_2 (chk (decide ((0 : Int) ≤ a3)) <|
              chk (decide ((a3 : Int) < ((w5_1 : Nat) : Int))) <|
              chk (((List.length (w5_2 : Rows)) : Nat) == w5_0) <|
              rowN [.i .i64] w5_2 (0 + a3.toNat) fun c8 =>
              chk (decide ((0 : Int) ≤ a4)) <|
              chk (decide ((a4 : Int) < ((w5_1 : Nat) : Int))) <|
              chk (((List.length (w5_2 : Rows)) : Nat) == w5_0) <|
              rowN [.a] w5_2 (0 + a4.toNat) fun _c9 =>
              chk (decide ((0 : Int) ≤ a3)) <|
              chk (decide ((a3 : Int) < ((w5_1 : Nat) : Int))) <|
              chk (((List.length ((List.set (w5_2 : Rows) (0 + a4.toNat) [.i .i64 c8.1]) : Rows)) : Nat) == w5_0) <|
              rowN [.a] (List.set (w5_2 : Rows) (0 + a4.toNat) [.i .i64 c8.1]) (0 + a3.toNat) fun _c10 =>
              k1 w5_0 w5_1 (List.set ((List.set (w5_2 : Rows) (0 + a4.toNat) [.i .i64 c8.1]) : Rows) (0 + a3.toNat) [.i .i64 (-2)])) ()) (fun w11_0 w11_1 w11_2 =>
            bif stayR ⟨.sl 0 w11_0 1 0 w11_1, [.row 1 true false w11_2], []⟩ then
              forest_Move_l5_2 G n a3 a4 w11_0 w11_1 ((w11_1 : Nat) : Int) w5_0 w5_1 w5_2 w11_2 (chk (decide ((0 : Int) ≤ a3)) <|
                chk (decide ((a3 : Int) < ((w5_1 : Nat) : Int))) <|
                chk (((List.length (w5_2 : Rows)) : Nat) == w5_0) <|
                rowN [.i .i64] w5_2 (0 + a3.toNat) fun _c13 =>
                chk (decide ((0 : Int) ≤ a4)) <|
                chk (decide ((a4 : Int) < ((w5_1 : Nat) : Int))) <|
                none) ()
            else forest_Move_l5_3 G n a3 a4 w11_0 w11_1 ((w11_1 : Nat) : Int) w5_0 w5_1 w11_2 (fun w14_0 =>
              chk (decide ((0 : Int) ≤ a3)) <|
              chk (decide ((a3 : Int) < ((w5_1 : Nat) : Int))) <|
              chk (((List.length (w14_0 : Rows)) : Nat) == w5_0) <|
              rowN [.i .i64] w14_0 (0 + a3.toNat) fun c15 =>
              chk (decide ((0 : Int) ≤ a4)) <|
              chk (decide ((a4 : Int) < ((w5_1 : Nat) : Int))) <|
              chk (((List.length (w14_0 : Rows)) : Nat) == w5_0) <|
              rowN [.a] w14_0 (0 + a4.toNat) fun _c16 =>
              chk (decide ((0 : Int) ≤ a3)) <|
              chk (decide ((a3 : Int) < ((w5_1 : Nat) : Int))) <|
              chk (((List.length ((List.set (w14_0 : Rows) (0 + a4.toNat) [.i .i64 c15.1]) : Rows)) : Nat) == w5_0) <|
              rowN [.a] (List.set (w14_0 : Rows) (0 + a4.toNat) [.i .i64 c15.1]) (0 + a3.toNat) fun _c17 =>
              k1 w5_0 w5_1 (List.set ((List.set (w14_0 : Rows) (0 + a4.toNat) [.i .i64 c15.1]) : Rows) (0 + a3.toNat) [.i .i64 (-2)])) (0, w5_2))))
    else k0)
noncomputable def forest_Move_g (n : Nat) : forest_Move_G := ⟨forest_may n, forest_Forest_is n, forest_Forest_clone n, forest_Forest_of n, forest_Forest_of_i1 n⟩
noncomputable def forest_Move (n : Nat) : forest_Move_T := fun _ρ a0 a1 a2 a3 a4 k0 k1 => forest_Move_s (forest_Move_g n) n a0 a1 a2 a3 a4 k0 k1
noncomputable def forest_Move_e (n : Nat) : EK := forest_Move_E (forest_Move n)
def forest_Move_S (G : forest_Move_G) : CK := tabS [(84, forest_may_E G.forest_may), (92, forest_Forest_is_E G.forest_Forest_is), (140, forest_Forest_clone_E G.forest_Forest_clone), (85, altE [.agg [.lst none none 0 (some [])], .i .i64 none] (forest_Forest_of_E G.forest_Forest_of) (forest_Forest_of_i1_E G.forest_Forest_of_i1))]
theorem forest_Move_Sok (n : Nat) : CK.OK (forest_Move_S (forest_Move_g n)) (L tab) := tabS_ok _ (List.forall_mem_cons.2 ⟨(forest_may_ok n), List.forall_mem_cons.2 ⟨(forest_Forest_is_ok n), List.forall_mem_cons.2 ⟨(forest_Forest_clone_ok n), List.forall_mem_cons.2 ⟨altE_ok (forest_Forest_of_ok n) ((forest_Forest_of_i1_ok n)), (fun _ h => nomatch h)⟩⟩⟩⟩)
def forest_Move_hs : HintC := hintL [(54, [.i .i64]), (40, [.i .i64])]
def forest_Move_c5 : Nat × List Nat × List Nat × MC := loopAt 5 m130
noncomputable def forest_Move_l5_3_d (G : forest_Move_G) (n : Nat) : Go.Rv.LE := fun _ρ h K => decSt [(1, .i .i64 none), (2, .i .i64 none), (3, .ptr 0 1 0 (some 1) (some 0)), (6, .ptr 1 1 0 (some 1) (some 0)), (35, .sl 3 1 none (some 0) none), (36, .i .i64 none), (37, .i .i64 none)] [.row 1 false false (some [[.sl 2 1 none (some 0) none]]), .row 1 true false (some [[.lst (some true) (some true) 0 (some [])]]), .row 1 true false none, .row 1 true false none] h fun a b => forest_Move_l5_3 G n a.1 a.2.1 a.2.2.2.2.1.1 a.2.2.2.2.1.2.2 a.2.2.2.2.2.1 b.1.1.1.1 b.1.1.1.2.2 b.2.2.2.1 (fun w0 => K (.exit 0) ⟨[(1, .i .i64 a.1), (2, .i .i64 a.2.1), (3, .ptr 0 1 1 0 0), (6, .ptr 1 1 1 0 0)], [.row 1 false false [[.sl 2 b.1.1.1.1 1 0 b.1.1.1.2.2]], .row 1 true false [[.lst true true 0 []]], .row 1 true false w0, .row 1 true false b.2.2.2.1]⟩) (a.2.2.2.2.2.2.1, b.2.2.1)
noncomputable def forest_Move_l5_2_d (G : forest_Move_G) (n : Nat) : Go.Rv.LE := fun _ρ h K => decSt [(1, .i .i64 none), (2, .i .i64 none), (3, .ptr 0 1 0 (some 1) (some 0)), (6, .ptr 1 1 0 (some 1) (some 0)), (35, .sl 3 1 none (some 0) none), (36, .i .i64 none), (37, .i .i64 (some 0))] [.row 1 false false (some [[.sl 2 1 none (some 0) none]]), .row 1 true false (some [[.lst (some true) (some true) 0 (some [])]]), .row 1 true true none, .row 1 true false none] h fun a b => forest_Move_l5_2 G n a.1 a.2.1 a.2.2.2.2.1.1 a.2.2.2.2.1.2.2 a.2.2.2.2.2.1 b.1.1.1.1 b.1.1.1.2.2 b.2.2.1 b.2.2.2.1 (K (.exit 0) ⟨[(1, .i .i64 a.1), (2, .i .i64 a.2.1), (3, .ptr 0 1 1 0 0), (6, .ptr 1 1 1 0 0)], [.row 1 false false [[.sl 2 b.1.1.1.1 1 0 b.1.1.1.2.2]], .row 1 true false [[.lst true true 0 []]], .row 1 true true b.2.2.1, .row 1 true false b.2.2.2.1]⟩) ()
noncomputable def forest_Move_l5_1_d (G : forest_Move_G) (n : Nat) : Go.Rv.LE := fun _ρ h K => decSt [(1, .i .i64 none), (2, .i .i64 none), (3, .ptr 0 1 0 (some 1) (some 0)), (6, .ptr 1 1 0 (some 1) (some 0)), (35, .lst (some true) (some true) 0 (some [])), (36, .i .i64 (some 0)), (37, .i .i64 (some 0))] [.row 1 false false (some [[.sl 2 1 none (some 0) none]]), .row 1 true false (some [[.lst (some true) (some true) 0 (some [])]]), .row 1 true false none] h fun a b => forest_Move_l5_1 G n a.1 a.2.1 b.1.1.1.1 b.1.1.1.2.2 b.2.2.1 (K (.exit 0) ⟨[(1, .i .i64 a.1), (2, .i .i64 a.2.1), (3, .ptr 0 1 1 0 0), (6, .ptr 1 1 1 0 0)], [.row 1 false false [[.sl 2 b.1.1.1.1 1 0 b.1.1.1.2.2]], .row 1 true false [[.lst true true 0 []]], .row 1 true false b.2.2.1]⟩) ()
noncomputable def forest_Move_l5_0_d (G : forest_Move_G) (n : Nat) : Go.Rv.LE := fun _ρ h K => decSt [(1, .i .i64 none), (2, .i .i64 none), (3, .ptr 0 1 0 (some 1) (some 0)), (6, .ptr 1 1 0 (some 1) (some 0)), (35, .lst (some true) (some true) 0 (some [])), (36, .i .i64 (some 0)), (37, .i .i64 (some 0))] [.row 1 true false (some [[.lst (some true) (some true) 0 (some [])]]), .row 1 true false (some [[.lst (some true) (some true) 0 (some [])]])] h fun a _b => forest_Move_l5_0 G n a.1 a.2.1 (K (.exit 0) ⟨[(1, .i .i64 a.1), (2, .i .i64 a.2.1), (3, .ptr 0 1 1 0 0), (6, .ptr 1 1 1 0 0)], [.row 1 true false [[.lst true true 0 []]], .row 1 true false [[.lst true true 0 []]]]⟩) ()
noncomputable def forest_Move_d5 (G : forest_Move_G) (n : Nat) : Go.Rv.LE := altL [(1, .i .i64 none), (2, .i .i64 none), (3, .ptr 0 1 0 (some 1) (some 0)), (6, .ptr 1 1 0 (some 1) (some 0)), (35, .sl 3 1 none (some 0) none), (36, .i .i64 none), (37, .i .i64 none)] [.row 1 false false (some [[.sl 2 1 none (some 0) none]]), .row 1 true false (some [[.lst (some true) (some true) 0 (some [])]]), .row 1 true false none, .row 1 true false none] (forest_Move_l5_3_d G n) (altL [(1, .i .i64 none), (2, .i .i64 none), (3, .ptr 0 1 0 (some 1) (some 0)), (6, .ptr 1 1 0 (some 1) (some 0)), (35, .sl 3 1 none (some 0) none), (36, .i .i64 none), (37, .i .i64 (some 0))] [.row 1 false false (some [[.sl 2 1 none (some 0) none]]), .row 1 true false (some [[.lst (some true) (some true) 0 (some [])]]), .row 1 true true none, .row 1 true false none] (forest_Move_l5_2_d G n) (altL [(1, .i .i64 none), (2, .i .i64 none), (3, .ptr 0 1 0 (some 1) (some 0)), (6, .ptr 1 1 0 (some 1) (some 0)), (35, .lst (some true) (some true) 0 (some [])), (36, .i .i64 (some 0)), (37, .i .i64 (some 0))] [.row 1 false false (some [[.sl 2 1 none (some 0) none]]), .row 1 true false (some [[.lst (some true) (some true) 0 (some [])]]), .row 1 true false none] (forest_Move_l5_1_d G n) (forest_Move_l5_0_d G n)))
noncomputable def forest_Move_lp (G : forest_Move_G) (n : Nat) : LK := tabL [(5, forest_Move_d5 G n)]
theorem forest_Move_l5_3_k (G : forest_Move_G) {ρ : Type} (n : Nat) (p0 : Int) (p1 : Int) (p2 : Nat) (p3 : Nat) (p4 : Int) (p5 : Nat) (p6 : Nat) (p8 : Rows) (K : Ex → St → Option ρ) (N : St → Option ρ) : ∀ v, roundC (forest_Move_S G) forest_Move_hs (forest_Move_lp G n) forest_Move_c5 4 N K (forest_Move_l5_3_enc p0 p1 p2 p3 p4 p5 p6 p8 v) = forest_Move_l5_3_s G n p0 p1 p2 p3 p4 p5 p6 p8 (fun w0 => K (.exit 0) ⟨[(1, .i .i64 p0), (2, .i .i64 p1), (3, .ptr 0 1 1 0 0), (6, .ptr 1 1 1 0 0)], [.row 1 false false [[.sl 2 p5 1 0 p6]], .row 1 true false [[.lst true true 0 []]], .row 1 true false w0, .row 1 true false p8]⟩) (fun v => N (forest_Move_l5_3_enc p0 p1 p2 p3 p4 p5 p6 p8 v)) v
  | v => by kernel_rfl
theorem forest_Move_l5_3_dok (n : Nat) : LE.OK (forest_Move_l5_3_d (forest_Move_g n) n) (L tab) forest_Move_c5 := LE.shp (fun _ _ _ => rfl) fun ρ K y a b e => LE.rounds (forest_Move_Sok n) (LK.of (l := []) (by kernel_rfl) ((fun _ h => nomatch h))) (forest_Move_l5_3_k (forest_Move_g n) n _ _ _ _ _ _ _ _ K) (by kernel_rfl) (by kernel_rfl) e
theorem forest_Move_l5_2_k (G : forest_Move_G) {ρ : Type} (n : Nat) (p0 : Int) (p1 : Int) (p2 : Nat) (p3 : Nat) (p4 : Int) (p5 : Nat) (p6 : Nat) (p7 : Rows) (p8 : Rows) (K : Ex → St → Option ρ) (N : St → Option ρ) : ∀ v, roundC (forest_Move_S G) forest_Move_hs (forest_Move_lp G n) forest_Move_c5 4 N K (forest_Move_l5_2_enc p0 p1 p2 p3 p4 p5 p6 p7 p8 v) = forest_Move_l5_2_s G n p0 p1 p2 p3 p4 p5 p6 p7 p8 (K (.exit 0) ⟨[(1, .i .i64 p0), (2, .i .i64 p1), (3, .ptr 0 1 1 0 0), (6, .ptr 1 1 1 0 0)], [.row 1 false false [[.sl 2 p5 1 0 p6]], .row 1 true false [[.lst true true 0 []]], .row 1 true true p7, .row 1 true false p8]⟩) (fun v => N (forest_Move_l5_2_enc p0 p1 p2 p3 p4 p5 p6 p7 p8 v)) v
  | v => by kernel_rfl
theorem forest_Move_l5_2_dok (n : Nat) : LE.OK (forest_Move_l5_2_d (forest_Move_g n) n) (L tab) forest_Move_c5 := LE.shp (fun _ _ _ => rfl) fun ρ K y a b e => LE.rounds (forest_Move_Sok n) (LK.of (l := []) (by kernel_rfl) ((fun _ h => nomatch h))) (forest_Move_l5_2_k (forest_Move_g n) n _ _ _ _ _ _ _ _ _ K) (by kernel_rfl) (by kernel_rfl) e
theorem forest_Move_l5_1_k (G : forest_Move_G) {ρ : Type} (n : Nat) (p0 : Int) (p1 : Int) (p2 : Nat) (p3 : Nat) (p4 : Rows) (K : Ex → St → Option ρ) (N : St → Option ρ) : ∀ v, roundC (forest_Move_S G) forest_Move_hs (forest_Move_lp G n) forest_Move_c5 3 N K (forest_Move_l5_1_enc p0 p1 p2 p3 p4 v) = forest_Move_l5_1_s G n p0 p1 p2 p3 p4 (K (.exit 0) ⟨[(1, .i .i64 p0), (2, .i .i64 p1), (3, .ptr 0 1 1 0 0), (6, .ptr 1 1 1 0 0)], [.row 1 false false [[.sl 2 p2 1 0 p3]], .row 1 true false [[.lst true true 0 []]], .row 1 true false p4]⟩) (fun v => N (forest_Move_l5_1_enc p0 p1 p2 p3 p4 v)) v
  | v => by kernel_rfl
theorem forest_Move_l5_1_dok (n : Nat) : LE.OK (forest_Move_l5_1_d (forest_Move_g n) n) (L tab) forest_Move_c5 := LE.shp (fun _ _ _ => rfl) fun ρ K y a b e => LE.rounds (forest_Move_Sok n) (LK.of (l := []) (by kernel_rfl) ((fun _ h => nomatch h))) (forest_Move_l5_1_k (forest_Move_g n) n _ _ _ _ _ K) (by kernel_rfl) (by kernel_rfl) e
theorem forest_Move_l5_0_k (G : forest_Move_G) {ρ : Type} (n : Nat) (p0 : Int) (p1 : Int) (K : Ex → St → Option ρ) (N : St → Option ρ) : ∀ v, roundC (forest_Move_S G) forest_Move_hs (forest_Move_lp G n) forest_Move_c5 2 N K (forest_Move_l5_0_enc p0 p1 v) = forest_Move_l5_0_s G n p0 p1 (K (.exit 0) ⟨[(1, .i .i64 p0), (2, .i .i64 p1), (3, .ptr 0 1 1 0 0), (6, .ptr 1 1 1 0 0)], [.row 1 true false [[.lst true true 0 []]], .row 1 true false [[.lst true true 0 []]]]⟩) (fun v => N (forest_Move_l5_0_enc p0 p1 v)) v
  | v => by kernel_rfl
theorem forest_Move_l5_0_dok (n : Nat) : LE.OK (forest_Move_l5_0_d (forest_Move_g n) n) (L tab) forest_Move_c5 := LE.shp (fun _ _ _ => rfl) fun ρ K y a b e => LE.rounds (forest_Move_Sok n) (LK.of (l := []) (by kernel_rfl) ((fun _ h => nomatch h))) (forest_Move_l5_0_k (forest_Move_g n) n _ _ K) (by kernel_rfl) (by kernel_rfl) e
theorem forest_Move_d5_ok (n : Nat) : LE.OK (forest_Move_d5 (forest_Move_g n) n) (L tab) forest_Move_c5 := altL_ok (forest_Move_l5_3_dok n) (altL_ok (forest_Move_l5_2_dok n) (altL_ok (forest_Move_l5_1_dok n) (forest_Move_l5_0_dok n)))
theorem forest_Move_k (G : forest_Move_G) {ρ : Type} (n : Nat) (a0 : Bool) (a1 : Bool) (a2 : Rows) (a3 : Int) (a4 : Int) (K : Res → Option ρ) : runC (forest_Move_S G) forest_Move_hs (forest_Move_lp G n) m130 [.agg [.lst a0 a1 1 a2], .i .i64 a3, .i .i64 a4] K = forest_Move_s G n a0 a1 a2 a3 a4 (K ⟨.tup [.agg [.lst true true 0 []], .b false], [], []⟩) (fun w0 w1 w2 => K ⟨.tup [.agg [.sl 0 w0 1 0 w1], .b true], [.row 1 true false w2], []⟩) := by kernel_rfl
theorem forest_Move_ok (n : Nat) : EK.OK (forest_Move_e n) 130 (L tab) := EK.shp (fun _ _ _ => rfl) fun ρ K y c e => EK.run (forest_Move_Sok n) (by kernel_rfl) (MF.LKOK.of (LK.of (l := [forest_Move_c5]) (by kernel_rfl) (List.forall_mem_cons.2 ⟨LE.at (e := forest_Move_d5 (forest_Move_g n) n) (by kernel_rfl) (forest_Move_d5_ok n), (fun _ h => nomatch h)⟩))) (forest_Move_k (forest_Move_g n) n _ _ _ _ _ K) (by kernel_rfl) e

/-! reeve/give.moved -/
abbrev give_moved_T : Type 1 := (ρ : Type) → Int → Int → Int → Bool → Bool → Rows → Bool → Bool → Rows → Int → Int → (Nat → Nat → Rows → Option ρ) → (Nat → Nat → Nat → Nat → Rows → Rows → Option ρ) → Option ρ
def give_moved_E (G : give_moved_T) : EK := fun ρ args K => decL [.agg [.i .i64 none, .i .i64 none, .i .i64 none, .lst none none 5 none, .lst none none 13 none], .i .i64 none, .i .i64 none] args fun c => G ρ c.1.1 c.1.2.1 c.1.2.2.1 c.1.2.2.2.1.1 c.1.2.2.2.1.2.1 c.1.2.2.2.1.2.2 c.1.2.2.2.2.1.1 c.1.2.2.2.2.1.2.1 c.1.2.2.2.2.1.2.2 c.2.1 c.2.2.1 (fun w0 w1 w2 => K ⟨.agg [.i .i64 c.1.1, .i .i64 c.1.2.1, .i .i64 c.1.2.2.1, .sl 0 w0 5 0 w1, .lst true true 0 []], [.row 5 true false w2], []⟩) (fun w0 w1 w2 w3 w4 w5 => K ⟨.agg [.i .i64 c.1.1, .i .i64 c.1.2.1, .i .i64 c.1.2.2.1, .sl 0 w0 5 0 w1, .sl 1 w2 13 0 w3], [.row 5 true false w4, .row 13 true false w5], []⟩)
structure give_moved_G where
  mk ::
  state_Forest : state_Forest_T
  forest_Move : forest_Move_T
  state_Clone : state_Clone_T
abbrev give_moved_l5_0_V : Type := Unit
noncomputable def give_moved_l5_0_s (_G : give_moved_G) {ρ : Type} (_n : Nat) (_p0 : Int) (_p1 : Int) (_p2 : Int) (_p3 : Int) (_p4 : Int) (_p5 : Nat) (_p6 : Nat) (_p7 : Rows) (k0 : (Option ρ)) (_rec' : give_moved_l5_0_V → Option ρ) : give_moved_l5_0_V → Option ρ
  | _v =>
  k0
noncomputable def give_moved_l5_0 (G : give_moved_G) {ρ : Type} (n : Nat) (p0 : Int) (p1 : Int) (p2 : Int) (p3 : Int) (p4 : Int) (p5 : Nat) (p6 : Nat) (p7 : Rows) (k0 : (Option ρ)) (v : give_moved_l5_0_V) : Option ρ := fuelN (give_moved_l5_0_s G n p0 p1 p2 p3 p4 p5 p6 p7 k0) n v
def give_moved_l5_0_enc (p0 : Int) (p1 : Int) (p2 : Int) (p3 : Int) (p4 : Int) (p5 : Nat) (p6 : Nat) (p7 : Rows) : give_moved_l5_0_V → St
  | _v => ⟨[(1, .i .i64 p0), (2, .i .i64 p1), (3, .ptr 0 1 5 0 0), (6, .ptr 1 1 5 0 0), (40, .lst true true 0 []), (41, .i .i64 0), (42, .i .i64 0)], [.row 5 false false [[.i .i64 p2, .i .i64 p3, .i .i64 p4, .sl 3 p5 5 0 p6, .lst true true 0 []]], .row 5 true false [[.i .i64 0, .i .i64 0, .i .i64 0, .lst true true 0 [], .lst true true 0 []]], .row 1 true false [[.lst true true 0 []]], .row 5 true false p7]⟩
abbrev give_moved_l10_0_V : Type := Unit
noncomputable def give_moved_l10_0_s (_G : give_moved_G) {ρ : Type} (_n : Nat) (_p0 : Int) (_p1 : Int) (_p2 : Int) (_p3 : Int) (_p4 : Int) (_p5 : Nat) (_p6 : Nat) (_p7 : Rows) (k0 : (Option ρ)) (_rec' : give_moved_l10_0_V → Option ρ) : give_moved_l10_0_V → Option ρ
  | _v =>
  k0
noncomputable def give_moved_l10_0 (G : give_moved_G) {ρ : Type} (n : Nat) (p0 : Int) (p1 : Int) (p2 : Int) (p3 : Int) (p4 : Int) (p5 : Nat) (p6 : Nat) (p7 : Rows) (k0 : (Option ρ)) (v : give_moved_l10_0_V) : Option ρ := fuelN (give_moved_l10_0_s G n p0 p1 p2 p3 p4 p5 p6 p7 k0) n v
def give_moved_l10_0_enc (p0 : Int) (p1 : Int) (p2 : Int) (p3 : Int) (p4 : Int) (p5 : Nat) (p6 : Nat) (p7 : Rows) : give_moved_l10_0_V → St
  | _v => ⟨[(1, .i .i64 p0), (2, .i .i64 p1), (3, .ptr 0 1 5 0 0), (6, .ptr 1 1 5 0 0), (57, .i .i64 0), (58, .i .i64 0)], [.row 5 false false [[.i .i64 p2, .i .i64 p3, .i .i64 p4, .sl 3 p5 5 0 p6, .lst true true 0 []]], .row 5 true false [[.i .i64 0, .i .i64 0, .i .i64 0, .lst true true 0 [], .lst true true 0 []]], .row 1 true false [[.lst true true 0 []]], .row 5 true false p7]⟩
abbrev give_moved_l5_1_V : Type := Unit
noncomputable def give_moved_l5_1_s (_G : give_moved_G) {ρ : Type} (_n : Nat) (_p0 : Int) (_p1 : Int) (_p2 : Int) (_p3 : Int) (_p4 : Int) (_p5 : Nat) (_p6 : Nat) (_p7 : Nat) (_p8 : Nat) (_p9 : Rows) (_p10 : Rows) (k0 : (Option ρ)) (_rec' : give_moved_l5_1_V → Option ρ) : give_moved_l5_1_V → Option ρ
  | _v =>
  k0
noncomputable def give_moved_l5_1 (G : give_moved_G) {ρ : Type} (n : Nat) (p0 : Int) (p1 : Int) (p2 : Int) (p3 : Int) (p4 : Int) (p5 : Nat) (p6 : Nat) (p7 : Nat) (p8 : Nat) (p9 : Rows) (p10 : Rows) (k0 : (Option ρ)) (v : give_moved_l5_1_V) : Option ρ := fuelN (give_moved_l5_1_s G n p0 p1 p2 p3 p4 p5 p6 p7 p8 p9 p10 k0) n v
def give_moved_l5_1_enc (p0 : Int) (p1 : Int) (p2 : Int) (p3 : Int) (p4 : Int) (p5 : Nat) (p6 : Nat) (p7 : Nat) (p8 : Nat) (p9 : Rows) (p10 : Rows) : give_moved_l5_1_V → St
  | _v => ⟨[(1, .i .i64 p0), (2, .i .i64 p1), (3, .ptr 0 1 5 0 0), (6, .ptr 1 1 5 0 0), (40, .lst true true 0 []), (41, .i .i64 0), (42, .i .i64 0)], [.row 5 false false [[.i .i64 p2, .i .i64 p3, .i .i64 p4, .sl 3 p5 5 0 p6, .sl 4 p7 13 0 p8]], .row 5 true false [[.i .i64 0, .i .i64 0, .i .i64 0, .lst true true 0 [], .lst true true 0 []]], .row 1 true false [[.lst true true 0 []]], .row 5 true false p9, .row 13 true false p10]⟩
abbrev give_moved_l10_1_V : Type := Int × Rows
noncomputable def give_moved_l10_1_s (_G : give_moved_G) {ρ : Type} (_n : Nat) (p0 : Int) (p1 : Int) (p2 : Int) (_p3 : Int) (_p4 : Int) (_p5 : Int) (_p6 : Nat) (_p7 : Nat) (p8 : Nat) (p9 : Nat) (_p10 : Rows) (k0 : (Rows → Option ρ)) (rec' : give_moved_l10_1_V → Option ρ) : give_moved_l10_1_V → Option ρ
  | v =>
  bif decide ((v.1 : Int) < p2) then
    chk (decide ((0 : Int) ≤ v.1)) <|
    chk (decide ((v.1 : Int) < ((p9 : Nat) : Int))) <|
    chk (((List.length (v.2 : Rows)) : Nat) == p8) <|
    rowN [.i .i64, .i .i64, .i .i64, .i .i64, .i .i64, .i .i64, .i .i64, .b, .i .u64, .i .u64, .i .u64, .i .u64, .i .u64] v.2 (0 + v.1.toNat) fun c0 =>
    bif ((c0.2.2.2.2.2.1 : Int) == (IntKind.wrap .i64 (p0 + 1))) then
      chk (decide ((0 : Int) ≤ v.1)) <|
      chk (decide ((v.1 : Int) < ((p9 : Nat) : Int))) <|
      chk (((List.length (v.2 : Rows)) : Nat) == p8) <|
      rowN [.a, .a, .a, .a, .a, .a, .a, .a, .a, .a, .a, .a, .a] v.2 (0 + v.1.toNat) fun c1 =>
      rec' ((IntKind.wrap .i64 (v.1 + 1)), (List.set (v.2 : Rows) (0 + v.1.toNat) [c1.1, c1.2.1, c1.2.2.1, c1.2.2.2.1, c1.2.2.2.2.1, .i .i64 (IntKind.wrap .i64 (p1 + 1)), c1.2.2.2.2.2.2.1, c1.2.2.2.2.2.2.2.1, c1.2.2.2.2.2.2.2.2.1, c1.2.2.2.2.2.2.2.2.2.1, c1.2.2.2.2.2.2.2.2.2.2.1, c1.2.2.2.2.2.2.2.2.2.2.2.1, c1.2.2.2.2.2.2.2.2.2.2.2.2.1]))
    else rec' ((IntKind.wrap .i64 (v.1 + 1)), v.2)
  else k0 v.2
noncomputable def give_moved_l10_1 (G : give_moved_G) {ρ : Type} (n : Nat) (p0 : Int) (p1 : Int) (p2 : Int) (p3 : Int) (p4 : Int) (p5 : Int) (p6 : Nat) (p7 : Nat) (p8 : Nat) (p9 : Nat) (p10 : Rows) (k0 : (Rows → Option ρ)) (v : give_moved_l10_1_V) : Option ρ := fuelN (give_moved_l10_1_s G n p0 p1 p2 p3 p4 p5 p6 p7 p8 p9 p10 k0) n v
def give_moved_l10_1_enc (p0 : Int) (p1 : Int) (p2 : Int) (p3 : Int) (p4 : Int) (p5 : Int) (p6 : Nat) (p7 : Nat) (p8 : Nat) (p9 : Nat) (p10 : Rows) : give_moved_l10_1_V → St
  | v => ⟨[(1, .i .i64 p0), (2, .i .i64 p1), (3, .ptr 0 1 5 0 0), (6, .ptr 1 1 5 0 0), (57, .i .i64 p2), (58, .i .i64 v.1)], [.row 5 false false [[.i .i64 p3, .i .i64 p4, .i .i64 p5, .sl 3 p6 5 0 p7, .sl 4 p8 13 0 p9]], .row 5 true false [[.i .i64 0, .i .i64 0, .i .i64 0, .lst true true 0 [], .lst true true 0 []]], .row 1 true false [[.lst true true 0 []]], .row 5 true false p10, .row 13 true false v.2]⟩
abbrev give_moved_l5_2_V : Type := Int × Rows
noncomputable def give_moved_l5_2_s (_G : give_moved_G) {ρ : Type} (_n : Nat) (_p0 : Int) (_p1 : Int) (p2 : Nat) (p3 : Nat) (p4 : Int) (_p5 : Int) (_p6 : Int) (_p7 : Int) (p8 : Nat) (p9 : Nat) (p10 : Rows) (_p11 : Nat) (_p12 : Nat) (k0 : (Rows → Option ρ)) (rec' : give_moved_l5_2_V → Option ρ) : give_moved_l5_2_V → Option ρ
  | v =>
  bif decide ((v.1 : Int) < p4) then
    chk (decide ((0 : Int) ≤ v.1)) <|
    chk (decide ((v.1 : Int) < ((p3 : Nat) : Int))) <|
    chk (((List.length (p10 : Rows)) : Nat) == p2) <|
    rowN [.i .i64] p10 (0 + v.1.toNat) fun c0 =>
    chk (decide ((0 : Int) ≤ v.1)) <|
    chk (decide ((v.1 : Int) < ((p9 : Nat) : Int))) <|
    chk (((List.length (v.2 : Rows)) : Nat) == p8) <|
    rowN [.a, .a, .a, .a, .a] v.2 (0 + v.1.toNat) fun c1 =>
    rec' ((IntKind.wrap .i64 (v.1 + 1)), (List.set (v.2 : Rows) (0 + v.1.toNat) [c1.1, c1.2.1, c1.2.2.1, c1.2.2.2.1, .i .i64 (if (-1) > c0.1 then (-1) else c0.1)]))
  else k0 v.2
noncomputable def give_moved_l5_2 (G : give_moved_G) {ρ : Type} (n : Nat) (p0 : Int) (p1 : Int) (p2 : Nat) (p3 : Nat) (p4 : Int) (p5 : Int) (p6 : Int) (p7 : Int) (p8 : Nat) (p9 : Nat) (p10 : Rows) (p11 : Nat) (p12 : Nat) (k0 : (Rows → Option ρ)) (v : give_moved_l5_2_V) : Option ρ := fuelN (give_moved_l5_2_s G n p0 p1 p2 p3 p4 p5 p6 p7 p8 p9 p10 p11 p12 k0) n v
def give_moved_l5_2_enc (p0 : Int) (p1 : Int) (p2 : Nat) (p3 : Nat) (p4 : Int) (p5 : Int) (p6 : Int) (p7 : Int) (p8 : Nat) (p9 : Nat) (p10 : Rows) (p11 : Nat) (p12 : Nat) : give_moved_l5_2_V → St
  | v => ⟨[(1, .i .i64 p0), (2, .i .i64 p1), (3, .ptr 0 1 5 0 0), (6, .ptr 1 1 5 0 0), (40, .sl 2 p2 1 0 p3), (41, .i .i64 p4), (42, .i .i64 v.1)], [.row 5 false false [[.i .i64 p5, .i .i64 p6, .i .i64 p7, .sl 4 p8 5 0 p9, .lst true true 0 []]], .row 5 true false [[.i .i64 0, .i .i64 0, .i .i64 0, .lst true true 0 [], .lst true true 0 []]], .row 1 true false p10, .row 1 false false [[.sl 2 p11 1 0 p12]], .row 5 true false v.2]⟩
abbrev give_moved_l10_2_V : Type := Unit
noncomputable def give_moved_l10_2_s (_G : give_moved_G) {ρ : Type} (_n : Nat) (_p0 : Int) (_p1 : Int) (_p2 : Int) (_p3 : Int) (_p4 : Int) (_p5 : Nat) (_p6 : Nat) (_p7 : Rows) (_p8 : Nat) (_p9 : Nat) (_p10 : Rows) (k0 : (Option ρ)) (_rec' : give_moved_l10_2_V → Option ρ) : give_moved_l10_2_V → Option ρ
  | _v =>
  k0
noncomputable def give_moved_l10_2 (G : give_moved_G) {ρ : Type} (n : Nat) (p0 : Int) (p1 : Int) (p2 : Int) (p3 : Int) (p4 : Int) (p5 : Nat) (p6 : Nat) (p7 : Rows) (p8 : Nat) (p9 : Nat) (p10 : Rows) (k0 : (Option ρ)) (v : give_moved_l10_2_V) : Option ρ := fuelN (give_moved_l10_2_s G n p0 p1 p2 p3 p4 p5 p6 p7 p8 p9 p10 k0) n v
def give_moved_l10_2_enc (p0 : Int) (p1 : Int) (p2 : Int) (p3 : Int) (p4 : Int) (p5 : Nat) (p6 : Nat) (p7 : Rows) (p8 : Nat) (p9 : Nat) (p10 : Rows) : give_moved_l10_2_V → St
  | _v => ⟨[(1, .i .i64 p0), (2, .i .i64 p1), (3, .ptr 0 1 5 0 0), (6, .ptr 1 1 5 0 0), (57, .i .i64 0), (58, .i .i64 0)], [.row 5 false false [[.i .i64 p2, .i .i64 p3, .i .i64 p4, .sl 4 p5 5 0 p6, .lst true true 0 []]], .row 5 true false [[.i .i64 0, .i .i64 0, .i .i64 0, .lst true true 0 [], .lst true true 0 []]], .row 1 true false p7, .row 1 false false [[.sl 2 p8 1 0 p9]], .row 5 true false p10]⟩
abbrev give_moved_l5_3_V : Type := Int × Rows
noncomputable def give_moved_l5_3_s (_G : give_moved_G) {ρ : Type} (_n : Nat) (_p0 : Int) (_p1 : Int) (p2 : Nat) (p3 : Nat) (p4 : Int) (_p5 : Int) (_p6 : Int) (_p7 : Int) (p8 : Nat) (p9 : Nat) (_p10 : Nat) (_p11 : Nat) (p12 : Rows) (_p13 : Nat) (_p14 : Nat) (_p16 : Rows) (k0 : (Rows → Option ρ)) (rec' : give_moved_l5_3_V → Option ρ) : give_moved_l5_3_V → Option ρ
  | v =>
  bif decide ((v.1 : Int) < p4) then
    chk (decide ((0 : Int) ≤ v.1)) <|
    chk (decide ((v.1 : Int) < ((p3 : Nat) : Int))) <|
    chk (((List.length (p12 : Rows)) : Nat) == p2) <|
    rowN [.i .i64] p12 (0 + v.1.toNat) fun c0 =>
    chk (decide ((0 : Int) ≤ v.1)) <|
    chk (decide ((v.1 : Int) < ((p9 : Nat) : Int))) <|
    chk (((List.length (v.2 : Rows)) : Nat) == p8) <|
    rowN [.a, .a, .a, .a, .a] v.2 (0 + v.1.toNat) fun c1 =>
    rec' ((IntKind.wrap .i64 (v.1 + 1)), (List.set (v.2 : Rows) (0 + v.1.toNat) [c1.1, c1.2.1, c1.2.2.1, c1.2.2.2.1, .i .i64 (if (-1) > c0.1 then (-1) else c0.1)]))
  else k0 v.2
noncomputable def give_moved_l5_3 (G : give_moved_G) {ρ : Type} (n : Nat) (p0 : Int) (p1 : Int) (p2 : Nat) (p3 : Nat) (p4 : Int) (p5 : Int) (p6 : Int) (p7 : Int) (p8 : Nat) (p9 : Nat) (p10 : Nat) (p11 : Nat) (p12 : Rows) (p13 : Nat) (p14 : Nat) (p16 : Rows) (k0 : (Rows → Option ρ)) (v : give_moved_l5_3_V) : Option ρ := fuelN (give_moved_l5_3_s G n p0 p1 p2 p3 p4 p5 p6 p7 p8 p9 p10 p11 p12 p13 p14 p16 k0) n v
def give_moved_l5_3_enc (p0 : Int) (p1 : Int) (p2 : Nat) (p3 : Nat) (p4 : Int) (p5 : Int) (p6 : Int) (p7 : Int) (p8 : Nat) (p9 : Nat) (p10 : Nat) (p11 : Nat) (p12 : Rows) (p13 : Nat) (p14 : Nat) (p16 : Rows) : give_moved_l5_3_V → St
  | v => ⟨[(1, .i .i64 p0), (2, .i .i64 p1), (3, .ptr 0 1 5 0 0), (6, .ptr 1 1 5 0 0), (40, .sl 2 p2 1 0 p3), (41, .i .i64 p4), (42, .i .i64 v.1)], [.row 5 false false [[.i .i64 p5, .i .i64 p6, .i .i64 p7, .sl 4 p8 5 0 p9, .sl 5 p10 13 0 p11]], .row 5 true false [[.i .i64 0, .i .i64 0, .i .i64 0, .lst true true 0 [], .lst true true 0 []]], .row 1 true false p12, .row 1 false false [[.sl 2 p13 1 0 p14]], .row 5 true false v.2, .row 13 true false p16]⟩
abbrev give_moved_l10_3_V : Type := Int × Rows
noncomputable def give_moved_l10_3_s (_G : give_moved_G) {ρ : Type} (_n : Nat) (p0 : Int) (p1 : Int) (p2 : Int) (_p3 : Int) (_p4 : Int) (_p5 : Int) (_p6 : Nat) (_p7 : Nat) (p8 : Nat) (p9 : Nat) (_p10 : Rows) (_p11 : Nat) (_p12 : Nat) (_p13 : Rows) (k0 : (Rows → Option ρ)) (rec' : give_moved_l10_3_V → Option ρ) : give_moved_l10_3_V → Option ρ
  | v =>
  bif decide ((v.1 : Int) < p2) then
    chk (decide ((0 : Int) ≤ v.1)) <|
    chk (decide ((v.1 : Int) < ((p9 : Nat) : Int))) <|
    chk (((List.length (v.2 : Rows)) : Nat) == p8) <|
    rowN [.i .i64, .i .i64, .i .i64, .i .i64, .i .i64, .i .i64, .i .i64, .b, .i .u64, .i .u64, .i .u64, .i .u64, .i .u64] v.2 (0 + v.1.toNat) fun c0 =>
    bif ((c0.2.2.2.2.2.1 : Int) == (IntKind.wrap .i64 (p0 + 1))) then
      chk (decide ((0 : Int) ≤ v.1)) <|
      chk (decide ((v.1 : Int) < ((p9 : Nat) : Int))) <|
      chk (((List.length (v.2 : Rows)) : Nat) == p8) <|
      rowN [.a, .a, .a, .a, .a, .a, .a, .a, .a, .a, .a, .a, .a] v.2 (0 + v.1.toNat) fun c1 =>
      rec' ((IntKind.wrap .i64 (v.1 + 1)), (List.set (v.2 : Rows) (0 + v.1.toNat) [c1.1, c1.2.1, c1.2.2.1, c1.2.2.2.1, c1.2.2.2.2.1, .i .i64 (IntKind.wrap .i64 (p1 + 1)), c1.2.2.2.2.2.2.1, c1.2.2.2.2.2.2.2.1, c1.2.2.2.2.2.2.2.2.1, c1.2.2.2.2.2.2.2.2.2.1, c1.2.2.2.2.2.2.2.2.2.2.1, c1.2.2.2.2.2.2.2.2.2.2.2.1, c1.2.2.2.2.2.2.2.2.2.2.2.2.1]))
    else rec' ((IntKind.wrap .i64 (v.1 + 1)), v.2)
  else k0 v.2
noncomputable def give_moved_l10_3 (G : give_moved_G) {ρ : Type} (n : Nat) (p0 : Int) (p1 : Int) (p2 : Int) (p3 : Int) (p4 : Int) (p5 : Int) (p6 : Nat) (p7 : Nat) (p8 : Nat) (p9 : Nat) (p10 : Rows) (p11 : Nat) (p12 : Nat) (p13 : Rows) (k0 : (Rows → Option ρ)) (v : give_moved_l10_3_V) : Option ρ := fuelN (give_moved_l10_3_s G n p0 p1 p2 p3 p4 p5 p6 p7 p8 p9 p10 p11 p12 p13 k0) n v
def give_moved_l10_3_enc (p0 : Int) (p1 : Int) (p2 : Int) (p3 : Int) (p4 : Int) (p5 : Int) (p6 : Nat) (p7 : Nat) (p8 : Nat) (p9 : Nat) (p10 : Rows) (p11 : Nat) (p12 : Nat) (p13 : Rows) : give_moved_l10_3_V → St
  | v => ⟨[(1, .i .i64 p0), (2, .i .i64 p1), (3, .ptr 0 1 5 0 0), (6, .ptr 1 1 5 0 0), (57, .i .i64 p2), (58, .i .i64 v.1)], [.row 5 false false [[.i .i64 p3, .i .i64 p4, .i .i64 p5, .sl 4 p6 5 0 p7, .sl 5 p8 13 0 p9]], .row 5 true false [[.i .i64 0, .i .i64 0, .i .i64 0, .lst true true 0 [], .lst true true 0 []]], .row 1 true false p10, .row 1 false false [[.sl 2 p11 1 0 p12]], .row 5 true false p13, .row 13 true false v.2]⟩
noncomputable def give_moved_s (G : give_moved_G) {ρ : Type} (n : Nat) (a0 : Int) (a1 : Int) (a2 : Int) (a3 : Bool) (a4 : Bool) (a5 : Rows) (a6 : Bool) (a7 : Bool) (a8 : Rows) (a9 : Int) (a10 : Int) (k0 : (Nat → Nat → Rows → Option ρ)) (k1 : (Nat → Nat → Nat → Nat → Rows → Rows → Option ρ)) : Option ρ :=
  G.state_Forest ρ a0 a1 a2 a3 a4 a5 a6 a7 a8 (fun w0_0 w0_1 w0_2 =>
    G.forest_Move ρ w0_0 w0_1 w0_2 a9 a10 (G.state_Clone ρ a0 a1 a2 a3 a4 a5 a6 a7 a8 (none) (fun _w3_0 _w3_1 _w3_2 =>
        none) (fun w4_0 w4_1 w4_2 =>
        chk (decide ((0 : Int) ≤ a9)) <|
        chk (decide ((a9 : Int) < ((w4_1 : Nat) : Int))) <|
        chk (((List.length (w4_2 : Rows)) : Nat) == w4_0) <|
        rowN [.i .i64, .i .i64, .i .i64, .i .i64, .i .i64] w4_2 (0 + a9.toNat) fun c5 =>
        chk (decide ((0 : Int) ≤ a10)) <|
        chk (decide ((a10 : Int) < ((w4_1 : Nat) : Int))) <|
        chk (((List.length (w4_2 : Rows)) : Nat) == w4_0) <|
        rowN [.a, .a, .a, .a, .a] w4_2 (0 + a10.toNat) fun c6 =>
        chk (decide ((0 : Int) ≤ a9)) <|
        chk (decide ((a9 : Int) < ((w4_1 : Nat) : Int))) <|
        chk (((List.length ((List.set (w4_2 : Rows) (0 + a10.toNat) [.i .i64 c5.1, .i .i64 c5.2.1, .i .i64 c5.2.2.1, .i .i64 c5.2.2.2.1, c6.2.2.2.2.1]) : Rows)) : Nat) == w4_0) <|
        rowN [.a, .a, .a, .a, .a] (List.set (w4_2 : Rows) (0 + a10.toNat) [.i .i64 c5.1, .i .i64 c5.2.1, .i .i64 c5.2.2.1, .i .i64 c5.2.2.2.1, c6.2.2.2.2.1]) (0 + a9.toNat) fun c7 =>
        give_moved_l5_0 G n a9 a10 a0 a1 a2 w4_0 w4_1 (List.set ((List.set (w4_2 : Rows) (0 + a10.toNat) [.i .i64 c5.1, .i .i64 c5.2.1, .i .i64 c5.2.2.1, .i .i64 c5.2.2.2.1, c6.2.2.2.2.1]) : Rows) (0 + a9.toNat) [.i .i64 0, .i .i64 0, .i .i64 0, .i .i64 0, c7.2.2.2.2.1]) (give_moved_l10_0 G n a9 a10 a0 a1 a2 w4_0 w4_1 (List.set ((List.set (w4_2 : Rows) (0 + a10.toNat) [.i .i64 c5.1, .i .i64 c5.2.1, .i .i64 c5.2.2.1, .i .i64 c5.2.2.2.1, c6.2.2.2.2.1]) : Rows) (0 + a9.toNat) [.i .i64 0, .i .i64 0, .i .i64 0, .i .i64 0, c7.2.2.2.2.1]) (k0 w4_0 w4_1 (List.set ((List.set (w4_2 : Rows) (0 + a10.toNat) [.i .i64 c5.1, .i .i64 c5.2.1, .i .i64 c5.2.2.1, .i .i64 c5.2.2.2.1, c6.2.2.2.2.1]) : Rows) (0 + a9.toNat) [.i .i64 0, .i .i64 0, .i .i64 0, .i .i64 0, c7.2.2.2.2.1])) ()) ()) (fun w10_0 w10_1 w10_2 w10_3 w10_4 w10_5 =>
        chk (decide ((0 : Int) ≤ a9)) <|
        chk (decide ((a9 : Int) < ((w10_1 : Nat) : Int))) <|
        chk (((List.length (w10_4 : Rows)) : Nat) == w10_0) <|
        rowN [.i .i64, .i .i64, .i .i64, .i .i64, .i .i64] w10_4 (0 + a9.toNat) fun c11 =>
        chk (decide ((0 : Int) ≤ a10)) <|
        chk (decide ((a10 : Int) < ((w10_1 : Nat) : Int))) <|
        chk (((List.length (w10_4 : Rows)) : Nat) == w10_0) <|
        rowN [.a, .a, .a, .a, .a] w10_4 (0 + a10.toNat) fun c12 =>
        chk (decide ((0 : Int) ≤ a9)) <|
        chk (decide ((a9 : Int) < ((w10_1 : Nat) : Int))) <|
        chk (((List.length ((List.set (w10_4 : Rows) (0 + a10.toNat) [.i .i64 c11.1, .i .i64 c11.2.1, .i .i64 c11.2.2.1, .i .i64 c11.2.2.2.1, c12.2.2.2.2.1]) : Rows)) : Nat) == w10_0) <|
        rowN [.a, .a, .a, .a, .a] (List.set (w10_4 : Rows) (0 + a10.toNat) [.i .i64 c11.1, .i .i64 c11.2.1, .i .i64 c11.2.2.1, .i .i64 c11.2.2.2.1, c12.2.2.2.2.1]) (0 + a9.toNat) fun c13 =>
        give_moved_l5_1 G n a9 a10 a0 a1 a2 w10_0 w10_1 w10_2 w10_3 (List.set ((List.set (w10_4 : Rows) (0 + a10.toNat) [.i .i64 c11.1, .i .i64 c11.2.1, .i .i64 c11.2.2.1, .i .i64 c11.2.2.2.1, c12.2.2.2.2.1]) : Rows) (0 + a9.toNat) [.i .i64 0, .i .i64 0, .i .i64 0, .i .i64 0, c13.2.2.2.2.1]) w10_5 (give_moved_l10_1 G n a9 a10 ((w10_3 : Nat) : Int) a0 a1 a2 w10_0 w10_1 w10_2 w10_3 (List.set ((List.set (w10_4 : Rows) (0 + a10.toNat) [.i .i64 c11.1, .i .i64 c11.2.1, .i .i64 c11.2.2.1, .i .i64 c11.2.2.2.1, c12.2.2.2.2.1]) : Rows) (0 + a9.toNat) [.i .i64 0, .i .i64 0, .i .i64 0, .i .i64 0, c13.2.2.2.2.1]) (fun w15_0 =>
            k1 w10_0 w10_1 w10_2 w10_3 (List.set ((List.set (w10_4 : Rows) (0 + a10.toNat) [.i .i64 c11.1, .i .i64 c11.2.1, .i .i64 c11.2.2.1, .i .i64 c11.2.2.2.1, c12.2.2.2.2.1]) : Rows) (0 + a9.toNat) [.i .i64 0, .i .i64 0, .i .i64 0, .i .i64 0, c13.2.2.2.2.1]) w15_0) (0, w10_5)) ())) (fun w16_0 w16_1 w16_2 =>
      G.state_Clone ρ a0 a1 a2 a3 a4 a5 a6 a7 a8 (none) (fun _w18_0 _w18_1 _w18_2 =>
        none) (fun w19_0 w19_1 w19_2 =>
        chk (decide ((0 : Int) ≤ a9)) <|
        chk (decide ((a9 : Int) < ((w19_1 : Nat) : Int))) <|
        chk (((List.length (w19_2 : Rows)) : Nat) == w19_0) <|
        rowN [.i .i64, .i .i64, .i .i64, .i .i64, .i .i64] w19_2 (0 + a9.toNat) fun c20 =>
        chk (decide ((0 : Int) ≤ a10)) <|
        chk (decide ((a10 : Int) < ((w19_1 : Nat) : Int))) <|
        chk (((List.length (w19_2 : Rows)) : Nat) == w19_0) <|
        rowN [.a, .a, .a, .a, .a] w19_2 (0 + a10.toNat) fun c21 =>
        chk (decide ((0 : Int) ≤ a9)) <|
        chk (decide ((a9 : Int) < ((w19_1 : Nat) : Int))) <|
        chk (((List.length ((List.set (w19_2 : Rows) (0 + a10.toNat) [.i .i64 c20.1, .i .i64 c20.2.1, .i .i64 c20.2.2.1, .i .i64 c20.2.2.2.1, c21.2.2.2.2.1]) : Rows)) : Nat) == w19_0) <|
        rowN [.a, .a, .a, .a, .a] (List.set (w19_2 : Rows) (0 + a10.toNat) [.i .i64 c20.1, .i .i64 c20.2.1, .i .i64 c20.2.2.1, .i .i64 c20.2.2.2.1, c21.2.2.2.2.1]) (0 + a9.toNat) fun c22 =>
        give_moved_l5_2 G n a9 a10 w16_0 w16_1 ((w16_1 : Nat) : Int) a0 a1 a2 w19_0 w19_1 w16_2 w16_0 w16_1 (fun w23_0 =>
          give_moved_l10_2 G n a9 a10 a0 a1 a2 w19_0 w19_1 w16_2 w16_0 w16_1 w23_0 (k0 w19_0 w19_1 w23_0) ()) (0, (List.set ((List.set (w19_2 : Rows) (0 + a10.toNat) [.i .i64 c20.1, .i .i64 c20.2.1, .i .i64 c20.2.2.1, .i .i64 c20.2.2.2.1, c21.2.2.2.2.1]) : Rows) (0 + a9.toNat) [.i .i64 0, .i .i64 0, .i .i64 0, .i .i64 0, c22.2.2.2.2.1]))) (fun w25_0 w25_1 w25_2 w25_3 w25_4 w25_5 =>
        chk (decide ((0 : Int) ≤ a9)) <|
        chk (decide ((a9 : Int) < ((w25_1 : Nat) : Int))) <|
        chk (((List.length (w25_4 : Rows)) : Nat) == w25_0) <|
        rowN [.i .i64, .i .i64, .i .i64, .i .i64, .i .i64] w25_4 (0 + a9.toNat) fun c26 =>
        chk (decide ((0 : Int) ≤ a10)) <|
        chk (decide ((a10 : Int) < ((w25_1 : Nat) : Int))) <|
        chk (((List.length (w25_4 : Rows)) : Nat) == w25_0) <|
        rowN [.a, .a, .a, .a, .a] w25_4 (0 + a10.toNat) fun c27 =>
        chk (decide ((0 : Int) ≤ a9)) <|
        chk (decide ((a9 : Int) < ((w25_1 : Nat) : Int))) <|
        chk (((List.length ((List.set (w25_4 : Rows) (0 + a10.toNat) [.i .i64 c26.1, .i .i64 c26.2.1, .i .i64 c26.2.2.1, .i .i64 c26.2.2.2.1, c27.2.2.2.2.1]) : Rows)) : Nat) == w25_0) <|
        rowN [.a, .a, .a, .a, .a] (List.set (w25_4 : Rows) (0 + a10.toNat) [.i .i64 c26.1, .i .i64 c26.2.1, .i .i64 c26.2.2.1, .i .i64 c26.2.2.2.1, c27.2.2.2.2.1]) (0 + a9.toNat) fun c28 =>
        give_moved_l5_3 G n a9 a10 w16_0 w16_1 ((w16_1 : Nat) : Int) a0 a1 a2 w25_0 w25_1 w25_2 w25_3 w16_2 w16_0 w16_1 w25_5 (fun w29_0 =>
          give_moved_l10_3 G n a9 a10 ((w25_3 : Nat) : Int) a0 a1 a2 w25_0 w25_1 w25_2 w25_3 w16_2 w16_0 w16_1 w29_0 (fun w30_0 =>
            k1 w25_0 w25_1 w25_2 w25_3 w29_0 w30_0) (0, w25_5)) (0, (List.set ((List.set (w25_4 : Rows) (0 + a10.toNat) [.i .i64 c26.1, .i .i64 c26.2.1, .i .i64 c26.2.2.1, .i .i64 c26.2.2.2.1, c27.2.2.2.2.1]) : Rows) (0 + a9.toNat) [.i .i64 0, .i .i64 0, .i .i64 0, .i .i64 0, c28.2.2.2.2.1])))))
noncomputable def give_moved_g (n : Nat) : give_moved_G := ⟨state_Forest n, forest_Move n, state_Clone n⟩
noncomputable def give_moved (n : Nat) : give_moved_T := fun _ρ a0 a1 a2 a3 a4 a5 a6 a7 a8 a9 a10 k0 k1 => give_moved_s (give_moved_g n) n a0 a1 a2 a3 a4 a5 a6 a7 a8 a9 a10 k0 k1
noncomputable def give_moved_e (n : Nat) : EK := give_moved_E (give_moved n)
def give_moved_S (G : give_moved_G) : CK := tabS [(48, state_Forest_E G.state_Forest), (130, forest_Move_E G.forest_Move), (19, state_Clone_E G.state_Clone)]
theorem give_moved_Sok (n : Nat) : CK.OK (give_moved_S (give_moved_g n)) (L tab) := tabS_ok _ (List.forall_mem_cons.2 ⟨(state_Forest_ok n), List.forall_mem_cons.2 ⟨(forest_Move_ok n), List.forall_mem_cons.2 ⟨(state_Clone_ok n), (fun _ h => nomatch h)⟩⟩⟩)
def give_moved_hs : HintC := hintL [(33, [.i .i64, .i .i64, .i .i64, .i .i64, .i .i64]), (66, [.i .i64, .i .i64, .i .i64, .i .i64, .i .i64, .i .i64, .i .i64, .b, .i .u64, .i .u64, .i .u64, .i .u64, .i .u64]), (46, [.i .i64])]
def give_moved_c5 : Nat × List Nat × List Nat × MC := loopAt 5 m113
noncomputable def give_moved_l5_3_d (G : give_moved_G) (n : Nat) : Go.Rv.LE := fun _ρ h K => decSt [(1, .i .i64 none), (2, .i .i64 none), (3, .ptr 0 5 0 (some 1) (some 0)), (6, .ptr 1 5 0 (some 1) (some 0)), (40, .sl 2 1 none (some 0) none), (41, .i .i64 none), (42, .i .i64 none)] [.row 5 false false (some [[.i .i64 none, .i .i64 none, .i .i64 none, .sl 4 5 none (some 0) none, .sl 5 13 none (some 0) none]]), .row 5 true false (some [[.i .i64 (some 0), .i .i64 (some 0), .i .i64 (some 0), .lst (some true) (some true) 0 (some []), .lst (some true) (some true) 0 (some [])]]), .row 1 true false none, .row 1 false false (some [[.sl 2 1 none (some 0) none]]), .row 5 true false none, .row 13 true false none] h fun a b => give_moved_l5_3 G n a.1 a.2.1 a.2.2.2.2.1.1 a.2.2.2.2.1.2.2 a.2.2.2.2.2.1 b.1.1.1 b.1.1.2.1 b.1.1.2.2.1 b.1.1.2.2.2.1.1 b.1.1.2.2.2.1.2.2 b.1.1.2.2.2.2.1.1 b.1.1.2.2.2.2.1.2.2 b.2.2.1 b.2.2.2.1.1.1.1 b.2.2.2.1.1.1.2.2 b.2.2.2.2.2.1 (fun w0 => K (.exit 0) ⟨[(1, .i .i64 a.1), (2, .i .i64 a.2.1), (3, .ptr 0 1 5 0 0), (6, .ptr 1 1 5 0 0)], [.row 5 false false [[.i .i64 b.1.1.1, .i .i64 b.1.1.2.1, .i .i64 b.1.1.2.2.1, .sl 4 b.1.1.2.2.2.1.1 5 0 b.1.1.2.2.2.1.2.2, .sl 5 b.1.1.2.2.2.2.1.1 13 0 b.1.1.2.2.2.2.1.2.2]], .row 5 true false [[.i .i64 0, .i .i64 0, .i .i64 0, .lst true true 0 [], .lst true true 0 []]], .row 1 true false b.2.2.1, .row 1 false false [[.sl 2 b.2.2.2.1.1.1.1 1 0 b.2.2.2.1.1.1.2.2]], .row 5 true false w0, .row 13 true false b.2.2.2.2.2.1]⟩) (a.2.2.2.2.2.2.1, b.2.2.2.2.1)
noncomputable def give_moved_l5_2_d (G : give_moved_G) (n : Nat) : Go.Rv.LE := fun _ρ h K => decSt [(1, .i .i64 none), (2, .i .i64 none), (3, .ptr 0 5 0 (some 1) (some 0)), (6, .ptr 1 5 0 (some 1) (some 0)), (40, .sl 2 1 none (some 0) none), (41, .i .i64 none), (42, .i .i64 none)] [.row 5 false false (some [[.i .i64 none, .i .i64 none, .i .i64 none, .sl 4 5 none (some 0) none, .lst (some true) (some true) 0 (some [])]]), .row 5 true false (some [[.i .i64 (some 0), .i .i64 (some 0), .i .i64 (some 0), .lst (some true) (some true) 0 (some []), .lst (some true) (some true) 0 (some [])]]), .row 1 true false none, .row 1 false false (some [[.sl 2 1 none (some 0) none]]), .row 5 true false none] h fun a b => give_moved_l5_2 G n a.1 a.2.1 a.2.2.2.2.1.1 a.2.2.2.2.1.2.2 a.2.2.2.2.2.1 b.1.1.1 b.1.1.2.1 b.1.1.2.2.1 b.1.1.2.2.2.1.1 b.1.1.2.2.2.1.2.2 b.2.2.1 b.2.2.2.1.1.1.1 b.2.2.2.1.1.1.2.2 (fun w0 => K (.exit 0) ⟨[(1, .i .i64 a.1), (2, .i .i64 a.2.1), (3, .ptr 0 1 5 0 0), (6, .ptr 1 1 5 0 0)], [.row 5 false false [[.i .i64 b.1.1.1, .i .i64 b.1.1.2.1, .i .i64 b.1.1.2.2.1, .sl 4 b.1.1.2.2.2.1.1 5 0 b.1.1.2.2.2.1.2.2, .lst true true 0 []]], .row 5 true false [[.i .i64 0, .i .i64 0, .i .i64 0, .lst true true 0 [], .lst true true 0 []]], .row 1 true false b.2.2.1, .row 1 false false [[.sl 2 b.2.2.2.1.1.1.1 1 0 b.2.2.2.1.1.1.2.2]], .row 5 true false w0]⟩) (a.2.2.2.2.2.2.1, b.2.2.2.2.1)
noncomputable def give_moved_l5_1_d (G : give_moved_G) (n : Nat) : Go.Rv.LE := fun _ρ h K => decSt [(1, .i .i64 none), (2, .i .i64 none), (3, .ptr 0 5 0 (some 1) (some 0)), (6, .ptr 1 5 0 (some 1) (some 0)), (40, .lst (some true) (some true) 0 (some [])), (41, .i .i64 (some 0)), (42, .i .i64 (some 0))] [.row 5 false false (some [[.i .i64 none, .i .i64 none, .i .i64 none, .sl 3 5 none (some 0) none, .sl 4 13 none (some 0) none]]), .row 5 true false (some [[.i .i64 (some 0), .i .i64 (some 0), .i .i64 (some 0), .lst (some true) (some true) 0 (some []), .lst (some true) (some true) 0 (some [])]]), .row 1 true false (some [[.lst (some true) (some true) 0 (some [])]]), .row 5 true false none, .row 13 true false none] h fun a b => give_moved_l5_1 G n a.1 a.2.1 b.1.1.1 b.1.1.2.1 b.1.1.2.2.1 b.1.1.2.2.2.1.1 b.1.1.2.2.2.1.2.2 b.1.1.2.2.2.2.1.1 b.1.1.2.2.2.2.1.2.2 b.2.2.2.1 b.2.2.2.2.1 (K (.exit 0) ⟨[(1, .i .i64 a.1), (2, .i .i64 a.2.1), (3, .ptr 0 1 5 0 0), (6, .ptr 1 1 5 0 0)], [.row 5 false false [[.i .i64 b.1.1.1, .i .i64 b.1.1.2.1, .i .i64 b.1.1.2.2.1, .sl 3 b.1.1.2.2.2.1.1 5 0 b.1.1.2.2.2.1.2.2, .sl 4 b.1.1.2.2.2.2.1.1 13 0 b.1.1.2.2.2.2.1.2.2]], .row 5 true false [[.i .i64 0, .i .i64 0, .i .i64 0, .lst true true 0 [], .lst true true 0 []]], .row 1 true false [[.lst true true 0 []]], .row 5 true false b.2.2.2.1, .row 13 true false b.2.2.2.2.1]⟩) ()
noncomputable def give_moved_l5_0_d (G : give_moved_G) (n : Nat) : Go.Rv.LE := fun _ρ h K => decSt [(1, .i .i64 none), (2, .i .i64 none), (3, .ptr 0 5 0 (some 1) (some 0)), (6, .ptr 1 5 0 (some 1) (some 0)), (40, .lst (some true) (some true) 0 (some [])), (41, .i .i64 (some 0)), (42, .i .i64 (some 0))] [.row 5 false false (some [[.i .i64 none, .i .i64 none, .i .i64 none, .sl 3 5 none (some 0) none, .lst (some true) (some true) 0 (some [])]]), .row 5 true false (some [[.i .i64 (some 0), .i .i64 (some 0), .i .i64 (some 0), .lst (some true) (some true) 0 (some []), .lst (some true) (some true) 0 (some [])]]), .row 1 true false (some [[.lst (some true) (some true) 0 (some [])]]), .row 5 true false none] h fun a b => give_moved_l5_0 G n a.1 a.2.1 b.1.1.1 b.1.1.2.1 b.1.1.2.2.1 b.1.1.2.2.2.1.1 b.1.1.2.2.2.1.2.2 b.2.2.2.1 (K (.exit 0) ⟨[(1, .i .i64 a.1), (2, .i .i64 a.2.1), (3, .ptr 0 1 5 0 0), (6, .ptr 1 1 5 0 0)], [.row 5 false false [[.i .i64 b.1.1.1, .i .i64 b.1.1.2.1, .i .i64 b.1.1.2.2.1, .sl 3 b.1.1.2.2.2.1.1 5 0 b.1.1.2.2.2.1.2.2, .lst true true 0 []]], .row 5 true false [[.i .i64 0, .i .i64 0, .i .i64 0, .lst true true 0 [], .lst true true 0 []]], .row 1 true false [[.lst true true 0 []]], .row 5 true false b.2.2.2.1]⟩) ()
noncomputable def give_moved_d5 (G : give_moved_G) (n : Nat) : Go.Rv.LE := altL [(1, .i .i64 none), (2, .i .i64 none), (3, .ptr 0 5 0 (some 1) (some 0)), (6, .ptr 1 5 0 (some 1) (some 0)), (40, .sl 2 1 none (some 0) none), (41, .i .i64 none), (42, .i .i64 none)] [.row 5 false false (some [[.i .i64 none, .i .i64 none, .i .i64 none, .sl 4 5 none (some 0) none, .sl 5 13 none (some 0) none]]), .row 5 true false (some [[.i .i64 (some 0), .i .i64 (some 0), .i .i64 (some 0), .lst (some true) (some true) 0 (some []), .lst (some true) (some true) 0 (some [])]]), .row 1 true false none, .row 1 false false (some [[.sl 2 1 none (some 0) none]]), .row 5 true false none, .row 13 true false none] (give_moved_l5_3_d G n) (altL [(1, .i .i64 none), (2, .i .i64 none), (3, .ptr 0 5 0 (some 1) (some 0)), (6, .ptr 1 5 0 (some 1) (some 0)), (40, .sl 2 1 none (some 0) none), (41, .i .i64 none), (42, .i .i64 none)] [.row 5 false false (some [[.i .i64 none, .i .i64 none, .i .i64 none, .sl 4 5 none (some 0) none, .lst (some true) (some true) 0 (some [])]]), .row 5 true false (some [[.i .i64 (some 0), .i .i64 (some 0), .i .i64 (some 0), .lst (some true) (some true) 0 (some []), .lst (some true) (some true) 0 (some [])]]), .row 1 true false none, .row 1 false false (some [[.sl 2 1 none (some 0) none]]), .row 5 true false none] (give_moved_l5_2_d G n) (altL [(1, .i .i64 none), (2, .i .i64 none), (3, .ptr 0 5 0 (some 1) (some 0)), (6, .ptr 1 5 0 (some 1) (some 0)), (40, .lst (some true) (some true) 0 (some [])), (41, .i .i64 (some 0)), (42, .i .i64 (some 0))] [.row 5 false false (some [[.i .i64 none, .i .i64 none, .i .i64 none, .sl 3 5 none (some 0) none, .sl 4 13 none (some 0) none]]), .row 5 true false (some [[.i .i64 (some 0), .i .i64 (some 0), .i .i64 (some 0), .lst (some true) (some true) 0 (some []), .lst (some true) (some true) 0 (some [])]]), .row 1 true false (some [[.lst (some true) (some true) 0 (some [])]]), .row 5 true false none, .row 13 true false none] (give_moved_l5_1_d G n) (give_moved_l5_0_d G n)))
def give_moved_c10 : Nat × List Nat × List Nat × MC := loopAt 10 m113
noncomputable def give_moved_l10_3_d (G : give_moved_G) (n : Nat) : Go.Rv.LE := fun _ρ h K => decSt [(1, .i .i64 none), (2, .i .i64 none), (3, .ptr 0 5 0 (some 1) (some 0)), (6, .ptr 1 5 0 (some 1) (some 0)), (57, .i .i64 none), (58, .i .i64 none)] [.row 5 false false (some [[.i .i64 none, .i .i64 none, .i .i64 none, .sl 4 5 none (some 0) none, .sl 5 13 none (some 0) none]]), .row 5 true false (some [[.i .i64 (some 0), .i .i64 (some 0), .i .i64 (some 0), .lst (some true) (some true) 0 (some []), .lst (some true) (some true) 0 (some [])]]), .row 1 true false none, .row 1 false false (some [[.sl 2 1 none (some 0) none]]), .row 5 true false none, .row 13 true false none] h fun a b => give_moved_l10_3 G n a.1 a.2.1 a.2.2.2.2.1 b.1.1.1 b.1.1.2.1 b.1.1.2.2.1 b.1.1.2.2.2.1.1 b.1.1.2.2.2.1.2.2 b.1.1.2.2.2.2.1.1 b.1.1.2.2.2.2.1.2.2 b.2.2.1 b.2.2.2.1.1.1.1 b.2.2.2.1.1.1.2.2 b.2.2.2.2.1 (fun w0 => K (.exit 2) ⟨[(3, .ptr 0 1 5 0 0), (6, .ptr 1 1 5 0 0)], [.row 5 false false [[.i .i64 b.1.1.1, .i .i64 b.1.1.2.1, .i .i64 b.1.1.2.2.1, .sl 4 b.1.1.2.2.2.1.1 5 0 b.1.1.2.2.2.1.2.2, .sl 5 b.1.1.2.2.2.2.1.1 13 0 b.1.1.2.2.2.2.1.2.2]], .row 5 true false [[.i .i64 0, .i .i64 0, .i .i64 0, .lst true true 0 [], .lst true true 0 []]], .row 1 true false b.2.2.1, .row 1 false false [[.sl 2 b.2.2.2.1.1.1.1 1 0 b.2.2.2.1.1.1.2.2]], .row 5 true false b.2.2.2.2.1, .row 13 true false w0]⟩) (a.2.2.2.2.2.1, b.2.2.2.2.2.1)
noncomputable def give_moved_l10_1_d (G : give_moved_G) (n : Nat) : Go.Rv.LE := fun _ρ h K => decSt [(1, .i .i64 none), (2, .i .i64 none), (3, .ptr 0 5 0 (some 1) (some 0)), (6, .ptr 1 5 0 (some 1) (some 0)), (57, .i .i64 none), (58, .i .i64 none)] [.row 5 false false (some [[.i .i64 none, .i .i64 none, .i .i64 none, .sl 3 5 none (some 0) none, .sl 4 13 none (some 0) none]]), .row 5 true false (some [[.i .i64 (some 0), .i .i64 (some 0), .i .i64 (some 0), .lst (some true) (some true) 0 (some []), .lst (some true) (some true) 0 (some [])]]), .row 1 true false (some [[.lst (some true) (some true) 0 (some [])]]), .row 5 true false none, .row 13 true false none] h fun a b => give_moved_l10_1 G n a.1 a.2.1 a.2.2.2.2.1 b.1.1.1 b.1.1.2.1 b.1.1.2.2.1 b.1.1.2.2.2.1.1 b.1.1.2.2.2.1.2.2 b.1.1.2.2.2.2.1.1 b.1.1.2.2.2.2.1.2.2 b.2.2.2.1 (fun w0 => K (.exit 2) ⟨[(3, .ptr 0 1 5 0 0), (6, .ptr 1 1 5 0 0)], [.row 5 false false [[.i .i64 b.1.1.1, .i .i64 b.1.1.2.1, .i .i64 b.1.1.2.2.1, .sl 3 b.1.1.2.2.2.1.1 5 0 b.1.1.2.2.2.1.2.2, .sl 4 b.1.1.2.2.2.2.1.1 13 0 b.1.1.2.2.2.2.1.2.2]], .row 5 true false [[.i .i64 0, .i .i64 0, .i .i64 0, .lst true true 0 [], .lst true true 0 []]], .row 1 true false [[.lst true true 0 []]], .row 5 true false b.2.2.2.1, .row 13 true false w0]⟩) (a.2.2.2.2.2.1, b.2.2.2.2.1)
noncomputable def give_moved_l10_2_d (G : give_moved_G) (n : Nat) : Go.Rv.LE := fun _ρ h K => decSt [(1, .i .i64 none), (2, .i .i64 none), (3, .ptr 0 5 0 (some 1) (some 0)), (6, .ptr 1 5 0 (some 1) (some 0)), (57, .i .i64 (some 0)), (58, .i .i64 (some 0))] [.row 5 false false (some [[.i .i64 none, .i .i64 none, .i .i64 none, .sl 4 5 none (some 0) none, .lst (some true) (some true) 0 (some [])]]), .row 5 true false (some [[.i .i64 (some 0), .i .i64 (some 0), .i .i64 (some 0), .lst (some true) (some true) 0 (some []), .lst (some true) (some true) 0 (some [])]]), .row 1 true false none, .row 1 false false (some [[.sl 2 1 none (some 0) none]]), .row 5 true false none] h fun a b => give_moved_l10_2 G n a.1 a.2.1 b.1.1.1 b.1.1.2.1 b.1.1.2.2.1 b.1.1.2.2.2.1.1 b.1.1.2.2.2.1.2.2 b.2.2.1 b.2.2.2.1.1.1.1 b.2.2.2.1.1.1.2.2 b.2.2.2.2.1 (K (.exit 2) ⟨[(3, .ptr 0 1 5 0 0), (6, .ptr 1 1 5 0 0)], [.row 5 false false [[.i .i64 b.1.1.1, .i .i64 b.1.1.2.1, .i .i64 b.1.1.2.2.1, .sl 4 b.1.1.2.2.2.1.1 5 0 b.1.1.2.2.2.1.2.2, .lst true true 0 []]], .row 5 true false [[.i .i64 0, .i .i64 0, .i .i64 0, .lst true true 0 [], .lst true true 0 []]], .row 1 true false b.2.2.1, .row 1 false false [[.sl 2 b.2.2.2.1.1.1.1 1 0 b.2.2.2.1.1.1.2.2]], .row 5 true false b.2.2.2.2.1]⟩) ()
noncomputable def give_moved_l10_0_d (G : give_moved_G) (n : Nat) : Go.Rv.LE := fun _ρ h K => decSt [(1, .i .i64 none), (2, .i .i64 none), (3, .ptr 0 5 0 (some 1) (some 0)), (6, .ptr 1 5 0 (some 1) (some 0)), (57, .i .i64 (some 0)), (58, .i .i64 (some 0))] [.row 5 false false (some [[.i .i64 none, .i .i64 none, .i .i64 none, .sl 3 5 none (some 0) none, .lst (some true) (some true) 0 (some [])]]), .row 5 true false (some [[.i .i64 (some 0), .i .i64 (some 0), .i .i64 (some 0), .lst (some true) (some true) 0 (some []), .lst (some true) (some true) 0 (some [])]]), .row 1 true false (some [[.lst (some true) (some true) 0 (some [])]]), .row 5 true false none] h fun a b => give_moved_l10_0 G n a.1 a.2.1 b.1.1.1 b.1.1.2.1 b.1.1.2.2.1 b.1.1.2.2.2.1.1 b.1.1.2.2.2.1.2.2 b.2.2.2.1 (K (.exit 2) ⟨[(3, .ptr 0 1 5 0 0), (6, .ptr 1 1 5 0 0)], [.row 5 false false [[.i .i64 b.1.1.1, .i .i64 b.1.1.2.1, .i .i64 b.1.1.2.2.1, .sl 3 b.1.1.2.2.2.1.1 5 0 b.1.1.2.2.2.1.2.2, .lst true true 0 []]], .row 5 true false [[.i .i64 0, .i .i64 0, .i .i64 0, .lst true true 0 [], .lst true true 0 []]], .row 1 true false [[.lst true true 0 []]], .row 5 true false b.2.2.2.1]⟩) ()
noncomputable def give_moved_d10 (G : give_moved_G) (n : Nat) : Go.Rv.LE := altL [(1, .i .i64 none), (2, .i .i64 none), (3, .ptr 0 5 0 (some 1) (some 0)), (6, .ptr 1 5 0 (some 1) (some 0)), (57, .i .i64 none), (58, .i .i64 none)] [.row 5 false false (some [[.i .i64 none, .i .i64 none, .i .i64 none, .sl 4 5 none (some 0) none, .sl 5 13 none (some 0) none]]), .row 5 true false (some [[.i .i64 (some 0), .i .i64 (some 0), .i .i64 (some 0), .lst (some true) (some true) 0 (some []), .lst (some true) (some true) 0 (some [])]]), .row 1 true false none, .row 1 false false (some [[.sl 2 1 none (some 0) none]]), .row 5 true false none, .row 13 true false none] (give_moved_l10_3_d G n) (altL [(1, .i .i64 none), (2, .i .i64 none), (3, .ptr 0 5 0 (some 1) (some 0)), (6, .ptr 1 5 0 (some 1) (some 0)), (57, .i .i64 none), (58, .i .i64 none)] [.row 5 false false (some [[.i .i64 none, .i .i64 none, .i .i64 none, .sl 3 5 none (some 0) none, .sl 4 13 none (some 0) none]]), .row 5 true false (some [[.i .i64 (some 0), .i .i64 (some 0), .i .i64 (some 0), .lst (some true) (some true) 0 (some []), .lst (some true) (some true) 0 (some [])]]), .row 1 true false (some [[.lst (some true) (some true) 0 (some [])]]), .row 5 true false none, .row 13 true false none] (give_moved_l10_1_d G n) (altL [(1, .i .i64 none), (2, .i .i64 none), (3, .ptr 0 5 0 (some 1) (some 0)), (6, .ptr 1 5 0 (some 1) (some 0)), (57, .i .i64 (some 0)), (58, .i .i64 (some 0))] [.row 5 false false (some [[.i .i64 none, .i .i64 none, .i .i64 none, .sl 4 5 none (some 0) none, .lst (some true) (some true) 0 (some [])]]), .row 5 true false (some [[.i .i64 (some 0), .i .i64 (some 0), .i .i64 (some 0), .lst (some true) (some true) 0 (some []), .lst (some true) (some true) 0 (some [])]]), .row 1 true false none, .row 1 false false (some [[.sl 2 1 none (some 0) none]]), .row 5 true false none] (give_moved_l10_2_d G n) (give_moved_l10_0_d G n)))
noncomputable def give_moved_lp (G : give_moved_G) (n : Nat) : LK := tabL [(5, give_moved_d5 G n), (10, give_moved_d10 G n)]
theorem give_moved_l5_3_k (G : give_moved_G) {ρ : Type} (n : Nat) (p0 : Int) (p1 : Int) (p2 : Nat) (p3 : Nat) (p4 : Int) (p5 : Int) (p6 : Int) (p7 : Int) (p8 : Nat) (p9 : Nat) (p10 : Nat) (p11 : Nat) (p12 : Rows) (p13 : Nat) (p14 : Nat) (p16 : Rows) (K : Ex → St → Option ρ) (N : St → Option ρ) : ∀ v, roundC (give_moved_S G) give_moved_hs (give_moved_lp G n) give_moved_c5 6 N K (give_moved_l5_3_enc p0 p1 p2 p3 p4 p5 p6 p7 p8 p9 p10 p11 p12 p13 p14 p16 v) = give_moved_l5_3_s G n p0 p1 p2 p3 p4 p5 p6 p7 p8 p9 p10 p11 p12 p13 p14 p16 (fun w0 => K (.exit 0) ⟨[(1, .i .i64 p0), (2, .i .i64 p1), (3, .ptr 0 1 5 0 0), (6, .ptr 1 1 5 0 0)], [.row 5 false false [[.i .i64 p5, .i .i64 p6, .i .i64 p7, .sl 4 p8 5 0 p9, .sl 5 p10 13 0 p11]], .row 5 true false [[.i .i64 0, .i .i64 0, .i .i64 0, .lst true true 0 [], .lst true true 0 []]], .row 1 true false p12, .row 1 false false [[.sl 2 p13 1 0 p14]], .row 5 true false w0, .row 13 true false p16]⟩) (fun v => N (give_moved_l5_3_enc p0 p1 p2 p3 p4 p5 p6 p7 p8 p9 p10 p11 p12 p13 p14 p16 v)) v
  | v => by kernel_rfl
theorem give_moved_l5_3_dok (n : Nat) : LE.OK (give_moved_l5_3_d (give_moved_g n) n) (L tab) give_moved_c5 := LE.shp (fun _ _ _ => rfl) fun ρ K y a b e => LE.rounds (give_moved_Sok n) (LK.of (l := []) (by kernel_rfl) ((fun _ h => nomatch h))) (give_moved_l5_3_k (give_moved_g n) n _ _ _ _ _ _ _ _ _ _ _ _ _ _ _ _ K) (by kernel_rfl) (by kernel_rfl) e
theorem give_moved_l5_2_k (G : give_moved_G) {ρ : Type} (n : Nat) (p0 : Int) (p1 : Int) (p2 : Nat) (p3 : Nat) (p4 : Int) (p5 : Int) (p6 : Int) (p7 : Int) (p8 : Nat) (p9 : Nat) (p10 : Rows) (p11 : Nat) (p12 : Nat) (K : Ex → St → Option ρ) (N : St → Option ρ) : ∀ v, roundC (give_moved_S G) give_moved_hs (give_moved_lp G n) give_moved_c5 5 N K (give_moved_l5_2_enc p0 p1 p2 p3 p4 p5 p6 p7 p8 p9 p10 p11 p12 v) = give_moved_l5_2_s G n p0 p1 p2 p3 p4 p5 p6 p7 p8 p9 p10 p11 p12 (fun w0 => K (.exit 0) ⟨[(1, .i .i64 p0), (2, .i .i64 p1), (3, .ptr 0 1 5 0 0), (6, .ptr 1 1 5 0 0)], [.row 5 false false [[.i .i64 p5, .i .i64 p6, .i .i64 p7, .sl 4 p8 5 0 p9, .lst true true 0 []]], .row 5 true false [[.i .i64 0, .i .i64 0, .i .i64 0, .lst true true 0 [], .lst true true 0 []]], .row 1 true false p10, .row 1 false false [[.sl 2 p11 1 0 p12]], .row 5 true false w0]⟩) (fun v => N (give_moved_l5_2_enc p0 p1 p2 p3 p4 p5 p6 p7 p8 p9 p10 p11 p12 v)) v
  | v => by kernel_rfl
theorem give_moved_l5_2_dok (n : Nat) : LE.OK (give_moved_l5_2_d (give_moved_g n) n) (L tab) give_moved_c5 := LE.shp (fun _ _ _ => rfl) fun ρ K y a b e => LE.rounds (give_moved_Sok n) (LK.of (l := []) (by kernel_rfl) ((fun _ h => nomatch h))) (give_moved_l5_2_k (give_moved_g n) n _ _ _ _ _ _ _ _ _ _ _ _ _ K) (by kernel_rfl) (by kernel_rfl) e
theorem give_moved_l5_1_k (G : give_moved_G) {ρ : Type} (n : Nat) (p0 : Int) (p1 : Int) (p2 : Int) (p3 : Int) (p4 : Int) (p5 : Nat) (p6 : Nat) (p7 : Nat) (p8 : Nat) (p9 : Rows) (p10 : Rows) (K : Ex → St → Option ρ) (N : St → Option ρ) : ∀ v, roundC (give_moved_S G) give_moved_hs (give_moved_lp G n) give_moved_c5 5 N K (give_moved_l5_1_enc p0 p1 p2 p3 p4 p5 p6 p7 p8 p9 p10 v) = give_moved_l5_1_s G n p0 p1 p2 p3 p4 p5 p6 p7 p8 p9 p10 (K (.exit 0) ⟨[(1, .i .i64 p0), (2, .i .i64 p1), (3, .ptr 0 1 5 0 0), (6, .ptr 1 1 5 0 0)], [.row 5 false false [[.i .i64 p2, .i .i64 p3, .i .i64 p4, .sl 3 p5 5 0 p6, .sl 4 p7 13 0 p8]], .row 5 true false [[.i .i64 0, .i .i64 0, .i .i64 0, .lst true true 0 [], .lst true true 0 []]], .row 1 true false [[.lst true true 0 []]], .row 5 true false p9, .row 13 true false p10]⟩) (fun v => N (give_moved_l5_1_enc p0 p1 p2 p3 p4 p5 p6 p7 p8 p9 p10 v)) v
  | v => by kernel_rfl
theorem give_moved_l5_1_dok (n : Nat) : LE.OK (give_moved_l5_1_d (give_moved_g n) n) (L tab) give_moved_c5 := LE.shp (fun _ _ _ => rfl) fun ρ K y a b e => LE.rounds (give_moved_Sok n) (LK.of (l := []) (by kernel_rfl) ((fun _ h => nomatch h))) (give_moved_l5_1_k (give_moved_g n) n _ _ _ _ _ _ _ _ _ _ _ K) (by kernel_rfl) (by kernel_rfl) e
theorem give_moved_l5_0_k (G : give_moved_G) {ρ : Type} (n : Nat) (p0 : Int) (p1 : Int) (p2 : Int) (p3 : Int) (p4 : Int) (p5 : Nat) (p6 : Nat) (p7 : Rows) (K : Ex → St → Option ρ) (N : St → Option ρ) : ∀ v, roundC (give_moved_S G) give_moved_hs (give_moved_lp G n) give_moved_c5 4 N K (give_moved_l5_0_enc p0 p1 p2 p3 p4 p5 p6 p7 v) = give_moved_l5_0_s G n p0 p1 p2 p3 p4 p5 p6 p7 (K (.exit 0) ⟨[(1, .i .i64 p0), (2, .i .i64 p1), (3, .ptr 0 1 5 0 0), (6, .ptr 1 1 5 0 0)], [.row 5 false false [[.i .i64 p2, .i .i64 p3, .i .i64 p4, .sl 3 p5 5 0 p6, .lst true true 0 []]], .row 5 true false [[.i .i64 0, .i .i64 0, .i .i64 0, .lst true true 0 [], .lst true true 0 []]], .row 1 true false [[.lst true true 0 []]], .row 5 true false p7]⟩) (fun v => N (give_moved_l5_0_enc p0 p1 p2 p3 p4 p5 p6 p7 v)) v
  | v => by kernel_rfl
theorem give_moved_l5_0_dok (n : Nat) : LE.OK (give_moved_l5_0_d (give_moved_g n) n) (L tab) give_moved_c5 := LE.shp (fun _ _ _ => rfl) fun ρ K y a b e => LE.rounds (give_moved_Sok n) (LK.of (l := []) (by kernel_rfl) ((fun _ h => nomatch h))) (give_moved_l5_0_k (give_moved_g n) n _ _ _ _ _ _ _ _ K) (by kernel_rfl) (by kernel_rfl) e
theorem give_moved_d5_ok (n : Nat) : LE.OK (give_moved_d5 (give_moved_g n) n) (L tab) give_moved_c5 := altL_ok (give_moved_l5_3_dok n) (altL_ok (give_moved_l5_2_dok n) (altL_ok (give_moved_l5_1_dok n) (give_moved_l5_0_dok n)))
theorem give_moved_l10_3_k (G : give_moved_G) {ρ : Type} (n : Nat) (p0 : Int) (p1 : Int) (p2 : Int) (p3 : Int) (p4 : Int) (p5 : Int) (p6 : Nat) (p7 : Nat) (p8 : Nat) (p9 : Nat) (p10 : Rows) (p11 : Nat) (p12 : Nat) (p13 : Rows) (K : Ex → St → Option ρ) (N : St → Option ρ) : ∀ v, roundC (give_moved_S G) give_moved_hs (give_moved_lp G n) give_moved_c10 6 N K (give_moved_l10_3_enc p0 p1 p2 p3 p4 p5 p6 p7 p8 p9 p10 p11 p12 p13 v) = give_moved_l10_3_s G n p0 p1 p2 p3 p4 p5 p6 p7 p8 p9 p10 p11 p12 p13 (fun w0 => K (.exit 2) ⟨[(3, .ptr 0 1 5 0 0), (6, .ptr 1 1 5 0 0)], [.row 5 false false [[.i .i64 p3, .i .i64 p4, .i .i64 p5, .sl 4 p6 5 0 p7, .sl 5 p8 13 0 p9]], .row 5 true false [[.i .i64 0, .i .i64 0, .i .i64 0, .lst true true 0 [], .lst true true 0 []]], .row 1 true false p10, .row 1 false false [[.sl 2 p11 1 0 p12]], .row 5 true false p13, .row 13 true false w0]⟩) (fun v => N (give_moved_l10_3_enc p0 p1 p2 p3 p4 p5 p6 p7 p8 p9 p10 p11 p12 p13 v)) v
  | v => by kernel_rfl
theorem give_moved_l10_3_dok (n : Nat) : LE.OK (give_moved_l10_3_d (give_moved_g n) n) (L tab) give_moved_c10 := LE.shp (fun _ _ _ => rfl) fun ρ K y a b e => LE.rounds (give_moved_Sok n) (LK.of (l := []) (by kernel_rfl) ((fun _ h => nomatch h))) (give_moved_l10_3_k (give_moved_g n) n _ _ _ _ _ _ _ _ _ _ _ _ _ _ K) (by kernel_rfl) (by kernel_rfl) e
theorem give_moved_l10_1_k (G : give_moved_G) {ρ : Type} (n : Nat) (p0 : Int) (p1 : Int) (p2 : Int) (p3 : Int) (p4 : Int) (p5 : Int) (p6 : Nat) (p7 : Nat) (p8 : Nat) (p9 : Nat) (p10 : Rows) (K : Ex → St → Option ρ) (N : St → Option ρ) : ∀ v, roundC (give_moved_S G) give_moved_hs (give_moved_lp G n) give_moved_c10 5 N K (give_moved_l10_1_enc p0 p1 p2 p3 p4 p5 p6 p7 p8 p9 p10 v) = give_moved_l10_1_s G n p0 p1 p2 p3 p4 p5 p6 p7 p8 p9 p10 (fun w0 => K (.exit 2) ⟨[(3, .ptr 0 1 5 0 0), (6, .ptr 1 1 5 0 0)], [.row 5 false false [[.i .i64 p3, .i .i64 p4, .i .i64 p5, .sl 3 p6 5 0 p7, .sl 4 p8 13 0 p9]], .row 5 true false [[.i .i64 0, .i .i64 0, .i .i64 0, .lst true true 0 [], .lst true true 0 []]], .row 1 true false [[.lst true true 0 []]], .row 5 true false p10, .row 13 true false w0]⟩) (fun v => N (give_moved_l10_1_enc p0 p1 p2 p3 p4 p5 p6 p7 p8 p9 p10 v)) v
  | v => by kernel_rfl
theorem give_moved_l10_1_dok (n : Nat) : LE.OK (give_moved_l10_1_d (give_moved_g n) n) (L tab) give_moved_c10 := LE.shp (fun _ _ _ => rfl) fun ρ K y a b e => LE.rounds (give_moved_Sok n) (LK.of (l := []) (by kernel_rfl) ((fun _ h => nomatch h))) (give_moved_l10_1_k (give_moved_g n) n _ _ _ _ _ _ _ _ _ _ _ K) (by kernel_rfl) (by kernel_rfl) e
theorem give_moved_l10_2_k (G : give_moved_G) {ρ : Type} (n : Nat) (p0 : Int) (p1 : Int) (p2 : Int) (p3 : Int) (p4 : Int) (p5 : Nat) (p6 : Nat) (p7 : Rows) (p8 : Nat) (p9 : Nat) (p10 : Rows) (K : Ex → St → Option ρ) (N : St → Option ρ) : ∀ v, roundC (give_moved_S G) give_moved_hs (give_moved_lp G n) give_moved_c10 5 N K (give_moved_l10_2_enc p0 p1 p2 p3 p4 p5 p6 p7 p8 p9 p10 v) = give_moved_l10_2_s G n p0 p1 p2 p3 p4 p5 p6 p7 p8 p9 p10 (K (.exit 2) ⟨[(3, .ptr 0 1 5 0 0), (6, .ptr 1 1 5 0 0)], [.row 5 false false [[.i .i64 p2, .i .i64 p3, .i .i64 p4, .sl 4 p5 5 0 p6, .lst true true 0 []]], .row 5 true false [[.i .i64 0, .i .i64 0, .i .i64 0, .lst true true 0 [], .lst true true 0 []]], .row 1 true false p7, .row 1 false false [[.sl 2 p8 1 0 p9]], .row 5 true false p10]⟩) (fun v => N (give_moved_l10_2_enc p0 p1 p2 p3 p4 p5 p6 p7 p8 p9 p10 v)) v
  | v => by kernel_rfl
theorem give_moved_l10_2_dok (n : Nat) : LE.OK (give_moved_l10_2_d (give_moved_g n) n) (L tab) give_moved_c10 := LE.shp (fun _ _ _ => rfl) fun ρ K y a b e => LE.rounds (give_moved_Sok n) (LK.of (l := []) (by kernel_rfl) ((fun _ h => nomatch h))) (give_moved_l10_2_k (give_moved_g n) n _ _ _ _ _ _ _ _ _ _ _ K) (by kernel_rfl) (by kernel_rfl) e
theorem give_moved_l10_0_k (G : give_moved_G) {ρ : Type} (n : Nat) (p0 : Int) (p1 : Int) (p2 : Int) (p3 : Int) (p4 : Int) (p5 : Nat) (p6 : Nat) (p7 : Rows) (K : Ex → St → Option ρ) (N : St → Option ρ) : ∀ v, roundC (give_moved_S G) give_moved_hs (give_moved_lp G n) give_moved_c10 4 N K (give_moved_l10_0_enc p0 p1 p2 p3 p4 p5 p6 p7 v) = give_moved_l10_0_s G n p0 p1 p2 p3 p4 p5 p6 p7 (K (.exit 2) ⟨[(3, .ptr 0 1 5 0 0), (6, .ptr 1 1 5 0 0)], [.row 5 false false [[.i .i64 p2, .i .i64 p3, .i .i64 p4, .sl 3 p5 5 0 p6, .lst true true 0 []]], .row 5 true false [[.i .i64 0, .i .i64 0, .i .i64 0, .lst true true 0 [], .lst true true 0 []]], .row 1 true false [[.lst true true 0 []]], .row 5 true false p7]⟩) (fun v => N (give_moved_l10_0_enc p0 p1 p2 p3 p4 p5 p6 p7 v)) v
  | v => by kernel_rfl
theorem give_moved_l10_0_dok (n : Nat) : LE.OK (give_moved_l10_0_d (give_moved_g n) n) (L tab) give_moved_c10 := LE.shp (fun _ _ _ => rfl) fun ρ K y a b e => LE.rounds (give_moved_Sok n) (LK.of (l := []) (by kernel_rfl) ((fun _ h => nomatch h))) (give_moved_l10_0_k (give_moved_g n) n _ _ _ _ _ _ _ _ K) (by kernel_rfl) (by kernel_rfl) e
theorem give_moved_d10_ok (n : Nat) : LE.OK (give_moved_d10 (give_moved_g n) n) (L tab) give_moved_c10 := altL_ok (give_moved_l10_3_dok n) (altL_ok (give_moved_l10_1_dok n) (altL_ok (give_moved_l10_2_dok n) (give_moved_l10_0_dok n)))
theorem give_moved_k (G : give_moved_G) {ρ : Type} (n : Nat) (a0 : Int) (a1 : Int) (a2 : Int) (a3 : Bool) (a4 : Bool) (a5 : Rows) (a6 : Bool) (a7 : Bool) (a8 : Rows) (a9 : Int) (a10 : Int) (K : Res → Option ρ) : runC (give_moved_S G) give_moved_hs (give_moved_lp G n) m113 [.agg [.i .i64 a0, .i .i64 a1, .i .i64 a2, .lst a3 a4 5 a5, .lst a6 a7 13 a8], .i .i64 a9, .i .i64 a10] K = give_moved_s G n a0 a1 a2 a3 a4 a5 a6 a7 a8 a9 a10 (fun w0 w1 w2 => K ⟨.agg [.i .i64 a0, .i .i64 a1, .i .i64 a2, .sl 0 w0 5 0 w1, .lst true true 0 []], [.row 5 true false w2], []⟩) (fun w0 w1 w2 w3 w4 w5 => K ⟨.agg [.i .i64 a0, .i .i64 a1, .i .i64 a2, .sl 0 w0 5 0 w1, .sl 1 w2 13 0 w3], [.row 5 true false w4, .row 13 true false w5], []⟩) := by kernel_rfl
theorem give_moved_ok (n : Nat) : EK.OK (give_moved_e n) 113 (L tab) := EK.shp (fun _ _ _ => rfl) fun ρ K y c e => EK.run (give_moved_Sok n) (by kernel_rfl) (MF.LKOK.of (LK.of (l := [give_moved_c5, give_moved_c10]) (by kernel_rfl) (List.forall_mem_cons.2 ⟨LE.at (e := give_moved_d5 (give_moved_g n) n) (by kernel_rfl) (give_moved_d5_ok n), List.forall_mem_cons.2 ⟨LE.at (e := give_moved_d10 (give_moved_g n) n) (by kernel_rfl) (give_moved_d10_ok n), (fun _ h => nomatch h)⟩⟩))) (give_moved_k (give_moved_g n) n _ _ _ _ _ _ _ _ _ _ _ K) (by kernel_rfl) e

end Go.Rv
/- functions as programs of ours, and their ties, part 4 -/
namespace Go.Rv
/-! reeve/give.done -/
abbrev give_done_T : Type 1 := (ρ : Type) → Int → Int → Int → Bool → Bool → Rows → Bool → Bool → Rows → Int → Int → Bool → Bool → Rows → Bool → Bool → Rows → Int → Int → Int → (Bool → Bool → Rows → Bool → Bool → Rows → Int → Option ρ) → (Nat → Nat → Rows → Option ρ) → (Nat → Nat → Nat → Nat → Rows → Rows → Option ρ) → Option ρ
def give_done_E (G : give_done_T) : EK := fun ρ args K => decL [.agg [.i .i64 none, .i .i64 none, .i .i64 none, .lst none none 5 none, .lst none none 13 none], .i .i64 none, .agg [.i .i64 none, .lst none none 1 none, .lst none none 1 none, .i .i64 none, .i .i64 none, .i .u64 none]] args fun c => G ρ c.1.1 c.1.2.1 c.1.2.2.1 c.1.2.2.2.1.1 c.1.2.2.2.1.2.1 c.1.2.2.2.1.2.2 c.1.2.2.2.2.1.1 c.1.2.2.2.2.1.2.1 c.1.2.2.2.2.1.2.2 c.2.1 c.2.2.1.1 c.2.2.1.2.1.1 c.2.2.1.2.1.2.1 c.2.2.1.2.1.2.2 c.2.2.1.2.2.1.1 c.2.2.1.2.2.1.2.1 c.2.2.1.2.2.1.2.2 c.2.2.1.2.2.2.1 c.2.2.1.2.2.2.2.1 c.2.2.1.2.2.2.2.2.1 (fun w0 w1 w2 w3 w4 w5 w6 => K ⟨.tup [.agg [.i .i64 c.1.1, .i .i64 c.1.2.1, .i .i64 c.1.2.2.1, .lst w0 w1 5 w2, .lst w3 w4 13 w5], .i .i64 w6], [], []⟩) (fun w0 w1 w2 => K ⟨.tup [.agg [.i .i64 c.1.1, .i .i64 c.1.2.1, .i .i64 c.1.2.2.1, .sl 0 w0 5 0 w1, .lst true true 0 []], .i .i64 0], [.row 5 true false w2], []⟩) (fun w0 w1 w2 w3 w4 w5 => K ⟨.tup [.agg [.i .i64 c.1.1, .i .i64 c.1.2.1, .i .i64 c.1.2.2.1, .sl 0 w0 5 0 w1, .sl 1 w2 13 0 w3], .i .i64 0], [.row 5 true false w4, .row 13 true false w5], []⟩)
structure give_done_G where
  mk ::
  call_Good : call_Good_T
  find_Cap : find_Cap_T
  cap_Cut : cap_Cut_T
  cap_Stamp : cap_Stamp_T
  find_Empty : find_Empty_T
  give_Put : give_Put_T
  give_ring : give_ring_T
  give_moved : give_moved_T
noncomputable def give_done_s (G : give_done_G) {ρ : Type} (_n : Nat) (a0 : Int) (a1 : Int) (a2 : Int) (a3 : Bool) (a4 : Bool) (a5 : Rows) (a6 : Bool) (a7 : Bool) (a8 : Rows) (a9 : Int) (a10 : Int) (a11 : Bool) (a12 : Bool) (a13 : Rows) (a14 : Bool) (a15 : Bool) (a16 : Rows) (a17 : Int) (a18 : Int) (a19 : Int) (k0 : (Bool → Bool → Rows → Bool → Bool → Rows → Int → Option ρ)) (k1 : (Nat → Nat → Rows → Option ρ)) (k2 : (Nat → Nat → Nat → Nat → Rows → Rows → Option ρ)) : Option ρ :=
  G.call_Good ρ a10 a11 a12 a13 a14 a15 a16 a17 a18 a19 (fun w0_0 =>
    bif w0_0 then
      bif ((a10 : Int) != 2) then
        bif ((a10 : Int) != 3) then
          bif ((a10 : Int) != 4) then
            k0 a3 a4 a5 a6 a7 a8 1
          else G.find_Cap ρ a0 a1 a2 a3 a4 a5 a6 a7 a8 a9 a11 a12 a13 (fun w1_0 w1_1 w1_2 w1_3 w1_4 w1_5 =>
            bif ((w1_5 : Int) != 0) then
              k0 a3 a4 a5 a6 a7 a8 w1_5
            else bif ((a10 : Int) != 4) then
              G.cap_Cut ρ w1_1 w1_2 w1_3 w1_4 a17 (fun w2_0 w2_1 w2_2 w2_3 =>
                bif ((a10 : Int) == 3) then
                  G.cap_Stamp ρ w2_0 w2_1 w2_2 w2_3 a18 (fun w3_0 w3_1 w3_2 w3_3 w3_4 =>
                    bif ((w3_4 : Int) != 0) then
                      k0 a3 a4 a5 a6 a7 a8 w3_4
                    else G.find_Empty ρ a0 a1 a2 a3 a4 a5 a6 a7 a8 a9 a14 a15 a16 (fun w4_0 w4_1 =>
                      bif ((w4_1 : Int) != 0) then
                        k0 a3 a4 a5 a6 a7 a8 w4_1
                      else bif ((a10 : Int) != 4) then
                        G.give_Put ρ a0 a1 a2 a3 a4 a5 a6 a7 a8 w1_0 w4_0 w3_0 w3_1 w3_2 w3_3 (fun w5_0 w5_1 w5_2 w5_3 w5_4 w5_5 w5_6 =>
                          k0 w5_0 w5_1 w5_2 w5_3 w5_4 w5_5 w5_6)
                      else G.give_ring ρ a0 a1 a2 a3 a4 a5 a6 a7 a8 w3_0 w3_1 w3_2 w3_3 w4_0 (fun w6_0 =>
                        bif w6_0 then
                          k0 a3 a4 a5 a6 a7 a8 1
                        else G.give_moved ρ a0 a1 a2 a3 a4 a5 a6 a7 a8 w1_0 w4_0 (fun w7_0 w7_1 w7_2 =>
                          k1 w7_0 w7_1 w7_2) (fun w8_0 w8_1 w8_2 w8_3 w8_4 w8_5 =>
                          k2 w8_0 w8_1 w8_2 w8_3 w8_4 w8_5))))
                else G.find_Empty ρ a0 a1 a2 a3 a4 a5 a6 a7 a8 a9 a14 a15 a16 (fun w9_0 w9_1 =>
                  bif ((w9_1 : Int) != 0) then
                    k0 a3 a4 a5 a6 a7 a8 w9_1
                  else bif ((a10 : Int) != 4) then
                    G.give_Put ρ a0 a1 a2 a3 a4 a5 a6 a7 a8 w1_0 w9_0 w2_0 w2_1 w2_2 w2_3 (fun w10_0 w10_1 w10_2 w10_3 w10_4 w10_5 w10_6 =>
                      k0 w10_0 w10_1 w10_2 w10_3 w10_4 w10_5 w10_6)
                  else G.give_ring ρ a0 a1 a2 a3 a4 a5 a6 a7 a8 w2_0 w2_1 w2_2 w2_3 w9_0 (fun w11_0 =>
                    bif w11_0 then
                      k0 a3 a4 a5 a6 a7 a8 1
                    else G.give_moved ρ a0 a1 a2 a3 a4 a5 a6 a7 a8 w1_0 w9_0 (fun w12_0 w12_1 w12_2 =>
                      k1 w12_0 w12_1 w12_2) (fun w13_0 w13_1 w13_2 w13_3 w13_4 w13_5 =>
                      k2 w13_0 w13_1 w13_2 w13_3 w13_4 w13_5))))
            else bif ((a10 : Int) == 3) then
              G.cap_Stamp ρ w1_1 w1_2 w1_3 w1_4 a18 (fun w14_0 w14_1 w14_2 w14_3 w14_4 =>
                bif ((w14_4 : Int) != 0) then
                  k0 a3 a4 a5 a6 a7 a8 w14_4
                else G.find_Empty ρ a0 a1 a2 a3 a4 a5 a6 a7 a8 a9 a14 a15 a16 (fun w15_0 w15_1 =>
                  bif ((w15_1 : Int) != 0) then
                    k0 a3 a4 a5 a6 a7 a8 w15_1
                  else bif ((a10 : Int) != 4) then
                    G.give_Put ρ a0 a1 a2 a3 a4 a5 a6 a7 a8 w1_0 w15_0 w14_0 w14_1 w14_2 w14_3 (fun w16_0 w16_1 w16_2 w16_3 w16_4 w16_5 w16_6 =>
                      k0 w16_0 w16_1 w16_2 w16_3 w16_4 w16_5 w16_6)
                  else G.give_ring ρ a0 a1 a2 a3 a4 a5 a6 a7 a8 w14_0 w14_1 w14_2 w14_3 w15_0 (fun w17_0 =>
                    bif w17_0 then
                      k0 a3 a4 a5 a6 a7 a8 1
                    else G.give_moved ρ a0 a1 a2 a3 a4 a5 a6 a7 a8 w1_0 w15_0 (fun w18_0 w18_1 w18_2 =>
                      k1 w18_0 w18_1 w18_2) (fun w19_0 w19_1 w19_2 w19_3 w19_4 w19_5 =>
                      k2 w19_0 w19_1 w19_2 w19_3 w19_4 w19_5))))
            else G.find_Empty ρ a0 a1 a2 a3 a4 a5 a6 a7 a8 a9 a14 a15 a16 (fun w20_0 w20_1 =>
              bif ((w20_1 : Int) != 0) then
                k0 a3 a4 a5 a6 a7 a8 w20_1
              else bif ((a10 : Int) != 4) then
                G.give_Put ρ a0 a1 a2 a3 a4 a5 a6 a7 a8 w1_0 w20_0 w1_1 w1_2 w1_3 w1_4 (fun w21_0 w21_1 w21_2 w21_3 w21_4 w21_5 w21_6 =>
                  k0 w21_0 w21_1 w21_2 w21_3 w21_4 w21_5 w21_6)
              else G.give_ring ρ a0 a1 a2 a3 a4 a5 a6 a7 a8 w1_1 w1_2 w1_3 w1_4 w20_0 (fun w22_0 =>
                bif w22_0 then
                  k0 a3 a4 a5 a6 a7 a8 1
                else G.give_moved ρ a0 a1 a2 a3 a4 a5 a6 a7 a8 w1_0 w20_0 (fun w23_0 w23_1 w23_2 =>
                  k1 w23_0 w23_1 w23_2) (fun w24_0 w24_1 w24_2 w24_3 w24_4 w24_5 =>
                  k2 w24_0 w24_1 w24_2 w24_3 w24_4 w24_5))))
        else G.find_Cap ρ a0 a1 a2 a3 a4 a5 a6 a7 a8 a9 a11 a12 a13 (fun w25_0 w25_1 w25_2 w25_3 w25_4 w25_5 =>
          bif ((w25_5 : Int) != 0) then
            k0 a3 a4 a5 a6 a7 a8 w25_5
          else bif ((a10 : Int) != 4) then
            G.cap_Cut ρ w25_1 w25_2 w25_3 w25_4 a17 (fun w26_0 w26_1 w26_2 w26_3 =>
              bif ((a10 : Int) == 3) then
                G.cap_Stamp ρ w26_0 w26_1 w26_2 w26_3 a18 (fun w27_0 w27_1 w27_2 w27_3 w27_4 =>
                  bif ((w27_4 : Int) != 0) then
                    k0 a3 a4 a5 a6 a7 a8 w27_4
                  else G.find_Empty ρ a0 a1 a2 a3 a4 a5 a6 a7 a8 a9 a14 a15 a16 (fun w28_0 w28_1 =>
                    bif ((w28_1 : Int) != 0) then
                      k0 a3 a4 a5 a6 a7 a8 w28_1
                    else bif ((a10 : Int) != 4) then
                      G.give_Put ρ a0 a1 a2 a3 a4 a5 a6 a7 a8 w25_0 w28_0 w27_0 w27_1 w27_2 w27_3 (fun w29_0 w29_1 w29_2 w29_3 w29_4 w29_5 w29_6 =>
                        k0 w29_0 w29_1 w29_2 w29_3 w29_4 w29_5 w29_6)
                    else G.give_ring ρ a0 a1 a2 a3 a4 a5 a6 a7 a8 w27_0 w27_1 w27_2 w27_3 w28_0 (fun w30_0 =>
                      bif w30_0 then
                        k0 a3 a4 a5 a6 a7 a8 1
                      else G.give_moved ρ a0 a1 a2 a3 a4 a5 a6 a7 a8 w25_0 w28_0 (fun w31_0 w31_1 w31_2 =>
                        k1 w31_0 w31_1 w31_2) (fun w32_0 w32_1 w32_2 w32_3 w32_4 w32_5 =>
                        k2 w32_0 w32_1 w32_2 w32_3 w32_4 w32_5))))
              else G.find_Empty ρ a0 a1 a2 a3 a4 a5 a6 a7 a8 a9 a14 a15 a16 (fun w33_0 w33_1 =>
                bif ((w33_1 : Int) != 0) then
                  k0 a3 a4 a5 a6 a7 a8 w33_1
                else bif ((a10 : Int) != 4) then
                  G.give_Put ρ a0 a1 a2 a3 a4 a5 a6 a7 a8 w25_0 w33_0 w26_0 w26_1 w26_2 w26_3 (fun w34_0 w34_1 w34_2 w34_3 w34_4 w34_5 w34_6 =>
                    k0 w34_0 w34_1 w34_2 w34_3 w34_4 w34_5 w34_6)
                else G.give_ring ρ a0 a1 a2 a3 a4 a5 a6 a7 a8 w26_0 w26_1 w26_2 w26_3 w33_0 (fun w35_0 =>
                  bif w35_0 then
                    k0 a3 a4 a5 a6 a7 a8 1
                  else G.give_moved ρ a0 a1 a2 a3 a4 a5 a6 a7 a8 w25_0 w33_0 (fun w36_0 w36_1 w36_2 =>
                    k1 w36_0 w36_1 w36_2) (fun w37_0 w37_1 w37_2 w37_3 w37_4 w37_5 =>
                    k2 w37_0 w37_1 w37_2 w37_3 w37_4 w37_5))))
          else bif ((a10 : Int) == 3) then
            G.cap_Stamp ρ w25_1 w25_2 w25_3 w25_4 a18 (fun w38_0 w38_1 w38_2 w38_3 w38_4 =>
              bif ((w38_4 : Int) != 0) then
                k0 a3 a4 a5 a6 a7 a8 w38_4
              else G.find_Empty ρ a0 a1 a2 a3 a4 a5 a6 a7 a8 a9 a14 a15 a16 (fun w39_0 w39_1 =>
                bif ((w39_1 : Int) != 0) then
                  k0 a3 a4 a5 a6 a7 a8 w39_1
                else bif ((a10 : Int) != 4) then
                  G.give_Put ρ a0 a1 a2 a3 a4 a5 a6 a7 a8 w25_0 w39_0 w38_0 w38_1 w38_2 w38_3 (fun w40_0 w40_1 w40_2 w40_3 w40_4 w40_5 w40_6 =>
                    k0 w40_0 w40_1 w40_2 w40_3 w40_4 w40_5 w40_6)
                else G.give_ring ρ a0 a1 a2 a3 a4 a5 a6 a7 a8 w38_0 w38_1 w38_2 w38_3 w39_0 (fun w41_0 =>
                  bif w41_0 then
                    k0 a3 a4 a5 a6 a7 a8 1
                  else G.give_moved ρ a0 a1 a2 a3 a4 a5 a6 a7 a8 w25_0 w39_0 (fun w42_0 w42_1 w42_2 =>
                    k1 w42_0 w42_1 w42_2) (fun w43_0 w43_1 w43_2 w43_3 w43_4 w43_5 =>
                    k2 w43_0 w43_1 w43_2 w43_3 w43_4 w43_5))))
          else G.find_Empty ρ a0 a1 a2 a3 a4 a5 a6 a7 a8 a9 a14 a15 a16 (fun w44_0 w44_1 =>
            bif ((w44_1 : Int) != 0) then
              k0 a3 a4 a5 a6 a7 a8 w44_1
            else bif ((a10 : Int) != 4) then
              G.give_Put ρ a0 a1 a2 a3 a4 a5 a6 a7 a8 w25_0 w44_0 w25_1 w25_2 w25_3 w25_4 (fun w45_0 w45_1 w45_2 w45_3 w45_4 w45_5 w45_6 =>
                k0 w45_0 w45_1 w45_2 w45_3 w45_4 w45_5 w45_6)
            else G.give_ring ρ a0 a1 a2 a3 a4 a5 a6 a7 a8 w25_1 w25_2 w25_3 w25_4 w44_0 (fun w46_0 =>
              bif w46_0 then
                k0 a3 a4 a5 a6 a7 a8 1
              else G.give_moved ρ a0 a1 a2 a3 a4 a5 a6 a7 a8 w25_0 w44_0 (fun w47_0 w47_1 w47_2 =>
                k1 w47_0 w47_1 w47_2) (fun w48_0 w48_1 w48_2 w48_3 w48_4 w48_5 =>
                k2 w48_0 w48_1 w48_2 w48_3 w48_4 w48_5))))
      else G.find_Cap ρ a0 a1 a2 a3 a4 a5 a6 a7 a8 a9 a11 a12 a13 (fun w49_0 w49_1 w49_2 w49_3 w49_4 w49_5 =>
        bif ((w49_5 : Int) != 0) then
          k0 a3 a4 a5 a6 a7 a8 w49_5
        else bif ((a10 : Int) != 4) then
          G.cap_Cut ρ w49_1 w49_2 w49_3 w49_4 a17 (fun w50_0 w50_1 w50_2 w50_3 =>
            bif ((a10 : Int) == 3) then
              G.cap_Stamp ρ w50_0 w50_1 w50_2 w50_3 a18 (fun w51_0 w51_1 w51_2 w51_3 w51_4 =>
                bif ((w51_4 : Int) != 0) then
                  k0 a3 a4 a5 a6 a7 a8 w51_4
                else G.find_Empty ρ a0 a1 a2 a3 a4 a5 a6 a7 a8 a9 a14 a15 a16 (fun w52_0 w52_1 =>
                  bif ((w52_1 : Int) != 0) then
                    k0 a3 a4 a5 a6 a7 a8 w52_1
                  else bif ((a10 : Int) != 4) then
                    G.give_Put ρ a0 a1 a2 a3 a4 a5 a6 a7 a8 w49_0 w52_0 w51_0 w51_1 w51_2 w51_3 (fun w53_0 w53_1 w53_2 w53_3 w53_4 w53_5 w53_6 =>
                      k0 w53_0 w53_1 w53_2 w53_3 w53_4 w53_5 w53_6)
                  else G.give_ring ρ a0 a1 a2 a3 a4 a5 a6 a7 a8 w51_0 w51_1 w51_2 w51_3 w52_0 (fun w54_0 =>
                    bif w54_0 then
                      k0 a3 a4 a5 a6 a7 a8 1
                    else G.give_moved ρ a0 a1 a2 a3 a4 a5 a6 a7 a8 w49_0 w52_0 (fun w55_0 w55_1 w55_2 =>
                      k1 w55_0 w55_1 w55_2) (fun w56_0 w56_1 w56_2 w56_3 w56_4 w56_5 =>
                      k2 w56_0 w56_1 w56_2 w56_3 w56_4 w56_5))))
            else G.find_Empty ρ a0 a1 a2 a3 a4 a5 a6 a7 a8 a9 a14 a15 a16 (fun w57_0 w57_1 =>
              bif ((w57_1 : Int) != 0) then
                k0 a3 a4 a5 a6 a7 a8 w57_1
              else bif ((a10 : Int) != 4) then
                G.give_Put ρ a0 a1 a2 a3 a4 a5 a6 a7 a8 w49_0 w57_0 w50_0 w50_1 w50_2 w50_3 (fun w58_0 w58_1 w58_2 w58_3 w58_4 w58_5 w58_6 =>
                  k0 w58_0 w58_1 w58_2 w58_3 w58_4 w58_5 w58_6)
              else G.give_ring ρ a0 a1 a2 a3 a4 a5 a6 a7 a8 w50_0 w50_1 w50_2 w50_3 w57_0 (fun w59_0 =>
                bif w59_0 then
                  k0 a3 a4 a5 a6 a7 a8 1
                else G.give_moved ρ a0 a1 a2 a3 a4 a5 a6 a7 a8 w49_0 w57_0 (fun w60_0 w60_1 w60_2 =>
                  k1 w60_0 w60_1 w60_2) (fun w61_0 w61_1 w61_2 w61_3 w61_4 w61_5 =>
                  k2 w61_0 w61_1 w61_2 w61_3 w61_4 w61_5))))
        else bif ((a10 : Int) == 3) then
          G.cap_Stamp ρ w49_1 w49_2 w49_3 w49_4 a18 (fun w62_0 w62_1 w62_2 w62_3 w62_4 =>
            bif ((w62_4 : Int) != 0) then
              k0 a3 a4 a5 a6 a7 a8 w62_4
            else G.find_Empty ρ a0 a1 a2 a3 a4 a5 a6 a7 a8 a9 a14 a15 a16 (fun w63_0 w63_1 =>
              bif ((w63_1 : Int) != 0) then
                k0 a3 a4 a5 a6 a7 a8 w63_1
              else bif ((a10 : Int) != 4) then
                G.give_Put ρ a0 a1 a2 a3 a4 a5 a6 a7 a8 w49_0 w63_0 w62_0 w62_1 w62_2 w62_3 (fun w64_0 w64_1 w64_2 w64_3 w64_4 w64_5 w64_6 =>
                  k0 w64_0 w64_1 w64_2 w64_3 w64_4 w64_5 w64_6)
              else G.give_ring ρ a0 a1 a2 a3 a4 a5 a6 a7 a8 w62_0 w62_1 w62_2 w62_3 w63_0 (fun w65_0 =>
                bif w65_0 then
                  k0 a3 a4 a5 a6 a7 a8 1
                else G.give_moved ρ a0 a1 a2 a3 a4 a5 a6 a7 a8 w49_0 w63_0 (fun w66_0 w66_1 w66_2 =>
                  k1 w66_0 w66_1 w66_2) (fun w67_0 w67_1 w67_2 w67_3 w67_4 w67_5 =>
                  k2 w67_0 w67_1 w67_2 w67_3 w67_4 w67_5))))
        else G.find_Empty ρ a0 a1 a2 a3 a4 a5 a6 a7 a8 a9 a14 a15 a16 (fun w68_0 w68_1 =>
          bif ((w68_1 : Int) != 0) then
            k0 a3 a4 a5 a6 a7 a8 w68_1
          else bif ((a10 : Int) != 4) then
            G.give_Put ρ a0 a1 a2 a3 a4 a5 a6 a7 a8 w49_0 w68_0 w49_1 w49_2 w49_3 w49_4 (fun w69_0 w69_1 w69_2 w69_3 w69_4 w69_5 w69_6 =>
              k0 w69_0 w69_1 w69_2 w69_3 w69_4 w69_5 w69_6)
          else G.give_ring ρ a0 a1 a2 a3 a4 a5 a6 a7 a8 w49_1 w49_2 w49_3 w49_4 w68_0 (fun w70_0 =>
            bif w70_0 then
              k0 a3 a4 a5 a6 a7 a8 1
            else G.give_moved ρ a0 a1 a2 a3 a4 a5 a6 a7 a8 w49_0 w68_0 (fun w71_0 w71_1 w71_2 =>
              k1 w71_0 w71_1 w71_2) (fun w72_0 w72_1 w72_2 w72_3 w72_4 w72_5 =>
              k2 w72_0 w72_1 w72_2 w72_3 w72_4 w72_5))))
    else k0 a3 a4 a5 a6 a7 a8 1)
noncomputable def give_done_g (n : Nat) : give_done_G := ⟨call_Good n, find_Cap n, cap_Cut n, cap_Stamp n, find_Empty n, give_Put n, give_ring n, give_moved n⟩
noncomputable def give_done (n : Nat) : give_done_T := fun _ρ a0 a1 a2 a3 a4 a5 a6 a7 a8 a9 a10 a11 a12 a13 a14 a15 a16 a17 a18 a19 k0 k1 k2 => give_done_s (give_done_g n) n a0 a1 a2 a3 a4 a5 a6 a7 a8 a9 a10 a11 a12 a13 a14 a15 a16 a17 a18 a19 k0 k1 k2
noncomputable def give_done_e (n : Nat) : EK := give_done_E (give_done n)
def give_done_S (G : give_done_G) : CK := tabS [(77, call_Good_E G.call_Good), (78, find_Cap_E G.find_Cap), (111, cap_Cut_E G.cap_Cut), (112, cap_Stamp_E G.cap_Stamp), (80, find_Empty_E G.find_Empty), (26, give_Put_E G.give_Put), (53, give_ring_E G.give_ring), (113, give_moved_E G.give_moved)]
theorem give_done_Sok (n : Nat) : CK.OK (give_done_S (give_done_g n)) (L tab) := tabS_ok _ (List.forall_mem_cons.2 ⟨(call_Good_ok n), List.forall_mem_cons.2 ⟨(find_Cap_ok n), List.forall_mem_cons.2 ⟨(cap_Cut_ok n), List.forall_mem_cons.2 ⟨(cap_Stamp_ok n), List.forall_mem_cons.2 ⟨(find_Empty_ok n), List.forall_mem_cons.2 ⟨(give_Put_ok n), List.forall_mem_cons.2 ⟨(give_ring_ok n), List.forall_mem_cons.2 ⟨(give_moved_ok n), (fun _ h => nomatch h)⟩⟩⟩⟩⟩⟩⟩⟩)
def give_done_hs : HintC := hintL []
noncomputable def give_done_lp (_G : give_done_G) (_n : Nat) : LK := tabL []
theorem give_done_k (G : give_done_G) {ρ : Type} (n : Nat) (a0 : Int) (a1 : Int) (a2 : Int) (a3 : Bool) (a4 : Bool) (a5 : Rows) (a6 : Bool) (a7 : Bool) (a8 : Rows) (a9 : Int) (a10 : Int) (a11 : Bool) (a12 : Bool) (a13 : Rows) (a14 : Bool) (a15 : Bool) (a16 : Rows) (a17 : Int) (a18 : Int) (a19 : Int) (K : Res → Option ρ) : runC (give_done_S G) give_done_hs (give_done_lp G n) m86 [.agg [.i .i64 a0, .i .i64 a1, .i .i64 a2, .lst a3 a4 5 a5, .lst a6 a7 13 a8], .i .i64 a9, .agg [.i .i64 a10, .lst a11 a12 1 a13, .lst a14 a15 1 a16, .i .i64 a17, .i .i64 a18, .i .u64 a19]] K = give_done_s G n a0 a1 a2 a3 a4 a5 a6 a7 a8 a9 a10 a11 a12 a13 a14 a15 a16 a17 a18 a19 (fun w0 w1 w2 w3 w4 w5 w6 => K ⟨.tup [.agg [.i .i64 a0, .i .i64 a1, .i .i64 a2, .lst w0 w1 5 w2, .lst w3 w4 13 w5], .i .i64 w6], [], []⟩) (fun w0 w1 w2 => K ⟨.tup [.agg [.i .i64 a0, .i .i64 a1, .i .i64 a2, .sl 0 w0 5 0 w1, .lst true true 0 []], .i .i64 0], [.row 5 true false w2], []⟩) (fun w0 w1 w2 w3 w4 w5 => K ⟨.tup [.agg [.i .i64 a0, .i .i64 a1, .i .i64 a2, .sl 0 w0 5 0 w1, .sl 1 w2 13 0 w3], .i .i64 0], [.row 5 true false w4, .row 13 true false w5], []⟩) := by kernel_rfl
theorem give_done_ok (n : Nat) : EK.OK (give_done_e n) 86 (L tab) := EK.shp (fun _ _ _ => rfl) fun ρ K y c e => EK.run (give_done_Sok n) (by kernel_rfl) (MF.LKOK.of (LK.of (l := []) (by kernel_rfl) ((fun _ h => nomatch h)))) (give_done_k (give_done_g n) n _ _ _ _ _ _ _ _ _ _ _ _ _ _ _ _ _ _ _ _ K) (by kernel_rfl) e

/-! reeve/give.Do -/
abbrev give_Do_T : Type 1 := (ρ : Type) → Int → Int → Int → Bool → Bool → Rows → Bool → Bool → Rows → Int → Int → Bool → Bool → Rows → Bool → Bool → Rows → Int → Int → Int → (Bool → Bool → Rows → Bool → Bool → Rows → Int → Option ρ) → Option ρ
def give_Do_E (G : give_Do_T) : EK := fun ρ args K => decL [.agg [.i .i64 none, .i .i64 none, .i .i64 none, .lst none none 5 none, .lst none none 13 none], .i .i64 none, .agg [.i .i64 none, .lst none none 1 none, .lst none none 1 none, .i .i64 none, .i .i64 none, .i .u64 none]] args fun c => G ρ c.1.1 c.1.2.1 c.1.2.2.1 c.1.2.2.2.1.1 c.1.2.2.2.1.2.1 c.1.2.2.2.1.2.2 c.1.2.2.2.2.1.1 c.1.2.2.2.2.1.2.1 c.1.2.2.2.2.1.2.2 c.2.1 c.2.2.1.1 c.2.2.1.2.1.1 c.2.2.1.2.1.2.1 c.2.2.1.2.1.2.2 c.2.2.1.2.2.1.1 c.2.2.1.2.2.1.2.1 c.2.2.1.2.2.1.2.2 c.2.2.1.2.2.2.1 c.2.2.1.2.2.2.2.1 c.2.2.1.2.2.2.2.2.1 (fun w0 w1 w2 w3 w4 w5 w6 => K ⟨.tup [.agg [.i .i64 c.1.1, .i .i64 c.1.2.1, .i .i64 c.1.2.2.1, .lst w0 w1 5 w2, .lst w3 w4 13 w5], .agg [.i .i64 w6, .i .u64 0, .i .i64 0]], [], []⟩)
structure give_Do_G where
  mk ::
  give_done : give_done_T
noncomputable def give_Do_s (G : give_Do_G) {ρ : Type} (_n : Nat) (a0 : Int) (a1 : Int) (a2 : Int) (a3 : Bool) (a4 : Bool) (a5 : Rows) (a6 : Bool) (a7 : Bool) (a8 : Rows) (a9 : Int) (a10 : Int) (a11 : Bool) (a12 : Bool) (a13 : Rows) (a14 : Bool) (a15 : Bool) (a16 : Rows) (a17 : Int) (a18 : Int) (a19 : Int) (k0 : (Bool → Bool → Rows → Bool → Bool → Rows → Int → Option ρ)) : Option ρ :=
  G.give_done ρ a0 a1 a2 a3 a4 a5 a6 a7 a8 a9 a10 a11 a12 a13 a14 a15 a16 a17 a18 a19 (fun w0_0 w0_1 w0_2 w0_3 w0_4 w0_5 w0_6 =>
    bif ((w0_6 : Int) != 0) then
      k0 a3 a4 a5 a6 a7 a8 w0_6
    else k0 w0_0 w0_1 w0_2 w0_3 w0_4 w0_5 0) (fun w1_0 w1_1 w1_2 =>
    chk (((List.length (w1_2 : Rows)) : Nat) == w1_0) <|
    k0 false false (List.take w1_1 (List.drop 0 (w1_2 : Rows))) true true [] 0) (fun w2_0 w2_1 w2_2 w2_3 w2_4 w2_5 =>
    chk (((List.length (w2_4 : Rows)) : Nat) == w2_0) <|
    chk (((List.length (w2_5 : Rows)) : Nat) == w2_2) <|
    k0 false false (List.take w2_1 (List.drop 0 (w2_4 : Rows))) false false (List.take w2_3 (List.drop 0 (w2_5 : Rows))) 0)
noncomputable def give_Do_g (n : Nat) : give_Do_G := ⟨give_done n⟩
noncomputable def give_Do (n : Nat) : give_Do_T := fun _ρ a0 a1 a2 a3 a4 a5 a6 a7 a8 a9 a10 a11 a12 a13 a14 a15 a16 a17 a18 a19 k0 => give_Do_s (give_Do_g n) n a0 a1 a2 a3 a4 a5 a6 a7 a8 a9 a10 a11 a12 a13 a14 a15 a16 a17 a18 a19 k0
noncomputable def give_Do_e (n : Nat) : EK := give_Do_E (give_Do n)
def give_Do_S (G : give_Do_G) : CK := tabS [(86, give_done_E G.give_done)]
theorem give_Do_Sok (n : Nat) : CK.OK (give_Do_S (give_Do_g n)) (L tab) := tabS_ok _ (List.forall_mem_cons.2 ⟨(give_done_ok n), (fun _ h => nomatch h)⟩)
def give_Do_hs : HintC := hintL []
noncomputable def give_Do_lp (_G : give_Do_G) (_n : Nat) : LK := tabL []
theorem give_Do_k (G : give_Do_G) {ρ : Type} (n : Nat) (a0 : Int) (a1 : Int) (a2 : Int) (a3 : Bool) (a4 : Bool) (a5 : Rows) (a6 : Bool) (a7 : Bool) (a8 : Rows) (a9 : Int) (a10 : Int) (a11 : Bool) (a12 : Bool) (a13 : Rows) (a14 : Bool) (a15 : Bool) (a16 : Rows) (a17 : Int) (a18 : Int) (a19 : Int) (K : Res → Option ρ) : runC (give_Do_S G) give_Do_hs (give_Do_lp G n) m49 [.agg [.i .i64 a0, .i .i64 a1, .i .i64 a2, .lst a3 a4 5 a5, .lst a6 a7 13 a8], .i .i64 a9, .agg [.i .i64 a10, .lst a11 a12 1 a13, .lst a14 a15 1 a16, .i .i64 a17, .i .i64 a18, .i .u64 a19]] K = give_Do_s G n a0 a1 a2 a3 a4 a5 a6 a7 a8 a9 a10 a11 a12 a13 a14 a15 a16 a17 a18 a19 (fun w0 w1 w2 w3 w4 w5 w6 => K ⟨.tup [.agg [.i .i64 a0, .i .i64 a1, .i .i64 a2, .lst w0 w1 5 w2, .lst w3 w4 13 w5], .agg [.i .i64 w6, .i .u64 0, .i .i64 0]], [], []⟩) := by kernel_rfl
theorem give_Do_ok (n : Nat) : EK.OK (give_Do_e n) 49 (L tab) := EK.shp (fun _ _ _ => rfl) fun ρ K y c e => EK.run (give_Do_Sok n) (by kernel_rfl) (MF.LKOK.of (LK.of (l := []) (by kernel_rfl) ((fun _ h => nomatch h)))) (give_Do_k (give_Do_g n) n _ _ _ _ _ _ _ _ _ _ _ _ _ _ _ _ _ _ _ _ K) (by kernel_rfl) e

/-! reeve/reevelaw16.awake -/
abbrev reevelaw16_awake_T : Type 1 := (ρ : Type) → (Bool → Option ρ) → Option ρ
def reevelaw16_awake_E (G : reevelaw16_awake_T) : EK := fun ρ args K => decL [] args fun _c => G ρ (fun w0 => K ⟨.b w0, [], []⟩)
structure reevelaw16_awake_G where
  mk ::
  reevelaw16_first : reevelaw16_first_T
  reevelaw16_way : reevelaw16_way_T
  give_Do : give_Do_T
noncomputable def reevelaw16_awake_s (G : reevelaw16_awake_G) {ρ : Type} (_n : Nat)  (k0 : (Bool → Option ρ)) : Option ρ :=
  G.reevelaw16_first ρ (fun w0_0 w0_1 w0_2 w0_3 w0_4 w0_5 w0_6 w0_7 w0_8 =>
    G.reevelaw16_way ρ false false ([[.i .i64 1]]) (bif stayR ⟨.agg [.lst false false 1 ([[.i .i64 1]])], [], []⟩ then
        G.reevelaw16_way ρ false false ([[.i .i64 2]]) (bif stayR ⟨.agg [.lst false false 1 ([[.i .i64 2]])], [], []⟩ then
            G.give_Do ρ w0_0 w0_1 w0_2 w0_3 w0_4 w0_5 w0_6 w0_7 w0_8 0 2 false false ([[.i .i64 1]]) false false ([[.i .i64 2]]) 1 0 0 (fun _w3_0 _w3_1 w3_2 _w3_3 _w3_4 _w3_5 w3_6 =>
              bif (((w3_6 : Int) == 0) && true) then
                bif (((((List.length (w3_2 : Rows)) : Nat) : Int) : Int) == 32) then
                  rowT [.i .i64, .i .i64, .i .i64, .i .i64, .i .i64] w3_2 2 fun c4 =>
                  bif (((c4.1 : Int) == 3) && (((c4.2.1 : Int) == 1) && (((c4.2.2.1 : Int) == 1) && (((c4.2.2.2.1 : Int) == 0) && (((c4.2.2.2.2.1 : Int) == 1) && true))))) then
                    k0 true
                  else k0 false
                else k0 false
              else k0 false)
          else G.give_Do ρ w0_0 w0_1 w0_2 w0_3 w0_4 w0_5 w0_6 w0_7 w0_8 0 2 false false ([[.i .i64 1]]) false false ([[.i .i64 2]]) 1 0 0 (fun _w5_0 _w5_1 w5_2 _w5_3 _w5_4 _w5_5 w5_6 =>
            bif (((w5_6 : Int) == 0) && true) then
              bif (((((List.length (w5_2 : Rows)) : Nat) : Int) : Int) == 32) then
                rowT [.i .i64, .i .i64, .i .i64, .i .i64, .i .i64] w5_2 2 fun c6 =>
                bif (((c6.1 : Int) == 3) && (((c6.2.1 : Int) == 1) && (((c6.2.2.1 : Int) == 1) && (((c6.2.2.2.1 : Int) == 0) && (((c6.2.2.2.2.1 : Int) == 1) && true))))) then
                  k0 true
                else k0 false
              else k0 false
            else k0 false))
      else G.reevelaw16_way ρ false false ([[.i .i64 2]]) (bif stayR ⟨.agg [.lst false false 1 ([[.i .i64 2]])], [], []⟩ then
          G.give_Do ρ w0_0 w0_1 w0_2 w0_3 w0_4 w0_5 w0_6 w0_7 w0_8 0 2 false false ([[.i .i64 1]]) false false ([[.i .i64 2]]) 1 0 0 (fun _w8_0 _w8_1 w8_2 _w8_3 _w8_4 _w8_5 w8_6 =>
            bif (((w8_6 : Int) == 0) && true) then
              bif (((((List.length (w8_2 : Rows)) : Nat) : Int) : Int) == 32) then
                rowT [.i .i64, .i .i64, .i .i64, .i .i64, .i .i64] w8_2 2 fun c9 =>
                bif (((c9.1 : Int) == 3) && (((c9.2.1 : Int) == 1) && (((c9.2.2.1 : Int) == 1) && (((c9.2.2.2.1 : Int) == 0) && (((c9.2.2.2.2.1 : Int) == 1) && true))))) then
                  k0 true
                else k0 false
              else k0 false
            else k0 false)
        else G.give_Do ρ w0_0 w0_1 w0_2 w0_3 w0_4 w0_5 w0_6 w0_7 w0_8 0 2 false false ([[.i .i64 1]]) false false ([[.i .i64 2]]) 1 0 0 (fun _w10_0 _w10_1 w10_2 _w10_3 _w10_4 _w10_5 w10_6 =>
          bif (((w10_6 : Int) == 0) && true) then
            bif (((((List.length (w10_2 : Rows)) : Nat) : Int) : Int) == 32) then
              rowT [.i .i64, .i .i64, .i .i64, .i .i64, .i .i64] w10_2 2 fun c11 =>
              bif (((c11.1 : Int) == 3) && (((c11.2.1 : Int) == 1) && (((c11.2.2.1 : Int) == 1) && (((c11.2.2.2.1 : Int) == 0) && (((c11.2.2.2.2.1 : Int) == 1) && true))))) then
                k0 true
              else k0 false
            else k0 false
          else k0 false))))
noncomputable def reevelaw16_awake_g (n : Nat) : reevelaw16_awake_G := ⟨reevelaw16_first n, reevelaw16_way n, give_Do n⟩
noncomputable def reevelaw16_awake (n : Nat) : reevelaw16_awake_T := fun _ρ k0 => reevelaw16_awake_s (reevelaw16_awake_g n) n k0
noncomputable def reevelaw16_awake_e (n : Nat) : EK := reevelaw16_awake_E (reevelaw16_awake n)
def reevelaw16_awake_S (G : reevelaw16_awake_G) : CK := tabS [(23, reevelaw16_first_E G.reevelaw16_first), (25, reevelaw16_way_E G.reevelaw16_way), (49, give_Do_E G.give_Do)]
theorem reevelaw16_awake_Sok (n : Nat) : CK.OK (reevelaw16_awake_S (reevelaw16_awake_g n)) (L tab) := tabS_ok _ (List.forall_mem_cons.2 ⟨(reevelaw16_first_ok n), List.forall_mem_cons.2 ⟨(reevelaw16_way_ok n), List.forall_mem_cons.2 ⟨(give_Do_ok n), (fun _ h => nomatch h)⟩⟩⟩)
def reevelaw16_awake_hs : HintC := hintL [(25, [.i .i64, .i .i64, .i .i64, .i .i64, .i .i64])]
noncomputable def reevelaw16_awake_lp (_G : reevelaw16_awake_G) (_n : Nat) : LK := tabL []
theorem reevelaw16_awake_k (G : reevelaw16_awake_G) {ρ : Type} (n : Nat)  (K : Res → Option ρ) : runC (reevelaw16_awake_S G) reevelaw16_awake_hs (reevelaw16_awake_lp G n) m22 [] K = reevelaw16_awake_s G n  (fun w0 => K ⟨.b w0, [], []⟩) := by kernel_rfl
theorem reevelaw16_awake_ok (n : Nat) : EK.OK (reevelaw16_awake_e n) 22 (L tab) := EK.shp (fun _ _ _ => rfl) fun ρ K y c e => EK.run (reevelaw16_awake_Sok n) (by kernel_rfl) (MF.LKOK.of (LK.of (l := []) (by kernel_rfl) ((fun _ h => nomatch h)))) (reevelaw16_awake_k (reevelaw16_awake_g n) n  K) (by kernel_rfl) e

/-! reeve/reevelaw16.does -/
abbrev reevelaw16_does_T : Type 1 := (ρ : Type) → Int → Int → Int → Bool → Bool → Rows → Bool → Bool → Rows → Int → Bool → Bool → Rows → Bool → Bool → Rows → Int → Int → (Bool → Bool → Rows → Bool → Bool → Rows → Int → Option ρ) → Option ρ
def reevelaw16_does_E (G : reevelaw16_does_T) : EK := fun ρ args K => decL [.agg [.i .i64 none, .i .i64 none, .i .i64 none, .lst none none 5 none, .lst none none 13 none], .i .i64 none, .agg [.lst none none 1 none], .agg [.lst none none 1 none], .i .i64 none, .i .i64 none] args fun c => G ρ c.1.1 c.1.2.1 c.1.2.2.1 c.1.2.2.2.1.1 c.1.2.2.2.1.2.1 c.1.2.2.2.1.2.2 c.1.2.2.2.2.1.1 c.1.2.2.2.2.1.2.1 c.1.2.2.2.2.1.2.2 c.2.1 c.2.2.1.1.1 c.2.2.1.1.2.1 c.2.2.1.1.2.2 c.2.2.2.1.1.1 c.2.2.2.1.1.2.1 c.2.2.2.1.1.2.2 c.2.2.2.2.1 c.2.2.2.2.2.1 (fun w0 w1 w2 w3 w4 w5 w6 => K ⟨.tup [.agg [.i .i64 c.1.1, .i .i64 c.1.2.1, .i .i64 c.1.2.2.1, .lst w0 w1 5 w2, .lst w3 w4 13 w5], .i .i64 w6], [], []⟩)
structure reevelaw16_does_G where
  mk ::
  give_Do : give_Do_T
noncomputable def reevelaw16_does_s (G : reevelaw16_does_G) {ρ : Type} (_n : Nat) (a0 : Int) (a1 : Int) (a2 : Int) (a3 : Bool) (a4 : Bool) (a5 : Rows) (a6 : Bool) (a7 : Bool) (a8 : Rows) (a9 : Int) (a10 : Bool) (a11 : Bool) (a12 : Rows) (a13 : Bool) (a14 : Bool) (a15 : Rows) (a16 : Int) (a17 : Int) (k0 : (Bool → Bool → Rows → Bool → Bool → Rows → Int → Option ρ)) : Option ρ :=
  G.give_Do ρ a0 a1 a2 a3 a4 a5 a6 a7 a8 0 a9 a10 a11 a12 a13 a14 a15 a16 a17 0 (fun w0_0 w0_1 w0_2 w0_3 w0_4 w0_5 w0_6 =>
    k0 w0_0 w0_1 w0_2 w0_3 w0_4 w0_5 w0_6)
noncomputable def reevelaw16_does_g (n : Nat) : reevelaw16_does_G := ⟨give_Do n⟩
noncomputable def reevelaw16_does (n : Nat) : reevelaw16_does_T := fun _ρ a0 a1 a2 a3 a4 a5 a6 a7 a8 a9 a10 a11 a12 a13 a14 a15 a16 a17 k0 => reevelaw16_does_s (reevelaw16_does_g n) n a0 a1 a2 a3 a4 a5 a6 a7 a8 a9 a10 a11 a12 a13 a14 a15 a16 a17 k0
noncomputable def reevelaw16_does_e (n : Nat) : EK := reevelaw16_does_E (reevelaw16_does n)
def reevelaw16_does_S (G : reevelaw16_does_G) : CK := tabS [(49, give_Do_E G.give_Do)]
theorem reevelaw16_does_Sok (n : Nat) : CK.OK (reevelaw16_does_S (reevelaw16_does_g n)) (L tab) := tabS_ok _ (List.forall_mem_cons.2 ⟨(give_Do_ok n), (fun _ h => nomatch h)⟩)
def reevelaw16_does_hs : HintC := hintL []
noncomputable def reevelaw16_does_lp (_G : reevelaw16_does_G) (_n : Nat) : LK := tabL []
theorem reevelaw16_does_k (G : reevelaw16_does_G) {ρ : Type} (n : Nat) (a0 : Int) (a1 : Int) (a2 : Int) (a3 : Bool) (a4 : Bool) (a5 : Rows) (a6 : Bool) (a7 : Bool) (a8 : Rows) (a9 : Int) (a10 : Bool) (a11 : Bool) (a12 : Rows) (a13 : Bool) (a14 : Bool) (a15 : Rows) (a16 : Int) (a17 : Int) (K : Res → Option ρ) : runC (reevelaw16_does_S G) reevelaw16_does_hs (reevelaw16_does_lp G n) m24 [.agg [.i .i64 a0, .i .i64 a1, .i .i64 a2, .lst a3 a4 5 a5, .lst a6 a7 13 a8], .i .i64 a9, .agg [.lst a10 a11 1 a12], .agg [.lst a13 a14 1 a15], .i .i64 a16, .i .i64 a17] K = reevelaw16_does_s G n a0 a1 a2 a3 a4 a5 a6 a7 a8 a9 a10 a11 a12 a13 a14 a15 a16 a17 (fun w0 w1 w2 w3 w4 w5 w6 => K ⟨.tup [.agg [.i .i64 a0, .i .i64 a1, .i .i64 a2, .lst w0 w1 5 w2, .lst w3 w4 13 w5], .i .i64 w6], [], []⟩) := by kernel_rfl
theorem reevelaw16_does_ok (n : Nat) : EK.OK (reevelaw16_does_e n) 24 (L tab) := EK.shp (fun _ _ _ => rfl) fun ρ K y c e => EK.run (reevelaw16_does_Sok n) (by kernel_rfl) (MF.LKOK.of (LK.of (l := []) (by kernel_rfl) ((fun _ h => nomatch h)))) (reevelaw16_does_k (reevelaw16_does_g n) n _ _ _ _ _ _ _ _ _ _ _ _ _ _ _ _ _ _ K) (by kernel_rfl) e

/-! reeve/path.Good -/
abbrev path_Good_i1_T : Type 1 := (ρ : Type) → Bool → Bool → (Option ρ) → Option ρ
def path_Good_i1_E (G : path_Good_i1_T) : EK := fun ρ args K => decL [.agg [.lst none none 0 (some [])]] args fun c => G ρ c.1.1.1 c.1.1.2.1 (K ⟨.b false, [], []⟩)
structure path_Good_i1_G where
  mk ::
noncomputable def path_Good_i1_s (_G : path_Good_i1_G) {ρ : Type} (_n : Nat) (_a0 : Bool) (_a1 : Bool) (k0 : (Option ρ)) : Option ρ :=
  k0
noncomputable def path_Good_i1_g (_n : Nat) : path_Good_i1_G := ⟨⟩
noncomputable def path_Good_i1 (n : Nat) : path_Good_i1_T := fun _ρ a0 a1 k0 => path_Good_i1_s (path_Good_i1_g n) n a0 a1 k0
noncomputable def path_Good_i1_e (n : Nat) : EK := path_Good_i1_E (path_Good_i1 n)
def path_Good_i1_S (_G : path_Good_i1_G) : CK := tabS []
theorem path_Good_i1_Sok (n : Nat) : CK.OK (path_Good_i1_S (path_Good_i1_g n)) (L tab) := tabS_ok _ ((fun _ h => nomatch h))
def path_Good_i1_hs : HintC := hintL []
noncomputable def path_Good_i1_lp (_G : path_Good_i1_G) (_n : Nat) : LK := tabL []
theorem path_Good_i1_k (G : path_Good_i1_G) {ρ : Type} (n : Nat) (a0 : Bool) (a1 : Bool) (K : Res → Option ρ) : runC (path_Good_i1_S G) path_Good_i1_hs (path_Good_i1_lp G n) m104 [.agg [.lst a0 a1 0 []]] K = path_Good_i1_s G n a0 a1 (K ⟨.b false, [], []⟩) := by kernel_rfl
theorem path_Good_i1_ok (n : Nat) : EK.OK (path_Good_i1_e n) 104 (L tab) := EK.shp (fun _ _ _ => rfl) fun ρ K y c e => EK.run (path_Good_i1_Sok n) (by kernel_rfl) (MF.LKOK.of (LK.of (l := []) (by kernel_rfl) ((fun _ h => nomatch h)))) (path_Good_i1_k (path_Good_i1_g n) n _ _ K) (by kernel_rfl) e

/-! reeve/call.numbers -/
abbrev call_numbers_i1_T : Type 1 := (ρ : Type) → Int → Bool → Bool → Rows → Bool → Bool → Int → Int → Int → (Bool → Option ρ) → Option ρ
def call_numbers_i1_E (G : call_numbers_i1_T) : EK := fun ρ args K => decL [.agg [.i .i64 none, .lst none none 1 none, .lst none none 0 (some []), .i .i64 none, .i .i64 none, .i .u64 none]] args fun c => G ρ c.1.1 c.1.2.1.1 c.1.2.1.2.1 c.1.2.1.2.2 c.1.2.2.1.1 c.1.2.2.1.2.1 c.1.2.2.2.1 c.1.2.2.2.2.1 c.1.2.2.2.2.2.1 (fun w0 => K ⟨.b w0, [], []⟩)
structure call_numbers_i1_G where
  mk ::
  call_in : call_in_T
  right_Good : right_Good_T
noncomputable def call_numbers_i1_s (G : call_numbers_i1_G) {ρ : Type} (_n : Nat) (a0 : Int) (_a1 : Bool) (_a2 : Bool) (_a3 : Rows) (_a4 : Bool) (_a5 : Bool) (a6 : Int) (a7 : Int) (_a8 : Int) (k0 : (Bool → Option ρ)) : Option ρ :=
  bif ((a0 : Int) == 1) then
    G.call_in ρ a6 1 5 (fun w0_0 =>
      bif w0_0 then
        G.call_in ρ a7 0 4096 (fun w1_0 =>
          bif w1_0 then
            k0 true
          else k0 false)
      else k0 false)
  else bif ((a0 : Int) == 2) then
    G.right_Good ρ a6 (fun w2_0 =>
      bif w2_0 then
        bif ((a7 : Int) == 0) then
          k0 true
        else k0 false
      else k0 false)
  else bif ((a0 : Int) == 3) then
    G.right_Good ρ a6 (fun w3_0 =>
      bif w3_0 then
        G.call_in ρ a7 1 65535 (fun w4_0 =>
          bif w4_0 then
            k0 true
          else k0 false)
      else k0 false)
  else bif ((a0 : Int) == 11) then
    G.call_in ρ a6 0 3 (fun w5_0 =>
      bif w5_0 then
        bif ((a7 : Int) == 0) then
          k0 true
        else k0 false
      else k0 false)
  else bif ((a0 : Int) == 12) then
    G.call_in ρ a6 0 3 (fun w6_0 =>
      bif w6_0 then
        bif ((a7 : Int) == 0) then
          k0 true
        else k0 false
      else k0 false)
  else bif ((a6 : Int) == 0) then
    bif ((a7 : Int) == 0) then
      k0 true
    else k0 false
  else k0 false
noncomputable def call_numbers_i1_g (n : Nat) : call_numbers_i1_G := ⟨call_in n, right_Good n⟩
noncomputable def call_numbers_i1 (n : Nat) : call_numbers_i1_T := fun _ρ a0 a1 a2 a3 a4 a5 a6 a7 a8 k0 => call_numbers_i1_s (call_numbers_i1_g n) n a0 a1 a2 a3 a4 a5 a6 a7 a8 k0
noncomputable def call_numbers_i1_e (n : Nat) : EK := call_numbers_i1_E (call_numbers_i1 n)
def call_numbers_i1_S (G : call_numbers_i1_G) : CK := tabS [(124, call_in_E G.call_in), (55, right_Good_E G.right_Good)]
theorem call_numbers_i1_Sok (n : Nat) : CK.OK (call_numbers_i1_S (call_numbers_i1_g n)) (L tab) := tabS_ok _ (List.forall_mem_cons.2 ⟨(call_in_ok n), List.forall_mem_cons.2 ⟨(right_Good_ok n), (fun _ h => nomatch h)⟩⟩)
def call_numbers_i1_hs : HintC := hintL []
noncomputable def call_numbers_i1_lp (_G : call_numbers_i1_G) (_n : Nat) : LK := tabL []
theorem call_numbers_i1_k (G : call_numbers_i1_G) {ρ : Type} (n : Nat) (a0 : Int) (a1 : Bool) (a2 : Bool) (a3 : Rows) (a4 : Bool) (a5 : Bool) (a6 : Int) (a7 : Int) (a8 : Int) (K : Res → Option ρ) : runC (call_numbers_i1_S G) call_numbers_i1_hs (call_numbers_i1_lp G n) m106 [.agg [.i .i64 a0, .lst a1 a2 1 a3, .lst a4 a5 0 [], .i .i64 a6, .i .i64 a7, .i .u64 a8]] K = call_numbers_i1_s G n a0 a1 a2 a3 a4 a5 a6 a7 a8 (fun w0 => K ⟨.b w0, [], []⟩) := by kernel_rfl
theorem call_numbers_i1_ok (n : Nat) : EK.OK (call_numbers_i1_e n) 106 (L tab) := EK.shp (fun _ _ _ => rfl) fun ρ K y c e => EK.run (call_numbers_i1_Sok n) (by kernel_rfl) (MF.LKOK.of (LK.of (l := []) (by kernel_rfl) ((fun _ h => nomatch h)))) (call_numbers_i1_k (call_numbers_i1_g n) n _ _ _ _ _ _ _ _ _ K) (by kernel_rfl) e

/-! reeve/call.Good -/
abbrev call_Good_i1_T : Type 1 := (ρ : Type) → Int → Bool → Bool → Rows → Bool → Bool → Int → Int → Int → (Bool → Option ρ) → Option ρ
def call_Good_i1_E (G : call_Good_i1_T) : EK := fun ρ args K => decL [.agg [.i .i64 none, .lst none none 1 none, .lst none none 0 (some []), .i .i64 none, .i .i64 none, .i .u64 none]] args fun c => G ρ c.1.1 c.1.2.1.1 c.1.2.1.2.1 c.1.2.1.2.2 c.1.2.2.1.1 c.1.2.2.1.2.1 c.1.2.2.2.1 c.1.2.2.2.2.1 c.1.2.2.2.2.2.1 (fun w0 => K ⟨.b w0, [], []⟩)
structure call_Good_i1_G where
  mk ::
  call_fields : call_fields_T
  strings_Contains : strings_Contains_T
  path_Good_i1 : path_Good_i1_T
  path_Good : path_Good_T
  call_numbers_i1 : call_numbers_i1_T
noncomputable def call_Good_i1_s (G : call_Good_i1_G) {ρ : Type} (_n : Nat) (a0 : Int) (a1 : Bool) (a2 : Bool) (a3 : Rows) (a4 : Bool) (a5 : Bool) (a6 : Int) (a7 : Int) (a8 : Int) (k0 : (Bool → Option ρ)) : Option ρ :=
  G.call_fields ρ a0 (fun _w0_0 w0_1 =>
    G.strings_Contains ρ w0_1 [66] (fun w1_0 =>
      bif w1_0 then
        G.path_Good_i1 ρ a4 a5 (bif ((w0_1 : Bys) != []) then
            G.path_Good ρ a1 a2 a3 (fun w3_0 =>
              bif w3_0 then
                k0 false
              else k0 false)
          else k0 false)
      else bif ((w0_1 : Bys) != []) then
        G.path_Good ρ a1 a2 a3 (fun w4_0 =>
          bif w4_0 then
            G.call_numbers_i1 ρ a0 a1 a2 a3 a4 a5 a6 a7 a8 (fun w5_0 =>
              bif w5_0 then
                bif ((a8 : Int) == 0) then
                  k0 true
                else G.strings_Contains ρ w0_1 [87] (fun w6_0 =>
                  bif w6_0 then
                    k0 true
                  else k0 false)
              else k0 false)
          else k0 false)
      else k0 false))
noncomputable def call_Good_i1_g (n : Nat) : call_Good_i1_G := ⟨call_fields n, strings_Contains n, path_Good_i1 n, path_Good n, call_numbers_i1 n⟩
noncomputable def call_Good_i1 (n : Nat) : call_Good_i1_T := fun _ρ a0 a1 a2 a3 a4 a5 a6 a7 a8 k0 => call_Good_i1_s (call_Good_i1_g n) n a0 a1 a2 a3 a4 a5 a6 a7 a8 k0
noncomputable def call_Good_i1_e (n : Nat) : EK := call_Good_i1_E (call_Good_i1 n)
def call_Good_i1_S (G : call_Good_i1_G) : CK := tabS [(102, call_fields_E G.call_fields), (103, strings_Contains_E G.strings_Contains), (104, altE [.agg [.lst none none 0 (some [])]] (path_Good_i1_E G.path_Good_i1) (path_Good_E G.path_Good)), (106, call_numbers_i1_E G.call_numbers_i1)]
theorem call_Good_i1_Sok (n : Nat) : CK.OK (call_Good_i1_S (call_Good_i1_g n)) (L tab) := tabS_ok _ (List.forall_mem_cons.2 ⟨(call_fields_ok n), List.forall_mem_cons.2 ⟨(strings_Contains_ok n), List.forall_mem_cons.2 ⟨altE_ok (path_Good_i1_ok n) ((path_Good_ok n)), List.forall_mem_cons.2 ⟨(call_numbers_i1_ok n), (fun _ h => nomatch h)⟩⟩⟩⟩)
def call_Good_i1_hs : HintC := hintL []
noncomputable def call_Good_i1_lp (_G : call_Good_i1_G) (_n : Nat) : LK := tabL []
theorem call_Good_i1_k (G : call_Good_i1_G) {ρ : Type} (n : Nat) (a0 : Int) (a1 : Bool) (a2 : Bool) (a3 : Rows) (a4 : Bool) (a5 : Bool) (a6 : Int) (a7 : Int) (a8 : Int) (K : Res → Option ρ) : runC (call_Good_i1_S G) call_Good_i1_hs (call_Good_i1_lp G n) m77 [.agg [.i .i64 a0, .lst a1 a2 1 a3, .lst a4 a5 0 [], .i .i64 a6, .i .i64 a7, .i .u64 a8]] K = call_Good_i1_s G n a0 a1 a2 a3 a4 a5 a6 a7 a8 (fun w0 => K ⟨.b w0, [], []⟩) := by kernel_rfl
theorem call_Good_i1_ok (n : Nat) : EK.OK (call_Good_i1_e n) 77 (L tab) := EK.shp (fun _ _ _ => rfl) fun ρ K y c e => EK.run (call_Good_i1_Sok n) (by kernel_rfl) (MF.LKOK.of (LK.of (l := []) (by kernel_rfl) ((fun _ h => nomatch h)))) (call_Good_i1_k (call_Good_i1_g n) n _ _ _ _ _ _ _ _ _ K) (by kernel_rfl) e

/-! reeve/find.Slot -/
abbrev find_Slot_i1_T : Type 1 := (ρ : Type) → Int → Int → Int → Bool → Bool → Rows → Bool → Bool → Rows → Int → Bool → Bool → (Option ρ) → Option ρ
def find_Slot_i1_E (G : find_Slot_i1_T) : EK := fun ρ args K => decL [.agg [.i .i64 none, .i .i64 none, .i .i64 none, .lst none none 5 none, .lst none none 13 none], .i .i64 none, .agg [.lst none none 0 (some [])]] args fun c => G ρ c.1.1 c.1.2.1 c.1.2.2.1 c.1.2.2.2.1.1 c.1.2.2.2.1.2.1 c.1.2.2.2.1.2.2 c.1.2.2.2.2.1.1 c.1.2.2.2.2.1.2.1 c.1.2.2.2.2.1.2.2 c.2.1 c.2.2.1.1.1 c.2.2.1.1.2.1 (K ⟨.tup [.i .i64 0, .i .i64 1], [], []⟩)
structure find_Slot_i1_G where
  mk ::
  state_Good : state_Good_T
  find_in : find_in_T
  path_Good_i1 : path_Good_i1_T
noncomputable def find_Slot_i1_s (G : find_Slot_i1_G) {ρ : Type} (_n : Nat) (a0 : Int) (a1 : Int) (a2 : Int) (a3 : Bool) (a4 : Bool) (a5 : Rows) (a6 : Bool) (a7 : Bool) (a8 : Rows) (a9 : Int) (a10 : Bool) (a11 : Bool) (k0 : (Option ρ)) : Option ρ :=
  G.state_Good ρ a0 a1 a2 a3 a4 a5 a6 a7 a8 (fun w0_0 =>
    bif w0_0 then
      G.find_in ρ a9 0 (IntKind.wrap .i64 (a0 - 1)) (fun w1_0 =>
        bif w1_0 then
          G.path_Good_i1 ρ a10 a11 (k0)
        else k0)
    else k0)
noncomputable def find_Slot_i1_g (n : Nat) : find_Slot_i1_G := ⟨state_Good n, find_in n, path_Good_i1 n⟩
noncomputable def find_Slot_i1 (n : Nat) : find_Slot_i1_T := fun _ρ a0 a1 a2 a3 a4 a5 a6 a7 a8 a9 a10 a11 k0 => find_Slot_i1_s (find_Slot_i1_g n) n a0 a1 a2 a3 a4 a5 a6 a7 a8 a9 a10 a11 k0
noncomputable def find_Slot_i1_e (n : Nat) : EK := find_Slot_i1_E (find_Slot_i1 n)
def find_Slot_i1_S (G : find_Slot_i1_G) : CK := tabS [(28, state_Good_E G.state_Good), (125, find_in_E G.find_in), (104, path_Good_i1_E G.path_Good_i1)]
theorem find_Slot_i1_Sok (n : Nat) : CK.OK (find_Slot_i1_S (find_Slot_i1_g n)) (L tab) := tabS_ok _ (List.forall_mem_cons.2 ⟨(state_Good_ok n), List.forall_mem_cons.2 ⟨(find_in_ok n), List.forall_mem_cons.2 ⟨(path_Good_i1_ok n), (fun _ h => nomatch h)⟩⟩⟩)
def find_Slot_i1_hs : HintC := hintL []
def find_Slot_i1_c6 : Nat × List Nat × List Nat × MC := loopAt 6 m107
noncomputable def find_Slot_i1_d6 (_G : find_Slot_i1_G) (_n : Nat) : Go.Rv.LE := noL
noncomputable def find_Slot_i1_lp (G : find_Slot_i1_G) (n : Nat) : LK := tabL [(6, find_Slot_i1_d6 G n)]
theorem find_Slot_i1_d6_ok (n : Nat) : LE.OK (find_Slot_i1_d6 (find_Slot_i1_g n) n) (L tab) find_Slot_i1_c6 := noL_ok
theorem find_Slot_i1_k (G : find_Slot_i1_G) {ρ : Type} (n : Nat) (a0 : Int) (a1 : Int) (a2 : Int) (a3 : Bool) (a4 : Bool) (a5 : Rows) (a6 : Bool) (a7 : Bool) (a8 : Rows) (a9 : Int) (a10 : Bool) (a11 : Bool) (K : Res → Option ρ) : runC (find_Slot_i1_S G) find_Slot_i1_hs (find_Slot_i1_lp G n) m107 [.agg [.i .i64 a0, .i .i64 a1, .i .i64 a2, .lst a3 a4 5 a5, .lst a6 a7 13 a8], .i .i64 a9, .agg [.lst a10 a11 0 []]] K = find_Slot_i1_s G n a0 a1 a2 a3 a4 a5 a6 a7 a8 a9 a10 a11 (K ⟨.tup [.i .i64 0, .i .i64 1], [], []⟩) := by kernel_rfl
theorem find_Slot_i1_ok (n : Nat) : EK.OK (find_Slot_i1_e n) 107 (L tab) := EK.shp (fun _ _ _ => rfl) fun ρ K y c e => EK.run (find_Slot_i1_Sok n) (by kernel_rfl) (MF.LKOK.of (LK.of (l := [find_Slot_i1_c6]) (by kernel_rfl) (List.forall_mem_cons.2 ⟨LE.at (e := find_Slot_i1_d6 (find_Slot_i1_g n) n) (by kernel_rfl) (find_Slot_i1_d6_ok n), (fun _ h => nomatch h)⟩))) (find_Slot_i1_k (find_Slot_i1_g n) n _ _ _ _ _ _ _ _ _ _ _ _ K) (by kernel_rfl) e

/-! reeve/find.Empty -/
abbrev find_Empty_i1_T : Type 1 := (ρ : Type) → Int → Int → Int → Bool → Bool → Rows → Bool → Bool → Rows → Int → Bool → Bool → (Option ρ) → Option ρ
def find_Empty_i1_E (G : find_Empty_i1_T) : EK := fun ρ args K => decL [.agg [.i .i64 none, .i .i64 none, .i .i64 none, .lst none none 5 none, .lst none none 13 none], .i .i64 none, .agg [.lst none none 0 (some [])]] args fun c => G ρ c.1.1 c.1.2.1 c.1.2.2.1 c.1.2.2.2.1.1 c.1.2.2.2.1.2.1 c.1.2.2.2.1.2.2 c.1.2.2.2.2.1.1 c.1.2.2.2.2.1.2.1 c.1.2.2.2.2.1.2.2 c.2.1 c.2.2.1.1.1 c.2.2.1.1.2.1 (K ⟨.tup [.i .i64 0, .i .i64 1], [], []⟩)
structure find_Empty_i1_G where
  mk ::
  find_Slot_i1 : find_Slot_i1_T
noncomputable def find_Empty_i1_s (G : find_Empty_i1_G) {ρ : Type} (_n : Nat) (a0 : Int) (a1 : Int) (a2 : Int) (a3 : Bool) (a4 : Bool) (a5 : Rows) (a6 : Bool) (a7 : Bool) (a8 : Rows) (a9 : Int) (a10 : Bool) (a11 : Bool) (k0 : (Option ρ)) : Option ρ :=
  G.find_Slot_i1 ρ a0 a1 a2 a3 a4 a5 a6 a7 a8 a9 a10 a11 (k0)
noncomputable def find_Empty_i1_g (n : Nat) : find_Empty_i1_G := ⟨find_Slot_i1 n⟩
noncomputable def find_Empty_i1 (n : Nat) : find_Empty_i1_T := fun _ρ a0 a1 a2 a3 a4 a5 a6 a7 a8 a9 a10 a11 k0 => find_Empty_i1_s (find_Empty_i1_g n) n a0 a1 a2 a3 a4 a5 a6 a7 a8 a9 a10 a11 k0
noncomputable def find_Empty_i1_e (n : Nat) : EK := find_Empty_i1_E (find_Empty_i1 n)
def find_Empty_i1_S (G : find_Empty_i1_G) : CK := tabS [(107, find_Slot_i1_E G.find_Slot_i1)]
theorem find_Empty_i1_Sok (n : Nat) : CK.OK (find_Empty_i1_S (find_Empty_i1_g n)) (L tab) := tabS_ok _ (List.forall_mem_cons.2 ⟨(find_Slot_i1_ok n), (fun _ h => nomatch h)⟩)
def find_Empty_i1_hs : HintC := hintL []
noncomputable def find_Empty_i1_lp (_G : find_Empty_i1_G) (_n : Nat) : LK := tabL []
theorem find_Empty_i1_k (G : find_Empty_i1_G) {ρ : Type} (n : Nat) (a0 : Int) (a1 : Int) (a2 : Int) (a3 : Bool) (a4 : Bool) (a5 : Rows) (a6 : Bool) (a7 : Bool) (a8 : Rows) (a9 : Int) (a10 : Bool) (a11 : Bool) (K : Res → Option ρ) : runC (find_Empty_i1_S G) find_Empty_i1_hs (find_Empty_i1_lp G n) m80 [.agg [.i .i64 a0, .i .i64 a1, .i .i64 a2, .lst a3 a4 5 a5, .lst a6 a7 13 a8], .i .i64 a9, .agg [.lst a10 a11 0 []]] K = find_Empty_i1_s G n a0 a1 a2 a3 a4 a5 a6 a7 a8 a9 a10 a11 (K ⟨.tup [.i .i64 0, .i .i64 1], [], []⟩) := by kernel_rfl
theorem find_Empty_i1_ok (n : Nat) : EK.OK (find_Empty_i1_e n) 80 (L tab) := EK.shp (fun _ _ _ => rfl) fun ρ K y c e => EK.run (find_Empty_i1_Sok n) (by kernel_rfl) (MF.LKOK.of (LK.of (l := []) (by kernel_rfl) ((fun _ h => nomatch h)))) (find_Empty_i1_k (find_Empty_i1_g n) n _ _ _ _ _ _ _ _ _ _ _ _ K) (by kernel_rfl) e

/-! reeve/give.done -/
abbrev give_done_i1_T : Type 1 := (ρ : Type) → Int → Int → Int → Bool → Bool → Rows → Bool → Bool → Rows → Int → Int → Bool → Bool → Rows → Bool → Bool → Int → Int → Int → (Int → Option ρ) → Option ρ
def give_done_i1_E (G : give_done_i1_T) : EK := fun ρ args K => decL [.agg [.i .i64 none, .i .i64 none, .i .i64 none, .lst none none 5 none, .lst none none 13 none], .i .i64 none, .agg [.i .i64 none, .lst none none 1 none, .lst none none 0 (some []), .i .i64 none, .i .i64 none, .i .u64 none]] args fun c => G ρ c.1.1 c.1.2.1 c.1.2.2.1 c.1.2.2.2.1.1 c.1.2.2.2.1.2.1 c.1.2.2.2.1.2.2 c.1.2.2.2.2.1.1 c.1.2.2.2.2.1.2.1 c.1.2.2.2.2.1.2.2 c.2.1 c.2.2.1.1 c.2.2.1.2.1.1 c.2.2.1.2.1.2.1 c.2.2.1.2.1.2.2 c.2.2.1.2.2.1.1 c.2.2.1.2.2.1.2.1 c.2.2.1.2.2.2.1 c.2.2.1.2.2.2.2.1 c.2.2.1.2.2.2.2.2.1 (fun w0 => K ⟨.tup [.agg [.i .i64 c.1.1, .i .i64 c.1.2.1, .i .i64 c.1.2.2.1, .lst c.1.2.2.2.1.1 c.1.2.2.2.1.2.1 5 c.1.2.2.2.1.2.2, .lst c.1.2.2.2.2.1.1 c.1.2.2.2.2.1.2.1 13 c.1.2.2.2.2.1.2.2], .i .i64 w0], [], []⟩)
structure give_done_i1_G where
  mk ::
  call_Good_i1 : call_Good_i1_T
  find_Cap : find_Cap_T
  cap_Cut : cap_Cut_T
  cap_Stamp : cap_Stamp_T
  find_Empty_i1 : find_Empty_i1_T
noncomputable def give_done_i1_s (G : give_done_i1_G) {ρ : Type} (_n : Nat) (a0 : Int) (a1 : Int) (a2 : Int) (a3 : Bool) (a4 : Bool) (a5 : Rows) (a6 : Bool) (a7 : Bool) (a8 : Rows) (a9 : Int) (a10 : Int) (a11 : Bool) (a12 : Bool) (a13 : Rows) (a14 : Bool) (a15 : Bool) (a16 : Int) (a17 : Int) (a18 : Int) (k0 : (Int → Option ρ)) : Option ρ :=
  G.call_Good_i1 ρ a10 a11 a12 a13 a14 a15 a16 a17 a18 (fun w0_0 =>
    bif w0_0 then
      bif ((a10 : Int) != 2) then
        bif ((a10 : Int) != 3) then
          bif ((a10 : Int) != 4) then
            k0 1
          else G.find_Cap ρ a0 a1 a2 a3 a4 a5 a6 a7 a8 a9 a11 a12 a13 (fun _w1_0 w1_1 w1_2 w1_3 w1_4 w1_5 =>
            bif ((w1_5 : Int) != 0) then
              k0 w1_5
            else bif ((a10 : Int) != 4) then
              G.cap_Cut ρ w1_1 w1_2 w1_3 w1_4 a16 (fun w2_0 w2_1 w2_2 w2_3 =>
                bif ((a10 : Int) == 3) then
                  G.cap_Stamp ρ w2_0 w2_1 w2_2 w2_3 a17 (fun _w3_0 _w3_1 _w3_2 _w3_3 w3_4 =>
                    bif ((w3_4 : Int) != 0) then
                      k0 w3_4
                    else G.find_Empty_i1 ρ a0 a1 a2 a3 a4 a5 a6 a7 a8 a9 a14 a15 (k0 1))
                else G.find_Empty_i1 ρ a0 a1 a2 a3 a4 a5 a6 a7 a8 a9 a14 a15 (k0 1))
            else bif ((a10 : Int) == 3) then
              G.cap_Stamp ρ w1_1 w1_2 w1_3 w1_4 a17 (fun _w6_0 _w6_1 _w6_2 _w6_3 w6_4 =>
                bif ((w6_4 : Int) != 0) then
                  k0 w6_4
                else G.find_Empty_i1 ρ a0 a1 a2 a3 a4 a5 a6 a7 a8 a9 a14 a15 (k0 1))
            else G.find_Empty_i1 ρ a0 a1 a2 a3 a4 a5 a6 a7 a8 a9 a14 a15 (k0 1))
        else G.find_Cap ρ a0 a1 a2 a3 a4 a5 a6 a7 a8 a9 a11 a12 a13 (fun _w9_0 w9_1 w9_2 w9_3 w9_4 w9_5 =>
          bif ((w9_5 : Int) != 0) then
            k0 w9_5
          else bif ((a10 : Int) != 4) then
            G.cap_Cut ρ w9_1 w9_2 w9_3 w9_4 a16 (fun w10_0 w10_1 w10_2 w10_3 =>
              bif ((a10 : Int) == 3) then
                G.cap_Stamp ρ w10_0 w10_1 w10_2 w10_3 a17 (fun _w11_0 _w11_1 _w11_2 _w11_3 w11_4 =>
                  bif ((w11_4 : Int) != 0) then
                    k0 w11_4
                  else G.find_Empty_i1 ρ a0 a1 a2 a3 a4 a5 a6 a7 a8 a9 a14 a15 (k0 1))
              else G.find_Empty_i1 ρ a0 a1 a2 a3 a4 a5 a6 a7 a8 a9 a14 a15 (k0 1))
          else bif ((a10 : Int) == 3) then
            G.cap_Stamp ρ w9_1 w9_2 w9_3 w9_4 a17 (fun _w14_0 _w14_1 _w14_2 _w14_3 w14_4 =>
              bif ((w14_4 : Int) != 0) then
                k0 w14_4
              else G.find_Empty_i1 ρ a0 a1 a2 a3 a4 a5 a6 a7 a8 a9 a14 a15 (k0 1))
          else G.find_Empty_i1 ρ a0 a1 a2 a3 a4 a5 a6 a7 a8 a9 a14 a15 (k0 1))
      else G.find_Cap ρ a0 a1 a2 a3 a4 a5 a6 a7 a8 a9 a11 a12 a13 (fun _w17_0 w17_1 w17_2 w17_3 w17_4 w17_5 =>
        bif ((w17_5 : Int) != 0) then
          k0 w17_5
        else bif ((a10 : Int) != 4) then
          G.cap_Cut ρ w17_1 w17_2 w17_3 w17_4 a16 (fun w18_0 w18_1 w18_2 w18_3 =>
            bif ((a10 : Int) == 3) then
              G.cap_Stamp ρ w18_0 w18_1 w18_2 w18_3 a17 (fun _w19_0 _w19_1 _w19_2 _w19_3 w19_4 =>
                bif ((w19_4 : Int) != 0) then
                  k0 w19_4
                else G.find_Empty_i1 ρ a0 a1 a2 a3 a4 a5 a6 a7 a8 a9 a14 a15 (k0 1))
            else G.find_Empty_i1 ρ a0 a1 a2 a3 a4 a5 a6 a7 a8 a9 a14 a15 (k0 1))
        else bif ((a10 : Int) == 3) then
          G.cap_Stamp ρ w17_1 w17_2 w17_3 w17_4 a17 (fun _w22_0 _w22_1 _w22_2 _w22_3 w22_4 =>
            bif ((w22_4 : Int) != 0) then
              k0 w22_4
            else G.find_Empty_i1 ρ a0 a1 a2 a3 a4 a5 a6 a7 a8 a9 a14 a15 (k0 1))
        else G.find_Empty_i1 ρ a0 a1 a2 a3 a4 a5 a6 a7 a8 a9 a14 a15 (k0 1))
    else k0 1)
noncomputable def give_done_i1_g (n : Nat) : give_done_i1_G := ⟨call_Good_i1 n, find_Cap n, cap_Cut n, cap_Stamp n, find_Empty_i1 n⟩
noncomputable def give_done_i1 (n : Nat) : give_done_i1_T := fun _ρ a0 a1 a2 a3 a4 a5 a6 a7 a8 a9 a10 a11 a12 a13 a14 a15 a16 a17 a18 k0 => give_done_i1_s (give_done_i1_g n) n a0 a1 a2 a3 a4 a5 a6 a7 a8 a9 a10 a11 a12 a13 a14 a15 a16 a17 a18 k0
noncomputable def give_done_i1_e (n : Nat) : EK := give_done_i1_E (give_done_i1 n)
def give_done_i1_S (G : give_done_i1_G) : CK := tabS [(77, call_Good_i1_E G.call_Good_i1), (78, find_Cap_E G.find_Cap), (111, cap_Cut_E G.cap_Cut), (112, cap_Stamp_E G.cap_Stamp), (80, find_Empty_i1_E G.find_Empty_i1)]
theorem give_done_i1_Sok (n : Nat) : CK.OK (give_done_i1_S (give_done_i1_g n)) (L tab) := tabS_ok _ (List.forall_mem_cons.2 ⟨(call_Good_i1_ok n), List.forall_mem_cons.2 ⟨(find_Cap_ok n), List.forall_mem_cons.2 ⟨(cap_Cut_ok n), List.forall_mem_cons.2 ⟨(cap_Stamp_ok n), List.forall_mem_cons.2 ⟨(find_Empty_i1_ok n), (fun _ h => nomatch h)⟩⟩⟩⟩⟩)
def give_done_i1_hs : HintC := hintL []
noncomputable def give_done_i1_lp (_G : give_done_i1_G) (_n : Nat) : LK := tabL []
theorem give_done_i1_k (G : give_done_i1_G) {ρ : Type} (n : Nat) (a0 : Int) (a1 : Int) (a2 : Int) (a3 : Bool) (a4 : Bool) (a5 : Rows) (a6 : Bool) (a7 : Bool) (a8 : Rows) (a9 : Int) (a10 : Int) (a11 : Bool) (a12 : Bool) (a13 : Rows) (a14 : Bool) (a15 : Bool) (a16 : Int) (a17 : Int) (a18 : Int) (K : Res → Option ρ) : runC (give_done_i1_S G) give_done_i1_hs (give_done_i1_lp G n) m86 [.agg [.i .i64 a0, .i .i64 a1, .i .i64 a2, .lst a3 a4 5 a5, .lst a6 a7 13 a8], .i .i64 a9, .agg [.i .i64 a10, .lst a11 a12 1 a13, .lst a14 a15 0 [], .i .i64 a16, .i .i64 a17, .i .u64 a18]] K = give_done_i1_s G n a0 a1 a2 a3 a4 a5 a6 a7 a8 a9 a10 a11 a12 a13 a14 a15 a16 a17 a18 (fun w0 => K ⟨.tup [.agg [.i .i64 a0, .i .i64 a1, .i .i64 a2, .lst a3 a4 5 a5, .lst a6 a7 13 a8], .i .i64 w0], [], []⟩) := by kernel_rfl
theorem give_done_i1_ok (n : Nat) : EK.OK (give_done_i1_e n) 86 (L tab) := EK.shp (fun _ _ _ => rfl) fun ρ K y c e => EK.run (give_done_i1_Sok n) (by kernel_rfl) (MF.LKOK.of (LK.of (l := []) (by kernel_rfl) ((fun _ h => nomatch h)))) (give_done_i1_k (give_done_i1_g n) n _ _ _ _ _ _ _ _ _ _ _ _ _ _ _ _ _ _ _ K) (by kernel_rfl) e

/-! reeve/give.Do -/
abbrev give_Do_i1_T : Type 1 := (ρ : Type) → Int → Int → Int → Bool → Bool → Rows → Bool → Bool → Rows → Int → Int → Bool → Bool → Rows → Bool → Bool → Int → Int → Int → (Int → Option ρ) → Option ρ
def give_Do_i1_E (G : give_Do_i1_T) : EK := fun ρ args K => decL [.agg [.i .i64 none, .i .i64 none, .i .i64 none, .lst none none 5 none, .lst none none 13 none], .i .i64 none, .agg [.i .i64 none, .lst none none 1 none, .lst none none 0 (some []), .i .i64 none, .i .i64 none, .i .u64 none]] args fun c => G ρ c.1.1 c.1.2.1 c.1.2.2.1 c.1.2.2.2.1.1 c.1.2.2.2.1.2.1 c.1.2.2.2.1.2.2 c.1.2.2.2.2.1.1 c.1.2.2.2.2.1.2.1 c.1.2.2.2.2.1.2.2 c.2.1 c.2.2.1.1 c.2.2.1.2.1.1 c.2.2.1.2.1.2.1 c.2.2.1.2.1.2.2 c.2.2.1.2.2.1.1 c.2.2.1.2.2.1.2.1 c.2.2.1.2.2.2.1 c.2.2.1.2.2.2.2.1 c.2.2.1.2.2.2.2.2.1 (fun w0 => K ⟨.tup [.agg [.i .i64 c.1.1, .i .i64 c.1.2.1, .i .i64 c.1.2.2.1, .lst c.1.2.2.2.1.1 c.1.2.2.2.1.2.1 5 c.1.2.2.2.1.2.2, .lst c.1.2.2.2.2.1.1 c.1.2.2.2.2.1.2.1 13 c.1.2.2.2.2.1.2.2], .agg [.i .i64 w0, .i .u64 0, .i .i64 0]], [], []⟩)
structure give_Do_i1_G where
  mk ::
  give_done_i1 : give_done_i1_T
noncomputable def give_Do_i1_s (G : give_Do_i1_G) {ρ : Type} (_n : Nat) (a0 : Int) (a1 : Int) (a2 : Int) (a3 : Bool) (a4 : Bool) (a5 : Rows) (a6 : Bool) (a7 : Bool) (a8 : Rows) (a9 : Int) (a10 : Int) (a11 : Bool) (a12 : Bool) (a13 : Rows) (a14 : Bool) (a15 : Bool) (a16 : Int) (a17 : Int) (a18 : Int) (k0 : (Int → Option ρ)) : Option ρ :=
  G.give_done_i1 ρ a0 a1 a2 a3 a4 a5 a6 a7 a8 a9 a10 a11 a12 a13 a14 a15 a16 a17 a18 (fun w0_0 =>
    bif ((w0_0 : Int) != 0) then
      k0 w0_0
    else k0 0)
noncomputable def give_Do_i1_g (n : Nat) : give_Do_i1_G := ⟨give_done_i1 n⟩
noncomputable def give_Do_i1 (n : Nat) : give_Do_i1_T := fun _ρ a0 a1 a2 a3 a4 a5 a6 a7 a8 a9 a10 a11 a12 a13 a14 a15 a16 a17 a18 k0 => give_Do_i1_s (give_Do_i1_g n) n a0 a1 a2 a3 a4 a5 a6 a7 a8 a9 a10 a11 a12 a13 a14 a15 a16 a17 a18 k0
noncomputable def give_Do_i1_e (n : Nat) : EK := give_Do_i1_E (give_Do_i1 n)
def give_Do_i1_S (G : give_Do_i1_G) : CK := tabS [(86, give_done_i1_E G.give_done_i1)]
theorem give_Do_i1_Sok (n : Nat) : CK.OK (give_Do_i1_S (give_Do_i1_g n)) (L tab) := tabS_ok _ (List.forall_mem_cons.2 ⟨(give_done_i1_ok n), (fun _ h => nomatch h)⟩)
def give_Do_i1_hs : HintC := hintL []
noncomputable def give_Do_i1_lp (_G : give_Do_i1_G) (_n : Nat) : LK := tabL []
theorem give_Do_i1_k (G : give_Do_i1_G) {ρ : Type} (n : Nat) (a0 : Int) (a1 : Int) (a2 : Int) (a3 : Bool) (a4 : Bool) (a5 : Rows) (a6 : Bool) (a7 : Bool) (a8 : Rows) (a9 : Int) (a10 : Int) (a11 : Bool) (a12 : Bool) (a13 : Rows) (a14 : Bool) (a15 : Bool) (a16 : Int) (a17 : Int) (a18 : Int) (K : Res → Option ρ) : runC (give_Do_i1_S G) give_Do_i1_hs (give_Do_i1_lp G n) m49 [.agg [.i .i64 a0, .i .i64 a1, .i .i64 a2, .lst a3 a4 5 a5, .lst a6 a7 13 a8], .i .i64 a9, .agg [.i .i64 a10, .lst a11 a12 1 a13, .lst a14 a15 0 [], .i .i64 a16, .i .i64 a17, .i .u64 a18]] K = give_Do_i1_s G n a0 a1 a2 a3 a4 a5 a6 a7 a8 a9 a10 a11 a12 a13 a14 a15 a16 a17 a18 (fun w0 => K ⟨.tup [.agg [.i .i64 a0, .i .i64 a1, .i .i64 a2, .lst a3 a4 5 a5, .lst a6 a7 13 a8], .agg [.i .i64 w0, .i .u64 0, .i .i64 0]], [], []⟩) := by kernel_rfl
theorem give_Do_i1_ok (n : Nat) : EK.OK (give_Do_i1_e n) 49 (L tab) := EK.shp (fun _ _ _ => rfl) fun ρ K y c e => EK.run (give_Do_i1_Sok n) (by kernel_rfl) (MF.LKOK.of (LK.of (l := []) (by kernel_rfl) ((fun _ h => nomatch h)))) (give_Do_i1_k (give_Do_i1_g n) n _ _ _ _ _ _ _ _ _ _ _ _ _ _ _ _ _ _ _ K) (by kernel_rfl) e

end Go.Rv
