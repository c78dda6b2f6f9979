/- functions as programs of ours, and their ties, part 2 -/
import Derived.Test.YtomdbiaoaemkmaaGreatNa
import Derived.KernelRfl
namespace Go.Rv
/-! reeve/forest.Good -/
abbrev forest_Good_T : Type 1 := (ρ : Type) → Bool → Bool → Rows → (Bool → Option ρ) → Option ρ
def forest_Good_E (G : forest_Good_T) : EK := fun ρ args K => decL [.agg [.lst none none 1 none]] args fun c => G ρ c.1.1.1 c.1.1.2.1 c.1.1.2.2 (fun w0 => K ⟨.b w0, [], []⟩)
structure forest_Good_G where
  mk ::
  forest_Forest_is : forest_Forest_is_T
abbrev forest_Good_l4_V : Type := Int
noncomputable def forest_Good_l4_s (G : forest_Good_G) {ρ : Type} (_n : Nat) (_p0 : Bool) (_p1 : Bool) (p2 : Rows) (p3 : Int) (p4 : Bool) (p5 : Bool) (p6 : Rows) (k0 : (Option ρ)) (k1 : (Option ρ)) (rec' : forest_Good_l4_V → Option ρ) : forest_Good_l4_V → Option ρ
  | v =>
  bif decide ((v : Int) < p3) then
    rowT [.i .i64] p2 v fun c0 =>
    bif ((c0.1 : Int) != (-2)) then
      bif ((c0.1 : Int) != (-1)) then
        G.forest_Forest_is ρ p4 p5 p6 c0.1 (fun w1_0 =>
          bif w1_0 then
            rec' ((IntKind.wrap .i64 (v + 1)))
          else k0)
      else rec' ((IntKind.wrap .i64 (v + 1)))
    else rec' ((IntKind.wrap .i64 (v + 1)))
  else k1
noncomputable def forest_Good_l4 (G : forest_Good_G) {ρ : Type} (n : Nat) (p0 : Bool) (p1 : Bool) (p2 : Rows) (p3 : Int) (p4 : Bool) (p5 : Bool) (p6 : Rows) (k0 : (Option ρ)) (k1 : (Option ρ)) (v : forest_Good_l4_V) : Option ρ := fuelN (forest_Good_l4_s G n p0 p1 p2 p3 p4 p5 p6 k0 k1) n v
def forest_Good_l4_enc (p0 : Bool) (p1 : Bool) (p2 : Rows) (p3 : Int) (p4 : Bool) (p5 : Bool) (p6 : Rows) : forest_Good_l4_V → St
  | v => ⟨[(1, .ptr 0 1 1 0 0), (13, .lst p0 p1 1 p2), (14, .i .i64 p3), (15, .i .i64 v)], [.row 1 true false [[.lst p4 p5 1 p6]]]⟩
abbrev forest_Good_l14_V : Type := Int × Int
noncomputable def forest_Good_l14_s (G : forest_Good_G) {ρ : Type} (_n : Nat) (_p1 : Int) (_p2 : Int) (p3 : Bool) (p4 : Bool) (p5 : Rows) (k0 : (Option ρ)) (k1 : (Option ρ)) (rec' : forest_Good_l14_V → Option ρ) : forest_Good_l14_V → Option ρ
  | v =>
  G.forest_Forest_is ρ p3 p4 p5 v.2 (fun w0_0 =>
    bif w0_0 then
      bif decide ((v.1 : Int) > (((List.length (p5 : Rows)) : Nat) : Int)) then
        k0
      else rowT [.i .i64] p5 v.2 fun c1 =>
      rec' ((IntKind.wrap .i64 (v.1 + 1)), c1.1)
    else k1)
noncomputable def forest_Good_l14 (G : forest_Good_G) {ρ : Type} (n : Nat) (p1 : Int) (p2 : Int) (p3 : Bool) (p4 : Bool) (p5 : Rows) (k0 : (Option ρ)) (k1 : (Option ρ)) (v : forest_Good_l14_V) : Option ρ := fuelN (forest_Good_l14_s G n p1 p2 p3 p4 p5 k0 k1) n v
def forest_Good_l14_enc (p1 : Int) (p2 : Int) (p3 : Bool) (p4 : Bool) (p5 : Rows) : forest_Good_l14_V → St
  | v => ⟨[(1, .ptr 0 1 1 0 0), (6, .i .i64 v.1), (7, .i .i64 v.2), (34, .i .i64 p1), (35, .i .i64 p2)], [.row 1 true false [[.lst p3 p4 1 p5]]]⟩
abbrev forest_Good_l10_V : Type := Int
noncomputable def forest_Good_l10_s (G : forest_Good_G) {ρ : Type} (n : Nat) (p0 : Int) (p1 : Bool) (p2 : Bool) (p3 : Rows) (k0 : (Option ρ)) (k1 : (Option ρ)) (rec' : forest_Good_l10_V → Option ρ) : forest_Good_l10_V → Option ρ
  | v =>
  bif decide ((v : Int) < p0) then
    forest_Good_l14 G n p0 v p1 p2 p3 (k0) (rec' ((IntKind.wrap .i64 (v + 1)))) (0, v)
  else k1
noncomputable def forest_Good_l10 (G : forest_Good_G) {ρ : Type} (n : Nat) (p0 : Int) (p1 : Bool) (p2 : Bool) (p3 : Rows) (k0 : (Option ρ)) (k1 : (Option ρ)) (v : forest_Good_l10_V) : Option ρ := fuelN (forest_Good_l10_s G n p0 p1 p2 p3 k0 k1) n v
def forest_Good_l10_enc (p0 : Int) (p1 : Bool) (p2 : Bool) (p3 : Rows) : forest_Good_l10_V → St
  | v => ⟨[(1, .ptr 0 1 1 0 0), (34, .i .i64 p0), (35, .i .i64 v)], [.row 1 true false [[.lst p1 p2 1 p3]]]⟩
noncomputable def forest_Good_s (G : forest_Good_G) {ρ : Type} (n : Nat) (a0 : Bool) (a1 : Bool) (a2 : Rows) (k0 : (Bool → Option ρ)) : Option ρ :=
  bif decide (((((List.length (a2 : Rows)) : Nat) : Int) : Int) > 96) then
    k0 false
  else forest_Good_l4 G n a0 a1 a2 (((List.length (a2 : Rows)) : Nat) : Int) a0 a1 a2 (k0 false) (forest_Good_l10 G n (((List.length (a2 : Rows)) : Nat) : Int) a0 a1 a2 (k0 false) (k0 true) (0)) (0)
noncomputable def forest_Good_g (n : Nat) : forest_Good_G := ⟨forest_Forest_is n⟩
noncomputable def forest_Good (n : Nat) : forest_Good_T := fun _ρ a0 a1 a2 k0 => forest_Good_s (forest_Good_g n) n a0 a1 a2 k0
noncomputable def forest_Good_e (n : Nat) : EK := forest_Good_E (forest_Good n)
def forest_Good_S (G : forest_Good_G) : CK := tabS [(65, forest_Forest_is_E G.forest_Forest_is)]
theorem forest_Good_Sok (n : Nat) : CK.OK (forest_Good_S (forest_Good_g n)) (L tab) := tabS_ok _ (List.forall_mem_cons.2 ⟨(forest_Forest_is_ok n), (fun _ h => nomatch h)⟩)
def forest_Good_hs : HintC := hintL [(17, [.i .i64]), (45, [.i .i64])]
def forest_Good_c4 : Nat × List Nat × List Nat × MC := loopAt 4 m41
noncomputable def forest_Good_l4_d (G : forest_Good_G) (n : Nat) : Go.Rv.LE := fun _ρ h K => decSt [(1, .ptr 0 1 0 (some 1) (some 0)), (13, .lst none none 1 none), (14, .i .i64 none), (15, .i .i64 none)] [.row 1 true false (some [[.lst none none 1 none]])] h fun a b => forest_Good_l4 G n a.2.1.1 a.2.1.2.1 a.2.1.2.2 a.2.2.1 b.1.1.1.1 b.1.1.1.2.1 b.1.1.1.2.2 (K .ret ⟨[(1, .ptr 0 1 1 0 0), (2, .b false)], [.row 1 true false [[.lst b.1.1.1.1 b.1.1.1.2.1 1 b.1.1.1.2.2]]]⟩) (K (.exit 0) ⟨[(1, .ptr 0 1 1 0 0), (2, .u)], [.row 1 true false [[.lst b.1.1.1.1 b.1.1.1.2.1 1 b.1.1.1.2.2]]]⟩) (a.2.2.2.1)
noncomputable def forest_Good_d4 (G : forest_Good_G) (n : Nat) : Go.Rv.LE := forest_Good_l4_d G n
def forest_Good_c14 : Nat × List Nat × List Nat × MC := loopAt 14 m41
noncomputable def forest_Good_l14_d (G : forest_Good_G) (n : Nat) : Go.Rv.LE := fun _ρ h K => decSt [(1, .ptr 0 1 0 (some 1) (some 0)), (6, .i .i64 none), (7, .i .i64 none), (34, .i .i64 none), (35, .i .i64 none)] [.row 1 true false (some [[.lst none none 1 none]])] h fun a b => forest_Good_l14 G n a.2.2.2.1 a.2.2.2.2.1 b.1.1.1.1 b.1.1.1.2.1 b.1.1.1.2.2 (K .ret ⟨[(1, .ptr 0 1 1 0 0), (2, .b false), (34, .i .i64 a.2.2.2.1), (35, .i .i64 a.2.2.2.2.1)], [.row 1 true false [[.lst b.1.1.1.1 b.1.1.1.2.1 1 b.1.1.1.2.2]]]⟩) (K (.exit 4) ⟨[(1, .ptr 0 1 1 0 0), (2, .u), (34, .i .i64 a.2.2.2.1), (35, .i .i64 a.2.2.2.2.1)], [.row 1 true false [[.lst b.1.1.1.1 b.1.1.1.2.1 1 b.1.1.1.2.2]]]⟩) (a.2.1, a.2.2.1)
noncomputable def forest_Good_d14 (G : forest_Good_G) (n : Nat) : Go.Rv.LE := forest_Good_l14_d G n
def forest_Good_c10 : Nat × List Nat × List Nat × MC := loopAt 10 m41
noncomputable def forest_Good_l10_d (G : forest_Good_G) (n : Nat) : Go.Rv.LE := fun _ρ h K => decSt [(1, .ptr 0 1 0 (some 1) (some 0)), (34, .i .i64 none), (35, .i .i64 none)] [.row 1 true false (some [[.lst none none 1 none]])] h fun a b => forest_Good_l10 G n a.2.1 b.1.1.1.1 b.1.1.1.2.1 b.1.1.1.2.2 (K .ret ⟨[(2, .b false)], [.row 1 true false [[.lst b.1.1.1.1 b.1.1.1.2.1 1 b.1.1.1.2.2]]]⟩) (K (.exit 2) ⟨[(2, .u)], [.row 1 true false [[.lst b.1.1.1.1 b.1.1.1.2.1 1 b.1.1.1.2.2]]]⟩) (a.2.2.1)
noncomputable def forest_Good_d10 (G : forest_Good_G) (n : Nat) : Go.Rv.LE := forest_Good_l10_d G n
noncomputable def forest_Good_lp (G : forest_Good_G) (n : Nat) : LK := tabL [(4, forest_Good_d4 G n), (14, forest_Good_d14 G n), (10, forest_Good_d10 G n)]
theorem forest_Good_l4_k (G : forest_Good_G) {ρ : Type} (n : Nat) (p0 : Bool) (p1 : Bool) (p2 : Rows) (p3 : Int) (p4 : Bool) (p5 : Bool) (p6 : Rows) (K : Ex → St → Option ρ) (N : St → Option ρ) : ∀ v, roundC (forest_Good_S G) forest_Good_hs (forest_Good_lp G n) forest_Good_c4 1 N K (forest_Good_l4_enc p0 p1 p2 p3 p4 p5 p6 v) = forest_Good_l4_s G n p0 p1 p2 p3 p4 p5 p6 (K .ret ⟨[(1, .ptr 0 1 1 0 0), (2, .b false)], [.row 1 true false [[.lst p4 p5 1 p6]]]⟩) (K (.exit 0) ⟨[(1, .ptr 0 1 1 0 0), (2, .u)], [.row 1 true false [[.lst p4 p5 1 p6]]]⟩) (fun v => N (forest_Good_l4_enc p0 p1 p2 p3 p4 p5 p6 v)) v
  | v => by kernel_rfl
theorem forest_Good_l4_dok (n : Nat) : LE.OK (forest_Good_l4_d (forest_Good_g n) n) (L tab) forest_Good_c4 := LE.shp (fun _ _ _ => rfl) fun ρ K y a b e => LE.rounds (forest_Good_Sok n) (LK.of (l := []) (by kernel_rfl) ((fun _ h => nomatch h))) (forest_Good_l4_k (forest_Good_g n) n _ _ _ _ _ _ _ K) (by kernel_rfl) (by kernel_rfl) e
theorem forest_Good_d4_ok (n : Nat) : LE.OK (forest_Good_d4 (forest_Good_g n) n) (L tab) forest_Good_c4 := forest_Good_l4_dok n
theorem forest_Good_l14_k (G : forest_Good_G) {ρ : Type} (n : Nat) (p1 : Int) (p2 : Int) (p3 : Bool) (p4 : Bool) (p5 : Rows) (K : Ex → St → Option ρ) (N : St → Option ρ) : ∀ v, roundC (forest_Good_S G) forest_Good_hs (forest_Good_lp G n) forest_Good_c14 1 N K (forest_Good_l14_enc p1 p2 p3 p4 p5 v) = forest_Good_l14_s G n p1 p2 p3 p4 p5 (K .ret ⟨[(1, .ptr 0 1 1 0 0), (2, .b false), (34, .i .i64 p1), (35, .i .i64 p2)], [.row 1 true false [[.lst p3 p4 1 p5]]]⟩) (K (.exit 4) ⟨[(1, .ptr 0 1 1 0 0), (2, .u), (34, .i .i64 p1), (35, .i .i64 p2)], [.row 1 true false [[.lst p3 p4 1 p5]]]⟩) (fun v => N (forest_Good_l14_enc p1 p2 p3 p4 p5 v)) v
  | v => by kernel_rfl
theorem forest_Good_l14_dok (n : Nat) : LE.OK (forest_Good_l14_d (forest_Good_g n) n) (L tab) forest_Good_c14 := LE.shp (fun _ _ _ => rfl) fun ρ K y a b e => LE.rounds (forest_Good_Sok n) (LK.of (l := []) (by kernel_rfl) ((fun _ h => nomatch h))) (forest_Good_l14_k (forest_Good_g n) n _ _ _ _ _ K) (by kernel_rfl) (by kernel_rfl) e
theorem forest_Good_d14_ok (n : Nat) : LE.OK (forest_Good_d14 (forest_Good_g n) n) (L tab) forest_Good_c14 := forest_Good_l14_dok n
theorem forest_Good_l10_k (G : forest_Good_G) {ρ : Type} (n : Nat) (p0 : Int) (p1 : Bool) (p2 : Bool) (p3 : Rows) (K : Ex → St → Option ρ) (N : St → Option ρ) : ∀ v, roundC (forest_Good_S G) forest_Good_hs (forest_Good_lp G n) forest_Good_c10 1 N K (forest_Good_l10_enc p0 p1 p2 p3 v) = forest_Good_l10_s G n p0 p1 p2 p3 (K .ret ⟨[(2, .b false)], [.row 1 true false [[.lst p1 p2 1 p3]]]⟩) (K (.exit 2) ⟨[(2, .u)], [.row 1 true false [[.lst p1 p2 1 p3]]]⟩) (fun v => N (forest_Good_l10_enc p0 p1 p2 p3 v)) v
  | v => by kernel_rfl
theorem forest_Good_l10_dok (n : Nat) : LE.OK (forest_Good_l10_d (forest_Good_g n) n) (L tab) forest_Good_c10 := LE.shp (fun _ _ _ => rfl) fun ρ K y a b e => LE.rounds (forest_Good_Sok n) (LK.of (l := [forest_Good_c14]) (by kernel_rfl) (List.forall_mem_cons.2 ⟨LE.at (e := forest_Good_d14 (forest_Good_g n) n) (by kernel_rfl) (forest_Good_d14_ok n), (fun _ h => nomatch h)⟩)) (forest_Good_l10_k (forest_Good_g n) n _ _ _ _ K) (by kernel_rfl) (by kernel_rfl) e
theorem forest_Good_d10_ok (n : Nat) : LE.OK (forest_Good_d10 (forest_Good_g n) n) (L tab) forest_Good_c10 := forest_Good_l10_dok n
theorem forest_Good_k (G : forest_Good_G) {ρ : Type} (n : Nat) (a0 : Bool) (a1 : Bool) (a2 : Rows) (K : Res → Option ρ) : runC (forest_Good_S G) forest_Good_hs (forest_Good_lp G n) m41 [.agg [.lst a0 a1 1 a2]] K = forest_Good_s G n a0 a1 a2 (fun w0 => K ⟨.b w0, [], []⟩) := by kernel_rfl
theorem forest_Good_ok (n : Nat) : EK.OK (forest_Good_e n) 41 (L tab) := EK.shp (fun _ _ _ => rfl) fun ρ K y c e => EK.run (forest_Good_Sok n) (by kernel_rfl) (MF.LKOK.of (LK.of (l := [forest_Good_c4, forest_Good_c10]) (by kernel_rfl) (List.forall_mem_cons.2 ⟨LE.at (e := forest_Good_d4 (forest_Good_g n) n) (by kernel_rfl) (forest_Good_d4_ok n), List.forall_mem_cons.2 ⟨LE.at (e := forest_Good_d10 (forest_Good_g n) n) (by kernel_rfl) (forest_Good_d10_ok n), (fun _ h => nomatch h)⟩⟩))) (forest_Good_k (forest_Good_g n) n _ _ _ K) (by kernel_rfl) e

/-! reeve/right.of -/
abbrev right_of_T : Type 1 := (ρ : Type) → Int → (Int → Option ρ) → Option ρ
def right_of_E (G : right_of_T) : EK := fun ρ args K => decL [.i .i64 none] args fun c => G ρ c.1 (fun w0 => K ⟨.i .i64 w0, [], []⟩)
structure right_of_G where
  mk ::
  right_Good : right_Good_T
noncomputable def right_of_s (G : right_of_G) {ρ : Type} (_n : Nat) (a0 : Int) (k0 : (Int → Option ρ)) : Option ρ :=
  G.right_Good ρ a0 (fun w0_0 =>
    bif w0_0 then
      k0 a0
    else k0 0)
noncomputable def right_of_g (n : Nat) : right_of_G := ⟨right_Good n⟩
noncomputable def right_of (n : Nat) : right_of_T := fun _ρ a0 k0 => right_of_s (right_of_g n) n a0 k0
noncomputable def right_of_e (n : Nat) : EK := right_of_E (right_of n)
def right_of_S (G : right_of_G) : CK := tabS [(26, right_Good_E G.right_Good)]
theorem right_of_Sok (n : Nat) : CK.OK (right_of_S (right_of_g n)) (L tab) := tabS_ok _ (List.forall_mem_cons.2 ⟨(right_Good_ok n), (fun _ h => nomatch h)⟩)
def right_of_hs : HintC := hintL []
noncomputable def right_of_lp (_G : right_of_G) (_n : Nat) : LK := tabL []
theorem right_of_k (G : right_of_G) {ρ : Type} (n : Nat) (a0 : Int) (K : Res → Option ρ) : runC (right_of_S G) right_of_hs (right_of_lp G n) m87 [.i .i64 a0] K = right_of_s G n a0 (fun w0 => K ⟨.i .i64 w0, [], []⟩) := by kernel_rfl
theorem right_of_ok (n : Nat) : EK.OK (right_of_e n) 87 (L tab) := EK.shp (fun _ _ _ => rfl) fun ρ K y c e => EK.run (right_of_Sok n) (by kernel_rfl) (MF.LKOK.of (LK.of (l := []) (by kernel_rfl) ((fun _ h => nomatch h)))) (right_of_k (right_of_g n) n _ K) (by kernel_rfl) e

/-! reeve/right.Less -/
abbrev right_Less_T : Type 1 := (ρ : Type) → Int → Int → (Int → Option ρ) → Option ρ
def right_Less_E (G : right_Less_T) : EK := fun ρ args K => decL [.i .i64 none, .i .i64 none] args fun c => G ρ c.1 c.2.1 (fun w0 => K ⟨.i .i64 w0, [], []⟩)
structure right_Less_G where
  mk ::
  right_of : right_of_T
noncomputable def right_Less_s (G : right_Less_G) {ρ : Type} (_n : Nat) (a0 : Int) (a1 : Int) (k0 : (Int → Option ρ)) : Option ρ :=
  G.right_of ρ a0 (fun w0_0 =>
    G.right_of ρ a1 (fun w1_0 =>
      k0 (IntKind.wrap .i64 (BitVec.ofInt (IntKind.bits .i64) w0_0 &&& ~~~ BitVec.ofInt (IntKind.bits .i64) w1_0).toNat)))
noncomputable def right_Less_g (n : Nat) : right_Less_G := ⟨right_of n⟩
noncomputable def right_Less (n : Nat) : right_Less_T := fun _ρ a0 a1 k0 => right_Less_s (right_Less_g n) n a0 a1 k0
noncomputable def right_Less_e (n : Nat) : EK := right_Less_E (right_Less n)
def right_Less_S (G : right_Less_G) : CK := tabS [(87, right_of_E G.right_of)]
theorem right_Less_Sok (n : Nat) : CK.OK (right_Less_S (right_Less_g n)) (L tab) := tabS_ok _ (List.forall_mem_cons.2 ⟨(right_of_ok n), (fun _ h => nomatch h)⟩)
def right_Less_hs : HintC := hintL []
noncomputable def right_Less_lp (_G : right_Less_G) (_n : Nat) : LK := tabL []
theorem right_Less_k (G : right_Less_G) {ρ : Type} (n : Nat) (a0 : Int) (a1 : Int) (K : Res → Option ρ) : runC (right_Less_S G) right_Less_hs (right_Less_lp G n) m53 [.i .i64 a0, .i .i64 a1] K = right_Less_s G n a0 a1 (fun w0 => K ⟨.i .i64 w0, [], []⟩) := by kernel_rfl
theorem right_Less_ok (n : Nat) : EK.OK (right_Less_e n) 53 (L tab) := EK.shp (fun _ _ _ => rfl) fun ρ K y c e => EK.run (right_Less_Sok n) (by kernel_rfl) (MF.LKOK.of (LK.of (l := []) (by kernel_rfl) ((fun _ h => nomatch h)))) (right_Less_k (right_Less_g n) n _ _ K) (by kernel_rfl) e

/-! reeve/right.Within -/
abbrev right_Within_T : Type 1 := (ρ : Type) → Int → Int → (Bool → Option ρ) → Option ρ
def right_Within_E (G : right_Within_T) : EK := fun ρ args K => decL [.i .i64 none, .i .i64 none] args fun c => G ρ c.1 c.2.1 (fun w0 => K ⟨.b w0, [], []⟩)
structure right_Within_G where
  mk ::
  right_Less : right_Less_T
noncomputable def right_Within_s (G : right_Within_G) {ρ : Type} (_n : Nat) (a0 : Int) (a1 : Int) (k0 : (Bool → Option ρ)) : Option ρ :=
  G.right_Less ρ a0 a1 (fun w0_0 =>
    bif ((w0_0 : Int) == 0) then
      k0 true
    else k0 false)
noncomputable def right_Within_g (n : Nat) : right_Within_G := ⟨right_Less n⟩
noncomputable def right_Within (n : Nat) : right_Within_T := fun _ρ a0 a1 k0 => right_Within_s (right_Within_g n) n a0 a1 k0
noncomputable def right_Within_e (n : Nat) : EK := right_Within_E (right_Within n)
def right_Within_S (G : right_Within_G) : CK := tabS [(53, right_Less_E G.right_Less)]
theorem right_Within_Sok (n : Nat) : CK.OK (right_Within_S (right_Within_g n)) (L tab) := tabS_ok _ (List.forall_mem_cons.2 ⟨(right_Less_ok n), (fun _ h => nomatch h)⟩)
def right_Within_hs : HintC := hintL []
noncomputable def right_Within_lp (_G : right_Within_G) (_n : Nat) : LK := tabL []
theorem right_Within_k (G : right_Within_G) {ρ : Type} (n : Nat) (a0 : Int) (a1 : Int) (K : Res → Option ρ) : runC (right_Within_S G) right_Within_hs (right_Within_lp G n) m22 [.i .i64 a0, .i .i64 a1] K = right_Within_s G n a0 a1 (fun w0 => K ⟨.b w0, [], []⟩) := by kernel_rfl
theorem right_Within_ok (n : Nat) : EK.OK (right_Within_e n) 22 (L tab) := EK.shp (fun _ _ _ => rfl) fun ρ K y c e => EK.run (right_Within_Sok n) (by kernel_rfl) (MF.LKOK.of (LK.of (l := []) (by kernel_rfl) ((fun _ h => nomatch h)))) (right_Within_k (right_Within_g n) n _ _ K) (by kernel_rfl) e

/-! reeve/cap.Less -/
abbrev cap_Less_T : Type 1 := (ρ : Type) → Int → Int → Int → Int → Int → Int → Int → Int → (Bool → Option ρ) → Option ρ
def cap_Less_E (G : cap_Less_T) : EK := fun ρ args K => decL [.agg [.i .i64 none, .i .i64 none, .i .i64 none, .i .i64 none], .agg [.i .i64 none, .i .i64 none, .i .i64 none, .i .i64 none]] args fun c => G ρ c.1.1 c.1.2.1 c.1.2.2.1 c.1.2.2.2.1 c.2.1.1 c.2.1.2.1 c.2.1.2.2.1 c.2.1.2.2.2.1 (fun w0 => K ⟨.b w0, [], []⟩)
structure cap_Less_G where
  mk ::
  cap_None : cap_None_T
  right_Within : right_Within_T
noncomputable def cap_Less_s (G : cap_Less_G) {ρ : Type} (_n : Nat) (a0 : Int) (a1 : Int) (a2 : Int) (a3 : Int) (a4 : Int) (a5 : Int) (a6 : Int) (a7 : Int) (k0 : (Bool → Option ρ)) : Option ρ :=
  G.cap_None ρ a0 a1 a2 a3 (fun w0_0 =>
    bif w0_0 then
      k0 true
    else bif ((a0 : Int) == a4) then
      bif ((a1 : Int) == a5) then
        G.right_Within ρ a2 a6 (fun w1_0 =>
          bif w1_0 then
            bif ((a7 : Int) == 0) then
              k0 true
            else bif ((a7 : Int) == a3) then
              k0 true
            else k0 false
          else k0 false)
      else k0 false
    else k0 false)
noncomputable def cap_Less_g (n : Nat) : cap_Less_G := ⟨cap_None n, right_Within n⟩
noncomputable def cap_Less (n : Nat) : cap_Less_T := fun _ρ a0 a1 a2 a3 a4 a5 a6 a7 k0 => cap_Less_s (cap_Less_g n) n a0 a1 a2 a3 a4 a5 a6 a7 k0
noncomputable def cap_Less_e (n : Nat) : EK := cap_Less_E (cap_Less n)
def cap_Less_S (G : cap_Less_G) : CK := tabS [(24, cap_None_E G.cap_None), (22, right_Within_E G.right_Within)]
theorem cap_Less_Sok (n : Nat) : CK.OK (cap_Less_S (cap_Less_g n)) (L tab) := tabS_ok _ (List.forall_mem_cons.2 ⟨(cap_None_ok n), List.forall_mem_cons.2 ⟨(right_Within_ok n), (fun _ h => nomatch h)⟩⟩)
def cap_Less_hs : HintC := hintL []
noncomputable def cap_Less_lp (_G : cap_Less_G) (_n : Nat) : LK := tabL []
theorem cap_Less_k (G : cap_Less_G) {ρ : Type} (n : Nat) (a0 : Int) (a1 : Int) (a2 : Int) (a3 : Int) (a4 : Int) (a5 : Int) (a6 : Int) (a7 : Int) (K : Res → Option ρ) : runC (cap_Less_S G) cap_Less_hs (cap_Less_lp G n) m66 [.agg [.i .i64 a0, .i .i64 a1, .i .i64 a2, .i .i64 a3], .agg [.i .i64 a4, .i .i64 a5, .i .i64 a6, .i .i64 a7]] K = cap_Less_s G n a0 a1 a2 a3 a4 a5 a6 a7 (fun w0 => K ⟨.b w0, [], []⟩) := by kernel_rfl
theorem cap_Less_ok (n : Nat) : EK.OK (cap_Less_e n) 66 (L tab) := EK.shp (fun _ _ _ => rfl) fun ρ K y c e => EK.run (cap_Less_Sok n) (by kernel_rfl) (MF.LKOK.of (LK.of (l := []) (by kernel_rfl) ((fun _ h => nomatch h)))) (cap_Less_k (cap_Less_g n) n _ _ _ _ _ _ _ _ K) (by kernel_rfl) e

/-! (reeve/state.State).allowed -/
abbrev state_State_allowed_T : Type 1 := (ρ : Type) → Int → Int → Int → Bool → Bool → Rows → Bool → Bool → Rows → (Bool → Option ρ) → Option ρ
def state_State_allowed_E (G : state_State_allowed_T) : EK := fun ρ args K => decL [.agg [.i .i64 none, .i .i64 none, .i .i64 none, .lst none none 5 none, .lst none none 13 none]] args fun c => G ρ c.1.1 c.1.2.1 c.1.2.2.1 c.1.2.2.2.1.1 c.1.2.2.2.1.2.1 c.1.2.2.2.1.2.2 c.1.2.2.2.2.1.1 c.1.2.2.2.2.1.2.1 c.1.2.2.2.2.1.2.2 (fun w0 => K ⟨.b w0, [], []⟩)
structure state_State_allowed_G where
  mk ::
  cap_Less : cap_Less_T
abbrev state_State_allowed_l6_V : Type := Int × Int
noncomputable def state_State_allowed_l6_s (G : state_State_allowed_G) {ρ : Type} (_n : Nat) (_p1 : Bool) (_p2 : Bool) (_p3 : Rows) (_p4 : Int) (_p5 : Int) (p6 : Int) (_p7 : Int) (_p8 : Int) (_p9 : Int) (_p10 : Bool) (_p11 : Bool) (p12 : Rows) (_p13 : Bool) (_p14 : Bool) (_p15 : Rows) (p16 : Int) (p17 : Int) (p18 : Int) (p19 : Int) (_p20 : Int) (k0 : (Option ρ)) (k1 : (Option ρ)) (rec' : state_State_allowed_l6_V → Option ρ) : state_State_allowed_l6_V → Option ρ
  | v =>
  bif decide ((v.2 : Int) < p6) then
    bif decide ((v.1 : Int) < 0) then
      k0
    else rowT [.i .i64, .i .i64, .i .i64, .i .i64, .i .i64] p12 v.1 fun c0 =>
    G.cap_Less ρ p16 p17 p18 p19 c0.1 c0.2.1 c0.2.2.1 c0.2.2.2.1 (fun w1_0 =>
      bif w1_0 then
        rec' (c0.2.2.2.2.1, (IntKind.wrap .i64 (v.2 + 1)))
      else bif ((c0.1 : Int) != 1) then
        k1
      else bif ((p17 : Int) == c0.2.1) then
        k1
      else rec' (c0.2.2.2.2.1, (IntKind.wrap .i64 (v.2 + 1))))
  else k0
noncomputable def state_State_allowed_l6 (G : state_State_allowed_G) {ρ : Type} (n : Nat) (p1 : Bool) (p2 : Bool) (p3 : Rows) (p4 : Int) (p5 : Int) (p6 : Int) (p7 : Int) (p8 : Int) (p9 : Int) (p10 : Bool) (p11 : Bool) (p12 : Rows) (p13 : Bool) (p14 : Bool) (p15 : Rows) (p16 : Int) (p17 : Int) (p18 : Int) (p19 : Int) (p20 : Int) (k0 : (Option ρ)) (k1 : (Option ρ)) (v : state_State_allowed_l6_V) : Option ρ := fuelN (state_State_allowed_l6_s G n p1 p2 p3 p4 p5 p6 p7 p8 p9 p10 p11 p12 p13 p14 p15 p16 p17 p18 p19 p20 k0 k1) n v
def state_State_allowed_l6_enc (p1 : Bool) (p2 : Bool) (p3 : Rows) (p4 : Int) (p5 : Int) (p6 : Int) (p7 : Int) (p8 : Int) (p9 : Int) (p10 : Bool) (p11 : Bool) (p12 : Rows) (p13 : Bool) (p14 : Bool) (p15 : Rows) (p16 : Int) (p17 : Int) (p18 : Int) (p19 : Int) (p20 : Int) : state_State_allowed_l6_V → St
  | v => ⟨[(1, .ptr 0 1 5 0 0), (4, .ptr 1 1 5 0 0), (5, .i .i64 v.1), (8, .lst p1 p2 5 p3), (9, .i .i64 p4), (10, .i .i64 p5), (18, .i .i64 p6), (19, .i .i64 v.2)], [.row 5 true false [[.i .i64 p7, .i .i64 p8, .i .i64 p9, .lst p10 p11 5 p12, .lst p13 p14 13 p15]], .row 5 true false [[.i .i64 p16, .i .i64 p17, .i .i64 p18, .i .i64 p19, .i .i64 p20]]]⟩
abbrev state_State_allowed_l2_V : Type := Int
noncomputable def state_State_allowed_l2_s (G : state_State_allowed_G) {ρ : Type} (n : Nat) (p0 : Bool) (p1 : Bool) (p2 : Rows) (p3 : Int) (p4 : Int) (p5 : Int) (p6 : Int) (p7 : Bool) (p8 : Bool) (p9 : Rows) (p10 : Bool) (p11 : Bool) (p12 : Rows) (k0 : (Option ρ)) (k1 : (Option ρ)) (rec' : state_State_allowed_l2_V → Option ρ) : state_State_allowed_l2_V → Option ρ
  | v =>
  bif decide ((v : Int) < p3) then
    rowT [.i .i64, .i .i64, .i .i64, .i .i64, .i .i64] p2 v fun c0 =>
    state_State_allowed_l6 G n p0 p1 p2 p3 v (((List.length (p9 : Rows)) : Nat) : Int) p4 p5 p6 p7 p8 p9 p10 p11 p12 c0.1 c0.2.1 c0.2.2.1 c0.2.2.2.1 c0.2.2.2.2.1 (rec' ((IntKind.wrap .i64 (v + 1)))) (k0) (c0.2.2.2.2.1, 0)
  else k1
noncomputable def state_State_allowed_l2 (G : state_State_allowed_G) {ρ : Type} (n : Nat) (p0 : Bool) (p1 : Bool) (p2 : Rows) (p3 : Int) (p4 : Int) (p5 : Int) (p6 : Int) (p7 : Bool) (p8 : Bool) (p9 : Rows) (p10 : Bool) (p11 : Bool) (p12 : Rows) (k0 : (Option ρ)) (k1 : (Option ρ)) (v : state_State_allowed_l2_V) : Option ρ := fuelN (state_State_allowed_l2_s G n p0 p1 p2 p3 p4 p5 p6 p7 p8 p9 p10 p11 p12 k0 k1) n v
def state_State_allowed_l2_enc (p0 : Bool) (p1 : Bool) (p2 : Rows) (p3 : Int) (p4 : Int) (p5 : Int) (p6 : Int) (p7 : Bool) (p8 : Bool) (p9 : Rows) (p10 : Bool) (p11 : Bool) (p12 : Rows) : state_State_allowed_l2_V → St
  | v => ⟨[(1, .ptr 0 1 5 0 0), (8, .lst p0 p1 5 p2), (9, .i .i64 p3), (10, .i .i64 v)], [.row 5 true false [[.i .i64 p4, .i .i64 p5, .i .i64 p6, .lst p7 p8 5 p9, .lst p10 p11 13 p12]]]⟩
noncomputable def state_State_allowed_s (G : state_State_allowed_G) {ρ : Type} (n : Nat) (a0 : Int) (a1 : Int) (a2 : Int) (a3 : Bool) (a4 : Bool) (a5 : Rows) (a6 : Bool) (a7 : Bool) (a8 : Rows) (k0 : (Bool → Option ρ)) : Option ρ :=
  state_State_allowed_l2 G n a3 a4 a5 (((List.length (a5 : Rows)) : Nat) : Int) a0 a1 a2 a3 a4 a5 a6 a7 a8 (k0 false) (k0 true) (0)
noncomputable def state_State_allowed_g (n : Nat) : state_State_allowed_G := ⟨cap_Less n⟩
noncomputable def state_State_allowed (n : Nat) : state_State_allowed_T := fun _ρ a0 a1 a2 a3 a4 a5 a6 a7 a8 k0 => state_State_allowed_s (state_State_allowed_g n) n a0 a1 a2 a3 a4 a5 a6 a7 a8 k0
noncomputable def state_State_allowed_e (n : Nat) : EK := state_State_allowed_E (state_State_allowed n)
def state_State_allowed_S (G : state_State_allowed_G) : CK := tabS [(66, cap_Less_E G.cap_Less)]
theorem state_State_allowed_Sok (n : Nat) : CK.OK (state_State_allowed_S (state_State_allowed_g n)) (L tab) := tabS_ok _ (List.forall_mem_cons.2 ⟨(cap_Less_ok n), (fun _ h => nomatch h)⟩)
def state_State_allowed_hs : HintC := hintL [(12, [.i .i64, .i .i64, .i .i64, .i .i64, .i .i64]), (26, [.i .i64, .i .i64, .i .i64, .i .i64, .i .i64])]
def state_State_allowed_c6 : Nat × List Nat × List Nat × MC := loopAt 6 m42
noncomputable def state_State_allowed_l6_d (G : state_State_allowed_G) (n : Nat) : Go.Rv.LE := fun _ρ h K => decSt [(1, .ptr 0 5 0 (some 1) (some 0)), (4, .ptr 1 5 0 (some 1) (some 0)), (5, .i .i64 none), (8, .lst none none 5 none), (9, .i .i64 none), (10, .i .i64 none), (18, .i .i64 none), (19, .i .i64 none)] [.row 5 true false (some [[.i .i64 none, .i .i64 none, .i .i64 none, .lst none none 5 none, .lst none none 13 none]]), .row 5 true false (some [[.i .i64 none, .i .i64 none, .i .i64 none, .i .i64 none, .i .i64 none]])] h fun a b => state_State_allowed_l6 G n a.2.2.2.1.1 a.2.2.2.1.2.1 a.2.2.2.1.2.2 a.2.2.2.2.1 a.2.2.2.2.2.1 a.2.2.2.2.2.2.1 b.1.1.1 b.1.1.2.1 b.1.1.2.2.1 b.1.1.2.2.2.1.1 b.1.1.2.2.2.1.2.1 b.1.1.2.2.2.1.2.2 b.1.1.2.2.2.2.1.1 b.1.1.2.2.2.2.1.2.1 b.1.1.2.2.2.2.1.2.2 b.2.1.1.1 b.2.1.1.2.1 b.2.1.1.2.2.1 b.2.1.1.2.2.2.1 b.2.1.1.2.2.2.2.1 (K (.exit 2) ⟨[(1, .ptr 0 1 5 0 0), (2, .u), (8, .lst a.2.2.2.1.1 a.2.2.2.1.2.1 5 a.2.2.2.1.2.2), (9, .i .i64 a.2.2.2.2.1), (10, .i .i64 a.2.2.2.2.2.1)], [.row 5 true false [[.i .i64 b.1.1.1, .i .i64 b.1.1.2.1, .i .i64 b.1.1.2.2.1, .lst b.1.1.2.2.2.1.1 b.1.1.2.2.2.1.2.1 5 b.1.1.2.2.2.1.2.2, .lst b.1.1.2.2.2.2.1.1 b.1.1.2.2.2.2.1.2.1 13 b.1.1.2.2.2.2.1.2.2]], .row 5 true false [[.i .i64 b.2.1.1.1, .i .i64 b.2.1.1.2.1, .i .i64 b.2.1.1.2.2.1, .i .i64 b.2.1.1.2.2.2.1, .i .i64 b.2.1.1.2.2.2.2.1]]]⟩) (K .ret ⟨[(1, .ptr 0 1 5 0 0), (2, .b false), (8, .lst a.2.2.2.1.1 a.2.2.2.1.2.1 5 a.2.2.2.1.2.2), (9, .i .i64 a.2.2.2.2.1), (10, .i .i64 a.2.2.2.2.2.1)], [.row 5 true false [[.i .i64 b.1.1.1, .i .i64 b.1.1.2.1, .i .i64 b.1.1.2.2.1, .lst b.1.1.2.2.2.1.1 b.1.1.2.2.2.1.2.1 5 b.1.1.2.2.2.1.2.2, .lst b.1.1.2.2.2.2.1.1 b.1.1.2.2.2.2.1.2.1 13 b.1.1.2.2.2.2.1.2.2]], .row 5 true false [[.i .i64 b.2.1.1.1, .i .i64 b.2.1.1.2.1, .i .i64 b.2.1.1.2.2.1, .i .i64 b.2.1.1.2.2.2.1, .i .i64 b.2.1.1.2.2.2.2.1]]]⟩) (a.2.2.1, a.2.2.2.2.2.2.2.1)
noncomputable def state_State_allowed_d6 (G : state_State_allowed_G) (n : Nat) : Go.Rv.LE := state_State_allowed_l6_d G n
def state_State_allowed_c2 : Nat × List Nat × List Nat × MC := loopAt 2 m42
noncomputable def state_State_allowed_l2_d (G : state_State_allowed_G) (n : Nat) : Go.Rv.LE := fun _ρ h K => decSt [(1, .ptr 0 5 0 (some 1) (some 0)), (8, .lst none none 5 none), (9, .i .i64 none), (10, .i .i64 none)] [.row 5 true false (some [[.i .i64 none, .i .i64 none, .i .i64 none, .lst none none 5 none, .lst none none 13 none]])] h fun a b => state_State_allowed_l2 G n a.2.1.1 a.2.1.2.1 a.2.1.2.2 a.2.2.1 b.1.1.1 b.1.1.2.1 b.1.1.2.2.1 b.1.1.2.2.2.1.1 b.1.1.2.2.2.1.2.1 b.1.1.2.2.2.1.2.2 b.1.1.2.2.2.2.1.1 b.1.1.2.2.2.2.1.2.1 b.1.1.2.2.2.2.1.2.2 (K .ret ⟨[(2, .b false)], [.row 5 true false [[.i .i64 b.1.1.1, .i .i64 b.1.1.2.1, .i .i64 b.1.1.2.2.1, .lst b.1.1.2.2.2.1.1 b.1.1.2.2.2.1.2.1 5 b.1.1.2.2.2.1.2.2, .lst b.1.1.2.2.2.2.1.1 b.1.1.2.2.2.2.1.2.1 13 b.1.1.2.2.2.2.1.2.2]]]⟩) (K (.exit 0) ⟨[(2, .u)], [.row 5 true false [[.i .i64 b.1.1.1, .i .i64 b.1.1.2.1, .i .i64 b.1.1.2.2.1, .lst b.1.1.2.2.2.1.1 b.1.1.2.2.2.1.2.1 5 b.1.1.2.2.2.1.2.2, .lst b.1.1.2.2.2.2.1.1 b.1.1.2.2.2.2.1.2.1 13 b.1.1.2.2.2.2.1.2.2]]]⟩) (a.2.2.2.1)
noncomputable def state_State_allowed_d2 (G : state_State_allowed_G) (n : Nat) : Go.Rv.LE := state_State_allowed_l2_d G n
noncomputable def state_State_allowed_lp (G : state_State_allowed_G) (n : Nat) : LK := tabL [(6, state_State_allowed_d6 G n), (2, state_State_allowed_d2 G n)]
theorem state_State_allowed_l6_k (G : state_State_allowed_G) {ρ : Type} (n : Nat) (p1 : Bool) (p2 : Bool) (p3 : Rows) (p4 : Int) (p5 : Int) (p6 : Int) (p7 : Int) (p8 : Int) (p9 : Int) (p10 : Bool) (p11 : Bool) (p12 : Rows) (p13 : Bool) (p14 : Bool) (p15 : Rows) (p16 : Int) (p17 : Int) (p18 : Int) (p19 : Int) (p20 : Int) (K : Ex → St → Option ρ) (N : St → Option ρ) : ∀ v, roundC (state_State_allowed_S G) state_State_allowed_hs (state_State_allowed_lp G n) state_State_allowed_c6 2 N K (state_State_allowed_l6_enc p1 p2 p3 p4 p5 p6 p7 p8 p9 p10 p11 p12 p13 p14 p15 p16 p17 p18 p19 p20 v) = state_State_allowed_l6_s G n p1 p2 p3 p4 p5 p6 p7 p8 p9 p10 p11 p12 p13 p14 p15 p16 p17 p18 p19 p20 (K (.exit 2) ⟨[(1, .ptr 0 1 5 0 0), (2, .u), (8, .lst p1 p2 5 p3), (9, .i .i64 p4), (10, .i .i64 p5)], [.row 5 true false [[.i .i64 p7, .i .i64 p8, .i .i64 p9, .lst p10 p11 5 p12, .lst p13 p14 13 p15]], .row 5 true false [[.i .i64 p16, .i .i64 p17, .i .i64 p18, .i .i64 p19, .i .i64 p20]]]⟩) (K .ret ⟨[(1, .ptr 0 1 5 0 0), (2, .b false), (8, .lst p1 p2 5 p3), (9, .i .i64 p4), (10, .i .i64 p5)], [.row 5 true false [[.i .i64 p7, .i .i64 p8, .i .i64 p9, .lst p10 p11 5 p12, .lst p13 p14 13 p15]], .row 5 true false [[.i .i64 p16, .i .i64 p17, .i .i64 p18, .i .i64 p19, .i .i64 p20]]]⟩) (fun v => N (state_State_allowed_l6_enc p1 p2 p3 p4 p5 p6 p7 p8 p9 p10 p11 p12 p13 p14 p15 p16 p17 p18 p19 p20 v)) v
  | v => by kernel_rfl
theorem state_State_allowed_l6_dok (n : Nat) : LE.OK (state_State_allowed_l6_d (state_State_allowed_g n) n) (L tab) state_State_allowed_c6 := LE.shp (fun _ _ _ => rfl) fun ρ K y a b e => LE.rounds (state_State_allowed_Sok n) (LK.of (l := []) (by kernel_rfl) ((fun _ h => nomatch h))) (state_State_allowed_l6_k (state_State_allowed_g n) n _ _ _ _ _ _ _ _ _ _ _ _ _ _ _ _ _ _ _ _ K) (by kernel_rfl) (by kernel_rfl) e
theorem state_State_allowed_d6_ok (n : Nat) : LE.OK (state_State_allowed_d6 (state_State_allowed_g n) n) (L tab) state_State_allowed_c6 := state_State_allowed_l6_dok n
theorem state_State_allowed_l2_k (G : state_State_allowed_G) {ρ : Type} (n : Nat) (p0 : Bool) (p1 : Bool) (p2 : Rows) (p3 : Int) (p4 : Int) (p5 : Int) (p6 : Int) (p7 : Bool) (p8 : Bool) (p9 : Rows) (p10 : Bool) (p11 : Bool) (p12 : Rows) (K : Ex → St → Option ρ) (N : St → Option ρ) : ∀ v, roundC (state_State_allowed_S G) state_State_allowed_hs (state_State_allowed_lp G n) state_State_allowed_c2 1 N K (state_State_allowed_l2_enc p0 p1 p2 p3 p4 p5 p6 p7 p8 p9 p10 p11 p12 v) = state_State_allowed_l2_s G n p0 p1 p2 p3 p4 p5 p6 p7 p8 p9 p10 p11 p12 (K .ret ⟨[(2, .b false)], [.row 5 true false [[.i .i64 p4, .i .i64 p5, .i .i64 p6, .lst p7 p8 5 p9, .lst p10 p11 13 p12]]]⟩) (K (.exit 0) ⟨[(2, .u)], [.row 5 true false [[.i .i64 p4, .i .i64 p5, .i .i64 p6, .lst p7 p8 5 p9, .lst p10 p11 13 p12]]]⟩) (fun v => N (state_State_allowed_l2_enc p0 p1 p2 p3 p4 p5 p6 p7 p8 p9 p10 p11 p12 v)) v
  | v => by kernel_rfl
theorem state_State_allowed_l2_dok (n : Nat) : LE.OK (state_State_allowed_l2_d (state_State_allowed_g n) n) (L tab) state_State_allowed_c2 := LE.shp (fun _ _ _ => rfl) fun ρ K y a b e => LE.rounds (state_State_allowed_Sok n) (LK.of (l := [state_State_allowed_c6]) (by kernel_rfl) (List.forall_mem_cons.2 ⟨LE.at (e := state_State_allowed_d6 (state_State_allowed_g n) n) (by kernel_rfl) (state_State_allowed_d6_ok n), (fun _ h => nomatch h)⟩)) (state_State_allowed_l2_k (state_State_allowed_g n) n _ _ _ _ _ _ _ _ _ _ _ _ _ K) (by kernel_rfl) (by kernel_rfl) e
theorem state_State_allowed_d2_ok (n : Nat) : LE.OK (state_State_allowed_d2 (state_State_allowed_g n) n) (L tab) state_State_allowed_c2 := state_State_allowed_l2_dok n
theorem state_State_allowed_k (G : state_State_allowed_G) {ρ : Type} (n : Nat) (a0 : Int) (a1 : Int) (a2 : Int) (a3 : Bool) (a4 : Bool) (a5 : Rows) (a6 : Bool) (a7 : Bool) (a8 : Rows) (K : Res → Option ρ) : runC (state_State_allowed_S G) state_State_allowed_hs (state_State_allowed_lp G n) m42 [.agg [.i .i64 a0, .i .i64 a1, .i .i64 a2, .lst a3 a4 5 a5, .lst a6 a7 13 a8]] K = state_State_allowed_s G n a0 a1 a2 a3 a4 a5 a6 a7 a8 (fun w0 => K ⟨.b w0, [], []⟩) := by kernel_rfl
theorem state_State_allowed_ok (n : Nat) : EK.OK (state_State_allowed_e n) 42 (L tab) := EK.shp (fun _ _ _ => rfl) fun ρ K y c e => EK.run (state_State_allowed_Sok n) (by kernel_rfl) (MF.LKOK.of (LK.of (l := [state_State_allowed_c2]) (by kernel_rfl) (List.forall_mem_cons.2 ⟨LE.at (e := state_State_allowed_d2 (state_State_allowed_g n) n) (by kernel_rfl) (state_State_allowed_d2_ok n), (fun _ h => nomatch h)⟩))) (state_State_allowed_k (state_State_allowed_g n) n _ _ _ _ _ _ _ _ _ K) (by kernel_rfl) e

/-! reeve/state.Good -/
abbrev state_Good_T : Type 1 := (ρ : Type) → Int → Int → Int → Bool → Bool → Rows → Bool → Bool → Rows → (Bool → Option ρ) → Option ρ
def state_Good_E (G : state_Good_T) : EK := fun ρ args K => decL [.agg [.i .i64 none, .i .i64 none, .i .i64 none, .lst none none 5 none, .lst none none 13 none]] args fun c => G ρ c.1.1 c.1.2.1 c.1.2.2.1 c.1.2.2.2.1.1 c.1.2.2.2.1.2.1 c.1.2.2.2.1.2.2 c.1.2.2.2.2.1.1 c.1.2.2.2.2.1.2.1 c.1.2.2.2.2.1.2.2 (fun w0 => K ⟨.b w0, [], []⟩)
structure state_Good_G where
  mk ::
  geo_Good : geo_Good_T
  state_State_caps : state_State_caps_T
  state_State_things : state_State_things_T
  state_State_nodes : state_State_nodes_T
  state_State_ring : state_State_ring_T
  state_Forest : state_Forest_T
  forest_Good : forest_Good_T
  state_State_allowed : state_State_allowed_T
noncomputable def state_Good_s (G : state_Good_G) {ρ : Type} (_n : Nat) (a0 : Int) (a1 : Int) (a2 : Int) (a3 : Bool) (a4 : Bool) (a5 : Rows) (a6 : Bool) (a7 : Bool) (a8 : Rows) (k0 : (Bool → Option ρ)) : Option ρ :=
  G.geo_Good ρ a0 a1 a2 (fun w0_0 =>
    bif w0_0 then
      bif (((((List.length (a5 : Rows)) : Nat) : Int) : Int) != a1) then
        k0 false
      else bif (((((List.length (a8 : Rows)) : Nat) : Int) : Int) != a2) then
        k0 false
      else G.state_State_caps ρ a0 a1 a2 a3 a4 a5 a6 a7 a8 (fun w1_0 =>
        bif w1_0 then
          G.state_State_things ρ a0 a1 a2 a3 a4 a5 a6 a7 a8 (fun w2_0 =>
            bif w2_0 then
              G.state_State_nodes ρ a0 a1 a2 a3 a4 a5 a6 a7 a8 (fun w3_0 =>
                bif w3_0 then
                  G.state_State_ring ρ a0 a1 a2 a3 a4 a5 a6 a7 a8 (fun w4_0 =>
                    bif w4_0 then
                      k0 false
                    else G.state_Forest ρ a0 a1 a2 a3 a4 a5 a6 a7 a8 (fun w5_0 w5_1 w5_2 =>
                      G.forest_Good ρ w5_0 w5_1 w5_2 (fun w6_0 =>
                        bif w6_0 then
                          G.state_State_allowed ρ a0 a1 a2 a3 a4 a5 a6 a7 a8 (fun w7_0 =>
                            bif w7_0 then
                              k0 true
                            else k0 false)
                        else k0 false)))
                else k0 false)
            else k0 false)
        else k0 false)
    else k0 false)
noncomputable def state_Good_g (n : Nat) : state_Good_G := ⟨geo_Good n, state_State_caps n, state_State_things n, state_State_nodes n, state_State_ring n, state_Forest n, forest_Good n, state_State_allowed n⟩
noncomputable def state_Good (n : Nat) : state_Good_T := fun _ρ a0 a1 a2 a3 a4 a5 a6 a7 a8 k0 => state_Good_s (state_Good_g n) n a0 a1 a2 a3 a4 a5 a6 a7 a8 k0
noncomputable def state_Good_e (n : Nat) : EK := state_Good_E (state_Good n)
def state_Good_S (G : state_Good_G) : CK := tabS [(36, geo_Good_E G.geo_Good), (37, state_State_caps_E G.state_State_caps), (38, state_State_things_E G.state_State_things), (39, state_State_nodes_E G.state_State_nodes), (40, state_State_ring_E G.state_State_ring), (31, state_Forest_E G.state_Forest), (41, forest_Good_E G.forest_Good), (42, state_State_allowed_E G.state_State_allowed)]
theorem state_Good_Sok (n : Nat) : CK.OK (state_Good_S (state_Good_g n)) (L tab) := tabS_ok _ (List.forall_mem_cons.2 ⟨(geo_Good_ok n), List.forall_mem_cons.2 ⟨(state_State_caps_ok n), List.forall_mem_cons.2 ⟨(state_State_things_ok n), List.forall_mem_cons.2 ⟨(state_State_nodes_ok n), List.forall_mem_cons.2 ⟨(state_State_ring_ok n), List.forall_mem_cons.2 ⟨(state_Forest_ok n), List.forall_mem_cons.2 ⟨(forest_Good_ok n), List.forall_mem_cons.2 ⟨(state_State_allowed_ok n), (fun _ h => nomatch h)⟩⟩⟩⟩⟩⟩⟩⟩)
def state_Good_hs : HintC := hintL []
noncomputable def state_Good_lp (_G : state_Good_G) (_n : Nat) : LK := tabL []
theorem state_Good_k (G : state_Good_G) {ρ : Type} (n : Nat) (a0 : Int) (a1 : Int) (a2 : Int) (a3 : Bool) (a4 : Bool) (a5 : Rows) (a6 : Bool) (a7 : Bool) (a8 : Rows) (K : Res → Option ρ) : runC (state_Good_S G) state_Good_hs (state_Good_lp G n) m16 [.agg [.i .i64 a0, .i .i64 a1, .i .i64 a2, .lst a3 a4 5 a5, .lst a6 a7 13 a8]] K = state_Good_s G n a0 a1 a2 a3 a4 a5 a6 a7 a8 (fun w0 => K ⟨.b w0, [], []⟩) := by kernel_rfl
theorem state_Good_ok (n : Nat) : EK.OK (state_Good_e n) 16 (L tab) := EK.shp (fun _ _ _ => rfl) fun ρ K y c e => EK.run (state_Good_Sok n) (by kernel_rfl) (MF.LKOK.of (LK.of (l := []) (by kernel_rfl) ((fun _ h => nomatch h)))) (state_Good_k (state_Good_g n) n _ _ _ _ _ _ _ _ _ K) (by kernel_rfl) e

/-! reeve/find.in -/
abbrev find_in_T : Type 1 := (ρ : Type) → Int → Int → Int → (Bool → Option ρ) → Option ρ
def find_in_E (G : find_in_T) : EK := fun ρ args K => decL [.i .i64 none, .i .i64 none, .i .i64 none] args fun c => G ρ c.1 c.2.1 c.2.2.1 (fun w0 => K ⟨.b w0, [], []⟩)
structure find_in_G where
  mk ::
noncomputable def find_in_s (_G : find_in_G) {ρ : Type} (_n : Nat) (a0 : Int) (a1 : Int) (a2 : Int) (k0 : (Bool → Option ρ)) : Option ρ :=
  bif decide ((a0 : Int) ≥ a1) then
    bif decide ((a0 : Int) ≤ a2) then
      k0 true
    else k0 false
  else k0 false
noncomputable def find_in_g (_n : Nat) : find_in_G := ⟨⟩
noncomputable def find_in (n : Nat) : find_in_T := fun _ρ a0 a1 a2 k0 => find_in_s (find_in_g n) n a0 a1 a2 k0
noncomputable def find_in_e (n : Nat) : EK := find_in_E (find_in n)
def find_in_S (_G : find_in_G) : CK := tabS []
theorem find_in_Sok (n : Nat) : CK.OK (find_in_S (find_in_g n)) (L tab) := tabS_ok _ ((fun _ h => nomatch h))
def find_in_hs : HintC := hintL []
noncomputable def find_in_lp (_G : find_in_G) (_n : Nat) : LK := tabL []
theorem find_in_k (G : find_in_G) {ρ : Type} (n : Nat) (a0 : Int) (a1 : Int) (a2 : Int) (K : Res → Option ρ) : runC (find_in_S G) find_in_hs (find_in_lp G n) m84 [.i .i64 a0, .i .i64 a1, .i .i64 a2] K = find_in_s G n a0 a1 a2 (fun w0 => K ⟨.b w0, [], []⟩) := by kernel_rfl
theorem find_in_ok (n : Nat) : EK.OK (find_in_e n) 84 (L tab) := EK.shp (fun _ _ _ => rfl) fun ρ K y c e => EK.run (find_in_Sok n) (by kernel_rfl) (MF.LKOK.of (LK.of (l := []) (by kernel_rfl) ((fun _ h => nomatch h)))) (find_in_k (find_in_g n) n _ _ _ K) (by kernel_rfl) e

/-! reeve/find.step -/
abbrev find_step_T : Type 1 := (ρ : Type) → Int → Int → Int → Int → Int → Int → Int → Bool → Int → Int → Int → Int → Int → Int → (Int → Option ρ) → Option ρ
def find_step_E (G : find_step_T) : EK := fun ρ args K => decL [.agg [.i .i64 none, .i .i64 none, .i .i64 none, .i .i64 none, .i .i64 none, .i .i64 none, .i .i64 none, .b none, .i .u64 none, .i .u64 none, .i .u64 none, .i .u64 none, .i .u64 none], .i .i64 none] args fun c => G ρ c.1.1 c.1.2.1 c.1.2.2.1 c.1.2.2.2.1 c.1.2.2.2.2.1 c.1.2.2.2.2.2.1 c.1.2.2.2.2.2.2.1 c.1.2.2.2.2.2.2.2.1 c.1.2.2.2.2.2.2.2.2.1 c.1.2.2.2.2.2.2.2.2.2.1 c.1.2.2.2.2.2.2.2.2.2.2.1 c.1.2.2.2.2.2.2.2.2.2.2.2.1 c.1.2.2.2.2.2.2.2.2.2.2.2.2.1 c.2.1 (fun w0 => K ⟨.i .i64 w0, [], []⟩)
structure find_step_G where
  mk ::
noncomputable def find_step_s (_G : find_step_G) {ρ : Type} (_n : Nat) (_a0 : Int) (a1 : Int) (a2 : Int) (_a3 : Int) (_a4 : Int) (_a5 : Int) (_a6 : Int) (_a7 : Bool) (_a8 : Int) (_a9 : Int) (_a10 : Int) (_a11 : Int) (_a12 : Int) (a13 : Int) (k0 : (Int → Option ρ)) : Option ρ :=
  chk (decide (0 ≤ (a1 : Int))) <|
  bif decide ((a13 : Int) ≥ (IntKind.wrap .i64 ((1 : Int) * 2 ^ (min a1.toNat (IntKind.bits .i64))))) then
    k0 (-1)
  else k0 (IntKind.wrap .i64 (a2 + a13))
noncomputable def find_step_g (_n : Nat) : find_step_G := ⟨⟩
noncomputable def find_step (n : Nat) : find_step_T := fun _ρ a0 a1 a2 a3 a4 a5 a6 a7 a8 a9 a10 a11 a12 a13 k0 => find_step_s (find_step_g n) n a0 a1 a2 a3 a4 a5 a6 a7 a8 a9 a10 a11 a12 a13 k0
noncomputable def find_step_e (n : Nat) : EK := find_step_E (find_step n)
def find_step_S (_G : find_step_G) : CK := tabS []
theorem find_step_Sok (n : Nat) : CK.OK (find_step_S (find_step_g n)) (L tab) := tabS_ok _ ((fun _ h => nomatch h))
def find_step_hs : HintC := hintL []
noncomputable def find_step_lp (_G : find_step_G) (_n : Nat) : LK := tabL []
theorem find_step_k (G : find_step_G) {ρ : Type} (n : Nat) (a0 : Int) (a1 : Int) (a2 : Int) (a3 : Int) (a4 : Int) (a5 : Int) (a6 : Int) (a7 : Bool) (a8 : Int) (a9 : Int) (a10 : Int) (a11 : Int) (a12 : Int) (a13 : Int) (K : Res → Option ρ) : runC (find_step_S G) find_step_hs (find_step_lp G n) m86 [.agg [.i .i64 a0, .i .i64 a1, .i .i64 a2, .i .i64 a3, .i .i64 a4, .i .i64 a5, .i .i64 a6, .b a7, .i .u64 a8, .i .u64 a9, .i .u64 a10, .i .u64 a11, .i .u64 a12], .i .i64 a13] K = find_step_s G n a0 a1 a2 a3 a4 a5 a6 a7 a8 a9 a10 a11 a12 a13 (fun w0 => K ⟨.i .i64 w0, [], []⟩) := by kernel_rfl
theorem find_step_ok (n : Nat) : EK.OK (find_step_e n) 86 (L tab) := EK.shp (fun _ _ _ => rfl) fun ρ K y c e => EK.run (find_step_Sok n) (by kernel_rfl) (MF.LKOK.of (LK.of (l := []) (by kernel_rfl) ((fun _ h => nomatch h)))) (find_step_k (find_step_g n) n _ _ _ _ _ _ _ _ _ _ _ _ _ _ K) (by kernel_rfl) e

/-! reeve/find.through -/
abbrev find_through_T : Type 1 := (ρ : Type) → Int → Int → Int → Bool → Bool → Rows → Bool → Bool → Rows → Int → (Int → Int → Int → Int → Int → Int → Int → Bool → Int → Int → Int → Int → Int → Bool → Option ρ) → Option ρ
def find_through_E (G : find_through_T) : EK := fun ρ args K => decL [.agg [.i .i64 none, .i .i64 none, .i .i64 none, .lst none none 5 none, .lst none none 13 none], .i .i64 none] args fun c => G ρ c.1.1 c.1.2.1 c.1.2.2.1 c.1.2.2.2.1.1 c.1.2.2.2.1.2.1 c.1.2.2.2.1.2.2 c.1.2.2.2.2.1.1 c.1.2.2.2.2.1.2.1 c.1.2.2.2.2.1.2.2 c.2.1 (fun w0 w1 w2 w3 w4 w5 w6 w7 w8 w9 w10 w11 w12 w13 => K ⟨.tup [.agg [.i .i64 w0, .i .i64 w1, .i .i64 w2, .i .i64 w3, .i .i64 w4, .i .i64 w5, .i .i64 w6, .b w7, .i .u64 w8, .i .u64 w9, .i .u64 w10, .i .u64 w11, .i .u64 w12], .b w13], [], []⟩)
structure find_through_G where
  mk ::
  right_Within : right_Within_T
noncomputable def find_through_s (G : find_through_G) {ρ : Type} (_n : Nat) (_a0 : Int) (_a1 : Int) (_a2 : Int) (_a3 : Bool) (_a4 : Bool) (a5 : Rows) (_a6 : Bool) (_a7 : Bool) (a8 : Rows) (a9 : Int) (k0 : (Int → Int → Int → Int → Int → Int → Int → Bool → Int → Int → Int → Int → Int → Bool → Option ρ)) : Option ρ :=
  rowT [.i .i64, .i .i64, .i .i64, .i .i64, .i .i64] a5 a9 fun c0 =>
  bif ((c0.1 : Int) != 2) then
    k0 0 0 0 0 0 0 0 false 0 0 0 0 0 false
  else G.right_Within ρ 1 c0.2.2.1 (fun w1_0 =>
    bif w1_0 then
      rowT [.i .i64, .i .i64, .i .i64, .i .i64, .i .i64, .i .i64, .i .i64, .b, .i .u64, .i .u64, .i .u64, .i .u64, .i .u64] a8 c0.2.1 fun c2 =>
      k0 c2.1 c2.2.1 c2.2.2.1 c2.2.2.2.1 c2.2.2.2.2.1 c2.2.2.2.2.2.1 c2.2.2.2.2.2.2.1 c2.2.2.2.2.2.2.2.1 c2.2.2.2.2.2.2.2.2.1 c2.2.2.2.2.2.2.2.2.2.1 c2.2.2.2.2.2.2.2.2.2.2.1 c2.2.2.2.2.2.2.2.2.2.2.2.1 c2.2.2.2.2.2.2.2.2.2.2.2.2.1 true
    else k0 0 0 0 0 0 0 0 false 0 0 0 0 0 false)
noncomputable def find_through_g (n : Nat) : find_through_G := ⟨right_Within n⟩
noncomputable def find_through (n : Nat) : find_through_T := fun _ρ a0 a1 a2 a3 a4 a5 a6 a7 a8 a9 k0 => find_through_s (find_through_g n) n a0 a1 a2 a3 a4 a5 a6 a7 a8 a9 k0
noncomputable def find_through_e (n : Nat) : EK := find_through_E (find_through n)
def find_through_S (G : find_through_G) : CK := tabS [(22, right_Within_E G.right_Within)]
theorem find_through_Sok (n : Nat) : CK.OK (find_through_S (find_through_g n)) (L tab) := tabS_ok _ (List.forall_mem_cons.2 ⟨(right_Within_ok n), (fun _ h => nomatch h)⟩)
def find_through_hs : HintC := hintL [(10, [.i .i64, .i .i64, .i .i64, .i .i64, .i .i64]), (27, [.i .i64, .i .i64, .i .i64, .i .i64, .i .i64, .i .i64, .i .i64, .b, .i .u64, .i .u64, .i .u64, .i .u64, .i .u64])]
noncomputable def find_through_lp (_G : find_through_G) (_n : Nat) : LK := tabL []
theorem find_through_k (G : find_through_G) {ρ : Type} (n : Nat) (a0 : Int) (a1 : Int) (a2 : Int) (a3 : Bool) (a4 : Bool) (a5 : Rows) (a6 : Bool) (a7 : Bool) (a8 : Rows) (a9 : Int) (K : Res → Option ρ) : runC (find_through_S G) find_through_hs (find_through_lp G n) m85 [.agg [.i .i64 a0, .i .i64 a1, .i .i64 a2, .lst a3 a4 5 a5, .lst a6 a7 13 a8], .i .i64 a9] K = find_through_s G n a0 a1 a2 a3 a4 a5 a6 a7 a8 a9 (fun w0 w1 w2 w3 w4 w5 w6 w7 w8 w9 w10 w11 w12 w13 => K ⟨.tup [.agg [.i .i64 w0, .i .i64 w1, .i .i64 w2, .i .i64 w3, .i .i64 w4, .i .i64 w5, .i .i64 w6, .b w7, .i .u64 w8, .i .u64 w9, .i .u64 w10, .i .u64 w11, .i .u64 w12], .b w13], [], []⟩) := by kernel_rfl
theorem find_through_ok (n : Nat) : EK.OK (find_through_e n) 85 (L tab) := EK.shp (fun _ _ _ => rfl) fun ρ K y c e => EK.run (find_through_Sok n) (by kernel_rfl) (MF.LKOK.of (LK.of (l := []) (by kernel_rfl) ((fun _ h => nomatch h)))) (find_through_k (find_through_g n) n _ _ _ _ _ _ _ _ _ _ K) (by kernel_rfl) e

/-! reeve/find.Slot -/
abbrev find_Slot_T : Type 1 := (ρ : Type) → Int → Int → Int → Bool → Bool → Rows → Bool → Bool → Rows → Int → Bool → Bool → Rows → (Int → Int → Option ρ) → Option ρ
def find_Slot_E (G : find_Slot_T) : EK := fun ρ args K => decL [.agg [.i .i64 none, .i .i64 none, .i .i64 none, .lst none none 5 none, .lst none none 13 none], .i .i64 none, .agg [.lst none none 1 none]] args fun c => G ρ c.1.1 c.1.2.1 c.1.2.2.1 c.1.2.2.2.1.1 c.1.2.2.2.1.2.1 c.1.2.2.2.1.2.2 c.1.2.2.2.2.1.1 c.1.2.2.2.2.1.2.1 c.1.2.2.2.2.1.2.2 c.2.1 c.2.2.1.1.1 c.2.2.1.1.2.1 c.2.2.1.1.2.2 (fun w0 w1 => K ⟨.tup [.i .i64 w0, .i .i64 w1], [], []⟩)
structure find_Slot_G where
  mk ::
  state_Good : state_Good_T
  find_in : find_in_T
  path_Good : path_Good_T
  find_step : find_step_T
  find_through : find_through_T
abbrev find_Slot_l6_V : Type := Int × Int × Int × Int × Int × Int × Int × Int × Int × Bool × Int × Int × Int × Int × Int
noncomputable def find_Slot_l6_s (G : find_Slot_G) {ρ : Type} (_n : Nat) (_p0 : Bool) (_p1 : Bool) (p2 : Rows) (p3 : Int) (p4 : Int) (p5 : Int) (p6 : Int) (p7 : Bool) (p8 : Bool) (p9 : Rows) (p10 : Bool) (p11 : Bool) (p12 : Rows) (_p13 : Bool) (_p14 : Bool) (_p15 : Rows) (k0 : (Int → Int → Int → Int → Int → Int → Int → Int → Bool → Int → Int → Int → Int → Int → Option ρ)) (k1 : (Int → Int → Int → Int → Int → Int → Int → Int → Bool → Int → Int → Int → Int → Int → Option ρ)) (k2 : (Int → Int → Int → Int → Int → Int → Int → Bool → Int → Int → Int → Int → Int → Option ρ)) (rec' : find_Slot_l6_V → Option ρ) : find_Slot_l6_V → Option ρ
  | v =>
  bif decide ((v.2.1 : Int) < p3) then
    rowT [.i .i64] p2 v.2.1 fun c0 =>
    bif decide ((v.2.1 : Int) > 0) then
      G.find_through ρ p4 p5 p6 p7 p8 p9 p10 p11 p12 v.1 (fun w1_0 w1_1 w1_2 w1_3 w1_4 w1_5 w1_6 w1_7 w1_8 w1_9 w1_10 w1_11 w1_12 w1_13 =>
        bif w1_13 then
          G.find_step ρ w1_0 w1_1 w1_2 w1_3 w1_4 w1_5 w1_6 w1_7 w1_8 w1_9 w1_10 w1_11 w1_12 c0.1 (fun w2_0 =>
            bif decide ((w2_0 : Int) < 0) then
              k2 w1_0 w1_1 w1_2 w1_3 w1_4 w1_5 w1_6 w1_7 w1_8 w1_9 w1_10 w1_11 w1_12
            else G.find_step ρ w1_0 w1_1 w1_2 w1_3 w1_4 w1_5 w1_6 w1_7 w1_8 w1_9 w1_10 w1_11 w1_12 c0.1 (fun w3_0 =>
              rec' (w3_0, (IntKind.wrap .i64 (v.2.1 + 1)), w1_0, w1_1, w1_2, w1_3, w1_4, w1_5, w1_6, w1_7, w1_8, w1_9, w1_10, w1_11, w1_12)))
        else k2 w1_0 w1_1 w1_2 w1_3 w1_4 w1_5 w1_6 w1_7 w1_8 w1_9 w1_10 w1_11 w1_12)
    else G.find_step ρ v.2.2.1 v.2.2.2.1 v.2.2.2.2.1 v.2.2.2.2.2.1 v.2.2.2.2.2.2.1 v.2.2.2.2.2.2.2.1 v.2.2.2.2.2.2.2.2.1 v.2.2.2.2.2.2.2.2.2.1 v.2.2.2.2.2.2.2.2.2.2.1 v.2.2.2.2.2.2.2.2.2.2.2.1 v.2.2.2.2.2.2.2.2.2.2.2.2.1 v.2.2.2.2.2.2.2.2.2.2.2.2.2.1 v.2.2.2.2.2.2.2.2.2.2.2.2.2.2 c0.1 (fun w4_0 =>
      bif decide ((w4_0 : Int) < 0) then
        k0 v.1 v.2.2.1 v.2.2.2.1 v.2.2.2.2.1 v.2.2.2.2.2.1 v.2.2.2.2.2.2.1 v.2.2.2.2.2.2.2.1 v.2.2.2.2.2.2.2.2.1 v.2.2.2.2.2.2.2.2.2.1 v.2.2.2.2.2.2.2.2.2.2.1 v.2.2.2.2.2.2.2.2.2.2.2.1 v.2.2.2.2.2.2.2.2.2.2.2.2.1 v.2.2.2.2.2.2.2.2.2.2.2.2.2.1 v.2.2.2.2.2.2.2.2.2.2.2.2.2.2
      else G.find_step ρ v.2.2.1 v.2.2.2.1 v.2.2.2.2.1 v.2.2.2.2.2.1 v.2.2.2.2.2.2.1 v.2.2.2.2.2.2.2.1 v.2.2.2.2.2.2.2.2.1 v.2.2.2.2.2.2.2.2.2.1 v.2.2.2.2.2.2.2.2.2.2.1 v.2.2.2.2.2.2.2.2.2.2.2.1 v.2.2.2.2.2.2.2.2.2.2.2.2.1 v.2.2.2.2.2.2.2.2.2.2.2.2.2.1 v.2.2.2.2.2.2.2.2.2.2.2.2.2.2 c0.1 (fun w5_0 =>
        rec' (w5_0, (IntKind.wrap .i64 (v.2.1 + 1)), v.2.2.1, v.2.2.2.1, v.2.2.2.2.1, v.2.2.2.2.2.1, v.2.2.2.2.2.2.1, v.2.2.2.2.2.2.2.1, v.2.2.2.2.2.2.2.2.1, v.2.2.2.2.2.2.2.2.2.1, v.2.2.2.2.2.2.2.2.2.2.1, v.2.2.2.2.2.2.2.2.2.2.2.1, v.2.2.2.2.2.2.2.2.2.2.2.2.1, v.2.2.2.2.2.2.2.2.2.2.2.2.2.1, v.2.2.2.2.2.2.2.2.2.2.2.2.2.2)))
  else k1 v.1 v.2.2.1 v.2.2.2.1 v.2.2.2.2.1 v.2.2.2.2.2.1 v.2.2.2.2.2.2.1 v.2.2.2.2.2.2.2.1 v.2.2.2.2.2.2.2.2.1 v.2.2.2.2.2.2.2.2.2.1 v.2.2.2.2.2.2.2.2.2.2.1 v.2.2.2.2.2.2.2.2.2.2.2.1 v.2.2.2.2.2.2.2.2.2.2.2.2.1 v.2.2.2.2.2.2.2.2.2.2.2.2.2.1 v.2.2.2.2.2.2.2.2.2.2.2.2.2.2
noncomputable def find_Slot_l6 (G : find_Slot_G) {ρ : Type} (n : Nat) (p0 : Bool) (p1 : Bool) (p2 : Rows) (p3 : Int) (p4 : Int) (p5 : Int) (p6 : Int) (p7 : Bool) (p8 : Bool) (p9 : Rows) (p10 : Bool) (p11 : Bool) (p12 : Rows) (p13 : Bool) (p14 : Bool) (p15 : Rows) (k0 : (Int → Int → Int → Int → Int → Int → Int → Int → Bool → Int → Int → Int → Int → Int → Option ρ)) (k1 : (Int → Int → Int → Int → Int → Int → Int → Int → Bool → Int → Int → Int → Int → Int → Option ρ)) (k2 : (Int → Int → Int → Int → Int → Int → Int → Bool → Int → Int → Int → Int → Int → Option ρ)) (v : find_Slot_l6_V) : Option ρ := fuelN (find_Slot_l6_s G n p0 p1 p2 p3 p4 p5 p6 p7 p8 p9 p10 p11 p12 p13 p14 p15 k0 k1 k2) n v
def find_Slot_l6_enc (p0 : Bool) (p1 : Bool) (p2 : Rows) (p3 : Int) (p4 : Int) (p5 : Int) (p6 : Int) (p7 : Bool) (p8 : Bool) (p9 : Rows) (p10 : Bool) (p11 : Bool) (p12 : Rows) (p13 : Bool) (p14 : Bool) (p15 : Rows) : find_Slot_l6_V → St
  | v => ⟨[(3, .ptr 0 1 5 0 0), (8, .ptr 2 1 13 0 0), (9, .b true), (10, .i .i64 v.1), (37, .lst p0 p1 1 p2), (38, .i .i64 p3), (39, .i .i64 v.2.1)], [.row 5 true false [[.i .i64 p4, .i .i64 p5, .i .i64 p6, .lst p7 p8 5 p9, .lst p10 p11 13 p12]], .row 1 true false [[.lst p13 p14 1 p15]], .row 13 true false [[.i .i64 v.2.2.1, .i .i64 v.2.2.2.1, .i .i64 v.2.2.2.2.1, .i .i64 v.2.2.2.2.2.1, .i .i64 v.2.2.2.2.2.2.1, .i .i64 v.2.2.2.2.2.2.2.1, .i .i64 v.2.2.2.2.2.2.2.2.1, .b v.2.2.2.2.2.2.2.2.2.1, .i .u64 v.2.2.2.2.2.2.2.2.2.2.1, .i .u64 v.2.2.2.2.2.2.2.2.2.2.2.1, .i .u64 v.2.2.2.2.2.2.2.2.2.2.2.2.1, .i .u64 v.2.2.2.2.2.2.2.2.2.2.2.2.2.1, .i .u64 v.2.2.2.2.2.2.2.2.2.2.2.2.2.2]]]⟩
noncomputable def find_Slot_s (G : find_Slot_G) {ρ : Type} (n : Nat) (a0 : Int) (a1 : Int) (a2 : Int) (a3 : Bool) (a4 : Bool) (a5 : Rows) (a6 : Bool) (a7 : Bool) (a8 : Rows) (a9 : Int) (a10 : Bool) (a11 : Bool) (a12 : Rows) (k0 : (Int → Int → Option ρ)) : Option ρ :=
  G.state_Good ρ a0 a1 a2 a3 a4 a5 a6 a7 a8 (fun w0_0 =>
    bif w0_0 then
      G.find_in ρ a9 0 (IntKind.wrap .i64 (a0 - 1)) (fun w1_0 =>
        bif w1_0 then
          G.path_Good ρ a10 a11 a12 (fun w2_0 =>
            bif w2_0 then
              rowT [.i .i64, .i .i64, .i .i64, .i .i64, .i .i64, .i .i64, .i .i64, .b, .i .u64, .i .u64, .i .u64, .i .u64, .i .u64] a8 (IntKind.wrap .i64 (2 + a9)) fun c3 =>
              find_Slot_l6 G n a10 a11 a12 (((List.length (a12 : Rows)) : Nat) : Int) a0 a1 a2 a3 a4 a5 a6 a7 a8 a10 a11 a12 (fun _w4_0 _w4_1 _w4_2 _w4_3 _w4_4 _w4_5 _w4_6 _w4_7 _w4_8 _w4_9 _w4_10 _w4_11 _w4_12 _w4_13 =>
                k0 0 3) (fun w5_0 _w5_1 _w5_2 _w5_3 _w5_4 _w5_5 _w5_6 _w5_7 _w5_8 _w5_9 _w5_10 _w5_11 _w5_12 _w5_13 =>
                k0 w5_0 0) (fun _w6_0 _w6_1 _w6_2 _w6_3 _w6_4 _w6_5 _w6_6 _w6_7 _w6_8 _w6_9 _w6_10 _w6_11 _w6_12 =>
                k0 0 3) (0, 0, c3.1, c3.2.1, c3.2.2.1, c3.2.2.2.1, c3.2.2.2.2.1, c3.2.2.2.2.2.1, c3.2.2.2.2.2.2.1, c3.2.2.2.2.2.2.2.1, c3.2.2.2.2.2.2.2.2.1, c3.2.2.2.2.2.2.2.2.2.1, c3.2.2.2.2.2.2.2.2.2.2.1, c3.2.2.2.2.2.2.2.2.2.2.2.1, c3.2.2.2.2.2.2.2.2.2.2.2.2.1)
            else k0 0 1)
        else k0 0 1)
    else k0 0 1)
noncomputable def find_Slot_g (n : Nat) : find_Slot_G := ⟨state_Good n, find_in n, path_Good n, find_step n, find_through n⟩
noncomputable def find_Slot (n : Nat) : find_Slot_T := fun _ρ a0 a1 a2 a3 a4 a5 a6 a7 a8 a9 a10 a11 a12 k0 => find_Slot_s (find_Slot_g n) n a0 a1 a2 a3 a4 a5 a6 a7 a8 a9 a10 a11 a12 k0
noncomputable def find_Slot_e (n : Nat) : EK := find_Slot_E (find_Slot n)
def find_Slot_S (G : find_Slot_G) : CK := tabS [(16, state_Good_E G.state_Good), (84, find_in_E G.find_in), (49, path_Good_E G.path_Good), (86, find_step_E G.find_step), (85, find_through_E G.find_through)]
theorem find_Slot_Sok (n : Nat) : CK.OK (find_Slot_S (find_Slot_g n)) (L tab) := tabS_ok _ (List.forall_mem_cons.2 ⟨(state_Good_ok n), List.forall_mem_cons.2 ⟨(find_in_ok n), List.forall_mem_cons.2 ⟨(path_Good_ok n), List.forall_mem_cons.2 ⟨(find_step_ok n), List.forall_mem_cons.2 ⟨(find_through_ok n), (fun _ h => nomatch h)⟩⟩⟩⟩⟩)
def find_Slot_hs : HintC := hintL [(34, [.i .i64, .i .i64, .i .i64, .i .i64, .i .i64, .i .i64, .i .i64, .b, .i .u64, .i .u64, .i .u64, .i .u64, .i .u64]), (42, [.i .i64])]
def find_Slot_c6 : Nat × List Nat × List Nat × MC := loopAt 6 m52
noncomputable def find_Slot_l6_d (G : find_Slot_G) (n : Nat) : Go.Rv.LE := fun _ρ h K => decSt [(3, .ptr 0 5 0 (some 1) (some 0)), (8, .ptr 2 13 0 (some 1) (some 0)), (9, .b (some true)), (10, .i .i64 none), (37, .lst none none 1 none), (38, .i .i64 none), (39, .i .i64 none)] [.row 5 true false (some [[.i .i64 none, .i .i64 none, .i .i64 none, .lst none none 5 none, .lst none none 13 none]]), .row 1 true false (some [[.lst none none 1 none]]), .row 13 true false (some [[.i .i64 none, .i .i64 none, .i .i64 none, .i .i64 none, .i .i64 none, .i .i64 none, .i .i64 none, .b none, .i .u64 none, .i .u64 none, .i .u64 none, .i .u64 none, .i .u64 none]])] h fun a b => find_Slot_l6 G n a.2.2.2.2.1.1 a.2.2.2.2.1.2.1 a.2.2.2.2.1.2.2 a.2.2.2.2.2.1 b.1.1.1 b.1.1.2.1 b.1.1.2.2.1 b.1.1.2.2.2.1.1 b.1.1.2.2.2.1.2.1 b.1.1.2.2.2.1.2.2 b.1.1.2.2.2.2.1.1 b.1.1.2.2.2.2.1.2.1 b.1.1.2.2.2.2.1.2.2 b.2.1.1.1.1 b.2.1.1.1.2.1 b.2.1.1.1.2.2 (fun w0 w1 w2 w3 w4 w5 w6 w7 w8 w9 w10 w11 w12 w13 => K .ret ⟨[(6, .i .i64 0), (7, .i .i64 3), (10, .i .i64 w0)], [.row 5 true false [[.i .i64 b.1.1.1, .i .i64 b.1.1.2.1, .i .i64 b.1.1.2.2.1, .lst b.1.1.2.2.2.1.1 b.1.1.2.2.2.1.2.1 5 b.1.1.2.2.2.1.2.2, .lst b.1.1.2.2.2.2.1.1 b.1.1.2.2.2.2.1.2.1 13 b.1.1.2.2.2.2.1.2.2]], .row 1 true false [[.lst b.2.1.1.1.1 b.2.1.1.1.2.1 1 b.2.1.1.1.2.2]], .row 13 true false [[.i .i64 w1, .i .i64 w2, .i .i64 w3, .i .i64 w4, .i .i64 w5, .i .i64 w6, .i .i64 w7, .b w8, .i .u64 w9, .i .u64 w10, .i .u64 w11, .i .u64 w12, .i .u64 w13]]]⟩) (fun w0 w1 w2 w3 w4 w5 w6 w7 w8 w9 w10 w11 w12 w13 => K (.exit 0) ⟨[(6, .u), (7, .u), (10, .i .i64 w0)], [.row 5 true false [[.i .i64 b.1.1.1, .i .i64 b.1.1.2.1, .i .i64 b.1.1.2.2.1, .lst b.1.1.2.2.2.1.1 b.1.1.2.2.2.1.2.1 5 b.1.1.2.2.2.1.2.2, .lst b.1.1.2.2.2.2.1.1 b.1.1.2.2.2.2.1.2.1 13 b.1.1.2.2.2.2.1.2.2]], .row 1 true false [[.lst b.2.1.1.1.1 b.2.1.1.1.2.1 1 b.2.1.1.1.2.2]], .row 13 true false [[.i .i64 w1, .i .i64 w2, .i .i64 w3, .i .i64 w4, .i .i64 w5, .i .i64 w6, .i .i64 w7, .b w8, .i .u64 w9, .i .u64 w10, .i .u64 w11, .i .u64 w12, .i .u64 w13]]]⟩) (fun w0 w1 w2 w3 w4 w5 w6 w7 w8 w9 w10 w11 w12 => K .ret ⟨[(6, .i .i64 0), (7, .i .i64 3), (10, .u)], [.row 5 true false [[.i .i64 b.1.1.1, .i .i64 b.1.1.2.1, .i .i64 b.1.1.2.2.1, .lst b.1.1.2.2.2.1.1 b.1.1.2.2.2.1.2.1 5 b.1.1.2.2.2.1.2.2, .lst b.1.1.2.2.2.2.1.1 b.1.1.2.2.2.2.1.2.1 13 b.1.1.2.2.2.2.1.2.2]], .row 1 true false [[.lst b.2.1.1.1.1 b.2.1.1.1.2.1 1 b.2.1.1.1.2.2]], .row 13 true false [[.i .i64 w0, .i .i64 w1, .i .i64 w2, .i .i64 w3, .i .i64 w4, .i .i64 w5, .i .i64 w6, .b w7, .i .u64 w8, .i .u64 w9, .i .u64 w10, .i .u64 w11, .i .u64 w12]]]⟩) (a.2.2.2.1, a.2.2.2.2.2.2.1, b.2.2.1.1.1, b.2.2.1.1.2.1, b.2.2.1.1.2.2.1, b.2.2.1.1.2.2.2.1, b.2.2.1.1.2.2.2.2.1, b.2.2.1.1.2.2.2.2.2.1, b.2.2.1.1.2.2.2.2.2.2.1, b.2.2.1.1.2.2.2.2.2.2.2.1, b.2.2.1.1.2.2.2.2.2.2.2.2.1, b.2.2.1.1.2.2.2.2.2.2.2.2.2.1, b.2.2.1.1.2.2.2.2.2.2.2.2.2.2.1, b.2.2.1.1.2.2.2.2.2.2.2.2.2.2.2.1, b.2.2.1.1.2.2.2.2.2.2.2.2.2.2.2.2.1)
noncomputable def find_Slot_d6 (G : find_Slot_G) (n : Nat) : Go.Rv.LE := find_Slot_l6_d G n
noncomputable def find_Slot_lp (G : find_Slot_G) (n : Nat) : LK := tabL [(6, find_Slot_d6 G n)]
theorem find_Slot_l6_k (G : find_Slot_G) {ρ : Type} (n : Nat) (p0 : Bool) (p1 : Bool) (p2 : Rows) (p3 : Int) (p4 : Int) (p5 : Int) (p6 : Int) (p7 : Bool) (p8 : Bool) (p9 : Rows) (p10 : Bool) (p11 : Bool) (p12 : Rows) (p13 : Bool) (p14 : Bool) (p15 : Rows) (K : Ex → St → Option ρ) (N : St → Option ρ) : ∀ v, roundC (find_Slot_S G) find_Slot_hs (find_Slot_lp G n) find_Slot_c6 3 N K (find_Slot_l6_enc p0 p1 p2 p3 p4 p5 p6 p7 p8 p9 p10 p11 p12 p13 p14 p15 v) = find_Slot_l6_s G n p0 p1 p2 p3 p4 p5 p6 p7 p8 p9 p10 p11 p12 p13 p14 p15 (fun w0 w1 w2 w3 w4 w5 w6 w7 w8 w9 w10 w11 w12 w13 => K .ret ⟨[(6, .i .i64 0), (7, .i .i64 3), (10, .i .i64 w0)], [.row 5 true false [[.i .i64 p4, .i .i64 p5, .i .i64 p6, .lst p7 p8 5 p9, .lst p10 p11 13 p12]], .row 1 true false [[.lst p13 p14 1 p15]], .row 13 true false [[.i .i64 w1, .i .i64 w2, .i .i64 w3, .i .i64 w4, .i .i64 w5, .i .i64 w6, .i .i64 w7, .b w8, .i .u64 w9, .i .u64 w10, .i .u64 w11, .i .u64 w12, .i .u64 w13]]]⟩) (fun w0 w1 w2 w3 w4 w5 w6 w7 w8 w9 w10 w11 w12 w13 => K (.exit 0) ⟨[(6, .u), (7, .u), (10, .i .i64 w0)], [.row 5 true false [[.i .i64 p4, .i .i64 p5, .i .i64 p6, .lst p7 p8 5 p9, .lst p10 p11 13 p12]], .row 1 true false [[.lst p13 p14 1 p15]], .row 13 true false [[.i .i64 w1, .i .i64 w2, .i .i64 w3, .i .i64 w4, .i .i64 w5, .i .i64 w6, .i .i64 w7, .b w8, .i .u64 w9, .i .u64 w10, .i .u64 w11, .i .u64 w12, .i .u64 w13]]]⟩) (fun w0 w1 w2 w3 w4 w5 w6 w7 w8 w9 w10 w11 w12 => K .ret ⟨[(6, .i .i64 0), (7, .i .i64 3), (10, .u)], [.row 5 true false [[.i .i64 p4, .i .i64 p5, .i .i64 p6, .lst p7 p8 5 p9, .lst p10 p11 13 p12]], .row 1 true false [[.lst p13 p14 1 p15]], .row 13 true false [[.i .i64 w0, .i .i64 w1, .i .i64 w2, .i .i64 w3, .i .i64 w4, .i .i64 w5, .i .i64 w6, .b w7, .i .u64 w8, .i .u64 w9, .i .u64 w10, .i .u64 w11, .i .u64 w12]]]⟩) (fun v => N (find_Slot_l6_enc p0 p1 p2 p3 p4 p5 p6 p7 p8 p9 p10 p11 p12 p13 p14 p15 v)) v
  | v => by kernel_rfl
theorem find_Slot_l6_dok (n : Nat) : LE.OK (find_Slot_l6_d (find_Slot_g n) n) (L tab) find_Slot_c6 := LE.shp (fun _ _ _ => rfl) fun ρ K y a b e => LE.rounds (find_Slot_Sok n) (LK.of (l := []) (by kernel_rfl) ((fun _ h => nomatch h))) (find_Slot_l6_k (find_Slot_g n) n _ _ _ _ _ _ _ _ _ _ _ _ _ _ _ _ K) (by kernel_rfl) (by kernel_rfl) e
theorem find_Slot_d6_ok (n : Nat) : LE.OK (find_Slot_d6 (find_Slot_g n) n) (L tab) find_Slot_c6 := find_Slot_l6_dok n
theorem find_Slot_k (G : find_Slot_G) {ρ : Type} (n : Nat) (a0 : Int) (a1 : Int) (a2 : Int) (a3 : Bool) (a4 : Bool) (a5 : Rows) (a6 : Bool) (a7 : Bool) (a8 : Rows) (a9 : Int) (a10 : Bool) (a11 : Bool) (a12 : Rows) (K : Res → Option ρ) : runC (find_Slot_S G) find_Slot_hs (find_Slot_lp G n) m52 [.agg [.i .i64 a0, .i .i64 a1, .i .i64 a2, .lst a3 a4 5 a5, .lst a6 a7 13 a8], .i .i64 a9, .agg [.lst a10 a11 1 a12]] K = find_Slot_s G n a0 a1 a2 a3 a4 a5 a6 a7 a8 a9 a10 a11 a12 (fun w0 w1 => K ⟨.tup [.i .i64 w0, .i .i64 w1], [], []⟩) := by kernel_rfl
theorem find_Slot_ok (n : Nat) : EK.OK (find_Slot_e n) 52 (L tab) := EK.shp (fun _ _ _ => rfl) fun ρ K y c e => EK.run (find_Slot_Sok n) (by kernel_rfl) (MF.LKOK.of (LK.of (l := [find_Slot_c6]) (by kernel_rfl) (List.forall_mem_cons.2 ⟨LE.at (e := find_Slot_d6 (find_Slot_g n) n) (by kernel_rfl) (find_Slot_d6_ok n), (fun _ h => nomatch h)⟩))) (find_Slot_k (find_Slot_g n) n _ _ _ _ _ _ _ _ _ _ _ _ _ K) (by kernel_rfl) e

/-! reeve/find.Cap -/
abbrev find_Cap_T : Type 1 := (ρ : Type) → Int → Int → Int → Bool → Bool → Rows → Bool → Bool → Rows → Int → Bool → Bool → Rows → (Int → Int → Int → Int → Int → Int → Option ρ) → Option ρ
def find_Cap_E (G : find_Cap_T) : EK := fun ρ args K => decL [.agg [.i .i64 none, .i .i64 none, .i .i64 none, .lst none none 5 none, .lst none none 13 none], .i .i64 none, .agg [.lst none none 1 none]] args fun c => G ρ c.1.1 c.1.2.1 c.1.2.2.1 c.1.2.2.2.1.1 c.1.2.2.2.1.2.1 c.1.2.2.2.1.2.2 c.1.2.2.2.2.1.1 c.1.2.2.2.2.1.2.1 c.1.2.2.2.2.1.2.2 c.2.1 c.2.2.1.1.1 c.2.2.1.1.2.1 c.2.2.1.1.2.2 (fun w0 w1 w2 w3 w4 w5 => K ⟨.tup [.i .i64 w0, .agg [.i .i64 w1, .i .i64 w2, .i .i64 w3, .i .i64 w4], .i .i64 w5], [], []⟩)
structure find_Cap_G where
  mk ::
  find_Slot : find_Slot_T
  cap_None : cap_None_T
noncomputable def find_Cap_s (G : find_Cap_G) {ρ : Type} (_n : Nat) (a0 : Int) (a1 : Int) (a2 : Int) (a3 : Bool) (a4 : Bool) (a5 : Rows) (a6 : Bool) (a7 : Bool) (a8 : Rows) (a9 : Int) (a10 : Bool) (a11 : Bool) (a12 : Rows) (k0 : (Int → Int → Int → Int → Int → Int → Option ρ)) : Option ρ :=
  G.find_Slot ρ a0 a1 a2 a3 a4 a5 a6 a7 a8 a9 a10 a11 a12 (fun w0_0 w0_1 =>
    bif ((w0_1 : Int) != 0) then
      k0 0 0 0 0 0 w0_1
    else rowT [.i .i64, .i .i64, .i .i64, .i .i64, .i .i64] a5 w0_0 fun c1 =>
    G.cap_None ρ c1.1 c1.2.1 c1.2.2.1 c1.2.2.2.1 (fun w2_0 =>
      bif w2_0 then
        k0 0 0 0 0 0 4
      else rowT [.i .i64, .i .i64, .i .i64, .i .i64, .i .i64] a5 w0_0 fun c3 =>
      k0 w0_0 c3.1 c3.2.1 c3.2.2.1 c3.2.2.2.1 0))
noncomputable def find_Cap_g (n : Nat) : find_Cap_G := ⟨find_Slot n, cap_None n⟩
noncomputable def find_Cap (n : Nat) : find_Cap_T := fun _ρ a0 a1 a2 a3 a4 a5 a6 a7 a8 a9 a10 a11 a12 k0 => find_Cap_s (find_Cap_g n) n a0 a1 a2 a3 a4 a5 a6 a7 a8 a9 a10 a11 a12 k0
noncomputable def find_Cap_e (n : Nat) : EK := find_Cap_E (find_Cap n)
def find_Cap_S (G : find_Cap_G) : CK := tabS [(52, find_Slot_E G.find_Slot), (24, cap_None_E G.cap_None)]
theorem find_Cap_Sok (n : Nat) : CK.OK (find_Cap_S (find_Cap_g n)) (L tab) := tabS_ok _ (List.forall_mem_cons.2 ⟨(find_Slot_ok n), List.forall_mem_cons.2 ⟨(cap_None_ok n), (fun _ h => nomatch h)⟩⟩)
def find_Cap_hs : HintC := hintL [(27, [.i .i64, .i .i64, .i .i64, .i .i64, .i .i64]), (36, [.i .i64, .i .i64, .i .i64, .i .i64, .i .i64])]
noncomputable def find_Cap_lp (_G : find_Cap_G) (_n : Nat) : LK := tabL []
theorem find_Cap_k (G : find_Cap_G) {ρ : Type} (n : Nat) (a0 : Int) (a1 : Int) (a2 : Int) (a3 : Bool) (a4 : Bool) (a5 : Rows) (a6 : Bool) (a7 : Bool) (a8 : Rows) (a9 : Int) (a10 : Bool) (a11 : Bool) (a12 : Rows) (K : Res → Option ρ) : runC (find_Cap_S G) find_Cap_hs (find_Cap_lp G n) m21 [.agg [.i .i64 a0, .i .i64 a1, .i .i64 a2, .lst a3 a4 5 a5, .lst a6 a7 13 a8], .i .i64 a9, .agg [.lst a10 a11 1 a12]] K = find_Cap_s G n a0 a1 a2 a3 a4 a5 a6 a7 a8 a9 a10 a11 a12 (fun w0 w1 w2 w3 w4 w5 => K ⟨.tup [.i .i64 w0, .agg [.i .i64 w1, .i .i64 w2, .i .i64 w3, .i .i64 w4], .i .i64 w5], [], []⟩) := by kernel_rfl
theorem find_Cap_ok (n : Nat) : EK.OK (find_Cap_e n) 21 (L tab) := EK.shp (fun _ _ _ => rfl) fun ρ K y c e => EK.run (find_Cap_Sok n) (by kernel_rfl) (MF.LKOK.of (LK.of (l := []) (by kernel_rfl) ((fun _ h => nomatch h)))) (find_Cap_k (find_Cap_g n) n _ _ _ _ _ _ _ _ _ _ _ _ _ K) (by kernel_rfl) e

/-! reeve/find.Empty -/
abbrev find_Empty_T : Type 1 := (ρ : Type) → Int → Int → Int → Bool → Bool → Rows → Bool → Bool → Rows → Int → Bool → Bool → Rows → (Int → Int → Option ρ) → Option ρ
def find_Empty_E (G : find_Empty_T) : EK := fun ρ args K => decL [.agg [.i .i64 none, .i .i64 none, .i .i64 none, .lst none none 5 none, .lst none none 13 none], .i .i64 none, .agg [.lst none none 1 none]] args fun c => G ρ c.1.1 c.1.2.1 c.1.2.2.1 c.1.2.2.2.1.1 c.1.2.2.2.1.2.1 c.1.2.2.2.1.2.2 c.1.2.2.2.2.1.1 c.1.2.2.2.2.1.2.1 c.1.2.2.2.2.1.2.2 c.2.1 c.2.2.1.1.1 c.2.2.1.1.2.1 c.2.2.1.1.2.2 (fun w0 w1 => K ⟨.tup [.i .i64 w0, .i .i64 w1], [], []⟩)
structure find_Empty_G where
  mk ::
  find_Slot : find_Slot_T
  cap_None : cap_None_T
noncomputable def find_Empty_s (G : find_Empty_G) {ρ : Type} (_n : Nat) (a0 : Int) (a1 : Int) (a2 : Int) (a3 : Bool) (a4 : Bool) (a5 : Rows) (a6 : Bool) (a7 : Bool) (a8 : Rows) (a9 : Int) (a10 : Bool) (a11 : Bool) (a12 : Rows) (k0 : (Int → Int → Option ρ)) : Option ρ :=
  G.find_Slot ρ a0 a1 a2 a3 a4 a5 a6 a7 a8 a9 a10 a11 a12 (fun w0_0 w0_1 =>
    bif ((w0_1 : Int) != 0) then
      k0 0 w0_1
    else rowT [.i .i64, .i .i64, .i .i64, .i .i64, .i .i64] a5 w0_0 fun c1 =>
    G.cap_None ρ c1.1 c1.2.1 c1.2.2.1 c1.2.2.2.1 (fun w2_0 =>
      bif w2_0 then
        k0 w0_0 0
      else k0 0 5))
noncomputable def find_Empty_g (n : Nat) : find_Empty_G := ⟨find_Slot n, cap_None n⟩
noncomputable def find_Empty (n : Nat) : find_Empty_T := fun _ρ a0 a1 a2 a3 a4 a5 a6 a7 a8 a9 a10 a11 a12 k0 => find_Empty_s (find_Empty_g n) n a0 a1 a2 a3 a4 a5 a6 a7 a8 a9 a10 a11 a12 k0
noncomputable def find_Empty_e (n : Nat) : EK := find_Empty_E (find_Empty n)
def find_Empty_S (G : find_Empty_G) : CK := tabS [(52, find_Slot_E G.find_Slot), (24, cap_None_E G.cap_None)]
theorem find_Empty_Sok (n : Nat) : CK.OK (find_Empty_S (find_Empty_g n)) (L tab) := tabS_ok _ (List.forall_mem_cons.2 ⟨(find_Slot_ok n), List.forall_mem_cons.2 ⟨(cap_None_ok n), (fun _ h => nomatch h)⟩⟩)
def find_Empty_hs : HintC := hintL [(25, [.i .i64, .i .i64, .i .i64, .i .i64, .i .i64])]
noncomputable def find_Empty_lp (_G : find_Empty_G) (_n : Nat) : LK := tabL []
theorem find_Empty_k (G : find_Empty_G) {ρ : Type} (n : Nat) (a0 : Int) (a1 : Int) (a2 : Int) (a3 : Bool) (a4 : Bool) (a5 : Rows) (a6 : Bool) (a7 : Bool) (a8 : Rows) (a9 : Int) (a10 : Bool) (a11 : Bool) (a12 : Rows) (K : Res → Option ρ) : runC (find_Empty_S G) find_Empty_hs (find_Empty_lp G n) m67 [.agg [.i .i64 a0, .i .i64 a1, .i .i64 a2, .lst a3 a4 5 a5, .lst a6 a7 13 a8], .i .i64 a9, .agg [.lst a10 a11 1 a12]] K = find_Empty_s G n a0 a1 a2 a3 a4 a5 a6 a7 a8 a9 a10 a11 a12 (fun w0 w1 => K ⟨.tup [.i .i64 w0, .i .i64 w1], [], []⟩) := by kernel_rfl
theorem find_Empty_ok (n : Nat) : EK.OK (find_Empty_e n) 67 (L tab) := EK.shp (fun _ _ _ => rfl) fun ρ K y c e => EK.run (find_Empty_Sok n) (by kernel_rfl) (MF.LKOK.of (LK.of (l := []) (by kernel_rfl) ((fun _ h => nomatch h)))) (find_Empty_k (find_Empty_g n) n _ _ _ _ _ _ _ _ _ _ _ _ _ K) (by kernel_rfl) e

/-! reeve/thing.Cost -/
abbrev thing_Cost_T : Type 1 := (ρ : Type) → Int → Int → (Int → Bool → Option ρ) → Option ρ
def thing_Cost_E (G : thing_Cost_T) : EK := fun ρ args K => decL [.i .i64 none, .i .i64 none] args fun c => G ρ c.1 c.2.1 (fun w0 w1 => K ⟨.tup [.i .i64 w0, .b w1], [], []⟩)
structure thing_Cost_G where
  mk ::
  thing_in : thing_in_T
noncomputable def thing_Cost_s (G : thing_Cost_G) {ρ : Type} (_n : Nat) (a0 : Int) (a1 : Int) (k0 : (Int → Bool → Option ρ)) : Option ρ :=
  bif ((a0 : Int) == 1) then
    G.thing_in ρ a1 1 4096 (fun w0_0 =>
      bif w0_0 then
        k0 a1 true
      else k0 0 false)
  else bif ((a0 : Int) == 2) then
    G.thing_in ρ a1 1 4 (fun w1_0 =>
      bif w1_0 then
        chk (decide (0 ≤ (a1 : Int))) <|
        k0 (IntKind.wrap .i64 ((1 : Int) * 2 ^ (min a1.toNat (IntKind.bits .i64)))) true
      else k0 0 false)
  else bif ((a0 : Int) == 3) then
    k0 1 true
  else bif ((a0 : Int) == 4) then
    k0 1 true
  else bif ((a0 : Int) == 5) then
    k0 2 true
  else k0 0 false
noncomputable def thing_Cost_g (n : Nat) : thing_Cost_G := ⟨thing_in n⟩
noncomputable def thing_Cost (n : Nat) : thing_Cost_T := fun _ρ a0 a1 k0 => thing_Cost_s (thing_Cost_g n) n a0 a1 k0
noncomputable def thing_Cost_e (n : Nat) : EK := thing_Cost_E (thing_Cost n)
def thing_Cost_S (G : thing_Cost_G) : CK := tabS [(90, thing_in_E G.thing_in)]
theorem thing_Cost_Sok (n : Nat) : CK.OK (thing_Cost_S (thing_Cost_g n)) (L tab) := tabS_ok _ (List.forall_mem_cons.2 ⟨(thing_in_ok n), (fun _ h => nomatch h)⟩)
def thing_Cost_hs : HintC := hintL []
noncomputable def thing_Cost_lp (_G : thing_Cost_G) (_n : Nat) : LK := tabL []
theorem thing_Cost_k (G : thing_Cost_G) {ρ : Type} (n : Nat) (a0 : Int) (a1 : Int) (K : Res → Option ρ) : runC (thing_Cost_S G) thing_Cost_hs (thing_Cost_lp G n) m68 [.i .i64 a0, .i .i64 a1] K = thing_Cost_s G n a0 a1 (fun w0 w1 => K ⟨.tup [.i .i64 w0, .b w1], [], []⟩) := by kernel_rfl
theorem thing_Cost_ok (n : Nat) : EK.OK (thing_Cost_e n) 68 (L tab) := EK.shp (fun _ _ _ => rfl) fun ρ K y c e => EK.run (thing_Cost_Sok n) (by kernel_rfl) (MF.LKOK.of (LK.of (l := []) (by kernel_rfl) ((fun _ h => nomatch h)))) (thing_Cost_k (thing_Cost_g n) n _ _ K) (by kernel_rfl) e

/-! reeve/forest.may -/
abbrev forest_may_T : Type 1 := (ρ : Type) → Bool → Bool → Rows → Int → (Bool → Option ρ) → Option ρ
def forest_may_E (G : forest_may_T) : EK := fun ρ args K => decL [.agg [.lst none none 1 none], .i .i64 none] args fun c => G ρ c.1.1.1 c.1.1.2.1 c.1.1.2.2 c.2.1 (fun w0 => K ⟨.b w0, [], []⟩)
structure forest_may_G where
  mk ::
  forest_Good : forest_Good_T
  forest_Forest_is : forest_Forest_is_T
noncomputable def forest_may_s (G : forest_may_G) {ρ : Type} (_n : Nat) (a0 : Bool) (a1 : Bool) (a2 : Rows) (a3 : Int) (k0 : (Bool → Option ρ)) : Option ρ :=
  G.forest_Good ρ a0 a1 a2 (fun w0_0 =>
    bif w0_0 then
      G.forest_Forest_is ρ a0 a1 a2 a3 (fun w1_0 =>
        bif w1_0 then
          k0 true
        else k0 false)
    else k0 false)
noncomputable def forest_may_g (n : Nat) : forest_may_G := ⟨forest_Good n, forest_Forest_is n⟩
noncomputable def forest_may (n : Nat) : forest_may_T := fun _ρ a0 a1 a2 a3 k0 => forest_may_s (forest_may_g n) n a0 a1 a2 a3 k0
noncomputable def forest_may_e (n : Nat) : EK := forest_may_E (forest_may n)
def forest_may_S (G : forest_may_G) : CK := tabS [(41, forest_Good_E G.forest_Good), (65, forest_Forest_is_E G.forest_Forest_is)]
theorem forest_may_Sok (n : Nat) : CK.OK (forest_may_S (forest_may_g n)) (L tab) := tabS_ok _ (List.forall_mem_cons.2 ⟨(forest_Good_ok n), List.forall_mem_cons.2 ⟨(forest_Forest_is_ok n), (fun _ h => nomatch h)⟩⟩)
def forest_may_hs : HintC := hintL []
noncomputable def forest_may_lp (_G : forest_may_G) (_n : Nat) : LK := tabL []
theorem forest_may_k (G : forest_may_G) {ρ : Type} (n : Nat) (a0 : Bool) (a1 : Bool) (a2 : Rows) (a3 : Int) (K : Res → Option ρ) : runC (forest_may_S G) forest_may_hs (forest_may_lp G n) m56 [.agg [.lst a0 a1 1 a2], .i .i64 a3] K = forest_may_s G n a0 a1 a2 a3 (fun w0 => K ⟨.b w0, [], []⟩) := by kernel_rfl
theorem forest_may_ok (n : Nat) : EK.OK (forest_may_e n) 56 (L tab) := EK.shp (fun _ _ _ => rfl) fun ρ K y c e => EK.run (forest_may_Sok n) (by kernel_rfl) (MF.LKOK.of (LK.of (l := []) (by kernel_rfl) ((fun _ h => nomatch h)))) (forest_may_k (forest_may_g n) n _ _ _ _ K) (by kernel_rfl) e

/-! (reeve/forest.Forest).of -/
abbrev forest_Forest_of_T : Type 1 := (ρ : Type) → Bool → Bool → Rows → Int → (Option ρ) → (Nat → Nat → Rows → Option ρ) → Option ρ
def forest_Forest_of_E (G : forest_Forest_of_T) : EK := fun ρ args K => decL [.agg [.lst none none 1 none], .i .i64 none] args fun c => G ρ c.1.1.1 c.1.1.2.1 c.1.1.2.2 c.2.1 (K ⟨.lst true true 0 [], [], []⟩) (fun w0 w1 w2 => K ⟨.sl 0 w0 1 0 w1, [.row 1 true false w2], []⟩)
structure forest_Forest_of_G where
  mk ::
abbrev forest_Forest_of_l3_V : Type := (Int) ⊕ (Nat × Nat × Int × Rows)
noncomputable def forest_Forest_of_l3_s (_G : forest_Forest_of_G) {ρ : Type} (_n : Nat) (p0 : Int) (_p1 : Bool) (_p2 : Bool) (p3 : Rows) (p4 : Int) (_p5 : Bool) (_p6 : Bool) (_p7 : Rows) (k0 : (Option ρ)) (k1 : (Nat → Nat → Rows → Option ρ)) (rec' : forest_Forest_of_l3_V → Option ρ) : forest_Forest_of_l3_V → Option ρ
  | (.inl v) =>
  bif decide ((v : Int) < p4) then
    rowT [.i .i64] p3 v fun c0 =>
    bif ((c0.1 : Int) == p0) then
      rec' (.inr (1, 1, (IntKind.wrap .i64 (v + 1)), [[.i .i64 v]]))
    else rec' (.inl ((IntKind.wrap .i64 (v + 1))))
  else k0
  | (.inr v) =>
  bif decide ((v.2.2.1 : Int) < p4) then
    rowT [.i .i64] p3 v.2.2.1 fun c1 =>
    bif ((c1.1 : Int) == p0) then
      chk (((List.length (v.2.2.2 : Rows)) : Nat) == v.1) <|
      chk ((v.2.1 : Nat) == v.1) <|
      chk (decide ((v.1 + 1) ≤ most)) <|
      rec' (.inr ((v.1 + 1), (v.1 + 1), (IntKind.wrap .i64 (v.2.2.1 + 1)), (v.2.2.2 ++ [[.i .i64 v.2.2.1]])))
    else rec' (.inr (v.1, v.2.1, (IntKind.wrap .i64 (v.2.2.1 + 1)), v.2.2.2))
  else k1 v.1 v.2.1 v.2.2.2
noncomputable def forest_Forest_of_l3 (G : forest_Forest_of_G) {ρ : Type} (n : Nat) (p0 : Int) (p1 : Bool) (p2 : Bool) (p3 : Rows) (p4 : Int) (p5 : Bool) (p6 : Bool) (p7 : Rows) (k0 : (Option ρ)) (k1 : (Nat → Nat → Rows → Option ρ)) (v : forest_Forest_of_l3_V) : Option ρ := fuelN (forest_Forest_of_l3_s G n p0 p1 p2 p3 p4 p5 p6 p7 k0 k1) n v
def forest_Forest_of_l3_enc (p0 : Int) (p1 : Bool) (p2 : Bool) (p3 : Rows) (p4 : Int) (p5 : Bool) (p6 : Bool) (p7 : Rows) : forest_Forest_of_l3_V → St
  | (.inl v) => ⟨[(1, .i .i64 p0), (5, .lst true true 0 []), (9, .lst p1 p2 1 p3), (10, .i .i64 p4), (11, .i .i64 v)], [.row 1 true false [[.lst p5 p6 1 p7]]]⟩
  | (.inr v) => ⟨[(1, .i .i64 p0), (5, .sl 1 v.1 1 0 v.2.1), (9, .lst p1 p2 1 p3), (10, .i .i64 p4), (11, .i .i64 v.2.2.1)], [.row 1 true false [[.lst p5 p6 1 p7]], .row 1 true false v.2.2.2]⟩
noncomputable def forest_Forest_of_s (G : forest_Forest_of_G) {ρ : Type} (n : Nat) (a0 : Bool) (a1 : Bool) (a2 : Rows) (a3 : Int) (k0 : (Option ρ)) (k1 : (Nat → Nat → Rows → Option ρ)) : Option ρ :=
  forest_Forest_of_l3 G n a3 a0 a1 a2 (((List.length (a2 : Rows)) : Nat) : Int) a0 a1 a2 (k0) (fun w1_0 w1_1 w1_2 =>
    k1 w1_0 w1_1 w1_2) (.inl (0))
noncomputable def forest_Forest_of_g (_n : Nat) : forest_Forest_of_G := ⟨⟩
noncomputable def forest_Forest_of (n : Nat) : forest_Forest_of_T := fun _ρ a0 a1 a2 a3 k0 k1 => forest_Forest_of_s (forest_Forest_of_g n) n a0 a1 a2 a3 k0 k1
noncomputable def forest_Forest_of_e (n : Nat) : EK := forest_Forest_of_E (forest_Forest_of n)
def forest_Forest_of_S (_G : forest_Forest_of_G) : CK := tabS []
theorem forest_Forest_of_Sok (n : Nat) : CK.OK (forest_Forest_of_S (forest_Forest_of_g n)) (L tab) := tabS_ok _ ((fun _ h => nomatch h))
def forest_Forest_of_hs : HintC := hintL [(14, [.i .i64])]
def forest_Forest_of_c3 : Nat × List Nat × List Nat × MC := loopAt 3 m109
noncomputable def forest_Forest_of_l3_d (G : forest_Forest_of_G) (n : Nat) : Go.Rv.LE := fun _ρ h K => decSt [(1, .i .i64 none), (5, .lst (some true) (some true) 0 (some [])), (9, .lst none none 1 none), (10, .i .i64 none), (11, .i .i64 none)] [.row 1 true false (some [[.lst none none 1 none]])] h fun a b => forest_Forest_of_l3 G n a.1 a.2.2.1.1 a.2.2.1.2.1 a.2.2.1.2.2 a.2.2.2.1 b.1.1.1.1 b.1.1.1.2.1 b.1.1.1.2.2 (K (.exit 0) ⟨[(5, .lst true true 0 [])], [.row 1 true false [[.lst b.1.1.1.1 b.1.1.1.2.1 1 b.1.1.1.2.2]]]⟩) (fun w0 w1 w2 => K (.exit 0) ⟨[(5, .sl 1 w0 1 0 w1)], [.row 1 true false [[.lst b.1.1.1.1 b.1.1.1.2.1 1 b.1.1.1.2.2]], .row 1 true false w2]⟩) (.inl (a.2.2.2.2.1))
noncomputable def forest_Forest_of_d3 (G : forest_Forest_of_G) (n : Nat) : Go.Rv.LE := forest_Forest_of_l3_d G n
noncomputable def forest_Forest_of_lp (G : forest_Forest_of_G) (n : Nat) : LK := tabL [(3, forest_Forest_of_d3 G n)]
theorem forest_Forest_of_l3_k (G : forest_Forest_of_G) {ρ : Type} (n : Nat) (p0 : Int) (p1 : Bool) (p2 : Bool) (p3 : Rows) (p4 : Int) (p5 : Bool) (p6 : Bool) (p7 : Rows) (K : Ex → St → Option ρ) (N : St → Option ρ) : ∀ v, roundC (forest_Forest_of_S G) forest_Forest_of_hs (forest_Forest_of_lp G n) forest_Forest_of_c3 1 N K (forest_Forest_of_l3_enc p0 p1 p2 p3 p4 p5 p6 p7 v) = forest_Forest_of_l3_s G n p0 p1 p2 p3 p4 p5 p6 p7 (K (.exit 0) ⟨[(5, .lst true true 0 [])], [.row 1 true false [[.lst p5 p6 1 p7]]]⟩) (fun w0 w1 w2 => K (.exit 0) ⟨[(5, .sl 1 w0 1 0 w1)], [.row 1 true false [[.lst p5 p6 1 p7]], .row 1 true false w2]⟩) (fun v => N (forest_Forest_of_l3_enc p0 p1 p2 p3 p4 p5 p6 p7 v)) v
  | (.inl v) => by kernel_rfl
  | (.inr v) => by kernel_rfl
theorem forest_Forest_of_l3_dok (n : Nat) : LE.OK (forest_Forest_of_l3_d (forest_Forest_of_g n) n) (L tab) forest_Forest_of_c3 := LE.shp (fun _ _ _ => rfl) fun ρ K y a b e => LE.rounds (forest_Forest_of_Sok n) (LK.of (l := []) (by kernel_rfl) ((fun _ h => nomatch h))) (forest_Forest_of_l3_k (forest_Forest_of_g n) n _ _ _ _ _ _ _ _ K) (by kernel_rfl) (by kernel_rfl) e
theorem forest_Forest_of_d3_ok (n : Nat) : LE.OK (forest_Forest_of_d3 (forest_Forest_of_g n) n) (L tab) forest_Forest_of_c3 := forest_Forest_of_l3_dok n
theorem forest_Forest_of_k (G : forest_Forest_of_G) {ρ : Type} (n : Nat) (a0 : Bool) (a1 : Bool) (a2 : Rows) (a3 : Int) (K : Res → Option ρ) : runC (forest_Forest_of_S G) forest_Forest_of_hs (forest_Forest_of_lp G n) m109 [.agg [.lst a0 a1 1 a2], .i .i64 a3] K = forest_Forest_of_s G n a0 a1 a2 a3 (K ⟨.lst true true 0 [], [], []⟩) (fun w0 w1 w2 => K ⟨.sl 0 w0 1 0 w1, [.row 1 true false w2], []⟩) := by kernel_rfl
theorem forest_Forest_of_ok (n : Nat) : EK.OK (forest_Forest_of_e n) 109 (L tab) := EK.shp (fun _ _ _ => rfl) fun ρ K y c e => EK.run (forest_Forest_of_Sok n) (by kernel_rfl) (MF.LKOK.of (LK.of (l := [forest_Forest_of_c3]) (by kernel_rfl) (List.forall_mem_cons.2 ⟨LE.at (e := forest_Forest_of_d3 (forest_Forest_of_g n) n) (by kernel_rfl) (forest_Forest_of_d3_ok n), (fun _ h => nomatch h)⟩))) (forest_Forest_of_k (forest_Forest_of_g n) n _ _ _ _ K) (by kernel_rfl) e

/-! reeve/forest.Kids -/
abbrev forest_Kids_T : Type 1 := (ρ : Type) → Bool → Bool → Rows → Int → (Option ρ) → (Nat → Nat → Rows → Option ρ) → Option ρ
def forest_Kids_E (G : forest_Kids_T) : EK := fun ρ args K => decL [.agg [.lst none none 1 none], .i .i64 none] args fun c => G ρ c.1.1.1 c.1.1.2.1 c.1.1.2.2 c.2.1 (K ⟨.lst true true 0 [], [], []⟩) (fun w0 w1 w2 => K ⟨.sl 0 w0 1 0 w1, [.row 1 true false w2], []⟩)
structure forest_Kids_G where
  mk ::
  forest_may : forest_may_T
  forest_Forest_of : forest_Forest_of_T
noncomputable def forest_Kids_s (G : forest_Kids_G) {ρ : Type} (_n : Nat) (a0 : Bool) (a1 : Bool) (a2 : Rows) (a3 : Int) (k0 : (Option ρ)) (k1 : (Nat → Nat → Rows → Option ρ)) : Option ρ :=
  G.forest_may ρ a0 a1 a2 a3 (fun w0_0 =>
    bif w0_0 then
      G.forest_Forest_of ρ a0 a1 a2 a3 (k0) (fun w2_0 w2_1 w2_2 =>
        k1 w2_0 w2_1 w2_2)
    else k0)
noncomputable def forest_Kids_g (n : Nat) : forest_Kids_G := ⟨forest_may n, forest_Forest_of n⟩
noncomputable def forest_Kids (n : Nat) : forest_Kids_T := fun _ρ a0 a1 a2 a3 k0 k1 => forest_Kids_s (forest_Kids_g n) n a0 a1 a2 a3 k0 k1
noncomputable def forest_Kids_e (n : Nat) : EK := forest_Kids_E (forest_Kids n)
def forest_Kids_S (G : forest_Kids_G) : CK := tabS [(56, forest_may_E G.forest_may), (109, forest_Forest_of_E G.forest_Forest_of)]
theorem forest_Kids_Sok (n : Nat) : CK.OK (forest_Kids_S (forest_Kids_g n)) (L tab) := tabS_ok _ (List.forall_mem_cons.2 ⟨(forest_may_ok n), List.forall_mem_cons.2 ⟨(forest_Forest_of_ok n), (fun _ h => nomatch h)⟩⟩)
def forest_Kids_hs : HintC := hintL []
noncomputable def forest_Kids_lp (_G : forest_Kids_G) (_n : Nat) : LK := tabL []
theorem forest_Kids_k (G : forest_Kids_G) {ρ : Type} (n : Nat) (a0 : Bool) (a1 : Bool) (a2 : Rows) (a3 : Int) (K : Res → Option ρ) : runC (forest_Kids_S G) forest_Kids_hs (forest_Kids_lp G n) m93 [.agg [.lst a0 a1 1 a2], .i .i64 a3] K = forest_Kids_s G n a0 a1 a2 a3 (K ⟨.lst true true 0 [], [], []⟩) (fun w0 w1 w2 => K ⟨.sl 0 w0 1 0 w1, [.row 1 true false w2], []⟩) := by kernel_rfl
theorem forest_Kids_ok (n : Nat) : EK.OK (forest_Kids_e n) 93 (L tab) := EK.shp (fun _ _ _ => rfl) fun ρ K y c e => EK.run (forest_Kids_Sok n) (by kernel_rfl) (MF.LKOK.of (LK.of (l := []) (by kernel_rfl) ((fun _ h => nomatch h)))) (forest_Kids_k (forest_Kids_g n) n _ _ _ _ K) (by kernel_rfl) e

/-! reeve/carve.Used -/
abbrev carve_Used_T : Type 1 := (ρ : Type) → Int → Int → Int → Bool → Bool → Rows → Bool → Bool → Rows → Int → (Int → Option ρ) → Option ρ
def carve_Used_E (G : carve_Used_T) : EK := fun ρ args K => decL [.agg [.i .i64 none, .i .i64 none, .i .i64 none, .lst none none 5 none, .lst none none 13 none], .i .i64 none] args fun c => G ρ c.1.1 c.1.2.1 c.1.2.2.1 c.1.2.2.2.1.1 c.1.2.2.2.1.2.1 c.1.2.2.2.1.2.2 c.1.2.2.2.2.1.1 c.1.2.2.2.2.1.2.1 c.1.2.2.2.2.1.2.2 c.2.1 (fun w0 => K ⟨.i .i64 w0, [], []⟩)
structure carve_Used_G where
  mk ::
  state_Good : state_Good_T
  state_Forest : state_Forest_T
  forest_Kids : forest_Kids_T
noncomputable def carve_Used_s (G : carve_Used_G) {ρ : Type} (_n : Nat) (a0 : Int) (a1 : Int) (a2 : Int) (a3 : Bool) (a4 : Bool) (a5 : Rows) (a6 : Bool) (a7 : Bool) (a8 : Rows) (a9 : Int) (k0 : (Int → Option ρ)) : Option ρ :=
  G.state_Good ρ a0 a1 a2 a3 a4 a5 a6 a7 a8 (fun w0_0 =>
    bif w0_0 then
      bif decide ((a9 : Int) < 0) then
        k0 0
      else bif decide ((a9 : Int) ≥ (((List.length (a5 : Rows)) : Nat) : Int)) then
        k0 0
      else rowT [.i .i64, .i .i64, .i .i64, .i .i64, .i .i64] a5 a9 fun c1 =>
      bif ((c1.1 : Int) != 1) then
        k0 0
      else G.state_Forest ρ a0 a1 a2 a3 a4 a5 a6 a7 a8 (fun w2_0 w2_1 w2_2 =>
        G.forest_Kids ρ w2_0 w2_1 w2_2 a9 (k0 0) (fun _w4_0 w4_1 _w4_2 =>
          bif ((((w4_1 : Nat) : Int) : Int) == 0) then
            k0 0
          else rowT [.i .i64, .i .i64, .i .i64, .i .i64, .i .i64] a5 a9 fun c5 =>
          rowT [.i .i64, .i .i64, .i .i64, .i .i64, .i .i64, .i .i64, .i .i64, .b, .i .u64, .i .u64, .i .u64, .i .u64, .i .u64] a8 c5.2.1 fun c6 =>
          k0 c6.2.2.2.2.1))
    else k0 0)
noncomputable def carve_Used_g (n : Nat) : carve_Used_G := ⟨state_Good n, state_Forest n, forest_Kids n⟩
noncomputable def carve_Used (n : Nat) : carve_Used_T := fun _ρ a0 a1 a2 a3 a4 a5 a6 a7 a8 a9 k0 => carve_Used_s (carve_Used_g n) n a0 a1 a2 a3 a4 a5 a6 a7 a8 a9 k0
noncomputable def carve_Used_e (n : Nat) : EK := carve_Used_E (carve_Used n)
def carve_Used_S (G : carve_Used_G) : CK := tabS [(16, state_Good_E G.state_Good), (31, state_Forest_E G.state_Forest), (93, forest_Kids_E G.forest_Kids)]
theorem carve_Used_Sok (n : Nat) : CK.OK (carve_Used_S (carve_Used_g n)) (L tab) := tabS_ok _ (List.forall_mem_cons.2 ⟨(state_Good_ok n), List.forall_mem_cons.2 ⟨(state_Forest_ok n), List.forall_mem_cons.2 ⟨(forest_Kids_ok n), (fun _ h => nomatch h)⟩⟩⟩)
def carve_Used_hs : HintC := hintL [(23, [.i .i64, .i .i64, .i .i64, .i .i64, .i .i64]), (40, [.i .i64, .i .i64, .i .i64, .i .i64, .i .i64]), (44, [.i .i64, .i .i64, .i .i64, .i .i64, .i .i64, .i .i64, .i .i64, .b, .i .u64, .i .u64, .i .u64, .i .u64, .i .u64])]
noncomputable def carve_Used_lp (_G : carve_Used_G) (_n : Nat) : LK := tabL []
theorem carve_Used_k (G : carve_Used_G) {ρ : Type} (n : Nat) (a0 : Int) (a1 : Int) (a2 : Int) (a3 : Bool) (a4 : Bool) (a5 : Rows) (a6 : Bool) (a7 : Bool) (a8 : Rows) (a9 : Int) (K : Res → Option ρ) : runC (carve_Used_S G) carve_Used_hs (carve_Used_lp G n) m69 [.agg [.i .i64 a0, .i .i64 a1, .i .i64 a2, .lst a3 a4 5 a5, .lst a6 a7 13 a8], .i .i64 a9] K = carve_Used_s G n a0 a1 a2 a3 a4 a5 a6 a7 a8 a9 (fun w0 => K ⟨.i .i64 w0, [], []⟩) := by kernel_rfl
theorem carve_Used_ok (n : Nat) : EK.OK (carve_Used_e n) 69 (L tab) := EK.shp (fun _ _ _ => rfl) fun ρ K y c e => EK.run (carve_Used_Sok n) (by kernel_rfl) (MF.LKOK.of (LK.of (l := []) (by kernel_rfl) ((fun _ h => nomatch h)))) (carve_Used_k (carve_Used_g n) n _ _ _ _ _ _ _ _ _ _ K) (by kernel_rfl) e

/-! reeve/state.Free$1 -/
abbrev state_Free_1_T : Type 1 := (ρ : Type) → Int → Int → Int → Int → Int → Int → Int → Bool → Int → Int → Int → Int → Int → (Bool → Option ρ) → Option ρ
def state_Free_1_E (G : state_Free_1_T) : EK := fun ρ args K => decL [.agg [.i .i64 none, .i .i64 none, .i .i64 none, .i .i64 none, .i .i64 none, .i .i64 none, .i .i64 none, .b none, .i .u64 none, .i .u64 none, .i .u64 none, .i .u64 none, .i .u64 none]] args fun c => G ρ c.1.1 c.1.2.1 c.1.2.2.1 c.1.2.2.2.1 c.1.2.2.2.2.1 c.1.2.2.2.2.2.1 c.1.2.2.2.2.2.2.1 c.1.2.2.2.2.2.2.2.1 c.1.2.2.2.2.2.2.2.2.1 c.1.2.2.2.2.2.2.2.2.2.1 c.1.2.2.2.2.2.2.2.2.2.2.1 c.1.2.2.2.2.2.2.2.2.2.2.2.1 c.1.2.2.2.2.2.2.2.2.2.2.2.2.1 (fun w0 => K ⟨.b w0, [], []⟩)
structure state_Free_1_G where
  mk ::
noncomputable def state_Free_1_s (_G : state_Free_1_G) {ρ : Type} (_n : Nat) (a0 : Int) (_a1 : Int) (_a2 : Int) (_a3 : Int) (_a4 : Int) (_a5 : Int) (_a6 : Int) (_a7 : Bool) (_a8 : Int) (_a9 : Int) (_a10 : Int) (_a11 : Int) (_a12 : Int) (k0 : (Bool → Option ρ)) : Option ρ :=
  bif ((a0 : Int) == 0) then
    k0 true
  else k0 false
noncomputable def state_Free_1_g (_n : Nat) : state_Free_1_G := ⟨⟩
noncomputable def state_Free_1 (n : Nat) : state_Free_1_T := fun _ρ a0 a1 a2 a3 a4 a5 a6 a7 a8 a9 a10 a11 a12 k0 => state_Free_1_s (state_Free_1_g n) n a0 a1 a2 a3 a4 a5 a6 a7 a8 a9 a10 a11 a12 k0
noncomputable def state_Free_1_e (n : Nat) : EK := state_Free_1_E (state_Free_1 n)
def state_Free_1_S (_G : state_Free_1_G) : CK := tabS []
theorem state_Free_1_Sok (n : Nat) : CK.OK (state_Free_1_S (state_Free_1_g n)) (L tab) := tabS_ok _ ((fun _ h => nomatch h))
def state_Free_1_hs : HintC := hintL []
noncomputable def state_Free_1_lp (_G : state_Free_1_G) (_n : Nat) : LK := tabL []
theorem state_Free_1_k (G : state_Free_1_G) {ρ : Type} (n : Nat) (a0 : Int) (a1 : Int) (a2 : Int) (a3 : Int) (a4 : Int) (a5 : Int) (a6 : Int) (a7 : Bool) (a8 : Int) (a9 : Int) (a10 : Int) (a11 : Int) (a12 : Int) (K : Res → Option ρ) : runC (state_Free_1_S G) state_Free_1_hs (state_Free_1_lp G n) m95 [.agg [.i .i64 a0, .i .i64 a1, .i .i64 a2, .i .i64 a3, .i .i64 a4, .i .i64 a5, .i .i64 a6, .b a7, .i .u64 a8, .i .u64 a9, .i .u64 a10, .i .u64 a11, .i .u64 a12]] K = state_Free_1_s G n a0 a1 a2 a3 a4 a5 a6 a7 a8 a9 a10 a11 a12 (fun w0 => K ⟨.b w0, [], []⟩) := by kernel_rfl
theorem state_Free_1_ok (n : Nat) : EK.OK (state_Free_1_e n) 95 (L tab) := EK.shp (fun _ _ _ => rfl) fun ρ K y c e => EK.run (state_Free_1_Sok n) (by kernel_rfl) (MF.LKOK.of (LK.of (l := []) (by kernel_rfl) ((fun _ h => nomatch h)))) (state_Free_1_k (state_Free_1_g n) n _ _ _ _ _ _ _ _ _ _ _ _ _ K) (by kernel_rfl) e

/-! slices.IndexFunc[[]reeve/thing.Thing,reeve/thing.Thing] -/
abbrev slices_IndexFunc_Thing_i1_T : Type 1 := (ρ : Type) → Bool → Bool → Rows → (Int → Option ρ) → Option ρ
def slices_IndexFunc_Thing_i1_E (G : slices_IndexFunc_Thing_i1_T) : EK := fun ρ args K => decL [.lst none none 13 none, .fn 95 []] args fun c => G ρ c.1.1 c.1.2.1 c.1.2.2 (fun w0 => K ⟨.i .i64 w0, [], []⟩)
structure slices_IndexFunc_Thing_i1_G where
  mk ::
  state_Free_1 : state_Free_1_T
abbrev slices_IndexFunc_Thing_i1_l2_V : Type := Int
noncomputable def slices_IndexFunc_Thing_i1_l2_s (G : slices_IndexFunc_Thing_i1_G) {ρ : Type} (_n : Nat) (_p0 : Bool) (_p1 : Bool) (p2 : Rows) (p3 : Int) (k0 : (Int → Option ρ)) (k1 : (Option ρ)) (rec' : slices_IndexFunc_Thing_i1_l2_V → Option ρ) : slices_IndexFunc_Thing_i1_l2_V → Option ρ
  | v =>
  bif decide ((v : Int) < p3) then
    rowT [.i .i64, .i .i64, .i .i64, .i .i64, .i .i64, .i .i64, .i .i64, .b, .i .u64, .i .u64, .i .u64, .i .u64, .i .u64] p2 v fun c0 =>
    G.state_Free_1 ρ c0.1 c0.2.1 c0.2.2.1 c0.2.2.2.1 c0.2.2.2.2.1 c0.2.2.2.2.2.1 c0.2.2.2.2.2.2.1 c0.2.2.2.2.2.2.2.1 c0.2.2.2.2.2.2.2.2.1 c0.2.2.2.2.2.2.2.2.2.1 c0.2.2.2.2.2.2.2.2.2.2.1 c0.2.2.2.2.2.2.2.2.2.2.2.1 c0.2.2.2.2.2.2.2.2.2.2.2.2.1 (fun w1_0 =>
      bif w1_0 then
        k0 v
      else rec' ((IntKind.wrap .i64 (v + 1))))
  else k1
noncomputable def slices_IndexFunc_Thing_i1_l2 (G : slices_IndexFunc_Thing_i1_G) {ρ : Type} (n : Nat) (p0 : Bool) (p1 : Bool) (p2 : Rows) (p3 : Int) (k0 : (Int → Option ρ)) (k1 : (Option ρ)) (v : slices_IndexFunc_Thing_i1_l2_V) : Option ρ := fuelN (slices_IndexFunc_Thing_i1_l2_s G n p0 p1 p2 p3 k0 k1) n v
def slices_IndexFunc_Thing_i1_l2_enc (p0 : Bool) (p1 : Bool) (p2 : Rows) (p3 : Int) : slices_IndexFunc_Thing_i1_l2_V → St
  | v => ⟨[(0, .lst p0 p1 13 p2), (1, .fn 95 []), (7, .i .i64 p3), (8, .i .i64 v)], []⟩
noncomputable def slices_IndexFunc_Thing_i1_s (G : slices_IndexFunc_Thing_i1_G) {ρ : Type} (n : Nat) (a0 : Bool) (a1 : Bool) (a2 : Rows) (k0 : (Int → Option ρ)) : Option ρ :=
  slices_IndexFunc_Thing_i1_l2 G n a0 a1 a2 (((List.length (a2 : Rows)) : Nat) : Int) (fun w0_0 =>
    k0 w0_0) (k0 (-1)) (0)
noncomputable def slices_IndexFunc_Thing_i1_g (n : Nat) : slices_IndexFunc_Thing_i1_G := ⟨state_Free_1 n⟩
noncomputable def slices_IndexFunc_Thing_i1 (n : Nat) : slices_IndexFunc_Thing_i1_T := fun _ρ a0 a1 a2 k0 => slices_IndexFunc_Thing_i1_s (slices_IndexFunc_Thing_i1_g n) n a0 a1 a2 k0
noncomputable def slices_IndexFunc_Thing_i1_e (n : Nat) : EK := slices_IndexFunc_Thing_i1_E (slices_IndexFunc_Thing_i1 n)
def slices_IndexFunc_Thing_i1_S (G : slices_IndexFunc_Thing_i1_G) : CK := tabS [(95, state_Free_1_E G.state_Free_1)]
theorem slices_IndexFunc_Thing_i1_Sok (n : Nat) : CK.OK (slices_IndexFunc_Thing_i1_S (slices_IndexFunc_Thing_i1_g n)) (L tab) := tabS_ok _ (List.forall_mem_cons.2 ⟨(state_Free_1_ok n), (fun _ h => nomatch h)⟩)
def slices_IndexFunc_Thing_i1_hs : HintC := hintL [(14, [.i .i64, .i .i64, .i .i64, .i .i64, .i .i64, .i .i64, .i .i64, .b, .i .u64, .i .u64, .i .u64, .i .u64, .i .u64])]
def slices_IndexFunc_Thing_i1_c2 : Nat × List Nat × List Nat × MC := loopAt 2 m94
noncomputable def slices_IndexFunc_Thing_i1_l2_d (G : slices_IndexFunc_Thing_i1_G) (n : Nat) : Go.Rv.LE := fun _ρ h K => decSt [(0, .lst none none 13 none), (1, .fn 95 []), (7, .i .i64 none), (8, .i .i64 none)] [] h fun a _b => slices_IndexFunc_Thing_i1_l2 G n a.1.1 a.1.2.1 a.1.2.2 a.2.2.1 (fun w0 => K .ret ⟨[(4, .i .i64 w0)], []⟩) (K (.exit 0) ⟨[(4, .u)], []⟩) (a.2.2.2.1)
noncomputable def slices_IndexFunc_Thing_i1_d2 (G : slices_IndexFunc_Thing_i1_G) (n : Nat) : Go.Rv.LE := slices_IndexFunc_Thing_i1_l2_d G n
noncomputable def slices_IndexFunc_Thing_i1_lp (G : slices_IndexFunc_Thing_i1_G) (n : Nat) : LK := tabL [(2, slices_IndexFunc_Thing_i1_d2 G n)]
theorem slices_IndexFunc_Thing_i1_l2_k (G : slices_IndexFunc_Thing_i1_G) {ρ : Type} (n : Nat) (p0 : Bool) (p1 : Bool) (p2 : Rows) (p3 : Int) (K : Ex → St → Option ρ) (N : St → Option ρ) : ∀ v, roundC (slices_IndexFunc_Thing_i1_S G) slices_IndexFunc_Thing_i1_hs (slices_IndexFunc_Thing_i1_lp G n) slices_IndexFunc_Thing_i1_c2 0 N K (slices_IndexFunc_Thing_i1_l2_enc p0 p1 p2 p3 v) = slices_IndexFunc_Thing_i1_l2_s G n p0 p1 p2 p3 (fun w0 => K .ret ⟨[(4, .i .i64 w0)], []⟩) (K (.exit 0) ⟨[(4, .u)], []⟩) (fun v => N (slices_IndexFunc_Thing_i1_l2_enc p0 p1 p2 p3 v)) v
  | v => by kernel_rfl
theorem slices_IndexFunc_Thing_i1_l2_dok (n : Nat) : LE.OK (slices_IndexFunc_Thing_i1_l2_d (slices_IndexFunc_Thing_i1_g n) n) (L tab) slices_IndexFunc_Thing_i1_c2 := LE.shp (fun _ _ _ => rfl) fun ρ K y a b e => LE.rounds (slices_IndexFunc_Thing_i1_Sok n) (LK.of (l := []) (by kernel_rfl) ((fun _ h => nomatch h))) (slices_IndexFunc_Thing_i1_l2_k (slices_IndexFunc_Thing_i1_g n) n _ _ _ _ K) (by kernel_rfl) (by kernel_rfl) e
theorem slices_IndexFunc_Thing_i1_d2_ok (n : Nat) : LE.OK (slices_IndexFunc_Thing_i1_d2 (slices_IndexFunc_Thing_i1_g n) n) (L tab) slices_IndexFunc_Thing_i1_c2 := slices_IndexFunc_Thing_i1_l2_dok n
theorem slices_IndexFunc_Thing_i1_k (G : slices_IndexFunc_Thing_i1_G) {ρ : Type} (n : Nat) (a0 : Bool) (a1 : Bool) (a2 : Rows) (K : Res → Option ρ) : runC (slices_IndexFunc_Thing_i1_S G) slices_IndexFunc_Thing_i1_hs (slices_IndexFunc_Thing_i1_lp G n) m94 [.lst a0 a1 13 a2, .fn 95 []] K = slices_IndexFunc_Thing_i1_s G n a0 a1 a2 (fun w0 => K ⟨.i .i64 w0, [], []⟩) := by kernel_rfl
theorem slices_IndexFunc_Thing_i1_ok (n : Nat) : EK.OK (slices_IndexFunc_Thing_i1_e n) 94 (L tab) := EK.shp (fun _ _ _ => rfl) fun ρ K y c e => EK.run (slices_IndexFunc_Thing_i1_Sok n) (by kernel_rfl) (MF.LKOK.of (LK.of (l := [slices_IndexFunc_Thing_i1_c2]) (by kernel_rfl) (List.forall_mem_cons.2 ⟨LE.at (e := slices_IndexFunc_Thing_i1_d2 (slices_IndexFunc_Thing_i1_g n) n) (by kernel_rfl) (slices_IndexFunc_Thing_i1_d2_ok n), (fun _ h => nomatch h)⟩))) (slices_IndexFunc_Thing_i1_k (slices_IndexFunc_Thing_i1_g n) n _ _ _ K) (by kernel_rfl) e

/-! reeve/state.Free -/
abbrev state_Free_T : Type 1 := (ρ : Type) → Int → Int → Int → Bool → Bool → Rows → Bool → Bool → Rows → (Int → Option ρ) → Option ρ
def state_Free_E (G : state_Free_T) : EK := fun ρ args K => decL [.agg [.i .i64 none, .i .i64 none, .i .i64 none, .lst none none 5 none, .lst none none 13 none]] args fun c => G ρ c.1.1 c.1.2.1 c.1.2.2.1 c.1.2.2.2.1.1 c.1.2.2.2.1.2.1 c.1.2.2.2.1.2.2 c.1.2.2.2.2.1.1 c.1.2.2.2.2.1.2.1 c.1.2.2.2.2.1.2.2 (fun w0 => K ⟨.i .i64 w0, [], []⟩)
structure state_Free_G where
  mk ::
  state_Good : state_Good_T
  slices_IndexFunc_Thing_i1 : slices_IndexFunc_Thing_i1_T
noncomputable def state_Free_s (G : state_Free_G) {ρ : Type} (_n : Nat) (a0 : Int) (a1 : Int) (a2 : Int) (a3 : Bool) (a4 : Bool) (a5 : Rows) (a6 : Bool) (a7 : Bool) (a8 : Rows) (k0 : (Int → Option ρ)) : Option ρ :=
  G.state_Good ρ a0 a1 a2 a3 a4 a5 a6 a7 a8 (fun w0_0 =>
    bif w0_0 then
      G.slices_IndexFunc_Thing_i1 ρ a6 a7 a8 (fun w1_0 =>
        k0 w1_0)
    else k0 (-1))
noncomputable def state_Free_g (n : Nat) : state_Free_G := ⟨state_Good n, slices_IndexFunc_Thing_i1 n⟩
noncomputable def state_Free (n : Nat) : state_Free_T := fun _ρ a0 a1 a2 a3 a4 a5 a6 a7 a8 k0 => state_Free_s (state_Free_g n) n a0 a1 a2 a3 a4 a5 a6 a7 a8 k0
noncomputable def state_Free_e (n : Nat) : EK := state_Free_E (state_Free n)
def state_Free_S (G : state_Free_G) : CK := tabS [(16, state_Good_E G.state_Good), (94, slices_IndexFunc_Thing_i1_E G.slices_IndexFunc_Thing_i1)]
theorem state_Free_Sok (n : Nat) : CK.OK (state_Free_S (state_Free_g n)) (L tab) := tabS_ok _ (List.forall_mem_cons.2 ⟨(state_Good_ok n), List.forall_mem_cons.2 ⟨(slices_IndexFunc_Thing_i1_ok n), (fun _ h => nomatch h)⟩⟩)
def state_Free_hs : HintC := hintL []
noncomputable def state_Free_lp (_G : state_Free_G) (_n : Nat) : LK := tabL []
theorem state_Free_k (G : state_Free_G) {ρ : Type} (n : Nat) (a0 : Int) (a1 : Int) (a2 : Int) (a3 : Bool) (a4 : Bool) (a5 : Rows) (a6 : Bool) (a7 : Bool) (a8 : Rows) (K : Res → Option ρ) : runC (state_Free_S G) state_Free_hs (state_Free_lp G n) m70 [.agg [.i .i64 a0, .i .i64 a1, .i .i64 a2, .lst a3 a4 5 a5, .lst a6 a7 13 a8]] K = state_Free_s G n a0 a1 a2 a3 a4 a5 a6 a7 a8 (fun w0 => K ⟨.i .i64 w0, [], []⟩) := by kernel_rfl
theorem state_Free_ok (n : Nat) : EK.OK (state_Free_e n) 70 (L tab) := EK.shp (fun _ _ _ => rfl) fun ρ K y c e => EK.run (state_Free_Sok n) (by kernel_rfl) (MF.LKOK.of (LK.of (l := []) (by kernel_rfl) ((fun _ h => nomatch h)))) (state_Free_k (state_Free_g n) n _ _ _ _ _ _ _ _ _ K) (by kernel_rfl) e

end Go.Rv
/- functions as programs of ours, and their ties, part 3 -/
namespace Go.Rv
/-! reeve/state.Gap -/
abbrev state_Gap_T : Type 1 := (ρ : Type) → Int → Int → Int → Bool → Bool → Rows → Bool → Bool → Rows → Int → (Int → Bool → Option ρ) → Option ρ
def state_Gap_E (G : state_Gap_T) : EK := fun ρ args K => decL [.agg [.i .i64 none, .i .i64 none, .i .i64 none, .lst none none 5 none, .lst none none 13 none], .i .i64 none] args fun c => G ρ c.1.1 c.1.2.1 c.1.2.2.1 c.1.2.2.2.1.1 c.1.2.2.2.1.2.1 c.1.2.2.2.1.2.2 c.1.2.2.2.2.1.1 c.1.2.2.2.2.1.2.1 c.1.2.2.2.2.1.2.2 c.2.1 (fun w0 w1 => K ⟨.tup [.i .i64 w0, .b w1], [], []⟩)
structure state_Gap_G where
  mk ::
  state_Good : state_Good_T
  state_State_owner : state_State_owner_T
abbrev state_Gap_l5_V : Type := Int × Int
noncomputable def state_Gap_l5_s (G : state_Gap_G) {ρ : Type} (_n : Nat) (p0 : Int) (p1 : Int) (p2 : Int) (p3 : Int) (p4 : Int) (p5 : Bool) (p6 : Bool) (p7 : Rows) (p8 : Bool) (p9 : Bool) (p10 : Rows) (k0 : (Int → Option ρ)) (k1 : (Option ρ)) (rec' : state_Gap_l5_V → Option ρ) : state_Gap_l5_V → Option ρ
  | v =>
  bif decide ((v.2 : Int) < p1) then
    G.state_State_owner ρ p2 p3 p4 p5 p6 p7 p8 p9 p10 v.2 (fun w0_0 =>
      bif ((w0_0 : Int) != (-1)) then
        chk (decide (0 ≤ (p0 : Int))) <|
        bif ((0 : Int) == (IntKind.wrap .i64 ((1 : Int) * 2 ^ (min p0.toNat (IntKind.bits .i64))))) then
          k0 (IntKind.wrap .i64 ((IntKind.wrap .i64 (v.2 + 1)) - 0))
        else rec' (0, (IntKind.wrap .i64 (v.2 + 1)))
      else chk (decide (0 ≤ (p0 : Int))) <|
      bif (((IntKind.wrap .i64 (v.1 + 1)) : Int) == (IntKind.wrap .i64 ((1 : Int) * 2 ^ (min p0.toNat (IntKind.bits .i64))))) then
        k0 (IntKind.wrap .i64 ((IntKind.wrap .i64 (v.2 + 1)) - (IntKind.wrap .i64 (v.1 + 1))))
      else rec' ((IntKind.wrap .i64 (v.1 + 1)), (IntKind.wrap .i64 (v.2 + 1))))
  else k1
noncomputable def state_Gap_l5 (G : state_Gap_G) {ρ : Type} (n : Nat) (p0 : Int) (p1 : Int) (p2 : Int) (p3 : Int) (p4 : Int) (p5 : Bool) (p6 : Bool) (p7 : Rows) (p8 : Bool) (p9 : Bool) (p10 : Rows) (k0 : (Int → Option ρ)) (k1 : (Option ρ)) (v : state_Gap_l5_V) : Option ρ := fuelN (state_Gap_l5_s G n p0 p1 p2 p3 p4 p5 p6 p7 p8 p9 p10 k0 k1) n v
def state_Gap_l5_enc (p0 : Int) (p1 : Int) (p2 : Int) (p3 : Int) (p4 : Int) (p5 : Bool) (p6 : Bool) (p7 : Rows) (p8 : Bool) (p9 : Bool) (p10 : Rows) : state_Gap_l5_V → St
  | v => ⟨[(1, .i .i64 p0), (2, .ptr 0 1 5 0 0), (6, .i .i64 v.1), (21, .i .i64 p1), (22, .i .i64 v.2)], [.row 5 true false [[.i .i64 p2, .i .i64 p3, .i .i64 p4, .lst p5 p6 5 p7, .lst p8 p9 13 p10]]]⟩
noncomputable def state_Gap_s (G : state_Gap_G) {ρ : Type} (n : Nat) (a0 : Int) (a1 : Int) (a2 : Int) (a3 : Bool) (a4 : Bool) (a5 : Rows) (a6 : Bool) (a7 : Bool) (a8 : Rows) (a9 : Int) (k0 : (Int → Bool → Option ρ)) : Option ρ :=
  G.state_Good ρ a0 a1 a2 a3 a4 a5 a6 a7 a8 (fun w0_0 =>
    bif w0_0 then
      bif decide ((a9 : Int) < 1) then
        k0 0 false
      else bif decide ((a9 : Int) > 4) then
        k0 0 false
      else state_Gap_l5 G n a9 (((List.length (a5 : Rows)) : Nat) : Int) a0 a1 a2 a3 a4 a5 a6 a7 a8 (fun w1_0 =>
        k0 w1_0 true) (k0 0 false) (0, 0)
    else k0 0 false)
noncomputable def state_Gap_g (n : Nat) : state_Gap_G := ⟨state_Good n, state_State_owner n⟩
noncomputable def state_Gap (n : Nat) : state_Gap_T := fun _ρ a0 a1 a2 a3 a4 a5 a6 a7 a8 a9 k0 => state_Gap_s (state_Gap_g n) n a0 a1 a2 a3 a4 a5 a6 a7 a8 a9 k0
noncomputable def state_Gap_e (n : Nat) : EK := state_Gap_E (state_Gap n)
def state_Gap_S (G : state_Gap_G) : CK := tabS [(16, state_Good_E G.state_Good), (92, state_State_owner_E G.state_State_owner)]
theorem state_Gap_Sok (n : Nat) : CK.OK (state_Gap_S (state_Gap_g n)) (L tab) := tabS_ok _ (List.forall_mem_cons.2 ⟨(state_Good_ok n), List.forall_mem_cons.2 ⟨(state_State_owner_ok n), (fun _ h => nomatch h)⟩⟩)
def state_Gap_hs : HintC := hintL []
def state_Gap_c5 : Nat × List Nat × List Nat × MC := loopAt 5 m71
noncomputable def state_Gap_l5_d (G : state_Gap_G) (n : Nat) : Go.Rv.LE := fun _ρ h K => decSt [(1, .i .i64 none), (2, .ptr 0 5 0 (some 1) (some 0)), (6, .i .i64 none), (21, .i .i64 none), (22, .i .i64 none)] [.row 5 true false (some [[.i .i64 none, .i .i64 none, .i .i64 none, .lst none none 5 none, .lst none none 13 none]])] h fun a b => state_Gap_l5 G n a.1 a.2.2.2.1 b.1.1.1 b.1.1.2.1 b.1.1.2.2.1 b.1.1.2.2.2.1.1 b.1.1.2.2.2.1.2.1 b.1.1.2.2.2.1.2.2 b.1.1.2.2.2.2.1.1 b.1.1.2.2.2.2.1.2.1 b.1.1.2.2.2.2.1.2.2 (fun w0 => K .ret ⟨[(4, .i .i64 w0), (5, .b true)], [.row 5 true false [[.i .i64 b.1.1.1, .i .i64 b.1.1.2.1, .i .i64 b.1.1.2.2.1, .lst b.1.1.2.2.2.1.1 b.1.1.2.2.2.1.2.1 5 b.1.1.2.2.2.1.2.2, .lst b.1.1.2.2.2.2.1.1 b.1.1.2.2.2.2.1.2.1 13 b.1.1.2.2.2.2.1.2.2]]]⟩) (K (.exit 0) ⟨[(4, .u), (5, .u)], [.row 5 true false [[.i .i64 b.1.1.1, .i .i64 b.1.1.2.1, .i .i64 b.1.1.2.2.1, .lst b.1.1.2.2.2.1.1 b.1.1.2.2.2.1.2.1 5 b.1.1.2.2.2.1.2.2, .lst b.1.1.2.2.2.2.1.1 b.1.1.2.2.2.2.1.2.1 13 b.1.1.2.2.2.2.1.2.2]]]⟩) (a.2.2.1, a.2.2.2.2.1)
noncomputable def state_Gap_d5 (G : state_Gap_G) (n : Nat) : Go.Rv.LE := state_Gap_l5_d G n
noncomputable def state_Gap_lp (G : state_Gap_G) (n : Nat) : LK := tabL [(5, state_Gap_d5 G n)]
theorem state_Gap_l5_k (G : state_Gap_G) {ρ : Type} (n : Nat) (p0 : Int) (p1 : Int) (p2 : Int) (p3 : Int) (p4 : Int) (p5 : Bool) (p6 : Bool) (p7 : Rows) (p8 : Bool) (p9 : Bool) (p10 : Rows) (K : Ex → St → Option ρ) (N : St → Option ρ) : ∀ v, roundC (state_Gap_S G) state_Gap_hs (state_Gap_lp G n) state_Gap_c5 1 N K (state_Gap_l5_enc p0 p1 p2 p3 p4 p5 p6 p7 p8 p9 p10 v) = state_Gap_l5_s G n p0 p1 p2 p3 p4 p5 p6 p7 p8 p9 p10 (fun w0 => K .ret ⟨[(4, .i .i64 w0), (5, .b true)], [.row 5 true false [[.i .i64 p2, .i .i64 p3, .i .i64 p4, .lst p5 p6 5 p7, .lst p8 p9 13 p10]]]⟩) (K (.exit 0) ⟨[(4, .u), (5, .u)], [.row 5 true false [[.i .i64 p2, .i .i64 p3, .i .i64 p4, .lst p5 p6 5 p7, .lst p8 p9 13 p10]]]⟩) (fun v => N (state_Gap_l5_enc p0 p1 p2 p3 p4 p5 p6 p7 p8 p9 p10 v)) v
  | v => by kernel_rfl
theorem state_Gap_l5_dok (n : Nat) : LE.OK (state_Gap_l5_d (state_Gap_g n) n) (L tab) state_Gap_c5 := LE.shp (fun _ _ _ => rfl) fun ρ K y a b e => LE.rounds (state_Gap_Sok n) (LK.of (l := []) (by kernel_rfl) ((fun _ h => nomatch h))) (state_Gap_l5_k (state_Gap_g n) n _ _ _ _ _ _ _ _ _ _ _ K) (by kernel_rfl) (by kernel_rfl) e
theorem state_Gap_d5_ok (n : Nat) : LE.OK (state_Gap_d5 (state_Gap_g n) n) (L tab) state_Gap_c5 := state_Gap_l5_dok n
theorem state_Gap_k (G : state_Gap_G) {ρ : Type} (n : Nat) (a0 : Int) (a1 : Int) (a2 : Int) (a3 : Bool) (a4 : Bool) (a5 : Rows) (a6 : Bool) (a7 : Bool) (a8 : Rows) (a9 : Int) (K : Res → Option ρ) : runC (state_Gap_S G) state_Gap_hs (state_Gap_lp G n) m71 [.agg [.i .i64 a0, .i .i64 a1, .i .i64 a2, .lst a3 a4 5 a5, .lst a6 a7 13 a8], .i .i64 a9] K = state_Gap_s G n a0 a1 a2 a3 a4 a5 a6 a7 a8 a9 (fun w0 w1 => K ⟨.tup [.i .i64 w0, .b w1], [], []⟩) := by kernel_rfl
theorem state_Gap_ok (n : Nat) : EK.OK (state_Gap_e n) 71 (L tab) := EK.shp (fun _ _ _ => rfl) fun ρ K y c e => EK.run (state_Gap_Sok n) (by kernel_rfl) (MF.LKOK.of (LK.of (l := [state_Gap_c5]) (by kernel_rfl) (List.forall_mem_cons.2 ⟨LE.at (e := state_Gap_d5 (state_Gap_g n) n) (by kernel_rfl) (state_Gap_d5_ok n), (fun _ h => nomatch h)⟩))) (state_Gap_k (state_Gap_g n) n _ _ _ _ _ _ _ _ _ _ K) (by kernel_rfl) e

/-! slices.Clone[[]reeve/state.Slot,reeve/state.Slot] -/
abbrev slices_Clone_Slot_T : Type 1 := (ρ : Type) → Bool → Bool → Rows → (Option ρ) → (Nat → Nat → Rows → Option ρ) → Option ρ
def slices_Clone_Slot_E (G : slices_Clone_Slot_T) : EK := fun ρ args K => decL [.lst none none 5 none] args fun c => G ρ c.1.1 c.1.2.1 c.1.2.2 (K ⟨.lst true true 0 [], [], []⟩) (fun w0 w1 w2 => K ⟨.sl 0 w0 5 0 w1, [.row 5 true false w2], []⟩)
structure slices_Clone_Slot_G where
  mk ::
noncomputable def slices_Clone_Slot_s (_G : slices_Clone_Slot_G) {ρ : Type} (_n : Nat) (a0 : Bool) (_a1 : Bool) (a2 : Rows) (k0 : (Option ρ)) (k1 : (Nat → Nat → Rows → Option ρ)) : Option ρ :=
  bif a0 then
    k0
  else chk (List.all (a2 : Rows) fun e => e.length == 5) <|
  chk (decide ((0 + (List.length (a2 : Rows))) ≤ most)) <|
  chk (List.all (a2 : Rows) fun e => !ownL e) <|
  k1 (0 + (List.length (a2 : Rows))) (0 + (List.length (a2 : Rows))) ([] ++ a2)
noncomputable def slices_Clone_Slot_g (_n : Nat) : slices_Clone_Slot_G := ⟨⟩
noncomputable def slices_Clone_Slot (n : Nat) : slices_Clone_Slot_T := fun _ρ a0 a1 a2 k0 k1 => slices_Clone_Slot_s (slices_Clone_Slot_g n) n a0 a1 a2 k0 k1
noncomputable def slices_Clone_Slot_e (n : Nat) : EK := slices_Clone_Slot_E (slices_Clone_Slot n)
def slices_Clone_Slot_S (_G : slices_Clone_Slot_G) : CK := tabS []
theorem slices_Clone_Slot_Sok (n : Nat) : CK.OK (slices_Clone_Slot_S (slices_Clone_Slot_g n)) (L tab) := tabS_ok _ ((fun _ h => nomatch h))
def slices_Clone_Slot_hs : HintC := hintL []
noncomputable def slices_Clone_Slot_lp (_G : slices_Clone_Slot_G) (_n : Nat) : LK := tabL []
theorem slices_Clone_Slot_k (G : slices_Clone_Slot_G) {ρ : Type} (n : Nat) (a0 : Bool) (a1 : Bool) (a2 : Rows) (K : Res → Option ρ) : runC (slices_Clone_Slot_S G) slices_Clone_Slot_hs (slices_Clone_Slot_lp G n) m54 [.lst a0 a1 5 a2] K = slices_Clone_Slot_s G n a0 a1 a2 (K ⟨.lst true true 0 [], [], []⟩) (fun w0 w1 w2 => K ⟨.sl 0 w0 5 0 w1, [.row 5 true false w2], []⟩) := by kernel_rfl
theorem slices_Clone_Slot_ok (n : Nat) : EK.OK (slices_Clone_Slot_e n) 54 (L tab) := EK.shp (fun _ _ _ => rfl) fun ρ K y c e => EK.run (slices_Clone_Slot_Sok n) (by kernel_rfl) (MF.LKOK.of (LK.of (l := []) (by kernel_rfl) ((fun _ h => nomatch h)))) (slices_Clone_Slot_k (slices_Clone_Slot_g n) n _ _ _ K) (by kernel_rfl) e

/-! slices.Clone[[]reeve/thing.Thing,reeve/thing.Thing] -/
abbrev slices_Clone_Thing_T : Type 1 := (ρ : Type) → Bool → Bool → Rows → (Option ρ) → (Nat → Nat → Rows → Option ρ) → Option ρ
def slices_Clone_Thing_E (G : slices_Clone_Thing_T) : EK := fun ρ args K => decL [.lst none none 13 none] args fun c => G ρ c.1.1 c.1.2.1 c.1.2.2 (K ⟨.lst true true 0 [], [], []⟩) (fun w0 w1 w2 => K ⟨.sl 0 w0 13 0 w1, [.row 13 true false w2], []⟩)
structure slices_Clone_Thing_G where
  mk ::
noncomputable def slices_Clone_Thing_s (_G : slices_Clone_Thing_G) {ρ : Type} (_n : Nat) (a0 : Bool) (_a1 : Bool) (a2 : Rows) (k0 : (Option ρ)) (k1 : (Nat → Nat → Rows → Option ρ)) : Option ρ :=
  bif a0 then
    k0
  else chk (List.all (a2 : Rows) fun e => e.length == 13) <|
  chk (decide ((0 + (List.length (a2 : Rows))) ≤ most)) <|
  chk (List.all (a2 : Rows) fun e => !ownL e) <|
  k1 (0 + (List.length (a2 : Rows))) (0 + (List.length (a2 : Rows))) ([] ++ a2)
noncomputable def slices_Clone_Thing_g (_n : Nat) : slices_Clone_Thing_G := ⟨⟩
noncomputable def slices_Clone_Thing (n : Nat) : slices_Clone_Thing_T := fun _ρ a0 a1 a2 k0 k1 => slices_Clone_Thing_s (slices_Clone_Thing_g n) n a0 a1 a2 k0 k1
noncomputable def slices_Clone_Thing_e (n : Nat) : EK := slices_Clone_Thing_E (slices_Clone_Thing n)
def slices_Clone_Thing_S (_G : slices_Clone_Thing_G) : CK := tabS []
theorem slices_Clone_Thing_Sok (n : Nat) : CK.OK (slices_Clone_Thing_S (slices_Clone_Thing_g n)) (L tab) := tabS_ok _ ((fun _ h => nomatch h))
def slices_Clone_Thing_hs : HintC := hintL []
noncomputable def slices_Clone_Thing_lp (_G : slices_Clone_Thing_G) (_n : Nat) : LK := tabL []
theorem slices_Clone_Thing_k (G : slices_Clone_Thing_G) {ρ : Type} (n : Nat) (a0 : Bool) (a1 : Bool) (a2 : Rows) (K : Res → Option ρ) : runC (slices_Clone_Thing_S G) slices_Clone_Thing_hs (slices_Clone_Thing_lp G n) m55 [.lst a0 a1 13 a2] K = slices_Clone_Thing_s G n a0 a1 a2 (K ⟨.lst true true 0 [], [], []⟩) (fun w0 w1 w2 => K ⟨.sl 0 w0 13 0 w1, [.row 13 true false w2], []⟩) := by kernel_rfl
theorem slices_Clone_Thing_ok (n : Nat) : EK.OK (slices_Clone_Thing_e n) 55 (L tab) := EK.shp (fun _ _ _ => rfl) fun ρ K y c e => EK.run (slices_Clone_Thing_Sok n) (by kernel_rfl) (MF.LKOK.of (LK.of (l := []) (by kernel_rfl) ((fun _ h => nomatch h)))) (slices_Clone_Thing_k (slices_Clone_Thing_g n) n _ _ _ K) (by kernel_rfl) e

/-! reeve/state.Clone -/
abbrev state_Clone_T : Type 1 := (ρ : Type) → Int → Int → Int → Bool → Bool → Rows → Bool → Bool → Rows → (Option ρ) → (Nat → Nat → Rows → Option ρ) → (Nat → Nat → Rows → Option ρ) → (Nat → Nat → Nat → Nat → Rows → Rows → Option ρ) → Option ρ
def state_Clone_E (G : state_Clone_T) : EK := fun ρ args K => decL [.agg [.i .i64 none, .i .i64 none, .i .i64 none, .lst none none 5 none, .lst none none 13 none]] args fun c => G ρ c.1.1 c.1.2.1 c.1.2.2.1 c.1.2.2.2.1.1 c.1.2.2.2.1.2.1 c.1.2.2.2.1.2.2 c.1.2.2.2.2.1.1 c.1.2.2.2.2.1.2.1 c.1.2.2.2.2.1.2.2 (K ⟨.agg [.i .i64 c.1.1, .i .i64 c.1.2.1, .i .i64 c.1.2.2.1, .lst true true 0 [], .lst true true 0 []], [], []⟩) (fun w0 w1 w2 => K ⟨.agg [.i .i64 c.1.1, .i .i64 c.1.2.1, .i .i64 c.1.2.2.1, .lst true true 0 [], .sl 0 w0 13 0 w1], [.row 13 true false w2], []⟩) (fun w0 w1 w2 => K ⟨.agg [.i .i64 c.1.1, .i .i64 c.1.2.1, .i .i64 c.1.2.2.1, .sl 0 w0 5 0 w1, .lst true true 0 []], [.row 5 true false w2], []⟩) (fun w0 w1 w2 w3 w4 w5 => K ⟨.agg [.i .i64 c.1.1, .i .i64 c.1.2.1, .i .i64 c.1.2.2.1, .sl 0 w0 5 0 w1, .sl 1 w2 13 0 w3], [.row 5 true false w4, .row 13 true false w5], []⟩)
structure state_Clone_G where
  mk ::
  slices_Clone_Slot : slices_Clone_Slot_T
  slices_Clone_Thing : slices_Clone_Thing_T
noncomputable def state_Clone_s (G : state_Clone_G) {ρ : Type} (_n : Nat) (_a0 : Int) (_a1 : Int) (_a2 : Int) (a3 : Bool) (a4 : Bool) (a5 : Rows) (a6 : Bool) (a7 : Bool) (a8 : Rows) (k0 : (Option ρ)) (k1 : (Nat → Nat → Rows → Option ρ)) (k2 : (Nat → Nat → Rows → Option ρ)) (k3 : (Nat → Nat → Nat → Nat → Rows → Rows → Option ρ)) : Option ρ :=
  G.slices_Clone_Slot ρ a3 a4 a5 (G.slices_Clone_Thing ρ a6 a7 a8 (k0) (fun w2_0 w2_1 w2_2 =>
      k1 w2_0 w2_1 w2_2)) (fun w3_0 w3_1 w3_2 =>
    G.slices_Clone_Thing ρ a6 a7 a8 (k2 w3_0 w3_1 w3_2) (fun w5_0 w5_1 w5_2 =>
      k3 w3_0 w3_1 w5_0 w5_1 w3_2 w5_2))
noncomputable def state_Clone_g (n : Nat) : state_Clone_G := ⟨slices_Clone_Slot n, slices_Clone_Thing n⟩
noncomputable def state_Clone (n : Nat) : state_Clone_T := fun _ρ a0 a1 a2 a3 a4 a5 a6 a7 a8 k0 k1 k2 k3 => state_Clone_s (state_Clone_g n) n a0 a1 a2 a3 a4 a5 a6 a7 a8 k0 k1 k2 k3
noncomputable def state_Clone_e (n : Nat) : EK := state_Clone_E (state_Clone n)
def state_Clone_S (G : state_Clone_G) : CK := tabS [(54, slices_Clone_Slot_E G.slices_Clone_Slot), (55, slices_Clone_Thing_E G.slices_Clone_Thing)]
theorem state_Clone_Sok (n : Nat) : CK.OK (state_Clone_S (state_Clone_g n)) (L tab) := tabS_ok _ (List.forall_mem_cons.2 ⟨(slices_Clone_Slot_ok n), List.forall_mem_cons.2 ⟨(slices_Clone_Thing_ok n), (fun _ h => nomatch h)⟩⟩)
def state_Clone_hs : HintC := hintL []
noncomputable def state_Clone_lp (_G : state_Clone_G) (_n : Nat) : LK := tabL []
theorem state_Clone_k (G : state_Clone_G) {ρ : Type} (n : Nat) (a0 : Int) (a1 : Int) (a2 : Int) (a3 : Bool) (a4 : Bool) (a5 : Rows) (a6 : Bool) (a7 : Bool) (a8 : Rows) (K : Res → Option ρ) : runC (state_Clone_S G) state_Clone_hs (state_Clone_lp G n) m23 [.agg [.i .i64 a0, .i .i64 a1, .i .i64 a2, .lst a3 a4 5 a5, .lst a6 a7 13 a8]] K = state_Clone_s G n a0 a1 a2 a3 a4 a5 a6 a7 a8 (K ⟨.agg [.i .i64 a0, .i .i64 a1, .i .i64 a2, .lst true true 0 [], .lst true true 0 []], [], []⟩) (fun w0 w1 w2 => K ⟨.agg [.i .i64 a0, .i .i64 a1, .i .i64 a2, .lst true true 0 [], .sl 0 w0 13 0 w1], [.row 13 true false w2], []⟩) (fun w0 w1 w2 => K ⟨.agg [.i .i64 a0, .i .i64 a1, .i .i64 a2, .sl 0 w0 5 0 w1, .lst true true 0 []], [.row 5 true false w2], []⟩) (fun w0 w1 w2 w3 w4 w5 => K ⟨.agg [.i .i64 a0, .i .i64 a1, .i .i64 a2, .sl 0 w0 5 0 w1, .sl 1 w2 13 0 w3], [.row 5 true false w4, .row 13 true false w5], []⟩) := by kernel_rfl
theorem state_Clone_ok (n : Nat) : EK.OK (state_Clone_e n) 23 (L tab) := EK.shp (fun _ _ _ => rfl) fun ρ K y c e => EK.run (state_Clone_Sok n) (by kernel_rfl) (MF.LKOK.of (LK.of (l := []) (by kernel_rfl) ((fun _ h => nomatch h)))) (state_Clone_k (state_Clone_g n) n _ _ _ _ _ _ _ _ _ K) (by kernel_rfl) e

/-! reeve/carve.carved -/
abbrev carve_carved_T : Type 1 := (ρ : Type) → Int → Int → Int → Bool → Bool → Rows → Bool → Bool → Rows → Int → Int → Bool → Bool → Rows → Bool → Bool → Rows → Int → Int → Int → (Int → Option ρ) → (Nat → Nat → Nat → Nat → Int → Rows → Rows → Option ρ) → Option ρ
def carve_carved_E (G : carve_carved_T) : EK := fun ρ args K => decL [.agg [.i .i64 none, .i .i64 none, .i .i64 none, .lst none none 5 none, .lst none none 13 none], .i .i64 none, .agg [.i .i64 none, .lst none none 1 none, .lst none none 1 none, .i .i64 none, .i .i64 none, .i .u64 none]] args fun c => G ρ c.1.1 c.1.2.1 c.1.2.2.1 c.1.2.2.2.1.1 c.1.2.2.2.1.2.1 c.1.2.2.2.1.2.2 c.1.2.2.2.2.1.1 c.1.2.2.2.2.1.2.1 c.1.2.2.2.2.1.2.2 c.2.1 c.2.2.1.1 c.2.2.1.2.1.1 c.2.2.1.2.1.2.1 c.2.2.1.2.1.2.2 c.2.2.1.2.2.1.1 c.2.2.1.2.2.1.2.1 c.2.2.1.2.2.1.2.2 c.2.2.1.2.2.2.1 c.2.2.1.2.2.2.2.1 c.2.2.1.2.2.2.2.2.1 (fun w0 => K ⟨.tup [.agg [.i .i64 c.1.1, .i .i64 c.1.2.1, .i .i64 c.1.2.2.1, .lst c.1.2.2.2.1.1 c.1.2.2.2.1.2.1 5 c.1.2.2.2.1.2.2, .lst c.1.2.2.2.2.1.1 c.1.2.2.2.2.1.2.1 13 c.1.2.2.2.2.1.2.2], .i .i64 0, .i .i64 w0], [], []⟩) (fun w0 w1 w2 w3 w4 w5 w6 => K ⟨.tup [.agg [.i .i64 c.1.1, .i .i64 c.1.2.1, .i .i64 c.1.2.2.1, .sl 0 w0 5 0 w1, .sl 1 w2 13 0 w3], .i .i64 w4, .i .i64 0], [.row 5 true false w5, .row 13 true false w6], []⟩)
structure carve_carved_G where
  mk ::
  call_Good : call_Good_T
  find_Cap : find_Cap_T
  right_Within : right_Within_T
  find_Empty : find_Empty_T
  thing_Cost : thing_Cost_T
  carve_Used : carve_Used_T
  state_Free : state_Free_T
  state_Gap : state_Gap_T
  state_Clone : state_Clone_T
  thing_New : thing_New_T
noncomputable def carve_carved_s (G : carve_carved_G) {ρ : Type} (_n : Nat) (a0 : Int) (a1 : Int) (a2 : Int) (a3 : Bool) (a4 : Bool) (a5 : Rows) (a6 : Bool) (a7 : Bool) (a8 : Rows) (a9 : Int) (a10 : Int) (a11 : Bool) (a12 : Bool) (a13 : Rows) (a14 : Bool) (a15 : Bool) (a16 : Rows) (a17 : Int) (a18 : Int) (a19 : Int) (k0 : (Int → Option ρ)) (k1 : (Nat → Nat → Nat → Nat → Int → Rows → Rows → Option ρ)) : Option ρ :=
  G.call_Good ρ a10 a11 a12 a13 a14 a15 a16 a17 a18 a19 (fun w0_0 =>
    bif w0_0 then
      bif ((a10 : Int) != 1) then
        k0 1
      else G.find_Cap ρ a0 a1 a2 a3 a4 a5 a6 a7 a8 a9 a11 a12 a13 (fun w1_0 w1_1 w1_2 w1_3 _w1_4 w1_5 =>
        bif ((w1_5 : Int) != 0) then
          k0 w1_5
        else bif ((w1_1 : Int) != 1) then
          k0 7
        else G.right_Within ρ 2 w1_3 (fun w2_0 =>
          bif w2_0 then
            G.find_Empty ρ a0 a1 a2 a3 a4 a5 a6 a7 a8 a9 a14 a15 a16 (fun w3_0 w3_1 =>
              bif ((w3_1 : Int) != 0) then
                k0 w3_1
              else G.thing_Cost ρ a17 a18 (fun w4_0 w4_1 =>
                bif w4_1 then
                  G.carve_Used ρ a0 a1 a2 a3 a4 a5 a6 a7 a8 w1_0 (fun w5_0 =>
                    G.state_Free ρ a0 a1 a2 a3 a4 a5 a6 a7 a8 (fun w6_0 =>
                      bif ((a17 : Int) == 2) then
                        G.state_Gap ρ a0 a1 a2 a3 a4 a5 a6 a7 a8 a18 (fun w7_0 w7_1 =>
                          bif w7_1 then
                            rowT [.i .i64, .i .i64, .i .i64, .i .i64, .i .i64, .i .i64, .i .i64, .b, .i .u64, .i .u64, .i .u64, .i .u64, .i .u64] a8 w1_2 fun c8 =>
                            bif decide (((IntKind.wrap .i64 (w5_0 + w4_0)) : Int) > c8.2.2.2.1) then
                              k0 8
                            else bif decide ((w6_0 : Int) < 0) then
                              k0 8
                            else G.state_Clone ρ a0 a1 a2 a3 a4 a5 a6 a7 a8 (G.thing_New ρ a17 a18 w7_0 (fun _w10_0 _w10_1 _w10_2 _w10_3 w10_4 =>
                                bif w10_4 then
                                  none
                                else none)) (fun w11_0 w11_1 w11_2 =>
                              G.thing_New ρ a17 a18 w7_0 (fun w12_0 w12_1 w12_2 w12_3 w12_4 =>
                                bif w12_4 then
                                  chk (decide ((0 : Int) ≤ w6_0)) <|
                                  chk (decide ((w6_0 : Int) < ((w11_1 : Nat) : Int))) <|
                                  chk (((List.length (w11_2 : Rows)) : Nat) == w11_0) <|
                                  rowN [.a, .a, .a, .a, .a, .a, .a, .a, .a, .a, .a, .a, .a] w11_2 (0 + w6_0.toNat) fun _c13 =>
                                  chk (decide ((0 : Int) ≤ w1_2)) <|
                                  chk (decide ((w1_2 : Int) < ((w11_1 : Nat) : Int))) <|
                                  chk (((List.length ((List.set (w11_2 : Rows) (0 + w6_0.toNat) [.i .i64 w12_0, .i .i64 w12_1, .i .i64 w12_2, .i .i64 w12_3, .i .i64 0, .i .i64 0, .i .i64 0, .b false, .i .u64 0, .i .u64 0, .i .u64 0, .i .u64 0, .i .u64 0]) : Rows)) : Nat) == w11_0) <|
                                  rowN [.a, .a, .a, .a, .a, .a, .a, .a, .a, .a, .a, .a, .a] (List.set (w11_2 : Rows) (0 + w6_0.toNat) [.i .i64 w12_0, .i .i64 w12_1, .i .i64 w12_2, .i .i64 w12_3, .i .i64 0, .i .i64 0, .i .i64 0, .b false, .i .u64 0, .i .u64 0, .i .u64 0, .i .u64 0, .i .u64 0]) (0 + w1_2.toNat) fun _c14 =>
                                  none
                                else chk (decide ((0 : Int) ≤ w6_0)) <|
                                chk (decide ((w6_0 : Int) < ((w11_1 : Nat) : Int))) <|
                                chk (((List.length (w11_2 : Rows)) : Nat) == w11_0) <|
                                rowN [.a, .a, .a, .a, .a, .a, .a, .a, .a, .a, .a, .a, .a] w11_2 (0 + w6_0.toNat) fun _c15 =>
                                chk (decide ((0 : Int) ≤ w1_2)) <|
                                chk (decide ((w1_2 : Int) < ((w11_1 : Nat) : Int))) <|
                                chk (((List.length ((List.set (w11_2 : Rows) (0 + w6_0.toNat) [.i .i64 w12_0, .i .i64 w12_1, .i .i64 w12_2, .i .i64 w12_3, .i .i64 0, .i .i64 0, .i .i64 0, .b false, .i .u64 0, .i .u64 0, .i .u64 0, .i .u64 0, .i .u64 0]) : Rows)) : Nat) == w11_0) <|
                                rowN [.a, .a, .a, .a, .a, .a, .a, .a, .a, .a, .a, .a, .a] (List.set (w11_2 : Rows) (0 + w6_0.toNat) [.i .i64 w12_0, .i .i64 w12_1, .i .i64 w12_2, .i .i64 w12_3, .i .i64 0, .i .i64 0, .i .i64 0, .b false, .i .u64 0, .i .u64 0, .i .u64 0, .i .u64 0, .i .u64 0]) (0 + w1_2.toNat) fun _c16 =>
                                none)) (fun _w17_0 _w17_1 _w17_2 =>
                              G.thing_New ρ a17 a18 w7_0 (fun _w18_0 _w18_1 _w18_2 _w18_3 w18_4 =>
                                bif w18_4 then
                                  none
                                else none)) (fun w19_0 w19_1 w19_2 w19_3 w19_4 w19_5 =>
                              G.thing_New ρ a17 a18 w7_0 (fun w20_0 w20_1 w20_2 w20_3 w20_4 =>
                                bif w20_4 then
                                  chk (decide ((0 : Int) ≤ w6_0)) <|
                                  chk (decide ((w6_0 : Int) < ((w19_3 : Nat) : Int))) <|
                                  chk (((List.length (w19_5 : Rows)) : Nat) == w19_2) <|
                                  rowN [.a, .a, .a, .a, .a, .a, .a, .a, .a, .a, .a, .a, .a] w19_5 (0 + w6_0.toNat) fun _c21 =>
                                  chk (decide ((0 : Int) ≤ w1_2)) <|
                                  chk (decide ((w1_2 : Int) < ((w19_3 : Nat) : Int))) <|
                                  chk (((List.length ((List.set (w19_5 : Rows) (0 + w6_0.toNat) [.i .i64 w20_0, .i .i64 w20_1, .i .i64 w20_2, .i .i64 w20_3, .i .i64 0, .i .i64 0, .i .i64 0, .b false, .i .u64 0, .i .u64 0, .i .u64 0, .i .u64 0, .i .u64 0]) : Rows)) : Nat) == w19_2) <|
                                  rowN [.a, .a, .a, .a, .a, .a, .a, .a, .a, .a, .a, .a, .a] (List.set (w19_5 : Rows) (0 + w6_0.toNat) [.i .i64 w20_0, .i .i64 w20_1, .i .i64 w20_2, .i .i64 w20_3, .i .i64 0, .i .i64 0, .i .i64 0, .b false, .i .u64 0, .i .u64 0, .i .u64 0, .i .u64 0, .i .u64 0]) (0 + w1_2.toNat) fun c22 =>
                                  chk (decide ((0 : Int) ≤ w3_0)) <|
                                  chk (decide ((w3_0 : Int) < ((w19_1 : Nat) : Int))) <|
                                  chk (((List.length (w19_4 : Rows)) : Nat) == w19_0) <|
                                  rowN [.a, .a, .a, .a, .a] w19_4 (0 + w3_0.toNat) fun _c23 =>
                                  k1 w19_0 w19_1 w19_2 w19_3 w6_0 (List.set (w19_4 : Rows) (0 + w3_0.toNat) [.i .i64 a17, .i .i64 w6_0, .i .i64 7, .i .i64 0, .i .i64 w1_0]) (List.set ((List.set (w19_5 : Rows) (0 + w6_0.toNat) [.i .i64 w20_0, .i .i64 w20_1, .i .i64 w20_2, .i .i64 w20_3, .i .i64 0, .i .i64 0, .i .i64 0, .b false, .i .u64 0, .i .u64 0, .i .u64 0, .i .u64 0, .i .u64 0]) : Rows) (0 + w1_2.toNat) [c22.1, c22.2.1, c22.2.2.1, c22.2.2.2.1, .i .i64 (IntKind.wrap .i64 (w5_0 + w4_0)), c22.2.2.2.2.2.1, c22.2.2.2.2.2.2.1, c22.2.2.2.2.2.2.2.1, c22.2.2.2.2.2.2.2.2.1, c22.2.2.2.2.2.2.2.2.2.1, c22.2.2.2.2.2.2.2.2.2.2.1, c22.2.2.2.2.2.2.2.2.2.2.2.1, c22.2.2.2.2.2.2.2.2.2.2.2.2.1])
                                else chk (decide ((0 : Int) ≤ w6_0)) <|
                                chk (decide ((w6_0 : Int) < ((w19_3 : Nat) : Int))) <|
                                chk (((List.length (w19_5 : Rows)) : Nat) == w19_2) <|
                                rowN [.a, .a, .a, .a, .a, .a, .a, .a, .a, .a, .a, .a, .a] w19_5 (0 + w6_0.toNat) fun _c24 =>
                                chk (decide ((0 : Int) ≤ w1_2)) <|
                                chk (decide ((w1_2 : Int) < ((w19_3 : Nat) : Int))) <|
                                chk (((List.length ((List.set (w19_5 : Rows) (0 + w6_0.toNat) [.i .i64 w20_0, .i .i64 w20_1, .i .i64 w20_2, .i .i64 w20_3, .i .i64 0, .i .i64 0, .i .i64 0, .b false, .i .u64 0, .i .u64 0, .i .u64 0, .i .u64 0, .i .u64 0]) : Rows)) : Nat) == w19_2) <|
                                rowN [.a, .a, .a, .a, .a, .a, .a, .a, .a, .a, .a, .a, .a] (List.set (w19_5 : Rows) (0 + w6_0.toNat) [.i .i64 w20_0, .i .i64 w20_1, .i .i64 w20_2, .i .i64 w20_3, .i .i64 0, .i .i64 0, .i .i64 0, .b false, .i .u64 0, .i .u64 0, .i .u64 0, .i .u64 0, .i .u64 0]) (0 + w1_2.toNat) fun c25 =>
                                chk (decide ((0 : Int) ≤ w3_0)) <|
                                chk (decide ((w3_0 : Int) < ((w19_1 : Nat) : Int))) <|
                                chk (((List.length (w19_4 : Rows)) : Nat) == w19_0) <|
                                rowN [.a, .a, .a, .a, .a] w19_4 (0 + w3_0.toNat) fun _c26 =>
                                k1 w19_0 w19_1 w19_2 w19_3 w6_0 (List.set (w19_4 : Rows) (0 + w3_0.toNat) [.i .i64 a17, .i .i64 w6_0, .i .i64 7, .i .i64 0, .i .i64 w1_0]) (List.set ((List.set (w19_5 : Rows) (0 + w6_0.toNat) [.i .i64 w20_0, .i .i64 w20_1, .i .i64 w20_2, .i .i64 w20_3, .i .i64 0, .i .i64 0, .i .i64 0, .b false, .i .u64 0, .i .u64 0, .i .u64 0, .i .u64 0, .i .u64 0]) : Rows) (0 + w1_2.toNat) [c25.1, c25.2.1, c25.2.2.1, c25.2.2.2.1, .i .i64 (IntKind.wrap .i64 (w5_0 + w4_0)), c25.2.2.2.2.2.1, c25.2.2.2.2.2.2.1, c25.2.2.2.2.2.2.2.1, c25.2.2.2.2.2.2.2.2.1, c25.2.2.2.2.2.2.2.2.2.1, c25.2.2.2.2.2.2.2.2.2.2.1, c25.2.2.2.2.2.2.2.2.2.2.2.1, c25.2.2.2.2.2.2.2.2.2.2.2.2.1])))
                          else rowT [.i .i64, .i .i64, .i .i64, .i .i64, .i .i64, .i .i64, .i .i64, .b, .i .u64, .i .u64, .i .u64, .i .u64, .i .u64] a8 w1_2 fun c27 =>
                          bif decide (((IntKind.wrap .i64 (w5_0 + w4_0)) : Int) > c27.2.2.2.1) then
                            k0 8
                          else k0 8)
                      else rowT [.i .i64, .i .i64, .i .i64, .i .i64, .i .i64, .i .i64, .i .i64, .b, .i .u64, .i .u64, .i .u64, .i .u64, .i .u64] a8 w1_2 fun c28 =>
                      bif decide (((IntKind.wrap .i64 (w5_0 + w4_0)) : Int) > c28.2.2.2.1) then
                        k0 8
                      else bif decide ((w6_0 : Int) < 0) then
                        k0 8
                      else G.state_Clone ρ a0 a1 a2 a3 a4 a5 a6 a7 a8 (G.thing_New ρ a17 a18 0 (fun _w30_0 _w30_1 _w30_2 _w30_3 w30_4 =>
                          bif w30_4 then
                            none
                          else none)) (fun w31_0 w31_1 w31_2 =>
                        G.thing_New ρ a17 a18 0 (fun w32_0 w32_1 w32_2 w32_3 w32_4 =>
                          bif w32_4 then
                            chk (decide ((0 : Int) ≤ w6_0)) <|
                            chk (decide ((w6_0 : Int) < ((w31_1 : Nat) : Int))) <|
                            chk (((List.length (w31_2 : Rows)) : Nat) == w31_0) <|
                            rowN [.a, .a, .a, .a, .a, .a, .a, .a, .a, .a, .a, .a, .a] w31_2 (0 + w6_0.toNat) fun _c33 =>
                            chk (decide ((0 : Int) ≤ w1_2)) <|
                            chk (decide ((w1_2 : Int) < ((w31_1 : Nat) : Int))) <|
                            chk (((List.length ((List.set (w31_2 : Rows) (0 + w6_0.toNat) [.i .i64 w32_0, .i .i64 w32_1, .i .i64 w32_2, .i .i64 w32_3, .i .i64 0, .i .i64 0, .i .i64 0, .b false, .i .u64 0, .i .u64 0, .i .u64 0, .i .u64 0, .i .u64 0]) : Rows)) : Nat) == w31_0) <|
                            rowN [.a, .a, .a, .a, .a, .a, .a, .a, .a, .a, .a, .a, .a] (List.set (w31_2 : Rows) (0 + w6_0.toNat) [.i .i64 w32_0, .i .i64 w32_1, .i .i64 w32_2, .i .i64 w32_3, .i .i64 0, .i .i64 0, .i .i64 0, .b false, .i .u64 0, .i .u64 0, .i .u64 0, .i .u64 0, .i .u64 0]) (0 + w1_2.toNat) fun _c34 =>
                            none
                          else chk (decide ((0 : Int) ≤ w6_0)) <|
                          chk (decide ((w6_0 : Int) < ((w31_1 : Nat) : Int))) <|
                          chk (((List.length (w31_2 : Rows)) : Nat) == w31_0) <|
                          rowN [.a, .a, .a, .a, .a, .a, .a, .a, .a, .a, .a, .a, .a] w31_2 (0 + w6_0.toNat) fun _c35 =>
                          chk (decide ((0 : Int) ≤ w1_2)) <|
                          chk (decide ((w1_2 : Int) < ((w31_1 : Nat) : Int))) <|
                          chk (((List.length ((List.set (w31_2 : Rows) (0 + w6_0.toNat) [.i .i64 w32_0, .i .i64 w32_1, .i .i64 w32_2, .i .i64 w32_3, .i .i64 0, .i .i64 0, .i .i64 0, .b false, .i .u64 0, .i .u64 0, .i .u64 0, .i .u64 0, .i .u64 0]) : Rows)) : Nat) == w31_0) <|
                          rowN [.a, .a, .a, .a, .a, .a, .a, .a, .a, .a, .a, .a, .a] (List.set (w31_2 : Rows) (0 + w6_0.toNat) [.i .i64 w32_0, .i .i64 w32_1, .i .i64 w32_2, .i .i64 w32_3, .i .i64 0, .i .i64 0, .i .i64 0, .b false, .i .u64 0, .i .u64 0, .i .u64 0, .i .u64 0, .i .u64 0]) (0 + w1_2.toNat) fun _c36 =>
                          none)) (fun _w37_0 _w37_1 _w37_2 =>
                        G.thing_New ρ a17 a18 0 (fun _w38_0 _w38_1 _w38_2 _w38_3 w38_4 =>
                          bif w38_4 then
                            none
                          else none)) (fun w39_0 w39_1 w39_2 w39_3 w39_4 w39_5 =>
                        G.thing_New ρ a17 a18 0 (fun w40_0 w40_1 w40_2 w40_3 w40_4 =>
                          bif w40_4 then
                            chk (decide ((0 : Int) ≤ w6_0)) <|
                            chk (decide ((w6_0 : Int) < ((w39_3 : Nat) : Int))) <|
                            chk (((List.length (w39_5 : Rows)) : Nat) == w39_2) <|
                            rowN [.a, .a, .a, .a, .a, .a, .a, .a, .a, .a, .a, .a, .a] w39_5 (0 + w6_0.toNat) fun _c41 =>
                            chk (decide ((0 : Int) ≤ w1_2)) <|
                            chk (decide ((w1_2 : Int) < ((w39_3 : Nat) : Int))) <|
                            chk (((List.length ((List.set (w39_5 : Rows) (0 + w6_0.toNat) [.i .i64 w40_0, .i .i64 w40_1, .i .i64 w40_2, .i .i64 w40_3, .i .i64 0, .i .i64 0, .i .i64 0, .b false, .i .u64 0, .i .u64 0, .i .u64 0, .i .u64 0, .i .u64 0]) : Rows)) : Nat) == w39_2) <|
                            rowN [.a, .a, .a, .a, .a, .a, .a, .a, .a, .a, .a, .a, .a] (List.set (w39_5 : Rows) (0 + w6_0.toNat) [.i .i64 w40_0, .i .i64 w40_1, .i .i64 w40_2, .i .i64 w40_3, .i .i64 0, .i .i64 0, .i .i64 0, .b false, .i .u64 0, .i .u64 0, .i .u64 0, .i .u64 0, .i .u64 0]) (0 + w1_2.toNat) fun c42 =>
                            chk (decide ((0 : Int) ≤ w3_0)) <|
                            chk (decide ((w3_0 : Int) < ((w39_1 : Nat) : Int))) <|
                            chk (((List.length (w39_4 : Rows)) : Nat) == w39_0) <|
                            rowN [.a, .a, .a, .a, .a] w39_4 (0 + w3_0.toNat) fun _c43 =>
                            k1 w39_0 w39_1 w39_2 w39_3 w6_0 (List.set (w39_4 : Rows) (0 + w3_0.toNat) [.i .i64 a17, .i .i64 w6_0, .i .i64 7, .i .i64 0, .i .i64 w1_0]) (List.set ((List.set (w39_5 : Rows) (0 + w6_0.toNat) [.i .i64 w40_0, .i .i64 w40_1, .i .i64 w40_2, .i .i64 w40_3, .i .i64 0, .i .i64 0, .i .i64 0, .b false, .i .u64 0, .i .u64 0, .i .u64 0, .i .u64 0, .i .u64 0]) : Rows) (0 + w1_2.toNat) [c42.1, c42.2.1, c42.2.2.1, c42.2.2.2.1, .i .i64 (IntKind.wrap .i64 (w5_0 + w4_0)), c42.2.2.2.2.2.1, c42.2.2.2.2.2.2.1, c42.2.2.2.2.2.2.2.1, c42.2.2.2.2.2.2.2.2.1, c42.2.2.2.2.2.2.2.2.2.1, c42.2.2.2.2.2.2.2.2.2.2.1, c42.2.2.2.2.2.2.2.2.2.2.2.1, c42.2.2.2.2.2.2.2.2.2.2.2.2.1])
                          else chk (decide ((0 : Int) ≤ w6_0)) <|
                          chk (decide ((w6_0 : Int) < ((w39_3 : Nat) : Int))) <|
                          chk (((List.length (w39_5 : Rows)) : Nat) == w39_2) <|
                          rowN [.a, .a, .a, .a, .a, .a, .a, .a, .a, .a, .a, .a, .a] w39_5 (0 + w6_0.toNat) fun _c44 =>
                          chk (decide ((0 : Int) ≤ w1_2)) <|
                          chk (decide ((w1_2 : Int) < ((w39_3 : Nat) : Int))) <|
                          chk (((List.length ((List.set (w39_5 : Rows) (0 + w6_0.toNat) [.i .i64 w40_0, .i .i64 w40_1, .i .i64 w40_2, .i .i64 w40_3, .i .i64 0, .i .i64 0, .i .i64 0, .b false, .i .u64 0, .i .u64 0, .i .u64 0, .i .u64 0, .i .u64 0]) : Rows)) : Nat) == w39_2) <|
                          rowN [.a, .a, .a, .a, .a, .a, .a, .a, .a, .a, .a, .a, .a] (List.set (w39_5 : Rows) (0 + w6_0.toNat) [.i .i64 w40_0, .i .i64 w40_1, .i .i64 w40_2, .i .i64 w40_3, .i .i64 0, .i .i64 0, .i .i64 0, .b false, .i .u64 0, .i .u64 0, .i .u64 0, .i .u64 0, .i .u64 0]) (0 + w1_2.toNat) fun c45 =>
                          chk (decide ((0 : Int) ≤ w3_0)) <|
                          chk (decide ((w3_0 : Int) < ((w39_1 : Nat) : Int))) <|
                          chk (((List.length (w39_4 : Rows)) : Nat) == w39_0) <|
                          rowN [.a, .a, .a, .a, .a] w39_4 (0 + w3_0.toNat) fun _c46 =>
                          k1 w39_0 w39_1 w39_2 w39_3 w6_0 (List.set (w39_4 : Rows) (0 + w3_0.toNat) [.i .i64 a17, .i .i64 w6_0, .i .i64 7, .i .i64 0, .i .i64 w1_0]) (List.set ((List.set (w39_5 : Rows) (0 + w6_0.toNat) [.i .i64 w40_0, .i .i64 w40_1, .i .i64 w40_2, .i .i64 w40_3, .i .i64 0, .i .i64 0, .i .i64 0, .b false, .i .u64 0, .i .u64 0, .i .u64 0, .i .u64 0, .i .u64 0]) : Rows) (0 + w1_2.toNat) [c45.1, c45.2.1, c45.2.2.1, c45.2.2.2.1, .i .i64 (IntKind.wrap .i64 (w5_0 + w4_0)), c45.2.2.2.2.2.1, c45.2.2.2.2.2.2.1, c45.2.2.2.2.2.2.2.1, c45.2.2.2.2.2.2.2.2.1, c45.2.2.2.2.2.2.2.2.2.1, c45.2.2.2.2.2.2.2.2.2.2.1, c45.2.2.2.2.2.2.2.2.2.2.2.1, c45.2.2.2.2.2.2.2.2.2.2.2.2.1])))))
                else k0 1))
          else k0 6))
    else k0 1)
noncomputable def carve_carved_g (n : Nat) : carve_carved_G := ⟨call_Good n, find_Cap n, right_Within n, find_Empty n, thing_Cost n, carve_Used n, state_Free n, state_Gap n, state_Clone n, thing_New n⟩
noncomputable def carve_carved (n : Nat) : carve_carved_T := fun _ρ a0 a1 a2 a3 a4 a5 a6 a7 a8 a9 a10 a11 a12 a13 a14 a15 a16 a17 a18 a19 k0 k1 => carve_carved_s (carve_carved_g n) n a0 a1 a2 a3 a4 a5 a6 a7 a8 a9 a10 a11 a12 a13 a14 a15 a16 a17 a18 a19 k0 k1
noncomputable def carve_carved_e (n : Nat) : EK := carve_carved_E (carve_carved n)
def carve_carved_S (G : carve_carved_G) : CK := tabS [(20, call_Good_E G.call_Good), (21, find_Cap_E G.find_Cap), (22, right_Within_E G.right_Within), (67, find_Empty_E G.find_Empty), (68, thing_Cost_E G.thing_Cost), (69, carve_Used_E G.carve_Used), (70, state_Free_E G.state_Free), (71, state_Gap_E G.state_Gap), (23, state_Clone_E G.state_Clone), (72, thing_New_E G.thing_New)]
theorem carve_carved_Sok (n : Nat) : CK.OK (carve_carved_S (carve_carved_g n)) (L tab) := tabS_ok _ (List.forall_mem_cons.2 ⟨(call_Good_ok n), List.forall_mem_cons.2 ⟨(find_Cap_ok n), List.forall_mem_cons.2 ⟨(right_Within_ok n), List.forall_mem_cons.2 ⟨(find_Empty_ok n), List.forall_mem_cons.2 ⟨(thing_Cost_ok n), List.forall_mem_cons.2 ⟨(carve_Used_ok n), List.forall_mem_cons.2 ⟨(state_Free_ok n), List.forall_mem_cons.2 ⟨(state_Gap_ok n), List.forall_mem_cons.2 ⟨(state_Clone_ok n), List.forall_mem_cons.2 ⟨(thing_New_ok n), (fun _ h => nomatch h)⟩⟩⟩⟩⟩⟩⟩⟩⟩⟩)
def carve_carved_hs : HintC := hintL [(97, [.i .i64, .i .i64, .i .i64, .i .i64, .i .i64, .i .i64, .i .i64, .b, .i .u64, .i .u64, .i .u64, .i .u64, .i .u64])]
noncomputable def carve_carved_lp (_G : carve_carved_G) (_n : Nat) : LK := tabL []
theorem carve_carved_k (G : carve_carved_G) {ρ : Type} (n : Nat) (a0 : Int) (a1 : Int) (a2 : Int) (a3 : Bool) (a4 : Bool) (a5 : Rows) (a6 : Bool) (a7 : Bool) (a8 : Rows) (a9 : Int) (a10 : Int) (a11 : Bool) (a12 : Bool) (a13 : Rows) (a14 : Bool) (a15 : Bool) (a16 : Rows) (a17 : Int) (a18 : Int) (a19 : Int) (K : Res → Option ρ) : runC (carve_carved_S G) carve_carved_hs (carve_carved_lp G n) m43 [.agg [.i .i64 a0, .i .i64 a1, .i .i64 a2, .lst a3 a4 5 a5, .lst a6 a7 13 a8], .i .i64 a9, .agg [.i .i64 a10, .lst a11 a12 1 a13, .lst a14 a15 1 a16, .i .i64 a17, .i .i64 a18, .i .u64 a19]] K = carve_carved_s G n a0 a1 a2 a3 a4 a5 a6 a7 a8 a9 a10 a11 a12 a13 a14 a15 a16 a17 a18 a19 (fun w0 => K ⟨.tup [.agg [.i .i64 a0, .i .i64 a1, .i .i64 a2, .lst a3 a4 5 a5, .lst a6 a7 13 a8], .i .i64 0, .i .i64 w0], [], []⟩) (fun w0 w1 w2 w3 w4 w5 w6 => K ⟨.tup [.agg [.i .i64 a0, .i .i64 a1, .i .i64 a2, .sl 0 w0 5 0 w1, .sl 1 w2 13 0 w3], .i .i64 w4, .i .i64 0], [.row 5 true false w5, .row 13 true false w6], []⟩) := by kernel_rfl
theorem carve_carved_ok (n : Nat) : EK.OK (carve_carved_e n) 43 (L tab) := EK.shp (fun _ _ _ => rfl) fun ρ K y c e => EK.run (carve_carved_Sok n) (by kernel_rfl) (MF.LKOK.of (LK.of (l := []) (by kernel_rfl) ((fun _ h => nomatch h)))) (carve_carved_k (carve_carved_g n) n _ _ _ _ _ _ _ _ _ _ _ _ _ _ _ _ _ _ _ _ K) (by kernel_rfl) e

/-! reeve/carve.Do -/
abbrev carve_Do_T : Type 1 := (ρ : Type) → Int → Int → Int → Bool → Bool → Rows → Bool → Bool → Rows → Int → Int → Bool → Bool → Rows → Bool → Bool → Rows → Int → Int → Int → (Bool → Bool → Rows → Bool → Bool → Rows → Int → Int → Option ρ) → Option ρ
def carve_Do_E (G : carve_Do_T) : EK := fun ρ args K => decL [.agg [.i .i64 none, .i .i64 none, .i .i64 none, .lst none none 5 none, .lst none none 13 none], .i .i64 none, .agg [.i .i64 none, .lst none none 1 none, .lst none none 1 none, .i .i64 none, .i .i64 none, .i .u64 none]] args fun c => G ρ c.1.1 c.1.2.1 c.1.2.2.1 c.1.2.2.2.1.1 c.1.2.2.2.1.2.1 c.1.2.2.2.1.2.2 c.1.2.2.2.2.1.1 c.1.2.2.2.2.1.2.1 c.1.2.2.2.2.1.2.2 c.2.1 c.2.2.1.1 c.2.2.1.2.1.1 c.2.2.1.2.1.2.1 c.2.2.1.2.1.2.2 c.2.2.1.2.2.1.1 c.2.2.1.2.2.1.2.1 c.2.2.1.2.2.1.2.2 c.2.2.1.2.2.2.1 c.2.2.1.2.2.2.2.1 c.2.2.1.2.2.2.2.2.1 (fun w0 w1 w2 w3 w4 w5 w6 w7 => K ⟨.tup [.agg [.i .i64 c.1.1, .i .i64 c.1.2.1, .i .i64 c.1.2.2.1, .lst w0 w1 5 w2, .lst w3 w4 13 w5], .agg [.i .i64 w6, .i .u64 0, .i .i64 w7]], [], []⟩)
structure carve_Do_G where
  mk ::
  carve_carved : carve_carved_T
noncomputable def carve_Do_s (G : carve_Do_G) {ρ : Type} (_n : Nat) (a0 : Int) (a1 : Int) (a2 : Int) (a3 : Bool) (a4 : Bool) (a5 : Rows) (a6 : Bool) (a7 : Bool) (a8 : Rows) (a9 : Int) (a10 : Int) (a11 : Bool) (a12 : Bool) (a13 : Rows) (a14 : Bool) (a15 : Bool) (a16 : Rows) (a17 : Int) (a18 : Int) (a19 : Int) (k0 : (Bool → Bool → Rows → Bool → Bool → Rows → Int → Int → Option ρ)) : Option ρ :=
  G.carve_carved ρ a0 a1 a2 a3 a4 a5 a6 a7 a8 a9 a10 a11 a12 a13 a14 a15 a16 a17 a18 a19 (fun w0_0 =>
    bif ((w0_0 : Int) != 0) then
      k0 a3 a4 a5 a6 a7 a8 w0_0 0
    else k0 a3 a4 a5 a6 a7 a8 0 0) (fun w1_0 w1_1 w1_2 w1_3 w1_4 w1_5 w1_6 =>
    chk (((List.length (w1_5 : Rows)) : Nat) == w1_0) <|
    chk (((List.length (w1_6 : Rows)) : Nat) == w1_2) <|
    k0 false false (List.take w1_1 (List.drop 0 (w1_5 : Rows))) false false (List.take w1_3 (List.drop 0 (w1_6 : Rows))) 0 w1_4)
noncomputable def carve_Do_g (n : Nat) : carve_Do_G := ⟨carve_carved n⟩
noncomputable def carve_Do (n : Nat) : carve_Do_T := fun _ρ a0 a1 a2 a3 a4 a5 a6 a7 a8 a9 a10 a11 a12 a13 a14 a15 a16 a17 a18 a19 k0 => carve_Do_s (carve_Do_g n) n a0 a1 a2 a3 a4 a5 a6 a7 a8 a9 a10 a11 a12 a13 a14 a15 a16 a17 a18 a19 k0
noncomputable def carve_Do_e (n : Nat) : EK := carve_Do_E (carve_Do n)
def carve_Do_S (G : carve_Do_G) : CK := tabS [(43, carve_carved_E G.carve_carved)]
theorem carve_Do_Sok (n : Nat) : CK.OK (carve_Do_S (carve_Do_g n)) (L tab) := tabS_ok _ (List.forall_mem_cons.2 ⟨(carve_carved_ok n), (fun _ h => nomatch h)⟩)
def carve_Do_hs : HintC := hintL []
noncomputable def carve_Do_lp (_G : carve_Do_G) (_n : Nat) : LK := tabL []
theorem carve_Do_k (G : carve_Do_G) {ρ : Type} (n : Nat) (a0 : Int) (a1 : Int) (a2 : Int) (a3 : Bool) (a4 : Bool) (a5 : Rows) (a6 : Bool) (a7 : Bool) (a8 : Rows) (a9 : Int) (a10 : Int) (a11 : Bool) (a12 : Bool) (a13 : Rows) (a14 : Bool) (a15 : Bool) (a16 : Rows) (a17 : Int) (a18 : Int) (a19 : Int) (K : Res → Option ρ) : runC (carve_Do_S G) carve_Do_hs (carve_Do_lp G n) m17 [.agg [.i .i64 a0, .i .i64 a1, .i .i64 a2, .lst a3 a4 5 a5, .lst a6 a7 13 a8], .i .i64 a9, .agg [.i .i64 a10, .lst a11 a12 1 a13, .lst a14 a15 1 a16, .i .i64 a17, .i .i64 a18, .i .u64 a19]] K = carve_Do_s G n a0 a1 a2 a3 a4 a5 a6 a7 a8 a9 a10 a11 a12 a13 a14 a15 a16 a17 a18 a19 (fun w0 w1 w2 w3 w4 w5 w6 w7 => K ⟨.tup [.agg [.i .i64 a0, .i .i64 a1, .i .i64 a2, .lst w0 w1 5 w2, .lst w3 w4 13 w5], .agg [.i .i64 w6, .i .u64 0, .i .i64 w7]], [], []⟩) := by kernel_rfl
theorem carve_Do_ok (n : Nat) : EK.OK (carve_Do_e n) 17 (L tab) := EK.shp (fun _ _ _ => rfl) fun ρ K y c e => EK.run (carve_Do_Sok n) (by kernel_rfl) (MF.LKOK.of (LK.of (l := []) (by kernel_rfl) ((fun _ h => nomatch h)))) (carve_Do_k (carve_Do_g n) n _ _ _ _ _ _ _ _ _ _ _ _ _ _ _ _ _ _ _ _ K) (by kernel_rfl) e

/-! reeve/right.Both -/
abbrev right_Both_T : Type 1 := (ρ : Type) → Int → Int → (Int → Option ρ) → Option ρ
def right_Both_E (G : right_Both_T) : EK := fun ρ args K => decL [.i .i64 none, .i .i64 none] args fun c => G ρ c.1 c.2.1 (fun w0 => K ⟨.i .i64 w0, [], []⟩)
structure right_Both_G where
  mk ::
  right_of : right_of_T
noncomputable def right_Both_s (G : right_Both_G) {ρ : Type} (_n : Nat) (a0 : Int) (a1 : Int) (k0 : (Int → Option ρ)) : Option ρ :=
  G.right_of ρ a0 (fun w0_0 =>
    G.right_of ρ a1 (fun w1_0 =>
      k0 (IntKind.wrap .i64 (BitVec.ofInt (IntKind.bits .i64) w0_0 &&& BitVec.ofInt (IntKind.bits .i64) w1_0).toNat)))
noncomputable def right_Both_g (n : Nat) : right_Both_G := ⟨right_of n⟩
noncomputable def right_Both (n : Nat) : right_Both_T := fun _ρ a0 a1 k0 => right_Both_s (right_Both_g n) n a0 a1 k0
noncomputable def right_Both_e (n : Nat) : EK := right_Both_E (right_Both n)
def right_Both_S (G : right_Both_G) : CK := tabS [(87, right_of_E G.right_of)]
theorem right_Both_Sok (n : Nat) : CK.OK (right_Both_S (right_Both_g n)) (L tab) := tabS_ok _ (List.forall_mem_cons.2 ⟨(right_of_ok n), (fun _ h => nomatch h)⟩)
def right_Both_hs : HintC := hintL []
noncomputable def right_Both_lp (_G : right_Both_G) (_n : Nat) : LK := tabL []
theorem right_Both_k (G : right_Both_G) {ρ : Type} (n : Nat) (a0 : Int) (a1 : Int) (K : Res → Option ρ) : runC (right_Both_S G) right_Both_hs (right_Both_lp G n) m96 [.i .i64 a0, .i .i64 a1] K = right_Both_s G n a0 a1 (fun w0 => K ⟨.i .i64 w0, [], []⟩) := by kernel_rfl
theorem right_Both_ok (n : Nat) : EK.OK (right_Both_e n) 96 (L tab) := EK.shp (fun _ _ _ => rfl) fun ρ K y c e => EK.run (right_Both_Sok n) (by kernel_rfl) (MF.LKOK.of (LK.of (l := []) (by kernel_rfl) ((fun _ h => nomatch h)))) (right_Both_k (right_Both_g n) n _ _ K) (by kernel_rfl) e

/-! reeve/cap.Cut -/
abbrev cap_Cut_T : Type 1 := (ρ : Type) → Int → Int → Int → Int → Int → (Int → Int → Int → Int → Option ρ) → Option ρ
def cap_Cut_E (G : cap_Cut_T) : EK := fun ρ args K => decL [.agg [.i .i64 none, .i .i64 none, .i .i64 none, .i .i64 none], .i .i64 none] args fun c => G ρ c.1.1 c.1.2.1 c.1.2.2.1 c.1.2.2.2.1 c.2.1 (fun w0 w1 w2 w3 => K ⟨.agg [.i .i64 w0, .i .i64 w1, .i .i64 w2, .i .i64 w3], [], []⟩)
structure cap_Cut_G where
  mk ::
  cap_Good : cap_Good_T
  right_Both : right_Both_T
noncomputable def cap_Cut_s (G : cap_Cut_G) {ρ : Type} (_n : Nat) (a0 : Int) (a1 : Int) (a2 : Int) (a3 : Int) (a4 : Int) (k0 : (Int → Int → Int → Int → Option ρ)) : Option ρ :=
  G.cap_Good ρ a0 a1 a2 a3 (fun w0_0 =>
    bif w0_0 then
      G.right_Both ρ a2 a4 (fun w1_0 =>
        k0 a0 a1 w1_0 a3)
    else k0 0 0 0 0)
noncomputable def cap_Cut_g (n : Nat) : cap_Cut_G := ⟨cap_Good n, right_Both n⟩
noncomputable def cap_Cut (n : Nat) : cap_Cut_T := fun _ρ a0 a1 a2 a3 a4 k0 => cap_Cut_s (cap_Cut_g n) n a0 a1 a2 a3 a4 k0
noncomputable def cap_Cut_e (n : Nat) : EK := cap_Cut_E (cap_Cut n)
def cap_Cut_S (G : cap_Cut_G) : CK := tabS [(9, cap_Good_E G.cap_Good), (96, right_Both_E G.right_Both)]
theorem cap_Cut_Sok (n : Nat) : CK.OK (cap_Cut_S (cap_Cut_g n)) (L tab) := tabS_ok _ (List.forall_mem_cons.2 ⟨(cap_Good_ok n), List.forall_mem_cons.2 ⟨(right_Both_ok n), (fun _ h => nomatch h)⟩⟩)
def cap_Cut_hs : HintC := hintL []
noncomputable def cap_Cut_lp (_G : cap_Cut_G) (_n : Nat) : LK := tabL []
theorem cap_Cut_k (G : cap_Cut_G) {ρ : Type} (n : Nat) (a0 : Int) (a1 : Int) (a2 : Int) (a3 : Int) (a4 : Int) (K : Res → Option ρ) : runC (cap_Cut_S G) cap_Cut_hs (cap_Cut_lp G n) m73 [.agg [.i .i64 a0, .i .i64 a1, .i .i64 a2, .i .i64 a3], .i .i64 a4] K = cap_Cut_s G n a0 a1 a2 a3 a4 (fun w0 w1 w2 w3 => K ⟨.agg [.i .i64 w0, .i .i64 w1, .i .i64 w2, .i .i64 w3], [], []⟩) := by kernel_rfl
theorem cap_Cut_ok (n : Nat) : EK.OK (cap_Cut_e n) 73 (L tab) := EK.shp (fun _ _ _ => rfl) fun ρ K y c e => EK.run (cap_Cut_Sok n) (by kernel_rfl) (MF.LKOK.of (LK.of (l := []) (by kernel_rfl) ((fun _ h => nomatch h)))) (cap_Cut_k (cap_Cut_g n) n _ _ _ _ _ K) (by kernel_rfl) e

/-! reeve/cap.Stamp -/
abbrev cap_Stamp_T : Type 1 := (ρ : Type) → Int → Int → Int → Int → Int → (Int → Int → Int → Int → Int → Option ρ) → Option ρ
def cap_Stamp_E (G : cap_Stamp_T) : EK := fun ρ args K => decL [.agg [.i .i64 none, .i .i64 none, .i .i64 none, .i .i64 none], .i .i64 none] args fun c => G ρ c.1.1 c.1.2.1 c.1.2.2.1 c.1.2.2.2.1 c.2.1 (fun w0 w1 w2 w3 w4 => K ⟨.tup [.agg [.i .i64 w0, .i .i64 w1, .i .i64 w2, .i .i64 w3], .i .i64 w4], [], []⟩)
structure cap_Stamp_G where
  mk ::
  cap_Good : cap_Good_T
  right_Badge : right_Badge_T
  cap_badged : cap_badged_T
noncomputable def cap_Stamp_s (G : cap_Stamp_G) {ρ : Type} (_n : Nat) (a0 : Int) (a1 : Int) (a2 : Int) (a3 : Int) (a4 : Int) (k0 : (Int → Int → Int → Int → Int → Option ρ)) : Option ρ :=
  G.cap_Good ρ a0 a1 a2 a3 (fun w0_0 =>
    bif w0_0 then
      G.right_Badge ρ a4 (fun w1_0 =>
        bif w1_0 then
          bif ((a4 : Int) == 0) then
            k0 0 0 0 0 1
          else G.cap_badged ρ a0 (fun w2_0 =>
            bif w2_0 then
              bif ((a3 : Int) != 0) then
                k0 0 0 0 0 5
              else k0 a0 a1 a2 a4 0
            else k0 0 0 0 0 7)
        else k0 0 0 0 0 1)
    else k0 0 0 0 0 1)
noncomputable def cap_Stamp_g (n : Nat) : cap_Stamp_G := ⟨cap_Good n, right_Badge n, cap_badged n⟩
noncomputable def cap_Stamp (n : Nat) : cap_Stamp_T := fun _ρ a0 a1 a2 a3 a4 k0 => cap_Stamp_s (cap_Stamp_g n) n a0 a1 a2 a3 a4 k0
noncomputable def cap_Stamp_e (n : Nat) : EK := cap_Stamp_E (cap_Stamp n)
def cap_Stamp_S (G : cap_Stamp_G) : CK := tabS [(9, cap_Good_E G.cap_Good), (27, right_Badge_E G.right_Badge), (28, cap_badged_E G.cap_badged)]
theorem cap_Stamp_Sok (n : Nat) : CK.OK (cap_Stamp_S (cap_Stamp_g n)) (L tab) := tabS_ok _ (List.forall_mem_cons.2 ⟨(cap_Good_ok n), List.forall_mem_cons.2 ⟨(right_Badge_ok n), List.forall_mem_cons.2 ⟨(cap_badged_ok n), (fun _ h => nomatch h)⟩⟩⟩)
def cap_Stamp_hs : HintC := hintL []
noncomputable def cap_Stamp_lp (_G : cap_Stamp_G) (_n : Nat) : LK := tabL []
theorem cap_Stamp_k (G : cap_Stamp_G) {ρ : Type} (n : Nat) (a0 : Int) (a1 : Int) (a2 : Int) (a3 : Int) (a4 : Int) (K : Res → Option ρ) : runC (cap_Stamp_S G) cap_Stamp_hs (cap_Stamp_lp G n) m74 [.agg [.i .i64 a0, .i .i64 a1, .i .i64 a2, .i .i64 a3], .i .i64 a4] K = cap_Stamp_s G n a0 a1 a2 a3 a4 (fun w0 w1 w2 w3 w4 => K ⟨.tup [.agg [.i .i64 w0, .i .i64 w1, .i .i64 w2, .i .i64 w3], .i .i64 w4], [], []⟩) := by kernel_rfl
theorem cap_Stamp_ok (n : Nat) : EK.OK (cap_Stamp_e n) 74 (L tab) := EK.shp (fun _ _ _ => rfl) fun ρ K y c e => EK.run (cap_Stamp_Sok n) (by kernel_rfl) (MF.LKOK.of (LK.of (l := []) (by kernel_rfl) ((fun _ h => nomatch h)))) (cap_Stamp_k (cap_Stamp_g n) n _ _ _ _ _ K) (by kernel_rfl) e

/-! reeve/state.Owner -/
abbrev state_Owner_T : Type 1 := (ρ : Type) → Int → Int → Int → Bool → Bool → Rows → Bool → Bool → Rows → Int → (Int → Option ρ) → Option ρ
def state_Owner_E (G : state_Owner_T) : EK := fun ρ args K => decL [.agg [.i .i64 none, .i .i64 none, .i .i64 none, .lst none none 5 none, .lst none none 13 none], .i .i64 none] args fun c => G ρ c.1.1 c.1.2.1 c.1.2.2.1 c.1.2.2.2.1.1 c.1.2.2.2.1.2.1 c.1.2.2.2.1.2.2 c.1.2.2.2.2.1.1 c.1.2.2.2.2.1.2.1 c.1.2.2.2.2.1.2.2 c.2.1 (fun w0 => K ⟨.i .i64 w0, [], []⟩)
structure state_Owner_G where
  mk ::
  state_Good : state_Good_T
  state_State_owner : state_State_owner_T
noncomputable def state_Owner_s (G : state_Owner_G) {ρ : Type} (_n : Nat) (a0 : Int) (a1 : Int) (a2 : Int) (a3 : Bool) (a4 : Bool) (a5 : Rows) (a6 : Bool) (a7 : Bool) (a8 : Rows) (a9 : Int) (k0 : (Int → Option ρ)) : Option ρ :=
  G.state_Good ρ a0 a1 a2 a3 a4 a5 a6 a7 a8 (fun w0_0 =>
    bif w0_0 then
      bif decide ((a9 : Int) < 0) then
        k0 (-1)
      else bif decide ((a9 : Int) ≥ (((List.length (a5 : Rows)) : Nat) : Int)) then
        k0 (-1)
      else G.state_State_owner ρ a0 a1 a2 a3 a4 a5 a6 a7 a8 a9 (fun w1_0 =>
        k0 w1_0)
    else k0 (-1))
noncomputable def state_Owner_g (n : Nat) : state_Owner_G := ⟨state_Good n, state_State_owner n⟩
noncomputable def state_Owner (n : Nat) : state_Owner_T := fun _ρ a0 a1 a2 a3 a4 a5 a6 a7 a8 a9 k0 => state_Owner_s (state_Owner_g n) n a0 a1 a2 a3 a4 a5 a6 a7 a8 a9 k0
noncomputable def state_Owner_e (n : Nat) : EK := state_Owner_E (state_Owner n)
def state_Owner_S (G : state_Owner_G) : CK := tabS [(16, state_Good_E G.state_Good), (92, state_State_owner_E G.state_State_owner)]
theorem state_Owner_Sok (n : Nat) : CK.OK (state_Owner_S (state_Owner_g n)) (L tab) := tabS_ok _ (List.forall_mem_cons.2 ⟨(state_Good_ok n), List.forall_mem_cons.2 ⟨(state_State_owner_ok n), (fun _ h => nomatch h)⟩⟩)
def state_Owner_hs : HintC := hintL []
noncomputable def state_Owner_lp (_G : state_Owner_G) (_n : Nat) : LK := tabL []
theorem state_Owner_k (G : state_Owner_G) {ρ : Type} (n : Nat) (a0 : Int) (a1 : Int) (a2 : Int) (a3 : Bool) (a4 : Bool) (a5 : Rows) (a6 : Bool) (a7 : Bool) (a8 : Rows) (a9 : Int) (K : Res → Option ρ) : runC (state_Owner_S G) state_Owner_hs (state_Owner_lp G n) m97 [.agg [.i .i64 a0, .i .i64 a1, .i .i64 a2, .lst a3 a4 5 a5, .lst a6 a7 13 a8], .i .i64 a9] K = state_Owner_s G n a0 a1 a2 a3 a4 a5 a6 a7 a8 a9 (fun w0 => K ⟨.i .i64 w0, [], []⟩) := by kernel_rfl
theorem state_Owner_ok (n : Nat) : EK.OK (state_Owner_e n) 97 (L tab) := EK.shp (fun _ _ _ => rfl) fun ρ K y c e => EK.run (state_Owner_Sok n) (by kernel_rfl) (MF.LKOK.of (LK.of (l := []) (by kernel_rfl) ((fun _ h => nomatch h)))) (state_Owner_k (state_Owner_g n) n _ _ _ _ _ _ _ _ _ _ K) (by kernel_rfl) e

/-! reeve/state.Inside -/
abbrev state_Inside_T : Type 1 := (ρ : Type) → Int → Int → Int → Bool → Bool → Rows → Bool → Bool → Rows → Int → Int → (Bool → Option ρ) → Option ρ
def state_Inside_E (G : state_Inside_T) : EK := fun ρ args K => decL [.agg [.i .i64 none, .i .i64 none, .i .i64 none, .lst none none 5 none, .lst none none 13 none], .i .i64 none, .i .i64 none] args fun c => G ρ c.1.1 c.1.2.1 c.1.2.2.1 c.1.2.2.2.1.1 c.1.2.2.2.1.2.1 c.1.2.2.2.1.2.2 c.1.2.2.2.2.1.1 c.1.2.2.2.2.1.2.1 c.1.2.2.2.2.1.2.2 c.2.1 c.2.2.1 (fun w0 => K ⟨.b w0, [], []⟩)
structure state_Inside_G where
  mk ::
  state_Good : state_Good_T
  state_State_inside : state_State_inside_T
noncomputable def state_Inside_s (G : state_Inside_G) {ρ : Type} (_n : Nat) (a0 : Int) (a1 : Int) (a2 : Int) (a3 : Bool) (a4 : Bool) (a5 : Rows) (a6 : Bool) (a7 : Bool) (a8 : Rows) (a9 : Int) (a10 : Int) (k0 : (Bool → Option ρ)) : Option ρ :=
  G.state_Good ρ a0 a1 a2 a3 a4 a5 a6 a7 a8 (fun w0_0 =>
    bif w0_0 then
      bif decide ((a10 : Int) ≥ 0) then
        bif decide ((a10 : Int) < (((List.length (a5 : Rows)) : Nat) : Int)) then
          G.state_State_inside ρ a0 a1 a2 a3 a4 a5 a6 a7 a8 a9 a10 (fun w1_0 =>
            bif w1_0 then
              k0 true
            else k0 false)
        else k0 false
      else k0 false
    else k0 false)
noncomputable def state_Inside_g (n : Nat) : state_Inside_G := ⟨state_Good n, state_State_inside n⟩
noncomputable def state_Inside (n : Nat) : state_Inside_T := fun _ρ a0 a1 a2 a3 a4 a5 a6 a7 a8 a9 a10 k0 => state_Inside_s (state_Inside_g n) n a0 a1 a2 a3 a4 a5 a6 a7 a8 a9 a10 k0
noncomputable def state_Inside_e (n : Nat) : EK := state_Inside_E (state_Inside n)
def state_Inside_S (G : state_Inside_G) : CK := tabS [(16, state_Good_E G.state_Good), (64, state_State_inside_E G.state_State_inside)]
theorem state_Inside_Sok (n : Nat) : CK.OK (state_Inside_S (state_Inside_g n)) (L tab) := tabS_ok _ (List.forall_mem_cons.2 ⟨(state_Good_ok n), List.forall_mem_cons.2 ⟨(state_State_inside_ok n), (fun _ h => nomatch h)⟩⟩)
def state_Inside_hs : HintC := hintL []
noncomputable def state_Inside_lp (_G : state_Inside_G) (_n : Nat) : LK := tabL []
theorem state_Inside_k (G : state_Inside_G) {ρ : Type} (n : Nat) (a0 : Int) (a1 : Int) (a2 : Int) (a3 : Bool) (a4 : Bool) (a5 : Rows) (a6 : Bool) (a7 : Bool) (a8 : Rows) (a9 : Int) (a10 : Int) (K : Res → Option ρ) : runC (state_Inside_S G) state_Inside_hs (state_Inside_lp G n) m98 [.agg [.i .i64 a0, .i .i64 a1, .i .i64 a2, .lst a3 a4 5 a5, .lst a6 a7 13 a8], .i .i64 a9, .i .i64 a10] K = state_Inside_s G n a0 a1 a2 a3 a4 a5 a6 a7 a8 a9 a10 (fun w0 => K ⟨.b w0, [], []⟩) := by kernel_rfl
theorem state_Inside_ok (n : Nat) : EK.OK (state_Inside_e n) 98 (L tab) := EK.shp (fun _ _ _ => rfl) fun ρ K y c e => EK.run (state_Inside_Sok n) (by kernel_rfl) (MF.LKOK.of (LK.of (l := []) (by kernel_rfl) ((fun _ h => nomatch h)))) (state_Inside_k (state_Inside_g n) n _ _ _ _ _ _ _ _ _ _ _ K) (by kernel_rfl) e

/-! reeve/give.ring -/
abbrev give_ring_T : Type 1 := (ρ : Type) → Int → Int → Int → Bool → Bool → Rows → Bool → Bool → Rows → Int → Int → Int → Int → Int → (Bool → Option ρ) → Option ρ
def give_ring_E (G : give_ring_T) : EK := fun ρ args K => decL [.agg [.i .i64 none, .i .i64 none, .i .i64 none, .lst none none 5 none, .lst none none 13 none], .agg [.i .i64 none, .i .i64 none, .i .i64 none, .i .i64 none], .i .i64 none] args fun c => G ρ c.1.1 c.1.2.1 c.1.2.2.1 c.1.2.2.2.1.1 c.1.2.2.2.1.2.1 c.1.2.2.2.1.2.2 c.1.2.2.2.2.1.1 c.1.2.2.2.2.1.2.1 c.1.2.2.2.2.1.2.2 c.2.1.1 c.2.1.2.1 c.2.1.2.2.1 c.2.1.2.2.2.1 c.2.2.1 (fun w0 => K ⟨.b w0, [], []⟩)
structure give_ring_G where
  mk ::
  state_Inside : state_Inside_T
noncomputable def give_ring_s (G : give_ring_G) {ρ : Type} (_n : Nat) (a0 : Int) (a1 : Int) (a2 : Int) (a3 : Bool) (a4 : Bool) (a5 : Rows) (a6 : Bool) (a7 : Bool) (a8 : Rows) (a9 : Int) (a10 : Int) (_a11 : Int) (_a12 : Int) (a13 : Int) (k0 : (Bool → Option ρ)) : Option ρ :=
  bif ((a9 : Int) == 2) then
    G.state_Inside ρ a0 a1 a2 a3 a4 a5 a6 a7 a8 a10 a13 (fun w0_0 =>
      bif w0_0 then
        k0 true
      else k0 false)
  else k0 false
noncomputable def give_ring_g (n : Nat) : give_ring_G := ⟨state_Inside n⟩
noncomputable def give_ring (n : Nat) : give_ring_T := fun _ρ a0 a1 a2 a3 a4 a5 a6 a7 a8 a9 a10 a11 a12 a13 k0 => give_ring_s (give_ring_g n) n a0 a1 a2 a3 a4 a5 a6 a7 a8 a9 a10 a11 a12 a13 k0
noncomputable def give_ring_e (n : Nat) : EK := give_ring_E (give_ring n)
def give_ring_S (G : give_ring_G) : CK := tabS [(98, state_Inside_E G.state_Inside)]
theorem give_ring_Sok (n : Nat) : CK.OK (give_ring_S (give_ring_g n)) (L tab) := tabS_ok _ (List.forall_mem_cons.2 ⟨(state_Inside_ok n), (fun _ h => nomatch h)⟩)
def give_ring_hs : HintC := hintL []
noncomputable def give_ring_lp (_G : give_ring_G) (_n : Nat) : LK := tabL []
theorem give_ring_k (G : give_ring_G) {ρ : Type} (n : Nat) (a0 : Int) (a1 : Int) (a2 : Int) (a3 : Bool) (a4 : Bool) (a5 : Rows) (a6 : Bool) (a7 : Bool) (a8 : Rows) (a9 : Int) (a10 : Int) (a11 : Int) (a12 : Int) (a13 : Int) (K : Res → Option ρ) : runC (give_ring_S G) give_ring_hs (give_ring_lp G n) m76 [.agg [.i .i64 a0, .i .i64 a1, .i .i64 a2, .lst a3 a4 5 a5, .lst a6 a7 13 a8], .agg [.i .i64 a9, .i .i64 a10, .i .i64 a11, .i .i64 a12], .i .i64 a13] K = give_ring_s G n a0 a1 a2 a3 a4 a5 a6 a7 a8 a9 a10 a11 a12 a13 (fun w0 => K ⟨.b w0, [], []⟩) := by kernel_rfl
theorem give_ring_ok (n : Nat) : EK.OK (give_ring_e n) 76 (L tab) := EK.shp (fun _ _ _ => rfl) fun ρ K y c e => EK.run (give_ring_Sok n) (by kernel_rfl) (MF.LKOK.of (LK.of (l := []) (by kernel_rfl) ((fun _ h => nomatch h)))) (give_ring_k (give_ring_g n) n _ _ _ _ _ _ _ _ _ _ _ _ _ _ K) (by kernel_rfl) e

/-! reeve/give.Put -/
abbrev give_Put_T : Type 1 := (ρ : Type) → Int → Int → Int → Bool → Bool → Rows → Bool → Bool → Rows → Int → Int → Int → Int → Int → Int → (Bool → Bool → Rows → Bool → Bool → Rows → Int → Option ρ) → Option ρ
def give_Put_E (G : give_Put_T) : EK := fun ρ args K => decL [.agg [.i .i64 none, .i .i64 none, .i .i64 none, .lst none none 5 none, .lst none none 13 none], .i .i64 none, .i .i64 none, .agg [.i .i64 none, .i .i64 none, .i .i64 none, .i .i64 none]] args fun c => G ρ c.1.1 c.1.2.1 c.1.2.2.1 c.1.2.2.2.1.1 c.1.2.2.2.1.2.1 c.1.2.2.2.1.2.2 c.1.2.2.2.2.1.1 c.1.2.2.2.2.1.2.1 c.1.2.2.2.2.1.2.2 c.2.1 c.2.2.1 c.2.2.2.1.1 c.2.2.2.1.2.1 c.2.2.2.1.2.2.1 c.2.2.2.1.2.2.2.1 (fun w0 w1 w2 w3 w4 w5 w6 => K ⟨.tup [.agg [.i .i64 c.1.1, .i .i64 c.1.2.1, .i .i64 c.1.2.2.1, .lst w0 w1 5 w2, .lst w3 w4 13 w5], .i .i64 w6], [], []⟩)
structure give_Put_G where
  mk ::
  state_Good : state_Good_T
  cap_Good : cap_Good_T
  cap_None : cap_None_T
  state_Owner : state_Owner_T
  cap_Less : cap_Less_T
  give_ring : give_ring_T
  state_Clone : state_Clone_T
noncomputable def give_Put_s (G : give_Put_G) {ρ : Type} (_n : Nat) (a0 : Int) (a1 : Int) (a2 : Int) (a3 : Bool) (a4 : Bool) (a5 : Rows) (a6 : Bool) (a7 : Bool) (a8 : Rows) (a9 : Int) (a10 : Int) (a11 : Int) (a12 : Int) (a13 : Int) (a14 : Int) (k0 : (Bool → Bool → Rows → Bool → Bool → Rows → Int → Option ρ)) : Option ρ :=
  G.state_Good ρ a0 a1 a2 a3 a4 a5 a6 a7 a8 (fun w0_0 =>
    bif w0_0 then
      bif decide ((a9 : Int) < 0) then
        k0 a3 a4 a5 a6 a7 a8 1
      else bif decide ((a9 : Int) ≥ (((List.length (a5 : Rows)) : Nat) : Int)) then
        k0 a3 a4 a5 a6 a7 a8 1
      else bif decide ((a10 : Int) < 0) then
        k0 a3 a4 a5 a6 a7 a8 1
      else bif decide ((a10 : Int) ≥ (((List.length (a5 : Rows)) : Nat) : Int)) then
        k0 a3 a4 a5 a6 a7 a8 1
      else G.cap_Good ρ a11 a12 a13 a14 (fun w1_0 =>
        bif w1_0 then
          G.cap_None ρ a11 a12 a13 a14 (fun w2_0 =>
            bif w2_0 then
              k0 a3 a4 a5 a6 a7 a8 1
            else G.state_Owner ρ a0 a1 a2 a3 a4 a5 a6 a7 a8 a10 (fun w3_0 =>
              bif decide ((w3_0 : Int) < 0) then
                k0 a3 a4 a5 a6 a7 a8 1
              else rowT [.i .i64, .i .i64, .i .i64, .i .i64, .i .i64] a5 a9 fun c4 =>
              G.cap_None ρ c4.1 c4.2.1 c4.2.2.1 c4.2.2.2.1 (fun w5_0 =>
                bif w5_0 then
                  k0 a3 a4 a5 a6 a7 a8 4
                else rowT [.i .i64, .i .i64, .i .i64, .i .i64, .i .i64] a5 a10 fun c6 =>
                G.cap_None ρ c6.1 c6.2.1 c6.2.2.1 c6.2.2.2.1 (fun w7_0 =>
                  bif w7_0 then
                    rowT [.i .i64, .i .i64, .i .i64, .i .i64, .i .i64] a5 a9 fun c8 =>
                    bif ((c8.1 : Int) == 1) then
                      k0 a3 a4 a5 a6 a7 a8 7
                    else rowT [.i .i64, .i .i64, .i .i64, .i .i64, .i .i64] a5 a9 fun c9 =>
                    G.cap_Less ρ a11 a12 a13 a14 c9.1 c9.2.1 c9.2.2.1 c9.2.2.2.1 (fun w10_0 =>
                      bif w10_0 then
                        G.give_ring ρ a0 a1 a2 a3 a4 a5 a6 a7 a8 a11 a12 a13 a14 a10 (fun w11_0 =>
                          bif w11_0 then
                            k0 a3 a4 a5 a6 a7 a8 1
                          else G.state_Clone ρ a0 a1 a2 a3 a4 a5 a6 a7 a8 (none) (fun _w13_0 _w13_1 _w13_2 =>
                            none) (fun w14_0 w14_1 w14_2 =>
                            chk (decide ((0 : Int) ≤ a10)) <|
                            chk (decide ((a10 : Int) < ((w14_1 : Nat) : Int))) <|
                            chk (((List.length (w14_2 : Rows)) : Nat) == w14_0) <|
                            rowN [.a, .a, .a, .a, .a] w14_2 (0 + a10.toNat) fun _c15 =>
                            chk (((List.length ((List.set (w14_2 : Rows) (0 + a10.toNat) [.i .i64 a11, .i .i64 a12, .i .i64 a13, .i .i64 a14, .i .i64 a9]) : Rows)) : Nat) == w14_0) <|
                            k0 false false (List.take w14_1 (List.drop 0 ((List.set (w14_2 : Rows) (0 + a10.toNat) [.i .i64 a11, .i .i64 a12, .i .i64 a13, .i .i64 a14, .i .i64 a9]) : Rows))) true true [] 0) (fun w16_0 w16_1 w16_2 w16_3 w16_4 w16_5 =>
                            chk (decide ((0 : Int) ≤ a10)) <|
                            chk (decide ((a10 : Int) < ((w16_1 : Nat) : Int))) <|
                            chk (((List.length (w16_4 : Rows)) : Nat) == w16_0) <|
                            rowN [.a, .a, .a, .a, .a] w16_4 (0 + a10.toNat) fun _c17 =>
                            chk (((List.length ((List.set (w16_4 : Rows) (0 + a10.toNat) [.i .i64 a11, .i .i64 a12, .i .i64 a13, .i .i64 a14, .i .i64 a9]) : Rows)) : Nat) == w16_0) <|
                            chk (((List.length (w16_5 : Rows)) : Nat) == w16_2) <|
                            k0 false false (List.take w16_1 (List.drop 0 ((List.set (w16_4 : Rows) (0 + a10.toNat) [.i .i64 a11, .i .i64 a12, .i .i64 a13, .i .i64 a14, .i .i64 a9]) : Rows))) false false (List.take w16_3 (List.drop 0 (w16_5 : Rows))) 0))
                      else k0 a3 a4 a5 a6 a7 a8 1)
                  else k0 a3 a4 a5 a6 a7 a8 5))))
        else k0 a3 a4 a5 a6 a7 a8 1)
    else k0 a3 a4 a5 a6 a7 a8 1)
noncomputable def give_Put_g (n : Nat) : give_Put_G := ⟨state_Good n, cap_Good n, cap_None n, state_Owner n, cap_Less n, give_ring n, state_Clone n⟩
noncomputable def give_Put (n : Nat) : give_Put_T := fun _ρ a0 a1 a2 a3 a4 a5 a6 a7 a8 a9 a10 a11 a12 a13 a14 k0 => give_Put_s (give_Put_g n) n a0 a1 a2 a3 a4 a5 a6 a7 a8 a9 a10 a11 a12 a13 a14 k0
noncomputable def give_Put_e (n : Nat) : EK := give_Put_E (give_Put n)
def give_Put_S (G : give_Put_G) : CK := tabS [(16, state_Good_E G.state_Good), (9, cap_Good_E G.cap_Good), (24, cap_None_E G.cap_None), (97, state_Owner_E G.state_Owner), (66, cap_Less_E G.cap_Less), (76, give_ring_E G.give_ring), (23, state_Clone_E G.state_Clone)]
theorem give_Put_Sok (n : Nat) : CK.OK (give_Put_S (give_Put_g n)) (L tab) := tabS_ok _ (List.forall_mem_cons.2 ⟨(state_Good_ok n), List.forall_mem_cons.2 ⟨(cap_Good_ok n), List.forall_mem_cons.2 ⟨(cap_None_ok n), List.forall_mem_cons.2 ⟨(state_Owner_ok n), List.forall_mem_cons.2 ⟨(cap_Less_ok n), List.forall_mem_cons.2 ⟨(give_ring_ok n), List.forall_mem_cons.2 ⟨(state_Clone_ok n), (fun _ h => nomatch h)⟩⟩⟩⟩⟩⟩⟩)
def give_Put_hs : HintC := hintL [(52, [.i .i64, .i .i64, .i .i64, .i .i64, .i .i64]), (61, [.i .i64, .i .i64, .i .i64, .i .i64, .i .i64]), (71, [.i .i64, .i .i64, .i .i64, .i .i64, .i .i64]), (82, [.i .i64, .i .i64, .i .i64, .i .i64, .i .i64])]
noncomputable def give_Put_lp (_G : give_Put_G) (_n : Nat) : LK := tabL []
theorem give_Put_k (G : give_Put_G) {ρ : Type} (n : Nat) (a0 : Int) (a1 : Int) (a2 : Int) (a3 : Bool) (a4 : Bool) (a5 : Rows) (a6 : Bool) (a7 : Bool) (a8 : Rows) (a9 : Int) (a10 : Int) (a11 : Int) (a12 : Int) (a13 : Int) (a14 : Int) (K : Res → Option ρ) : runC (give_Put_S G) give_Put_hs (give_Put_lp G n) m75 [.agg [.i .i64 a0, .i .i64 a1, .i .i64 a2, .lst a3 a4 5 a5, .lst a6 a7 13 a8], .i .i64 a9, .i .i64 a10, .agg [.i .i64 a11, .i .i64 a12, .i .i64 a13, .i .i64 a14]] K = give_Put_s G n a0 a1 a2 a3 a4 a5 a6 a7 a8 a9 a10 a11 a12 a13 a14 (fun w0 w1 w2 w3 w4 w5 w6 => K ⟨.tup [.agg [.i .i64 a0, .i .i64 a1, .i .i64 a2, .lst w0 w1 5 w2, .lst w3 w4 13 w5], .i .i64 w6], [], []⟩) := by kernel_rfl
theorem give_Put_ok (n : Nat) : EK.OK (give_Put_e n) 75 (L tab) := EK.shp (fun _ _ _ => rfl) fun ρ K y c e => EK.run (give_Put_Sok n) (by kernel_rfl) (MF.LKOK.of (LK.of (l := []) (by kernel_rfl) ((fun _ h => nomatch h)))) (give_Put_k (give_Put_g n) n _ _ _ _ _ _ _ _ _ _ _ _ _ _ _ K) (by kernel_rfl) e

/-! slices.Clone[[]int,int] -/
abbrev slices_Clone_int_T : Type 1 := (ρ : Type) → Bool → Bool → Rows → (Option ρ) → (Nat → Nat → Rows → Option ρ) → Option ρ
def slices_Clone_int_E (G : slices_Clone_int_T) : EK := fun ρ args K => decL [.lst none none 1 none] args fun c => G ρ c.1.1 c.1.2.1 c.1.2.2 (K ⟨.lst true true 0 [], [], []⟩) (fun w0 w1 w2 => K ⟨.sl 0 w0 1 0 w1, [.row 1 true false w2], []⟩)
structure slices_Clone_int_G where
  mk ::
noncomputable def slices_Clone_int_s (_G : slices_Clone_int_G) {ρ : Type} (_n : Nat) (a0 : Bool) (_a1 : Bool) (a2 : Rows) (k0 : (Option ρ)) (k1 : (Nat → Nat → Rows → Option ρ)) : Option ρ :=
  bif a0 then
    k0
  else chk (List.all (a2 : Rows) fun e => e.length == 1) <|
  chk (decide ((0 + (List.length (a2 : Rows))) ≤ most)) <|
  chk (List.all (a2 : Rows) fun e => !ownL e) <|
  k1 (0 + (List.length (a2 : Rows))) (0 + (List.length (a2 : Rows))) ([] ++ a2)
noncomputable def slices_Clone_int_g (_n : Nat) : slices_Clone_int_G := ⟨⟩
noncomputable def slices_Clone_int (n : Nat) : slices_Clone_int_T := fun _ρ a0 a1 a2 k0 k1 => slices_Clone_int_s (slices_Clone_int_g n) n a0 a1 a2 k0 k1
noncomputable def slices_Clone_int_e (n : Nat) : EK := slices_Clone_int_E (slices_Clone_int n)
def slices_Clone_int_S (_G : slices_Clone_int_G) : CK := tabS []
theorem slices_Clone_int_Sok (n : Nat) : CK.OK (slices_Clone_int_S (slices_Clone_int_g n)) (L tab) := tabS_ok _ ((fun _ h => nomatch h))
def slices_Clone_int_hs : HintC := hintL []
noncomputable def slices_Clone_int_lp (_G : slices_Clone_int_G) (_n : Nat) : LK := tabL []
theorem slices_Clone_int_k (G : slices_Clone_int_G) {ρ : Type} (n : Nat) (a0 : Bool) (a1 : Bool) (a2 : Rows) (K : Res → Option ρ) : runC (slices_Clone_int_S G) slices_Clone_int_hs (slices_Clone_int_lp G n) m117 [.lst a0 a1 1 a2] K = slices_Clone_int_s G n a0 a1 a2 (K ⟨.lst true true 0 [], [], []⟩) (fun w0 w1 w2 => K ⟨.sl 0 w0 1 0 w1, [.row 1 true false w2], []⟩) := by kernel_rfl
theorem slices_Clone_int_ok (n : Nat) : EK.OK (slices_Clone_int_e n) 117 (L tab) := EK.shp (fun _ _ _ => rfl) fun ρ K y c e => EK.run (slices_Clone_int_Sok n) (by kernel_rfl) (MF.LKOK.of (LK.of (l := []) (by kernel_rfl) ((fun _ h => nomatch h)))) (slices_Clone_int_k (slices_Clone_int_g n) n _ _ _ K) (by kernel_rfl) e

/-! (reeve/forest.Forest).clone -/
abbrev forest_Forest_clone_T : Type 1 := (ρ : Type) → Bool → Bool → Rows → (Option ρ) → (Nat → Nat → Rows → Option ρ) → Option ρ
def forest_Forest_clone_E (G : forest_Forest_clone_T) : EK := fun ρ args K => decL [.agg [.lst none none 1 none]] args fun c => G ρ c.1.1.1 c.1.1.2.1 c.1.1.2.2 (K ⟨.agg [.lst true true 0 []], [], []⟩) (fun w0 w1 w2 => K ⟨.agg [.sl 0 w0 1 0 w1], [.row 1 true false w2], []⟩)
structure forest_Forest_clone_G where
  mk ::
  slices_Clone_int : slices_Clone_int_T
noncomputable def forest_Forest_clone_s (G : forest_Forest_clone_G) {ρ : Type} (_n : Nat) (a0 : Bool) (a1 : Bool) (a2 : Rows) (k0 : (Option ρ)) (k1 : (Nat → Nat → Rows → Option ρ)) : Option ρ :=
  G.slices_Clone_int ρ a0 a1 a2 (k0) (fun w1_0 w1_1 w1_2 =>
    k1 w1_0 w1_1 w1_2)
noncomputable def forest_Forest_clone_g (n : Nat) : forest_Forest_clone_G := ⟨slices_Clone_int n⟩
noncomputable def forest_Forest_clone (n : Nat) : forest_Forest_clone_T := fun _ρ a0 a1 a2 k0 k1 => forest_Forest_clone_s (forest_Forest_clone_g n) n a0 a1 a2 k0 k1
noncomputable def forest_Forest_clone_e (n : Nat) : EK := forest_Forest_clone_E (forest_Forest_clone n)
def forest_Forest_clone_S (G : forest_Forest_clone_G) : CK := tabS [(117, slices_Clone_int_E G.slices_Clone_int)]
theorem forest_Forest_clone_Sok (n : Nat) : CK.OK (forest_Forest_clone_S (forest_Forest_clone_g n)) (L tab) := tabS_ok _ (List.forall_mem_cons.2 ⟨(slices_Clone_int_ok n), (fun _ h => nomatch h)⟩)
def forest_Forest_clone_hs : HintC := hintL []
noncomputable def forest_Forest_clone_lp (_G : forest_Forest_clone_G) (_n : Nat) : LK := tabL []
theorem forest_Forest_clone_k (G : forest_Forest_clone_G) {ρ : Type} (n : Nat) (a0 : Bool) (a1 : Bool) (a2 : Rows) (K : Res → Option ρ) : runC (forest_Forest_clone_S G) forest_Forest_clone_hs (forest_Forest_clone_lp G n) m110 [.agg [.lst a0 a1 1 a2]] K = forest_Forest_clone_s G n a0 a1 a2 (K ⟨.agg [.lst true true 0 []], [], []⟩) (fun w0 w1 w2 => K ⟨.agg [.sl 0 w0 1 0 w1], [.row 1 true false w2], []⟩) := by kernel_rfl
theorem forest_Forest_clone_ok (n : Nat) : EK.OK (forest_Forest_clone_e n) 110 (L tab) := EK.shp (fun _ _ _ => rfl) fun ρ K y c e => EK.run (forest_Forest_clone_Sok n) (by kernel_rfl) (MF.LKOK.of (LK.of (l := []) (by kernel_rfl) ((fun _ h => nomatch h)))) (forest_Forest_clone_k (forest_Forest_clone_g n) n _ _ _ K) (by kernel_rfl) e

/-! (reeve/forest.Forest).of -/
abbrev forest_Forest_of_i1_T : Type 1 := (ρ : Type) → Bool → Bool → Int → (Option ρ) → Option ρ
def forest_Forest_of_i1_E (G : forest_Forest_of_i1_T) : EK := fun ρ args K => decL [.agg [.lst none none 0 (some [])], .i .i64 none] args fun c => G ρ c.1.1.1 c.1.1.2.1 c.2.1 (K ⟨.lst true true 0 [], [], []⟩)
structure forest_Forest_of_i1_G where
  mk ::
abbrev forest_Forest_of_i1_l3_V : Type := Unit
noncomputable def forest_Forest_of_i1_l3_s (_G : forest_Forest_of_i1_G) {ρ : Type} (_n : Nat) (_p0 : Int) (_p1 : Bool) (_p2 : Bool) (_p3 : Bool) (_p4 : Bool) (k0 : (Option ρ)) (_rec' : forest_Forest_of_i1_l3_V → Option ρ) : forest_Forest_of_i1_l3_V → Option ρ
  | _v =>
  k0
noncomputable def forest_Forest_of_i1_l3 (G : forest_Forest_of_i1_G) {ρ : Type} (n : Nat) (p0 : Int) (p1 : Bool) (p2 : Bool) (p3 : Bool) (p4 : Bool) (k0 : (Option ρ)) (v : forest_Forest_of_i1_l3_V) : Option ρ := fuelN (forest_Forest_of_i1_l3_s G n p0 p1 p2 p3 p4 k0) n v
def forest_Forest_of_i1_l3_enc (p0 : Int) (p1 : Bool) (p2 : Bool) (p3 : Bool) (p4 : Bool) : forest_Forest_of_i1_l3_V → St
  | _v => ⟨[(1, .i .i64 p0), (5, .lst true true 0 []), (9, .lst p1 p2 0 []), (10, .i .i64 0), (11, .i .i64 0)], [.row 1 true false [[.lst p3 p4 0 []]]]⟩
noncomputable def forest_Forest_of_i1_s (G : forest_Forest_of_i1_G) {ρ : Type} (n : Nat) (a0 : Bool) (a1 : Bool) (a2 : Int) (k0 : (Option ρ)) : Option ρ :=
  forest_Forest_of_i1_l3 G n a2 a0 a1 a0 a1 (k0) ()
noncomputable def forest_Forest_of_i1_g (_n : Nat) : forest_Forest_of_i1_G := ⟨⟩
noncomputable def forest_Forest_of_i1 (n : Nat) : forest_Forest_of_i1_T := fun _ρ a0 a1 a2 k0 => forest_Forest_of_i1_s (forest_Forest_of_i1_g n) n a0 a1 a2 k0
noncomputable def forest_Forest_of_i1_e (n : Nat) : EK := forest_Forest_of_i1_E (forest_Forest_of_i1 n)
def forest_Forest_of_i1_S (_G : forest_Forest_of_i1_G) : CK := tabS []
theorem forest_Forest_of_i1_Sok (n : Nat) : CK.OK (forest_Forest_of_i1_S (forest_Forest_of_i1_g n)) (L tab) := tabS_ok _ ((fun _ h => nomatch h))
def forest_Forest_of_i1_hs : HintC := hintL []
def forest_Forest_of_i1_c3 : Nat × List Nat × List Nat × MC := loopAt 3 m109
noncomputable def forest_Forest_of_i1_l3_d (G : forest_Forest_of_i1_G) (n : Nat) : Go.Rv.LE := fun _ρ h K => decSt [(1, .i .i64 none), (5, .lst (some true) (some true) 0 (some [])), (9, .lst none none 0 (some [])), (10, .i .i64 (some 0)), (11, .i .i64 (some 0))] [.row 1 true false (some [[.lst none none 0 (some [])]])] h fun a b => forest_Forest_of_i1_l3 G n a.1 a.2.2.1.1 a.2.2.1.2.1 b.1.1.1.1 b.1.1.1.2.1 (K (.exit 0) ⟨[(5, .lst true true 0 [])], [.row 1 true false [[.lst b.1.1.1.1 b.1.1.1.2.1 0 []]]]⟩) ()
noncomputable def forest_Forest_of_i1_d3 (G : forest_Forest_of_i1_G) (n : Nat) : Go.Rv.LE := forest_Forest_of_i1_l3_d G n
noncomputable def forest_Forest_of_i1_lp (G : forest_Forest_of_i1_G) (n : Nat) : LK := tabL [(3, forest_Forest_of_i1_d3 G n)]
theorem forest_Forest_of_i1_l3_k (G : forest_Forest_of_i1_G) {ρ : Type} (n : Nat) (p0 : Int) (p1 : Bool) (p2 : Bool) (p3 : Bool) (p4 : Bool) (K : Ex → St → Option ρ) (N : St → Option ρ) : ∀ v, roundC (forest_Forest_of_i1_S G) forest_Forest_of_i1_hs (forest_Forest_of_i1_lp G n) forest_Forest_of_i1_c3 1 N K (forest_Forest_of_i1_l3_enc p0 p1 p2 p3 p4 v) = forest_Forest_of_i1_l3_s G n p0 p1 p2 p3 p4 (K (.exit 0) ⟨[(5, .lst true true 0 [])], [.row 1 true false [[.lst p3 p4 0 []]]]⟩) (fun v => N (forest_Forest_of_i1_l3_enc p0 p1 p2 p3 p4 v)) v
  | v => by kernel_rfl
theorem forest_Forest_of_i1_l3_dok (n : Nat) : LE.OK (forest_Forest_of_i1_l3_d (forest_Forest_of_i1_g n) n) (L tab) forest_Forest_of_i1_c3 := LE.shp (fun _ _ _ => rfl) fun ρ K y a b e => LE.rounds (forest_Forest_of_i1_Sok n) (LK.of (l := []) (by kernel_rfl) ((fun _ h => nomatch h))) (forest_Forest_of_i1_l3_k (forest_Forest_of_i1_g n) n _ _ _ _ _ K) (by kernel_rfl) (by kernel_rfl) e
theorem forest_Forest_of_i1_d3_ok (n : Nat) : LE.OK (forest_Forest_of_i1_d3 (forest_Forest_of_i1_g n) n) (L tab) forest_Forest_of_i1_c3 := forest_Forest_of_i1_l3_dok n
theorem forest_Forest_of_i1_k (G : forest_Forest_of_i1_G) {ρ : Type} (n : Nat) (a0 : Bool) (a1 : Bool) (a2 : Int) (K : Res → Option ρ) : runC (forest_Forest_of_i1_S G) forest_Forest_of_i1_hs (forest_Forest_of_i1_lp G n) m109 [.agg [.lst a0 a1 0 []], .i .i64 a2] K = forest_Forest_of_i1_s G n a0 a1 a2 (K ⟨.lst true true 0 [], [], []⟩) := by kernel_rfl
theorem forest_Forest_of_i1_ok (n : Nat) : EK.OK (forest_Forest_of_i1_e n) 109 (L tab) := EK.shp (fun _ _ _ => rfl) fun ρ K y c e => EK.run (forest_Forest_of_i1_Sok n) (by kernel_rfl) (MF.LKOK.of (LK.of (l := [forest_Forest_of_i1_c3]) (by kernel_rfl) (List.forall_mem_cons.2 ⟨LE.at (e := forest_Forest_of_i1_d3 (forest_Forest_of_i1_g n) n) (by kernel_rfl) (forest_Forest_of_i1_d3_ok n), (fun _ h => nomatch h)⟩))) (forest_Forest_of_i1_k (forest_Forest_of_i1_g n) n _ _ _ K) (by kernel_rfl) e

/-! reeve/forest.Move -/
abbrev forest_Move_T : Type 1 := (ρ : Type) → Bool → Bool → Rows → Int → Int → (Option ρ) → (Nat → Nat → Rows → Option ρ) → Option ρ
def forest_Move_E (G : forest_Move_T) : EK := fun ρ args K => decL [.agg [.lst none none 1 none], .i .i64 none, .i .i64 none] args fun c => G ρ c.1.1.1 c.1.1.2.1 c.1.1.2.2 c.2.1 c.2.2.1 (K ⟨.tup [.agg [.lst true true 0 []], .b false], [], []⟩) (fun w0 w1 w2 => K ⟨.tup [.agg [.sl 0 w0 1 0 w1], .b true], [.row 1 true false w2], []⟩)
structure forest_Move_G where
  mk ::
  forest_may : forest_may_T
  forest_Forest_is : forest_Forest_is_T
  forest_Forest_clone : forest_Forest_clone_T
  forest_Forest_of_i1 : forest_Forest_of_i1_T
  forest_Forest_of : forest_Forest_of_T
abbrev forest_Move_l5_0_V : Type := Unit
noncomputable def forest_Move_l5_0_s (_G : forest_Move_G) {ρ : Type} (_n : Nat) (_p0 : Int) (_p1 : Int) (k0 : (Option ρ)) (_rec' : forest_Move_l5_0_V → Option ρ) : forest_Move_l5_0_V → Option ρ
  | _v =>
  k0
noncomputable def forest_Move_l5_0 (G : forest_Move_G) {ρ : Type} (n : Nat) (p0 : Int) (p1 : Int) (k0 : (Option ρ)) (v : forest_Move_l5_0_V) : Option ρ := fuelN (forest_Move_l5_0_s G n p0 p1 k0) n v
def forest_Move_l5_0_enc (p0 : Int) (p1 : Int) : forest_Move_l5_0_V → St
  | _v => ⟨[(1, .i .i64 p0), (2, .i .i64 p1), (3, .ptr 0 1 1 0 0), (6, .ptr 1 1 1 0 0), (35, .lst true true 0 []), (36, .i .i64 0), (37, .i .i64 0)], [.row 1 true false [[.lst true true 0 []]], .row 1 true false [[.lst true true 0 []]]]⟩
abbrev forest_Move_l5_1_V : Type := Unit
noncomputable def forest_Move_l5_1_s (_G : forest_Move_G) {ρ : Type} (_n : Nat) (_p0 : Int) (_p1 : Int) (_p2 : Nat) (_p3 : Nat) (_p4 : Rows) (k0 : (Option ρ)) (_rec' : forest_Move_l5_1_V → Option ρ) : forest_Move_l5_1_V → Option ρ
  | _v =>
  k0
noncomputable def forest_Move_l5_1 (G : forest_Move_G) {ρ : Type} (n : Nat) (p0 : Int) (p1 : Int) (p2 : Nat) (p3 : Nat) (p4 : Rows) (k0 : (Option ρ)) (v : forest_Move_l5_1_V) : Option ρ := fuelN (forest_Move_l5_1_s G n p0 p1 p2 p3 p4 k0) n v
def forest_Move_l5_1_enc (p0 : Int) (p1 : Int) (p2 : Nat) (p3 : Nat) (p4 : Rows) : forest_Move_l5_1_V → St
  | _v => ⟨[(1, .i .i64 p0), (2, .i .i64 p1), (3, .ptr 0 1 1 0 0), (6, .ptr 1 1 1 0 0), (35, .lst true true 0 []), (36, .i .i64 0), (37, .i .i64 0)], [.row 1 false false [[.sl 2 p2 1 0 p3]], .row 1 true false [[.lst true true 0 []]], .row 1 true false p4]⟩
abbrev forest_Move_l5_2_V : Type := Unit
noncomputable def forest_Move_l5_2_s (_G : forest_Move_G) {ρ : Type} (_n : Nat) (_p0 : Int) (_p1 : Int) (p2 : Nat) (p3 : Nat) (p4 : Int) (_p5 : Nat) (p6 : Nat) (_p7 : Rows) (p8 : Rows) (k0 : (Option ρ)) (_rec' : forest_Move_l5_2_V → Option ρ) : forest_Move_l5_2_V → Option ρ
  | _v =>
  bif decide ((0 : Int) < p4) then
    chk (decide ((0 : Int) < ((p3 : Nat) : Int))) <|
    chk (((List.length (p8 : Rows)) : Nat) == p2) <|
    rowN [.i .i64] p8 0 fun c0 =>
    chk (decide ((0 : Int) ≤ c0.1)) <|
    chk (decide ((c0.1 : Int) < ((p6 : Nat) : Int))) <|
    none
  else k0
noncomputable def forest_Move_l5_2 (G : forest_Move_G) {ρ : Type} (n : Nat) (p0 : Int) (p1 : Int) (p2 : Nat) (p3 : Nat) (p4 : Int) (p5 : Nat) (p6 : Nat) (p7 : Rows) (p8 : Rows) (k0 : (Option ρ)) (v : forest_Move_l5_2_V) : Option ρ := fuelN (forest_Move_l5_2_s G n p0 p1 p2 p3 p4 p5 p6 p7 p8 k0) n v
def forest_Move_l5_2_enc (p0 : Int) (p1 : Int) (p2 : Nat) (p3 : Nat) (p4 : Int) (p5 : Nat) (p6 : Nat) (p7 : Rows) (p8 : Rows) : forest_Move_l5_2_V → St
  | _v => ⟨[(1, .i .i64 p0), (2, .i .i64 p1), (3, .ptr 0 1 1 0 0), (6, .ptr 1 1 1 0 0), (35, .sl 3 p2 1 0 p3), (36, .i .i64 p4), (37, .i .i64 0)], [.row 1 false false [[.sl 2 p5 1 0 p6]], .row 1 true false [[.lst true true 0 []]], .row 1 true true p7, .row 1 true false p8]⟩
abbrev forest_Move_l5_3_V : Type := Int × Rows
noncomputable def forest_Move_l5_3_s (_G : forest_Move_G) {ρ : Type} (_n : Nat) (_p0 : Int) (p1 : Int) (p2 : Nat) (p3 : Nat) (p4 : Int) (p5 : Nat) (p6 : Nat) (p8 : Rows) (k0 : (Rows → Option ρ)) (rec' : forest_Move_l5_3_V → Option ρ) : forest_Move_l5_3_V → Option ρ
  | v =>
  bif decide ((v.1 : Int) < p4) then
    chk (decide ((0 : Int) ≤ v.1)) <|
    chk (decide ((v.1 : Int) < ((p3 : Nat) : Int))) <|
    chk (((List.length (p8 : Rows)) : Nat) == p2) <|
    rowN [.i .i64] p8 (0 + v.1.toNat) fun c0 =>
    chk (decide ((0 : Int) ≤ c0.1)) <|
    chk (decide ((c0.1 : Int) < ((p6 : Nat) : Int))) <|
    chk (((List.length (v.2 : Rows)) : Nat) == p5) <|
    rowN [.a] v.2 (0 + c0.1.toNat) fun _c1 =>
    rec' ((IntKind.wrap .i64 (v.1 + 1)), (List.set (v.2 : Rows) (0 + c0.1.toNat) [.i .i64 p1]))
  else k0 v.2
noncomputable def forest_Move_l5_3 (G : forest_Move_G) {ρ : Type} (n : Nat) (p0 : Int) (p1 : Int) (p2 : Nat) (p3 : Nat) (p4 : Int) (p5 : Nat) (p6 : Nat) (p8 : Rows) (k0 : (Rows → Option ρ)) (v : forest_Move_l5_3_V) : Option ρ := fuelN (forest_Move_l5_3_s G n p0 p1 p2 p3 p4 p5 p6 p8 k0) n v
def forest_Move_l5_3_enc (p0 : Int) (p1 : Int) (p2 : Nat) (p3 : Nat) (p4 : Int) (p5 : Nat) (p6 : Nat) (p8 : Rows) : forest_Move_l5_3_V → St
  | v => ⟨[(1, .i .i64 p0), (2, .i .i64 p1), (3, .ptr 0 1 1 0 0), (6, .ptr 1 1 1 0 0), (35, .sl 3 p2 1 0 p3), (36, .i .i64 p4), (37, .i .i64 v.1)], [.row 1 false false [[.sl 2 p5 1 0 p6]], .row 1 true false [[.lst true true 0 []]], .row 1 true false v.2, .row 1 true false p8]⟩
noncomputable def forest_Move_s (G : forest_Move_G) {ρ : Type} (n : Nat) (a0 : Bool) (a1 : Bool) (a2 : Rows) (a3 : Int) (a4 : Int) (k0 : (Option ρ)) (k1 : (Nat → Nat → Rows → Option ρ)) : Option ρ :=
  G.forest_may ρ a0 a1 a2 a3 (fun w0_0 =>
    bif w0_0 then
      bif decide ((a4 : Int) < 0) then
        k0
      else bif decide ((a4 : Int) ≥ (((List.length (a2 : Rows)) : Nat) : Int)) then
        k0
      else G.forest_Forest_is ρ a0 a1 a2 a4 (fun w1_0 =>
        bif w1_0 then
          k0
        else G.forest_Forest_clone ρ a0 a1 a2 (G.forest_Forest_of_i1 ρ true true a3 (forest_Move_l5_0 G n a3 a4 (none) ())) (fun w5_0 w5_1 w5_2 =>
          chk (((List.length (w5_2 : Rows)) : Nat) == w5_0) <|
          G.forest_Forest_of ρ false false (List.take w5_1 (List.drop 0 (w5_2 : Rows))) a3 (forest_Move_l5_1 G n a3 a4 w5_0 w5_1 w5_2 (chk (decide ((0 : Int) ≤ a3)) <|
              chk (decide ((a3 : Int) < ((w5_1 : Nat) : Int))) <|
              chk (((List.length (w5_2 : Rows)) : Nat) == w5_0) <|
              rowN [.i .i64] w5_2 (0 + a3.toNat) fun c8 =>
              chk (decide ((0 : Int) ≤ a4)) <|
              chk (decide ((a4 : Int) < ((w5_1 : Nat) : Int))) <|
              chk (((List.length (w5_2 : Rows)) : Nat) == w5_0) <|
              rowN [.a] w5_2 (0 + a4.toNat) fun _c9 =>
              chk (decide ((0 : Int) ≤ a3)) <|
              chk (decide ((a3 : Int) < ((w5_1 : Nat) : Int))) <|
              chk (((List.length ((List.set (w5_2 : Rows) (0 + a4.toNat) [.i .i64 c8.1]) : Rows)) : Nat) == w5_0) <|
              rowN [.a] (List.set (w5_2 : Rows) (0 + a4.toNat) [.i .i64 c8.1]) (0 + a3.toNat) fun _c10 =>
              k1 w5_0 w5_1 (List.set ((List.set (w5_2 : Rows) (0 + a4.toNat) [.i .i64 c8.1]) : Rows) (0 + a3.toNat) [.i .i64 (-2)])) ()) (fun w11_0 w11_1 w11_2 =>
            bif stayR ⟨.sl 0 w11_0 1 0 w11_1, [.row 1 true false w11_2], []⟩ then
              forest_Move_l5_2 G n a3 a4 w11_0 w11_1 ((w11_1 : Nat) : Int) w5_0 w5_1 w5_2 w11_2 (chk (decide ((0 : Int) ≤ a3)) <|
              chk (decide ((a3 : Int) < ((w5_1 : Nat) : Int))) <|
              chk (((List.length (w5_2 : Rows)) : Nat) == w5_0) <|
              rowN [.i .i64] w5_2 (0 + a3.toNat) fun _c13 =>
              chk (decide ((0 : Int) ≤ a4)) <|
              chk (decide ((a4 : Int) < ((w5_1 : Nat) : Int))) <|
              none) ()
            else forest_Move_l5_3 G n a3 a4 w11_0 w11_1 ((w11_1 : Nat) : Int) w5_0 w5_1 w11_2 (fun w12_0 =>
              chk (decide ((0 : Int) ≤ a3)) <|
              chk (decide ((a3 : Int) < ((w5_1 : Nat) : Int))) <|
              chk (((List.length (w12_0 : Rows)) : Nat) == w5_0) <|
              rowN [.i .i64] w12_0 (0 + a3.toNat) fun c13 =>
              chk (decide ((0 : Int) ≤ a4)) <|
              chk (decide ((a4 : Int) < ((w5_1 : Nat) : Int))) <|
              chk (((List.length (w12_0 : Rows)) : Nat) == w5_0) <|
              rowN [.a] w12_0 (0 + a4.toNat) fun _c14 =>
              chk (decide ((0 : Int) ≤ a3)) <|
              chk (decide ((a3 : Int) < ((w5_1 : Nat) : Int))) <|
              chk (((List.length ((List.set (w12_0 : Rows) (0 + a4.toNat) [.i .i64 c13.1]) : Rows)) : Nat) == w5_0) <|
              rowN [.a] (List.set (w12_0 : Rows) (0 + a4.toNat) [.i .i64 c13.1]) (0 + a3.toNat) fun _c15 =>
              k1 w5_0 w5_1 (List.set ((List.set (w12_0 : Rows) (0 + a4.toNat) [.i .i64 c13.1]) : Rows) (0 + a3.toNat) [.i .i64 (-2)])) (0, w5_2))))
    else k0)
noncomputable def forest_Move_g (n : Nat) : forest_Move_G := ⟨forest_may n, forest_Forest_is n, forest_Forest_clone n, forest_Forest_of_i1 n, forest_Forest_of n⟩
noncomputable def forest_Move (n : Nat) : forest_Move_T := fun _ρ a0 a1 a2 a3 a4 k0 k1 => forest_Move_s (forest_Move_g n) n a0 a1 a2 a3 a4 k0 k1
noncomputable def forest_Move_e (n : Nat) : EK := forest_Move_E (forest_Move n)
def forest_Move_S (G : forest_Move_G) : CK := tabS [(56, forest_may_E G.forest_may), (65, forest_Forest_is_E G.forest_Forest_is), (110, forest_Forest_clone_E G.forest_Forest_clone), (109, altE [.agg [.lst none none 0 (some [])], .i .i64 none] (forest_Forest_of_i1_E G.forest_Forest_of_i1) (forest_Forest_of_E G.forest_Forest_of))]
theorem forest_Move_Sok (n : Nat) : CK.OK (forest_Move_S (forest_Move_g n)) (L tab) := tabS_ok _ (List.forall_mem_cons.2 ⟨(forest_may_ok n), List.forall_mem_cons.2 ⟨(forest_Forest_is_ok n), List.forall_mem_cons.2 ⟨(forest_Forest_clone_ok n), List.forall_mem_cons.2 ⟨altE_ok (forest_Forest_of_i1_ok n) ((forest_Forest_of_ok n)), (fun _ h => nomatch h)⟩⟩⟩⟩)
def forest_Move_hs : HintC := hintL [(54, [.i .i64]), (40, [.i .i64])]
def forest_Move_c5 : Nat × List Nat × List Nat × MC := loopAt 5 m99
noncomputable def forest_Move_l5_3_d (G : forest_Move_G) (n : Nat) : Go.Rv.LE := fun _ρ h K => decSt [(1, .i .i64 none), (2, .i .i64 none), (3, .ptr 0 1 0 (some 1) (some 0)), (6, .ptr 1 1 0 (some 1) (some 0)), (35, .sl 3 1 none (some 0) none), (36, .i .i64 none), (37, .i .i64 none)] [.row 1 false false (some [[.sl 2 1 none (some 0) none]]), .row 1 true false (some [[.lst (some true) (some true) 0 (some [])]]), .row 1 true false none, .row 1 true false none] h fun a b => forest_Move_l5_3 G n a.1 a.2.1 a.2.2.2.2.1.1 a.2.2.2.2.1.2.2 a.2.2.2.2.2.1 b.1.1.1.1 b.1.1.1.2.2 b.2.2.2.1 (fun w0 => K (.exit 0) ⟨[(1, .i .i64 a.1), (2, .i .i64 a.2.1), (3, .ptr 0 1 1 0 0), (6, .ptr 1 1 1 0 0)], [.row 1 false false [[.sl 2 b.1.1.1.1 1 0 b.1.1.1.2.2]], .row 1 true false [[.lst true true 0 []]], .row 1 true false w0, .row 1 true false b.2.2.2.1]⟩) (a.2.2.2.2.2.2.1, b.2.2.1)
noncomputable def forest_Move_l5_2_d (G : forest_Move_G) (n : Nat) : Go.Rv.LE := fun _ρ h K => decSt [(1, .i .i64 none), (2, .i .i64 none), (3, .ptr 0 1 0 (some 1) (some 0)), (6, .ptr 1 1 0 (some 1) (some 0)), (35, .sl 3 1 none (some 0) none), (36, .i .i64 none), (37, .i .i64 (some 0))] [.row 1 false false (some [[.sl 2 1 none (some 0) none]]), .row 1 true false (some [[.lst (some true) (some true) 0 (some [])]]), .row 1 true true none, .row 1 true false none] h fun a b => forest_Move_l5_2 G n a.1 a.2.1 a.2.2.2.2.1.1 a.2.2.2.2.1.2.2 a.2.2.2.2.2.1 b.1.1.1.1 b.1.1.1.2.2 b.2.2.1 b.2.2.2.1 (K (.exit 0) ⟨[(1, .i .i64 a.1), (2, .i .i64 a.2.1), (3, .ptr 0 1 1 0 0), (6, .ptr 1 1 1 0 0)], [.row 1 false false [[.sl 2 b.1.1.1.1 1 0 b.1.1.1.2.2]], .row 1 true false [[.lst true true 0 []]], .row 1 true true b.2.2.1, .row 1 true false b.2.2.2.1]⟩) ()
noncomputable def forest_Move_l5_1_d (G : forest_Move_G) (n : Nat) : Go.Rv.LE := fun _ρ h K => decSt [(1, .i .i64 none), (2, .i .i64 none), (3, .ptr 0 1 0 (some 1) (some 0)), (6, .ptr 1 1 0 (some 1) (some 0)), (35, .lst (some true) (some true) 0 (some [])), (36, .i .i64 (some 0)), (37, .i .i64 (some 0))] [.row 1 false false (some [[.sl 2 1 none (some 0) none]]), .row 1 true false (some [[.lst (some true) (some true) 0 (some [])]]), .row 1 true false none] h fun a b => forest_Move_l5_1 G n a.1 a.2.1 b.1.1.1.1 b.1.1.1.2.2 b.2.2.1 (K (.exit 0) ⟨[(1, .i .i64 a.1), (2, .i .i64 a.2.1), (3, .ptr 0 1 1 0 0), (6, .ptr 1 1 1 0 0)], [.row 1 false false [[.sl 2 b.1.1.1.1 1 0 b.1.1.1.2.2]], .row 1 true false [[.lst true true 0 []]], .row 1 true false b.2.2.1]⟩) ()
noncomputable def forest_Move_l5_0_d (G : forest_Move_G) (n : Nat) : Go.Rv.LE := fun _ρ h K => decSt [(1, .i .i64 none), (2, .i .i64 none), (3, .ptr 0 1 0 (some 1) (some 0)), (6, .ptr 1 1 0 (some 1) (some 0)), (35, .lst (some true) (some true) 0 (some [])), (36, .i .i64 (some 0)), (37, .i .i64 (some 0))] [.row 1 true false (some [[.lst (some true) (some true) 0 (some [])]]), .row 1 true false (some [[.lst (some true) (some true) 0 (some [])]])] h fun a _b => forest_Move_l5_0 G n a.1 a.2.1 (K (.exit 0) ⟨[(1, .i .i64 a.1), (2, .i .i64 a.2.1), (3, .ptr 0 1 1 0 0), (6, .ptr 1 1 1 0 0)], [.row 1 true false [[.lst true true 0 []]], .row 1 true false [[.lst true true 0 []]]]⟩) ()
noncomputable def forest_Move_d5 (G : forest_Move_G) (n : Nat) : Go.Rv.LE := altL [(1, .i .i64 none), (2, .i .i64 none), (3, .ptr 0 1 0 (some 1) (some 0)), (6, .ptr 1 1 0 (some 1) (some 0)), (35, .sl 3 1 none (some 0) none), (36, .i .i64 none), (37, .i .i64 none)] [.row 1 false false (some [[.sl 2 1 none (some 0) none]]), .row 1 true false (some [[.lst (some true) (some true) 0 (some [])]]), .row 1 true false none, .row 1 true false none] (forest_Move_l5_3_d G n) (altL [(1, .i .i64 none), (2, .i .i64 none), (3, .ptr 0 1 0 (some 1) (some 0)), (6, .ptr 1 1 0 (some 1) (some 0)), (35, .sl 3 1 none (some 0) none), (36, .i .i64 none), (37, .i .i64 (some 0))] [.row 1 false false (some [[.sl 2 1 none (some 0) none]]), .row 1 true false (some [[.lst (some true) (some true) 0 (some [])]]), .row 1 true true none, .row 1 true false none] (forest_Move_l5_2_d G n) (altL [(1, .i .i64 none), (2, .i .i64 none), (3, .ptr 0 1 0 (some 1) (some 0)), (6, .ptr 1 1 0 (some 1) (some 0)), (35, .lst (some true) (some true) 0 (some [])), (36, .i .i64 (some 0)), (37, .i .i64 (some 0))] [.row 1 false false (some [[.sl 2 1 none (some 0) none]]), .row 1 true false (some [[.lst (some true) (some true) 0 (some [])]]), .row 1 true false none] (forest_Move_l5_1_d G n) (forest_Move_l5_0_d G n)))
noncomputable def forest_Move_lp (G : forest_Move_G) (n : Nat) : LK := tabL [(5, forest_Move_d5 G n)]
theorem forest_Move_l5_3_k (G : forest_Move_G) {ρ : Type} (n : Nat) (p0 : Int) (p1 : Int) (p2 : Nat) (p3 : Nat) (p4 : Int) (p5 : Nat) (p6 : Nat) (p8 : Rows) (K : Ex → St → Option ρ) (N : St → Option ρ) : ∀ v, roundC (forest_Move_S G) forest_Move_hs (forest_Move_lp G n) forest_Move_c5 4 N K (forest_Move_l5_3_enc p0 p1 p2 p3 p4 p5 p6 p8 v) = forest_Move_l5_3_s G n p0 p1 p2 p3 p4 p5 p6 p8 (fun w0 => K (.exit 0) ⟨[(1, .i .i64 p0), (2, .i .i64 p1), (3, .ptr 0 1 1 0 0), (6, .ptr 1 1 1 0 0)], [.row 1 false false [[.sl 2 p5 1 0 p6]], .row 1 true false [[.lst true true 0 []]], .row 1 true false w0, .row 1 true false p8]⟩) (fun v => N (forest_Move_l5_3_enc p0 p1 p2 p3 p4 p5 p6 p8 v)) v
  | v => by kernel_rfl
theorem forest_Move_l5_3_dok (n : Nat) : LE.OK (forest_Move_l5_3_d (forest_Move_g n) n) (L tab) forest_Move_c5 := LE.shp (fun _ _ _ => rfl) fun ρ K y a b e => LE.rounds (forest_Move_Sok n) (LK.of (l := []) (by kernel_rfl) ((fun _ h => nomatch h))) (forest_Move_l5_3_k (forest_Move_g n) n _ _ _ _ _ _ _ _ K) (by kernel_rfl) (by kernel_rfl) e
theorem forest_Move_l5_2_k (G : forest_Move_G) {ρ : Type} (n : Nat) (p0 : Int) (p1 : Int) (p2 : Nat) (p3 : Nat) (p4 : Int) (p5 : Nat) (p6 : Nat) (p7 : Rows) (p8 : Rows) (K : Ex → St → Option ρ) (N : St → Option ρ) : ∀ v, roundC (forest_Move_S G) forest_Move_hs (forest_Move_lp G n) forest_Move_c5 4 N K (forest_Move_l5_2_enc p0 p1 p2 p3 p4 p5 p6 p7 p8 v) = forest_Move_l5_2_s G n p0 p1 p2 p3 p4 p5 p6 p7 p8 (K (.exit 0) ⟨[(1, .i .i64 p0), (2, .i .i64 p1), (3, .ptr 0 1 1 0 0), (6, .ptr 1 1 1 0 0)], [.row 1 false false [[.sl 2 p5 1 0 p6]], .row 1 true false [[.lst true true 0 []]], .row 1 true true p7, .row 1 true false p8]⟩) (fun v => N (forest_Move_l5_2_enc p0 p1 p2 p3 p4 p5 p6 p7 p8 v)) v
  | v => by kernel_rfl
theorem forest_Move_l5_2_dok (n : Nat) : LE.OK (forest_Move_l5_2_d (forest_Move_g n) n) (L tab) forest_Move_c5 := LE.shp (fun _ _ _ => rfl) fun ρ K y a b e => LE.rounds (forest_Move_Sok n) (LK.of (l := []) (by kernel_rfl) ((fun _ h => nomatch h))) (forest_Move_l5_2_k (forest_Move_g n) n _ _ _ _ _ _ _ _ _ K) (by kernel_rfl) (by kernel_rfl) e
theorem forest_Move_l5_1_k (G : forest_Move_G) {ρ : Type} (n : Nat) (p0 : Int) (p1 : Int) (p2 : Nat) (p3 : Nat) (p4 : Rows) (K : Ex → St → Option ρ) (N : St → Option ρ) : ∀ v, roundC (forest_Move_S G) forest_Move_hs (forest_Move_lp G n) forest_Move_c5 3 N K (forest_Move_l5_1_enc p0 p1 p2 p3 p4 v) = forest_Move_l5_1_s G n p0 p1 p2 p3 p4 (K (.exit 0) ⟨[(1, .i .i64 p0), (2, .i .i64 p1), (3, .ptr 0 1 1 0 0), (6, .ptr 1 1 1 0 0)], [.row 1 false false [[.sl 2 p2 1 0 p3]], .row 1 true false [[.lst true true 0 []]], .row 1 true false p4]⟩) (fun v => N (forest_Move_l5_1_enc p0 p1 p2 p3 p4 v)) v
  | v => by kernel_rfl
theorem forest_Move_l5_1_dok (n : Nat) : LE.OK (forest_Move_l5_1_d (forest_Move_g n) n) (L tab) forest_Move_c5 := LE.shp (fun _ _ _ => rfl) fun ρ K y a b e => LE.rounds (forest_Move_Sok n) (LK.of (l := []) (by kernel_rfl) ((fun _ h => nomatch h))) (forest_Move_l5_1_k (forest_Move_g n) n _ _ _ _ _ K) (by kernel_rfl) (by kernel_rfl) e
theorem forest_Move_l5_0_k (G : forest_Move_G) {ρ : Type} (n : Nat) (p0 : Int) (p1 : Int) (K : Ex → St → Option ρ) (N : St → Option ρ) : ∀ v, roundC (forest_Move_S G) forest_Move_hs (forest_Move_lp G n) forest_Move_c5 2 N K (forest_Move_l5_0_enc p0 p1 v) = forest_Move_l5_0_s G n p0 p1 (K (.exit 0) ⟨[(1, .i .i64 p0), (2, .i .i64 p1), (3, .ptr 0 1 1 0 0), (6, .ptr 1 1 1 0 0)], [.row 1 true false [[.lst true true 0 []]], .row 1 true false [[.lst true true 0 []]]]⟩) (fun v => N (forest_Move_l5_0_enc p0 p1 v)) v
  | v => by kernel_rfl
theorem forest_Move_l5_0_dok (n : Nat) : LE.OK (forest_Move_l5_0_d (forest_Move_g n) n) (L tab) forest_Move_c5 := LE.shp (fun _ _ _ => rfl) fun ρ K y a b e => LE.rounds (forest_Move_Sok n) (LK.of (l := []) (by kernel_rfl) ((fun _ h => nomatch h))) (forest_Move_l5_0_k (forest_Move_g n) n _ _ K) (by kernel_rfl) (by kernel_rfl) e
theorem forest_Move_d5_ok (n : Nat) : LE.OK (forest_Move_d5 (forest_Move_g n) n) (L tab) forest_Move_c5 := altL_ok (forest_Move_l5_3_dok n) (altL_ok (forest_Move_l5_2_dok n) (altL_ok (forest_Move_l5_1_dok n) (forest_Move_l5_0_dok n)))
theorem forest_Move_k (G : forest_Move_G) {ρ : Type} (n : Nat) (a0 : Bool) (a1 : Bool) (a2 : Rows) (a3 : Int) (a4 : Int) (K : Res → Option ρ) : runC (forest_Move_S G) forest_Move_hs (forest_Move_lp G n) m99 [.agg [.lst a0 a1 1 a2], .i .i64 a3, .i .i64 a4] K = forest_Move_s G n a0 a1 a2 a3 a4 (K ⟨.tup [.agg [.lst true true 0 []], .b false], [], []⟩) (fun w0 w1 w2 => K ⟨.tup [.agg [.sl 0 w0 1 0 w1], .b true], [.row 1 true false w2], []⟩) := by kernel_rfl
theorem forest_Move_ok (n : Nat) : EK.OK (forest_Move_e n) 99 (L tab) := EK.shp (fun _ _ _ => rfl) fun ρ K y c e => EK.run (forest_Move_Sok n) (by kernel_rfl) (MF.LKOK.of (LK.of (l := [forest_Move_c5]) (by kernel_rfl) (List.forall_mem_cons.2 ⟨LE.at (e := forest_Move_d5 (forest_Move_g n) n) (by kernel_rfl) (forest_Move_d5_ok n), (fun _ h => nomatch h)⟩))) (forest_Move_k (forest_Move_g n) n _ _ _ _ _ K) (by kernel_rfl) e

end Go.Rv
