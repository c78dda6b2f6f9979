/- functions as programs of ours, and their ties, part 2 -/
import Derived.Test.YtbmobnjhdealiaaGreatNa
import Derived.KernelRfl
noncomputable section
namespace Go.Rv
abbrev Q1_T : Type 1 := (ρ : Type) → Bool → Bool → Rows → (Bool → Option ρ) → Option ρ
def Q1_E (G : Q1_T) : EK := fun ρ args K => decL [.agg [.lst none none 1 none]] args fun c => G ρ c.1.1.1 c.1.1.2.1 c.1.1.2.2 (fun w0 => K ⟨.b w0, [], []⟩)
structure Q1_G where
 mk ::
 forest_Forest_is : forest_Forest_is_T
abbrev Q1_l4_V : Type := Int
def Q1_l4_s (G : Q1_G) {ρ : Type} (_n : Nat) (_p0 _p1 : Bool) (p2 : Rows) (p3 : Int) (p4 p5 : Bool) (p6 : Rows) (k0 : (Option ρ)) (k1 : (Option ρ)) (rec' : Q1_l4_V → Option ρ) : Q1_l4_V → Option ρ
 | v =>
 bif decide ((v : Int) < p3) then
 rowT [.i .i64] p2 v fun c0 =>
 bif ((c0.1 : Int) != (-2)) then
 bif ((c0.1 : Int) != (-1)) then
 G.forest_Forest_is ρ p4 p5 p6 c0.1 (fun w1_0 =>
 bif w1_0 then
 rec' ((IntKind.wrap .i64 (v + 1)))
 else k0)
 else rec' ((IntKind.wrap .i64 (v + 1)))
 else rec' ((IntKind.wrap .i64 (v + 1)))
 else k1
def Q1_l4 (G : Q1_G) {ρ : Type} (n : Nat) (p0 p1 : Bool) (p2 : Rows) (p3 : Int) (p4 p5 : Bool) (p6 : Rows) (k0 : (Option ρ)) (k1 : (Option ρ)) (v : Q1_l4_V) : Option ρ := fuelN (Q1_l4_s G n p0 p1 p2 p3 p4 p5 p6 k0 k1) n v
def Q1_l4_enc (p0 p1 : Bool) (p2 : Rows) (p3 : Int) (p4 p5 : Bool) (p6 : Rows) : Q1_l4_V → St
 | v => ⟨[(1, .ptr 0 1 1 0 0), (13, .lst p0 p1 1 p2), (14, .i .i64 p3), (15, .i .i64 v)], [.row 1 true false [[.lst p4 p5 1 p6]]]⟩
abbrev Q1_l14_V : Type := Int × Int
def Q1_l14_s (G : Q1_G) {ρ : Type} (_n : Nat) (_p1 _p2 : Int) (p3 p4 : Bool) (p5 : Rows) (k0 : (Option ρ)) (k1 : (Option ρ)) (rec' : Q1_l14_V → Option ρ) : Q1_l14_V → Option ρ
 | v =>
 G.forest_Forest_is ρ p3 p4 p5 v.2 (fun w0_0 =>
 bif w0_0 then
 bif decide ((v.1 : Int) > (((List.length (p5 : Rows)) : Nat) : Int)) then
 k0
 else rowT [.i .i64] p5 v.2 fun c1 =>
 rec' ((IntKind.wrap .i64 (v.1 + 1)), c1.1)
 else k1)
def Q1_l14 (G : Q1_G) {ρ : Type} (n : Nat) (p1 p2 : Int) (p3 p4 : Bool) (p5 : Rows) (k0 : (Option ρ)) (k1 : (Option ρ)) (v : Q1_l14_V) : Option ρ := fuelN (Q1_l14_s G n p1 p2 p3 p4 p5 k0 k1) n v
def Q1_l14_enc (p1 p2 : Int) (p3 p4 : Bool) (p5 : Rows) : Q1_l14_V → St
 | v => ⟨[(1, .ptr 0 1 1 0 0), (6, .i .i64 v.1), (7, .i .i64 v.2), (34, .i .i64 p1), (35, .i .i64 p2)], [.row 1 true false [[.lst p3 p4 1 p5]]]⟩
abbrev Q1_l10_V : Type := Int
def Q1_l10_s (G : Q1_G) {ρ : Type} (n : Nat) (p0 : Int) (p1 p2 : Bool) (p3 : Rows) (k0 : (Option ρ)) (k1 : (Option ρ)) (rec' : Q1_l10_V → Option ρ) : Q1_l10_V → Option ρ
 | v =>
 bif decide ((v : Int) < p0) then
 Q1_l14 G n p0 v p1 p2 p3 (k0) (rec' ((IntKind.wrap .i64 (v + 1)))) (0, v)
 else k1
def Q1_l10 (G : Q1_G) {ρ : Type} (n : Nat) (p0 : Int) (p1 p2 : Bool) (p3 : Rows) (k0 : (Option ρ)) (k1 : (Option ρ)) (v : Q1_l10_V) : Option ρ := fuelN (Q1_l10_s G n p0 p1 p2 p3 k0 k1) n v
def Q1_l10_enc (p0 : Int) (p1 p2 : Bool) (p3 : Rows) : Q1_l10_V → St
 | v => ⟨[(1, .ptr 0 1 1 0 0), (34, .i .i64 p0), (35, .i .i64 v)], [.row 1 true false [[.lst p1 p2 1 p3]]]⟩
def Q1_s (G : Q1_G) {ρ : Type} (n : Nat) (a0 a1 : Bool) (a2 : Rows) (k0 : (Bool → Option ρ)) : Option ρ :=
 bif decide (((((List.length (a2 : Rows)) : Nat) : Int) : Int) > 96) then
 k0 false
 else Q1_l4 G n a0 a1 a2 (((List.length (a2 : Rows)) : Nat) : Int) a0 a1 a2 (k0 false) (Q1_l10 G n (((List.length (a2 : Rows)) : Nat) : Int) a0 a1 a2 (k0 false) (k0 true) (0)) (0)
def Q1_g (n : Nat) : Q1_G := ⟨forest_Forest_is n⟩
def Q1 (n : Nat) : Q1_T := fun _ρ a0 a1 a2 k0 => Q1_s (Q1_g n) n a0 a1 a2 k0
def Q1_e (n : Nat) : EK := Q1_E (Q1 n)
def Q1_S (G : Q1_G) : CK := tabS [(50, forest_Forest_is_E G.forest_Forest_is)]
theorem Q1_Sok (n : Nat) : CK.OK (Q1_S (Q1_g n)) (L tab) := tabS_ok _ (List.forall_mem_cons.2 ⟨(forest_Forest_is_ok n), (fun _ h => nomatch h)⟩)
def Q1_hs : HintC := hintL [(17, [.i .i64]), (45, [.i .i64])]
def Q1_c4 : Nat × List Nat × List Nat × MC := loopAt 4 m24
def Q1_l4_d (G : Q1_G) (n : Nat) : Go.Rv.LE := fun _ρ h K => decSt [(1, .ptr 0 1 0 (some 1) (some 0)), (13, .lst none none 1 none), (14, .i .i64 none), (15, .i .i64 none)] [.row 1 true false (some [[.lst none none 1 none]])] h fun a b => Q1_l4 G n a.2.1.1 a.2.1.2.1 a.2.1.2.2 a.2.2.1 b.1.1.1.1 b.1.1.1.2.1 b.1.1.1.2.2 (K .ret ⟨[(1, .ptr 0 1 1 0 0), (2, .b false)], [.row 1 true false [[.lst b.1.1.1.1 b.1.1.1.2.1 1 b.1.1.1.2.2]]]⟩) (K (.exit 0) ⟨[(1, .ptr 0 1 1 0 0), (2, .u)], [.row 1 true false [[.lst b.1.1.1.1 b.1.1.1.2.1 1 b.1.1.1.2.2]]]⟩) (a.2.2.2.1)
def Q1_d4 (G : Q1_G) (n : Nat) : Go.Rv.LE := Q1_l4_d G n
def Q1_c14 : Nat × List Nat × List Nat × MC := loopAt 14 m24
def Q1_l14_d (G : Q1_G) (n : Nat) : Go.Rv.LE := fun _ρ h K => decSt [(1, .ptr 0 1 0 (some 1) (some 0)), (6, .i .i64 none), (7, .i .i64 none), (34, .i .i64 none), (35, .i .i64 none)] [.row 1 true false (some [[.lst none none 1 none]])] h fun a b => Q1_l14 G n a.2.2.2.1 a.2.2.2.2.1 b.1.1.1.1 b.1.1.1.2.1 b.1.1.1.2.2 (K .ret ⟨[(1, .ptr 0 1 1 0 0), (2, .b false), (34, .i .i64 a.2.2.2.1), (35, .i .i64 a.2.2.2.2.1)], [.row 1 true false [[.lst b.1.1.1.1 b.1.1.1.2.1 1 b.1.1.1.2.2]]]⟩) (K (.exit 4) ⟨[(1, .ptr 0 1 1 0 0), (2, .u), (34, .i .i64 a.2.2.2.1), (35, .i .i64 a.2.2.2.2.1)], [.row 1 true false [[.lst b.1.1.1.1 b.1.1.1.2.1 1 b.1.1.1.2.2]]]⟩) (a.2.1, a.2.2.1)
def Q1_d14 (G : Q1_G) (n : Nat) : Go.Rv.LE := Q1_l14_d G n
def Q1_c10 : Nat × List Nat × List Nat × MC := loopAt 10 m24
def Q1_l10_d (G : Q1_G) (n : Nat) : Go.Rv.LE := fun _ρ h K => decSt [(1, .ptr 0 1 0 (some 1) (some 0)), (34, .i .i64 none), (35, .i .i64 none)] [.row 1 true false (some [[.lst none none 1 none]])] h fun a b => Q1_l10 G n a.2.1 b.1.1.1.1 b.1.1.1.2.1 b.1.1.1.2.2 (K .ret ⟨[(2, .b false)], [.row 1 true false [[.lst b.1.1.1.1 b.1.1.1.2.1 1 b.1.1.1.2.2]]]⟩) (K (.exit 2) ⟨[(2, .u)], [.row 1 true false [[.lst b.1.1.1.1 b.1.1.1.2.1 1 b.1.1.1.2.2]]]⟩) (a.2.2.1)
def Q1_d10 (G : Q1_G) (n : Nat) : Go.Rv.LE := Q1_l10_d G n
def Q1_lp (G : Q1_G) (n : Nat) : LK := tabL [(4, Q1_d4 G n), (14, Q1_d14 G n), (10, Q1_d10 G n)]
theorem Q1_l4_k (G : Q1_G) {ρ : Type} (n : Nat) (p0 p1 : Bool) (p2 : Rows) (p3 : Int) (p4 p5 : Bool) (p6 : Rows) (K : Ex → St → Option ρ) (N : St → Option ρ) : ∀ v, roundC (Q1_S G) Q1_hs (Q1_lp G n) Q1_c4 1 N K (Q1_l4_enc p0 p1 p2 p3 p4 p5 p6 v) = Q1_l4_s G n p0 p1 p2 p3 p4 p5 p6 (K .ret ⟨[(1, .ptr 0 1 1 0 0), (2, .b false)], [.row 1 true false [[.lst p4 p5 1 p6]]]⟩) (K (.exit 0) ⟨[(1, .ptr 0 1 1 0 0), (2, .u)], [.row 1 true false [[.lst p4 p5 1 p6]]]⟩) (fun v => N (Q1_l4_enc p0 p1 p2 p3 p4 p5 p6 v)) v
 | v => by kernel_rfl
theorem Q1_l4_dok (n : Nat) : LE.OK (Q1_l4_d (Q1_g n) n) (L tab) Q1_c4 := LE.shp (fun _ _ _ => rfl) fun ρ K y a b e => LE.rounds (Q1_Sok n) (LK.of (l := []) (by kernel_rfl) ((fun _ h => nomatch h))) (Q1_l4_k (Q1_g n) n _ _ _ _ _ _ _ K) (by kernel_rfl) (by kernel_rfl) e
theorem Q1_d4_ok (n : Nat) : LE.OK (Q1_d4 (Q1_g n) n) (L tab) Q1_c4 := Q1_l4_dok n
theorem Q1_l14_k (G : Q1_G) {ρ : Type} (n : Nat) (p1 p2 : Int) (p3 p4 : Bool) (p5 : Rows) (K : Ex → St → Option ρ) (N : St → Option ρ) : ∀ v, roundC (Q1_S G) Q1_hs (Q1_lp G n) Q1_c14 1 N K (Q1_l14_enc p1 p2 p3 p4 p5 v) = Q1_l14_s G n p1 p2 p3 p4 p5 (K .ret ⟨[(1, .ptr 0 1 1 0 0), (2, .b false), (34, .i .i64 p1), (35, .i .i64 p2)], [.row 1 true false [[.lst p3 p4 1 p5]]]⟩) (K (.exit 4) ⟨[(1, .ptr 0 1 1 0 0), (2, .u), (34, .i .i64 p1), (35, .i .i64 p2)], [.row 1 true false [[.lst p3 p4 1 p5]]]⟩) (fun v => N (Q1_l14_enc p1 p2 p3 p4 p5 v)) v
 | v => by kernel_rfl
theorem Q1_l14_dok (n : Nat) : LE.OK (Q1_l14_d (Q1_g n) n) (L tab) Q1_c14 := LE.shp (fun _ _ _ => rfl) fun ρ K y a b e => LE.rounds (Q1_Sok n) (LK.of (l := []) (by kernel_rfl) ((fun _ h => nomatch h))) (Q1_l14_k (Q1_g n) n _ _ _ _ _ K) (by kernel_rfl) (by kernel_rfl) e
theorem Q1_d14_ok (n : Nat) : LE.OK (Q1_d14 (Q1_g n) n) (L tab) Q1_c14 := Q1_l14_dok n
theorem Q1_l10_k (G : Q1_G) {ρ : Type} (n : Nat) (p0 : Int) (p1 p2 : Bool) (p3 : Rows) (K : Ex → St → Option ρ) (N : St → Option ρ) : ∀ v, roundC (Q1_S G) Q1_hs (Q1_lp G n) Q1_c10 1 N K (Q1_l10_enc p0 p1 p2 p3 v) = Q1_l10_s G n p0 p1 p2 p3 (K .ret ⟨[(2, .b false)], [.row 1 true false [[.lst p1 p2 1 p3]]]⟩) (K (.exit 2) ⟨[(2, .u)], [.row 1 true false [[.lst p1 p2 1 p3]]]⟩) (fun v => N (Q1_l10_enc p0 p1 p2 p3 v)) v
 | v => by kernel_rfl
theorem Q1_l10_dok (n : Nat) : LE.OK (Q1_l10_d (Q1_g n) n) (L tab) Q1_c10 := LE.shp (fun _ _ _ => rfl) fun ρ K y a b e => LE.rounds (Q1_Sok n) (LK.of (l := [Q1_c14]) (by kernel_rfl) (List.forall_mem_cons.2 ⟨LE.at (e := Q1_d14 (Q1_g n) n) (by kernel_rfl) (Q1_d14_ok n), (fun _ h => nomatch h)⟩)) (Q1_l10_k (Q1_g n) n _ _ _ _ K) (by kernel_rfl) (by kernel_rfl) e
theorem Q1_d10_ok (n : Nat) : LE.OK (Q1_d10 (Q1_g n) n) (L tab) Q1_c10 := Q1_l10_dok n
theorem Q1_k (G : Q1_G) {ρ : Type} (n : Nat) (a0 a1 : Bool) (a2 : Rows) (K : Res → Option ρ) : runC (Q1_S G) Q1_hs (Q1_lp G n) m24 [.agg [.lst a0 a1 1 a2]] K = Q1_s G n a0 a1 a2 (fun w0 => K ⟨.b w0, [], []⟩) := by kernel_rfl
theorem Q1_ok (n : Nat) : EK.OK (Q1_e n) 24 (L tab) := EK.shp (fun _ _ _ => rfl) fun ρ K y c e => EK.run (Q1_Sok n) (by kernel_rfl) (MF.LKOK.of (LK.of (l := [Q1_c4, Q1_c10]) (by kernel_rfl) (List.forall_mem_cons.2 ⟨LE.at (e := Q1_d4 (Q1_g n) n) (by kernel_rfl) (Q1_d4_ok n), List.forall_mem_cons.2 ⟨LE.at (e := Q1_d10 (Q1_g n) n) (by kernel_rfl) (Q1_d10_ok n), (fun _ h => nomatch h)⟩⟩))) (Q1_k (Q1_g n) n _ _ _ K) (by kernel_rfl) e
abbrev Q03_T : Type 1 := (ρ : Type) → Int → (Int → Option ρ) → Option ρ
def Q03_E (G : Q03_T) : EK := fun ρ args K => decL [.i .i64 none] args fun c => G ρ c.1 (fun w0 => K ⟨.i .i64 w0, [], []⟩)
structure Q03_G where
 mk ::
 right_Good : right_Good_T
def Q03_s (G : Q03_G) {ρ : Type} (_n : Nat) (a0 : Int) (k0 : (Int → Option ρ)) : Option ρ :=
 G.right_Good ρ a0 (fun w0_0 =>
 bif w0_0 then
 k0 a0
 else k0 0)
def Q03_g (n : Nat) : Q03_G := ⟨right_Good n⟩
def Q03 (n : Nat) : Q03_T := fun _ρ a0 k0 => Q03_s (Q03_g n) n a0 k0
def Q03_e (n : Nat) : EK := Q03_E (Q03 n)
def Q03_S (G : Q03_G) : CK := tabS [(70, right_Good_E G.right_Good)]
theorem Q03_Sok (n : Nat) : CK.OK (Q03_S (Q03_g n)) (L tab) := tabS_ok _ (List.forall_mem_cons.2 ⟨(right_Good_ok n), (fun _ h => nomatch h)⟩)
def Q03_hs : HintC := hintL []
def Q03_lp (_G : Q03_G) (_n : Nat) : LK := tabL []
theorem Q03_k (G : Q03_G) {ρ : Type} (n : Nat) (a0 : Int) (K : Res → Option ρ) : runC (Q03_S G) Q03_hs (Q03_lp G n) m87 [.i .i64 a0] K = Q03_s G n a0 (fun w0 => K ⟨.i .i64 w0, [], []⟩) := by kernel_rfl
theorem Q03_ok (n : Nat) : EK.OK (Q03_e n) 87 (L tab) := EK.shp (fun _ _ _ => rfl) fun ρ K y c e => EK.run (Q03_Sok n) (by kernel_rfl) (MF.LKOK.of (LK.of (l := []) (by kernel_rfl) ((fun _ h => nomatch h)))) (Q03_k (Q03_g n) n _ K) (by kernel_rfl) e
abbrev Q0d_T : Type 1 := (ρ : Type) → Int → Int → (Int → Option ρ) → Option ρ
def Q0d_E (G : Q0d_T) : EK := fun ρ args K => decL [.i .i64 none, .i .i64 none] args fun c => G ρ c.1 c.2.1 (fun w0 => K ⟨.i .i64 w0, [], []⟩)
structure Q0d_G where
 mk ::
 Q03 : Q03_T
def Q0d_s (G : Q0d_G) {ρ : Type} (_n : Nat) (a0 a1 : Int) (k0 : (Int → Option ρ)) : Option ρ :=
 G.Q03 ρ a0 (fun w0_0 =>
 G.Q03 ρ a1 (fun w1_0 =>
 k0 (IntKind.wrap .i64 (BitVec.ofInt (IntKind.bits .i64) w0_0 &&& ~~~ BitVec.ofInt (IntKind.bits .i64) w1_0).toNat)))
def Q0d_g (n : Nat) : Q0d_G := ⟨Q03 n⟩
def Q0d (n : Nat) : Q0d_T := fun _ρ a0 a1 k0 => Q0d_s (Q0d_g n) n a0 a1 k0
def Q0d_e (n : Nat) : EK := Q0d_E (Q0d n)
def Q0d_S (G : Q0d_G) : CK := tabS [(87, Q03_E G.Q03)]
theorem Q0d_Sok (n : Nat) : CK.OK (Q0d_S (Q0d_g n)) (L tab) := tabS_ok _ (List.forall_mem_cons.2 ⟨(Q03_ok n), (fun _ h => nomatch h)⟩)
def Q0d_hs : HintC := hintL []
def Q0d_lp (_G : Q0d_G) (_n : Nat) : LK := tabL []
theorem Q0d_k (G : Q0d_G) {ρ : Type} (n : Nat) (a0 a1 : Int) (K : Res → Option ρ) : runC (Q0d_S G) Q0d_hs (Q0d_lp G n) m57 [.i .i64 a0, .i .i64 a1] K = Q0d_s G n a0 a1 (fun w0 => K ⟨.i .i64 w0, [], []⟩) := by kernel_rfl
theorem Q0d_ok (n : Nat) : EK.OK (Q0d_e n) 57 (L tab) := EK.shp (fun _ _ _ => rfl) fun ρ K y c e => EK.run (Q0d_Sok n) (by kernel_rfl) (MF.LKOK.of (LK.of (l := []) (by kernel_rfl) ((fun _ h => nomatch h)))) (Q0d_k (Q0d_g n) n _ _ K) (by kernel_rfl) e
abbrev Qu_T : Type 1 := (ρ : Type) → Int → Int → (Bool → Option ρ) → Option ρ
def Qu_E (G : Qu_T) : EK := fun ρ args K => decL [.i .i64 none, .i .i64 none] args fun c => G ρ c.1 c.2.1 (fun w0 => K ⟨.b w0, [], []⟩)
structure Qu_G where
 mk ::
 Q0d : Q0d_T
def Qu_s (G : Qu_G) {ρ : Type} (_n : Nat) (a0 a1 : Int) (k0 : (Bool → Option ρ)) : Option ρ :=
 G.Q0d ρ a0 a1 (fun w0_0 =>
 bif ((w0_0 : Int) == 0) then
 k0 true
 else k0 false)
def Qu_g (n : Nat) : Qu_G := ⟨Q0d n⟩
def Qu (n : Nat) : Qu_T := fun _ρ a0 a1 k0 => Qu_s (Qu_g n) n a0 a1 k0
def Qu_e (n : Nat) : EK := Qu_E (Qu n)
def Qu_S (G : Qu_G) : CK := tabS [(57, Q0d_E G.Q0d)]
theorem Qu_Sok (n : Nat) : CK.OK (Qu_S (Qu_g n)) (L tab) := tabS_ok _ (List.forall_mem_cons.2 ⟨(Q0d_ok n), (fun _ h => nomatch h)⟩)
def Qu_hs : HintC := hintL []
def Qu_lp (_G : Qu_G) (_n : Nat) : LK := tabL []
theorem Qu_k (G : Qu_G) {ρ : Type} (n : Nat) (a0 a1 : Int) (K : Res → Option ρ) : runC (Qu_S G) Qu_hs (Qu_lp G n) m28 [.i .i64 a0, .i .i64 a1] K = Qu_s G n a0 a1 (fun w0 => K ⟨.b w0, [], []⟩) := by kernel_rfl
theorem Qu_ok (n : Nat) : EK.OK (Qu_e n) 28 (L tab) := EK.shp (fun _ _ _ => rfl) fun ρ K y c e => EK.run (Qu_Sok n) (by kernel_rfl) (MF.LKOK.of (LK.of (l := []) (by kernel_rfl) ((fun _ h => nomatch h)))) (Qu_k (Qu_g n) n _ _ K) (by kernel_rfl) e
abbrev Q05_T : Type 1 := (ρ : Type) → Int → Int → Int → Int → Int → Int → Int → Int → (Bool → Option ρ) → Option ρ
def Q05_E (G : Q05_T) : EK := fun ρ args K => decL [.agg [.i .i64 none, .i .i64 none, .i .i64 none, .i .i64 none], .agg [.i .i64 none, .i .i64 none, .i .i64 none, .i .i64 none]] args fun c => G ρ c.1.1 c.1.2.1 c.1.2.2.1 c.1.2.2.2.1 c.2.1.1 c.2.1.2.1 c.2.1.2.2.1 c.2.1.2.2.2.1 (fun w0 => K ⟨.b w0, [], []⟩)
structure Q05_G where
 mk ::
 cap_None : cap_None_T
 Qu : Qu_T
def Q05_s (G : Q05_G) {ρ : Type} (_n : Nat) (a0 a1 : Int) (a2 a3 : Int) (a4 a5 : Int) (a6 a7 : Int) (k0 : (Bool → Option ρ)) : Option ρ :=
 G.cap_None ρ a0 a1 a2 a3 (fun w0_0 =>
 bif w0_0 then
 k0 true
 else bif ((a0 : Int) == a4) then
 bif ((a1 : Int) == a5) then
 G.Qu ρ a2 a6 (fun w1_0 =>
 bif w1_0 then
 bif ((a7 : Int) == 0) then
 k0 true
 else bif ((a7 : Int) == a3) then
 k0 true
 else k0 false
 else k0 false)
 else k0 false
 else k0 false)
def Q05_g (n : Nat) : Q05_G := ⟨cap_None n, Qu n⟩
def Q05 (n : Nat) : Q05_T := fun _ρ a0 a1 a2 a3 a4 a5 a6 a7 k0 => Q05_s (Q05_g n) n a0 a1 a2 a3 a4 a5 a6 a7 k0
def Q05_e (n : Nat) : EK := Q05_E (Q05 n)
def Q05_S (G : Q05_G) : CK := tabS [(36, cap_None_E G.cap_None), (28, Qu_E G.Qu)]
theorem Q05_Sok (n : Nat) : CK.OK (Q05_S (Q05_g n)) (L tab) := tabS_ok _ (List.forall_mem_cons.2 ⟨(cap_None_ok n), List.forall_mem_cons.2 ⟨(Qu_ok n), (fun _ h => nomatch h)⟩⟩)
def Q05_hs : HintC := hintL []
def Q05_lp (_G : Q05_G) (_n : Nat) : LK := tabL []
theorem Q05_k (G : Q05_G) {ρ : Type} (n : Nat) (a0 a1 : Int) (a2 a3 : Int) (a4 a5 : Int) (a6 a7 : Int) (K : Res → Option ρ) : runC (Q05_S G) Q05_hs (Q05_lp G n) m51 [.agg [.i .i64 a0, .i .i64 a1, .i .i64 a2, .i .i64 a3], .agg [.i .i64 a4, .i .i64 a5, .i .i64 a6, .i .i64 a7]] K = Q05_s G n a0 a1 a2 a3 a4 a5 a6 a7 (fun w0 => K ⟨.b w0, [], []⟩) := by kernel_rfl
theorem Q05_ok (n : Nat) : EK.OK (Q05_e n) 51 (L tab) := EK.shp (fun _ _ _ => rfl) fun ρ K y c e => EK.run (Q05_Sok n) (by kernel_rfl) (MF.LKOK.of (LK.of (l := []) (by kernel_rfl) ((fun _ h => nomatch h)))) (Q05_k (Q05_g n) n _ _ _ _ _ _ _ _ K) (by kernel_rfl) e
abbrev Q6_T : Type 1 := (ρ : Type) → Int → Int → Int → Bool → Bool → Rows → Bool → Bool → Rows → (Bool → Option ρ) → Option ρ
def Q6_E (G : Q6_T) : EK := fun ρ args K => decL [.agg [.i .i64 none, .i .i64 none, .i .i64 none, .lst none none 5 none, .lst none none 13 none]] args fun c => G ρ c.1.1 c.1.2.1 c.1.2.2.1 c.1.2.2.2.1.1 c.1.2.2.2.1.2.1 c.1.2.2.2.1.2.2 c.1.2.2.2.2.1.1 c.1.2.2.2.2.1.2.1 c.1.2.2.2.2.1.2.2 (fun w0 => K ⟨.b w0, [], []⟩)
structure Q6_G where
 mk ::
 Q05 : Q05_T
abbrev Q6_l6_V : Type := Int × Int
def Q6_l6_s (G : Q6_G) {ρ : Type} (_n : Nat) (_p1 _p2 : Bool) (_p3 : Rows) (_p4 _p5 : Int) (p6 _p7 : Int) (_p8 _p9 : Int) (_p10 _p11 : Bool) (p12 : Rows) (_p13 _p14 : Bool) (_p15 : Rows) (p16 p17 : Int) (p18 p19 _p20 : Int) (k0 : (Option ρ)) (k1 : (Option ρ)) (rec' : Q6_l6_V → Option ρ) : Q6_l6_V → Option ρ
 | v =>
 bif decide ((v.2 : Int) < p6) then
 bif decide ((v.1 : Int) < 0) then
 k0
 else rowT [.i .i64, .i .i64, .i .i64, .i .i64, .i .i64] p12 v.1 fun c0 =>
 G.Q05 ρ p16 p17 p18 p19 c0.1 c0.2.1 c0.2.2.1 c0.2.2.2.1 (fun w1_0 =>
 bif w1_0 then
 rec' (c0.2.2.2.2.1, (IntKind.wrap .i64 (v.2 + 1)))
 else bif ((c0.1 : Int) != 1) then
 k1
 else bif ((p17 : Int) == c0.2.1) then
 k1
 else rec' (c0.2.2.2.2.1, (IntKind.wrap .i64 (v.2 + 1))))
 else k0
def Q6_l6 (G : Q6_G) {ρ : Type} (n : Nat) (p1 p2 : Bool) (p3 : Rows) (p4 p5 : Int) (p6 p7 : Int) (p8 p9 : Int) (p10 p11 : Bool) (p12 : Rows) (p13 p14 : Bool) (p15 : Rows) (p16 p17 : Int) (p18 p19 p20 : Int) (k0 : (Option ρ)) (k1 : (Option ρ)) (v : Q6_l6_V) : Option ρ := fuelN (Q6_l6_s G n p1 p2 p3 p4 p5 p6 p7 p8 p9 p10 p11 p12 p13 p14 p15 p16 p17 p18 p19 p20 k0 k1) n v
def Q6_l6_enc (p1 p2 : Bool) (p3 : Rows) (p4 p5 : Int) (p6 p7 : Int) (p8 p9 : Int) (p10 p11 : Bool) (p12 : Rows) (p13 p14 : Bool) (p15 : Rows) (p16 p17 : Int) (p18 p19 p20 : Int) : Q6_l6_V → St
 | v => ⟨[(1, .ptr 0 1 5 0 0), (4, .ptr 1 1 5 0 0), (5, .i .i64 v.1), (8, .lst p1 p2 5 p3), (9, .i .i64 p4), (10, .i .i64 p5), (18, .i .i64 p6), (19, .i .i64 v.2)], [.row 5 true false [[.i .i64 p7, .i .i64 p8, .i .i64 p9, .lst p10 p11 5 p12, .lst p13 p14 13 p15]], .row 5 true false [[.i .i64 p16, .i .i64 p17, .i .i64 p18, .i .i64 p19, .i .i64 p20]]]⟩
abbrev Q6_l2_V : Type := Int
def Q6_l2_s (G : Q6_G) {ρ : Type} (n : Nat) (p0 p1 : Bool) (p2 : Rows) (p3 p4 : Int) (p5 p6 : Int) (p7 p8 : Bool) (p9 : Rows) (p10 p11 : Bool) (p12 : Rows) (k0 : (Option ρ)) (k1 : (Option ρ)) (rec' : Q6_l2_V → Option ρ) : Q6_l2_V → Option ρ
 | v =>
 bif decide ((v : Int) < p3) then
 rowT [.i .i64, .i .i64, .i .i64, .i .i64, .i .i64] p2 v fun c0 =>
 Q6_l6 G n p0 p1 p2 p3 v (((List.length (p9 : Rows)) : Nat) : Int) p4 p5 p6 p7 p8 p9 p10 p11 p12 c0.1 c0.2.1 c0.2.2.1 c0.2.2.2.1 c0.2.2.2.2.1 (rec' ((IntKind.wrap .i64 (v + 1)))) (k0) (c0.2.2.2.2.1, 0)
 else k1
def Q6_l2 (G : Q6_G) {ρ : Type} (n : Nat) (p0 p1 : Bool) (p2 : Rows) (p3 p4 : Int) (p5 p6 : Int) (p7 p8 : Bool) (p9 : Rows) (p10 p11 : Bool) (p12 : Rows) (k0 : (Option ρ)) (k1 : (Option ρ)) (v : Q6_l2_V) : Option ρ := fuelN (Q6_l2_s G n p0 p1 p2 p3 p4 p5 p6 p7 p8 p9 p10 p11 p12 k0 k1) n v
def Q6_l2_enc (p0 p1 : Bool) (p2 : Rows) (p3 p4 : Int) (p5 p6 : Int) (p7 p8 : Bool) (p9 : Rows) (p10 p11 : Bool) (p12 : Rows) : Q6_l2_V → St
 | v => ⟨[(1, .ptr 0 1 5 0 0), (8, .lst p0 p1 5 p2), (9, .i .i64 p3), (10, .i .i64 v)], [.row 5 true false [[.i .i64 p4, .i .i64 p5, .i .i64 p6, .lst p7 p8 5 p9, .lst p10 p11 13 p12]]]⟩
def Q6_s (G : Q6_G) {ρ : Type} (n : Nat) (a0 a1 a2 : Int) (a3 a4 : Bool) (a5 : Rows) (a6 a7 : Bool) (a8 : Rows) (k0 : (Bool → Option ρ)) : Option ρ :=
 Q6_l2 G n a3 a4 a5 (((List.length (a5 : Rows)) : Nat) : Int) a0 a1 a2 a3 a4 a5 a6 a7 a8 (k0 false) (k0 true) (0)
def Q6_g (n : Nat) : Q6_G := ⟨Q05 n⟩
def Q6 (n : Nat) : Q6_T := fun _ρ a0 a1 a2 a3 a4 a5 a6 a7 a8 k0 => Q6_s (Q6_g n) n a0 a1 a2 a3 a4 a5 a6 a7 a8 k0
def Q6_e (n : Nat) : EK := Q6_E (Q6 n)
def Q6_S (G : Q6_G) : CK := tabS [(51, Q05_E G.Q05)]
theorem Q6_Sok (n : Nat) : CK.OK (Q6_S (Q6_g n)) (L tab) := tabS_ok _ (List.forall_mem_cons.2 ⟨(Q05_ok n), (fun _ h => nomatch h)⟩)
def Q6_hs : HintC := hintL [(12, [.i .i64, .i .i64, .i .i64, .i .i64, .i .i64]), (26, [.i .i64, .i .i64, .i .i64, .i .i64, .i .i64])]
def Q6_c6 : Nat × List Nat × List Nat × MC := loopAt 6 m26
def Q6_l6_d (G : Q6_G) (n : Nat) : Go.Rv.LE := fun _ρ h K => decSt [(1, .ptr 0 5 0 (some 1) (some 0)), (4, .ptr 1 5 0 (some 1) (some 0)), (5, .i .i64 none), (8, .lst none none 5 none), (9, .i .i64 none), (10, .i .i64 none), (18, .i .i64 none), (19, .i .i64 none)] [.row 5 true false (some [[.i .i64 none, .i .i64 none, .i .i64 none, .lst none none 5 none, .lst none none 13 none]]), .row 5 true false (some [[.i .i64 none, .i .i64 none, .i .i64 none, .i .i64 none, .i .i64 none]])] h fun a b => Q6_l6 G n a.2.2.2.1.1 a.2.2.2.1.2.1 a.2.2.2.1.2.2 a.2.2.2.2.1 a.2.2.2.2.2.1 a.2.2.2.2.2.2.1 b.1.1.1 b.1.1.2.1 b.1.1.2.2.1 b.1.1.2.2.2.1.1 b.1.1.2.2.2.1.2.1 b.1.1.2.2.2.1.2.2 b.1.1.2.2.2.2.1.1 b.1.1.2.2.2.2.1.2.1 b.1.1.2.2.2.2.1.2.2 b.2.1.1.1 b.2.1.1.2.1 b.2.1.1.2.2.1 b.2.1.1.2.2.2.1 b.2.1.1.2.2.2.2.1 (K (.exit 2) ⟨[(1, .ptr 0 1 5 0 0), (2, .u), (8, .lst a.2.2.2.1.1 a.2.2.2.1.2.1 5 a.2.2.2.1.2.2), (9, .i .i64 a.2.2.2.2.1), (10, .i .i64 a.2.2.2.2.2.1)], [.row 5 true false [[.i .i64 b.1.1.1, .i .i64 b.1.1.2.1, .i .i64 b.1.1.2.2.1, .lst b.1.1.2.2.2.1.1 b.1.1.2.2.2.1.2.1 5 b.1.1.2.2.2.1.2.2, .lst b.1.1.2.2.2.2.1.1 b.1.1.2.2.2.2.1.2.1 13 b.1.1.2.2.2.2.1.2.2]], .row 5 true false [[.i .i64 b.2.1.1.1, .i .i64 b.2.1.1.2.1, .i .i64 b.2.1.1.2.2.1, .i .i64 b.2.1.1.2.2.2.1, .i .i64 b.2.1.1.2.2.2.2.1]]]⟩) (K .ret ⟨[(1, .ptr 0 1 5 0 0), (2, .b false), (8, .lst a.2.2.2.1.1 a.2.2.2.1.2.1 5 a.2.2.2.1.2.2), (9, .i .i64 a.2.2.2.2.1), (10, .i .i64 a.2.2.2.2.2.1)], [.row 5 true false [[.i .i64 b.1.1.1, .i .i64 b.1.1.2.1, .i .i64 b.1.1.2.2.1, .lst b.1.1.2.2.2.1.1 b.1.1.2.2.2.1.2.1 5 b.1.1.2.2.2.1.2.2, .lst b.1.1.2.2.2.2.1.1 b.1.1.2.2.2.2.1.2.1 13 b.1.1.2.2.2.2.1.2.2]], .row 5 true false [[.i .i64 b.2.1.1.1, .i .i64 b.2.1.1.2.1, .i .i64 b.2.1.1.2.2.1, .i .i64 b.2.1.1.2.2.2.1, .i .i64 b.2.1.1.2.2.2.2.1]]]⟩) (a.2.2.1, a.2.2.2.2.2.2.2.1)
def Q6_d6 (G : Q6_G) (n : Nat) : Go.Rv.LE := Q6_l6_d G n
def Q6_c2 : Nat × List Nat × List Nat × MC := loopAt 2 m26
def Q6_l2_d (G : Q6_G) (n : Nat) : Go.Rv.LE := fun _ρ h K => decSt [(1, .ptr 0 5 0 (some 1) (some 0)), (8, .lst none none 5 none), (9, .i .i64 none), (10, .i .i64 none)] [.row 5 true false (some [[.i .i64 none, .i .i64 none, .i .i64 none, .lst none none 5 none, .lst none none 13 none]])] h fun a b => Q6_l2 G n a.2.1.1 a.2.1.2.1 a.2.1.2.2 a.2.2.1 b.1.1.1 b.1.1.2.1 b.1.1.2.2.1 b.1.1.2.2.2.1.1 b.1.1.2.2.2.1.2.1 b.1.1.2.2.2.1.2.2 b.1.1.2.2.2.2.1.1 b.1.1.2.2.2.2.1.2.1 b.1.1.2.2.2.2.1.2.2 (K .ret ⟨[(2, .b false)], [.row 5 true false [[.i .i64 b.1.1.1, .i .i64 b.1.1.2.1, .i .i64 b.1.1.2.2.1, .lst b.1.1.2.2.2.1.1 b.1.1.2.2.2.1.2.1 5 b.1.1.2.2.2.1.2.2, .lst b.1.1.2.2.2.2.1.1 b.1.1.2.2.2.2.1.2.1 13 b.1.1.2.2.2.2.1.2.2]]]⟩) (K (.exit 0) ⟨[(2, .u)], [.row 5 true false [[.i .i64 b.1.1.1, .i .i64 b.1.1.2.1, .i .i64 b.1.1.2.2.1, .lst b.1.1.2.2.2.1.1 b.1.1.2.2.2.1.2.1 5 b.1.1.2.2.2.1.2.2, .lst b.1.1.2.2.2.2.1.1 b.1.1.2.2.2.2.1.2.1 13 b.1.1.2.2.2.2.1.2.2]]]⟩) (a.2.2.2.1)
def Q6_d2 (G : Q6_G) (n : Nat) : Go.Rv.LE := Q6_l2_d G n
def Q6_lp (G : Q6_G) (n : Nat) : LK := tabL [(6, Q6_d6 G n), (2, Q6_d2 G n)]
theorem Q6_l6_k (G : Q6_G) {ρ : Type} (n : Nat) (p1 p2 : Bool) (p3 : Rows) (p4 p5 : Int) (p6 p7 : Int) (p8 p9 : Int) (p10 p11 : Bool) (p12 : Rows) (p13 p14 : Bool) (p15 : Rows) (p16 p17 : Int) (p18 p19 p20 : Int) (K : Ex → St → Option ρ) (N : St → Option ρ) : ∀ v, roundC (Q6_S G) Q6_hs (Q6_lp G n) Q6_c6 2 N K (Q6_l6_enc p1 p2 p3 p4 p5 p6 p7 p8 p9 p10 p11 p12 p13 p14 p15 p16 p17 p18 p19 p20 v) = Q6_l6_s G n p1 p2 p3 p4 p5 p6 p7 p8 p9 p10 p11 p12 p13 p14 p15 p16 p17 p18 p19 p20 (K (.exit 2) ⟨[(1, .ptr 0 1 5 0 0), (2, .u), (8, .lst p1 p2 5 p3), (9, .i .i64 p4), (10, .i .i64 p5)], [.row 5 true false [[.i .i64 p7, .i .i64 p8, .i .i64 p9, .lst p10 p11 5 p12, .lst p13 p14 13 p15]], .row 5 true false [[.i .i64 p16, .i .i64 p17, .i .i64 p18, .i .i64 p19, .i .i64 p20]]]⟩) (K .ret ⟨[(1, .ptr 0 1 5 0 0), (2, .b false), (8, .lst p1 p2 5 p3), (9, .i .i64 p4), (10, .i .i64 p5)], [.row 5 true false [[.i .i64 p7, .i .i64 p8, .i .i64 p9, .lst p10 p11 5 p12, .lst p13 p14 13 p15]], .row 5 true false [[.i .i64 p16, .i .i64 p17, .i .i64 p18, .i .i64 p19, .i .i64 p20]]]⟩) (fun v => N (Q6_l6_enc p1 p2 p3 p4 p5 p6 p7 p8 p9 p10 p11 p12 p13 p14 p15 p16 p17 p18 p19 p20 v)) v
 | v => by kernel_rfl
theorem Q6_l6_dok (n : Nat) : LE.OK (Q6_l6_d (Q6_g n) n) (L tab) Q6_c6 := LE.shp (fun _ _ _ => rfl) fun ρ K y a b e => LE.rounds (Q6_Sok n) (LK.of (l := []) (by kernel_rfl) ((fun _ h => nomatch h))) (Q6_l6_k (Q6_g n) n _ _ _ _ _ _ _ _ _ _ _ _ _ _ _ _ _ _ _ _ K) (by kernel_rfl) (by kernel_rfl) e
theorem Q6_d6_ok (n : Nat) : LE.OK (Q6_d6 (Q6_g n) n) (L tab) Q6_c6 := Q6_l6_dok n
theorem Q6_l2_k (G : Q6_G) {ρ : Type} (n : Nat) (p0 p1 : Bool) (p2 : Rows) (p3 p4 : Int) (p5 p6 : Int) (p7 p8 : Bool) (p9 : Rows) (p10 p11 : Bool) (p12 : Rows) (K : Ex → St → Option ρ) (N : St → Option ρ) : ∀ v, roundC (Q6_S G) Q6_hs (Q6_lp G n) Q6_c2 1 N K (Q6_l2_enc p0 p1 p2 p3 p4 p5 p6 p7 p8 p9 p10 p11 p12 v) = Q6_l2_s G n p0 p1 p2 p3 p4 p5 p6 p7 p8 p9 p10 p11 p12 (K .ret ⟨[(2, .b false)], [.row 5 true false [[.i .i64 p4, .i .i64 p5, .i .i64 p6, .lst p7 p8 5 p9, .lst p10 p11 13 p12]]]⟩) (K (.exit 0) ⟨[(2, .u)], [.row 5 true false [[.i .i64 p4, .i .i64 p5, .i .i64 p6, .lst p7 p8 5 p9, .lst p10 p11 13 p12]]]⟩) (fun v => N (Q6_l2_enc p0 p1 p2 p3 p4 p5 p6 p7 p8 p9 p10 p11 p12 v)) v
 | v => by kernel_rfl
theorem Q6_l2_dok (n : Nat) : LE.OK (Q6_l2_d (Q6_g n) n) (L tab) Q6_c2 := LE.shp (fun _ _ _ => rfl) fun ρ K y a b e => LE.rounds (Q6_Sok n) (LK.of (l := [Q6_c6]) (by kernel_rfl) (List.forall_mem_cons.2 ⟨LE.at (e := Q6_d6 (Q6_g n) n) (by kernel_rfl) (Q6_d6_ok n), (fun _ h => nomatch h)⟩)) (Q6_l2_k (Q6_g n) n _ _ _ _ _ _ _ _ _ _ _ _ _ K) (by kernel_rfl) (by kernel_rfl) e
theorem Q6_d2_ok (n : Nat) : LE.OK (Q6_d2 (Q6_g n) n) (L tab) Q6_c2 := Q6_l2_dok n
theorem Q6_k (G : Q6_G) {ρ : Type} (n : Nat) (a0 a1 a2 : Int) (a3 a4 : Bool) (a5 : Rows) (a6 a7 : Bool) (a8 : Rows) (K : Res → Option ρ) : runC (Q6_S G) Q6_hs (Q6_lp G n) m26 [.agg [.i .i64 a0, .i .i64 a1, .i .i64 a2, .lst a3 a4 5 a5, .lst a6 a7 13 a8]] K = Q6_s G n a0 a1 a2 a3 a4 a5 a6 a7 a8 (fun w0 => K ⟨.b w0, [], []⟩) := by kernel_rfl
theorem Q6_ok (n : Nat) : EK.OK (Q6_e n) 26 (L tab) := EK.shp (fun _ _ _ => rfl) fun ρ K y c e => EK.run (Q6_Sok n) (by kernel_rfl) (MF.LKOK.of (LK.of (l := [Q6_c2]) (by kernel_rfl) (List.forall_mem_cons.2 ⟨LE.at (e := Q6_d2 (Q6_g n) n) (by kernel_rfl) (Q6_d2_ok n), (fun _ h => nomatch h)⟩))) (Q6_k (Q6_g n) n _ _ _ _ _ _ _ _ _ K) (by kernel_rfl) e
abbrev Qj_T : Type 1 := (ρ : Type) → Int → Int → Int → Bool → Bool → Rows → Bool → Bool → Rows → (Bool → Option ρ) → Option ρ
def Qj_E (G : Qj_T) : EK := fun ρ args K => decL [.agg [.i .i64 none, .i .i64 none, .i .i64 none, .lst none none 5 none, .lst none none 13 none]] args fun c => G ρ c.1.1 c.1.2.1 c.1.2.2.1 c.1.2.2.2.1.1 c.1.2.2.2.1.2.1 c.1.2.2.2.1.2.2 c.1.2.2.2.2.1.1 c.1.2.2.2.2.1.2.1 c.1.2.2.2.2.1.2.2 (fun w0 => K ⟨.b w0, [], []⟩)
structure Qj_G where
 mk ::
 Qw : Qw_T
 Qn : Qn_T
 Qm : Qm_T
 Q2 : Q2_T
 Qk : Qk_T
 Q8 : Q8_T
 Q1 : Q1_T
 Q6 : Q6_T
def Qj_s (G : Qj_G) {ρ : Type} (_n : Nat) (a0 a1 a2 : Int) (a3 a4 : Bool) (a5 : Rows) (a6 a7 : Bool) (a8 : Rows) (k0 : (Bool → Option ρ)) : Option ρ :=
 G.Qw ρ a0 a1 a2 (fun w0_0 =>
 bif w0_0 then
 bif (((((List.length (a5 : Rows)) : Nat) : Int) : Int) != a1) then
 k0 false
 else bif (((((List.length (a8 : Rows)) : Nat) : Int) : Int) != a2) then
 k0 false
 else G.Qn ρ a0 a1 a2 a3 a4 a5 a6 a7 a8 (fun w1_0 =>
 bif w1_0 then
 G.Qm ρ a0 a1 a2 a3 a4 a5 a6 a7 a8 (fun w2_0 =>
 bif w2_0 then
 G.Q2 ρ a0 a1 a2 a3 a4 a5 a6 a7 a8 (fun w3_0 =>
 bif w3_0 then
 G.Qk ρ a0 a1 a2 a3 a4 a5 a6 a7 a8 (fun w4_0 =>
 bif w4_0 then
 k0 false
 else G.Q8 ρ a0 a1 a2 a3 a4 a5 a6 a7 a8 (fun w5_0 w5_1 w5_2 =>
 G.Q1 ρ w5_0 w5_1 w5_2 (fun w6_0 =>
 bif w6_0 then
 G.Q6 ρ a0 a1 a2 a3 a4 a5 a6 a7 a8 (fun w7_0 =>
 bif w7_0 then
 k0 true
 else k0 false)
 else k0 false)))
 else k0 false)
 else k0 false)
 else k0 false)
 else k0 false)
def Qj_g (n : Nat) : Qj_G := ⟨Qw n, Qn n, Qm n, Q2 n, Qk n, Q8 n, Q1 n, Q6 n⟩
def Qj (n : Nat) : Qj_T := fun _ρ a0 a1 a2 a3 a4 a5 a6 a7 a8 k0 => Qj_s (Qj_g n) n a0 a1 a2 a3 a4 a5 a6 a7 a8 k0
def Qj_e (n : Nat) : EK := Qj_E (Qj n)
def Qj_S (G : Qj_G) : CK := tabS [(19, Qw_E G.Qw), (20, Qn_E G.Qn), (21, Qm_E G.Qm), (22, Q2_E G.Q2), (23, Qk_E G.Qk), (25, Q8_E G.Q8), (24, Q1_E G.Q1), (26, Q6_E G.Q6)]
theorem Qj_Sok (n : Nat) : CK.OK (Qj_S (Qj_g n)) (L tab) := tabS_ok _ (List.forall_mem_cons.2 ⟨(Qw_ok n), List.forall_mem_cons.2 ⟨(Qn_ok n), List.forall_mem_cons.2 ⟨(Qm_ok n), List.forall_mem_cons.2 ⟨(Q2_ok n), List.forall_mem_cons.2 ⟨(Qk_ok n), List.forall_mem_cons.2 ⟨(Q8_ok n), List.forall_mem_cons.2 ⟨(Q1_ok n), List.forall_mem_cons.2 ⟨(Q6_ok n), (fun _ h => nomatch h)⟩⟩⟩⟩⟩⟩⟩⟩)
def Qj_hs : HintC := hintL []
def Qj_lp (_G : Qj_G) (_n : Nat) : LK := tabL []
theorem Qj_k (G : Qj_G) {ρ : Type} (n : Nat) (a0 a1 a2 : Int) (a3 a4 : Bool) (a5 : Rows) (a6 a7 : Bool) (a8 : Rows) (K : Res → Option ρ) : runC (Qj_S G) Qj_hs (Qj_lp G n) m9 [.agg [.i .i64 a0, .i .i64 a1, .i .i64 a2, .lst a3 a4 5 a5, .lst a6 a7 13 a8]] K = Qj_s G n a0 a1 a2 a3 a4 a5 a6 a7 a8 (fun w0 => K ⟨.b w0, [], []⟩) := by kernel_rfl
theorem Qj_ok (n : Nat) : EK.OK (Qj_e n) 9 (L tab) := EK.shp (fun _ _ _ => rfl) fun ρ K y c e => EK.run (Qj_Sok n) (by kernel_rfl) (MF.LKOK.of (LK.of (l := []) (by kernel_rfl) ((fun _ h => nomatch h)))) (Qj_k (Qj_g n) n _ _ _ _ _ _ _ _ _ K) (by kernel_rfl) e
abbrev find_in_T : Type 1 := (ρ : Type) → Int → Int → Int → (Bool → Option ρ) → Option ρ
def find_in_E (G : find_in_T) : EK := fun ρ args K => decL [.i .i64 none, .i .i64 none, .i .i64 none] args fun c => G ρ c.1 c.2.1 c.2.2.1 (fun w0 => K ⟨.b w0, [], []⟩)
structure find_in_G where
 mk ::
def find_in_s (_G : find_in_G) {ρ : Type} (_n : Nat) (a0 a1 a2 : Int) (k0 : (Bool → Option ρ)) : Option ρ :=
 bif decide ((a0 : Int) ≥ a1) then
 bif decide ((a0 : Int) ≤ a2) then
 k0 true
 else k0 false
 else k0 false
def find_in_g (_n : Nat) : find_in_G := ⟨⟩
def find_in (n : Nat) : find_in_T := fun _ρ a0 a1 a2 k0 => find_in_s (find_in_g n) n a0 a1 a2 k0
def find_in_e (n : Nat) : EK := find_in_E (find_in n)
def find_in_S (_G : find_in_G) : CK := tabS []
theorem find_in_Sok (n : Nat) : CK.OK (find_in_S (find_in_g n)) (L tab) := tabS_ok _ ((fun _ h => nomatch h))
def find_in_hs : HintC := hintL []
def find_in_lp (_G : find_in_G) (_n : Nat) : LK := tabL []
theorem find_in_k (G : find_in_G) {ρ : Type} (n : Nat) (a0 a1 a2 : Int) (K : Res → Option ρ) : runC (find_in_S G) find_in_hs (find_in_lp G n) m63 [.i .i64 a0, .i .i64 a1, .i .i64 a2] K = find_in_s G n a0 a1 a2 (fun w0 => K ⟨.b w0, [], []⟩) := by kernel_rfl
theorem find_in_ok (n : Nat) : EK.OK (find_in_e n) 63 (L tab) := EK.shp (fun _ _ _ => rfl) fun ρ K y c e => EK.run (find_in_Sok n) (by kernel_rfl) (MF.LKOK.of (LK.of (l := []) (by kernel_rfl) ((fun _ h => nomatch h)))) (find_in_k (find_in_g n) n _ _ _ K) (by kernel_rfl) e
abbrev find_step_T : Type 1 := (ρ : Type) → Int → Int → Int → Int → Int → Int → Int → Bool → Int → Int → Int → Int → Int → Int → (Int → Option ρ) → Option ρ
def find_step_E (G : find_step_T) : EK := fun ρ args K => decL [.agg [.i .i64 none, .i .i64 none, .i .i64 none, .i .i64 none, .i .i64 none, .i .i64 none, .i .i64 none, .b none, .i .u64 none, .i .u64 none, .i .u64 none, .i .u64 none, .i .u64 none], .i .i64 none] args fun c => G ρ c.1.1 c.1.2.1 c.1.2.2.1 c.1.2.2.2.1 c.1.2.2.2.2.1 c.1.2.2.2.2.2.1 c.1.2.2.2.2.2.2.1 c.1.2.2.2.2.2.2.2.1 c.1.2.2.2.2.2.2.2.2.1 c.1.2.2.2.2.2.2.2.2.2.1 c.1.2.2.2.2.2.2.2.2.2.2.1 c.1.2.2.2.2.2.2.2.2.2.2.2.1 c.1.2.2.2.2.2.2.2.2.2.2.2.2.1 c.2.1 (fun w0 => K ⟨.i .i64 w0, [], []⟩)
structure find_step_G where
 mk ::
def find_step_s (_G : find_step_G) {ρ : Type} (_n : Nat) (_a0 a1 : Int) (a2 _a3 : Int) (_a4 _a5 _a6 : Int) (_a7 : Bool) (_a8 _a9 : Int) (_a10 _a11 : Int) (_a12 a13 : Int) (k0 : (Int → Option ρ)) : Option ρ :=
 chk (decide (0 ≤ (a1 : Int))) <|
 bif decide ((a13 : Int) ≥ (IntKind.wrap .i64 ((1 : Int) * 2 ^ (min a1.toNat (IntKind.bits .i64))))) then
 k0 (-1)
 else k0 (IntKind.wrap .i64 (a2 + a13))
def find_step_g (_n : Nat) : find_step_G := ⟨⟩
def find_step (n : Nat) : find_step_T := fun _ρ a0 a1 a2 a3 a4 a5 a6 a7 a8 a9 a10 a11 a12 a13 k0 => find_step_s (find_step_g n) n a0 a1 a2 a3 a4 a5 a6 a7 a8 a9 a10 a11 a12 a13 k0
def find_step_e (n : Nat) : EK := find_step_E (find_step n)
def find_step_S (_G : find_step_G) : CK := tabS []
theorem find_step_Sok (n : Nat) : CK.OK (find_step_S (find_step_g n)) (L tab) := tabS_ok _ ((fun _ h => nomatch h))
def find_step_hs : HintC := hintL []
def find_step_lp (_G : find_step_G) (_n : Nat) : LK := tabL []
theorem find_step_k (G : find_step_G) {ρ : Type} (n : Nat) (a0 a1 : Int) (a2 a3 : Int) (a4 a5 a6 : Int) (a7 : Bool) (a8 a9 : Int) (a10 a11 : Int) (a12 a13 : Int) (K : Res → Option ρ) : runC (find_step_S G) find_step_hs (find_step_lp G n) m65 [.agg [.i .i64 a0, .i .i64 a1, .i .i64 a2, .i .i64 a3, .i .i64 a4, .i .i64 a5, .i .i64 a6, .b a7, .i .u64 a8, .i .u64 a9, .i .u64 a10, .i .u64 a11, .i .u64 a12], .i .i64 a13] K = find_step_s G n a0 a1 a2 a3 a4 a5 a6 a7 a8 a9 a10 a11 a12 a13 (fun w0 => K ⟨.i .i64 w0, [], []⟩) := by kernel_rfl
theorem find_step_ok (n : Nat) : EK.OK (find_step_e n) 65 (L tab) := EK.shp (fun _ _ _ => rfl) fun ρ K y c e => EK.run (find_step_Sok n) (by kernel_rfl) (MF.LKOK.of (LK.of (l := []) (by kernel_rfl) ((fun _ h => nomatch h)))) (find_step_k (find_step_g n) n _ _ _ _ _ _ _ _ _ _ _ _ _ _ K) (by kernel_rfl) e
abbrev Q0c_T : Type 1 := (ρ : Type) → Int → Int → Int → Bool → Bool → Rows → Bool → Bool → Rows → Int → (Int → Int → Int → Int → Int → Int → Int → Bool → Int → Int → Int → Int → Int → Bool → Option ρ) → Option ρ
def Q0c_E (G : Q0c_T) : EK := fun ρ args K => decL [.agg [.i .i64 none, .i .i64 none, .i .i64 none, .lst none none 5 none, .lst none none 13 none], .i .i64 none] args fun c => G ρ c.1.1 c.1.2.1 c.1.2.2.1 c.1.2.2.2.1.1 c.1.2.2.2.1.2.1 c.1.2.2.2.1.2.2 c.1.2.2.2.2.1.1 c.1.2.2.2.2.1.2.1 c.1.2.2.2.2.1.2.2 c.2.1 (fun w0 w1 w2 w3 w4 w5 w6 w7 w8 w9 w10 w11 w12 w13 => K ⟨.tup [.agg [.i .i64 w0, .i .i64 w1, .i .i64 w2, .i .i64 w3, .i .i64 w4, .i .i64 w5, .i .i64 w6, .b w7, .i .u64 w8, .i .u64 w9, .i .u64 w10, .i .u64 w11, .i .u64 w12], .b w13], [], []⟩)
structure Q0c_G where
 mk ::
 Qu : Qu_T
def Q0c_s (G : Q0c_G) {ρ : Type} (_n : Nat) (_a0 _a1 _a2 : Int) (_a3 _a4 : Bool) (a5 : Rows) (_a6 _a7 : Bool) (a8 : Rows) (a9 : Int) (k0 : (Int → Int → Int → Int → Int → Int → Int → Bool → Int → Int → Int → Int → Int → Bool → Option ρ)) : Option ρ :=
 rowT [.i .i64, .i .i64, .i .i64, .i .i64, .i .i64] a5 a9 fun c0 =>
 bif ((c0.1 : Int) != 2) then
 k0 0 0 0 0 0 0 0 false 0 0 0 0 0 false
 else G.Qu ρ 1 c0.2.2.1 (fun w1_0 =>
 bif w1_0 then
 rowT [.i .i64, .i .i64, .i .i64, .i .i64, .i .i64, .i .i64, .i .i64, .b, .i .u64, .i .u64, .i .u64, .i .u64, .i .u64] a8 c0.2.1 fun c2 =>
 k0 c2.1 c2.2.1 c2.2.2.1 c2.2.2.2.1 c2.2.2.2.2.1 c2.2.2.2.2.2.1 c2.2.2.2.2.2.2.1 c2.2.2.2.2.2.2.2.1 c2.2.2.2.2.2.2.2.2.1 c2.2.2.2.2.2.2.2.2.2.1 c2.2.2.2.2.2.2.2.2.2.2.1 c2.2.2.2.2.2.2.2.2.2.2.2.1 c2.2.2.2.2.2.2.2.2.2.2.2.2.1 true
 else k0 0 0 0 0 0 0 0 false 0 0 0 0 0 false)
def Q0c_g (n : Nat) : Q0c_G := ⟨Qu n⟩
def Q0c (n : Nat) : Q0c_T := fun _ρ a0 a1 a2 a3 a4 a5 a6 a7 a8 a9 k0 => Q0c_s (Q0c_g n) n a0 a1 a2 a3 a4 a5 a6 a7 a8 a9 k0
def Q0c_e (n : Nat) : EK := Q0c_E (Q0c n)
def Q0c_S (G : Q0c_G) : CK := tabS [(28, Qu_E G.Qu)]
theorem Q0c_Sok (n : Nat) : CK.OK (Q0c_S (Q0c_g n)) (L tab) := tabS_ok _ (List.forall_mem_cons.2 ⟨(Qu_ok n), (fun _ h => nomatch h)⟩)
def Q0c_hs : HintC := hintL [(10, [.i .i64, .i .i64, .i .i64, .i .i64, .i .i64]), (27, [.i .i64, .i .i64, .i .i64, .i .i64, .i .i64, .i .i64, .i .i64, .b, .i .u64, .i .u64, .i .u64, .i .u64, .i .u64])]
def Q0c_lp (_G : Q0c_G) (_n : Nat) : LK := tabL []
theorem Q0c_k (G : Q0c_G) {ρ : Type} (n : Nat) (a0 a1 a2 : Int) (a3 a4 : Bool) (a5 : Rows) (a6 a7 : Bool) (a8 : Rows) (a9 : Int) (K : Res → Option ρ) : runC (Q0c_S G) Q0c_hs (Q0c_lp G n) m64 [.agg [.i .i64 a0, .i .i64 a1, .i .i64 a2, .lst a3 a4 5 a5, .lst a6 a7 13 a8], .i .i64 a9] K = Q0c_s G n a0 a1 a2 a3 a4 a5 a6 a7 a8 a9 (fun w0 w1 w2 w3 w4 w5 w6 w7 w8 w9 w10 w11 w12 w13 => K ⟨.tup [.agg [.i .i64 w0, .i .i64 w1, .i .i64 w2, .i .i64 w3, .i .i64 w4, .i .i64 w5, .i .i64 w6, .b w7, .i .u64 w8, .i .u64 w9, .i .u64 w10, .i .u64 w11, .i .u64 w12], .b w13], [], []⟩) := by kernel_rfl
theorem Q0c_ok (n : Nat) : EK.OK (Q0c_e n) 64 (L tab) := EK.shp (fun _ _ _ => rfl) fun ρ K y c e => EK.run (Q0c_Sok n) (by kernel_rfl) (MF.LKOK.of (LK.of (l := []) (by kernel_rfl) ((fun _ h => nomatch h)))) (Q0c_k (Q0c_g n) n _ _ _ _ _ _ _ _ _ _ K) (by kernel_rfl) e
abbrev Qc_T : Type 1 := (ρ : Type) → Int → Int → Int → Bool → Bool → Rows → Bool → Bool → Rows → Int → Bool → Bool → Rows → (Int → Int → Option ρ) → Option ρ
def Qc_E (G : Qc_T) : EK := fun ρ args K => decL [.agg [.i .i64 none, .i .i64 none, .i .i64 none, .lst none none 5 none, .lst none none 13 none], .i .i64 none, .agg [.lst none none 1 none]] args fun c => G ρ c.1.1 c.1.2.1 c.1.2.2.1 c.1.2.2.2.1.1 c.1.2.2.2.1.2.1 c.1.2.2.2.1.2.2 c.1.2.2.2.2.1.1 c.1.2.2.2.2.1.2.1 c.1.2.2.2.2.1.2.2 c.2.1 c.2.2.1.1.1 c.2.2.1.1.2.1 c.2.2.1.1.2.2 (fun w0 w1 => K ⟨.tup [.i .i64 w0, .i .i64 w1], [], []⟩)
structure Qc_G where
 mk ::
 Qj : Qj_T
 find_in : find_in_T
 Q5 : Q5_T
 find_step : find_step_T
 Q0c : Q0c_T
abbrev Qc_l6_V : Type := Int × Int × Int × Int × Int × Int × Int × Int × Int × Bool × Int × Int × Int × Int × Int
def Qc_l6_s (G : Qc_G) {ρ : Type} (_n : Nat) (_p0 _p1 : Bool) (p2 : Rows) (p3 p4 : Int) (p5 p6 : Int) (p7 p8 : Bool) (p9 : Rows) (p10 p11 : Bool) (p12 : Rows) (_p13 _p14 : Bool) (_p15 : Rows) (k0 : (Int → Int → Int → Int → Int → Int → Int → Int → Bool → Int → Int → Int → Int → Int → Option ρ)) (k1 : (Int → Int → Int → Int → Int → Int → Int → Int → Bool → Int → Int → Int → Int → Int → Option ρ)) (k2 : (Int → Int → Int → Int → Int → Int → Int → Bool → Int → Int → Int → Int → Int → Option ρ)) (rec' : Qc_l6_V → Option ρ) : Qc_l6_V → Option ρ
 | v =>
 bif decide ((v.2.1 : Int) < p3) then
 rowT [.i .i64] p2 v.2.1 fun c0 =>
 bif decide ((v.2.1 : Int) > 0) then
 G.Q0c ρ p4 p5 p6 p7 p8 p9 p10 p11 p12 v.1 (fun w1_0 w1_1 w1_2 w1_3 w1_4 w1_5 w1_6 w1_7 w1_8 w1_9 w1_10 w1_11 w1_12 w1_13 =>
 bif w1_13 then
 G.find_step ρ w1_0 w1_1 w1_2 w1_3 w1_4 w1_5 w1_6 w1_7 w1_8 w1_9 w1_10 w1_11 w1_12 c0.1 (fun w2_0 =>
 bif decide ((w2_0 : Int) < 0) then
 k2 w1_0 w1_1 w1_2 w1_3 w1_4 w1_5 w1_6 w1_7 w1_8 w1_9 w1_10 w1_11 w1_12
 else G.find_step ρ w1_0 w1_1 w1_2 w1_3 w1_4 w1_5 w1_6 w1_7 w1_8 w1_9 w1_10 w1_11 w1_12 c0.1 (fun w3_0 =>
 rec' (w3_0, (IntKind.wrap .i64 (v.2.1 + 1)), w1_0, w1_1, w1_2, w1_3, w1_4, w1_5, w1_6, w1_7, w1_8, w1_9, w1_10, w1_11, w1_12)))
 else k2 w1_0 w1_1 w1_2 w1_3 w1_4 w1_5 w1_6 w1_7 w1_8 w1_9 w1_10 w1_11 w1_12)
 else G.find_step ρ v.2.2.1 v.2.2.2.1 v.2.2.2.2.1 v.2.2.2.2.2.1 v.2.2.2.2.2.2.1 v.2.2.2.2.2.2.2.1 v.2.2.2.2.2.2.2.2.1 v.2.2.2.2.2.2.2.2.2.1 v.2.2.2.2.2.2.2.2.2.2.1 v.2.2.2.2.2.2.2.2.2.2.2.1 v.2.2.2.2.2.2.2.2.2.2.2.2.1 v.2.2.2.2.2.2.2.2.2.2.2.2.2.1 v.2.2.2.2.2.2.2.2.2.2.2.2.2.2 c0.1 (fun w4_0 =>
 bif decide ((w4_0 : Int) < 0) then
 k0 v.1 v.2.2.1 v.2.2.2.1 v.2.2.2.2.1 v.2.2.2.2.2.1 v.2.2.2.2.2.2.1 v.2.2.2.2.2.2.2.1 v.2.2.2.2.2.2.2.2.1 v.2.2.2.2.2.2.2.2.2.1 v.2.2.2.2.2.2.2.2.2.2.1 v.2.2.2.2.2.2.2.2.2.2.2.1 v.2.2.2.2.2.2.2.2.2.2.2.2.1 v.2.2.2.2.2.2.2.2.2.2.2.2.2.1 v.2.2.2.2.2.2.2.2.2.2.2.2.2.2
 else G.find_step ρ v.2.2.1 v.2.2.2.1 v.2.2.2.2.1 v.2.2.2.2.2.1 v.2.2.2.2.2.2.1 v.2.2.2.2.2.2.2.1 v.2.2.2.2.2.2.2.2.1 v.2.2.2.2.2.2.2.2.2.1 v.2.2.2.2.2.2.2.2.2.2.1 v.2.2.2.2.2.2.2.2.2.2.2.1 v.2.2.2.2.2.2.2.2.2.2.2.2.1 v.2.2.2.2.2.2.2.2.2.2.2.2.2.1 v.2.2.2.2.2.2.2.2.2.2.2.2.2.2 c0.1 (fun w5_0 =>
 rec' (w5_0, (IntKind.wrap .i64 (v.2.1 + 1)), v.2.2.1, v.2.2.2.1, v.2.2.2.2.1, v.2.2.2.2.2.1, v.2.2.2.2.2.2.1, v.2.2.2.2.2.2.2.1, v.2.2.2.2.2.2.2.2.1, v.2.2.2.2.2.2.2.2.2.1, v.2.2.2.2.2.2.2.2.2.2.1, v.2.2.2.2.2.2.2.2.2.2.2.1, v.2.2.2.2.2.2.2.2.2.2.2.2.1, v.2.2.2.2.2.2.2.2.2.2.2.2.2.1, v.2.2.2.2.2.2.2.2.2.2.2.2.2.2)))
 else k1 v.1 v.2.2.1 v.2.2.2.1 v.2.2.2.2.1 v.2.2.2.2.2.1 v.2.2.2.2.2.2.1 v.2.2.2.2.2.2.2.1 v.2.2.2.2.2.2.2.2.1 v.2.2.2.2.2.2.2.2.2.1 v.2.2.2.2.2.2.2.2.2.2.1 v.2.2.2.2.2.2.2.2.2.2.2.1 v.2.2.2.2.2.2.2.2.2.2.2.2.1 v.2.2.2.2.2.2.2.2.2.2.2.2.2.1 v.2.2.2.2.2.2.2.2.2.2.2.2.2.2
def Qc_l6 (G : Qc_G) {ρ : Type} (n : Nat) (p0 p1 : Bool) (p2 : Rows) (p3 p4 : Int) (p5 p6 : Int) (p7 p8 : Bool) (p9 : Rows) (p10 p11 : Bool) (p12 : Rows) (p13 p14 : Bool) (p15 : Rows) (k0 : (Int → Int → Int → Int → Int → Int → Int → Int → Bool → Int → Int → Int → Int → Int → Option ρ)) (k1 : (Int → Int → Int → Int → Int → Int → Int → Int → Bool → Int → Int → Int → Int → Int → Option ρ)) (k2 : (Int → Int → Int → Int → Int → Int → Int → Bool → Int → Int → Int → Int → Int → Option ρ)) (v : Qc_l6_V) : Option ρ := fuelN (Qc_l6_s G n p0 p1 p2 p3 p4 p5 p6 p7 p8 p9 p10 p11 p12 p13 p14 p15 k0 k1 k2) n v
def Qc_l6_enc (p0 p1 : Bool) (p2 : Rows) (p3 p4 : Int) (p5 p6 : Int) (p7 p8 : Bool) (p9 : Rows) (p10 p11 : Bool) (p12 : Rows) (p13 p14 : Bool) (p15 : Rows) : Qc_l6_V → St
 | v => ⟨[(3, .ptr 0 1 5 0 0), (8, .ptr 2 1 13 0 0), (9, .b true), (10, .i .i64 v.1), (37, .lst p0 p1 1 p2), (38, .i .i64 p3), (39, .i .i64 v.2.1)], [.row 5 true false [[.i .i64 p4, .i .i64 p5, .i .i64 p6, .lst p7 p8 5 p9, .lst p10 p11 13 p12]], .row 1 true false [[.lst p13 p14 1 p15]], .row 13 true false [[.i .i64 v.2.2.1, .i .i64 v.2.2.2.1, .i .i64 v.2.2.2.2.1, .i .i64 v.2.2.2.2.2.1, .i .i64 v.2.2.2.2.2.2.1, .i .i64 v.2.2.2.2.2.2.2.1, .i .i64 v.2.2.2.2.2.2.2.2.1, .b v.2.2.2.2.2.2.2.2.2.1, .i .u64 v.2.2.2.2.2.2.2.2.2.2.1, .i .u64 v.2.2.2.2.2.2.2.2.2.2.2.1, .i .u64 v.2.2.2.2.2.2.2.2.2.2.2.2.1, .i .u64 v.2.2.2.2.2.2.2.2.2.2.2.2.2.1, .i .u64 v.2.2.2.2.2.2.2.2.2.2.2.2.2.2]]]⟩
def Qc_s (G : Qc_G) {ρ : Type} (n : Nat) (a0 a1 a2 : Int) (a3 a4 : Bool) (a5 : Rows) (a6 a7 : Bool) (a8 : Rows) (a9 : Int) (a10 a11 : Bool) (a12 : Rows) (k0 : (Int → Int → Option ρ)) : Option ρ :=
 G.Qj ρ a0 a1 a2 a3 a4 a5 a6 a7 a8 (fun w0_0 =>
 bif w0_0 then
 G.find_in ρ a9 0 (IntKind.wrap .i64 (a0 - 1)) (fun w1_0 =>
 bif w1_0 then
 G.Q5 ρ a10 a11 a12 (fun w2_0 =>
 bif w2_0 then
 rowT [.i .i64, .i .i64, .i .i64, .i .i64, .i .i64, .i .i64, .i .i64, .b, .i .u64, .i .u64, .i .u64, .i .u64, .i .u64] a8 (IntKind.wrap .i64 (2 + a9)) fun c3 =>
 Qc_l6 G n a10 a11 a12 (((List.length (a12 : Rows)) : Nat) : Int) a0 a1 a2 a3 a4 a5 a6 a7 a8 a10 a11 a12 (fun _w4_0 _w4_1 _w4_2 _w4_3 _w4_4 _w4_5 _w4_6 _w4_7 _w4_8 _w4_9 _w4_10 _w4_11 _w4_12 _w4_13 =>
 k0 0 3) (fun w5_0 _w5_1 _w5_2 _w5_3 _w5_4 _w5_5 _w5_6 _w5_7 _w5_8 _w5_9 _w5_10 _w5_11 _w5_12 _w5_13 =>
 k0 w5_0 0) (fun _w6_0 _w6_1 _w6_2 _w6_3 _w6_4 _w6_5 _w6_6 _w6_7 _w6_8 _w6_9 _w6_10 _w6_11 _w6_12 =>
 k0 0 3) (0, 0, c3.1, c3.2.1, c3.2.2.1, c3.2.2.2.1, c3.2.2.2.2.1, c3.2.2.2.2.2.1, c3.2.2.2.2.2.2.1, c3.2.2.2.2.2.2.2.1, c3.2.2.2.2.2.2.2.2.1, c3.2.2.2.2.2.2.2.2.2.1, c3.2.2.2.2.2.2.2.2.2.2.1, c3.2.2.2.2.2.2.2.2.2.2.2.1, c3.2.2.2.2.2.2.2.2.2.2.2.2.1)
 else k0 0 1)
 else k0 0 1)
 else k0 0 1)
def Qc_g (n : Nat) : Qc_G := ⟨Qj n, find_in n, Q5 n, find_step n, Q0c n⟩
def Qc (n : Nat) : Qc_T := fun _ρ a0 a1 a2 a3 a4 a5 a6 a7 a8 a9 a10 a11 a12 k0 => Qc_s (Qc_g n) n a0 a1 a2 a3 a4 a5 a6 a7 a8 a9 a10 a11 a12 k0
def Qc_e (n : Nat) : EK := Qc_E (Qc n)
def Qc_S (G : Qc_G) : CK := tabS [(9, Qj_E G.Qj), (63, find_in_E G.find_in), (54, Q5_E G.Q5), (65, find_step_E G.find_step), (64, Q0c_E G.Q0c)]
theorem Qc_Sok (n : Nat) : CK.OK (Qc_S (Qc_g n)) (L tab) := tabS_ok _ (List.forall_mem_cons.2 ⟨(Qj_ok n), List.forall_mem_cons.2 ⟨(find_in_ok n), List.forall_mem_cons.2 ⟨(Q5_ok n), List.forall_mem_cons.2 ⟨(find_step_ok n), List.forall_mem_cons.2 ⟨(Q0c_ok n), (fun _ h => nomatch h)⟩⟩⟩⟩⟩)
def Qc_hs : HintC := hintL [(34, [.i .i64, .i .i64, .i .i64, .i .i64, .i .i64, .i .i64, .i .i64, .b, .i .u64, .i .u64, .i .u64, .i .u64, .i .u64]), (42, [.i .i64])]
def Qc_c6 : Nat × List Nat × List Nat × MC := loopAt 6 m35
def Qc_l6_d (G : Qc_G) (n : Nat) : Go.Rv.LE := fun _ρ h K => decSt [(3, .ptr 0 5 0 (some 1) (some 0)), (8, .ptr 2 13 0 (some 1) (some 0)), (9, .b (some true)), (10, .i .i64 none), (37, .lst none none 1 none), (38, .i .i64 none), (39, .i .i64 none)] [.row 5 true false (some [[.i .i64 none, .i .i64 none, .i .i64 none, .lst none none 5 none, .lst none none 13 none]]), .row 1 true false (some [[.lst none none 1 none]]), .row 13 true false (some [[.i .i64 none, .i .i64 none, .i .i64 none, .i .i64 none, .i .i64 none, .i .i64 none, .i .i64 none, .b none, .i .u64 none, .i .u64 none, .i .u64 none, .i .u64 none, .i .u64 none]])] h fun a b => Qc_l6 G n a.2.2.2.2.1.1 a.2.2.2.2.1.2.1 a.2.2.2.2.1.2.2 a.2.2.2.2.2.1 b.1.1.1 b.1.1.2.1 b.1.1.2.2.1 b.1.1.2.2.2.1.1 b.1.1.2.2.2.1.2.1 b.1.1.2.2.2.1.2.2 b.1.1.2.2.2.2.1.1 b.1.1.2.2.2.2.1.2.1 b.1.1.2.2.2.2.1.2.2 b.2.1.1.1.1 b.2.1.1.1.2.1 b.2.1.1.1.2.2 (fun w0 w1 w2 w3 w4 w5 w6 w7 w8 w9 w10 w11 w12 w13 => K .ret ⟨[(6, .i .i64 0), (7, .i .i64 3), (10, .i .i64 w0)], [.row 5 true false [[.i .i64 b.1.1.1, .i .i64 b.1.1.2.1, .i .i64 b.1.1.2.2.1, .lst b.1.1.2.2.2.1.1 b.1.1.2.2.2.1.2.1 5 b.1.1.2.2.2.1.2.2, .lst b.1.1.2.2.2.2.1.1 b.1.1.2.2.2.2.1.2.1 13 b.1.1.2.2.2.2.1.2.2]], .row 1 true false [[.lst b.2.1.1.1.1 b.2.1.1.1.2.1 1 b.2.1.1.1.2.2]], .row 13 true false [[.i .i64 w1, .i .i64 w2, .i .i64 w3, .i .i64 w4, .i .i64 w5, .i .i64 w6, .i .i64 w7, .b w8, .i .u64 w9, .i .u64 w10, .i .u64 w11, .i .u64 w12, .i .u64 w13]]]⟩) (fun w0 w1 w2 w3 w4 w5 w6 w7 w8 w9 w10 w11 w12 w13 => K (.exit 0) ⟨[(6, .u), (7, .u), (10, .i .i64 w0)], [.row 5 true false [[.i .i64 b.1.1.1, .i .i64 b.1.1.2.1, .i .i64 b.1.1.2.2.1, .lst b.1.1.2.2.2.1.1 b.1.1.2.2.2.1.2.1 5 b.1.1.2.2.2.1.2.2, .lst b.1.1.2.2.2.2.1.1 b.1.1.2.2.2.2.1.2.1 13 b.1.1.2.2.2.2.1.2.2]], .row 1 true false [[.lst b.2.1.1.1.1 b.2.1.1.1.2.1 1 b.2.1.1.1.2.2]], .row 13 true false [[.i .i64 w1, .i .i64 w2, .i .i64 w3, .i .i64 w4, .i .i64 w5, .i .i64 w6, .i .i64 w7, .b w8, .i .u64 w9, .i .u64 w10, .i .u64 w11, .i .u64 w12, .i .u64 w13]]]⟩) (fun w0 w1 w2 w3 w4 w5 w6 w7 w8 w9 w10 w11 w12 => K .ret ⟨[(6, .i .i64 0), (7, .i .i64 3), (10, .u)], [.row 5 true false [[.i .i64 b.1.1.1, .i .i64 b.1.1.2.1, .i .i64 b.1.1.2.2.1, .lst b.1.1.2.2.2.1.1 b.1.1.2.2.2.1.2.1 5 b.1.1.2.2.2.1.2.2, .lst b.1.1.2.2.2.2.1.1 b.1.1.2.2.2.2.1.2.1 13 b.1.1.2.2.2.2.1.2.2]], .row 1 true false [[.lst b.2.1.1.1.1 b.2.1.1.1.2.1 1 b.2.1.1.1.2.2]], .row 13 true false [[.i .i64 w0, .i .i64 w1, .i .i64 w2, .i .i64 w3, .i .i64 w4, .i .i64 w5, .i .i64 w6, .b w7, .i .u64 w8, .i .u64 w9, .i .u64 w10, .i .u64 w11, .i .u64 w12]]]⟩) (a.2.2.2.1, a.2.2.2.2.2.2.1, b.2.2.1.1.1, b.2.2.1.1.2.1, b.2.2.1.1.2.2.1, b.2.2.1.1.2.2.2.1, b.2.2.1.1.2.2.2.2.1, b.2.2.1.1.2.2.2.2.2.1, b.2.2.1.1.2.2.2.2.2.2.1, b.2.2.1.1.2.2.2.2.2.2.2.1, b.2.2.1.1.2.2.2.2.2.2.2.2.1, b.2.2.1.1.2.2.2.2.2.2.2.2.2.1, b.2.2.1.1.2.2.2.2.2.2.2.2.2.2.1, b.2.2.1.1.2.2.2.2.2.2.2.2.2.2.2.1, b.2.2.1.1.2.2.2.2.2.2.2.2.2.2.2.2.1)
def Qc_d6 (G : Qc_G) (n : Nat) : Go.Rv.LE := Qc_l6_d G n
def Qc_lp (G : Qc_G) (n : Nat) : LK := tabL [(6, Qc_d6 G n)]
theorem Qc_l6_k (G : Qc_G) {ρ : Type} (n : Nat) (p0 p1 : Bool) (p2 : Rows) (p3 p4 : Int) (p5 p6 : Int) (p7 p8 : Bool) (p9 : Rows) (p10 p11 : Bool) (p12 : Rows) (p13 p14 : Bool) (p15 : Rows) (K : Ex → St → Option ρ) (N : St → Option ρ) : ∀ v, roundC (Qc_S G) Qc_hs (Qc_lp G n) Qc_c6 3 N K (Qc_l6_enc p0 p1 p2 p3 p4 p5 p6 p7 p8 p9 p10 p11 p12 p13 p14 p15 v) = Qc_l6_s G n p0 p1 p2 p3 p4 p5 p6 p7 p8 p9 p10 p11 p12 p13 p14 p15 (fun w0 w1 w2 w3 w4 w5 w6 w7 w8 w9 w10 w11 w12 w13 => K .ret ⟨[(6, .i .i64 0), (7, .i .i64 3), (10, .i .i64 w0)], [.row 5 true false [[.i .i64 p4, .i .i64 p5, .i .i64 p6, .lst p7 p8 5 p9, .lst p10 p11 13 p12]], .row 1 true false [[.lst p13 p14 1 p15]], .row 13 true false [[.i .i64 w1, .i .i64 w2, .i .i64 w3, .i .i64 w4, .i .i64 w5, .i .i64 w6, .i .i64 w7, .b w8, .i .u64 w9, .i .u64 w10, .i .u64 w11, .i .u64 w12, .i .u64 w13]]]⟩) (fun w0 w1 w2 w3 w4 w5 w6 w7 w8 w9 w10 w11 w12 w13 => K (.exit 0) ⟨[(6, .u), (7, .u), (10, .i .i64 w0)], [.row 5 true false [[.i .i64 p4, .i .i64 p5, .i .i64 p6, .lst p7 p8 5 p9, .lst p10 p11 13 p12]], .row 1 true false [[.lst p13 p14 1 p15]], .row 13 true false [[.i .i64 w1, .i .i64 w2, .i .i64 w3, .i .i64 w4, .i .i64 w5, .i .i64 w6, .i .i64 w7, .b w8, .i .u64 w9, .i .u64 w10, .i .u64 w11, .i .u64 w12, .i .u64 w13]]]⟩) (fun w0 w1 w2 w3 w4 w5 w6 w7 w8 w9 w10 w11 w12 => K .ret ⟨[(6, .i .i64 0), (7, .i .i64 3), (10, .u)], [.row 5 true false [[.i .i64 p4, .i .i64 p5, .i .i64 p6, .lst p7 p8 5 p9, .lst p10 p11 13 p12]], .row 1 true false [[.lst p13 p14 1 p15]], .row 13 true false [[.i .i64 w0, .i .i64 w1, .i .i64 w2, .i .i64 w3, .i .i64 w4, .i .i64 w5, .i .i64 w6, .b w7, .i .u64 w8, .i .u64 w9, .i .u64 w10, .i .u64 w11, .i .u64 w12]]]⟩) (fun v => N (Qc_l6_enc p0 p1 p2 p3 p4 p5 p6 p7 p8 p9 p10 p11 p12 p13 p14 p15 v)) v
 | v => by kernel_rfl
theorem Qc_l6_dok (n : Nat) : LE.OK (Qc_l6_d (Qc_g n) n) (L tab) Qc_c6 := LE.shp (fun _ _ _ => rfl) fun ρ K y a b e => LE.rounds (Qc_Sok n) (LK.of (l := []) (by kernel_rfl) ((fun _ h => nomatch h))) (Qc_l6_k (Qc_g n) n _ _ _ _ _ _ _ _ _ _ _ _ _ _ _ _ K) (by kernel_rfl) (by kernel_rfl) e
theorem Qc_d6_ok (n : Nat) : LE.OK (Qc_d6 (Qc_g n) n) (L tab) Qc_c6 := Qc_l6_dok n
theorem Qc_k (G : Qc_G) {ρ : Type} (n : Nat) (a0 a1 a2 : Int) (a3 a4 : Bool) (a5 : Rows) (a6 a7 : Bool) (a8 : Rows) (a9 : Int) (a10 a11 : Bool) (a12 : Rows) (K : Res → Option ρ) : runC (Qc_S G) Qc_hs (Qc_lp G n) m35 [.agg [.i .i64 a0, .i .i64 a1, .i .i64 a2, .lst a3 a4 5 a5, .lst a6 a7 13 a8], .i .i64 a9, .agg [.lst a10 a11 1 a12]] K = Qc_s G n a0 a1 a2 a3 a4 a5 a6 a7 a8 a9 a10 a11 a12 (fun w0 w1 => K ⟨.tup [.i .i64 w0, .i .i64 w1], [], []⟩) := by kernel_rfl
theorem Qc_ok (n : Nat) : EK.OK (Qc_e n) 35 (L tab) := EK.shp (fun _ _ _ => rfl) fun ρ K y c e => EK.run (Qc_Sok n) (by kernel_rfl) (MF.LKOK.of (LK.of (l := [Qc_c6]) (by kernel_rfl) (List.forall_mem_cons.2 ⟨LE.at (e := Qc_d6 (Qc_g n) n) (by kernel_rfl) (Qc_d6_ok n), (fun _ h => nomatch h)⟩))) (Qc_k (Qc_g n) n _ _ _ _ _ _ _ _ _ _ _ _ _ K) (by kernel_rfl) e
abbrev Qt_T : Type 1 := (ρ : Type) → Int → Int → Int → Bool → Bool → Rows → Bool → Bool → Rows → Int → Bool → Bool → Rows → (Int → Int → Int → Int → Int → Int → Option ρ) → Option ρ
def Qt_E (G : Qt_T) : EK := fun ρ args K => decL [.agg [.i .i64 none, .i .i64 none, .i .i64 none, .lst none none 5 none, .lst none none 13 none], .i .i64 none, .agg [.lst none none 1 none]] args fun c => G ρ c.1.1 c.1.2.1 c.1.2.2.1 c.1.2.2.2.1.1 c.1.2.2.2.1.2.1 c.1.2.2.2.1.2.2 c.1.2.2.2.2.1.1 c.1.2.2.2.2.1.2.1 c.1.2.2.2.2.1.2.2 c.2.1 c.2.2.1.1.1 c.2.2.1.1.2.1 c.2.2.1.1.2.2 (fun w0 w1 w2 w3 w4 w5 => K ⟨.tup [.i .i64 w0, .agg [.i .i64 w1, .i .i64 w2, .i .i64 w3, .i .i64 w4], .i .i64 w5], [], []⟩)
structure Qt_G where
 mk ::
 Qc : Qc_T
 cap_None : cap_None_T
def Qt_s (G : Qt_G) {ρ : Type} (_n : Nat) (a0 a1 a2 : Int) (a3 a4 : Bool) (a5 : Rows) (a6 a7 : Bool) (a8 : Rows) (a9 : Int) (a10 a11 : Bool) (a12 : Rows) (k0 : (Int → Int → Int → Int → Int → Int → Option ρ)) : Option ρ :=
 G.Qc ρ a0 a1 a2 a3 a4 a5 a6 a7 a8 a9 a10 a11 a12 (fun w0_0 w0_1 =>
 bif ((w0_1 : Int) != 0) then
 k0 0 0 0 0 0 w0_1
 else rowT [.i .i64, .i .i64, .i .i64, .i .i64, .i .i64] a5 w0_0 fun c1 =>
 G.cap_None ρ c1.1 c1.2.1 c1.2.2.1 c1.2.2.2.1 (fun w2_0 =>
 bif w2_0 then
 k0 0 0 0 0 0 4
 else rowT [.i .i64, .i .i64, .i .i64, .i .i64, .i .i64] a5 w0_0 fun c3 =>
 k0 w0_0 c3.1 c3.2.1 c3.2.2.1 c3.2.2.2.1 0))
def Qt_g (n : Nat) : Qt_G := ⟨Qc n, cap_None n⟩
def Qt (n : Nat) : Qt_T := fun _ρ a0 a1 a2 a3 a4 a5 a6 a7 a8 a9 a10 a11 a12 k0 => Qt_s (Qt_g n) n a0 a1 a2 a3 a4 a5 a6 a7 a8 a9 a10 a11 a12 k0
def Qt_e (n : Nat) : EK := Qt_E (Qt n)
def Qt_S (G : Qt_G) : CK := tabS [(35, Qc_E G.Qc), (36, cap_None_E G.cap_None)]
theorem Qt_Sok (n : Nat) : CK.OK (Qt_S (Qt_g n)) (L tab) := tabS_ok _ (List.forall_mem_cons.2 ⟨(Qc_ok n), List.forall_mem_cons.2 ⟨(cap_None_ok n), (fun _ h => nomatch h)⟩⟩)
def Qt_hs : HintC := hintL [(27, [.i .i64, .i .i64, .i .i64, .i .i64, .i .i64]), (36, [.i .i64, .i .i64, .i .i64, .i .i64, .i .i64])]
def Qt_lp (_G : Qt_G) (_n : Nat) : LK := tabL []
theorem Qt_k (G : Qt_G) {ρ : Type} (n : Nat) (a0 a1 a2 : Int) (a3 a4 : Bool) (a5 : Rows) (a6 a7 : Bool) (a8 : Rows) (a9 : Int) (a10 a11 : Bool) (a12 : Rows) (K : Res → Option ρ) : runC (Qt_S G) Qt_hs (Qt_lp G n) m16 [.agg [.i .i64 a0, .i .i64 a1, .i .i64 a2, .lst a3 a4 5 a5, .lst a6 a7 13 a8], .i .i64 a9, .agg [.lst a10 a11 1 a12]] K = Qt_s G n a0 a1 a2 a3 a4 a5 a6 a7 a8 a9 a10 a11 a12 (fun w0 w1 w2 w3 w4 w5 => K ⟨.tup [.i .i64 w0, .agg [.i .i64 w1, .i .i64 w2, .i .i64 w3, .i .i64 w4], .i .i64 w5], [], []⟩) := by kernel_rfl
theorem Qt_ok (n : Nat) : EK.OK (Qt_e n) 16 (L tab) := EK.shp (fun _ _ _ => rfl) fun ρ K y c e => EK.run (Qt_Sok n) (by kernel_rfl) (MF.LKOK.of (LK.of (l := []) (by kernel_rfl) ((fun _ h => nomatch h)))) (Qt_k (Qt_g n) n _ _ _ _ _ _ _ _ _ _ _ _ _ K) (by kernel_rfl) e
abbrev Qz_T : Type 1 := (ρ : Type) → Int → Int → Int → Bool → Bool → Rows → Bool → Bool → Rows → Int → Bool → Bool → Rows → (Int → Int → Option ρ) → Option ρ
def Qz_E (G : Qz_T) : EK := fun ρ args K => decL [.agg [.i .i64 none, .i .i64 none, .i .i64 none, .lst none none 5 none, .lst none none 13 none], .i .i64 none, .agg [.lst none none 1 none]] args fun c => G ρ c.1.1 c.1.2.1 c.1.2.2.1 c.1.2.2.2.1.1 c.1.2.2.2.1.2.1 c.1.2.2.2.1.2.2 c.1.2.2.2.2.1.1 c.1.2.2.2.2.1.2.1 c.1.2.2.2.2.1.2.2 c.2.1 c.2.2.1.1.1 c.2.2.1.1.2.1 c.2.2.1.1.2.2 (fun w0 w1 => K ⟨.tup [.i .i64 w0, .i .i64 w1], [], []⟩)
structure Qz_G where
 mk ::
 Qc : Qc_T
 cap_None : cap_None_T
def Qz_s (G : Qz_G) {ρ : Type} (_n : Nat) (a0 a1 a2 : Int) (a3 a4 : Bool) (a5 : Rows) (a6 a7 : Bool) (a8 : Rows) (a9 : Int) (a10 a11 : Bool) (a12 : Rows) (k0 : (Int → Int → Option ρ)) : Option ρ :=
 G.Qc ρ a0 a1 a2 a3 a4 a5 a6 a7 a8 a9 a10 a11 a12 (fun w0_0 w0_1 =>
 bif ((w0_1 : Int) != 0) then
 k0 0 w0_1
 else rowT [.i .i64, .i .i64, .i .i64, .i .i64, .i .i64] a5 w0_0 fun c1 =>
 G.cap_None ρ c1.1 c1.2.1 c1.2.2.1 c1.2.2.2.1 (fun w2_0 =>
 bif w2_0 then
 k0 w0_0 0
 else k0 0 5))
def Qz_g (n : Nat) : Qz_G := ⟨Qc n, cap_None n⟩
def Qz (n : Nat) : Qz_T := fun _ρ a0 a1 a2 a3 a4 a5 a6 a7 a8 a9 a10 a11 a12 k0 => Qz_s (Qz_g n) n a0 a1 a2 a3 a4 a5 a6 a7 a8 a9 a10 a11 a12 k0
def Qz_e (n : Nat) : EK := Qz_E (Qz n)
def Qz_S (G : Qz_G) : CK := tabS [(35, Qc_E G.Qc), (36, cap_None_E G.cap_None)]
theorem Qz_Sok (n : Nat) : CK.OK (Qz_S (Qz_g n)) (L tab) := tabS_ok _ (List.forall_mem_cons.2 ⟨(Qc_ok n), List.forall_mem_cons.2 ⟨(cap_None_ok n), (fun _ h => nomatch h)⟩⟩)
def Qz_hs : HintC := hintL [(25, [.i .i64, .i .i64, .i .i64, .i .i64, .i .i64])]
def Qz_lp (_G : Qz_G) (_n : Nat) : LK := tabL []
theorem Qz_k (G : Qz_G) {ρ : Type} (n : Nat) (a0 a1 a2 : Int) (a3 a4 : Bool) (a5 : Rows) (a6 a7 : Bool) (a8 : Rows) (a9 : Int) (a10 a11 : Bool) (a12 : Rows) (K : Res → Option ρ) : runC (Qz_S G) Qz_hs (Qz_lp G n) m88 [.agg [.i .i64 a0, .i .i64 a1, .i .i64 a2, .lst a3 a4 5 a5, .lst a6 a7 13 a8], .i .i64 a9, .agg [.lst a10 a11 1 a12]] K = Qz_s G n a0 a1 a2 a3 a4 a5 a6 a7 a8 a9 a10 a11 a12 (fun w0 w1 => K ⟨.tup [.i .i64 w0, .i .i64 w1], [], []⟩) := by kernel_rfl
theorem Qz_ok (n : Nat) : EK.OK (Qz_e n) 88 (L tab) := EK.shp (fun _ _ _ => rfl) fun ρ K y c e => EK.run (Qz_Sok n) (by kernel_rfl) (MF.LKOK.of (LK.of (l := []) (by kernel_rfl) ((fun _ h => nomatch h)))) (Qz_k (Qz_g n) n _ _ _ _ _ _ _ _ _ _ _ _ _ K) (by kernel_rfl) e
abbrev Q0x_T : Type 1 := (ρ : Type) → Int → Int → (Int → Bool → Option ρ) → Option ρ
def Q0x_E (G : Q0x_T) : EK := fun ρ args K => decL [.i .i64 none, .i .i64 none] args fun c => G ρ c.1 c.2.1 (fun w0 w1 => K ⟨.tup [.i .i64 w0, .b w1], [], []⟩)
structure Q0x_G where
 mk ::
 thing_in : thing_in_T
def Q0x_s (G : Q0x_G) {ρ : Type} (_n : Nat) (a0 a1 : Int) (k0 : (Int → Bool → Option ρ)) : Option ρ :=
 bif ((a0 : Int) == 1) then
 G.thing_in ρ a1 1 4096 (fun w0_0 =>
 bif w0_0 then
 k0 a1 true
 else k0 0 false)
 else bif ((a0 : Int) == 2) then
 G.thing_in ρ a1 1 4 (fun w1_0 =>
 bif w1_0 then
 chk (decide (0 ≤ (a1 : Int))) <|
 k0 (IntKind.wrap .i64 ((1 : Int) * 2 ^ (min a1.toNat (IntKind.bits .i64)))) true
 else k0 0 false)
 else bif ((a0 : Int) == 3) then
 k0 1 true
 else bif ((a0 : Int) == 4) then
 k0 1 true
 else bif ((a0 : Int) == 5) then
 k0 2 true
 else k0 0 false
def Q0x_g (n : Nat) : Q0x_G := ⟨thing_in n⟩
def Q0x (n : Nat) : Q0x_T := fun _ρ a0 a1 k0 => Q0x_s (Q0x_g n) n a0 a1 k0
def Q0x_e (n : Nat) : EK := Q0x_E (Q0x n)
def Q0x_S (G : Q0x_G) : CK := tabS [(78, thing_in_E G.thing_in)]
theorem Q0x_Sok (n : Nat) : CK.OK (Q0x_S (Q0x_g n)) (L tab) := tabS_ok _ (List.forall_mem_cons.2 ⟨(thing_in_ok n), (fun _ h => nomatch h)⟩)
def Q0x_hs : HintC := hintL []
def Q0x_lp (_G : Q0x_G) (_n : Nat) : LK := tabL []
theorem Q0x_k (G : Q0x_G) {ρ : Type} (n : Nat) (a0 a1 : Int) (K : Res → Option ρ) : runC (Q0x_S G) Q0x_hs (Q0x_lp G n) m89 [.i .i64 a0, .i .i64 a1] K = Q0x_s G n a0 a1 (fun w0 w1 => K ⟨.tup [.i .i64 w0, .b w1], [], []⟩) := by kernel_rfl
theorem Q0x_ok (n : Nat) : EK.OK (Q0x_e n) 89 (L tab) := EK.shp (fun _ _ _ => rfl) fun ρ K y c e => EK.run (Q0x_Sok n) (by kernel_rfl) (MF.LKOK.of (LK.of (l := []) (by kernel_rfl) ((fun _ h => nomatch h)))) (Q0x_k (Q0x_g n) n _ _ K) (by kernel_rfl) e
abbrev Qx_T : Type 1 := (ρ : Type) → Bool → Bool → Rows → Int → (Bool → Option ρ) → Option ρ
def Qx_E (G : Qx_T) : EK := fun ρ args K => decL [.agg [.lst none none 1 none], .i .i64 none] args fun c => G ρ c.1.1.1 c.1.1.2.1 c.1.1.2.2 c.2.1 (fun w0 => K ⟨.b w0, [], []⟩)
structure Qx_G where
 mk ::
 Q1 : Q1_T
 forest_Forest_is : forest_Forest_is_T
def Qx_s (G : Qx_G) {ρ : Type} (_n : Nat) (a0 a1 : Bool) (a2 : Rows) (a3 : Int) (k0 : (Bool → Option ρ)) : Option ρ :=
 G.Q1 ρ a0 a1 a2 (fun w0_0 =>
 bif w0_0 then
 G.forest_Forest_is ρ a0 a1 a2 a3 (fun w1_0 =>
 bif w1_0 then
 k0 true
 else k0 false)
 else k0 false)
def Qx_g (n : Nat) : Qx_G := ⟨Q1 n, forest_Forest_is n⟩
def Qx (n : Nat) : Qx_T := fun _ρ a0 a1 a2 a3 k0 => Qx_s (Qx_g n) n a0 a1 a2 a3 k0
def Qx_e (n : Nat) : EK := Qx_E (Qx n)
def Qx_S (G : Qx_G) : CK := tabS [(24, Q1_E G.Q1), (50, forest_Forest_is_E G.forest_Forest_is)]
theorem Qx_Sok (n : Nat) : CK.OK (Qx_S (Qx_g n)) (L tab) := tabS_ok _ (List.forall_mem_cons.2 ⟨(Q1_ok n), List.forall_mem_cons.2 ⟨(forest_Forest_is_ok n), (fun _ h => nomatch h)⟩⟩)
def Qx_hs : HintC := hintL []
def Qx_lp (_G : Qx_G) (_n : Nat) : LK := tabL []
theorem Qx_k (G : Qx_G) {ρ : Type} (n : Nat) (a0 a1 : Bool) (a2 : Rows) (a3 : Int) (K : Res → Option ρ) : runC (Qx_S G) Qx_hs (Qx_lp G n) m62 [.agg [.lst a0 a1 1 a2], .i .i64 a3] K = Qx_s G n a0 a1 a2 a3 (fun w0 => K ⟨.b w0, [], []⟩) := by kernel_rfl
theorem Qx_ok (n : Nat) : EK.OK (Qx_e n) 62 (L tab) := EK.shp (fun _ _ _ => rfl) fun ρ K y c e => EK.run (Qx_Sok n) (by kernel_rfl) (MF.LKOK.of (LK.of (l := []) (by kernel_rfl) ((fun _ h => nomatch h)))) (Qx_k (Qx_g n) n _ _ _ _ K) (by kernel_rfl) e
abbrev forest_Forest_of_T : Type 1 := (ρ : Type) → Bool → Bool → Rows → Int → (Option ρ) → (Nat → Nat → Rows → Option ρ) → Option ρ
def forest_Forest_of_E (G : forest_Forest_of_T) : EK := fun ρ args K => decL [.agg [.lst none none 1 none], .i .i64 none] args fun c => G ρ c.1.1.1 c.1.1.2.1 c.1.1.2.2 c.2.1 (K ⟨.lst true true 0 [], [], []⟩) (fun w0 w1 w2 => K ⟨.sl 0 w0 1 0 w1, [.row 1 true false w2], []⟩)
structure forest_Forest_of_G where
 mk ::
abbrev forest_Forest_of_l3_V : Type := (Int) ⊕ (Nat × Nat × Int × Rows)
def forest_Forest_of_l3_s (_G : forest_Forest_of_G) {ρ : Type} (_n : Nat) (p0 : Int) (_p1 _p2 : Bool) (p3 : Rows) (p4 : Int) (_p5 _p6 : Bool) (_p7 : Rows) (k0 : (Option ρ)) (k1 : (Nat → Nat → Rows → Option ρ)) (rec' : forest_Forest_of_l3_V → Option ρ) : forest_Forest_of_l3_V → Option ρ
 | (.inl v) =>
 bif decide ((v : Int) < p4) then
 rowT [.i .i64] p3 v fun c0 =>
 bif ((c0.1 : Int) == p0) then
 rec' (.inr (1, 1, (IntKind.wrap .i64 (v + 1)), [[.i .i64 v]]))
 else rec' (.inl ((IntKind.wrap .i64 (v + 1))))
 else k0
 | (.inr v) =>
 bif decide ((v.2.2.1 : Int) < p4) then
 rowT [.i .i64] p3 v.2.2.1 fun c1 =>
 bif ((c1.1 : Int) == p0) then
 chk (((List.length (v.2.2.2 : Rows)) : Nat) == v.1) <|
 chk ((v.2.1 : Nat) == v.1) <|
 chk (decide ((v.1 + 1) ≤ most)) <|
 rec' (.inr ((v.1 + 1), (v.1 + 1), (IntKind.wrap .i64 (v.2.2.1 + 1)), (v.2.2.2 ++ [[.i .i64 v.2.2.1]])))
 else rec' (.inr (v.1, v.2.1, (IntKind.wrap .i64 (v.2.2.1 + 1)), v.2.2.2))
 else k1 v.1 v.2.1 v.2.2.2
def forest_Forest_of_l3 (G : forest_Forest_of_G) {ρ : Type} (n : Nat) (p0 : Int) (p1 p2 : Bool) (p3 : Rows) (p4 : Int) (p5 p6 : Bool) (p7 : Rows) (k0 : (Option ρ)) (k1 : (Nat → Nat → Rows → Option ρ)) (v : forest_Forest_of_l3_V) : Option ρ := fuelN (forest_Forest_of_l3_s G n p0 p1 p2 p3 p4 p5 p6 p7 k0 k1) n v
def forest_Forest_of_l3_enc (p0 : Int) (p1 p2 : Bool) (p3 : Rows) (p4 : Int) (p5 p6 : Bool) (p7 : Rows) : forest_Forest_of_l3_V → St
 | (.inl v) => ⟨[(1, .i .i64 p0), (5, .lst true true 0 []), (9, .lst p1 p2 1 p3), (10, .i .i64 p4), (11, .i .i64 v)], [.row 1 true false [[.lst p5 p6 1 p7]]]⟩
 | (.inr v) => ⟨[(1, .i .i64 p0), (5, .sl 1 v.1 1 0 v.2.1), (9, .lst p1 p2 1 p3), (10, .i .i64 p4), (11, .i .i64 v.2.2.1)], [.row 1 true false [[.lst p5 p6 1 p7]], .row 1 true false v.2.2.2]⟩
def forest_Forest_of_s (G : forest_Forest_of_G) {ρ : Type} (n : Nat) (a0 a1 : Bool) (a2 : Rows) (a3 : Int) (k0 : (Option ρ)) (k1 : (Nat → Nat → Rows → Option ρ)) : Option ρ :=
 forest_Forest_of_l3 G n a3 a0 a1 a2 (((List.length (a2 : Rows)) : Nat) : Int) a0 a1 a2 (k0) (fun w1_0 w1_1 w1_2 =>
 k1 w1_0 w1_1 w1_2) (.inl (0))
def forest_Forest_of_g (_n : Nat) : forest_Forest_of_G := ⟨⟩
def forest_Forest_of (n : Nat) : forest_Forest_of_T := fun _ρ a0 a1 a2 a3 k0 k1 => forest_Forest_of_s (forest_Forest_of_g n) n a0 a1 a2 a3 k0 k1
def forest_Forest_of_e (n : Nat) : EK := forest_Forest_of_E (forest_Forest_of n)
def forest_Forest_of_S (_G : forest_Forest_of_G) : CK := tabS []
theorem forest_Forest_of_Sok (n : Nat) : CK.OK (forest_Forest_of_S (forest_Forest_of_g n)) (L tab) := tabS_ok _ ((fun _ h => nomatch h))
def forest_Forest_of_hs : HintC := hintL [(14, [.i .i64])]
def forest_Forest_of_c3 : Nat × List Nat × List Nat × MC := loopAt 3 m121
def forest_Forest_of_l3_d (G : forest_Forest_of_G) (n : Nat) : Go.Rv.LE := fun _ρ h K => decSt [(1, .i .i64 none), (5, .lst (some true) (some true) 0 (some [])), (9, .lst none none 1 none), (10, .i .i64 none), (11, .i .i64 none)] [.row 1 true false (some [[.lst none none 1 none]])] h fun a b => forest_Forest_of_l3 G n a.1 a.2.2.1.1 a.2.2.1.2.1 a.2.2.1.2.2 a.2.2.2.1 b.1.1.1.1 b.1.1.1.2.1 b.1.1.1.2.2 (K (.exit 0) ⟨[(5, .lst true true 0 [])], [.row 1 true false [[.lst b.1.1.1.1 b.1.1.1.2.1 1 b.1.1.1.2.2]]]⟩) (fun w0 w1 w2 => K (.exit 0) ⟨[(5, .sl 1 w0 1 0 w1)], [.row 1 true false [[.lst b.1.1.1.1 b.1.1.1.2.1 1 b.1.1.1.2.2]], .row 1 true false w2]⟩) (.inl (a.2.2.2.2.1))
def forest_Forest_of_d3 (G : forest_Forest_of_G) (n : Nat) : Go.Rv.LE := forest_Forest_of_l3_d G n
def forest_Forest_of_lp (G : forest_Forest_of_G) (n : Nat) : LK := tabL [(3, forest_Forest_of_d3 G n)]
theorem forest_Forest_of_l3_k (G : forest_Forest_of_G) {ρ : Type} (n : Nat) (p0 : Int) (p1 p2 : Bool) (p3 : Rows) (p4 : Int) (p5 p6 : Bool) (p7 : Rows) (K : Ex → St → Option ρ) (N : St → Option ρ) : ∀ v, roundC (forest_Forest_of_S G) forest_Forest_of_hs (forest_Forest_of_lp G n) forest_Forest_of_c3 1 N K (forest_Forest_of_l3_enc p0 p1 p2 p3 p4 p5 p6 p7 v) = forest_Forest_of_l3_s G n p0 p1 p2 p3 p4 p5 p6 p7 (K (.exit 0) ⟨[(5, .lst true true 0 [])], [.row 1 true false [[.lst p5 p6 1 p7]]]⟩) (fun w0 w1 w2 => K (.exit 0) ⟨[(5, .sl 1 w0 1 0 w1)], [.row 1 true false [[.lst p5 p6 1 p7]], .row 1 true false w2]⟩) (fun v => N (forest_Forest_of_l3_enc p0 p1 p2 p3 p4 p5 p6 p7 v)) v
 | (.inl v) => by kernel_rfl
 | (.inr v) => by kernel_rfl
theorem forest_Forest_of_l3_dok (n : Nat) : LE.OK (forest_Forest_of_l3_d (forest_Forest_of_g n) n) (L tab) forest_Forest_of_c3 := LE.shp (fun _ _ _ => rfl) fun ρ K y a b e => LE.rounds (forest_Forest_of_Sok n) (LK.of (l := []) (by kernel_rfl) ((fun _ h => nomatch h))) (forest_Forest_of_l3_k (forest_Forest_of_g n) n _ _ _ _ _ _ _ _ K) (by kernel_rfl) (by kernel_rfl) e
theorem forest_Forest_of_d3_ok (n : Nat) : LE.OK (forest_Forest_of_d3 (forest_Forest_of_g n) n) (L tab) forest_Forest_of_c3 := forest_Forest_of_l3_dok n
theorem forest_Forest_of_k (G : forest_Forest_of_G) {ρ : Type} (n : Nat) (a0 a1 : Bool) (a2 : Rows) (a3 : Int) (K : Res → Option ρ) : runC (forest_Forest_of_S G) forest_Forest_of_hs (forest_Forest_of_lp G n) m121 [.agg [.lst a0 a1 1 a2], .i .i64 a3] K = forest_Forest_of_s G n a0 a1 a2 a3 (K ⟨.lst true true 0 [], [], []⟩) (fun w0 w1 w2 => K ⟨.sl 0 w0 1 0 w1, [.row 1 true false w2], []⟩) := by kernel_rfl
theorem forest_Forest_of_ok (n : Nat) : EK.OK (forest_Forest_of_e n) 121 (L tab) := EK.shp (fun _ _ _ => rfl) fun ρ K y c e => EK.run (forest_Forest_of_Sok n) (by kernel_rfl) (MF.LKOK.of (LK.of (l := [forest_Forest_of_c3]) (by kernel_rfl) (List.forall_mem_cons.2 ⟨LE.at (e := forest_Forest_of_d3 (forest_Forest_of_g n) n) (by kernel_rfl) (forest_Forest_of_d3_ok n), (fun _ h => nomatch h)⟩))) (forest_Forest_of_k (forest_Forest_of_g n) n _ _ _ _ K) (by kernel_rfl) e
abbrev Q0t_T : Type 1 := (ρ : Type) → Bool → Bool → Rows → Int → (Option ρ) → (Nat → Nat → Rows → Option ρ) → Option ρ
def Q0t_E (G : Q0t_T) : EK := fun ρ args K => decL [.agg [.lst none none 1 none], .i .i64 none] args fun c => G ρ c.1.1.1 c.1.1.2.1 c.1.1.2.2 c.2.1 (K ⟨.lst true true 0 [], [], []⟩) (fun w0 w1 w2 => K ⟨.sl 0 w0 1 0 w1, [.row 1 true false w2], []⟩)
structure Q0t_G where
 mk ::
 Qx : Qx_T
 forest_Forest_of : forest_Forest_of_T
def Q0t_s (G : Q0t_G) {ρ : Type} (_n : Nat) (a0 a1 : Bool) (a2 : Rows) (a3 : Int) (k0 : (Option ρ)) (k1 : (Nat → Nat → Rows → Option ρ)) : Option ρ :=
 G.Qx ρ a0 a1 a2 a3 (fun w0_0 =>
 bif w0_0 then
 G.forest_Forest_of ρ a0 a1 a2 a3 (k0) (fun w2_0 w2_1 w2_2 =>
 k1 w2_0 w2_1 w2_2)
 else k0)
def Q0t_g (n : Nat) : Q0t_G := ⟨Qx n, forest_Forest_of n⟩
def Q0t (n : Nat) : Q0t_T := fun _ρ a0 a1 a2 a3 k0 k1 => Q0t_s (Q0t_g n) n a0 a1 a2 a3 k0 k1
def Q0t_e (n : Nat) : EK := Q0t_E (Q0t n)
def Q0t_S (G : Q0t_G) : CK := tabS [(62, Qx_E G.Qx), (121, forest_Forest_of_E G.forest_Forest_of)]
theorem Q0t_Sok (n : Nat) : CK.OK (Q0t_S (Q0t_g n)) (L tab) := tabS_ok _ (List.forall_mem_cons.2 ⟨(Qx_ok n), List.forall_mem_cons.2 ⟨(forest_Forest_of_ok n), (fun _ h => nomatch h)⟩⟩)
def Q0t_hs : HintC := hintL []
def Q0t_lp (_G : Q0t_G) (_n : Nat) : LK := tabL []
theorem Q0t_k (G : Q0t_G) {ρ : Type} (n : Nat) (a0 a1 : Bool) (a2 : Rows) (a3 : Int) (K : Res → Option ρ) : runC (Q0t_S G) Q0t_hs (Q0t_lp G n) m109 [.agg [.lst a0 a1 1 a2], .i .i64 a3] K = Q0t_s G n a0 a1 a2 a3 (K ⟨.lst true true 0 [], [], []⟩) (fun w0 w1 w2 => K ⟨.sl 0 w0 1 0 w1, [.row 1 true false w2], []⟩) := by kernel_rfl
theorem Q0t_ok (n : Nat) : EK.OK (Q0t_e n) 109 (L tab) := EK.shp (fun _ _ _ => rfl) fun ρ K y c e => EK.run (Q0t_Sok n) (by kernel_rfl) (MF.LKOK.of (LK.of (l := []) (by kernel_rfl) ((fun _ h => nomatch h)))) (Q0t_k (Q0t_g n) n _ _ _ _ K) (by kernel_rfl) e
abbrev Q0w_T : Type 1 := (ρ : Type) → Int → Int → Int → Bool → Bool → Rows → Bool → Bool → Rows → Int → (Int → Option ρ) → Option ρ
def Q0w_E (G : Q0w_T) : EK := fun ρ args K => decL [.agg [.i .i64 none, .i .i64 none, .i .i64 none, .lst none none 5 none, .lst none none 13 none], .i .i64 none] args fun c => G ρ c.1.1 c.1.2.1 c.1.2.2.1 c.1.2.2.2.1.1 c.1.2.2.2.1.2.1 c.1.2.2.2.1.2.2 c.1.2.2.2.2.1.1 c.1.2.2.2.2.1.2.1 c.1.2.2.2.2.1.2.2 c.2.1 (fun w0 => K ⟨.i .i64 w0, [], []⟩)
structure Q0w_G where
 mk ::
 Qj : Qj_T
 Q8 : Q8_T
 Q0t : Q0t_T
def Q0w_s (G : Q0w_G) {ρ : Type} (_n : Nat) (a0 a1 a2 : Int) (a3 a4 : Bool) (a5 : Rows) (a6 a7 : Bool) (a8 : Rows) (a9 : Int) (k0 : (Int → Option ρ)) : Option ρ :=
 G.Qj ρ a0 a1 a2 a3 a4 a5 a6 a7 a8 (fun w0_0 =>
 bif w0_0 then
 bif decide ((a9 : Int) < 0) then
 k0 0
 else bif decide ((a9 : Int) ≥ (((List.length (a5 : Rows)) : Nat) : Int)) then
 k0 0
 else rowT [.i .i64, .i .i64, .i .i64, .i .i64, .i .i64] a5 a9 fun c1 =>
 bif ((c1.1 : Int) != 1) then
 k0 0
 else G.Q8 ρ a0 a1 a2 a3 a4 a5 a6 a7 a8 (fun w2_0 w2_1 w2_2 =>
 G.Q0t ρ w2_0 w2_1 w2_2 a9 (k0 0) (fun _w4_0 w4_1 _w4_2 =>
 bif ((((w4_1 : Nat) : Int) : Int) == 0) then
 k0 0
 else rowT [.i .i64, .i .i64, .i .i64, .i .i64, .i .i64] a5 a9 fun c5 =>
 rowT [.i .i64, .i .i64, .i .i64, .i .i64, .i .i64, .i .i64, .i .i64, .b, .i .u64, .i .u64, .i .u64, .i .u64, .i .u64] a8 c5.2.1 fun c6 =>
 k0 c6.2.2.2.2.1))
 else k0 0)
def Q0w_g (n : Nat) : Q0w_G := ⟨Qj n, Q8 n, Q0t n⟩
def Q0w (n : Nat) : Q0w_T := fun _ρ a0 a1 a2 a3 a4 a5 a6 a7 a8 a9 k0 => Q0w_s (Q0w_g n) n a0 a1 a2 a3 a4 a5 a6 a7 a8 a9 k0
def Q0w_e (n : Nat) : EK := Q0w_E (Q0w n)
def Q0w_S (G : Q0w_G) : CK := tabS [(9, Qj_E G.Qj), (25, Q8_E G.Q8), (109, Q0t_E G.Q0t)]
theorem Q0w_Sok (n : Nat) : CK.OK (Q0w_S (Q0w_g n)) (L tab) := tabS_ok _ (List.forall_mem_cons.2 ⟨(Qj_ok n), List.forall_mem_cons.2 ⟨(Q8_ok n), List.forall_mem_cons.2 ⟨(Q0t_ok n), (fun _ h => nomatch h)⟩⟩⟩)
def Q0w_hs : HintC := hintL [(23, [.i .i64, .i .i64, .i .i64, .i .i64, .i .i64]), (40, [.i .i64, .i .i64, .i .i64, .i .i64, .i .i64]), (44, [.i .i64, .i .i64, .i .i64, .i .i64, .i .i64, .i .i64, .i .i64, .b, .i .u64, .i .u64, .i .u64, .i .u64, .i .u64])]
def Q0w_lp (_G : Q0w_G) (_n : Nat) : LK := tabL []
theorem Q0w_k (G : Q0w_G) {ρ : Type} (n : Nat) (a0 a1 a2 : Int) (a3 a4 : Bool) (a5 : Rows) (a6 a7 : Bool) (a8 : Rows) (a9 : Int) (K : Res → Option ρ) : runC (Q0w_S G) Q0w_hs (Q0w_lp G n) m90 [.agg [.i .i64 a0, .i .i64 a1, .i .i64 a2, .lst a3 a4 5 a5, .lst a6 a7 13 a8], .i .i64 a9] K = Q0w_s G n a0 a1 a2 a3 a4 a5 a6 a7 a8 a9 (fun w0 => K ⟨.i .i64 w0, [], []⟩) := by kernel_rfl
theorem Q0w_ok (n : Nat) : EK.OK (Q0w_e n) 90 (L tab) := EK.shp (fun _ _ _ => rfl) fun ρ K y c e => EK.run (Q0w_Sok n) (by kernel_rfl) (MF.LKOK.of (LK.of (l := []) (by kernel_rfl) ((fun _ h => nomatch h)))) (Q0w_k (Q0w_g n) n _ _ _ _ _ _ _ _ _ _ K) (by kernel_rfl) e
abbrev Qs_1_T : Type 1 := (ρ : Type) → Int → Int → Int → Int → Int → Int → Int → Bool → Int → Int → Int → Int → Int → (Bool → Option ρ) → Option ρ
def Qs_1_E (G : Qs_1_T) : EK := fun ρ args K => decL [.agg [.i .i64 none, .i .i64 none, .i .i64 none, .i .i64 none, .i .i64 none, .i .i64 none, .i .i64 none, .b none, .i .u64 none, .i .u64 none, .i .u64 none, .i .u64 none, .i .u64 none]] args fun c => G ρ c.1.1 c.1.2.1 c.1.2.2.1 c.1.2.2.2.1 c.1.2.2.2.2.1 c.1.2.2.2.2.2.1 c.1.2.2.2.2.2.2.1 c.1.2.2.2.2.2.2.2.1 c.1.2.2.2.2.2.2.2.2.1 c.1.2.2.2.2.2.2.2.2.2.1 c.1.2.2.2.2.2.2.2.2.2.2.1 c.1.2.2.2.2.2.2.2.2.2.2.2.1 c.1.2.2.2.2.2.2.2.2.2.2.2.2.1 (fun w0 => K ⟨.b w0, [], []⟩)
structure Qs_1_G where
 mk ::
def Qs_1_s (_G : Qs_1_G) {ρ : Type} (_n : Nat) (a0 _a1 : Int) (_a2 _a3 : Int) (_a4 _a5 _a6 : Int) (_a7 : Bool) (_a8 _a9 : Int) (_a10 _a11 _a12 : Int) (k0 : (Bool → Option ρ)) : Option ρ :=
 bif ((a0 : Int) == 0) then
 k0 true
 else k0 false
def Qs_1_g (_n : Nat) : Qs_1_G := ⟨⟩
def Qs_1 (n : Nat) : Qs_1_T := fun _ρ a0 a1 a2 a3 a4 a5 a6 a7 a8 a9 a10 a11 a12 k0 => Qs_1_s (Qs_1_g n) n a0 a1 a2 a3 a4 a5 a6 a7 a8 a9 a10 a11 a12 k0
def Qs_1_e (n : Nat) : EK := Qs_1_E (Qs_1 n)
def Qs_1_S (_G : Qs_1_G) : CK := tabS []
theorem Qs_1_Sok (n : Nat) : CK.OK (Qs_1_S (Qs_1_g n)) (L tab) := tabS_ok _ ((fun _ h => nomatch h))
def Qs_1_hs : HintC := hintL []
def Qs_1_lp (_G : Qs_1_G) (_n : Nat) : LK := tabL []
theorem Qs_1_k (G : Qs_1_G) {ρ : Type} (n : Nat) (a0 a1 : Int) (a2 a3 : Int) (a4 a5 a6 : Int) (a7 : Bool) (a8 a9 : Int) (a10 a11 a12 : Int) (K : Res → Option ρ) : runC (Qs_1_S G) Qs_1_hs (Qs_1_lp G n) m110 [.agg [.i .i64 a0, .i .i64 a1, .i .i64 a2, .i .i64 a3, .i .i64 a4, .i .i64 a5, .i .i64 a6, .b a7, .i .u64 a8, .i .u64 a9, .i .u64 a10, .i .u64 a11, .i .u64 a12]] K = Qs_1_s G n a0 a1 a2 a3 a4 a5 a6 a7 a8 a9 a10 a11 a12 (fun w0 => K ⟨.b w0, [], []⟩) := by kernel_rfl
theorem Qs_1_ok (n : Nat) : EK.OK (Qs_1_e n) 110 (L tab) := EK.shp (fun _ _ _ => rfl) fun ρ K y c e => EK.run (Qs_1_Sok n) (by kernel_rfl) (MF.LKOK.of (LK.of (l := []) (by kernel_rfl) ((fun _ h => nomatch h)))) (Qs_1_k (Qs_1_g n) n _ _ _ _ _ _ _ _ _ _ _ _ _ K) (by kernel_rfl) e
abbrev Qo_T : Type 1 := (ρ : Type) → Bool → Bool → Rows → (Int → Option ρ) → Option ρ
def Qo_E (G : Qo_T) : EK := fun ρ args K => decL [.lst none none 13 none, .fn 110 []] args fun c => G ρ c.1.1 c.1.2.1 c.1.2.2 (fun w0 => K ⟨.i .i64 w0, [], []⟩)
structure Qo_G where
 mk ::
 Qs_1 : Qs_1_T
abbrev Qo_l2_V : Type := Int
def Qo_l2_s (G : Qo_G) {ρ : Type} (_n : Nat) (_p0 _p1 : Bool) (p2 : Rows) (p3 : Int) (k0 : (Int → Option ρ)) (k1 : (Option ρ)) (rec' : Qo_l2_V → Option ρ) : Qo_l2_V → Option ρ
 | v =>
 bif decide ((v : Int) < p3) then
 rowT [.i .i64, .i .i64, .i .i64, .i .i64, .i .i64, .i .i64, .i .i64, .b, .i .u64, .i .u64, .i .u64, .i .u64, .i .u64] p2 v fun c0 =>
 G.Qs_1 ρ c0.1 c0.2.1 c0.2.2.1 c0.2.2.2.1 c0.2.2.2.2.1 c0.2.2.2.2.2.1 c0.2.2.2.2.2.2.1 c0.2.2.2.2.2.2.2.1 c0.2.2.2.2.2.2.2.2.1 c0.2.2.2.2.2.2.2.2.2.1 c0.2.2.2.2.2.2.2.2.2.2.1 c0.2.2.2.2.2.2.2.2.2.2.2.1 c0.2.2.2.2.2.2.2.2.2.2.2.2.1 (fun w1_0 =>
 bif w1_0 then
 k0 v
 else rec' ((IntKind.wrap .i64 (v + 1))))
 else k1
def Qo_l2 (G : Qo_G) {ρ : Type} (n : Nat) (p0 p1 : Bool) (p2 : Rows) (p3 : Int) (k0 : (Int → Option ρ)) (k1 : (Option ρ)) (v : Qo_l2_V) : Option ρ := fuelN (Qo_l2_s G n p0 p1 p2 p3 k0 k1) n v
def Qo_l2_enc (p0 p1 : Bool) (p2 : Rows) (p3 : Int) : Qo_l2_V → St
 | v => ⟨[(0, .lst p0 p1 13 p2), (1, .fn 110 []), (7, .i .i64 p3), (8, .i .i64 v)], []⟩
def Qo_s (G : Qo_G) {ρ : Type} (n : Nat) (a0 a1 : Bool) (a2 : Rows) (k0 : (Int → Option ρ)) : Option ρ :=
 Qo_l2 G n a0 a1 a2 (((List.length (a2 : Rows)) : Nat) : Int) (fun w0_0 =>
 k0 w0_0) (k0 (-1)) (0)
def Qo_g (n : Nat) : Qo_G := ⟨Qs_1 n⟩
def Qo (n : Nat) : Qo_T := fun _ρ a0 a1 a2 k0 => Qo_s (Qo_g n) n a0 a1 a2 k0
def Qo_e (n : Nat) : EK := Qo_E (Qo n)
def Qo_S (G : Qo_G) : CK := tabS [(110, Qs_1_E G.Qs_1)]
theorem Qo_Sok (n : Nat) : CK.OK (Qo_S (Qo_g n)) (L tab) := tabS_ok _ (List.forall_mem_cons.2 ⟨(Qs_1_ok n), (fun _ h => nomatch h)⟩)
def Qo_hs : HintC := hintL [(14, [.i .i64, .i .i64, .i .i64, .i .i64, .i .i64, .i .i64, .i .i64, .b, .i .u64, .i .u64, .i .u64, .i .u64, .i .u64])]
def Qo_c2 : Nat × List Nat × List Nat × MC := loopAt 2 m100
def Qo_l2_d (G : Qo_G) (n : Nat) : Go.Rv.LE := fun _ρ h K => decSt [(0, .lst none none 13 none), (1, .fn 110 []), (7, .i .i64 none), (8, .i .i64 none)] [] h fun a _b => Qo_l2 G n a.1.1 a.1.2.1 a.1.2.2 a.2.2.1 (fun w0 => K .ret ⟨[(4, .i .i64 w0)], []⟩) (K (.exit 0) ⟨[(4, .u)], []⟩) (a.2.2.2.1)
def Qo_d2 (G : Qo_G) (n : Nat) : Go.Rv.LE := Qo_l2_d G n
def Qo_lp (G : Qo_G) (n : Nat) : LK := tabL [(2, Qo_d2 G n)]
theorem Qo_l2_k (G : Qo_G) {ρ : Type} (n : Nat) (p0 p1 : Bool) (p2 : Rows) (p3 : Int) (K : Ex → St → Option ρ) (N : St → Option ρ) : ∀ v, roundC (Qo_S G) Qo_hs (Qo_lp G n) Qo_c2 0 N K (Qo_l2_enc p0 p1 p2 p3 v) = Qo_l2_s G n p0 p1 p2 p3 (fun w0 => K .ret ⟨[(4, .i .i64 w0)], []⟩) (K (.exit 0) ⟨[(4, .u)], []⟩) (fun v => N (Qo_l2_enc p0 p1 p2 p3 v)) v
 | v => by kernel_rfl
theorem Qo_l2_dok (n : Nat) : LE.OK (Qo_l2_d (Qo_g n) n) (L tab) Qo_c2 := LE.shp (fun _ _ _ => rfl) fun ρ K y a b e => LE.rounds (Qo_Sok n) (LK.of (l := []) (by kernel_rfl) ((fun _ h => nomatch h))) (Qo_l2_k (Qo_g n) n _ _ _ _ K) (by kernel_rfl) (by kernel_rfl) e
theorem Qo_d2_ok (n : Nat) : LE.OK (Qo_d2 (Qo_g n) n) (L tab) Qo_c2 := Qo_l2_dok n
theorem Qo_k (G : Qo_G) {ρ : Type} (n : Nat) (a0 a1 : Bool) (a2 : Rows) (K : Res → Option ρ) : runC (Qo_S G) Qo_hs (Qo_lp G n) m100 [.lst a0 a1 13 a2, .fn 110 []] K = Qo_s G n a0 a1 a2 (fun w0 => K ⟨.i .i64 w0, [], []⟩) := by kernel_rfl
theorem Qo_ok (n : Nat) : EK.OK (Qo_e n) 100 (L tab) := EK.shp (fun _ _ _ => rfl) fun ρ K y c e => EK.run (Qo_Sok n) (by kernel_rfl) (MF.LKOK.of (LK.of (l := [Qo_c2]) (by kernel_rfl) (List.forall_mem_cons.2 ⟨LE.at (e := Qo_d2 (Qo_g n) n) (by kernel_rfl) (Qo_d2_ok n), (fun _ h => nomatch h)⟩))) (Qo_k (Qo_g n) n _ _ _ K) (by kernel_rfl) e
abbrev Qs_T : Type 1 := (ρ : Type) → Int → Int → Int → Bool → Bool → Rows → Bool → Bool → Rows → (Int → Option ρ) → Option ρ
def Qs_E (G : Qs_T) : EK := fun ρ args K => decL [.agg [.i .i64 none, .i .i64 none, .i .i64 none, .lst none none 5 none, .lst none none 13 none]] args fun c => G ρ c.1.1 c.1.2.1 c.1.2.2.1 c.1.2.2.2.1.1 c.1.2.2.2.1.2.1 c.1.2.2.2.1.2.2 c.1.2.2.2.2.1.1 c.1.2.2.2.2.1.2.1 c.1.2.2.2.2.1.2.2 (fun w0 => K ⟨.i .i64 w0, [], []⟩)
structure Qs_G where
 mk ::
 Qj : Qj_T
 Qo : Qo_T
def Qs_s (G : Qs_G) {ρ : Type} (_n : Nat) (a0 a1 a2 : Int) (a3 a4 : Bool) (a5 : Rows) (a6 a7 : Bool) (a8 : Rows) (k0 : (Int → Option ρ)) : Option ρ :=
 G.Qj ρ a0 a1 a2 a3 a4 a5 a6 a7 a8 (fun w0_0 =>
 bif w0_0 then
 G.Qo ρ a6 a7 a8 (fun w1_0 =>
 k0 w1_0)
 else k0 (-1))
def Qs_g (n : Nat) : Qs_G := ⟨Qj n, Qo n⟩
def Qs (n : Nat) : Qs_T := fun _ρ a0 a1 a2 a3 a4 a5 a6 a7 a8 k0 => Qs_s (Qs_g n) n a0 a1 a2 a3 a4 a5 a6 a7 a8 k0
def Qs_e (n : Nat) : EK := Qs_E (Qs n)
def Qs_S (G : Qs_G) : CK := tabS [(9, Qj_E G.Qj), (100, Qo_E G.Qo)]
theorem Qs_Sok (n : Nat) : CK.OK (Qs_S (Qs_g n)) (L tab) := tabS_ok _ (List.forall_mem_cons.2 ⟨(Qj_ok n), List.forall_mem_cons.2 ⟨(Qo_ok n), (fun _ h => nomatch h)⟩⟩)
def Qs_hs : HintC := hintL []
def Qs_lp (_G : Qs_G) (_n : Nat) : LK := tabL []
theorem Qs_k (G : Qs_G) {ρ : Type} (n : Nat) (a0 a1 a2 : Int) (a3 a4 : Bool) (a5 : Rows) (a6 a7 : Bool) (a8 : Rows) (K : Res → Option ρ) : runC (Qs_S G) Qs_hs (Qs_lp G n) m91 [.agg [.i .i64 a0, .i .i64 a1, .i .i64 a2, .lst a3 a4 5 a5, .lst a6 a7 13 a8]] K = Qs_s G n a0 a1 a2 a3 a4 a5 a6 a7 a8 (fun w0 => K ⟨.i .i64 w0, [], []⟩) := by kernel_rfl
theorem Qs_ok (n : Nat) : EK.OK (Qs_e n) 91 (L tab) := EK.shp (fun _ _ _ => rfl) fun ρ K y c e => EK.run (Qs_Sok n) (by kernel_rfl) (MF.LKOK.of (LK.of (l := []) (by kernel_rfl) ((fun _ h => nomatch h)))) (Qs_k (Qs_g n) n _ _ _ _ _ _ _ _ _ K) (by kernel_rfl) e
end Go.Rv
namespace Go.Rv
abbrev Qp_T : Type 1 := (ρ : Type) → Int → Int → Int → Bool → Bool → Rows → Bool → Bool → Rows → Int → (Int → Bool → Option ρ) → Option ρ
def Qp_E (G : Qp_T) : EK := fun ρ args K => decL [.agg [.i .i64 none, .i .i64 none, .i .i64 none, .lst none none 5 none, .lst none none 13 none], .i .i64 none] args fun c => G ρ c.1.1 c.1.2.1 c.1.2.2.1 c.1.2.2.2.1.1 c.1.2.2.2.1.2.1 c.1.2.2.2.1.2.2 c.1.2.2.2.2.1.1 c.1.2.2.2.2.1.2.1 c.1.2.2.2.2.1.2.2 c.2.1 (fun w0 w1 => K ⟨.tup [.i .i64 w0, .b w1], [], []⟩)
structure Qp_G where
 mk ::
 Qj : Qj_T
 Qd : Qd_T
abbrev Qp_l5_V : Type := Int × Int
def Qp_l5_s (G : Qp_G) {ρ : Type} (_n : Nat) (p0 p1 : Int) (p2 p3 p4 : Int) (p5 p6 : Bool) (p7 : Rows) (p8 p9 : Bool) (p10 : Rows) (k0 : (Int → Option ρ)) (k1 : (Option ρ)) (rec' : Qp_l5_V → Option ρ) : Qp_l5_V → Option ρ
 | v =>
 bif decide ((v.2 : Int) < p1) then
 G.Qd ρ p2 p3 p4 p5 p6 p7 p8 p9 p10 v.2 (fun w0_0 =>
 bif ((w0_0 : Int) != (-1)) then
 chk (decide (0 ≤ (p0 : Int))) <|
 bif ((0 : Int) == (IntKind.wrap .i64 ((1 : Int) * 2 ^ (min p0.toNat (IntKind.bits .i64))))) then
 k0 (IntKind.wrap .i64 ((IntKind.wrap .i64 (v.2 + 1)) - 0))
 else rec' (0, (IntKind.wrap .i64 (v.2 + 1)))
 else chk (decide (0 ≤ (p0 : Int))) <|
 bif (((IntKind.wrap .i64 (v.1 + 1)) : Int) == (IntKind.wrap .i64 ((1 : Int) * 2 ^ (min p0.toNat (IntKind.bits .i64))))) then
 k0 (IntKind.wrap .i64 ((IntKind.wrap .i64 (v.2 + 1)) - (IntKind.wrap .i64 (v.1 + 1))))
 else rec' ((IntKind.wrap .i64 (v.1 + 1)), (IntKind.wrap .i64 (v.2 + 1))))
 else k1
def Qp_l5 (G : Qp_G) {ρ : Type} (n : Nat) (p0 p1 : Int) (p2 p3 p4 : Int) (p5 p6 : Bool) (p7 : Rows) (p8 p9 : Bool) (p10 : Rows) (k0 : (Int → Option ρ)) (k1 : (Option ρ)) (v : Qp_l5_V) : Option ρ := fuelN (Qp_l5_s G n p0 p1 p2 p3 p4 p5 p6 p7 p8 p9 p10 k0 k1) n v
def Qp_l5_enc (p0 p1 : Int) (p2 p3 p4 : Int) (p5 p6 : Bool) (p7 : Rows) (p8 p9 : Bool) (p10 : Rows) : Qp_l5_V → St
 | v => ⟨[(1, .i .i64 p0), (2, .ptr 0 1 5 0 0), (6, .i .i64 v.1), (21, .i .i64 p1), (22, .i .i64 v.2)], [.row 5 true false [[.i .i64 p2, .i .i64 p3, .i .i64 p4, .lst p5 p6 5 p7, .lst p8 p9 13 p10]]]⟩
def Qp_s (G : Qp_G) {ρ : Type} (n : Nat) (a0 a1 a2 : Int) (a3 a4 : Bool) (a5 : Rows) (a6 a7 : Bool) (a8 : Rows) (a9 : Int) (k0 : (Int → Bool → Option ρ)) : Option ρ :=
 G.Qj ρ a0 a1 a2 a3 a4 a5 a6 a7 a8 (fun w0_0 =>
 bif w0_0 then
 bif decide ((a9 : Int) < 1) then
 k0 0 false
 else bif decide ((a9 : Int) > 4) then
 k0 0 false
 else Qp_l5 G n a9 (((List.length (a5 : Rows)) : Nat) : Int) a0 a1 a2 a3 a4 a5 a6 a7 a8 (fun w1_0 =>
 k0 w1_0 true) (k0 0 false) (0, 0)
 else k0 0 false)
def Qp_g (n : Nat) : Qp_G := ⟨Qj n, Qd n⟩
def Qp (n : Nat) : Qp_T := fun _ρ a0 a1 a2 a3 a4 a5 a6 a7 a8 a9 k0 => Qp_s (Qp_g n) n a0 a1 a2 a3 a4 a5 a6 a7 a8 a9 k0
def Qp_e (n : Nat) : EK := Qp_E (Qp n)
def Qp_S (G : Qp_G) : CK := tabS [(9, Qj_E G.Qj), (80, Qd_E G.Qd)]
theorem Qp_Sok (n : Nat) : CK.OK (Qp_S (Qp_g n)) (L tab) := tabS_ok _ (List.forall_mem_cons.2 ⟨(Qj_ok n), List.forall_mem_cons.2 ⟨(Qd_ok n), (fun _ h => nomatch h)⟩⟩)
def Qp_hs : HintC := hintL []
def Qp_c5 : Nat × List Nat × List Nat × MC := loopAt 5 m92
def Qp_l5_d (G : Qp_G) (n : Nat) : Go.Rv.LE := fun _ρ h K => decSt [(1, .i .i64 none), (2, .ptr 0 5 0 (some 1) (some 0)), (6, .i .i64 none), (21, .i .i64 none), (22, .i .i64 none)] [.row 5 true false (some [[.i .i64 none, .i .i64 none, .i .i64 none, .lst none none 5 none, .lst none none 13 none]])] h fun a b => Qp_l5 G n a.1 a.2.2.2.1 b.1.1.1 b.1.1.2.1 b.1.1.2.2.1 b.1.1.2.2.2.1.1 b.1.1.2.2.2.1.2.1 b.1.1.2.2.2.1.2.2 b.1.1.2.2.2.2.1.1 b.1.1.2.2.2.2.1.2.1 b.1.1.2.2.2.2.1.2.2 (fun w0 => K .ret ⟨[(4, .i .i64 w0), (5, .b true)], [.row 5 true false [[.i .i64 b.1.1.1, .i .i64 b.1.1.2.1, .i .i64 b.1.1.2.2.1, .lst b.1.1.2.2.2.1.1 b.1.1.2.2.2.1.2.1 5 b.1.1.2.2.2.1.2.2, .lst b.1.1.2.2.2.2.1.1 b.1.1.2.2.2.2.1.2.1 13 b.1.1.2.2.2.2.1.2.2]]]⟩) (K (.exit 0) ⟨[(4, .u), (5, .u)], [.row 5 true false [[.i .i64 b.1.1.1, .i .i64 b.1.1.2.1, .i .i64 b.1.1.2.2.1, .lst b.1.1.2.2.2.1.1 b.1.1.2.2.2.1.2.1 5 b.1.1.2.2.2.1.2.2, .lst b.1.1.2.2.2.2.1.1 b.1.1.2.2.2.2.1.2.1 13 b.1.1.2.2.2.2.1.2.2]]]⟩) (a.2.2.1, a.2.2.2.2.1)
def Qp_d5 (G : Qp_G) (n : Nat) : Go.Rv.LE := Qp_l5_d G n
def Qp_lp (G : Qp_G) (n : Nat) : LK := tabL [(5, Qp_d5 G n)]
theorem Qp_l5_k (G : Qp_G) {ρ : Type} (n : Nat) (p0 p1 : Int) (p2 p3 p4 : Int) (p5 p6 : Bool) (p7 : Rows) (p8 p9 : Bool) (p10 : Rows) (K : Ex → St → Option ρ) (N : St → Option ρ) : ∀ v, roundC (Qp_S G) Qp_hs (Qp_lp G n) Qp_c5 1 N K (Qp_l5_enc p0 p1 p2 p3 p4 p5 p6 p7 p8 p9 p10 v) = Qp_l5_s G n p0 p1 p2 p3 p4 p5 p6 p7 p8 p9 p10 (fun w0 => K .ret ⟨[(4, .i .i64 w0), (5, .b true)], [.row 5 true false [[.i .i64 p2, .i .i64 p3, .i .i64 p4, .lst p5 p6 5 p7, .lst p8 p9 13 p10]]]⟩) (K (.exit 0) ⟨[(4, .u), (5, .u)], [.row 5 true false [[.i .i64 p2, .i .i64 p3, .i .i64 p4, .lst p5 p6 5 p7, .lst p8 p9 13 p10]]]⟩) (fun v => N (Qp_l5_enc p0 p1 p2 p3 p4 p5 p6 p7 p8 p9 p10 v)) v
 | v => by kernel_rfl
theorem Qp_l5_dok (n : Nat) : LE.OK (Qp_l5_d (Qp_g n) n) (L tab) Qp_c5 := LE.shp (fun _ _ _ => rfl) fun ρ K y a b e => LE.rounds (Qp_Sok n) (LK.of (l := []) (by kernel_rfl) ((fun _ h => nomatch h))) (Qp_l5_k (Qp_g n) n _ _ _ _ _ _ _ _ _ _ _ K) (by kernel_rfl) (by kernel_rfl) e
theorem Qp_d5_ok (n : Nat) : LE.OK (Qp_d5 (Qp_g n) n) (L tab) Qp_c5 := Qp_l5_dok n
theorem Qp_k (G : Qp_G) {ρ : Type} (n : Nat) (a0 a1 a2 : Int) (a3 a4 : Bool) (a5 : Rows) (a6 a7 : Bool) (a8 : Rows) (a9 : Int) (K : Res → Option ρ) : runC (Qp_S G) Qp_hs (Qp_lp G n) m92 [.agg [.i .i64 a0, .i .i64 a1, .i .i64 a2, .lst a3 a4 5 a5, .lst a6 a7 13 a8], .i .i64 a9] K = Qp_s G n a0 a1 a2 a3 a4 a5 a6 a7 a8 a9 (fun w0 w1 => K ⟨.tup [.i .i64 w0, .b w1], [], []⟩) := by kernel_rfl
theorem Qp_ok (n : Nat) : EK.OK (Qp_e n) 92 (L tab) := EK.shp (fun _ _ _ => rfl) fun ρ K y c e => EK.run (Qp_Sok n) (by kernel_rfl) (MF.LKOK.of (LK.of (l := [Qp_c5]) (by kernel_rfl) (List.forall_mem_cons.2 ⟨LE.at (e := Qp_d5 (Qp_g n) n) (by kernel_rfl) (Qp_d5_ok n), (fun _ h => nomatch h)⟩))) (Qp_k (Qp_g n) n _ _ _ _ _ _ _ _ _ _ K) (by kernel_rfl) e
abbrev slices_Clone_Slot_T : Type 1 := (ρ : Type) → Bool → Bool → Rows → (Option ρ) → (Nat → Nat → Rows → Option ρ) → Option ρ
def slices_Clone_Slot_E (G : slices_Clone_Slot_T) : EK := fun ρ args K => decL [.lst none none 5 none] args fun c => G ρ c.1.1 c.1.2.1 c.1.2.2 (K ⟨.lst true true 0 [], [], []⟩) (fun w0 w1 w2 => K ⟨.sl 0 w0 5 0 w1, [.row 5 true false w2], []⟩)
structure slices_Clone_Slot_G where
 mk ::
def slices_Clone_Slot_s (_G : slices_Clone_Slot_G) {ρ : Type} (_n : Nat) (a0 _a1 : Bool) (a2 : Rows) (k0 : (Option ρ)) (k1 : (Nat → Nat → Rows → Option ρ)) : Option ρ :=
 bif a0 then
 k0
 else chk (List.all (a2 : Rows) fun e => e.length == 5) <|
 chk (decide ((0 + (List.length (a2 : Rows))) ≤ most)) <|
 chk (List.all (a2 : Rows) fun e => !ownL e) <|
 k1 (0 + (List.length (a2 : Rows))) (0 + (List.length (a2 : Rows))) ([] ++ a2)
def slices_Clone_Slot_g (_n : Nat) : slices_Clone_Slot_G := ⟨⟩
def slices_Clone_Slot (n : Nat) : slices_Clone_Slot_T := fun _ρ a0 a1 a2 k0 k1 => slices_Clone_Slot_s (slices_Clone_Slot_g n) n a0 a1 a2 k0 k1
def slices_Clone_Slot_e (n : Nat) : EK := slices_Clone_Slot_E (slices_Clone_Slot n)
def slices_Clone_Slot_S (_G : slices_Clone_Slot_G) : CK := tabS []
theorem slices_Clone_Slot_Sok (n : Nat) : CK.OK (slices_Clone_Slot_S (slices_Clone_Slot_g n)) (L tab) := tabS_ok _ ((fun _ h => nomatch h))
def slices_Clone_Slot_hs : HintC := hintL []
def slices_Clone_Slot_lp (_G : slices_Clone_Slot_G) (_n : Nat) : LK := tabL []
theorem slices_Clone_Slot_k (G : slices_Clone_Slot_G) {ρ : Type} (n : Nat) (a0 a1 : Bool) (a2 : Rows) (K : Res → Option ρ) : runC (slices_Clone_Slot_S G) slices_Clone_Slot_hs (slices_Clone_Slot_lp G n) m58 [.lst a0 a1 5 a2] K = slices_Clone_Slot_s G n a0 a1 a2 (K ⟨.lst true true 0 [], [], []⟩) (fun w0 w1 w2 => K ⟨.sl 0 w0 5 0 w1, [.row 5 true false w2], []⟩) := by kernel_rfl
theorem slices_Clone_Slot_ok (n : Nat) : EK.OK (slices_Clone_Slot_e n) 58 (L tab) := EK.shp (fun _ _ _ => rfl) fun ρ K y c e => EK.run (slices_Clone_Slot_Sok n) (by kernel_rfl) (MF.LKOK.of (LK.of (l := []) (by kernel_rfl) ((fun _ h => nomatch h)))) (slices_Clone_Slot_k (slices_Clone_Slot_g n) n _ _ _ K) (by kernel_rfl) e
abbrev slices_Clone_Thing_T : Type 1 := (ρ : Type) → Bool → Bool → Rows → (Option ρ) → (Nat → Nat → Rows → Option ρ) → Option ρ
def slices_Clone_Thing_E (G : slices_Clone_Thing_T) : EK := fun ρ args K => decL [.lst none none 13 none] args fun c => G ρ c.1.1 c.1.2.1 c.1.2.2 (K ⟨.lst true true 0 [], [], []⟩) (fun w0 w1 w2 => K ⟨.sl 0 w0 13 0 w1, [.row 13 true false w2], []⟩)
structure slices_Clone_Thing_G where
 mk ::
def slices_Clone_Thing_s (_G : slices_Clone_Thing_G) {ρ : Type} (_n : Nat) (a0 _a1 : Bool) (a2 : Rows) (k0 : (Option ρ)) (k1 : (Nat → Nat → Rows → Option ρ)) : Option ρ :=
 bif a0 then
 k0
 else chk (List.all (a2 : Rows) fun e => e.length == 13) <|
 chk (decide ((0 + (List.length (a2 : Rows))) ≤ most)) <|
 chk (List.all (a2 : Rows) fun e => !ownL e) <|
 k1 (0 + (List.length (a2 : Rows))) (0 + (List.length (a2 : Rows))) ([] ++ a2)
def slices_Clone_Thing_g (_n : Nat) : slices_Clone_Thing_G := ⟨⟩
def slices_Clone_Thing (n : Nat) : slices_Clone_Thing_T := fun _ρ a0 a1 a2 k0 k1 => slices_Clone_Thing_s (slices_Clone_Thing_g n) n a0 a1 a2 k0 k1
def slices_Clone_Thing_e (n : Nat) : EK := slices_Clone_Thing_E (slices_Clone_Thing n)
def slices_Clone_Thing_S (_G : slices_Clone_Thing_G) : CK := tabS []
theorem slices_Clone_Thing_Sok (n : Nat) : CK.OK (slices_Clone_Thing_S (slices_Clone_Thing_g n)) (L tab) := tabS_ok _ ((fun _ h => nomatch h))
def slices_Clone_Thing_hs : HintC := hintL []
def slices_Clone_Thing_lp (_G : slices_Clone_Thing_G) (_n : Nat) : LK := tabL []
theorem slices_Clone_Thing_k (G : slices_Clone_Thing_G) {ρ : Type} (n : Nat) (a0 a1 : Bool) (a2 : Rows) (K : Res → Option ρ) : runC (slices_Clone_Thing_S G) slices_Clone_Thing_hs (slices_Clone_Thing_lp G n) m59 [.lst a0 a1 13 a2] K = slices_Clone_Thing_s G n a0 a1 a2 (K ⟨.lst true true 0 [], [], []⟩) (fun w0 w1 w2 => K ⟨.sl 0 w0 13 0 w1, [.row 13 true false w2], []⟩) := by kernel_rfl
theorem slices_Clone_Thing_ok (n : Nat) : EK.OK (slices_Clone_Thing_e n) 59 (L tab) := EK.shp (fun _ _ _ => rfl) fun ρ K y c e => EK.run (slices_Clone_Thing_Sok n) (by kernel_rfl) (MF.LKOK.of (LK.of (l := []) (by kernel_rfl) ((fun _ h => nomatch h)))) (slices_Clone_Thing_k (slices_Clone_Thing_g n) n _ _ _ K) (by kernel_rfl) e
abbrev Qv_T : Type 1 := (ρ : Type) → Int → Int → Int → Bool → Bool → Rows → Bool → Bool → Rows → (Option ρ) → (Nat → Nat → Rows → Option ρ) → (Nat → Nat → Rows → Option ρ) → (Nat → Nat → Nat → Nat → Rows → Rows → Option ρ) → Option ρ
def Qv_E (G : Qv_T) : EK := fun ρ args K => decL [.agg [.i .i64 none, .i .i64 none, .i .i64 none, .lst none none 5 none, .lst none none 13 none]] args fun c => G ρ c.1.1 c.1.2.1 c.1.2.2.1 c.1.2.2.2.1.1 c.1.2.2.2.1.2.1 c.1.2.2.2.1.2.2 c.1.2.2.2.2.1.1 c.1.2.2.2.2.1.2.1 c.1.2.2.2.2.1.2.2 (K ⟨.agg [.i .i64 c.1.1, .i .i64 c.1.2.1, .i .i64 c.1.2.2.1, .lst true true 0 [], .lst true true 0 []], [], []⟩) (fun w0 w1 w2 => K ⟨.agg [.i .i64 c.1.1, .i .i64 c.1.2.1, .i .i64 c.1.2.2.1, .lst true true 0 [], .sl 0 w0 13 0 w1], [.row 13 true false w2], []⟩) (fun w0 w1 w2 => K ⟨.agg [.i .i64 c.1.1, .i .i64 c.1.2.1, .i .i64 c.1.2.2.1, .sl 0 w0 5 0 w1, .lst true true 0 []], [.row 5 true false w2], []⟩) (fun w0 w1 w2 w3 w4 w5 => K ⟨.agg [.i .i64 c.1.1, .i .i64 c.1.2.1, .i .i64 c.1.2.2.1, .sl 0 w0 5 0 w1, .sl 1 w2 13 0 w3], [.row 5 true false w4, .row 13 true false w5], []⟩)
structure Qv_G where
 mk ::
 slices_Clone_Slot : slices_Clone_Slot_T
 slices_Clone_Thing : slices_Clone_Thing_T
def Qv_s (G : Qv_G) {ρ : Type} (_n : Nat) (_a0 _a1 _a2 : Int) (a3 a4 : Bool) (a5 : Rows) (a6 a7 : Bool) (a8 : Rows) (k0 : (Option ρ)) (k1 : (Nat → Nat → Rows → Option ρ)) (k2 : (Nat → Nat → Rows → Option ρ)) (k3 : (Nat → Nat → Nat → Nat → Rows → Rows → Option ρ)) : Option ρ :=
 G.slices_Clone_Slot ρ a3 a4 a5 (G.slices_Clone_Thing ρ a6 a7 a8 (k0) (fun w2_0 w2_1 w2_2 =>
 k1 w2_0 w2_1 w2_2)) (fun w3_0 w3_1 w3_2 =>
 G.slices_Clone_Thing ρ a6 a7 a8 (k2 w3_0 w3_1 w3_2) (fun w5_0 w5_1 w5_2 =>
 k3 w3_0 w3_1 w5_0 w5_1 w3_2 w5_2))
def Qv_g (n : Nat) : Qv_G := ⟨slices_Clone_Slot n, slices_Clone_Thing n⟩
def Qv (n : Nat) : Qv_T := fun _ρ a0 a1 a2 a3 a4 a5 a6 a7 a8 k0 k1 k2 k3 => Qv_s (Qv_g n) n a0 a1 a2 a3 a4 a5 a6 a7 a8 k0 k1 k2 k3
def Qv_e (n : Nat) : EK := Qv_E (Qv n)
def Qv_S (G : Qv_G) : CK := tabS [(58, slices_Clone_Slot_E G.slices_Clone_Slot), (59, slices_Clone_Thing_E G.slices_Clone_Thing)]
theorem Qv_Sok (n : Nat) : CK.OK (Qv_S (Qv_g n)) (L tab) := tabS_ok _ (List.forall_mem_cons.2 ⟨(slices_Clone_Slot_ok n), List.forall_mem_cons.2 ⟨(slices_Clone_Thing_ok n), (fun _ h => nomatch h)⟩⟩)
def Qv_hs : HintC := hintL []
def Qv_lp (_G : Qv_G) (_n : Nat) : LK := tabL []
theorem Qv_k (G : Qv_G) {ρ : Type} (n : Nat) (a0 a1 a2 : Int) (a3 a4 : Bool) (a5 : Rows) (a6 a7 : Bool) (a8 : Rows) (K : Res → Option ρ) : runC (Qv_S G) Qv_hs (Qv_lp G n) m29 [.agg [.i .i64 a0, .i .i64 a1, .i .i64 a2, .lst a3 a4 5 a5, .lst a6 a7 13 a8]] K = Qv_s G n a0 a1 a2 a3 a4 a5 a6 a7 a8 (K ⟨.agg [.i .i64 a0, .i .i64 a1, .i .i64 a2, .lst true true 0 [], .lst true true 0 []], [], []⟩) (fun w0 w1 w2 => K ⟨.agg [.i .i64 a0, .i .i64 a1, .i .i64 a2, .lst true true 0 [], .sl 0 w0 13 0 w1], [.row 13 true false w2], []⟩) (fun w0 w1 w2 => K ⟨.agg [.i .i64 a0, .i .i64 a1, .i .i64 a2, .sl 0 w0 5 0 w1, .lst true true 0 []], [.row 5 true false w2], []⟩) (fun w0 w1 w2 w3 w4 w5 => K ⟨.agg [.i .i64 a0, .i .i64 a1, .i .i64 a2, .sl 0 w0 5 0 w1, .sl 1 w2 13 0 w3], [.row 5 true false w4, .row 13 true false w5], []⟩) := by kernel_rfl
theorem Qv_ok (n : Nat) : EK.OK (Qv_e n) 29 (L tab) := EK.shp (fun _ _ _ => rfl) fun ρ K y c e => EK.run (Qv_Sok n) (by kernel_rfl) (MF.LKOK.of (LK.of (l := []) (by kernel_rfl) ((fun _ h => nomatch h)))) (Qv_k (Qv_g n) n _ _ _ _ _ _ _ _ _ K) (by kernel_rfl) e
abbrev Q0r_T : Type 1 := (ρ : Type) → Int → Int → Int → Bool → Bool → Rows → Bool → Bool → Rows → Int → Int → Bool → Bool → Rows → Bool → Bool → Rows → Int → Int → Int → (Int → Option ρ) → (Nat → Nat → Nat → Nat → Int → Rows → Rows → Option ρ) → Option ρ
def Q0r_E (G : Q0r_T) : EK := fun ρ args K => decL [.agg [.i .i64 none, .i .i64 none, .i .i64 none, .lst none none 5 none, .lst none none 13 none], .i .i64 none, .agg [.i .i64 none, .lst none none 1 none, .lst none none 1 none, .i .i64 none, .i .i64 none, .i .u64 none]] args fun c => G ρ c.1.1 c.1.2.1 c.1.2.2.1 c.1.2.2.2.1.1 c.1.2.2.2.1.2.1 c.1.2.2.2.1.2.2 c.1.2.2.2.2.1.1 c.1.2.2.2.2.1.2.1 c.1.2.2.2.2.1.2.2 c.2.1 c.2.2.1.1 c.2.2.1.2.1.1 c.2.2.1.2.1.2.1 c.2.2.1.2.1.2.2 c.2.2.1.2.2.1.1 c.2.2.1.2.2.1.2.1 c.2.2.1.2.2.1.2.2 c.2.2.1.2.2.2.1 c.2.2.1.2.2.2.2.1 c.2.2.1.2.2.2.2.2.1 (fun w0 => K ⟨.tup [.agg [.i .i64 c.1.1, .i .i64 c.1.2.1, .i .i64 c.1.2.2.1, .lst c.1.2.2.2.1.1 c.1.2.2.2.1.2.1 5 c.1.2.2.2.1.2.2, .lst c.1.2.2.2.2.1.1 c.1.2.2.2.2.1.2.1 13 c.1.2.2.2.2.1.2.2], .i .i64 0, .i .i64 w0], [], []⟩) (fun w0 w1 w2 w3 w4 w5 w6 => K ⟨.tup [.agg [.i .i64 c.1.1, .i .i64 c.1.2.1, .i .i64 c.1.2.2.1, .sl 0 w0 5 0 w1, .sl 1 w2 13 0 w3], .i .i64 w4, .i .i64 0], [.row 5 true false w5, .row 13 true false w6], []⟩)
structure Q0r_G where
 mk ::
 Ql : Ql_T
 Qt : Qt_T
 Qu : Qu_T
 Qz : Qz_T
 Q0x : Q0x_T
 Q0w : Q0w_T
 Qs : Qs_T
 Qp : Qp_T
 Qv : Qv_T
 Q02 : Q02_T
def Q0r_s (G : Q0r_G) {ρ : Type} (_n : Nat) (a0 a1 a2 : Int) (a3 a4 : Bool) (a5 : Rows) (a6 a7 : Bool) (a8 : Rows) (a9 a10 : Int) (a11 a12 : Bool) (a13 : Rows) (a14 a15 : Bool) (a16 : Rows) (a17 a18 a19 : Int) (k0 : (Int → Option ρ)) (k1 : (Nat → Nat → Nat → Nat → Int → Rows → Rows → Option ρ)) : Option ρ :=
 G.Ql ρ a10 a11 a12 a13 a14 a15 a16 a17 a18 a19 (fun w0_0 =>
 bif w0_0 then
 bif ((a10 : Int) != 1) then
 k0 1
 else G.Qt ρ a0 a1 a2 a3 a4 a5 a6 a7 a8 a9 a11 a12 a13 (fun w1_0 w1_1 w1_2 w1_3 _w1_4 w1_5 =>
 bif ((w1_5 : Int) != 0) then
 k0 w1_5
 else bif ((w1_1 : Int) != 1) then
 k0 7
 else G.Qu ρ 2 w1_3 (fun w2_0 =>
 bif w2_0 then
 G.Qz ρ a0 a1 a2 a3 a4 a5 a6 a7 a8 a9 a14 a15 a16 (fun w3_0 w3_1 =>
 bif ((w3_1 : Int) != 0) then
 k0 w3_1
 else G.Q0x ρ a17 a18 (fun w4_0 w4_1 =>
 bif w4_1 then
 G.Q0w ρ a0 a1 a2 a3 a4 a5 a6 a7 a8 w1_0 (fun w5_0 =>
 G.Qs ρ a0 a1 a2 a3 a4 a5 a6 a7 a8 (fun w6_0 =>
 bif ((a17 : Int) == 2) then
 G.Qp ρ a0 a1 a2 a3 a4 a5 a6 a7 a8 a18 (fun w7_0 w7_1 =>
 bif w7_1 then
 rowT [.i .i64, .i .i64, .i .i64, .i .i64, .i .i64, .i .i64, .i .i64, .b, .i .u64, .i .u64, .i .u64, .i .u64, .i .u64] a8 w1_2 fun c8 =>
 bif decide (((IntKind.wrap .i64 (w5_0 + w4_0)) : Int) > c8.2.2.2.1) then
 k0 8
 else bif decide ((w6_0 : Int) < 0) then
 k0 8
 else G.Qv ρ a0 a1 a2 a3 a4 a5 a6 a7 a8 (G.Q02 ρ a17 a18 w7_0 (fun _w10_0 _w10_1 _w10_2 _w10_3 w10_4 =>
 bif w10_4 then
 none
 else none)) (fun w11_0 w11_1 w11_2 =>
 G.Q02 ρ a17 a18 w7_0 (fun w12_0 w12_1 w12_2 w12_3 w12_4 =>
 bif w12_4 then
 chk (decide ((0 : Int) ≤ w6_0)) <|
 chk (decide ((w6_0 : Int) < ((w11_1 : Nat) : Int))) <|
 chk (((List.length (w11_2 : Rows)) : Nat) == w11_0) <|
 rowN [.a, .a, .a, .a, .a, .a, .a, .a, .a, .a, .a, .a, .a] w11_2 (0 + w6_0.toNat) fun _c13 =>
 chk (decide ((0 : Int) ≤ w1_2)) <|
 chk (decide ((w1_2 : Int) < ((w11_1 : Nat) : Int))) <|
 chk (((List.length ((List.set (w11_2 : Rows) (0 + w6_0.toNat) [.i .i64 w12_0, .i .i64 w12_1, .i .i64 w12_2, .i .i64 w12_3, .i .i64 0, .i .i64 0, .i .i64 0, .b false, .i .u64 0, .i .u64 0, .i .u64 0, .i .u64 0, .i .u64 0]) : Rows)) : Nat) == w11_0) <|
 rowN [.a, .a, .a, .a, .a, .a, .a, .a, .a, .a, .a, .a, .a] (List.set (w11_2 : Rows) (0 + w6_0.toNat) [.i .i64 w12_0, .i .i64 w12_1, .i .i64 w12_2, .i .i64 w12_3, .i .i64 0, .i .i64 0, .i .i64 0, .b false, .i .u64 0, .i .u64 0, .i .u64 0, .i .u64 0, .i .u64 0]) (0 + w1_2.toNat) fun _c14 =>
 none
 else chk (decide ((0 : Int) ≤ w6_0)) <|
 chk (decide ((w6_0 : Int) < ((w11_1 : Nat) : Int))) <|
 chk (((List.length (w11_2 : Rows)) : Nat) == w11_0) <|
 rowN [.a, .a, .a, .a, .a, .a, .a, .a, .a, .a, .a, .a, .a] w11_2 (0 + w6_0.toNat) fun _c15 =>
 chk (decide ((0 : Int) ≤ w1_2)) <|
 chk (decide ((w1_2 : Int) < ((w11_1 : Nat) : Int))) <|
 chk (((List.length ((List.set (w11_2 : Rows) (0 + w6_0.toNat) [.i .i64 w12_0, .i .i64 w12_1, .i .i64 w12_2, .i .i64 w12_3, .i .i64 0, .i .i64 0, .i .i64 0, .b false, .i .u64 0, .i .u64 0, .i .u64 0, .i .u64 0, .i .u64 0]) : Rows)) : Nat) == w11_0) <|
 rowN [.a, .a, .a, .a, .a, .a, .a, .a, .a, .a, .a, .a, .a] (List.set (w11_2 : Rows) (0 + w6_0.toNat) [.i .i64 w12_0, .i .i64 w12_1, .i .i64 w12_2, .i .i64 w12_3, .i .i64 0, .i .i64 0, .i .i64 0, .b false, .i .u64 0, .i .u64 0, .i .u64 0, .i .u64 0, .i .u64 0]) (0 + w1_2.toNat) fun _c16 =>
 none)) (fun _w17_0 _w17_1 _w17_2 =>
 G.Q02 ρ a17 a18 w7_0 (fun _w18_0 _w18_1 _w18_2 _w18_3 w18_4 =>
 bif w18_4 then
 none
 else none)) (fun w19_0 w19_1 w19_2 w19_3 w19_4 w19_5 =>
 G.Q02 ρ a17 a18 w7_0 (fun w20_0 w20_1 w20_2 w20_3 w20_4 =>
 bif w20_4 then
 chk (decide ((0 : Int) ≤ w6_0)) <|
 chk (decide ((w6_0 : Int) < ((w19_3 : Nat) : Int))) <|
 chk (((List.length (w19_5 : Rows)) : Nat) == w19_2) <|
 rowN [.a, .a, .a, .a, .a, .a, .a, .a, .a, .a, .a, .a, .a] w19_5 (0 + w6_0.toNat) fun _c21 =>
 chk (decide ((0 : Int) ≤ w1_2)) <|
 chk (decide ((w1_2 : Int) < ((w19_3 : Nat) : Int))) <|
 chk (((List.length ((List.set (w19_5 : Rows) (0 + w6_0.toNat) [.i .i64 w20_0, .i .i64 w20_1, .i .i64 w20_2, .i .i64 w20_3, .i .i64 0, .i .i64 0, .i .i64 0, .b false, .i .u64 0, .i .u64 0, .i .u64 0, .i .u64 0, .i .u64 0]) : Rows)) : Nat) == w19_2) <|
 rowN [.a, .a, .a, .a, .a, .a, .a, .a, .a, .a, .a, .a, .a] (List.set (w19_5 : Rows) (0 + w6_0.toNat) [.i .i64 w20_0, .i .i64 w20_1, .i .i64 w20_2, .i .i64 w20_3, .i .i64 0, .i .i64 0, .i .i64 0, .b false, .i .u64 0, .i .u64 0, .i .u64 0, .i .u64 0, .i .u64 0]) (0 + w1_2.toNat) fun c22 =>
 chk (decide ((0 : Int) ≤ w3_0)) <|
 chk (decide ((w3_0 : Int) < ((w19_1 : Nat) : Int))) <|
 chk (((List.length (w19_4 : Rows)) : Nat) == w19_0) <|
 rowN [.a, .a, .a, .a, .a] w19_4 (0 + w3_0.toNat) fun _c23 =>
 k1 w19_0 w19_1 w19_2 w19_3 w6_0 (List.set (w19_4 : Rows) (0 + w3_0.toNat) [.i .i64 a17, .i .i64 w6_0, .i .i64 7, .i .i64 0, .i .i64 w1_0]) (List.set ((List.set (w19_5 : Rows) (0 + w6_0.toNat) [.i .i64 w20_0, .i .i64 w20_1, .i .i64 w20_2, .i .i64 w20_3, .i .i64 0, .i .i64 0, .i .i64 0, .b false, .i .u64 0, .i .u64 0, .i .u64 0, .i .u64 0, .i .u64 0]) : Rows) (0 + w1_2.toNat) [c22.1, c22.2.1, c22.2.2.1, c22.2.2.2.1, .i .i64 (IntKind.wrap .i64 (w5_0 + w4_0)), c22.2.2.2.2.2.1, c22.2.2.2.2.2.2.1, c22.2.2.2.2.2.2.2.1, c22.2.2.2.2.2.2.2.2.1, c22.2.2.2.2.2.2.2.2.2.1, c22.2.2.2.2.2.2.2.2.2.2.1, c22.2.2.2.2.2.2.2.2.2.2.2.1, c22.2.2.2.2.2.2.2.2.2.2.2.2.1])
 else chk (decide ((0 : Int) ≤ w6_0)) <|
 chk (decide ((w6_0 : Int) < ((w19_3 : Nat) : Int))) <|
 chk (((List.length (w19_5 : Rows)) : Nat) == w19_2) <|
 rowN [.a, .a, .a, .a, .a, .a, .a, .a, .a, .a, .a, .a, .a] w19_5 (0 + w6_0.toNat) fun _c24 =>
 chk (decide ((0 : Int) ≤ w1_2)) <|
 chk (decide ((w1_2 : Int) < ((w19_3 : Nat) : Int))) <|
 chk (((List.length ((List.set (w19_5 : Rows) (0 + w6_0.toNat) [.i .i64 w20_0, .i .i64 w20_1, .i .i64 w20_2, .i .i64 w20_3, .i .i64 0, .i .i64 0, .i .i64 0, .b false, .i .u64 0, .i .u64 0, .i .u64 0, .i .u64 0, .i .u64 0]) : Rows)) : Nat) == w19_2) <|
 rowN [.a, .a, .a, .a, .a, .a, .a, .a, .a, .a, .a, .a, .a] (List.set (w19_5 : Rows) (0 + w6_0.toNat) [.i .i64 w20_0, .i .i64 w20_1, .i .i64 w20_2, .i .i64 w20_3, .i .i64 0, .i .i64 0, .i .i64 0, .b false, .i .u64 0, .i .u64 0, .i .u64 0, .i .u64 0, .i .u64 0]) (0 + w1_2.toNat) fun c25 =>
 chk (decide ((0 : Int) ≤ w3_0)) <|
 chk (decide ((w3_0 : Int) < ((w19_1 : Nat) : Int))) <|
 chk (((List.length (w19_4 : Rows)) : Nat) == w19_0) <|
 rowN [.a, .a, .a, .a, .a] w19_4 (0 + w3_0.toNat) fun _c26 =>
 k1 w19_0 w19_1 w19_2 w19_3 w6_0 (List.set (w19_4 : Rows) (0 + w3_0.toNat) [.i .i64 a17, .i .i64 w6_0, .i .i64 7, .i .i64 0, .i .i64 w1_0]) (List.set ((List.set (w19_5 : Rows) (0 + w6_0.toNat) [.i .i64 w20_0, .i .i64 w20_1, .i .i64 w20_2, .i .i64 w20_3, .i .i64 0, .i .i64 0, .i .i64 0, .b false, .i .u64 0, .i .u64 0, .i .u64 0, .i .u64 0, .i .u64 0]) : Rows) (0 + w1_2.toNat) [c25.1, c25.2.1, c25.2.2.1, c25.2.2.2.1, .i .i64 (IntKind.wrap .i64 (w5_0 + w4_0)), c25.2.2.2.2.2.1, c25.2.2.2.2.2.2.1, c25.2.2.2.2.2.2.2.1, c25.2.2.2.2.2.2.2.2.1, c25.2.2.2.2.2.2.2.2.2.1, c25.2.2.2.2.2.2.2.2.2.2.1, c25.2.2.2.2.2.2.2.2.2.2.2.1, c25.2.2.2.2.2.2.2.2.2.2.2.2.1])))
 else rowT [.i .i64, .i .i64, .i .i64, .i .i64, .i .i64, .i .i64, .i .i64, .b, .i .u64, .i .u64, .i .u64, .i .u64, .i .u64] a8 w1_2 fun c27 =>
 bif decide (((IntKind.wrap .i64 (w5_0 + w4_0)) : Int) > c27.2.2.2.1) then
 k0 8
 else k0 8)
 else rowT [.i .i64, .i .i64, .i .i64, .i .i64, .i .i64, .i .i64, .i .i64, .b, .i .u64, .i .u64, .i .u64, .i .u64, .i .u64] a8 w1_2 fun c28 =>
 bif decide (((IntKind.wrap .i64 (w5_0 + w4_0)) : Int) > c28.2.2.2.1) then
 k0 8
 else bif decide ((w6_0 : Int) < 0) then
 k0 8
 else G.Qv ρ a0 a1 a2 a3 a4 a5 a6 a7 a8 (G.Q02 ρ a17 a18 0 (fun _w30_0 _w30_1 _w30_2 _w30_3 w30_4 =>
 bif w30_4 then
 none
 else none)) (fun w31_0 w31_1 w31_2 =>
 G.Q02 ρ a17 a18 0 (fun w32_0 w32_1 w32_2 w32_3 w32_4 =>
 bif w32_4 then
 chk (decide ((0 : Int) ≤ w6_0)) <|
 chk (decide ((w6_0 : Int) < ((w31_1 : Nat) : Int))) <|
 chk (((List.length (w31_2 : Rows)) : Nat) == w31_0) <|
 rowN [.a, .a, .a, .a, .a, .a, .a, .a, .a, .a, .a, .a, .a] w31_2 (0 + w6_0.toNat) fun _c33 =>
 chk (decide ((0 : Int) ≤ w1_2)) <|
 chk (decide ((w1_2 : Int) < ((w31_1 : Nat) : Int))) <|
 chk (((List.length ((List.set (w31_2 : Rows) (0 + w6_0.toNat) [.i .i64 w32_0, .i .i64 w32_1, .i .i64 w32_2, .i .i64 w32_3, .i .i64 0, .i .i64 0, .i .i64 0, .b false, .i .u64 0, .i .u64 0, .i .u64 0, .i .u64 0, .i .u64 0]) : Rows)) : Nat) == w31_0) <|
 rowN [.a, .a, .a, .a, .a, .a, .a, .a, .a, .a, .a, .a, .a] (List.set (w31_2 : Rows) (0 + w6_0.toNat) [.i .i64 w32_0, .i .i64 w32_1, .i .i64 w32_2, .i .i64 w32_3, .i .i64 0, .i .i64 0, .i .i64 0, .b false, .i .u64 0, .i .u64 0, .i .u64 0, .i .u64 0, .i .u64 0]) (0 + w1_2.toNat) fun _c34 =>
 none
 else chk (decide ((0 : Int) ≤ w6_0)) <|
 chk (decide ((w6_0 : Int) < ((w31_1 : Nat) : Int))) <|
 chk (((List.length (w31_2 : Rows)) : Nat) == w31_0) <|
 rowN [.a, .a, .a, .a, .a, .a, .a, .a, .a, .a, .a, .a, .a] w31_2 (0 + w6_0.toNat) fun _c35 =>
 chk (decide ((0 : Int) ≤ w1_2)) <|
 chk (decide ((w1_2 : Int) < ((w31_1 : Nat) : Int))) <|
 chk (((List.length ((List.set (w31_2 : Rows) (0 + w6_0.toNat) [.i .i64 w32_0, .i .i64 w32_1, .i .i64 w32_2, .i .i64 w32_3, .i .i64 0, .i .i64 0, .i .i64 0, .b false, .i .u64 0, .i .u64 0, .i .u64 0, .i .u64 0, .i .u64 0]) : Rows)) : Nat) == w31_0) <|
 rowN [.a, .a, .a, .a, .a, .a, .a, .a, .a, .a, .a, .a, .a] (List.set (w31_2 : Rows) (0 + w6_0.toNat) [.i .i64 w32_0, .i .i64 w32_1, .i .i64 w32_2, .i .i64 w32_3, .i .i64 0, .i .i64 0, .i .i64 0, .b false, .i .u64 0, .i .u64 0, .i .u64 0, .i .u64 0, .i .u64 0]) (0 + w1_2.toNat) fun _c36 =>
 none)) (fun _w37_0 _w37_1 _w37_2 =>
 G.Q02 ρ a17 a18 0 (fun _w38_0 _w38_1 _w38_2 _w38_3 w38_4 =>
 bif w38_4 then
 none
 else none)) (fun w39_0 w39_1 w39_2 w39_3 w39_4 w39_5 =>
 G.Q02 ρ a17 a18 0 (fun w40_0 w40_1 w40_2 w40_3 w40_4 =>
 bif w40_4 then
 chk (decide ((0 : Int) ≤ w6_0)) <|
 chk (decide ((w6_0 : Int) < ((w39_3 : Nat) : Int))) <|
 chk (((List.length (w39_5 : Rows)) : Nat) == w39_2) <|
 rowN [.a, .a, .a, .a, .a, .a, .a, .a, .a, .a, .a, .a, .a] w39_5 (0 + w6_0.toNat) fun _c41 =>
 chk (decide ((0 : Int) ≤ w1_2)) <|
 chk (decide ((w1_2 : Int) < ((w39_3 : Nat) : Int))) <|
 chk (((List.length ((List.set (w39_5 : Rows) (0 + w6_0.toNat) [.i .i64 w40_0, .i .i64 w40_1, .i .i64 w40_2, .i .i64 w40_3, .i .i64 0, .i .i64 0, .i .i64 0, .b false, .i .u64 0, .i .u64 0, .i .u64 0, .i .u64 0, .i .u64 0]) : Rows)) : Nat) == w39_2) <|
 rowN [.a, .a, .a, .a, .a, .a, .a, .a, .a, .a, .a, .a, .a] (List.set (w39_5 : Rows) (0 + w6_0.toNat) [.i .i64 w40_0, .i .i64 w40_1, .i .i64 w40_2, .i .i64 w40_3, .i .i64 0, .i .i64 0, .i .i64 0, .b false, .i .u64 0, .i .u64 0, .i .u64 0, .i .u64 0, .i .u64 0]) (0 + w1_2.toNat) fun c42 =>
 chk (decide ((0 : Int) ≤ w3_0)) <|
 chk (decide ((w3_0 : Int) < ((w39_1 : Nat) : Int))) <|
 chk (((List.length (w39_4 : Rows)) : Nat) == w39_0) <|
 rowN [.a, .a, .a, .a, .a] w39_4 (0 + w3_0.toNat) fun _c43 =>
 k1 w39_0 w39_1 w39_2 w39_3 w6_0 (List.set (w39_4 : Rows) (0 + w3_0.toNat) [.i .i64 a17, .i .i64 w6_0, .i .i64 7, .i .i64 0, .i .i64 w1_0]) (List.set ((List.set (w39_5 : Rows) (0 + w6_0.toNat) [.i .i64 w40_0, .i .i64 w40_1, .i .i64 w40_2, .i .i64 w40_3, .i .i64 0, .i .i64 0, .i .i64 0, .b false, .i .u64 0, .i .u64 0, .i .u64 0, .i .u64 0, .i .u64 0]) : Rows) (0 + w1_2.toNat) [c42.1, c42.2.1, c42.2.2.1, c42.2.2.2.1, .i .i64 (IntKind.wrap .i64 (w5_0 + w4_0)), c42.2.2.2.2.2.1, c42.2.2.2.2.2.2.1, c42.2.2.2.2.2.2.2.1, c42.2.2.2.2.2.2.2.2.1, c42.2.2.2.2.2.2.2.2.2.1, c42.2.2.2.2.2.2.2.2.2.2.1, c42.2.2.2.2.2.2.2.2.2.2.2.1, c42.2.2.2.2.2.2.2.2.2.2.2.2.1])
 else chk (decide ((0 : Int) ≤ w6_0)) <|
 chk (decide ((w6_0 : Int) < ((w39_3 : Nat) : Int))) <|
 chk (((List.length (w39_5 : Rows)) : Nat) == w39_2) <|
 rowN [.a, .a, .a, .a, .a, .a, .a, .a, .a, .a, .a, .a, .a] w39_5 (0 + w6_0.toNat) fun _c44 =>
 chk (decide ((0 : Int) ≤ w1_2)) <|
 chk (decide ((w1_2 : Int) < ((w39_3 : Nat) : Int))) <|
 chk (((List.length ((List.set (w39_5 : Rows) (0 + w6_0.toNat) [.i .i64 w40_0, .i .i64 w40_1, .i .i64 w40_2, .i .i64 w40_3, .i .i64 0, .i .i64 0, .i .i64 0, .b false, .i .u64 0, .i .u64 0, .i .u64 0, .i .u64 0, .i .u64 0]) : Rows)) : Nat) == w39_2) <|
 rowN [.a, .a, .a, .a, .a, .a, .a, .a, .a, .a, .a, .a, .a] (List.set (w39_5 : Rows) (0 + w6_0.toNat) [.i .i64 w40_0, .i .i64 w40_1, .i .i64 w40_2, .i .i64 w40_3, .i .i64 0, .i .i64 0, .i .i64 0, .b false, .i .u64 0, .i .u64 0, .i .u64 0, .i .u64 0, .i .u64 0]) (0 + w1_2.toNat) fun c45 =>
 chk (decide ((0 : Int) ≤ w3_0)) <|
 chk (decide ((w3_0 : Int) < ((w39_1 : Nat) : Int))) <|
 chk (((List.length (w39_4 : Rows)) : Nat) == w39_0) <|
 rowN [.a, .a, .a, .a, .a] w39_4 (0 + w3_0.toNat) fun _c46 =>
 k1 w39_0 w39_1 w39_2 w39_3 w6_0 (List.set (w39_4 : Rows) (0 + w3_0.toNat) [.i .i64 a17, .i .i64 w6_0, .i .i64 7, .i .i64 0, .i .i64 w1_0]) (List.set ((List.set (w39_5 : Rows) (0 + w6_0.toNat) [.i .i64 w40_0, .i .i64 w40_1, .i .i64 w40_2, .i .i64 w40_3, .i .i64 0, .i .i64 0, .i .i64 0, .b false, .i .u64 0, .i .u64 0, .i .u64 0, .i .u64 0, .i .u64 0]) : Rows) (0 + w1_2.toNat) [c45.1, c45.2.1, c45.2.2.1, c45.2.2.2.1, .i .i64 (IntKind.wrap .i64 (w5_0 + w4_0)), c45.2.2.2.2.2.1, c45.2.2.2.2.2.2.1, c45.2.2.2.2.2.2.2.1, c45.2.2.2.2.2.2.2.2.1, c45.2.2.2.2.2.2.2.2.2.1, c45.2.2.2.2.2.2.2.2.2.2.1, c45.2.2.2.2.2.2.2.2.2.2.2.1, c45.2.2.2.2.2.2.2.2.2.2.2.2.1])))))
 else k0 1))
 else k0 6))
 else k0 1)
def Q0r_g (n : Nat) : Q0r_G := ⟨Ql n, Qt n, Qu n, Qz n, Q0x n, Q0w n, Qs n, Qp n, Qv n, Q02 n⟩
def Q0r (n : Nat) : Q0r_T := fun _ρ a0 a1 a2 a3 a4 a5 a6 a7 a8 a9 a10 a11 a12 a13 a14 a15 a16 a17 a18 a19 k0 k1 => Q0r_s (Q0r_g n) n a0 a1 a2 a3 a4 a5 a6 a7 a8 a9 a10 a11 a12 a13 a14 a15 a16 a17 a18 a19 k0 k1
def Q0r_e (n : Nat) : EK := Q0r_E (Q0r n)
def Q0r_S (G : Q0r_G) : CK := tabS [(27, Ql_E G.Ql), (16, Qt_E G.Qt), (28, Qu_E G.Qu), (88, Qz_E G.Qz), (89, Q0x_E G.Q0x), (90, Q0w_E G.Q0w), (91, Qs_E G.Qs), (92, Qp_E G.Qp), (29, Qv_E G.Qv), (93, Q02_E G.Q02)]
theorem Q0r_Sok (n : Nat) : CK.OK (Q0r_S (Q0r_g n)) (L tab) := tabS_ok _ (List.forall_mem_cons.2 ⟨(Ql_ok n), List.forall_mem_cons.2 ⟨(Qt_ok n), List.forall_mem_cons.2 ⟨(Qu_ok n), List.forall_mem_cons.2 ⟨(Qz_ok n), List.forall_mem_cons.2 ⟨(Q0x_ok n), List.forall_mem_cons.2 ⟨(Q0w_ok n), List.forall_mem_cons.2 ⟨(Qs_ok n), List.forall_mem_cons.2 ⟨(Qp_ok n), List.forall_mem_cons.2 ⟨(Qv_ok n), List.forall_mem_cons.2 ⟨(Q02_ok n), (fun _ h => nomatch h)⟩⟩⟩⟩⟩⟩⟩⟩⟩⟩)
def Q0r_hs : HintC := hintL [(97, [.i .i64, .i .i64, .i .i64, .i .i64, .i .i64, .i .i64, .i .i64, .b, .i .u64, .i .u64, .i .u64, .i .u64, .i .u64])]
def Q0r_lp (_G : Q0r_G) (_n : Nat) : LK := tabL []
theorem Q0r_k (G : Q0r_G) {ρ : Type} (n : Nat) (a0 a1 a2 : Int) (a3 a4 : Bool) (a5 : Rows) (a6 a7 : Bool) (a8 : Rows) (a9 a10 : Int) (a11 a12 : Bool) (a13 : Rows) (a14 a15 : Bool) (a16 : Rows) (a17 a18 a19 : Int) (K : Res → Option ρ) : runC (Q0r_S G) Q0r_hs (Q0r_lp G n) m73 [.agg [.i .i64 a0, .i .i64 a1, .i .i64 a2, .lst a3 a4 5 a5, .lst a6 a7 13 a8], .i .i64 a9, .agg [.i .i64 a10, .lst a11 a12 1 a13, .lst a14 a15 1 a16, .i .i64 a17, .i .i64 a18, .i .u64 a19]] K = Q0r_s G n a0 a1 a2 a3 a4 a5 a6 a7 a8 a9 a10 a11 a12 a13 a14 a15 a16 a17 a18 a19 (fun w0 => K ⟨.tup [.agg [.i .i64 a0, .i .i64 a1, .i .i64 a2, .lst a3 a4 5 a5, .lst a6 a7 13 a8], .i .i64 0, .i .i64 w0], [], []⟩) (fun w0 w1 w2 w3 w4 w5 w6 => K ⟨.tup [.agg [.i .i64 a0, .i .i64 a1, .i .i64 a2, .sl 0 w0 5 0 w1, .sl 1 w2 13 0 w3], .i .i64 w4, .i .i64 0], [.row 5 true false w5, .row 13 true false w6], []⟩) := by kernel_rfl
theorem Q0r_ok (n : Nat) : EK.OK (Q0r_e n) 73 (L tab) := EK.shp (fun _ _ _ => rfl) fun ρ K y c e => EK.run (Q0r_Sok n) (by kernel_rfl) (MF.LKOK.of (LK.of (l := []) (by kernel_rfl) ((fun _ h => nomatch h)))) (Q0r_k (Q0r_g n) n _ _ _ _ _ _ _ _ _ _ _ _ _ _ _ _ _ _ _ _ K) (by kernel_rfl) e
abbrev Q0z_T : Type 1 := (ρ : Type) → Int → Int → Int → Bool → Bool → Rows → Bool → Bool → Rows → Int → Int → Bool → Bool → Rows → Bool → Bool → Rows → Int → Int → Int → (Bool → Bool → Rows → Bool → Bool → Rows → Int → Int → Option ρ) → Option ρ
def Q0z_E (G : Q0z_T) : EK := fun ρ args K => decL [.agg [.i .i64 none, .i .i64 none, .i .i64 none, .lst none none 5 none, .lst none none 13 none], .i .i64 none, .agg [.i .i64 none, .lst none none 1 none, .lst none none 1 none, .i .i64 none, .i .i64 none, .i .u64 none]] args fun c => G ρ c.1.1 c.1.2.1 c.1.2.2.1 c.1.2.2.2.1.1 c.1.2.2.2.1.2.1 c.1.2.2.2.1.2.2 c.1.2.2.2.2.1.1 c.1.2.2.2.2.1.2.1 c.1.2.2.2.2.1.2.2 c.2.1 c.2.2.1.1 c.2.2.1.2.1.1 c.2.2.1.2.1.2.1 c.2.2.1.2.1.2.2 c.2.2.1.2.2.1.1 c.2.2.1.2.2.1.2.1 c.2.2.1.2.2.1.2.2 c.2.2.1.2.2.2.1 c.2.2.1.2.2.2.2.1 c.2.2.1.2.2.2.2.2.1 (fun w0 w1 w2 w3 w4 w5 w6 w7 => K ⟨.tup [.agg [.i .i64 c.1.1, .i .i64 c.1.2.1, .i .i64 c.1.2.2.1, .lst w0 w1 5 w2, .lst w3 w4 13 w5], .agg [.i .i64 w6, .i .u64 0, .i .i64 w7]], [], []⟩)
structure Q0z_G where
 mk ::
 Q0r : Q0r_T
def Q0z_s (G : Q0z_G) {ρ : Type} (_n : Nat) (a0 a1 a2 : Int) (a3 a4 : Bool) (a5 : Rows) (a6 a7 : Bool) (a8 : Rows) (a9 a10 : Int) (a11 a12 : Bool) (a13 : Rows) (a14 a15 : Bool) (a16 : Rows) (a17 a18 a19 : Int) (k0 : (Bool → Bool → Rows → Bool → Bool → Rows → Int → Int → Option ρ)) : Option ρ :=
 G.Q0r ρ a0 a1 a2 a3 a4 a5 a6 a7 a8 a9 a10 a11 a12 a13 a14 a15 a16 a17 a18 a19 (fun w0_0 =>
 bif ((w0_0 : Int) != 0) then
 k0 a3 a4 a5 a6 a7 a8 w0_0 0
 else k0 a3 a4 a5 a6 a7 a8 0 0) (fun w1_0 w1_1 w1_2 w1_3 w1_4 w1_5 w1_6 =>
 chk (((List.length (w1_5 : Rows)) : Nat) == w1_0) <|
 chk (((List.length (w1_6 : Rows)) : Nat) == w1_2) <|
 k0 false false (List.take w1_1 (List.drop 0 (w1_5 : Rows))) false false (List.take w1_3 (List.drop 0 (w1_6 : Rows))) 0 w1_4)
def Q0z_g (n : Nat) : Q0z_G := ⟨Q0r n⟩
def Q0z (n : Nat) : Q0z_T := fun _ρ a0 a1 a2 a3 a4 a5 a6 a7 a8 a9 a10 a11 a12 a13 a14 a15 a16 a17 a18 a19 k0 => Q0z_s (Q0z_g n) n a0 a1 a2 a3 a4 a5 a6 a7 a8 a9 a10 a11 a12 a13 a14 a15 a16 a17 a18 a19 k0
def Q0z_e (n : Nat) : EK := Q0z_E (Q0z n)
def Q0z_S (G : Q0z_G) : CK := tabS [(73, Q0r_E G.Q0r)]
theorem Q0z_Sok (n : Nat) : CK.OK (Q0z_S (Q0z_g n)) (L tab) := tabS_ok _ (List.forall_mem_cons.2 ⟨(Q0r_ok n), (fun _ h => nomatch h)⟩)
def Q0z_hs : HintC := hintL []
def Q0z_lp (_G : Q0z_G) (_n : Nat) : LK := tabL []
theorem Q0z_k (G : Q0z_G) {ρ : Type} (n : Nat) (a0 a1 a2 : Int) (a3 a4 : Bool) (a5 : Rows) (a6 a7 : Bool) (a8 : Rows) (a9 a10 : Int) (a11 a12 : Bool) (a13 : Rows) (a14 a15 : Bool) (a16 : Rows) (a17 a18 a19 : Int) (K : Res → Option ρ) : runC (Q0z_S G) Q0z_hs (Q0z_lp G n) m41 [.agg [.i .i64 a0, .i .i64 a1, .i .i64 a2, .lst a3 a4 5 a5, .lst a6 a7 13 a8], .i .i64 a9, .agg [.i .i64 a10, .lst a11 a12 1 a13, .lst a14 a15 1 a16, .i .i64 a17, .i .i64 a18, .i .u64 a19]] K = Q0z_s G n a0 a1 a2 a3 a4 a5 a6 a7 a8 a9 a10 a11 a12 a13 a14 a15 a16 a17 a18 a19 (fun w0 w1 w2 w3 w4 w5 w6 w7 => K ⟨.tup [.agg [.i .i64 a0, .i .i64 a1, .i .i64 a2, .lst w0 w1 5 w2, .lst w3 w4 13 w5], .agg [.i .i64 w6, .i .u64 0, .i .i64 w7]], [], []⟩) := by kernel_rfl
theorem Q0z_ok (n : Nat) : EK.OK (Q0z_e n) 41 (L tab) := EK.shp (fun _ _ _ => rfl) fun ρ K y c e => EK.run (Q0z_Sok n) (by kernel_rfl) (MF.LKOK.of (LK.of (l := []) (by kernel_rfl) ((fun _ h => nomatch h)))) (Q0z_k (Q0z_g n) n _ _ _ _ _ _ _ _ _ _ _ _ _ _ _ _ _ _ _ _ K) (by kernel_rfl) e
abbrev Q0v_T : Type 1 := (ρ : Type) → Int → Int → (Int → Option ρ) → Option ρ
def Q0v_E (G : Q0v_T) : EK := fun ρ args K => decL [.i .i64 none, .i .i64 none] args fun c => G ρ c.1 c.2.1 (fun w0 => K ⟨.i .i64 w0, [], []⟩)
structure Q0v_G where
 mk ::
 Q03 : Q03_T
def Q0v_s (G : Q0v_G) {ρ : Type} (_n : Nat) (a0 a1 : Int) (k0 : (Int → Option ρ)) : Option ρ :=
 G.Q03 ρ a0 (fun w0_0 =>
 G.Q03 ρ a1 (fun w1_0 =>
 k0 (IntKind.wrap .i64 (BitVec.ofInt (IntKind.bits .i64) w0_0 &&& BitVec.ofInt (IntKind.bits .i64) w1_0).toNat)))
def Q0v_g (n : Nat) : Q0v_G := ⟨Q03 n⟩
def Q0v (n : Nat) : Q0v_T := fun _ρ a0 a1 k0 => Q0v_s (Q0v_g n) n a0 a1 k0
def Q0v_e (n : Nat) : EK := Q0v_E (Q0v n)
def Q0v_S (G : Q0v_G) : CK := tabS [(87, Q03_E G.Q03)]
theorem Q0v_Sok (n : Nat) : CK.OK (Q0v_S (Q0v_g n)) (L tab) := tabS_ok _ (List.forall_mem_cons.2 ⟨(Q03_ok n), (fun _ h => nomatch h)⟩)
def Q0v_hs : HintC := hintL []
def Q0v_lp (_G : Q0v_G) (_n : Nat) : LK := tabL []
theorem Q0v_k (G : Q0v_G) {ρ : Type} (n : Nat) (a0 a1 : Int) (K : Res → Option ρ) : runC (Q0v_S G) Q0v_hs (Q0v_lp G n) m111 [.i .i64 a0, .i .i64 a1] K = Q0v_s G n a0 a1 (fun w0 => K ⟨.i .i64 w0, [], []⟩) := by kernel_rfl
theorem Q0v_ok (n : Nat) : EK.OK (Q0v_e n) 111 (L tab) := EK.shp (fun _ _ _ => rfl) fun ρ K y c e => EK.run (Q0v_Sok n) (by kernel_rfl) (MF.LKOK.of (LK.of (l := []) (by kernel_rfl) ((fun _ h => nomatch h)))) (Q0v_k (Q0v_g n) n _ _ K) (by kernel_rfl) e
abbrev Q0l_T : Type 1 := (ρ : Type) → Int → Int → Int → Int → Int → (Int → Int → Int → Int → Option ρ) → Option ρ
def Q0l_E (G : Q0l_T) : EK := fun ρ args K => decL [.agg [.i .i64 none, .i .i64 none, .i .i64 none, .i .i64 none], .i .i64 none] args fun c => G ρ c.1.1 c.1.2.1 c.1.2.2.1 c.1.2.2.2.1 c.2.1 (fun w0 w1 w2 w3 => K ⟨.agg [.i .i64 w0, .i .i64 w1, .i .i64 w2, .i .i64 w3], [], []⟩)
structure Q0l_G where
 mk ::
 Qq : Qq_T
 Q0v : Q0v_T
def Q0l_s (G : Q0l_G) {ρ : Type} (_n : Nat) (a0 a1 : Int) (a2 a3 a4 : Int) (k0 : (Int → Int → Int → Int → Option ρ)) : Option ρ :=
 G.Qq ρ a0 a1 a2 a3 (fun w0_0 =>
 bif w0_0 then
 G.Q0v ρ a2 a4 (fun w1_0 =>
 k0 a0 a1 w1_0 a3)
 else k0 0 0 0 0)
def Q0l_g (n : Nat) : Q0l_G := ⟨Qq n, Q0v n⟩
def Q0l (n : Nat) : Q0l_T := fun _ρ a0 a1 a2 a3 a4 k0 => Q0l_s (Q0l_g n) n a0 a1 a2 a3 a4 k0
def Q0l_e (n : Nat) : EK := Q0l_E (Q0l n)
def Q0l_S (G : Q0l_G) : CK := tabS [(40, Qq_E G.Qq), (111, Q0v_E G.Q0v)]
theorem Q0l_Sok (n : Nat) : CK.OK (Q0l_S (Q0l_g n)) (L tab) := tabS_ok _ (List.forall_mem_cons.2 ⟨(Qq_ok n), List.forall_mem_cons.2 ⟨(Q0v_ok n), (fun _ h => nomatch h)⟩⟩)
def Q0l_hs : HintC := hintL []
def Q0l_lp (_G : Q0l_G) (_n : Nat) : LK := tabL []
theorem Q0l_k (G : Q0l_G) {ρ : Type} (n : Nat) (a0 a1 : Int) (a2 a3 a4 : Int) (K : Res → Option ρ) : runC (Q0l_S G) Q0l_hs (Q0l_lp G n) m94 [.agg [.i .i64 a0, .i .i64 a1, .i .i64 a2, .i .i64 a3], .i .i64 a4] K = Q0l_s G n a0 a1 a2 a3 a4 (fun w0 w1 w2 w3 => K ⟨.agg [.i .i64 w0, .i .i64 w1, .i .i64 w2, .i .i64 w3], [], []⟩) := by kernel_rfl
theorem Q0l_ok (n : Nat) : EK.OK (Q0l_e n) 94 (L tab) := EK.shp (fun _ _ _ => rfl) fun ρ K y c e => EK.run (Q0l_Sok n) (by kernel_rfl) (MF.LKOK.of (LK.of (l := []) (by kernel_rfl) ((fun _ h => nomatch h)))) (Q0l_k (Q0l_g n) n _ _ _ _ _ K) (by kernel_rfl) e
abbrev Q0i_T : Type 1 := (ρ : Type) → Int → Int → Int → Int → Int → (Int → Int → Int → Int → Int → Option ρ) → Option ρ
def Q0i_E (G : Q0i_T) : EK := fun ρ args K => decL [.agg [.i .i64 none, .i .i64 none, .i .i64 none, .i .i64 none], .i .i64 none] args fun c => G ρ c.1.1 c.1.2.1 c.1.2.2.1 c.1.2.2.2.1 c.2.1 (fun w0 w1 w2 w3 w4 => K ⟨.tup [.agg [.i .i64 w0, .i .i64 w1, .i .i64 w2, .i .i64 w3], .i .i64 w4], [], []⟩)
structure Q0i_G where
 mk ::
 Qq : Qq_T
 right_Badge : right_Badge_T
 cap_badged : cap_badged_T
def Q0i_s (G : Q0i_G) {ρ : Type} (_n : Nat) (a0 a1 : Int) (a2 a3 a4 : Int) (k0 : (Int → Int → Int → Int → Int → Option ρ)) : Option ρ :=
 G.Qq ρ a0 a1 a2 a3 (fun w0_0 =>
 bif w0_0 then
 G.right_Badge ρ a4 (fun w1_0 =>
 bif w1_0 then
 bif ((a4 : Int) == 0) then
 k0 0 0 0 0 1
 else G.cap_badged ρ a0 (fun w2_0 =>
 bif w2_0 then
 bif ((a3 : Int) != 0) then
 k0 0 0 0 0 5
 else k0 a0 a1 a2 a4 0
 else k0 0 0 0 0 7)
 else k0 0 0 0 0 1)
 else k0 0 0 0 0 1)
def Q0i_g (n : Nat) : Q0i_G := ⟨Qq n, right_Badge n, cap_badged n⟩
def Q0i (n : Nat) : Q0i_T := fun _ρ a0 a1 a2 a3 a4 k0 => Q0i_s (Q0i_g n) n a0 a1 a2 a3 a4 k0
def Q0i_e (n : Nat) : EK := Q0i_E (Q0i n)
def Q0i_S (G : Q0i_G) : CK := tabS [(40, Qq_E G.Qq), (71, right_Badge_E G.right_Badge), (72, cap_badged_E G.cap_badged)]
theorem Q0i_Sok (n : Nat) : CK.OK (Q0i_S (Q0i_g n)) (L tab) := tabS_ok _ (List.forall_mem_cons.2 ⟨(Qq_ok n), List.forall_mem_cons.2 ⟨(right_Badge_ok n), List.forall_mem_cons.2 ⟨(cap_badged_ok n), (fun _ h => nomatch h)⟩⟩⟩)
def Q0i_hs : HintC := hintL []
def Q0i_lp (_G : Q0i_G) (_n : Nat) : LK := tabL []
theorem Q0i_k (G : Q0i_G) {ρ : Type} (n : Nat) (a0 a1 : Int) (a2 a3 a4 : Int) (K : Res → Option ρ) : runC (Q0i_S G) Q0i_hs (Q0i_lp G n) m95 [.agg [.i .i64 a0, .i .i64 a1, .i .i64 a2, .i .i64 a3], .i .i64 a4] K = Q0i_s G n a0 a1 a2 a3 a4 (fun w0 w1 w2 w3 w4 => K ⟨.tup [.agg [.i .i64 w0, .i .i64 w1, .i .i64 w2, .i .i64 w3], .i .i64 w4], [], []⟩) := by kernel_rfl
theorem Q0i_ok (n : Nat) : EK.OK (Q0i_e n) 95 (L tab) := EK.shp (fun _ _ _ => rfl) fun ρ K y c e => EK.run (Q0i_Sok n) (by kernel_rfl) (MF.LKOK.of (LK.of (l := []) (by kernel_rfl) ((fun _ h => nomatch h)))) (Q0i_k (Q0i_g n) n _ _ _ _ _ K) (by kernel_rfl) e
abbrev Q0u_T : Type 1 := (ρ : Type) → Int → Int → Int → Bool → Bool → Rows → Bool → Bool → Rows → Int → (Int → Option ρ) → Option ρ
def Q0u_E (G : Q0u_T) : EK := fun ρ args K => decL [.agg [.i .i64 none, .i .i64 none, .i .i64 none, .lst none none 5 none, .lst none none 13 none], .i .i64 none] args fun c => G ρ c.1.1 c.1.2.1 c.1.2.2.1 c.1.2.2.2.1.1 c.1.2.2.2.1.2.1 c.1.2.2.2.1.2.2 c.1.2.2.2.2.1.1 c.1.2.2.2.2.1.2.1 c.1.2.2.2.2.1.2.2 c.2.1 (fun w0 => K ⟨.i .i64 w0, [], []⟩)
structure Q0u_G where
 mk ::
 Qj : Qj_T
 Qd : Qd_T
def Q0u_s (G : Q0u_G) {ρ : Type} (_n : Nat) (a0 a1 a2 : Int) (a3 a4 : Bool) (a5 : Rows) (a6 a7 : Bool) (a8 : Rows) (a9 : Int) (k0 : (Int → Option ρ)) : Option ρ :=
 G.Qj ρ a0 a1 a2 a3 a4 a5 a6 a7 a8 (fun w0_0 =>
 bif w0_0 then
 bif decide ((a9 : Int) < 0) then
 k0 (-1)
 else bif decide ((a9 : Int) ≥ (((List.length (a5 : Rows)) : Nat) : Int)) then
 k0 (-1)
 else G.Qd ρ a0 a1 a2 a3 a4 a5 a6 a7 a8 a9 (fun w1_0 =>
 k0 w1_0)
 else k0 (-1))
def Q0u_g (n : Nat) : Q0u_G := ⟨Qj n, Qd n⟩
def Q0u (n : Nat) : Q0u_T := fun _ρ a0 a1 a2 a3 a4 a5 a6 a7 a8 a9 k0 => Q0u_s (Q0u_g n) n a0 a1 a2 a3 a4 a5 a6 a7 a8 a9 k0
def Q0u_e (n : Nat) : EK := Q0u_E (Q0u n)
def Q0u_S (G : Q0u_G) : CK := tabS [(9, Qj_E G.Qj), (80, Qd_E G.Qd)]
theorem Q0u_Sok (n : Nat) : CK.OK (Q0u_S (Q0u_g n)) (L tab) := tabS_ok _ (List.forall_mem_cons.2 ⟨(Qj_ok n), List.forall_mem_cons.2 ⟨(Qd_ok n), (fun _ h => nomatch h)⟩⟩)
def Q0u_hs : HintC := hintL []
def Q0u_lp (_G : Q0u_G) (_n : Nat) : LK := tabL []
theorem Q0u_k (G : Q0u_G) {ρ : Type} (n : Nat) (a0 a1 a2 : Int) (a3 a4 : Bool) (a5 : Rows) (a6 a7 : Bool) (a8 : Rows) (a9 : Int) (K : Res → Option ρ) : runC (Q0u_S G) Q0u_hs (Q0u_lp G n) m112 [.agg [.i .i64 a0, .i .i64 a1, .i .i64 a2, .lst a3 a4 5 a5, .lst a6 a7 13 a8], .i .i64 a9] K = Q0u_s G n a0 a1 a2 a3 a4 a5 a6 a7 a8 a9 (fun w0 => K ⟨.i .i64 w0, [], []⟩) := by kernel_rfl
theorem Q0u_ok (n : Nat) : EK.OK (Q0u_e n) 112 (L tab) := EK.shp (fun _ _ _ => rfl) fun ρ K y c e => EK.run (Q0u_Sok n) (by kernel_rfl) (MF.LKOK.of (LK.of (l := []) (by kernel_rfl) ((fun _ h => nomatch h)))) (Q0u_k (Q0u_g n) n _ _ _ _ _ _ _ _ _ _ K) (by kernel_rfl) e
abbrev Q0s_T : Type 1 := (ρ : Type) → Int → Int → Int → Bool → Bool → Rows → Bool → Bool → Rows → Int → Int → (Bool → Option ρ) → Option ρ
def Q0s_E (G : Q0s_T) : EK := fun ρ args K => decL [.agg [.i .i64 none, .i .i64 none, .i .i64 none, .lst none none 5 none, .lst none none 13 none], .i .i64 none, .i .i64 none] args fun c => G ρ c.1.1 c.1.2.1 c.1.2.2.1 c.1.2.2.2.1.1 c.1.2.2.2.1.2.1 c.1.2.2.2.1.2.2 c.1.2.2.2.2.1.1 c.1.2.2.2.2.1.2.1 c.1.2.2.2.2.1.2.2 c.2.1 c.2.2.1 (fun w0 => K ⟨.b w0, [], []⟩)
structure Q0s_G where
 mk ::
 Qj : Qj_T
 Q07 : Q07_T
def Q0s_s (G : Q0s_G) {ρ : Type} (_n : Nat) (a0 a1 a2 : Int) (a3 a4 : Bool) (a5 : Rows) (a6 a7 : Bool) (a8 : Rows) (a9 a10 : Int) (k0 : (Bool → Option ρ)) : Option ρ :=
 G.Qj ρ a0 a1 a2 a3 a4 a5 a6 a7 a8 (fun w0_0 =>
 bif w0_0 then
 bif decide ((a10 : Int) ≥ 0) then
 bif decide ((a10 : Int) < (((List.length (a5 : Rows)) : Nat) : Int)) then
 G.Q07 ρ a0 a1 a2 a3 a4 a5 a6 a7 a8 a9 a10 (fun w1_0 =>
 bif w1_0 then
 k0 true
 else k0 false)
 else k0 false
 else k0 false
 else k0 false)
def Q0s_g (n : Nat) : Q0s_G := ⟨Qj n, Q07 n⟩
def Q0s (n : Nat) : Q0s_T := fun _ρ a0 a1 a2 a3 a4 a5 a6 a7 a8 a9 a10 k0 => Q0s_s (Q0s_g n) n a0 a1 a2 a3 a4 a5 a6 a7 a8 a9 a10 k0
def Q0s_e (n : Nat) : EK := Q0s_E (Q0s n)
def Q0s_S (G : Q0s_G) : CK := tabS [(9, Qj_E G.Qj), (49, Q07_E G.Q07)]
theorem Q0s_Sok (n : Nat) : CK.OK (Q0s_S (Q0s_g n)) (L tab) := tabS_ok _ (List.forall_mem_cons.2 ⟨(Qj_ok n), List.forall_mem_cons.2 ⟨(Q07_ok n), (fun _ h => nomatch h)⟩⟩)
def Q0s_hs : HintC := hintL []
def Q0s_lp (_G : Q0s_G) (_n : Nat) : LK := tabL []
theorem Q0s_k (G : Q0s_G) {ρ : Type} (n : Nat) (a0 a1 a2 : Int) (a3 a4 : Bool) (a5 : Rows) (a6 a7 : Bool) (a8 : Rows) (a9 a10 : Int) (K : Res → Option ρ) : runC (Q0s_S G) Q0s_hs (Q0s_lp G n) m113 [.agg [.i .i64 a0, .i .i64 a1, .i .i64 a2, .lst a3 a4 5 a5, .lst a6 a7 13 a8], .i .i64 a9, .i .i64 a10] K = Q0s_s G n a0 a1 a2 a3 a4 a5 a6 a7 a8 a9 a10 (fun w0 => K ⟨.b w0, [], []⟩) := by kernel_rfl
theorem Q0s_ok (n : Nat) : EK.OK (Q0s_e n) 113 (L tab) := EK.shp (fun _ _ _ => rfl) fun ρ K y c e => EK.run (Q0s_Sok n) (by kernel_rfl) (MF.LKOK.of (LK.of (l := []) (by kernel_rfl) ((fun _ h => nomatch h)))) (Q0s_k (Q0s_g n) n _ _ _ _ _ _ _ _ _ _ _ K) (by kernel_rfl) e
abbrev Q00_T : Type 1 := (ρ : Type) → Int → Int → Int → Bool → Bool → Rows → Bool → Bool → Rows → Int → Int → Int → Int → Int → (Bool → Option ρ) → Option ρ
def Q00_E (G : Q00_T) : EK := fun ρ args K => decL [.agg [.i .i64 none, .i .i64 none, .i .i64 none, .lst none none 5 none, .lst none none 13 none], .agg [.i .i64 none, .i .i64 none, .i .i64 none, .i .i64 none], .i .i64 none] args fun c => G ρ c.1.1 c.1.2.1 c.1.2.2.1 c.1.2.2.2.1.1 c.1.2.2.2.1.2.1 c.1.2.2.2.1.2.2 c.1.2.2.2.2.1.1 c.1.2.2.2.2.1.2.1 c.1.2.2.2.2.1.2.2 c.2.1.1 c.2.1.2.1 c.2.1.2.2.1 c.2.1.2.2.2.1 c.2.2.1 (fun w0 => K ⟨.b w0, [], []⟩)
structure Q00_G where
 mk ::
 Q0s : Q0s_T
def Q00_s (G : Q00_G) {ρ : Type} (_n : Nat) (a0 a1 a2 : Int) (a3 a4 : Bool) (a5 : Rows) (a6 a7 : Bool) (a8 : Rows) (a9 a10 : Int) (_a11 _a12 a13 : Int) (k0 : (Bool → Option ρ)) : Option ρ :=
 bif ((a9 : Int) == 2) then
 G.Q0s ρ a0 a1 a2 a3 a4 a5 a6 a7 a8 a10 a13 (fun w0_0 =>
 bif w0_0 then
 k0 true
 else k0 false)
 else k0 false
def Q00_g (n : Nat) : Q00_G := ⟨Q0s n⟩
def Q00 (n : Nat) : Q00_T := fun _ρ a0 a1 a2 a3 a4 a5 a6 a7 a8 a9 a10 a11 a12 a13 k0 => Q00_s (Q00_g n) n a0 a1 a2 a3 a4 a5 a6 a7 a8 a9 a10 a11 a12 a13 k0
def Q00_e (n : Nat) : EK := Q00_E (Q00 n)
def Q00_S (G : Q00_G) : CK := tabS [(113, Q0s_E G.Q0s)]
theorem Q00_Sok (n : Nat) : CK.OK (Q00_S (Q00_g n)) (L tab) := tabS_ok _ (List.forall_mem_cons.2 ⟨(Q0s_ok n), (fun _ h => nomatch h)⟩)
def Q00_hs : HintC := hintL []
def Q00_lp (_G : Q00_G) (_n : Nat) : LK := tabL []
theorem Q00_k (G : Q00_G) {ρ : Type} (n : Nat) (a0 a1 a2 : Int) (a3 a4 : Bool) (a5 : Rows) (a6 a7 : Bool) (a8 : Rows) (a9 a10 : Int) (a11 a12 a13 : Int) (K : Res → Option ρ) : runC (Q00_S G) Q00_hs (Q00_lp G n) m97 [.agg [.i .i64 a0, .i .i64 a1, .i .i64 a2, .lst a3 a4 5 a5, .lst a6 a7 13 a8], .agg [.i .i64 a9, .i .i64 a10, .i .i64 a11, .i .i64 a12], .i .i64 a13] K = Q00_s G n a0 a1 a2 a3 a4 a5 a6 a7 a8 a9 a10 a11 a12 a13 (fun w0 => K ⟨.b w0, [], []⟩) := by kernel_rfl
theorem Q00_ok (n : Nat) : EK.OK (Q00_e n) 97 (L tab) := EK.shp (fun _ _ _ => rfl) fun ρ K y c e => EK.run (Q00_Sok n) (by kernel_rfl) (MF.LKOK.of (LK.of (l := []) (by kernel_rfl) ((fun _ h => nomatch h)))) (Q00_k (Q00_g n) n _ _ _ _ _ _ _ _ _ _ _ _ _ _ K) (by kernel_rfl) e
abbrev Q08_T : Type 1 := (ρ : Type) → Int → Int → Int → Bool → Bool → Rows → Bool → Bool → Rows → Int → Int → Int → Int → Int → Int → (Bool → Bool → Rows → Bool → Bool → Rows → Int → Option ρ) → Option ρ
def Q08_E (G : Q08_T) : EK := fun ρ args K => decL [.agg [.i .i64 none, .i .i64 none, .i .i64 none, .lst none none 5 none, .lst none none 13 none], .i .i64 none, .i .i64 none, .agg [.i .i64 none, .i .i64 none, .i .i64 none, .i .i64 none]] args fun c => G ρ c.1.1 c.1.2.1 c.1.2.2.1 c.1.2.2.2.1.1 c.1.2.2.2.1.2.1 c.1.2.2.2.1.2.2 c.1.2.2.2.2.1.1 c.1.2.2.2.2.1.2.1 c.1.2.2.2.2.1.2.2 c.2.1 c.2.2.1 c.2.2.2.1.1 c.2.2.2.1.2.1 c.2.2.2.1.2.2.1 c.2.2.2.1.2.2.2.1 (fun w0 w1 w2 w3 w4 w5 w6 => K ⟨.tup [.agg [.i .i64 c.1.1, .i .i64 c.1.2.1, .i .i64 c.1.2.2.1, .lst w0 w1 5 w2, .lst w3 w4 13 w5], .i .i64 w6], [], []⟩)
structure Q08_G where
 mk ::
 Qj : Qj_T
 Qq : Qq_T
 cap_None : cap_None_T
 Q0u : Q0u_T
 Q05 : Q05_T
 Q00 : Q00_T
 Qv : Qv_T
def Q08_s (G : Q08_G) {ρ : Type} (_n : Nat) (a0 a1 a2 : Int) (a3 a4 : Bool) (a5 : Rows) (a6 a7 : Bool) (a8 : Rows) (a9 a10 : Int) (a11 a12 : Int) (a13 a14 : Int) (k0 : (Bool → Bool → Rows → Bool → Bool → Rows → Int → Option ρ)) : Option ρ :=
 G.Qj ρ a0 a1 a2 a3 a4 a5 a6 a7 a8 (fun w0_0 =>
 bif w0_0 then
 bif decide ((a9 : Int) < 0) then
 k0 a3 a4 a5 a6 a7 a8 1
 else bif decide ((a9 : Int) ≥ (((List.length (a5 : Rows)) : Nat) : Int)) then
 k0 a3 a4 a5 a6 a7 a8 1
 else bif decide ((a10 : Int) < 0) then
 k0 a3 a4 a5 a6 a7 a8 1
 else bif decide ((a10 : Int) ≥ (((List.length (a5 : Rows)) : Nat) : Int)) then
 k0 a3 a4 a5 a6 a7 a8 1
 else G.Qq ρ a11 a12 a13 a14 (fun w1_0 =>
 bif w1_0 then
 G.cap_None ρ a11 a12 a13 a14 (fun w2_0 =>
 bif w2_0 then
 k0 a3 a4 a5 a6 a7 a8 1
 else G.Q0u ρ a0 a1 a2 a3 a4 a5 a6 a7 a8 a10 (fun w3_0 =>
 bif decide ((w3_0 : Int) < 0) then
 k0 a3 a4 a5 a6 a7 a8 1
 else rowT [.i .i64, .i .i64, .i .i64, .i .i64, .i .i64] a5 a9 fun c4 =>
 G.cap_None ρ c4.1 c4.2.1 c4.2.2.1 c4.2.2.2.1 (fun w5_0 =>
 bif w5_0 then
 k0 a3 a4 a5 a6 a7 a8 4
 else rowT [.i .i64, .i .i64, .i .i64, .i .i64, .i .i64] a5 a10 fun c6 =>
 G.cap_None ρ c6.1 c6.2.1 c6.2.2.1 c6.2.2.2.1 (fun w7_0 =>
 bif w7_0 then
 rowT [.i .i64, .i .i64, .i .i64, .i .i64, .i .i64] a5 a9 fun c8 =>
 bif ((c8.1 : Int) == 1) then
 k0 a3 a4 a5 a6 a7 a8 7
 else rowT [.i .i64, .i .i64, .i .i64, .i .i64, .i .i64] a5 a9 fun c9 =>
 G.Q05 ρ a11 a12 a13 a14 c9.1 c9.2.1 c9.2.2.1 c9.2.2.2.1 (fun w10_0 =>
 bif w10_0 then
 G.Q00 ρ a0 a1 a2 a3 a4 a5 a6 a7 a8 a11 a12 a13 a14 a10 (fun w11_0 =>
 bif w11_0 then
 k0 a3 a4 a5 a6 a7 a8 1
 else G.Qv ρ a0 a1 a2 a3 a4 a5 a6 a7 a8 (none) (fun _w13_0 _w13_1 _w13_2 =>
 none) (fun w14_0 w14_1 w14_2 =>
 chk (decide ((0 : Int) ≤ a10)) <|
 chk (decide ((a10 : Int) < ((w14_1 : Nat) : Int))) <|
 chk (((List.length (w14_2 : Rows)) : Nat) == w14_0) <|
 rowN [.a, .a, .a, .a, .a] w14_2 (0 + a10.toNat) fun _c15 =>
 chk (((List.length ((List.set (w14_2 : Rows) (0 + a10.toNat) [.i .i64 a11, .i .i64 a12, .i .i64 a13, .i .i64 a14, .i .i64 a9]) : Rows)) : Nat) == w14_0) <|
 k0 false false (List.take w14_1 (List.drop 0 ((List.set (w14_2 : Rows) (0 + a10.toNat) [.i .i64 a11, .i .i64 a12, .i .i64 a13, .i .i64 a14, .i .i64 a9]) : Rows))) true true [] 0) (fun w16_0 w16_1 w16_2 w16_3 w16_4 w16_5 =>
 chk (decide ((0 : Int) ≤ a10)) <|
 chk (decide ((a10 : Int) < ((w16_1 : Nat) : Int))) <|
 chk (((List.length (w16_4 : Rows)) : Nat) == w16_0) <|
 rowN [.a, .a, .a, .a, .a] w16_4 (0 + a10.toNat) fun _c17 =>
 chk (((List.length ((List.set (w16_4 : Rows) (0 + a10.toNat) [.i .i64 a11, .i .i64 a12, .i .i64 a13, .i .i64 a14, .i .i64 a9]) : Rows)) : Nat) == w16_0) <|
 chk (((List.length (w16_5 : Rows)) : Nat) == w16_2) <|
 k0 false false (List.take w16_1 (List.drop 0 ((List.set (w16_4 : Rows) (0 + a10.toNat) [.i .i64 a11, .i .i64 a12, .i .i64 a13, .i .i64 a14, .i .i64 a9]) : Rows))) false false (List.take w16_3 (List.drop 0 (w16_5 : Rows))) 0))
 else k0 a3 a4 a5 a6 a7 a8 1)
 else k0 a3 a4 a5 a6 a7 a8 5))))
 else k0 a3 a4 a5 a6 a7 a8 1)
 else k0 a3 a4 a5 a6 a7 a8 1)
def Q08_g (n : Nat) : Q08_G := ⟨Qj n, Qq n, cap_None n, Q0u n, Q05 n, Q00 n, Qv n⟩
def Q08 (n : Nat) : Q08_T := fun _ρ a0 a1 a2 a3 a4 a5 a6 a7 a8 a9 a10 a11 a12 a13 a14 k0 => Q08_s (Q08_g n) n a0 a1 a2 a3 a4 a5 a6 a7 a8 a9 a10 a11 a12 a13 a14 k0
def Q08_e (n : Nat) : EK := Q08_E (Q08 n)
def Q08_S (G : Q08_G) : CK := tabS [(9, Qj_E G.Qj), (40, Qq_E G.Qq), (36, cap_None_E G.cap_None), (112, Q0u_E G.Q0u), (51, Q05_E G.Q05), (97, Q00_E G.Q00), (29, Qv_E G.Qv)]
theorem Q08_Sok (n : Nat) : CK.OK (Q08_S (Q08_g n)) (L tab) := tabS_ok _ (List.forall_mem_cons.2 ⟨(Qj_ok n), List.forall_mem_cons.2 ⟨(Qq_ok n), List.forall_mem_cons.2 ⟨(cap_None_ok n), List.forall_mem_cons.2 ⟨(Q0u_ok n), List.forall_mem_cons.2 ⟨(Q05_ok n), List.forall_mem_cons.2 ⟨(Q00_ok n), List.forall_mem_cons.2 ⟨(Qv_ok n), (fun _ h => nomatch h)⟩⟩⟩⟩⟩⟩⟩)
def Q08_hs : HintC := hintL [(52, [.i .i64, .i .i64, .i .i64, .i .i64, .i .i64]), (61, [.i .i64, .i .i64, .i .i64, .i .i64, .i .i64]), (71, [.i .i64, .i .i64, .i .i64, .i .i64, .i .i64]), (82, [.i .i64, .i .i64, .i .i64, .i .i64, .i .i64])]
def Q08_lp (_G : Q08_G) (_n : Nat) : LK := tabL []
theorem Q08_k (G : Q08_G) {ρ : Type} (n : Nat) (a0 a1 a2 : Int) (a3 a4 : Bool) (a5 : Rows) (a6 a7 : Bool) (a8 : Rows) (a9 a10 : Int) (a11 a12 : Int) (a13 a14 : Int) (K : Res → Option ρ) : runC (Q08_S G) Q08_hs (Q08_lp G n) m96 [.agg [.i .i64 a0, .i .i64 a1, .i .i64 a2, .lst a3 a4 5 a5, .lst a6 a7 13 a8], .i .i64 a9, .i .i64 a10, .agg [.i .i64 a11, .i .i64 a12, .i .i64 a13, .i .i64 a14]] K = Q08_s G n a0 a1 a2 a3 a4 a5 a6 a7 a8 a9 a10 a11 a12 a13 a14 (fun w0 w1 w2 w3 w4 w5 w6 => K ⟨.tup [.agg [.i .i64 a0, .i .i64 a1, .i .i64 a2, .lst w0 w1 5 w2, .lst w3 w4 13 w5], .i .i64 w6], [], []⟩) := by kernel_rfl
theorem Q08_ok (n : Nat) : EK.OK (Q08_e n) 96 (L tab) := EK.shp (fun _ _ _ => rfl) fun ρ K y c e => EK.run (Q08_Sok n) (by kernel_rfl) (MF.LKOK.of (LK.of (l := []) (by kernel_rfl) ((fun _ h => nomatch h)))) (Q08_k (Q08_g n) n _ _ _ _ _ _ _ _ _ _ _ _ _ _ _ K) (by kernel_rfl) e
abbrev slices_Clone_int_T : Type 1 := (ρ : Type) → Bool → Bool → Rows → (Option ρ) → (Nat → Nat → Rows → Option ρ) → Option ρ
def slices_Clone_int_E (G : slices_Clone_int_T) : EK := fun ρ args K => decL [.lst none none 1 none] args fun c => G ρ c.1.1 c.1.2.1 c.1.2.2 (K ⟨.lst true true 0 [], [], []⟩) (fun w0 w1 w2 => K ⟨.sl 0 w0 1 0 w1, [.row 1 true false w2], []⟩)
structure slices_Clone_int_G where
 mk ::
def slices_Clone_int_s (_G : slices_Clone_int_G) {ρ : Type} (_n : Nat) (a0 _a1 : Bool) (a2 : Rows) (k0 : (Option ρ)) (k1 : (Nat → Nat → Rows → Option ρ)) : Option ρ :=
 bif a0 then
 k0
 else chk (List.all (a2 : Rows) fun e => e.length == 1) <|
 chk (decide ((0 + (List.length (a2 : Rows))) ≤ most)) <|
 chk (List.all (a2 : Rows) fun e => !ownL e) <|
 k1 (0 + (List.length (a2 : Rows))) (0 + (List.length (a2 : Rows))) ([] ++ a2)
def slices_Clone_int_g (_n : Nat) : slices_Clone_int_G := ⟨⟩
def slices_Clone_int (n : Nat) : slices_Clone_int_T := fun _ρ a0 a1 a2 k0 k1 => slices_Clone_int_s (slices_Clone_int_g n) n a0 a1 a2 k0 k1
def slices_Clone_int_e (n : Nat) : EK := slices_Clone_int_E (slices_Clone_int n)
def slices_Clone_int_S (_G : slices_Clone_int_G) : CK := tabS []
theorem slices_Clone_int_Sok (n : Nat) : CK.OK (slices_Clone_int_S (slices_Clone_int_g n)) (L tab) := tabS_ok _ ((fun _ h => nomatch h))
def slices_Clone_int_hs : HintC := hintL []
def slices_Clone_int_lp (_G : slices_Clone_int_G) (_n : Nat) : LK := tabL []
theorem slices_Clone_int_k (G : slices_Clone_int_G) {ρ : Type} (n : Nat) (a0 a1 : Bool) (a2 : Rows) (K : Res → Option ρ) : runC (slices_Clone_int_S G) slices_Clone_int_hs (slices_Clone_int_lp G n) m125 [.lst a0 a1 1 a2] K = slices_Clone_int_s G n a0 a1 a2 (K ⟨.lst true true 0 [], [], []⟩) (fun w0 w1 w2 => K ⟨.sl 0 w0 1 0 w1, [.row 1 true false w2], []⟩) := by kernel_rfl
theorem slices_Clone_int_ok (n : Nat) : EK.OK (slices_Clone_int_e n) 125 (L tab) := EK.shp (fun _ _ _ => rfl) fun ρ K y c e => EK.run (slices_Clone_int_Sok n) (by kernel_rfl) (MF.LKOK.of (LK.of (l := []) (by kernel_rfl) ((fun _ h => nomatch h)))) (slices_Clone_int_k (slices_Clone_int_g n) n _ _ _ K) (by kernel_rfl) e
abbrev Q0o_T : Type 1 := (ρ : Type) → Bool → Bool → Rows → (Option ρ) → (Nat → Nat → Rows → Option ρ) → Option ρ
def Q0o_E (G : Q0o_T) : EK := fun ρ args K => decL [.agg [.lst none none 1 none]] args fun c => G ρ c.1.1.1 c.1.1.2.1 c.1.1.2.2 (K ⟨.agg [.lst true true 0 []], [], []⟩) (fun w0 w1 w2 => K ⟨.agg [.sl 0 w0 1 0 w1], [.row 1 true false w2], []⟩)
structure Q0o_G where
 mk ::
 slices_Clone_int : slices_Clone_int_T
def Q0o_s (G : Q0o_G) {ρ : Type} (_n : Nat) (a0 a1 : Bool) (a2 : Rows) (k0 : (Option ρ)) (k1 : (Nat → Nat → Rows → Option ρ)) : Option ρ :=
 G.slices_Clone_int ρ a0 a1 a2 (k0) (fun w1_0 w1_1 w1_2 =>
 k1 w1_0 w1_1 w1_2)
def Q0o_g (n : Nat) : Q0o_G := ⟨slices_Clone_int n⟩
def Q0o (n : Nat) : Q0o_T := fun _ρ a0 a1 a2 k0 k1 => Q0o_s (Q0o_g n) n a0 a1 a2 k0 k1
def Q0o_e (n : Nat) : EK := Q0o_E (Q0o n)
def Q0o_S (G : Q0o_G) : CK := tabS [(125, slices_Clone_int_E G.slices_Clone_int)]
theorem Q0o_Sok (n : Nat) : CK.OK (Q0o_S (Q0o_g n)) (L tab) := tabS_ok _ (List.forall_mem_cons.2 ⟨(slices_Clone_int_ok n), (fun _ h => nomatch h)⟩)
def Q0o_hs : HintC := hintL []
def Q0o_lp (_G : Q0o_G) (_n : Nat) : LK := tabL []
theorem Q0o_k (G : Q0o_G) {ρ : Type} (n : Nat) (a0 a1 : Bool) (a2 : Rows) (K : Res → Option ρ) : runC (Q0o_S G) Q0o_hs (Q0o_lp G n) m122 [.agg [.lst a0 a1 1 a2]] K = Q0o_s G n a0 a1 a2 (K ⟨.agg [.lst true true 0 []], [], []⟩) (fun w0 w1 w2 => K ⟨.agg [.sl 0 w0 1 0 w1], [.row 1 true false w2], []⟩) := by kernel_rfl
theorem Q0o_ok (n : Nat) : EK.OK (Q0o_e n) 122 (L tab) := EK.shp (fun _ _ _ => rfl) fun ρ K y c e => EK.run (Q0o_Sok n) (by kernel_rfl) (MF.LKOK.of (LK.of (l := []) (by kernel_rfl) ((fun _ h => nomatch h)))) (Q0o_k (Q0o_g n) n _ _ _ K) (by kernel_rfl) e
abbrev forest_Forest_of_i1_T : Type 1 := (ρ : Type) → Bool → Bool → Int → (Option ρ) → Option ρ
def forest_Forest_of_i1_E (G : forest_Forest_of_i1_T) : EK := fun ρ args K => decL [.agg [.lst none none 0 (some [])], .i .i64 none] args fun c => G ρ c.1.1.1 c.1.1.2.1 c.2.1 (K ⟨.lst true true 0 [], [], []⟩)
structure forest_Forest_of_i1_G where
 mk ::
abbrev forest_Forest_of_i1_l3_V : Type := Unit
def forest_Forest_of_i1_l3_s (_G : forest_Forest_of_i1_G) {ρ : Type} (_n : Nat) (_p0 : Int) (_p1 _p2 : Bool) (_p3 _p4 : Bool) (k0 : (Option ρ)) (_rec' : forest_Forest_of_i1_l3_V → Option ρ) : forest_Forest_of_i1_l3_V → Option ρ
 | _v =>
 k0
def forest_Forest_of_i1_l3 (G : forest_Forest_of_i1_G) {ρ : Type} (n : Nat) (p0 : Int) (p1 p2 : Bool) (p3 p4 : Bool) (k0 : (Option ρ)) (v : forest_Forest_of_i1_l3_V) : Option ρ := fuelN (forest_Forest_of_i1_l3_s G n p0 p1 p2 p3 p4 k0) n v
def forest_Forest_of_i1_l3_enc (p0 : Int) (p1 p2 : Bool) (p3 p4 : Bool) : forest_Forest_of_i1_l3_V → St
 | _v => ⟨[(1, .i .i64 p0), (5, .lst true true 0 []), (9, .lst p1 p2 0 []), (10, .i .i64 0), (11, .i .i64 0)], [.row 1 true false [[.lst p3 p4 0 []]]]⟩
def forest_Forest_of_i1_s (G : forest_Forest_of_i1_G) {ρ : Type} (n : Nat) (a0 a1 : Bool) (a2 : Int) (k0 : (Option ρ)) : Option ρ :=
 forest_Forest_of_i1_l3 G n a2 a0 a1 a0 a1 (k0) ()
def forest_Forest_of_i1_g (_n : Nat) : forest_Forest_of_i1_G := ⟨⟩
def forest_Forest_of_i1 (n : Nat) : forest_Forest_of_i1_T := fun _ρ a0 a1 a2 k0 => forest_Forest_of_i1_s (forest_Forest_of_i1_g n) n a0 a1 a2 k0
def forest_Forest_of_i1_e (n : Nat) : EK := forest_Forest_of_i1_E (forest_Forest_of_i1 n)
def forest_Forest_of_i1_S (_G : forest_Forest_of_i1_G) : CK := tabS []
theorem forest_Forest_of_i1_Sok (n : Nat) : CK.OK (forest_Forest_of_i1_S (forest_Forest_of_i1_g n)) (L tab) := tabS_ok _ ((fun _ h => nomatch h))
def forest_Forest_of_i1_hs : HintC := hintL []
def forest_Forest_of_i1_c3 : Nat × List Nat × List Nat × MC := loopAt 3 m121
def forest_Forest_of_i1_l3_d (G : forest_Forest_of_i1_G) (n : Nat) : Go.Rv.LE := fun _ρ h K => decSt [(1, .i .i64 none), (5, .lst (some true) (some true) 0 (some [])), (9, .lst none none 0 (some [])), (10, .i .i64 (some 0)), (11, .i .i64 (some 0))] [.row 1 true false (some [[.lst none none 0 (some [])]])] h fun a b => forest_Forest_of_i1_l3 G n a.1 a.2.2.1.1 a.2.2.1.2.1 b.1.1.1.1 b.1.1.1.2.1 (K (.exit 0) ⟨[(5, .lst true true 0 [])], [.row 1 true false [[.lst b.1.1.1.1 b.1.1.1.2.1 0 []]]]⟩) ()
def forest_Forest_of_i1_d3 (G : forest_Forest_of_i1_G) (n : Nat) : Go.Rv.LE := forest_Forest_of_i1_l3_d G n
def forest_Forest_of_i1_lp (G : forest_Forest_of_i1_G) (n : Nat) : LK := tabL [(3, forest_Forest_of_i1_d3 G n)]
theorem forest_Forest_of_i1_l3_k (G : forest_Forest_of_i1_G) {ρ : Type} (n : Nat) (p0 : Int) (p1 p2 : Bool) (p3 p4 : Bool) (K : Ex → St → Option ρ) (N : St → Option ρ) : ∀ v, roundC (forest_Forest_of_i1_S G) forest_Forest_of_i1_hs (forest_Forest_of_i1_lp G n) forest_Forest_of_i1_c3 1 N K (forest_Forest_of_i1_l3_enc p0 p1 p2 p3 p4 v) = forest_Forest_of_i1_l3_s G n p0 p1 p2 p3 p4 (K (.exit 0) ⟨[(5, .lst true true 0 [])], [.row 1 true false [[.lst p3 p4 0 []]]]⟩) (fun v => N (forest_Forest_of_i1_l3_enc p0 p1 p2 p3 p4 v)) v
 | v => by kernel_rfl
theorem forest_Forest_of_i1_l3_dok (n : Nat) : LE.OK (forest_Forest_of_i1_l3_d (forest_Forest_of_i1_g n) n) (L tab) forest_Forest_of_i1_c3 := LE.shp (fun _ _ _ => rfl) fun ρ K y a b e => LE.rounds (forest_Forest_of_i1_Sok n) (LK.of (l := []) (by kernel_rfl) ((fun _ h => nomatch h))) (forest_Forest_of_i1_l3_k (forest_Forest_of_i1_g n) n _ _ _ _ _ K) (by kernel_rfl) (by kernel_rfl) e
theorem forest_Forest_of_i1_d3_ok (n : Nat) : LE.OK (forest_Forest_of_i1_d3 (forest_Forest_of_i1_g n) n) (L tab) forest_Forest_of_i1_c3 := forest_Forest_of_i1_l3_dok n
theorem forest_Forest_of_i1_k (G : forest_Forest_of_i1_G) {ρ : Type} (n : Nat) (a0 a1 : Bool) (a2 : Int) (K : Res → Option ρ) : runC (forest_Forest_of_i1_S G) forest_Forest_of_i1_hs (forest_Forest_of_i1_lp G n) m121 [.agg [.lst a0 a1 0 []], .i .i64 a2] K = forest_Forest_of_i1_s G n a0 a1 a2 (K ⟨.lst true true 0 [], [], []⟩) := by kernel_rfl
theorem forest_Forest_of_i1_ok (n : Nat) : EK.OK (forest_Forest_of_i1_e n) 121 (L tab) := EK.shp (fun _ _ _ => rfl) fun ρ K y c e => EK.run (forest_Forest_of_i1_Sok n) (by kernel_rfl) (MF.LKOK.of (LK.of (l := [forest_Forest_of_i1_c3]) (by kernel_rfl) (List.forall_mem_cons.2 ⟨LE.at (e := forest_Forest_of_i1_d3 (forest_Forest_of_i1_g n) n) (by kernel_rfl) (forest_Forest_of_i1_d3_ok n), (fun _ h => nomatch h)⟩))) (forest_Forest_of_i1_k (forest_Forest_of_i1_g n) n _ _ _ K) (by kernel_rfl) e
abbrev Q3_T : Type 1 := (ρ : Type) → Bool → Bool → Rows → Int → Int → (Option ρ) → (Nat → Nat → Rows → Option ρ) → Option ρ
def Q3_E (G : Q3_T) : EK := fun ρ args K => decL [.agg [.lst none none 1 none], .i .i64 none, .i .i64 none] args fun c => G ρ c.1.1.1 c.1.1.2.1 c.1.1.2.2 c.2.1 c.2.2.1 (K ⟨.tup [.agg [.lst true true 0 []], .b false], [], []⟩) (fun w0 w1 w2 => K ⟨.tup [.agg [.sl 0 w0 1 0 w1], .b true], [.row 1 true false w2], []⟩)
structure Q3_G where
 mk ::
 Qx : Qx_T
 forest_Forest_is : forest_Forest_is_T
 Q0o : Q0o_T
 forest_Forest_of_i1 : forest_Forest_of_i1_T
 forest_Forest_of : forest_Forest_of_T
abbrev Q3_l5_0_V : Type := Unit
def Q3_l5_0_s (_G : Q3_G) {ρ : Type} (_n : Nat) (_p0 _p1 : Int) (k0 : (Option ρ)) (_rec' : Q3_l5_0_V → Option ρ) : Q3_l5_0_V → Option ρ
 | _v =>
 k0
def Q3_l5_0 (G : Q3_G) {ρ : Type} (n : Nat) (p0 p1 : Int) (k0 : (Option ρ)) (v : Q3_l5_0_V) : Option ρ := fuelN (Q3_l5_0_s G n p0 p1 k0) n v
def Q3_l5_0_enc (p0 p1 : Int) : Q3_l5_0_V → St
 | _v => ⟨[(1, .i .i64 p0), (2, .i .i64 p1), (3, .ptr 0 1 1 0 0), (6, .ptr 1 1 1 0 0), (35, .lst true true 0 []), (36, .i .i64 0), (37, .i .i64 0)], [.row 1 true false [[.lst true true 0 []]], .row 1 true false [[.lst true true 0 []]]]⟩
abbrev Q3_l5_1_V : Type := Unit
def Q3_l5_1_s (_G : Q3_G) {ρ : Type} (_n : Nat) (_p0 _p1 : Int) (_p2 _p3 : Nat) (_p4 : Rows) (k0 : (Option ρ)) (_rec' : Q3_l5_1_V → Option ρ) : Q3_l5_1_V → Option ρ
 | _v =>
 k0
def Q3_l5_1 (G : Q3_G) {ρ : Type} (n : Nat) (p0 p1 : Int) (p2 p3 : Nat) (p4 : Rows) (k0 : (Option ρ)) (v : Q3_l5_1_V) : Option ρ := fuelN (Q3_l5_1_s G n p0 p1 p2 p3 p4 k0) n v
def Q3_l5_1_enc (p0 p1 : Int) (p2 p3 : Nat) (p4 : Rows) : Q3_l5_1_V → St
 | _v => ⟨[(1, .i .i64 p0), (2, .i .i64 p1), (3, .ptr 0 1 1 0 0), (6, .ptr 1 1 1 0 0), (35, .lst true true 0 []), (36, .i .i64 0), (37, .i .i64 0)], [.row 1 false false [[.sl 2 p2 1 0 p3]], .row 1 true false [[.lst true true 0 []]], .row 1 true false p4]⟩
abbrev Q3_l5_2_V : Type := Unit
def Q3_l5_2_s (_G : Q3_G) {ρ : Type} (_n : Nat) (_p0 _p1 : Int) (p2 p3 : Nat) (p4 : Int) (_p5 p6 : Nat) (_p7 p8 : Rows) (k0 : (Option ρ)) (_rec' : Q3_l5_2_V → Option ρ) : Q3_l5_2_V → Option ρ
 | _v =>
 bif decide ((0 : Int) < p4) then
 chk (decide ((0 : Int) < ((p3 : Nat) : Int))) <|
 chk (((List.length (p8 : Rows)) : Nat) == p2) <|
 rowN [.i .i64] p8 0 fun c0 =>
 chk (decide ((0 : Int) ≤ c0.1)) <|
 chk (decide ((c0.1 : Int) < ((p6 : Nat) : Int))) <|
 none
 else k0
def Q3_l5_2 (G : Q3_G) {ρ : Type} (n : Nat) (p0 p1 : Int) (p2 p3 : Nat) (p4 : Int) (p5 p6 : Nat) (p7 p8 : Rows) (k0 : (Option ρ)) (v : Q3_l5_2_V) : Option ρ := fuelN (Q3_l5_2_s G n p0 p1 p2 p3 p4 p5 p6 p7 p8 k0) n v
def Q3_l5_2_enc (p0 p1 : Int) (p2 p3 : Nat) (p4 : Int) (p5 p6 : Nat) (p7 p8 : Rows) : Q3_l5_2_V → St
 | _v => ⟨[(1, .i .i64 p0), (2, .i .i64 p1), (3, .ptr 0 1 1 0 0), (6, .ptr 1 1 1 0 0), (35, .sl 3 p2 1 0 p3), (36, .i .i64 p4), (37, .i .i64 0)], [.row 1 false false [[.sl 2 p5 1 0 p6]], .row 1 true false [[.lst true true 0 []]], .row 1 true true p7, .row 1 true false p8]⟩
abbrev Q3_l5_3_V : Type := Int × Rows
def Q3_l5_3_s (_G : Q3_G) {ρ : Type} (_n : Nat) (_p0 p1 : Int) (p2 p3 : Nat) (p4 : Int) (p5 p6 : Nat) (p8 : Rows) (k0 : (Rows → Option ρ)) (rec' : Q3_l5_3_V → Option ρ) : Q3_l5_3_V → Option ρ
 | v =>
 bif decide ((v.1 : Int) < p4) then
 chk (decide ((0 : Int) ≤ v.1)) <|
 chk (decide ((v.1 : Int) < ((p3 : Nat) : Int))) <|
 chk (((List.length (p8 : Rows)) : Nat) == p2) <|
 rowN [.i .i64] p8 (0 + v.1.toNat) fun c0 =>
 chk (decide ((0 : Int) ≤ c0.1)) <|
 chk (decide ((c0.1 : Int) < ((p6 : Nat) : Int))) <|
 chk (((List.length (v.2 : Rows)) : Nat) == p5) <|
 rowN [.a] v.2 (0 + c0.1.toNat) fun _c1 =>
 rec' ((IntKind.wrap .i64 (v.1 + 1)), (List.set (v.2 : Rows) (0 + c0.1.toNat) [.i .i64 p1]))
 else k0 v.2
def Q3_l5_3 (G : Q3_G) {ρ : Type} (n : Nat) (p0 p1 : Int) (p2 p3 : Nat) (p4 : Int) (p5 p6 : Nat) (p8 : Rows) (k0 : (Rows → Option ρ)) (v : Q3_l5_3_V) : Option ρ := fuelN (Q3_l5_3_s G n p0 p1 p2 p3 p4 p5 p6 p8 k0) n v
def Q3_l5_3_enc (p0 p1 : Int) (p2 p3 : Nat) (p4 : Int) (p5 p6 : Nat) (p8 : Rows) : Q3_l5_3_V → St
 | v => ⟨[(1, .i .i64 p0), (2, .i .i64 p1), (3, .ptr 0 1 1 0 0), (6, .ptr 1 1 1 0 0), (35, .sl 3 p2 1 0 p3), (36, .i .i64 p4), (37, .i .i64 v.1)], [.row 1 false false [[.sl 2 p5 1 0 p6]], .row 1 true false [[.lst true true 0 []]], .row 1 true false v.2, .row 1 true false p8]⟩
def Q3_s (G : Q3_G) {ρ : Type} (n : Nat) (a0 a1 : Bool) (a2 : Rows) (a3 a4 : Int) (k0 : (Option ρ)) (k1 : (Nat → Nat → Rows → Option ρ)) : Option ρ :=
 G.Qx ρ a0 a1 a2 a3 (fun w0_0 =>
 bif w0_0 then
 bif decide ((a4 : Int) < 0) then
 k0
 else bif decide ((a4 : Int) ≥ (((List.length (a2 : Rows)) : Nat) : Int)) then
 k0
 else G.forest_Forest_is ρ a0 a1 a2 a4 (fun w1_0 =>
 bif w1_0 then
 k0
 else G.Q0o ρ a0 a1 a2 (G.forest_Forest_of_i1 ρ true true a3 (Q3_l5_0 G n a3 a4 (none) ())) (fun w5_0 w5_1 w5_2 =>
 chk (((List.length (w5_2 : Rows)) : Nat) == w5_0) <|
 G.forest_Forest_of ρ false false (List.take w5_1 (List.drop 0 (w5_2 : Rows))) a3 (Q3_l5_1 G n a3 a4 w5_0 w5_1 w5_2 (chk (decide ((0 : Int) ≤ a3)) <|
 chk (decide ((a3 : Int) < ((w5_1 : Nat) : Int))) <|
 chk (((List.length (w5_2 : Rows)) : Nat) == w5_0) <|
 rowN [.i .i64] w5_2 (0 + a3.toNat) fun c8 =>
 chk (decide ((0 : Int) ≤ a4)) <|
 chk (decide ((a4 : Int) < ((w5_1 : Nat) : Int))) <|
 chk (((List.length (w5_2 : Rows)) : Nat) == w5_0) <|
 rowN [.a] w5_2 (0 + a4.toNat) fun _c9 =>
 chk (decide ((0 : Int) ≤ a3)) <|
 chk (decide ((a3 : Int) < ((w5_1 : Nat) : Int))) <|
 chk (((List.length ((List.set (w5_2 : Rows) (0 + a4.toNat) [.i .i64 c8.1]) : Rows)) : Nat) == w5_0) <|
 rowN [.a] (List.set (w5_2 : Rows) (0 + a4.toNat) [.i .i64 c8.1]) (0 + a3.toNat) fun _c10 =>
 k1 w5_0 w5_1 (List.set ((List.set (w5_2 : Rows) (0 + a4.toNat) [.i .i64 c8.1]) : Rows) (0 + a3.toNat) [.i .i64 (-2)])) ()) (fun w11_0 w11_1 w11_2 =>
 bif stayR ⟨.sl 0 w11_0 1 0 w11_1, [.row 1 true false w11_2], []⟩ then
 Q3_l5_2 G n a3 a4 w11_0 w11_1 ((w11_1 : Nat) : Int) w5_0 w5_1 w5_2 w11_2 (chk (decide ((0 : Int) ≤ a3)) <|
 chk (decide ((a3 : Int) < ((w5_1 : Nat) : Int))) <|
 chk (((List.length (w5_2 : Rows)) : Nat) == w5_0) <|
 rowN [.i .i64] w5_2 (0 + a3.toNat) fun _c13 =>
 chk (decide ((0 : Int) ≤ a4)) <|
 chk (decide ((a4 : Int) < ((w5_1 : Nat) : Int))) <|
 none) ()
 else Q3_l5_3 G n a3 a4 w11_0 w11_1 ((w11_1 : Nat) : Int) w5_0 w5_1 w11_2 (fun w12_0 =>
 chk (decide ((0 : Int) ≤ a3)) <|
 chk (decide ((a3 : Int) < ((w5_1 : Nat) : Int))) <|
 chk (((List.length (w12_0 : Rows)) : Nat) == w5_0) <|
 rowN [.i .i64] w12_0 (0 + a3.toNat) fun c13 =>
 chk (decide ((0 : Int) ≤ a4)) <|
 chk (decide ((a4 : Int) < ((w5_1 : Nat) : Int))) <|
 chk (((List.length (w12_0 : Rows)) : Nat) == w5_0) <|
 rowN [.a] w12_0 (0 + a4.toNat) fun _c14 =>
 chk (decide ((0 : Int) ≤ a3)) <|
 chk (decide ((a3 : Int) < ((w5_1 : Nat) : Int))) <|
 chk (((List.length ((List.set (w12_0 : Rows) (0 + a4.toNat) [.i .i64 c13.1]) : Rows)) : Nat) == w5_0) <|
 rowN [.a] (List.set (w12_0 : Rows) (0 + a4.toNat) [.i .i64 c13.1]) (0 + a3.toNat) fun _c15 =>
 k1 w5_0 w5_1 (List.set ((List.set (w12_0 : Rows) (0 + a4.toNat) [.i .i64 c13.1]) : Rows) (0 + a3.toNat) [.i .i64 (-2)])) (0, w5_2))))
 else k0)
def Q3_g (n : Nat) : Q3_G := ⟨Qx n, forest_Forest_is n, Q0o n, forest_Forest_of_i1 n, forest_Forest_of n⟩
def Q3 (n : Nat) : Q3_T := fun _ρ a0 a1 a2 a3 a4 k0 k1 => Q3_s (Q3_g n) n a0 a1 a2 a3 a4 k0 k1
def Q3_e (n : Nat) : EK := Q3_E (Q3 n)
def Q3_S (G : Q3_G) : CK := tabS [(62, Qx_E G.Qx), (50, forest_Forest_is_E G.forest_Forest_is), (122, Q0o_E G.Q0o), (121, altE [.agg [.lst none none 0 (some [])], .i .i64 none] (forest_Forest_of_i1_E G.forest_Forest_of_i1) (forest_Forest_of_E G.forest_Forest_of))]
theorem Q3_Sok (n : Nat) : CK.OK (Q3_S (Q3_g n)) (L tab) := tabS_ok _ (List.forall_mem_cons.2 ⟨(Qx_ok n), List.forall_mem_cons.2 ⟨(forest_Forest_is_ok n), List.forall_mem_cons.2 ⟨(Q0o_ok n), List.forall_mem_cons.2 ⟨altE_ok (forest_Forest_of_i1_ok n) ((forest_Forest_of_ok n)), (fun _ h => nomatch h)⟩⟩⟩⟩)
def Q3_hs : HintC := hintL [(54, [.i .i64]), (40, [.i .i64])]
def Q3_c5 : Nat × List Nat × List Nat × MC := loopAt 5 m114
def Q3_l5_3_d (G : Q3_G) (n : Nat) : Go.Rv.LE := fun _ρ h K => decSt [(1, .i .i64 none), (2, .i .i64 none), (3, .ptr 0 1 0 (some 1) (some 0)), (6, .ptr 1 1 0 (some 1) (some 0)), (35, .sl 3 1 none (some 0) none), (36, .i .i64 none), (37, .i .i64 none)] [.row 1 false false (some [[.sl 2 1 none (some 0) none]]), .row 1 true false (some [[.lst (some true) (some true) 0 (some [])]]), .row 1 true false none, .row 1 true false none] h fun a b => Q3_l5_3 G n a.1 a.2.1 a.2.2.2.2.1.1 a.2.2.2.2.1.2.2 a.2.2.2.2.2.1 b.1.1.1.1 b.1.1.1.2.2 b.2.2.2.1 (fun w0 => K (.exit 0) ⟨[(1, .i .i64 a.1), (2, .i .i64 a.2.1), (3, .ptr 0 1 1 0 0), (6, .ptr 1 1 1 0 0)], [.row 1 false false [[.sl 2 b.1.1.1.1 1 0 b.1.1.1.2.2]], .row 1 true false [[.lst true true 0 []]], .row 1 true false w0, .row 1 true false b.2.2.2.1]⟩) (a.2.2.2.2.2.2.1, b.2.2.1)
def Q3_l5_2_d (G : Q3_G) (n : Nat) : Go.Rv.LE := fun _ρ h K => decSt [(1, .i .i64 none), (2, .i .i64 none), (3, .ptr 0 1 0 (some 1) (some 0)), (6, .ptr 1 1 0 (some 1) (some 0)), (35, .sl 3 1 none (some 0) none), (36, .i .i64 none), (37, .i .i64 (some 0))] [.row 1 false false (some [[.sl 2 1 none (some 0) none]]), .row 1 true false (some [[.lst (some true) (some true) 0 (some [])]]), .row 1 true true none, .row 1 true false none] h fun a b => Q3_l5_2 G n a.1 a.2.1 a.2.2.2.2.1.1 a.2.2.2.2.1.2.2 a.2.2.2.2.2.1 b.1.1.1.1 b.1.1.1.2.2 b.2.2.1 b.2.2.2.1 (K (.exit 0) ⟨[(1, .i .i64 a.1), (2, .i .i64 a.2.1), (3, .ptr 0 1 1 0 0), (6, .ptr 1 1 1 0 0)], [.row 1 false false [[.sl 2 b.1.1.1.1 1 0 b.1.1.1.2.2]], .row 1 true false [[.lst true true 0 []]], .row 1 true true b.2.2.1, .row 1 true false b.2.2.2.1]⟩) ()
def Q3_l5_1_d (G : Q3_G) (n : Nat) : Go.Rv.LE := fun _ρ h K => decSt [(1, .i .i64 none), (2, .i .i64 none), (3, .ptr 0 1 0 (some 1) (some 0)), (6, .ptr 1 1 0 (some 1) (some 0)), (35, .lst (some true) (some true) 0 (some [])), (36, .i .i64 (some 0)), (37, .i .i64 (some 0))] [.row 1 false false (some [[.sl 2 1 none (some 0) none]]), .row 1 true false (some [[.lst (some true) (some true) 0 (some [])]]), .row 1 true false none] h fun a b => Q3_l5_1 G n a.1 a.2.1 b.1.1.1.1 b.1.1.1.2.2 b.2.2.1 (K (.exit 0) ⟨[(1, .i .i64 a.1), (2, .i .i64 a.2.1), (3, .ptr 0 1 1 0 0), (6, .ptr 1 1 1 0 0)], [.row 1 false false [[.sl 2 b.1.1.1.1 1 0 b.1.1.1.2.2]], .row 1 true false [[.lst true true 0 []]], .row 1 true false b.2.2.1]⟩) ()
def Q3_l5_0_d (G : Q3_G) (n : Nat) : Go.Rv.LE := fun _ρ h K => decSt [(1, .i .i64 none), (2, .i .i64 none), (3, .ptr 0 1 0 (some 1) (some 0)), (6, .ptr 1 1 0 (some 1) (some 0)), (35, .lst (some true) (some true) 0 (some [])), (36, .i .i64 (some 0)), (37, .i .i64 (some 0))] [.row 1 true false (some [[.lst (some true) (some true) 0 (some [])]]), .row 1 true false (some [[.lst (some true) (some true) 0 (some [])]])] h fun a _b => Q3_l5_0 G n a.1 a.2.1 (K (.exit 0) ⟨[(1, .i .i64 a.1), (2, .i .i64 a.2.1), (3, .ptr 0 1 1 0 0), (6, .ptr 1 1 1 0 0)], [.row 1 true false [[.lst true true 0 []]], .row 1 true false [[.lst true true 0 []]]]⟩) ()
def Q3_d5 (G : Q3_G) (n : Nat) : Go.Rv.LE := altL [(1, .i .i64 none), (2, .i .i64 none), (3, .ptr 0 1 0 (some 1) (some 0)), (6, .ptr 1 1 0 (some 1) (some 0)), (35, .sl 3 1 none (some 0) none), (36, .i .i64 none), (37, .i .i64 none)] [.row 1 false false (some [[.sl 2 1 none (some 0) none]]), .row 1 true false (some [[.lst (some true) (some true) 0 (some [])]]), .row 1 true false none, .row 1 true false none] (Q3_l5_3_d G n) (altL [(1, .i .i64 none), (2, .i .i64 none), (3, .ptr 0 1 0 (some 1) (some 0)), (6, .ptr 1 1 0 (some 1) (some 0)), (35, .sl 3 1 none (some 0) none), (36, .i .i64 none), (37, .i .i64 (some 0))] [.row 1 false false (some [[.sl 2 1 none (some 0) none]]), .row 1 true false (some [[.lst (some true) (some true) 0 (some [])]]), .row 1 true true none, .row 1 true false none] (Q3_l5_2_d G n) (altL [(1, .i .i64 none), (2, .i .i64 none), (3, .ptr 0 1 0 (some 1) (some 0)), (6, .ptr 1 1 0 (some 1) (some 0)), (35, .lst (some true) (some true) 0 (some [])), (36, .i .i64 (some 0)), (37, .i .i64 (some 0))] [.row 1 false false (some [[.sl 2 1 none (some 0) none]]), .row 1 true false (some [[.lst (some true) (some true) 0 (some [])]]), .row 1 true false none] (Q3_l5_1_d G n) (Q3_l5_0_d G n)))
def Q3_lp (G : Q3_G) (n : Nat) : LK := tabL [(5, Q3_d5 G n)]
theorem Q3_l5_3_k (G : Q3_G) {ρ : Type} (n : Nat) (p0 p1 : Int) (p2 p3 : Nat) (p4 : Int) (p5 p6 : Nat) (p8 : Rows) (K : Ex → St → Option ρ) (N : St → Option ρ) : ∀ v, roundC (Q3_S G) Q3_hs (Q3_lp G n) Q3_c5 4 N K (Q3_l5_3_enc p0 p1 p2 p3 p4 p5 p6 p8 v) = Q3_l5_3_s G n p0 p1 p2 p3 p4 p5 p6 p8 (fun w0 => K (.exit 0) ⟨[(1, .i .i64 p0), (2, .i .i64 p1), (3, .ptr 0 1 1 0 0), (6, .ptr 1 1 1 0 0)], [.row 1 false false [[.sl 2 p5 1 0 p6]], .row 1 true false [[.lst true true 0 []]], .row 1 true false w0, .row 1 true false p8]⟩) (fun v => N (Q3_l5_3_enc p0 p1 p2 p3 p4 p5 p6 p8 v)) v
 | v => by kernel_rfl
theorem Q3_l5_3_dok (n : Nat) : LE.OK (Q3_l5_3_d (Q3_g n) n) (L tab) Q3_c5 := LE.shp (fun _ _ _ => rfl) fun ρ K y a b e => LE.rounds (Q3_Sok n) (LK.of (l := []) (by kernel_rfl) ((fun _ h => nomatch h))) (Q3_l5_3_k (Q3_g n) n _ _ _ _ _ _ _ _ K) (by kernel_rfl) (by kernel_rfl) e
theorem Q3_l5_2_k (G : Q3_G) {ρ : Type} (n : Nat) (p0 p1 : Int) (p2 p3 : Nat) (p4 : Int) (p5 p6 : Nat) (p7 p8 : Rows) (K : Ex → St → Option ρ) (N : St → Option ρ) : ∀ v, roundC (Q3_S G) Q3_hs (Q3_lp G n) Q3_c5 4 N K (Q3_l5_2_enc p0 p1 p2 p3 p4 p5 p6 p7 p8 v) = Q3_l5_2_s G n p0 p1 p2 p3 p4 p5 p6 p7 p8 (K (.exit 0) ⟨[(1, .i .i64 p0), (2, .i .i64 p1), (3, .ptr 0 1 1 0 0), (6, .ptr 1 1 1 0 0)], [.row 1 false false [[.sl 2 p5 1 0 p6]], .row 1 true false [[.lst true true 0 []]], .row 1 true true p7, .row 1 true false p8]⟩) (fun v => N (Q3_l5_2_enc p0 p1 p2 p3 p4 p5 p6 p7 p8 v)) v
 | v => by kernel_rfl
theorem Q3_l5_2_dok (n : Nat) : LE.OK (Q3_l5_2_d (Q3_g n) n) (L tab) Q3_c5 := LE.shp (fun _ _ _ => rfl) fun ρ K y a b e => LE.rounds (Q3_Sok n) (LK.of (l := []) (by kernel_rfl) ((fun _ h => nomatch h))) (Q3_l5_2_k (Q3_g n) n _ _ _ _ _ _ _ _ _ K) (by kernel_rfl) (by kernel_rfl) e
theorem Q3_l5_1_k (G : Q3_G) {ρ : Type} (n : Nat) (p0 p1 : Int) (p2 p3 : Nat) (p4 : Rows) (K : Ex → St → Option ρ) (N : St → Option ρ) : ∀ v, roundC (Q3_S G) Q3_hs (Q3_lp G n) Q3_c5 3 N K (Q3_l5_1_enc p0 p1 p2 p3 p4 v) = Q3_l5_1_s G n p0 p1 p2 p3 p4 (K (.exit 0) ⟨[(1, .i .i64 p0), (2, .i .i64 p1), (3, .ptr 0 1 1 0 0), (6, .ptr 1 1 1 0 0)], [.row 1 false false [[.sl 2 p2 1 0 p3]], .row 1 true false [[.lst true true 0 []]], .row 1 true false p4]⟩) (fun v => N (Q3_l5_1_enc p0 p1 p2 p3 p4 v)) v
 | v => by kernel_rfl
theorem Q3_l5_1_dok (n : Nat) : LE.OK (Q3_l5_1_d (Q3_g n) n) (L tab) Q3_c5 := LE.shp (fun _ _ _ => rfl) fun ρ K y a b e => LE.rounds (Q3_Sok n) (LK.of (l := []) (by kernel_rfl) ((fun _ h => nomatch h))) (Q3_l5_1_k (Q3_g n) n _ _ _ _ _ K) (by kernel_rfl) (by kernel_rfl) e
theorem Q3_l5_0_k (G : Q3_G) {ρ : Type} (n : Nat) (p0 p1 : Int) (K : Ex → St → Option ρ) (N : St → Option ρ) : ∀ v, roundC (Q3_S G) Q3_hs (Q3_lp G n) Q3_c5 2 N K (Q3_l5_0_enc p0 p1 v) = Q3_l5_0_s G n p0 p1 (K (.exit 0) ⟨[(1, .i .i64 p0), (2, .i .i64 p1), (3, .ptr 0 1 1 0 0), (6, .ptr 1 1 1 0 0)], [.row 1 true false [[.lst true true 0 []]], .row 1 true false [[.lst true true 0 []]]]⟩) (fun v => N (Q3_l5_0_enc p0 p1 v)) v
 | v => by kernel_rfl
theorem Q3_l5_0_dok (n : Nat) : LE.OK (Q3_l5_0_d (Q3_g n) n) (L tab) Q3_c5 := LE.shp (fun _ _ _ => rfl) fun ρ K y a b e => LE.rounds (Q3_Sok n) (LK.of (l := []) (by kernel_rfl) ((fun _ h => nomatch h))) (Q3_l5_0_k (Q3_g n) n _ _ K) (by kernel_rfl) (by kernel_rfl) e
theorem Q3_d5_ok (n : Nat) : LE.OK (Q3_d5 (Q3_g n) n) (L tab) Q3_c5 := altL_ok (Q3_l5_3_dok n) (altL_ok (Q3_l5_2_dok n) (altL_ok (Q3_l5_1_dok n) (Q3_l5_0_dok n)))
theorem Q3_k (G : Q3_G) {ρ : Type} (n : Nat) (a0 a1 : Bool) (a2 : Rows) (a3 a4 : Int) (K : Res → Option ρ) : runC (Q3_S G) Q3_hs (Q3_lp G n) m114 [.agg [.lst a0 a1 1 a2], .i .i64 a3, .i .i64 a4] K = Q3_s G n a0 a1 a2 a3 a4 (K ⟨.tup [.agg [.lst true true 0 []], .b false], [], []⟩) (fun w0 w1 w2 => K ⟨.tup [.agg [.sl 0 w0 1 0 w1], .b true], [.row 1 true false w2], []⟩) := by kernel_rfl
theorem Q3_ok (n : Nat) : EK.OK (Q3_e n) 114 (L tab) := EK.shp (fun _ _ _ => rfl) fun ρ K y c e => EK.run (Q3_Sok n) (by kernel_rfl) (MF.LKOK.of (LK.of (l := [Q3_c5]) (by kernel_rfl) (List.forall_mem_cons.2 ⟨LE.at (e := Q3_d5 (Q3_g n) n) (by kernel_rfl) (Q3_d5_ok n), (fun _ h => nomatch h)⟩))) (Q3_k (Q3_g n) n _ _ _ _ _ K) (by kernel_rfl) e
end Go.Rv
