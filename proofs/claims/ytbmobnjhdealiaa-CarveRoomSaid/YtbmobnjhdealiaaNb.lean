/- functions as programs of ours, and their ties, part 2 -/
import Derived.Test.YtbmobnjhdealiaaNa
import Derived.KernelRfl
noncomputable section
namespace Go.Rv
abbrev Q0_T : Type 1 := (ρ : Type) → Bool → Bool → Rows → (Bool → Option ρ) → Option ρ
def Q0_E (G : Q0_T) : EK := fun ρ args K => decL [.agg [.lst none none 1 none]] args fun c => G ρ c.1.1.1 c.1.1.2.1 c.1.1.2.2 (fun w0 => K ⟨.b w0, [], []⟩)
structure Q0_G where
 mk ::
 forest_Forest_is : forest_Forest_is_T
abbrev Q0_l4_V : Type := Int
def Q0_l4_s (G : Q0_G) {ρ : Type} (_n : Nat) (_p0 _p1 : Bool) (p2 : Rows) (p3 : Int) (p4 p5 : Bool) (p6 : Rows) (k0 : (Option ρ)) (k1 : (Option ρ)) (rec' : Q0_l4_V → Option ρ) : Q0_l4_V → Option ρ
 | v =>
 bif decide ((v : Int) < p3) then
 rowT [.i .i64] p2 v fun c0 =>
 bif ((c0.1 : Int) != (-2)) then
 bif ((c0.1 : Int) != (-1)) then
 G.forest_Forest_is ρ p4 p5 p6 c0.1 (fun w1_0 =>
 bif w1_0 then
 rec' ((IntKind.wrap .i64 (v + 1)))
 else k0)
 else rec' ((IntKind.wrap .i64 (v + 1)))
 else rec' ((IntKind.wrap .i64 (v + 1)))
 else k1
def Q0_l4 (G : Q0_G) {ρ : Type} (n : Nat) (p0 p1 : Bool) (p2 : Rows) (p3 : Int) (p4 p5 : Bool) (p6 : Rows) (k0 : (Option ρ)) (k1 : (Option ρ)) (v : Q0_l4_V) : Option ρ := fuelN (Q0_l4_s G n p0 p1 p2 p3 p4 p5 p6 k0 k1) n v
def Q0_l4_enc (p0 p1 : Bool) (p2 : Rows) (p3 : Int) (p4 p5 : Bool) (p6 : Rows) : Q0_l4_V → St
 | v => ⟨[(1, .ptr 0 1 1 0 0), (13, .lst p0 p1 1 p2), (14, .i .i64 p3), (15, .i .i64 v)], [.row 1 true false [[.lst p4 p5 1 p6]]]⟩
abbrev Q0_l14_V : Type := Int × Int
def Q0_l14_s (G : Q0_G) {ρ : Type} (_n : Nat) (_p1 _p2 : Int) (p3 p4 : Bool) (p5 : Rows) (k0 : (Option ρ)) (k1 : (Option ρ)) (rec' : Q0_l14_V → Option ρ) : Q0_l14_V → Option ρ
 | v =>
 G.forest_Forest_is ρ p3 p4 p5 v.2 (fun w0_0 =>
 bif w0_0 then
 bif decide ((v.1 : Int) > (((List.length (p5 : Rows)) : Nat) : Int)) then
 k0
 else rowT [.i .i64] p5 v.2 fun c1 =>
 rec' ((IntKind.wrap .i64 (v.1 + 1)), c1.1)
 else k1)
def Q0_l14 (G : Q0_G) {ρ : Type} (n : Nat) (p1 p2 : Int) (p3 p4 : Bool) (p5 : Rows) (k0 : (Option ρ)) (k1 : (Option ρ)) (v : Q0_l14_V) : Option ρ := fuelN (Q0_l14_s G n p1 p2 p3 p4 p5 k0 k1) n v
def Q0_l14_enc (p1 p2 : Int) (p3 p4 : Bool) (p5 : Rows) : Q0_l14_V → St
 | v => ⟨[(1, .ptr 0 1 1 0 0), (6, .i .i64 v.1), (7, .i .i64 v.2), (34, .i .i64 p1), (35, .i .i64 p2)], [.row 1 true false [[.lst p3 p4 1 p5]]]⟩
abbrev Q0_l10_V : Type := Int
def Q0_l10_s (G : Q0_G) {ρ : Type} (n : Nat) (p0 : Int) (p1 p2 : Bool) (p3 : Rows) (k0 : (Option ρ)) (k1 : (Option ρ)) (rec' : Q0_l10_V → Option ρ) : Q0_l10_V → Option ρ
 | v =>
 bif decide ((v : Int) < p0) then
 Q0_l14 G n p0 v p1 p2 p3 (k0) (rec' ((IntKind.wrap .i64 (v + 1)))) (0, v)
 else k1
def Q0_l10 (G : Q0_G) {ρ : Type} (n : Nat) (p0 : Int) (p1 p2 : Bool) (p3 : Rows) (k0 : (Option ρ)) (k1 : (Option ρ)) (v : Q0_l10_V) : Option ρ := fuelN (Q0_l10_s G n p0 p1 p2 p3 k0 k1) n v
def Q0_l10_enc (p0 : Int) (p1 p2 : Bool) (p3 : Rows) : Q0_l10_V → St
 | v => ⟨[(1, .ptr 0 1 1 0 0), (34, .i .i64 p0), (35, .i .i64 v)], [.row 1 true false [[.lst p1 p2 1 p3]]]⟩
def Q0_s (G : Q0_G) {ρ : Type} (n : Nat) (a0 a1 : Bool) (a2 : Rows) (k0 : (Bool → Option ρ)) : Option ρ :=
 bif decide (((((List.length (a2 : Rows)) : Nat) : Int) : Int) > 96) then
 k0 false
 else Q0_l4 G n a0 a1 a2 (((List.length (a2 : Rows)) : Nat) : Int) a0 a1 a2 (k0 false) (Q0_l10 G n (((List.length (a2 : Rows)) : Nat) : Int) a0 a1 a2 (k0 false) (k0 true) (0)) (0)
def Q0_g (n : Nat) : Q0_G := ⟨forest_Forest_is n⟩
def Q0 (n : Nat) : Q0_T := fun _ρ a0 a1 a2 k0 => Q0_s (Q0_g n) n a0 a1 a2 k0
def Q0_e (n : Nat) : EK := Q0_E (Q0 n)
def Q0_S (G : Q0_G) : CK := tabS [(35, forest_Forest_is_E G.forest_Forest_is)]
theorem Q0_Sok (n : Nat) : CK.OK (Q0_S (Q0_g n)) (L tab) := tabS_ok _ (List.forall_mem_cons.2 ⟨(forest_Forest_is_ok n), (fun _ h => nomatch h)⟩)
def Q0_hs : HintC := hintL [(17, [.i .i64]), (45, [.i .i64])]
def Q0_c4 : Nat × List Nat × List Nat × MC := loopAt 4 m13
def Q0_l4_d (G : Q0_G) (n : Nat) : Go.Rv.LE := fun _ρ h K => decSt [(1, .ptr 0 1 0 (some 1) (some 0)), (13, .lst none none 1 none), (14, .i .i64 none), (15, .i .i64 none)] [.row 1 true false (some [[.lst none none 1 none]])] h fun a b => Q0_l4 G n a.2.1.1 a.2.1.2.1 a.2.1.2.2 a.2.2.1 b.1.1.1.1 b.1.1.1.2.1 b.1.1.1.2.2 (K .ret ⟨[(1, .ptr 0 1 1 0 0), (2, .b false)], [.row 1 true false [[.lst b.1.1.1.1 b.1.1.1.2.1 1 b.1.1.1.2.2]]]⟩) (K (.exit 0) ⟨[(1, .ptr 0 1 1 0 0), (2, .u)], [.row 1 true false [[.lst b.1.1.1.1 b.1.1.1.2.1 1 b.1.1.1.2.2]]]⟩) (a.2.2.2.1)
def Q0_d4 (G : Q0_G) (n : Nat) : Go.Rv.LE := Q0_l4_d G n
def Q0_c14 : Nat × List Nat × List Nat × MC := loopAt 14 m13
def Q0_l14_d (G : Q0_G) (n : Nat) : Go.Rv.LE := fun _ρ h K => decSt [(1, .ptr 0 1 0 (some 1) (some 0)), (6, .i .i64 none), (7, .i .i64 none), (34, .i .i64 none), (35, .i .i64 none)] [.row 1 true false (some [[.lst none none 1 none]])] h fun a b => Q0_l14 G n a.2.2.2.1 a.2.2.2.2.1 b.1.1.1.1 b.1.1.1.2.1 b.1.1.1.2.2 (K .ret ⟨[(1, .ptr 0 1 1 0 0), (2, .b false), (34, .i .i64 a.2.2.2.1), (35, .i .i64 a.2.2.2.2.1)], [.row 1 true false [[.lst b.1.1.1.1 b.1.1.1.2.1 1 b.1.1.1.2.2]]]⟩) (K (.exit 4) ⟨[(1, .ptr 0 1 1 0 0), (2, .u), (34, .i .i64 a.2.2.2.1), (35, .i .i64 a.2.2.2.2.1)], [.row 1 true false [[.lst b.1.1.1.1 b.1.1.1.2.1 1 b.1.1.1.2.2]]]⟩) (a.2.1, a.2.2.1)
def Q0_d14 (G : Q0_G) (n : Nat) : Go.Rv.LE := Q0_l14_d G n
def Q0_c10 : Nat × List Nat × List Nat × MC := loopAt 10 m13
def Q0_l10_d (G : Q0_G) (n : Nat) : Go.Rv.LE := fun _ρ h K => decSt [(1, .ptr 0 1 0 (some 1) (some 0)), (34, .i .i64 none), (35, .i .i64 none)] [.row 1 true false (some [[.lst none none 1 none]])] h fun a b => Q0_l10 G n a.2.1 b.1.1.1.1 b.1.1.1.2.1 b.1.1.1.2.2 (K .ret ⟨[(2, .b false)], [.row 1 true false [[.lst b.1.1.1.1 b.1.1.1.2.1 1 b.1.1.1.2.2]]]⟩) (K (.exit 2) ⟨[(2, .u)], [.row 1 true false [[.lst b.1.1.1.1 b.1.1.1.2.1 1 b.1.1.1.2.2]]]⟩) (a.2.2.1)
def Q0_d10 (G : Q0_G) (n : Nat) : Go.Rv.LE := Q0_l10_d G n
def Q0_lp (G : Q0_G) (n : Nat) : LK := tabL [(4, Q0_d4 G n), (14, Q0_d14 G n), (10, Q0_d10 G n)]
theorem Q0_l4_k (G : Q0_G) {ρ : Type} (n : Nat) (p0 p1 : Bool) (p2 : Rows) (p3 : Int) (p4 p5 : Bool) (p6 : Rows) (K : Ex → St → Option ρ) (N : St → Option ρ) : ∀ v, roundC (Q0_S G) Q0_hs (Q0_lp G n) Q0_c4 1 N K (Q0_l4_enc p0 p1 p2 p3 p4 p5 p6 v) = Q0_l4_s G n p0 p1 p2 p3 p4 p5 p6 (K .ret ⟨[(1, .ptr 0 1 1 0 0), (2, .b false)], [.row 1 true false [[.lst p4 p5 1 p6]]]⟩) (K (.exit 0) ⟨[(1, .ptr 0 1 1 0 0), (2, .u)], [.row 1 true false [[.lst p4 p5 1 p6]]]⟩) (fun v => N (Q0_l4_enc p0 p1 p2 p3 p4 p5 p6 v)) v
 | v => by kernel_rfl
theorem Q0_l4_dok (n : Nat) : LE.OK (Q0_l4_d (Q0_g n) n) (L tab) Q0_c4 := LE.shp (fun _ _ _ => rfl) fun ρ K y a b e => LE.rounds (Q0_Sok n) (LK.of (l := []) (by kernel_rfl) ((fun _ h => nomatch h))) (Q0_l4_k (Q0_g n) n _ _ _ _ _ _ _ K) (by kernel_rfl) (by kernel_rfl) e
theorem Q0_d4_ok (n : Nat) : LE.OK (Q0_d4 (Q0_g n) n) (L tab) Q0_c4 := Q0_l4_dok n
theorem Q0_l14_k (G : Q0_G) {ρ : Type} (n : Nat) (p1 p2 : Int) (p3 p4 : Bool) (p5 : Rows) (K : Ex → St → Option ρ) (N : St → Option ρ) : ∀ v, roundC (Q0_S G) Q0_hs (Q0_lp G n) Q0_c14 1 N K (Q0_l14_enc p1 p2 p3 p4 p5 v) = Q0_l14_s G n p1 p2 p3 p4 p5 (K .ret ⟨[(1, .ptr 0 1 1 0 0), (2, .b false), (34, .i .i64 p1), (35, .i .i64 p2)], [.row 1 true false [[.lst p3 p4 1 p5]]]⟩) (K (.exit 4) ⟨[(1, .ptr 0 1 1 0 0), (2, .u), (34, .i .i64 p1), (35, .i .i64 p2)], [.row 1 true false [[.lst p3 p4 1 p5]]]⟩) (fun v => N (Q0_l14_enc p1 p2 p3 p4 p5 v)) v
 | v => by kernel_rfl
theorem Q0_l14_dok (n : Nat) : LE.OK (Q0_l14_d (Q0_g n) n) (L tab) Q0_c14 := LE.shp (fun _ _ _ => rfl) fun ρ K y a b e => LE.rounds (Q0_Sok n) (LK.of (l := []) (by kernel_rfl) ((fun _ h => nomatch h))) (Q0_l14_k (Q0_g n) n _ _ _ _ _ K) (by kernel_rfl) (by kernel_rfl) e
theorem Q0_d14_ok (n : Nat) : LE.OK (Q0_d14 (Q0_g n) n) (L tab) Q0_c14 := Q0_l14_dok n
theorem Q0_l10_k (G : Q0_G) {ρ : Type} (n : Nat) (p0 : Int) (p1 p2 : Bool) (p3 : Rows) (K : Ex → St → Option ρ) (N : St → Option ρ) : ∀ v, roundC (Q0_S G) Q0_hs (Q0_lp G n) Q0_c10 1 N K (Q0_l10_enc p0 p1 p2 p3 v) = Q0_l10_s G n p0 p1 p2 p3 (K .ret ⟨[(2, .b false)], [.row 1 true false [[.lst p1 p2 1 p3]]]⟩) (K (.exit 2) ⟨[(2, .u)], [.row 1 true false [[.lst p1 p2 1 p3]]]⟩) (fun v => N (Q0_l10_enc p0 p1 p2 p3 v)) v
 | v => by kernel_rfl
theorem Q0_l10_dok (n : Nat) : LE.OK (Q0_l10_d (Q0_g n) n) (L tab) Q0_c10 := LE.shp (fun _ _ _ => rfl) fun ρ K y a b e => LE.rounds (Q0_Sok n) (LK.of (l := [Q0_c14]) (by kernel_rfl) (List.forall_mem_cons.2 ⟨LE.at (e := Q0_d14 (Q0_g n) n) (by kernel_rfl) (Q0_d14_ok n), (fun _ h => nomatch h)⟩)) (Q0_l10_k (Q0_g n) n _ _ _ _ K) (by kernel_rfl) (by kernel_rfl) e
theorem Q0_d10_ok (n : Nat) : LE.OK (Q0_d10 (Q0_g n) n) (L tab) Q0_c10 := Q0_l10_dok n
theorem Q0_k (G : Q0_G) {ρ : Type} (n : Nat) (a0 a1 : Bool) (a2 : Rows) (K : Res → Option ρ) : runC (Q0_S G) Q0_hs (Q0_lp G n) m13 [.agg [.lst a0 a1 1 a2]] K = Q0_s G n a0 a1 a2 (fun w0 => K ⟨.b w0, [], []⟩) := by kernel_rfl
theorem Q0_ok (n : Nat) : EK.OK (Q0_e n) 13 (L tab) := EK.shp (fun _ _ _ => rfl) fun ρ K y c e => EK.run (Q0_Sok n) (by kernel_rfl) (MF.LKOK.of (LK.of (l := [Q0_c4, Q0_c10]) (by kernel_rfl) (List.forall_mem_cons.2 ⟨LE.at (e := Q0_d4 (Q0_g n) n) (by kernel_rfl) (Q0_d4_ok n), List.forall_mem_cons.2 ⟨LE.at (e := Q0_d10 (Q0_g n) n) (by kernel_rfl) (Q0_d10_ok n), (fun _ h => nomatch h)⟩⟩))) (Q0_k (Q0_g n) n _ _ _ K) (by kernel_rfl) e
abbrev Qw_T : Type 1 := (ρ : Type) → Int → (Int → Option ρ) → Option ρ
def Qw_E (G : Qw_T) : EK := fun ρ args K => decL [.i .i64 none] args fun c => G ρ c.1 (fun w0 => K ⟨.i .i64 w0, [], []⟩)
structure Qw_G where
 mk ::
 right_Good : right_Good_T
def Qw_s (G : Qw_G) {ρ : Type} (_n : Nat) (a0 : Int) (k0 : (Int → Option ρ)) : Option ρ :=
 G.right_Good ρ a0 (fun w0_0 =>
 bif w0_0 then
 k0 a0
 else k0 0)
def Qw_g (n : Nat) : Qw_G := ⟨right_Good n⟩
def Qw (n : Nat) : Qw_T := fun _ρ a0 k0 => Qw_s (Qw_g n) n a0 k0
def Qw_e (n : Nat) : EK := Qw_E (Qw n)
def Qw_S (G : Qw_G) : CK := tabS [(63, right_Good_E G.right_Good)]
theorem Qw_Sok (n : Nat) : CK.OK (Qw_S (Qw_g n)) (L tab) := tabS_ok _ (List.forall_mem_cons.2 ⟨(right_Good_ok n), (fun _ h => nomatch h)⟩)
def Qw_hs : HintC := hintL []
def Qw_lp (_G : Qw_G) (_n : Nat) : LK := tabL []
theorem Qw_k (G : Qw_G) {ρ : Type} (n : Nat) (a0 : Int) (K : Res → Option ρ) : runC (Qw_S G) Qw_hs (Qw_lp G n) m82 [.i .i64 a0] K = Qw_s G n a0 (fun w0 => K ⟨.i .i64 w0, [], []⟩) := by kernel_rfl
theorem Qw_ok (n : Nat) : EK.OK (Qw_e n) 82 (L tab) := EK.shp (fun _ _ _ => rfl) fun ρ K y c e => EK.run (Qw_Sok n) (by kernel_rfl) (MF.LKOK.of (LK.of (l := []) (by kernel_rfl) ((fun _ h => nomatch h)))) (Qw_k (Qw_g n) n _ K) (by kernel_rfl) e
abbrev Q00_T : Type 1 := (ρ : Type) → Int → Int → (Int → Option ρ) → Option ρ
def Q00_E (G : Q00_T) : EK := fun ρ args K => decL [.i .i64 none, .i .i64 none] args fun c => G ρ c.1 c.2.1 (fun w0 => K ⟨.i .i64 w0, [], []⟩)
structure Q00_G where
 mk ::
 Qw : Qw_T
def Q00_s (G : Q00_G) {ρ : Type} (_n : Nat) (a0 a1 : Int) (k0 : (Int → Option ρ)) : Option ρ :=
 G.Qw ρ a0 (fun w0_0 =>
 G.Qw ρ a1 (fun w1_0 =>
 k0 (IntKind.wrap .i64 (BitVec.ofInt (IntKind.bits .i64) w0_0 &&& ~~~ BitVec.ofInt (IntKind.bits .i64) w1_0).toNat)))
def Q00_g (n : Nat) : Q00_G := ⟨Qw n⟩
def Q00 (n : Nat) : Q00_T := fun _ρ a0 a1 k0 => Q00_s (Q00_g n) n a0 a1 k0
def Q00_e (n : Nat) : EK := Q00_E (Q00 n)
def Q00_S (G : Q00_G) : CK := tabS [(82, Qw_E G.Qw)]
theorem Q00_Sok (n : Nat) : CK.OK (Q00_S (Q00_g n)) (L tab) := tabS_ok _ (List.forall_mem_cons.2 ⟨(Qw_ok n), (fun _ h => nomatch h)⟩)
def Q00_hs : HintC := hintL []
def Q00_lp (_G : Q00_G) (_n : Nat) : LK := tabL []
theorem Q00_k (G : Q00_G) {ρ : Type} (n : Nat) (a0 a1 : Int) (K : Res → Option ρ) : runC (Q00_S G) Q00_hs (Q00_lp G n) m61 [.i .i64 a0, .i .i64 a1] K = Q00_s G n a0 a1 (fun w0 => K ⟨.i .i64 w0, [], []⟩) := by kernel_rfl
theorem Q00_ok (n : Nat) : EK.OK (Q00_e n) 61 (L tab) := EK.shp (fun _ _ _ => rfl) fun ρ K y c e => EK.run (Q00_Sok n) (by kernel_rfl) (MF.LKOK.of (LK.of (l := []) (by kernel_rfl) ((fun _ h => nomatch h)))) (Q00_k (Q00_g n) n _ _ K) (by kernel_rfl) e
abbrev Ql_T : Type 1 := (ρ : Type) → Int → Int → (Bool → Option ρ) → Option ρ
def Ql_E (G : Ql_T) : EK := fun ρ args K => decL [.i .i64 none, .i .i64 none] args fun c => G ρ c.1 c.2.1 (fun w0 => K ⟨.b w0, [], []⟩)
structure Ql_G where
 mk ::
 Q00 : Q00_T
def Ql_s (G : Ql_G) {ρ : Type} (_n : Nat) (a0 a1 : Int) (k0 : (Bool → Option ρ)) : Option ρ :=
 G.Q00 ρ a0 a1 (fun w0_0 =>
 bif ((w0_0 : Int) == 0) then
 k0 true
 else k0 false)
def Ql_g (n : Nat) : Ql_G := ⟨Q00 n⟩
def Ql (n : Nat) : Ql_T := fun _ρ a0 a1 k0 => Ql_s (Ql_g n) n a0 a1 k0
def Ql_e (n : Nat) : EK := Ql_E (Ql n)
def Ql_S (G : Ql_G) : CK := tabS [(61, Q00_E G.Q00)]
theorem Ql_Sok (n : Nat) : CK.OK (Ql_S (Ql_g n)) (L tab) := tabS_ok _ (List.forall_mem_cons.2 ⟨(Q00_ok n), (fun _ h => nomatch h)⟩)
def Ql_hs : HintC := hintL []
def Ql_lp (_G : Ql_G) (_n : Nat) : LK := tabL []
theorem Ql_k (G : Ql_G) {ρ : Type} (n : Nat) (a0 a1 : Int) (K : Res → Option ρ) : runC (Ql_S G) Ql_hs (Ql_lp G n) m41 [.i .i64 a0, .i .i64 a1] K = Ql_s G n a0 a1 (fun w0 => K ⟨.b w0, [], []⟩) := by kernel_rfl
theorem Ql_ok (n : Nat) : EK.OK (Ql_e n) 41 (L tab) := EK.shp (fun _ _ _ => rfl) fun ρ K y c e => EK.run (Ql_Sok n) (by kernel_rfl) (MF.LKOK.of (LK.of (l := []) (by kernel_rfl) ((fun _ h => nomatch h)))) (Ql_k (Ql_g n) n _ _ K) (by kernel_rfl) e
abbrev Q02_T : Type 1 := (ρ : Type) → Int → Int → Int → Int → Int → Int → Int → Int → (Bool → Option ρ) → Option ρ
def Q02_E (G : Q02_T) : EK := fun ρ args K => decL [.agg [.i .i64 none, .i .i64 none, .i .i64 none, .i .i64 none], .agg [.i .i64 none, .i .i64 none, .i .i64 none, .i .i64 none]] args fun c => G ρ c.1.1 c.1.2.1 c.1.2.2.1 c.1.2.2.2.1 c.2.1.1 c.2.1.2.1 c.2.1.2.2.1 c.2.1.2.2.2.1 (fun w0 => K ⟨.b w0, [], []⟩)
structure Q02_G where
 mk ::
 cap_None : cap_None_T
 Ql : Ql_T
def Q02_s (G : Q02_G) {ρ : Type} (_n : Nat) (a0 a1 : Int) (a2 a3 : Int) (a4 a5 : Int) (a6 a7 : Int) (k0 : (Bool → Option ρ)) : Option ρ :=
 G.cap_None ρ a0 a1 a2 a3 (fun w0_0 =>
 bif w0_0 then
 k0 true
 else bif ((a0 : Int) == a4) then
 bif ((a1 : Int) == a5) then
 G.Ql ρ a2 a6 (fun w1_0 =>
 bif w1_0 then
 bif ((a7 : Int) == 0) then
 k0 true
 else bif ((a7 : Int) == a3) then
 k0 true
 else k0 false
 else k0 false)
 else k0 false
 else k0 false)
def Q02_g (n : Nat) : Q02_G := ⟨cap_None n, Ql n⟩
def Q02 (n : Nat) : Q02_T := fun _ρ a0 a1 a2 a3 a4 a5 a6 a7 k0 => Q02_s (Q02_g n) n a0 a1 a2 a3 a4 a5 a6 a7 k0
def Q02_e (n : Nat) : EK := Q02_E (Q02 n)
def Q02_S (G : Q02_G) : CK := tabS [(21, cap_None_E G.cap_None), (41, Ql_E G.Ql)]
theorem Q02_Sok (n : Nat) : CK.OK (Q02_S (Q02_g n)) (L tab) := tabS_ok _ (List.forall_mem_cons.2 ⟨(cap_None_ok n), List.forall_mem_cons.2 ⟨(Ql_ok n), (fun _ h => nomatch h)⟩⟩)
def Q02_hs : HintC := hintL []
def Q02_lp (_G : Q02_G) (_n : Nat) : LK := tabL []
theorem Q02_k (G : Q02_G) {ρ : Type} (n : Nat) (a0 a1 : Int) (a2 a3 : Int) (a4 a5 : Int) (a6 a7 : Int) (K : Res → Option ρ) : runC (Q02_S G) Q02_hs (Q02_lp G n) m22 [.agg [.i .i64 a0, .i .i64 a1, .i .i64 a2, .i .i64 a3], .agg [.i .i64 a4, .i .i64 a5, .i .i64 a6, .i .i64 a7]] K = Q02_s G n a0 a1 a2 a3 a4 a5 a6 a7 (fun w0 => K ⟨.b w0, [], []⟩) := by kernel_rfl
theorem Q02_ok (n : Nat) : EK.OK (Q02_e n) 22 (L tab) := EK.shp (fun _ _ _ => rfl) fun ρ K y c e => EK.run (Q02_Sok n) (by kernel_rfl) (MF.LKOK.of (LK.of (l := []) (by kernel_rfl) ((fun _ h => nomatch h)))) (Q02_k (Q02_g n) n _ _ _ _ _ _ _ _ K) (by kernel_rfl) e
abbrev Q4_T : Type 1 := (ρ : Type) → Int → Int → Int → Bool → Bool → Rows → Bool → Bool → Rows → (Bool → Option ρ) → Option ρ
def Q4_E (G : Q4_T) : EK := fun ρ args K => decL [.agg [.i .i64 none, .i .i64 none, .i .i64 none, .lst none none 5 none, .lst none none 13 none]] args fun c => G ρ c.1.1 c.1.2.1 c.1.2.2.1 c.1.2.2.2.1.1 c.1.2.2.2.1.2.1 c.1.2.2.2.1.2.2 c.1.2.2.2.2.1.1 c.1.2.2.2.2.1.2.1 c.1.2.2.2.2.1.2.2 (fun w0 => K ⟨.b w0, [], []⟩)
structure Q4_G where
 mk ::
 Q02 : Q02_T
abbrev Q4_l6_V : Type := Int × Int
def Q4_l6_s (G : Q4_G) {ρ : Type} (_n : Nat) (_p1 _p2 : Bool) (_p3 : Rows) (_p4 _p5 : Int) (p6 _p7 : Int) (_p8 _p9 : Int) (_p10 _p11 : Bool) (p12 : Rows) (_p13 _p14 : Bool) (_p15 : Rows) (p16 p17 : Int) (p18 p19 _p20 : Int) (k0 : (Option ρ)) (k1 : (Option ρ)) (rec' : Q4_l6_V → Option ρ) : Q4_l6_V → Option ρ
 | v =>
 bif decide ((v.2 : Int) < p6) then
 bif decide ((v.1 : Int) < 0) then
 k0
 else rowT [.i .i64, .i .i64, .i .i64, .i .i64, .i .i64] p12 v.1 fun c0 =>
 G.Q02 ρ p16 p17 p18 p19 c0.1 c0.2.1 c0.2.2.1 c0.2.2.2.1 (fun w1_0 =>
 bif w1_0 then
 rec' (c0.2.2.2.2.1, (IntKind.wrap .i64 (v.2 + 1)))
 else bif ((c0.1 : Int) != 1) then
 k1
 else bif ((p17 : Int) == c0.2.1) then
 k1
 else rec' (c0.2.2.2.2.1, (IntKind.wrap .i64 (v.2 + 1))))
 else k0
def Q4_l6 (G : Q4_G) {ρ : Type} (n : Nat) (p1 p2 : Bool) (p3 : Rows) (p4 p5 : Int) (p6 p7 : Int) (p8 p9 : Int) (p10 p11 : Bool) (p12 : Rows) (p13 p14 : Bool) (p15 : Rows) (p16 p17 : Int) (p18 p19 p20 : Int) (k0 : (Option ρ)) (k1 : (Option ρ)) (v : Q4_l6_V) : Option ρ := fuelN (Q4_l6_s G n p1 p2 p3 p4 p5 p6 p7 p8 p9 p10 p11 p12 p13 p14 p15 p16 p17 p18 p19 p20 k0 k1) n v
def Q4_l6_enc (p1 p2 : Bool) (p3 : Rows) (p4 p5 : Int) (p6 p7 : Int) (p8 p9 : Int) (p10 p11 : Bool) (p12 : Rows) (p13 p14 : Bool) (p15 : Rows) (p16 p17 : Int) (p18 p19 p20 : Int) : Q4_l6_V → St
 | v => ⟨[(1, .ptr 0 1 5 0 0), (4, .ptr 1 1 5 0 0), (5, .i .i64 v.1), (8, .lst p1 p2 5 p3), (9, .i .i64 p4), (10, .i .i64 p5), (18, .i .i64 p6), (19, .i .i64 v.2)], [.row 5 true false [[.i .i64 p7, .i .i64 p8, .i .i64 p9, .lst p10 p11 5 p12, .lst p13 p14 13 p15]], .row 5 true false [[.i .i64 p16, .i .i64 p17, .i .i64 p18, .i .i64 p19, .i .i64 p20]]]⟩
abbrev Q4_l2_V : Type := Int
def Q4_l2_s (G : Q4_G) {ρ : Type} (n : Nat) (p0 p1 : Bool) (p2 : Rows) (p3 p4 : Int) (p5 p6 : Int) (p7 p8 : Bool) (p9 : Rows) (p10 p11 : Bool) (p12 : Rows) (k0 : (Option ρ)) (k1 : (Option ρ)) (rec' : Q4_l2_V → Option ρ) : Q4_l2_V → Option ρ
 | v =>
 bif decide ((v : Int) < p3) then
 rowT [.i .i64, .i .i64, .i .i64, .i .i64, .i .i64] p2 v fun c0 =>
 Q4_l6 G n p0 p1 p2 p3 v (((List.length (p9 : Rows)) : Nat) : Int) p4 p5 p6 p7 p8 p9 p10 p11 p12 c0.1 c0.2.1 c0.2.2.1 c0.2.2.2.1 c0.2.2.2.2.1 (rec' ((IntKind.wrap .i64 (v + 1)))) (k0) (c0.2.2.2.2.1, 0)
 else k1
def Q4_l2 (G : Q4_G) {ρ : Type} (n : Nat) (p0 p1 : Bool) (p2 : Rows) (p3 p4 : Int) (p5 p6 : Int) (p7 p8 : Bool) (p9 : Rows) (p10 p11 : Bool) (p12 : Rows) (k0 : (Option ρ)) (k1 : (Option ρ)) (v : Q4_l2_V) : Option ρ := fuelN (Q4_l2_s G n p0 p1 p2 p3 p4 p5 p6 p7 p8 p9 p10 p11 p12 k0 k1) n v
def Q4_l2_enc (p0 p1 : Bool) (p2 : Rows) (p3 p4 : Int) (p5 p6 : Int) (p7 p8 : Bool) (p9 : Rows) (p10 p11 : Bool) (p12 : Rows) : Q4_l2_V → St
 | v => ⟨[(1, .ptr 0 1 5 0 0), (8, .lst p0 p1 5 p2), (9, .i .i64 p3), (10, .i .i64 v)], [.row 5 true false [[.i .i64 p4, .i .i64 p5, .i .i64 p6, .lst p7 p8 5 p9, .lst p10 p11 13 p12]]]⟩
def Q4_s (G : Q4_G) {ρ : Type} (n : Nat) (a0 a1 a2 : Int) (a3 a4 : Bool) (a5 : Rows) (a6 a7 : Bool) (a8 : Rows) (k0 : (Bool → Option ρ)) : Option ρ :=
 Q4_l2 G n a3 a4 a5 (((List.length (a5 : Rows)) : Nat) : Int) a0 a1 a2 a3 a4 a5 a6 a7 a8 (k0 false) (k0 true) (0)
def Q4_g (n : Nat) : Q4_G := ⟨Q02 n⟩
def Q4 (n : Nat) : Q4_T := fun _ρ a0 a1 a2 a3 a4 a5 a6 a7 a8 k0 => Q4_s (Q4_g n) n a0 a1 a2 a3 a4 a5 a6 a7 a8 k0
def Q4_e (n : Nat) : EK := Q4_E (Q4 n)
def Q4_S (G : Q4_G) : CK := tabS [(22, Q02_E G.Q02)]
theorem Q4_Sok (n : Nat) : CK.OK (Q4_S (Q4_g n)) (L tab) := tabS_ok _ (List.forall_mem_cons.2 ⟨(Q02_ok n), (fun _ h => nomatch h)⟩)
def Q4_hs : HintC := hintL [(12, [.i .i64, .i .i64, .i .i64, .i .i64, .i .i64]), (26, [.i .i64, .i .i64, .i .i64, .i .i64, .i .i64])]
def Q4_c6 : Nat × List Nat × List Nat × MC := loopAt 6 m30
def Q4_l6_d (G : Q4_G) (n : Nat) : Go.Rv.LE := fun _ρ h K => decSt [(1, .ptr 0 5 0 (some 1) (some 0)), (4, .ptr 1 5 0 (some 1) (some 0)), (5, .i .i64 none), (8, .lst none none 5 none), (9, .i .i64 none), (10, .i .i64 none), (18, .i .i64 none), (19, .i .i64 none)] [.row 5 true false (some [[.i .i64 none, .i .i64 none, .i .i64 none, .lst none none 5 none, .lst none none 13 none]]), .row 5 true false (some [[.i .i64 none, .i .i64 none, .i .i64 none, .i .i64 none, .i .i64 none]])] h fun a b => Q4_l6 G n a.2.2.2.1.1 a.2.2.2.1.2.1 a.2.2.2.1.2.2 a.2.2.2.2.1 a.2.2.2.2.2.1 a.2.2.2.2.2.2.1 b.1.1.1 b.1.1.2.1 b.1.1.2.2.1 b.1.1.2.2.2.1.1 b.1.1.2.2.2.1.2.1 b.1.1.2.2.2.1.2.2 b.1.1.2.2.2.2.1.1 b.1.1.2.2.2.2.1.2.1 b.1.1.2.2.2.2.1.2.2 b.2.1.1.1 b.2.1.1.2.1 b.2.1.1.2.2.1 b.2.1.1.2.2.2.1 b.2.1.1.2.2.2.2.1 (K (.exit 2) ⟨[(1, .ptr 0 1 5 0 0), (2, .u), (8, .lst a.2.2.2.1.1 a.2.2.2.1.2.1 5 a.2.2.2.1.2.2), (9, .i .i64 a.2.2.2.2.1), (10, .i .i64 a.2.2.2.2.2.1)], [.row 5 true false [[.i .i64 b.1.1.1, .i .i64 b.1.1.2.1, .i .i64 b.1.1.2.2.1, .lst b.1.1.2.2.2.1.1 b.1.1.2.2.2.1.2.1 5 b.1.1.2.2.2.1.2.2, .lst b.1.1.2.2.2.2.1.1 b.1.1.2.2.2.2.1.2.1 13 b.1.1.2.2.2.2.1.2.2]], .row 5 true false [[.i .i64 b.2.1.1.1, .i .i64 b.2.1.1.2.1, .i .i64 b.2.1.1.2.2.1, .i .i64 b.2.1.1.2.2.2.1, .i .i64 b.2.1.1.2.2.2.2.1]]]⟩) (K .ret ⟨[(1, .ptr 0 1 5 0 0), (2, .b false), (8, .lst a.2.2.2.1.1 a.2.2.2.1.2.1 5 a.2.2.2.1.2.2), (9, .i .i64 a.2.2.2.2.1), (10, .i .i64 a.2.2.2.2.2.1)], [.row 5 true false [[.i .i64 b.1.1.1, .i .i64 b.1.1.2.1, .i .i64 b.1.1.2.2.1, .lst b.1.1.2.2.2.1.1 b.1.1.2.2.2.1.2.1 5 b.1.1.2.2.2.1.2.2, .lst b.1.1.2.2.2.2.1.1 b.1.1.2.2.2.2.1.2.1 13 b.1.1.2.2.2.2.1.2.2]], .row 5 true false [[.i .i64 b.2.1.1.1, .i .i64 b.2.1.1.2.1, .i .i64 b.2.1.1.2.2.1, .i .i64 b.2.1.1.2.2.2.1, .i .i64 b.2.1.1.2.2.2.2.1]]]⟩) (a.2.2.1, a.2.2.2.2.2.2.2.1)
def Q4_d6 (G : Q4_G) (n : Nat) : Go.Rv.LE := Q4_l6_d G n
def Q4_c2 : Nat × List Nat × List Nat × MC := loopAt 2 m30
def Q4_l2_d (G : Q4_G) (n : Nat) : Go.Rv.LE := fun _ρ h K => decSt [(1, .ptr 0 5 0 (some 1) (some 0)), (8, .lst none none 5 none), (9, .i .i64 none), (10, .i .i64 none)] [.row 5 true false (some [[.i .i64 none, .i .i64 none, .i .i64 none, .lst none none 5 none, .lst none none 13 none]])] h fun a b => Q4_l2 G n a.2.1.1 a.2.1.2.1 a.2.1.2.2 a.2.2.1 b.1.1.1 b.1.1.2.1 b.1.1.2.2.1 b.1.1.2.2.2.1.1 b.1.1.2.2.2.1.2.1 b.1.1.2.2.2.1.2.2 b.1.1.2.2.2.2.1.1 b.1.1.2.2.2.2.1.2.1 b.1.1.2.2.2.2.1.2.2 (K .ret ⟨[(2, .b false)], [.row 5 true false [[.i .i64 b.1.1.1, .i .i64 b.1.1.2.1, .i .i64 b.1.1.2.2.1, .lst b.1.1.2.2.2.1.1 b.1.1.2.2.2.1.2.1 5 b.1.1.2.2.2.1.2.2, .lst b.1.1.2.2.2.2.1.1 b.1.1.2.2.2.2.1.2.1 13 b.1.1.2.2.2.2.1.2.2]]]⟩) (K (.exit 0) ⟨[(2, .u)], [.row 5 true false [[.i .i64 b.1.1.1, .i .i64 b.1.1.2.1, .i .i64 b.1.1.2.2.1, .lst b.1.1.2.2.2.1.1 b.1.1.2.2.2.1.2.1 5 b.1.1.2.2.2.1.2.2, .lst b.1.1.2.2.2.2.1.1 b.1.1.2.2.2.2.1.2.1 13 b.1.1.2.2.2.2.1.2.2]]]⟩) (a.2.2.2.1)
def Q4_d2 (G : Q4_G) (n : Nat) : Go.Rv.LE := Q4_l2_d G n
def Q4_lp (G : Q4_G) (n : Nat) : LK := tabL [(6, Q4_d6 G n), (2, Q4_d2 G n)]
theorem Q4_l6_k (G : Q4_G) {ρ : Type} (n : Nat) (p1 p2 : Bool) (p3 : Rows) (p4 p5 : Int) (p6 p7 : Int) (p8 p9 : Int) (p10 p11 : Bool) (p12 : Rows) (p13 p14 : Bool) (p15 : Rows) (p16 p17 : Int) (p18 p19 p20 : Int) (K : Ex → St → Option ρ) (N : St → Option ρ) : ∀ v, roundC (Q4_S G) Q4_hs (Q4_lp G n) Q4_c6 2 N K (Q4_l6_enc p1 p2 p3 p4 p5 p6 p7 p8 p9 p10 p11 p12 p13 p14 p15 p16 p17 p18 p19 p20 v) = Q4_l6_s G n p1 p2 p3 p4 p5 p6 p7 p8 p9 p10 p11 p12 p13 p14 p15 p16 p17 p18 p19 p20 (K (.exit 2) ⟨[(1, .ptr 0 1 5 0 0), (2, .u), (8, .lst p1 p2 5 p3), (9, .i .i64 p4), (10, .i .i64 p5)], [.row 5 true false [[.i .i64 p7, .i .i64 p8, .i .i64 p9, .lst p10 p11 5 p12, .lst p13 p14 13 p15]], .row 5 true false [[.i .i64 p16, .i .i64 p17, .i .i64 p18, .i .i64 p19, .i .i64 p20]]]⟩) (K .ret ⟨[(1, .ptr 0 1 5 0 0), (2, .b false), (8, .lst p1 p2 5 p3), (9, .i .i64 p4), (10, .i .i64 p5)], [.row 5 true false [[.i .i64 p7, .i .i64 p8, .i .i64 p9, .lst p10 p11 5 p12, .lst p13 p14 13 p15]], .row 5 true false [[.i .i64 p16, .i .i64 p17, .i .i64 p18, .i .i64 p19, .i .i64 p20]]]⟩) (fun v => N (Q4_l6_enc p1 p2 p3 p4 p5 p6 p7 p8 p9 p10 p11 p12 p13 p14 p15 p16 p17 p18 p19 p20 v)) v
 | v => by kernel_rfl
theorem Q4_l6_dok (n : Nat) : LE.OK (Q4_l6_d (Q4_g n) n) (L tab) Q4_c6 := LE.shp (fun _ _ _ => rfl) fun ρ K y a b e => LE.rounds (Q4_Sok n) (LK.of (l := []) (by kernel_rfl) ((fun _ h => nomatch h))) (Q4_l6_k (Q4_g n) n _ _ _ _ _ _ _ _ _ _ _ _ _ _ _ _ _ _ _ _ K) (by kernel_rfl) (by kernel_rfl) e
theorem Q4_d6_ok (n : Nat) : LE.OK (Q4_d6 (Q4_g n) n) (L tab) Q4_c6 := Q4_l6_dok n
theorem Q4_l2_k (G : Q4_G) {ρ : Type} (n : Nat) (p0 p1 : Bool) (p2 : Rows) (p3 p4 : Int) (p5 p6 : Int) (p7 p8 : Bool) (p9 : Rows) (p10 p11 : Bool) (p12 : Rows) (K : Ex → St → Option ρ) (N : St → Option ρ) : ∀ v, roundC (Q4_S G) Q4_hs (Q4_lp G n) Q4_c2 1 N K (Q4_l2_enc p0 p1 p2 p3 p4 p5 p6 p7 p8 p9 p10 p11 p12 v) = Q4_l2_s G n p0 p1 p2 p3 p4 p5 p6 p7 p8 p9 p10 p11 p12 (K .ret ⟨[(2, .b false)], [.row 5 true false [[.i .i64 p4, .i .i64 p5, .i .i64 p6, .lst p7 p8 5 p9, .lst p10 p11 13 p12]]]⟩) (K (.exit 0) ⟨[(2, .u)], [.row 5 true false [[.i .i64 p4, .i .i64 p5, .i .i64 p6, .lst p7 p8 5 p9, .lst p10 p11 13 p12]]]⟩) (fun v => N (Q4_l2_enc p0 p1 p2 p3 p4 p5 p6 p7 p8 p9 p10 p11 p12 v)) v
 | v => by kernel_rfl
theorem Q4_l2_dok (n : Nat) : LE.OK (Q4_l2_d (Q4_g n) n) (L tab) Q4_c2 := LE.shp (fun _ _ _ => rfl) fun ρ K y a b e => LE.rounds (Q4_Sok n) (LK.of (l := [Q4_c6]) (by kernel_rfl) (List.forall_mem_cons.2 ⟨LE.at (e := Q4_d6 (Q4_g n) n) (by kernel_rfl) (Q4_d6_ok n), (fun _ h => nomatch h)⟩)) (Q4_l2_k (Q4_g n) n _ _ _ _ _ _ _ _ _ _ _ _ _ K) (by kernel_rfl) (by kernel_rfl) e
theorem Q4_d2_ok (n : Nat) : LE.OK (Q4_d2 (Q4_g n) n) (L tab) Q4_c2 := Q4_l2_dok n
theorem Q4_k (G : Q4_G) {ρ : Type} (n : Nat) (a0 a1 a2 : Int) (a3 a4 : Bool) (a5 : Rows) (a6 a7 : Bool) (a8 : Rows) (K : Res → Option ρ) : runC (Q4_S G) Q4_hs (Q4_lp G n) m30 [.agg [.i .i64 a0, .i .i64 a1, .i .i64 a2, .lst a3 a4 5 a5, .lst a6 a7 13 a8]] K = Q4_s G n a0 a1 a2 a3 a4 a5 a6 a7 a8 (fun w0 => K ⟨.b w0, [], []⟩) := by kernel_rfl
theorem Q4_ok (n : Nat) : EK.OK (Q4_e n) 30 (L tab) := EK.shp (fun _ _ _ => rfl) fun ρ K y c e => EK.run (Q4_Sok n) (by kernel_rfl) (MF.LKOK.of (LK.of (l := [Q4_c2]) (by kernel_rfl) (List.forall_mem_cons.2 ⟨LE.at (e := Q4_d2 (Q4_g n) n) (by kernel_rfl) (Q4_d2_ok n), (fun _ h => nomatch h)⟩))) (Q4_k (Q4_g n) n _ _ _ _ _ _ _ _ _ K) (by kernel_rfl) e
abbrev Qj_T : Type 1 := (ρ : Type) → Int → Int → Int → Bool → Bool → Rows → Bool → Bool → Rows → (Bool → Option ρ) → Option ρ
def Qj_E (G : Qj_T) : EK := fun ρ args K => decL [.agg [.i .i64 none, .i .i64 none, .i .i64 none, .lst none none 5 none, .lst none none 13 none]] args fun c => G ρ c.1.1 c.1.2.1 c.1.2.2.1 c.1.2.2.2.1.1 c.1.2.2.2.1.2.1 c.1.2.2.2.1.2.2 c.1.2.2.2.2.1.1 c.1.2.2.2.2.1.2.1 c.1.2.2.2.2.1.2.2 (fun w0 => K ⟨.b w0, [], []⟩)
structure Qj_G where
 mk ::
 Qn : Qn_T
 Qi : Qi_T
 Qh : Qh_T
 Q1 : Q1_T
 Qg : Qg_T
 Q6 : Q6_T
 Q0 : Q0_T
 Q4 : Q4_T
def Qj_s (G : Qj_G) {ρ : Type} (_n : Nat) (a0 a1 a2 : Int) (a3 a4 : Bool) (a5 : Rows) (a6 a7 : Bool) (a8 : Rows) (k0 : (Bool → Option ρ)) : Option ρ :=
 G.Qn ρ a0 a1 a2 (fun w0_0 =>
 bif w0_0 then
 bif (((((List.length (a5 : Rows)) : Nat) : Int) : Int) != a1) then
 k0 false
 else bif (((((List.length (a8 : Rows)) : Nat) : Int) : Int) != a2) then
 k0 false
 else G.Qi ρ a0 a1 a2 a3 a4 a5 a6 a7 a8 (fun w1_0 =>
 bif w1_0 then
 G.Qh ρ a0 a1 a2 a3 a4 a5 a6 a7 a8 (fun w2_0 =>
 bif w2_0 then
 G.Q1 ρ a0 a1 a2 a3 a4 a5 a6 a7 a8 (fun w3_0 =>
 bif w3_0 then
 G.Qg ρ a0 a1 a2 a3 a4 a5 a6 a7 a8 (fun w4_0 =>
 bif w4_0 then
 k0 false
 else G.Q6 ρ a0 a1 a2 a3 a4 a5 a6 a7 a8 (fun w5_0 w5_1 w5_2 =>
 G.Q0 ρ w5_0 w5_1 w5_2 (fun w6_0 =>
 bif w6_0 then
 G.Q4 ρ a0 a1 a2 a3 a4 a5 a6 a7 a8 (fun w7_0 =>
 bif w7_0 then
 k0 true
 else k0 false)
 else k0 false)))
 else k0 false)
 else k0 false)
 else k0 false)
 else k0 false)
def Qj_g (n : Nat) : Qj_G := ⟨Qn n, Qi n, Qh n, Q1 n, Qg n, Q6 n, Q0 n, Q4 n⟩
def Qj (n : Nat) : Qj_T := fun _ρ a0 a1 a2 a3 a4 a5 a6 a7 a8 k0 => Qj_s (Qj_g n) n a0 a1 a2 a3 a4 a5 a6 a7 a8 k0
def Qj_e (n : Nat) : EK := Qj_E (Qj n)
def Qj_S (G : Qj_G) : CK := tabS [(25, Qn_E G.Qn), (26, Qi_E G.Qi), (27, Qh_E G.Qh), (28, Q1_E G.Q1), (29, Qg_E G.Qg), (14, Q6_E G.Q6), (13, Q0_E G.Q0), (30, Q4_E G.Q4)]
theorem Qj_Sok (n : Nat) : CK.OK (Qj_S (Qj_g n)) (L tab) := tabS_ok _ (List.forall_mem_cons.2 ⟨(Qn_ok n), List.forall_mem_cons.2 ⟨(Qi_ok n), List.forall_mem_cons.2 ⟨(Qh_ok n), List.forall_mem_cons.2 ⟨(Q1_ok n), List.forall_mem_cons.2 ⟨(Qg_ok n), List.forall_mem_cons.2 ⟨(Q6_ok n), List.forall_mem_cons.2 ⟨(Q0_ok n), List.forall_mem_cons.2 ⟨(Q4_ok n), (fun _ h => nomatch h)⟩⟩⟩⟩⟩⟩⟩⟩)
def Qj_hs : HintC := hintL []
def Qj_lp (_G : Qj_G) (_n : Nat) : LK := tabL []
theorem Qj_k (G : Qj_G) {ρ : Type} (n : Nat) (a0 a1 a2 : Int) (a3 a4 : Bool) (a5 : Rows) (a6 a7 : Bool) (a8 : Rows) (K : Res → Option ρ) : runC (Qj_S G) Qj_hs (Qj_lp G n) m9 [.agg [.i .i64 a0, .i .i64 a1, .i .i64 a2, .lst a3 a4 5 a5, .lst a6 a7 13 a8]] K = Qj_s G n a0 a1 a2 a3 a4 a5 a6 a7 a8 (fun w0 => K ⟨.b w0, [], []⟩) := by kernel_rfl
theorem Qj_ok (n : Nat) : EK.OK (Qj_e n) 9 (L tab) := EK.shp (fun _ _ _ => rfl) fun ρ K y c e => EK.run (Qj_Sok n) (by kernel_rfl) (MF.LKOK.of (LK.of (l := []) (by kernel_rfl) ((fun _ h => nomatch h)))) (Qj_k (Qj_g n) n _ _ _ _ _ _ _ _ _ K) (by kernel_rfl) e
abbrev find_in_T : Type 1 := (ρ : Type) → Int → Int → Int → (Bool → Option ρ) → Option ρ
def find_in_E (G : find_in_T) : EK := fun ρ args K => decL [.i .i64 none, .i .i64 none, .i .i64 none] args fun c => G ρ c.1 c.2.1 c.2.2.1 (fun w0 => K ⟨.b w0, [], []⟩)
structure find_in_G where
 mk ::
def find_in_s (_G : find_in_G) {ρ : Type} (_n : Nat) (a0 a1 a2 : Int) (k0 : (Bool → Option ρ)) : Option ρ :=
 bif decide ((a0 : Int) ≥ a1) then
 bif decide ((a0 : Int) ≤ a2) then
 k0 true
 else k0 false
 else k0 false
def find_in_g (_n : Nat) : find_in_G := ⟨⟩
def find_in (n : Nat) : find_in_T := fun _ρ a0 a1 a2 k0 => find_in_s (find_in_g n) n a0 a1 a2 k0
def find_in_e (n : Nat) : EK := find_in_E (find_in n)
def find_in_S (_G : find_in_G) : CK := tabS []
theorem find_in_Sok (n : Nat) : CK.OK (find_in_S (find_in_g n)) (L tab) := tabS_ok _ ((fun _ h => nomatch h))
def find_in_hs : HintC := hintL []
def find_in_lp (_G : find_in_G) (_n : Nat) : LK := tabL []
theorem find_in_k (G : find_in_G) {ρ : Type} (n : Nat) (a0 a1 a2 : Int) (K : Res → Option ρ) : runC (find_in_S G) find_in_hs (find_in_lp G n) m91 [.i .i64 a0, .i .i64 a1, .i .i64 a2] K = find_in_s G n a0 a1 a2 (fun w0 => K ⟨.b w0, [], []⟩) := by kernel_rfl
theorem find_in_ok (n : Nat) : EK.OK (find_in_e n) 91 (L tab) := EK.shp (fun _ _ _ => rfl) fun ρ K y c e => EK.run (find_in_Sok n) (by kernel_rfl) (MF.LKOK.of (LK.of (l := []) (by kernel_rfl) ((fun _ h => nomatch h)))) (find_in_k (find_in_g n) n _ _ _ K) (by kernel_rfl) e
abbrev find_step_T : Type 1 := (ρ : Type) → Int → Int → Int → Int → Int → Int → Int → Bool → Int → Int → Int → Int → Int → Int → (Int → Option ρ) → Option ρ
def find_step_E (G : find_step_T) : EK := fun ρ args K => decL [.agg [.i .i64 none, .i .i64 none, .i .i64 none, .i .i64 none, .i .i64 none, .i .i64 none, .i .i64 none, .b none, .i .u64 none, .i .u64 none, .i .u64 none, .i .u64 none, .i .u64 none], .i .i64 none] args fun c => G ρ c.1.1 c.1.2.1 c.1.2.2.1 c.1.2.2.2.1 c.1.2.2.2.2.1 c.1.2.2.2.2.2.1 c.1.2.2.2.2.2.2.1 c.1.2.2.2.2.2.2.2.1 c.1.2.2.2.2.2.2.2.2.1 c.1.2.2.2.2.2.2.2.2.2.1 c.1.2.2.2.2.2.2.2.2.2.2.1 c.1.2.2.2.2.2.2.2.2.2.2.2.1 c.1.2.2.2.2.2.2.2.2.2.2.2.2.1 c.2.1 (fun w0 => K ⟨.i .i64 w0, [], []⟩)
structure find_step_G where
 mk ::
def find_step_s (_G : find_step_G) {ρ : Type} (_n : Nat) (_a0 a1 : Int) (a2 _a3 : Int) (_a4 _a5 _a6 : Int) (_a7 : Bool) (_a8 _a9 : Int) (_a10 _a11 : Int) (_a12 a13 : Int) (k0 : (Int → Option ρ)) : Option ρ :=
 chk (decide (0 ≤ (a1 : Int))) <|
 bif decide ((a13 : Int) ≥ (IntKind.wrap .i64 ((1 : Int) * 2 ^ (min a1.toNat (IntKind.bits .i64))))) then
 k0 (-1)
 else k0 (IntKind.wrap .i64 (a2 + a13))
def find_step_g (_n : Nat) : find_step_G := ⟨⟩
def find_step (n : Nat) : find_step_T := fun _ρ a0 a1 a2 a3 a4 a5 a6 a7 a8 a9 a10 a11 a12 a13 k0 => find_step_s (find_step_g n) n a0 a1 a2 a3 a4 a5 a6 a7 a8 a9 a10 a11 a12 a13 k0
def find_step_e (n : Nat) : EK := find_step_E (find_step n)
def find_step_S (_G : find_step_G) : CK := tabS []
theorem find_step_Sok (n : Nat) : CK.OK (find_step_S (find_step_g n)) (L tab) := tabS_ok _ ((fun _ h => nomatch h))
def find_step_hs : HintC := hintL []
def find_step_lp (_G : find_step_G) (_n : Nat) : LK := tabL []
theorem find_step_k (G : find_step_G) {ρ : Type} (n : Nat) (a0 a1 : Int) (a2 a3 : Int) (a4 a5 a6 : Int) (a7 : Bool) (a8 a9 : Int) (a10 a11 : Int) (a12 a13 : Int) (K : Res → Option ρ) : runC (find_step_S G) find_step_hs (find_step_lp G n) m93 [.agg [.i .i64 a0, .i .i64 a1, .i .i64 a2, .i .i64 a3, .i .i64 a4, .i .i64 a5, .i .i64 a6, .b a7, .i .u64 a8, .i .u64 a9, .i .u64 a10, .i .u64 a11, .i .u64 a12], .i .i64 a13] K = find_step_s G n a0 a1 a2 a3 a4 a5 a6 a7 a8 a9 a10 a11 a12 a13 (fun w0 => K ⟨.i .i64 w0, [], []⟩) := by kernel_rfl
theorem find_step_ok (n : Nat) : EK.OK (find_step_e n) 93 (L tab) := EK.shp (fun _ _ _ => rfl) fun ρ K y c e => EK.run (find_step_Sok n) (by kernel_rfl) (MF.LKOK.of (LK.of (l := []) (by kernel_rfl) ((fun _ h => nomatch h)))) (find_step_k (find_step_g n) n _ _ _ _ _ _ _ _ _ _ _ _ _ _ K) (by kernel_rfl) e
abbrev Qy_T : Type 1 := (ρ : Type) → Int → Int → Int → Bool → Bool → Rows → Bool → Bool → Rows → Int → (Int → Int → Int → Int → Int → Int → Int → Bool → Int → Int → Int → Int → Int → Bool → Option ρ) → Option ρ
def Qy_E (G : Qy_T) : EK := fun ρ args K => decL [.agg [.i .i64 none, .i .i64 none, .i .i64 none, .lst none none 5 none, .lst none none 13 none], .i .i64 none] args fun c => G ρ c.1.1 c.1.2.1 c.1.2.2.1 c.1.2.2.2.1.1 c.1.2.2.2.1.2.1 c.1.2.2.2.1.2.2 c.1.2.2.2.2.1.1 c.1.2.2.2.2.1.2.1 c.1.2.2.2.2.1.2.2 c.2.1 (fun w0 w1 w2 w3 w4 w5 w6 w7 w8 w9 w10 w11 w12 w13 => K ⟨.tup [.agg [.i .i64 w0, .i .i64 w1, .i .i64 w2, .i .i64 w3, .i .i64 w4, .i .i64 w5, .i .i64 w6, .b w7, .i .u64 w8, .i .u64 w9, .i .u64 w10, .i .u64 w11, .i .u64 w12], .b w13], [], []⟩)
structure Qy_G where
 mk ::
 Ql : Ql_T
def Qy_s (G : Qy_G) {ρ : Type} (_n : Nat) (_a0 _a1 _a2 : Int) (_a3 _a4 : Bool) (a5 : Rows) (_a6 _a7 : Bool) (a8 : Rows) (a9 : Int) (k0 : (Int → Int → Int → Int → Int → Int → Int → Bool → Int → Int → Int → Int → Int → Bool → Option ρ)) : Option ρ :=
 rowT [.i .i64, .i .i64, .i .i64, .i .i64, .i .i64] a5 a9 fun c0 =>
 bif ((c0.1 : Int) != 2) then
 k0 0 0 0 0 0 0 0 false 0 0 0 0 0 false
 else G.Ql ρ 1 c0.2.2.1 (fun w1_0 =>
 bif w1_0 then
 rowT [.i .i64, .i .i64, .i .i64, .i .i64, .i .i64, .i .i64, .i .i64, .b, .i .u64, .i .u64, .i .u64, .i .u64, .i .u64] a8 c0.2.1 fun c2 =>
 k0 c2.1 c2.2.1 c2.2.2.1 c2.2.2.2.1 c2.2.2.2.2.1 c2.2.2.2.2.2.1 c2.2.2.2.2.2.2.1 c2.2.2.2.2.2.2.2.1 c2.2.2.2.2.2.2.2.2.1 c2.2.2.2.2.2.2.2.2.2.1 c2.2.2.2.2.2.2.2.2.2.2.1 c2.2.2.2.2.2.2.2.2.2.2.2.1 c2.2.2.2.2.2.2.2.2.2.2.2.2.1 true
 else k0 0 0 0 0 0 0 0 false 0 0 0 0 0 false)
def Qy_g (n : Nat) : Qy_G := ⟨Ql n⟩
def Qy (n : Nat) : Qy_T := fun _ρ a0 a1 a2 a3 a4 a5 a6 a7 a8 a9 k0 => Qy_s (Qy_g n) n a0 a1 a2 a3 a4 a5 a6 a7 a8 a9 k0
def Qy_e (n : Nat) : EK := Qy_E (Qy n)
def Qy_S (G : Qy_G) : CK := tabS [(41, Ql_E G.Ql)]
theorem Qy_Sok (n : Nat) : CK.OK (Qy_S (Qy_g n)) (L tab) := tabS_ok _ (List.forall_mem_cons.2 ⟨(Ql_ok n), (fun _ h => nomatch h)⟩)
def Qy_hs : HintC := hintL [(10, [.i .i64, .i .i64, .i .i64, .i .i64, .i .i64]), (27, [.i .i64, .i .i64, .i .i64, .i .i64, .i .i64, .i .i64, .i .i64, .b, .i .u64, .i .u64, .i .u64, .i .u64, .i .u64])]
def Qy_lp (_G : Qy_G) (_n : Nat) : LK := tabL []
theorem Qy_k (G : Qy_G) {ρ : Type} (n : Nat) (a0 a1 a2 : Int) (a3 a4 : Bool) (a5 : Rows) (a6 a7 : Bool) (a8 : Rows) (a9 : Int) (K : Res → Option ρ) : runC (Qy_S G) Qy_hs (Qy_lp G n) m92 [.agg [.i .i64 a0, .i .i64 a1, .i .i64 a2, .lst a3 a4 5 a5, .lst a6 a7 13 a8], .i .i64 a9] K = Qy_s G n a0 a1 a2 a3 a4 a5 a6 a7 a8 a9 (fun w0 w1 w2 w3 w4 w5 w6 w7 w8 w9 w10 w11 w12 w13 => K ⟨.tup [.agg [.i .i64 w0, .i .i64 w1, .i .i64 w2, .i .i64 w3, .i .i64 w4, .i .i64 w5, .i .i64 w6, .b w7, .i .u64 w8, .i .u64 w9, .i .u64 w10, .i .u64 w11, .i .u64 w12], .b w13], [], []⟩) := by kernel_rfl
theorem Qy_ok (n : Nat) : EK.OK (Qy_e n) 92 (L tab) := EK.shp (fun _ _ _ => rfl) fun ρ K y c e => EK.run (Qy_Sok n) (by kernel_rfl) (MF.LKOK.of (LK.of (l := []) (by kernel_rfl) ((fun _ h => nomatch h)))) (Qy_k (Qy_g n) n _ _ _ _ _ _ _ _ _ _ K) (by kernel_rfl) e
abbrev Qa_T : Type 1 := (ρ : Type) → Int → Int → Int → Bool → Bool → Rows → Bool → Bool → Rows → Int → Bool → Bool → Rows → (Int → Int → Option ρ) → Option ρ
def Qa_E (G : Qa_T) : EK := fun ρ args K => decL [.agg [.i .i64 none, .i .i64 none, .i .i64 none, .lst none none 5 none, .lst none none 13 none], .i .i64 none, .agg [.lst none none 1 none]] args fun c => G ρ c.1.1 c.1.2.1 c.1.2.2.1 c.1.2.2.2.1.1 c.1.2.2.2.1.2.1 c.1.2.2.2.1.2.2 c.1.2.2.2.2.1.1 c.1.2.2.2.2.1.2.1 c.1.2.2.2.2.1.2.2 c.2.1 c.2.2.1.1.1 c.2.2.1.1.2.1 c.2.2.1.1.2.2 (fun w0 w1 => K ⟨.tup [.i .i64 w0, .i .i64 w1], [], []⟩)
structure Qa_G where
 mk ::
 Qj : Qj_T
 find_in : find_in_T
 Q9 : Q9_T
 find_step : find_step_T
 Qy : Qy_T
abbrev Qa_l6_V : Type := Int × Int × Int × Int × Int × Int × Int × Int × Int × Bool × Int × Int × Int × Int × Int
def Qa_l6_s (G : Qa_G) {ρ : Type} (_n : Nat) (_p0 _p1 : Bool) (p2 : Rows) (p3 p4 : Int) (p5 p6 : Int) (p7 p8 : Bool) (p9 : Rows) (p10 p11 : Bool) (p12 : Rows) (_p13 _p14 : Bool) (_p15 : Rows) (k0 : (Int → Int → Int → Int → Int → Int → Int → Int → Bool → Int → Int → Int → Int → Int → Option ρ)) (k1 : (Int → Int → Int → Int → Int → Int → Int → Int → Bool → Int → Int → Int → Int → Int → Option ρ)) (k2 : (Int → Int → Int → Int → Int → Int → Int → Bool → Int → Int → Int → Int → Int → Option ρ)) (rec' : Qa_l6_V → Option ρ) : Qa_l6_V → Option ρ
 | v =>
 bif decide ((v.2.1 : Int) < p3) then
 rowT [.i .i64] p2 v.2.1 fun c0 =>
 bif decide ((v.2.1 : Int) > 0) then
 G.Qy ρ p4 p5 p6 p7 p8 p9 p10 p11 p12 v.1 (fun w1_0 w1_1 w1_2 w1_3 w1_4 w1_5 w1_6 w1_7 w1_8 w1_9 w1_10 w1_11 w1_12 w1_13 =>
 bif w1_13 then
 G.find_step ρ w1_0 w1_1 w1_2 w1_3 w1_4 w1_5 w1_6 w1_7 w1_8 w1_9 w1_10 w1_11 w1_12 c0.1 (fun w2_0 =>
 bif decide ((w2_0 : Int) < 0) then
 k2 w1_0 w1_1 w1_2 w1_3 w1_4 w1_5 w1_6 w1_7 w1_8 w1_9 w1_10 w1_11 w1_12
 else G.find_step ρ w1_0 w1_1 w1_2 w1_3 w1_4 w1_5 w1_6 w1_7 w1_8 w1_9 w1_10 w1_11 w1_12 c0.1 (fun w3_0 =>
 rec' (w3_0, (IntKind.wrap .i64 (v.2.1 + 1)), w1_0, w1_1, w1_2, w1_3, w1_4, w1_5, w1_6, w1_7, w1_8, w1_9, w1_10, w1_11, w1_12)))
 else k2 w1_0 w1_1 w1_2 w1_3 w1_4 w1_5 w1_6 w1_7 w1_8 w1_9 w1_10 w1_11 w1_12)
 else G.find_step ρ v.2.2.1 v.2.2.2.1 v.2.2.2.2.1 v.2.2.2.2.2.1 v.2.2.2.2.2.2.1 v.2.2.2.2.2.2.2.1 v.2.2.2.2.2.2.2.2.1 v.2.2.2.2.2.2.2.2.2.1 v.2.2.2.2.2.2.2.2.2.2.1 v.2.2.2.2.2.2.2.2.2.2.2.1 v.2.2.2.2.2.2.2.2.2.2.2.2.1 v.2.2.2.2.2.2.2.2.2.2.2.2.2.1 v.2.2.2.2.2.2.2.2.2.2.2.2.2.2 c0.1 (fun w4_0 =>
 bif decide ((w4_0 : Int) < 0) then
 k0 v.1 v.2.2.1 v.2.2.2.1 v.2.2.2.2.1 v.2.2.2.2.2.1 v.2.2.2.2.2.2.1 v.2.2.2.2.2.2.2.1 v.2.2.2.2.2.2.2.2.1 v.2.2.2.2.2.2.2.2.2.1 v.2.2.2.2.2.2.2.2.2.2.1 v.2.2.2.2.2.2.2.2.2.2.2.1 v.2.2.2.2.2.2.2.2.2.2.2.2.1 v.2.2.2.2.2.2.2.2.2.2.2.2.2.1 v.2.2.2.2.2.2.2.2.2.2.2.2.2.2
 else G.find_step ρ v.2.2.1 v.2.2.2.1 v.2.2.2.2.1 v.2.2.2.2.2.1 v.2.2.2.2.2.2.1 v.2.2.2.2.2.2.2.1 v.2.2.2.2.2.2.2.2.1 v.2.2.2.2.2.2.2.2.2.1 v.2.2.2.2.2.2.2.2.2.2.1 v.2.2.2.2.2.2.2.2.2.2.2.1 v.2.2.2.2.2.2.2.2.2.2.2.2.1 v.2.2.2.2.2.2.2.2.2.2.2.2.2.1 v.2.2.2.2.2.2.2.2.2.2.2.2.2.2 c0.1 (fun w5_0 =>
 rec' (w5_0, (IntKind.wrap .i64 (v.2.1 + 1)), v.2.2.1, v.2.2.2.1, v.2.2.2.2.1, v.2.2.2.2.2.1, v.2.2.2.2.2.2.1, v.2.2.2.2.2.2.2.1, v.2.2.2.2.2.2.2.2.1, v.2.2.2.2.2.2.2.2.2.1, v.2.2.2.2.2.2.2.2.2.2.1, v.2.2.2.2.2.2.2.2.2.2.2.1, v.2.2.2.2.2.2.2.2.2.2.2.2.1, v.2.2.2.2.2.2.2.2.2.2.2.2.2.1, v.2.2.2.2.2.2.2.2.2.2.2.2.2.2)))
 else k1 v.1 v.2.2.1 v.2.2.2.1 v.2.2.2.2.1 v.2.2.2.2.2.1 v.2.2.2.2.2.2.1 v.2.2.2.2.2.2.2.1 v.2.2.2.2.2.2.2.2.1 v.2.2.2.2.2.2.2.2.2.1 v.2.2.2.2.2.2.2.2.2.2.1 v.2.2.2.2.2.2.2.2.2.2.2.1 v.2.2.2.2.2.2.2.2.2.2.2.2.1 v.2.2.2.2.2.2.2.2.2.2.2.2.2.1 v.2.2.2.2.2.2.2.2.2.2.2.2.2.2
def Qa_l6 (G : Qa_G) {ρ : Type} (n : Nat) (p0 p1 : Bool) (p2 : Rows) (p3 p4 : Int) (p5 p6 : Int) (p7 p8 : Bool) (p9 : Rows) (p10 p11 : Bool) (p12 : Rows) (p13 p14 : Bool) (p15 : Rows) (k0 : (Int → Int → Int → Int → Int → Int → Int → Int → Bool → Int → Int → Int → Int → Int → Option ρ)) (k1 : (Int → Int → Int → Int → Int → Int → Int → Int → Bool → Int → Int → Int → Int → Int → Option ρ)) (k2 : (Int → Int → Int → Int → Int → Int → Int → Bool → Int → Int → Int → Int → Int → Option ρ)) (v : Qa_l6_V) : Option ρ := fuelN (Qa_l6_s G n p0 p1 p2 p3 p4 p5 p6 p7 p8 p9 p10 p11 p12 p13 p14 p15 k0 k1 k2) n v
def Qa_l6_enc (p0 p1 : Bool) (p2 : Rows) (p3 p4 : Int) (p5 p6 : Int) (p7 p8 : Bool) (p9 : Rows) (p10 p11 : Bool) (p12 : Rows) (p13 p14 : Bool) (p15 : Rows) : Qa_l6_V → St
 | v => ⟨[(3, .ptr 0 1 5 0 0), (8, .ptr 2 1 13 0 0), (9, .b true), (10, .i .i64 v.1), (37, .lst p0 p1 1 p2), (38, .i .i64 p3), (39, .i .i64 v.2.1)], [.row 5 true false [[.i .i64 p4, .i .i64 p5, .i .i64 p6, .lst p7 p8 5 p9, .lst p10 p11 13 p12]], .row 1 true false [[.lst p13 p14 1 p15]], .row 13 true false [[.i .i64 v.2.2.1, .i .i64 v.2.2.2.1, .i .i64 v.2.2.2.2.1, .i .i64 v.2.2.2.2.2.1, .i .i64 v.2.2.2.2.2.2.1, .i .i64 v.2.2.2.2.2.2.2.1, .i .i64 v.2.2.2.2.2.2.2.2.1, .b v.2.2.2.2.2.2.2.2.2.1, .i .u64 v.2.2.2.2.2.2.2.2.2.2.1, .i .u64 v.2.2.2.2.2.2.2.2.2.2.2.1, .i .u64 v.2.2.2.2.2.2.2.2.2.2.2.2.1, .i .u64 v.2.2.2.2.2.2.2.2.2.2.2.2.2.1, .i .u64 v.2.2.2.2.2.2.2.2.2.2.2.2.2.2]]]⟩
def Qa_s (G : Qa_G) {ρ : Type} (n : Nat) (a0 a1 a2 : Int) (a3 a4 : Bool) (a5 : Rows) (a6 a7 : Bool) (a8 : Rows) (a9 : Int) (a10 a11 : Bool) (a12 : Rows) (k0 : (Int → Int → Option ρ)) : Option ρ :=
 G.Qj ρ a0 a1 a2 a3 a4 a5 a6 a7 a8 (fun w0_0 =>
 bif w0_0 then
 G.find_in ρ a9 0 (IntKind.wrap .i64 (a0 - 1)) (fun w1_0 =>
 bif w1_0 then
 G.Q9 ρ a10 a11 a12 (fun w2_0 =>
 bif w2_0 then
 rowT [.i .i64, .i .i64, .i .i64, .i .i64, .i .i64, .i .i64, .i .i64, .b, .i .u64, .i .u64, .i .u64, .i .u64, .i .u64] a8 (IntKind.wrap .i64 (2 + a9)) fun c3 =>
 Qa_l6 G n a10 a11 a12 (((List.length (a12 : Rows)) : Nat) : Int) a0 a1 a2 a3 a4 a5 a6 a7 a8 a10 a11 a12 (fun _w4_0 _w4_1 _w4_2 _w4_3 _w4_4 _w4_5 _w4_6 _w4_7 _w4_8 _w4_9 _w4_10 _w4_11 _w4_12 _w4_13 =>
 k0 0 3) (fun w5_0 _w5_1 _w5_2 _w5_3 _w5_4 _w5_5 _w5_6 _w5_7 _w5_8 _w5_9 _w5_10 _w5_11 _w5_12 _w5_13 =>
 k0 w5_0 0) (fun _w6_0 _w6_1 _w6_2 _w6_3 _w6_4 _w6_5 _w6_6 _w6_7 _w6_8 _w6_9 _w6_10 _w6_11 _w6_12 =>
 k0 0 3) (0, 0, c3.1, c3.2.1, c3.2.2.1, c3.2.2.2.1, c3.2.2.2.2.1, c3.2.2.2.2.2.1, c3.2.2.2.2.2.2.1, c3.2.2.2.2.2.2.2.1, c3.2.2.2.2.2.2.2.2.1, c3.2.2.2.2.2.2.2.2.2.1, c3.2.2.2.2.2.2.2.2.2.2.1, c3.2.2.2.2.2.2.2.2.2.2.2.1, c3.2.2.2.2.2.2.2.2.2.2.2.2.1)
 else k0 0 1)
 else k0 0 1)
 else k0 0 1)
def Qa_g (n : Nat) : Qa_G := ⟨Qj n, find_in n, Q9 n, find_step n, Qy n⟩
def Qa (n : Nat) : Qa_T := fun _ρ a0 a1 a2 a3 a4 a5 a6 a7 a8 a9 a10 a11 a12 k0 => Qa_s (Qa_g n) n a0 a1 a2 a3 a4 a5 a6 a7 a8 a9 a10 a11 a12 k0
def Qa_e (n : Nat) : EK := Qa_E (Qa n)
def Qa_S (G : Qa_G) : CK := tabS [(9, Qj_E G.Qj), (91, find_in_E G.find_in), (71, Q9_E G.Q9), (93, find_step_E G.find_step), (92, Qy_E G.Qy)]
theorem Qa_Sok (n : Nat) : CK.OK (Qa_S (Qa_g n)) (L tab) := tabS_ok _ (List.forall_mem_cons.2 ⟨(Qj_ok n), List.forall_mem_cons.2 ⟨(find_in_ok n), List.forall_mem_cons.2 ⟨(Q9_ok n), List.forall_mem_cons.2 ⟨(find_step_ok n), List.forall_mem_cons.2 ⟨(Qy_ok n), (fun _ h => nomatch h)⟩⟩⟩⟩⟩)
def Qa_hs : HintC := hintL [(34, [.i .i64, .i .i64, .i .i64, .i .i64, .i .i64, .i .i64, .i .i64, .b, .i .u64, .i .u64, .i .u64, .i .u64, .i .u64]), (42, [.i .i64])]
def Qa_c6 : Nat × List Nat × List Nat × MC := loopAt 6 m74
def Qa_l6_d (G : Qa_G) (n : Nat) : Go.Rv.LE := fun _ρ h K => decSt [(3, .ptr 0 5 0 (some 1) (some 0)), (8, .ptr 2 13 0 (some 1) (some 0)), (9, .b (some true)), (10, .i .i64 none), (37, .lst none none 1 none), (38, .i .i64 none), (39, .i .i64 none)] [.row 5 true false (some [[.i .i64 none, .i .i64 none, .i .i64 none, .lst none none 5 none, .lst none none 13 none]]), .row 1 true false (some [[.lst none none 1 none]]), .row 13 true false (some [[.i .i64 none, .i .i64 none, .i .i64 none, .i .i64 none, .i .i64 none, .i .i64 none, .i .i64 none, .b none, .i .u64 none, .i .u64 none, .i .u64 none, .i .u64 none, .i .u64 none]])] h fun a b => Qa_l6 G n a.2.2.2.2.1.1 a.2.2.2.2.1.2.1 a.2.2.2.2.1.2.2 a.2.2.2.2.2.1 b.1.1.1 b.1.1.2.1 b.1.1.2.2.1 b.1.1.2.2.2.1.1 b.1.1.2.2.2.1.2.1 b.1.1.2.2.2.1.2.2 b.1.1.2.2.2.2.1.1 b.1.1.2.2.2.2.1.2.1 b.1.1.2.2.2.2.1.2.2 b.2.1.1.1.1 b.2.1.1.1.2.1 b.2.1.1.1.2.2 (fun w0 w1 w2 w3 w4 w5 w6 w7 w8 w9 w10 w11 w12 w13 => K .ret ⟨[(6, .i .i64 0), (7, .i .i64 3), (10, .i .i64 w0)], [.row 5 true false [[.i .i64 b.1.1.1, .i .i64 b.1.1.2.1, .i .i64 b.1.1.2.2.1, .lst b.1.1.2.2.2.1.1 b.1.1.2.2.2.1.2.1 5 b.1.1.2.2.2.1.2.2, .lst b.1.1.2.2.2.2.1.1 b.1.1.2.2.2.2.1.2.1 13 b.1.1.2.2.2.2.1.2.2]], .row 1 true false [[.lst b.2.1.1.1.1 b.2.1.1.1.2.1 1 b.2.1.1.1.2.2]], .row 13 true false [[.i .i64 w1, .i .i64 w2, .i .i64 w3, .i .i64 w4, .i .i64 w5, .i .i64 w6, .i .i64 w7, .b w8, .i .u64 w9, .i .u64 w10, .i .u64 w11, .i .u64 w12, .i .u64 w13]]]⟩) (fun w0 w1 w2 w3 w4 w5 w6 w7 w8 w9 w10 w11 w12 w13 => K (.exit 0) ⟨[(6, .u), (7, .u), (10, .i .i64 w0)], [.row 5 true false [[.i .i64 b.1.1.1, .i .i64 b.1.1.2.1, .i .i64 b.1.1.2.2.1, .lst b.1.1.2.2.2.1.1 b.1.1.2.2.2.1.2.1 5 b.1.1.2.2.2.1.2.2, .lst b.1.1.2.2.2.2.1.1 b.1.1.2.2.2.2.1.2.1 13 b.1.1.2.2.2.2.1.2.2]], .row 1 true false [[.lst b.2.1.1.1.1 b.2.1.1.1.2.1 1 b.2.1.1.1.2.2]], .row 13 true false [[.i .i64 w1, .i .i64 w2, .i .i64 w3, .i .i64 w4, .i .i64 w5, .i .i64 w6, .i .i64 w7, .b w8, .i .u64 w9, .i .u64 w10, .i .u64 w11, .i .u64 w12, .i .u64 w13]]]⟩) (fun w0 w1 w2 w3 w4 w5 w6 w7 w8 w9 w10 w11 w12 => K .ret ⟨[(6, .i .i64 0), (7, .i .i64 3), (10, .u)], [.row 5 true false [[.i .i64 b.1.1.1, .i .i64 b.1.1.2.1, .i .i64 b.1.1.2.2.1, .lst b.1.1.2.2.2.1.1 b.1.1.2.2.2.1.2.1 5 b.1.1.2.2.2.1.2.2, .lst b.1.1.2.2.2.2.1.1 b.1.1.2.2.2.2.1.2.1 13 b.1.1.2.2.2.2.1.2.2]], .row 1 true false [[.lst b.2.1.1.1.1 b.2.1.1.1.2.1 1 b.2.1.1.1.2.2]], .row 13 true false [[.i .i64 w0, .i .i64 w1, .i .i64 w2, .i .i64 w3, .i .i64 w4, .i .i64 w5, .i .i64 w6, .b w7, .i .u64 w8, .i .u64 w9, .i .u64 w10, .i .u64 w11, .i .u64 w12]]]⟩) (a.2.2.2.1, a.2.2.2.2.2.2.1, b.2.2.1.1.1, b.2.2.1.1.2.1, b.2.2.1.1.2.2.1, b.2.2.1.1.2.2.2.1, b.2.2.1.1.2.2.2.2.1, b.2.2.1.1.2.2.2.2.2.1, b.2.2.1.1.2.2.2.2.2.2.1, b.2.2.1.1.2.2.2.2.2.2.2.1, b.2.2.1.1.2.2.2.2.2.2.2.2.1, b.2.2.1.1.2.2.2.2.2.2.2.2.2.1, b.2.2.1.1.2.2.2.2.2.2.2.2.2.2.1, b.2.2.1.1.2.2.2.2.2.2.2.2.2.2.2.1, b.2.2.1.1.2.2.2.2.2.2.2.2.2.2.2.2.1)
def Qa_d6 (G : Qa_G) (n : Nat) : Go.Rv.LE := Qa_l6_d G n
def Qa_lp (G : Qa_G) (n : Nat) : LK := tabL [(6, Qa_d6 G n)]
theorem Qa_l6_k (G : Qa_G) {ρ : Type} (n : Nat) (p0 p1 : Bool) (p2 : Rows) (p3 p4 : Int) (p5 p6 : Int) (p7 p8 : Bool) (p9 : Rows) (p10 p11 : Bool) (p12 : Rows) (p13 p14 : Bool) (p15 : Rows) (K : Ex → St → Option ρ) (N : St → Option ρ) : ∀ v, roundC (Qa_S G) Qa_hs (Qa_lp G n) Qa_c6 3 N K (Qa_l6_enc p0 p1 p2 p3 p4 p5 p6 p7 p8 p9 p10 p11 p12 p13 p14 p15 v) = Qa_l6_s G n p0 p1 p2 p3 p4 p5 p6 p7 p8 p9 p10 p11 p12 p13 p14 p15 (fun w0 w1 w2 w3 w4 w5 w6 w7 w8 w9 w10 w11 w12 w13 => K .ret ⟨[(6, .i .i64 0), (7, .i .i64 3), (10, .i .i64 w0)], [.row 5 true false [[.i .i64 p4, .i .i64 p5, .i .i64 p6, .lst p7 p8 5 p9, .lst p10 p11 13 p12]], .row 1 true false [[.lst p13 p14 1 p15]], .row 13 true false [[.i .i64 w1, .i .i64 w2, .i .i64 w3, .i .i64 w4, .i .i64 w5, .i .i64 w6, .i .i64 w7, .b w8, .i .u64 w9, .i .u64 w10, .i .u64 w11, .i .u64 w12, .i .u64 w13]]]⟩) (fun w0 w1 w2 w3 w4 w5 w6 w7 w8 w9 w10 w11 w12 w13 => K (.exit 0) ⟨[(6, .u), (7, .u), (10, .i .i64 w0)], [.row 5 true false [[.i .i64 p4, .i .i64 p5, .i .i64 p6, .lst p7 p8 5 p9, .lst p10 p11 13 p12]], .row 1 true false [[.lst p13 p14 1 p15]], .row 13 true false [[.i .i64 w1, .i .i64 w2, .i .i64 w3, .i .i64 w4, .i .i64 w5, .i .i64 w6, .i .i64 w7, .b w8, .i .u64 w9, .i .u64 w10, .i .u64 w11, .i .u64 w12, .i .u64 w13]]]⟩) (fun w0 w1 w2 w3 w4 w5 w6 w7 w8 w9 w10 w11 w12 => K .ret ⟨[(6, .i .i64 0), (7, .i .i64 3), (10, .u)], [.row 5 true false [[.i .i64 p4, .i .i64 p5, .i .i64 p6, .lst p7 p8 5 p9, .lst p10 p11 13 p12]], .row 1 true false [[.lst p13 p14 1 p15]], .row 13 true false [[.i .i64 w0, .i .i64 w1, .i .i64 w2, .i .i64 w3, .i .i64 w4, .i .i64 w5, .i .i64 w6, .b w7, .i .u64 w8, .i .u64 w9, .i .u64 w10, .i .u64 w11, .i .u64 w12]]]⟩) (fun v => N (Qa_l6_enc p0 p1 p2 p3 p4 p5 p6 p7 p8 p9 p10 p11 p12 p13 p14 p15 v)) v
 | v => by kernel_rfl
theorem Qa_l6_dok (n : Nat) : LE.OK (Qa_l6_d (Qa_g n) n) (L tab) Qa_c6 := LE.shp (fun _ _ _ => rfl) fun ρ K y a b e => LE.rounds (Qa_Sok n) (LK.of (l := []) (by kernel_rfl) ((fun _ h => nomatch h))) (Qa_l6_k (Qa_g n) n _ _ _ _ _ _ _ _ _ _ _ _ _ _ _ _ K) (by kernel_rfl) (by kernel_rfl) e
theorem Qa_d6_ok (n : Nat) : LE.OK (Qa_d6 (Qa_g n) n) (L tab) Qa_c6 := Qa_l6_dok n
theorem Qa_k (G : Qa_G) {ρ : Type} (n : Nat) (a0 a1 a2 : Int) (a3 a4 : Bool) (a5 : Rows) (a6 a7 : Bool) (a8 : Rows) (a9 : Int) (a10 a11 : Bool) (a12 : Rows) (K : Res → Option ρ) : runC (Qa_S G) Qa_hs (Qa_lp G n) m74 [.agg [.i .i64 a0, .i .i64 a1, .i .i64 a2, .lst a3 a4 5 a5, .lst a6 a7 13 a8], .i .i64 a9, .agg [.lst a10 a11 1 a12]] K = Qa_s G n a0 a1 a2 a3 a4 a5 a6 a7 a8 a9 a10 a11 a12 (fun w0 w1 => K ⟨.tup [.i .i64 w0, .i .i64 w1], [], []⟩) := by kernel_rfl
theorem Qa_ok (n : Nat) : EK.OK (Qa_e n) 74 (L tab) := EK.shp (fun _ _ _ => rfl) fun ρ K y c e => EK.run (Qa_Sok n) (by kernel_rfl) (MF.LKOK.of (LK.of (l := [Qa_c6]) (by kernel_rfl) (List.forall_mem_cons.2 ⟨LE.at (e := Qa_d6 (Qa_g n) n) (by kernel_rfl) (Qa_d6_ok n), (fun _ h => nomatch h)⟩))) (Qa_k (Qa_g n) n _ _ _ _ _ _ _ _ _ _ _ _ _ K) (by kernel_rfl) e
abbrev Qu_T : Type 1 := (ρ : Type) → Int → Int → Int → Bool → Bool → Rows → Bool → Bool → Rows → Int → Bool → Bool → Rows → (Int → Int → Int → Int → Int → Int → Option ρ) → Option ρ
def Qu_E (G : Qu_T) : EK := fun ρ args K => decL [.agg [.i .i64 none, .i .i64 none, .i .i64 none, .lst none none 5 none, .lst none none 13 none], .i .i64 none, .agg [.lst none none 1 none]] args fun c => G ρ c.1.1 c.1.2.1 c.1.2.2.1 c.1.2.2.2.1.1 c.1.2.2.2.1.2.1 c.1.2.2.2.1.2.2 c.1.2.2.2.2.1.1 c.1.2.2.2.2.1.2.1 c.1.2.2.2.2.1.2.2 c.2.1 c.2.2.1.1.1 c.2.2.1.1.2.1 c.2.2.1.1.2.2 (fun w0 w1 w2 w3 w4 w5 => K ⟨.tup [.i .i64 w0, .agg [.i .i64 w1, .i .i64 w2, .i .i64 w3, .i .i64 w4], .i .i64 w5], [], []⟩)
structure Qu_G where
 mk ::
 Qa : Qa_T
 cap_None : cap_None_T
def Qu_s (G : Qu_G) {ρ : Type} (_n : Nat) (a0 a1 a2 : Int) (a3 a4 : Bool) (a5 : Rows) (a6 a7 : Bool) (a8 : Rows) (a9 : Int) (a10 a11 : Bool) (a12 : Rows) (k0 : (Int → Int → Int → Int → Int → Int → Option ρ)) : Option ρ :=
 G.Qa ρ a0 a1 a2 a3 a4 a5 a6 a7 a8 a9 a10 a11 a12 (fun w0_0 w0_1 =>
 bif ((w0_1 : Int) != 0) then
 k0 0 0 0 0 0 w0_1
 else rowT [.i .i64, .i .i64, .i .i64, .i .i64, .i .i64] a5 w0_0 fun c1 =>
 G.cap_None ρ c1.1 c1.2.1 c1.2.2.1 c1.2.2.2.1 (fun w2_0 =>
 bif w2_0 then
 k0 0 0 0 0 0 4
 else rowT [.i .i64, .i .i64, .i .i64, .i .i64, .i .i64] a5 w0_0 fun c3 =>
 k0 w0_0 c3.1 c3.2.1 c3.2.2.1 c3.2.2.2.1 0))
def Qu_g (n : Nat) : Qu_G := ⟨Qa n, cap_None n⟩
def Qu (n : Nat) : Qu_T := fun _ρ a0 a1 a2 a3 a4 a5 a6 a7 a8 a9 a10 a11 a12 k0 => Qu_s (Qu_g n) n a0 a1 a2 a3 a4 a5 a6 a7 a8 a9 a10 a11 a12 k0
def Qu_e (n : Nat) : EK := Qu_E (Qu n)
def Qu_S (G : Qu_G) : CK := tabS [(74, Qa_E G.Qa), (21, cap_None_E G.cap_None)]
theorem Qu_Sok (n : Nat) : CK.OK (Qu_S (Qu_g n)) (L tab) := tabS_ok _ (List.forall_mem_cons.2 ⟨(Qa_ok n), List.forall_mem_cons.2 ⟨(cap_None_ok n), (fun _ h => nomatch h)⟩⟩)
def Qu_hs : HintC := hintL [(27, [.i .i64, .i .i64, .i .i64, .i .i64, .i .i64]), (36, [.i .i64, .i .i64, .i .i64, .i .i64, .i .i64])]
def Qu_lp (_G : Qu_G) (_n : Nat) : LK := tabL []
theorem Qu_k (G : Qu_G) {ρ : Type} (n : Nat) (a0 a1 a2 : Int) (a3 a4 : Bool) (a5 : Rows) (a6 a7 : Bool) (a8 : Rows) (a9 : Int) (a10 a11 : Bool) (a12 : Rows) (K : Res → Option ρ) : runC (Qu_S G) Qu_hs (Qu_lp G n) m50 [.agg [.i .i64 a0, .i .i64 a1, .i .i64 a2, .lst a3 a4 5 a5, .lst a6 a7 13 a8], .i .i64 a9, .agg [.lst a10 a11 1 a12]] K = Qu_s G n a0 a1 a2 a3 a4 a5 a6 a7 a8 a9 a10 a11 a12 (fun w0 w1 w2 w3 w4 w5 => K ⟨.tup [.i .i64 w0, .agg [.i .i64 w1, .i .i64 w2, .i .i64 w3, .i .i64 w4], .i .i64 w5], [], []⟩) := by kernel_rfl
theorem Qu_ok (n : Nat) : EK.OK (Qu_e n) 50 (L tab) := EK.shp (fun _ _ _ => rfl) fun ρ K y c e => EK.run (Qu_Sok n) (by kernel_rfl) (MF.LKOK.of (LK.of (l := []) (by kernel_rfl) ((fun _ h => nomatch h)))) (Qu_k (Qu_g n) n _ _ _ _ _ _ _ _ _ _ _ _ _ K) (by kernel_rfl) e
abbrev Qv_T : Type 1 := (ρ : Type) → Int → Int → Int → Bool → Bool → Rows → Bool → Bool → Rows → Int → Bool → Bool → Rows → (Int → Int → Option ρ) → Option ρ
def Qv_E (G : Qv_T) : EK := fun ρ args K => decL [.agg [.i .i64 none, .i .i64 none, .i .i64 none, .lst none none 5 none, .lst none none 13 none], .i .i64 none, .agg [.lst none none 1 none]] args fun c => G ρ c.1.1 c.1.2.1 c.1.2.2.1 c.1.2.2.2.1.1 c.1.2.2.2.1.2.1 c.1.2.2.2.1.2.2 c.1.2.2.2.2.1.1 c.1.2.2.2.2.1.2.1 c.1.2.2.2.2.1.2.2 c.2.1 c.2.2.1.1.1 c.2.2.1.1.2.1 c.2.2.1.1.2.2 (fun w0 w1 => K ⟨.tup [.i .i64 w0, .i .i64 w1], [], []⟩)
structure Qv_G where
 mk ::
 Qa : Qa_T
 cap_None : cap_None_T
def Qv_s (G : Qv_G) {ρ : Type} (_n : Nat) (a0 a1 a2 : Int) (a3 a4 : Bool) (a5 : Rows) (a6 a7 : Bool) (a8 : Rows) (a9 : Int) (a10 a11 : Bool) (a12 : Rows) (k0 : (Int → Int → Option ρ)) : Option ρ :=
 G.Qa ρ a0 a1 a2 a3 a4 a5 a6 a7 a8 a9 a10 a11 a12 (fun w0_0 w0_1 =>
 bif ((w0_1 : Int) != 0) then
 k0 0 w0_1
 else rowT [.i .i64, .i .i64, .i .i64, .i .i64, .i .i64] a5 w0_0 fun c1 =>
 G.cap_None ρ c1.1 c1.2.1 c1.2.2.1 c1.2.2.2.1 (fun w2_0 =>
 bif w2_0 then
 k0 w0_0 0
 else k0 0 5))
def Qv_g (n : Nat) : Qv_G := ⟨Qa n, cap_None n⟩
def Qv (n : Nat) : Qv_T := fun _ρ a0 a1 a2 a3 a4 a5 a6 a7 a8 a9 a10 a11 a12 k0 => Qv_s (Qv_g n) n a0 a1 a2 a3 a4 a5 a6 a7 a8 a9 a10 a11 a12 k0
def Qv_e (n : Nat) : EK := Qv_E (Qv n)
def Qv_S (G : Qv_G) : CK := tabS [(74, Qa_E G.Qa), (21, cap_None_E G.cap_None)]
theorem Qv_Sok (n : Nat) : CK.OK (Qv_S (Qv_g n)) (L tab) := tabS_ok _ (List.forall_mem_cons.2 ⟨(Qa_ok n), List.forall_mem_cons.2 ⟨(cap_None_ok n), (fun _ h => nomatch h)⟩⟩)
def Qv_hs : HintC := hintL [(25, [.i .i64, .i .i64, .i .i64, .i .i64, .i .i64])]
def Qv_lp (_G : Qv_G) (_n : Nat) : LK := tabL []
theorem Qv_k (G : Qv_G) {ρ : Type} (n : Nat) (a0 a1 a2 : Int) (a3 a4 : Bool) (a5 : Rows) (a6 a7 : Bool) (a8 : Rows) (a9 : Int) (a10 a11 : Bool) (a12 : Rows) (K : Res → Option ρ) : runC (Qv_S G) Qv_hs (Qv_lp G n) m51 [.agg [.i .i64 a0, .i .i64 a1, .i .i64 a2, .lst a3 a4 5 a5, .lst a6 a7 13 a8], .i .i64 a9, .agg [.lst a10 a11 1 a12]] K = Qv_s G n a0 a1 a2 a3 a4 a5 a6 a7 a8 a9 a10 a11 a12 (fun w0 w1 => K ⟨.tup [.i .i64 w0, .i .i64 w1], [], []⟩) := by kernel_rfl
theorem Qv_ok (n : Nat) : EK.OK (Qv_e n) 51 (L tab) := EK.shp (fun _ _ _ => rfl) fun ρ K y c e => EK.run (Qv_Sok n) (by kernel_rfl) (MF.LKOK.of (LK.of (l := []) (by kernel_rfl) ((fun _ h => nomatch h)))) (Qv_k (Qv_g n) n _ _ _ _ _ _ _ _ _ _ _ _ _ K) (by kernel_rfl) e
abbrev Qq_T : Type 1 := (ρ : Type) → Int → Int → (Int → Bool → Option ρ) → Option ρ
def Qq_E (G : Qq_T) : EK := fun ρ args K => decL [.i .i64 none, .i .i64 none] args fun c => G ρ c.1 c.2.1 (fun w0 w1 => K ⟨.tup [.i .i64 w0, .b w1], [], []⟩)
structure Qq_G where
 mk ::
 thing_in : thing_in_T
def Qq_s (G : Qq_G) {ρ : Type} (_n : Nat) (a0 a1 : Int) (k0 : (Int → Bool → Option ρ)) : Option ρ :=
 bif ((a0 : Int) == 1) then
 G.thing_in ρ a1 1 4096 (fun w0_0 =>
 bif w0_0 then
 k0 a1 true
 else k0 0 false)
 else bif ((a0 : Int) == 2) then
 G.thing_in ρ a1 1 4 (fun w1_0 =>
 bif w1_0 then
 chk (decide (0 ≤ (a1 : Int))) <|
 k0 (IntKind.wrap .i64 ((1 : Int) * 2 ^ (min a1.toNat (IntKind.bits .i64)))) true
 else k0 0 false)
 else bif ((a0 : Int) == 3) then
 k0 1 true
 else bif ((a0 : Int) == 4) then
 k0 1 true
 else bif ((a0 : Int) == 5) then
 k0 2 true
 else k0 0 false
def Qq_g (n : Nat) : Qq_G := ⟨thing_in n⟩
def Qq (n : Nat) : Qq_T := fun _ρ a0 a1 k0 => Qq_s (Qq_g n) n a0 a1 k0
def Qq_e (n : Nat) : EK := Qq_E (Qq n)
def Qq_S (G : Qq_G) : CK := tabS [(34, thing_in_E G.thing_in)]
theorem Qq_Sok (n : Nat) : CK.OK (Qq_S (Qq_g n)) (L tab) := tabS_ok _ (List.forall_mem_cons.2 ⟨(thing_in_ok n), (fun _ h => nomatch h)⟩)
def Qq_hs : HintC := hintL []
def Qq_lp (_G : Qq_G) (_n : Nat) : LK := tabL []
theorem Qq_k (G : Qq_G) {ρ : Type} (n : Nat) (a0 a1 : Int) (K : Res → Option ρ) : runC (Qq_S G) Qq_hs (Qq_lp G n) m12 [.i .i64 a0, .i .i64 a1] K = Qq_s G n a0 a1 (fun w0 w1 => K ⟨.tup [.i .i64 w0, .b w1], [], []⟩) := by kernel_rfl
theorem Qq_ok (n : Nat) : EK.OK (Qq_e n) 12 (L tab) := EK.shp (fun _ _ _ => rfl) fun ρ K y c e => EK.run (Qq_Sok n) (by kernel_rfl) (MF.LKOK.of (LK.of (l := []) (by kernel_rfl) ((fun _ h => nomatch h)))) (Qq_k (Qq_g n) n _ _ K) (by kernel_rfl) e
abbrev Q06_T : Type 1 := (ρ : Type) → Bool → Bool → Rows → Int → (Bool → Option ρ) → Option ρ
def Q06_E (G : Q06_T) : EK := fun ρ args K => decL [.agg [.lst none none 1 none], .i .i64 none] args fun c => G ρ c.1.1.1 c.1.1.2.1 c.1.1.2.2 c.2.1 (fun w0 => K ⟨.b w0, [], []⟩)
structure Q06_G where
 mk ::
 Q0 : Q0_T
 forest_Forest_is : forest_Forest_is_T
def Q06_s (G : Q06_G) {ρ : Type} (_n : Nat) (a0 a1 : Bool) (a2 : Rows) (a3 : Int) (k0 : (Bool → Option ρ)) : Option ρ :=
 G.Q0 ρ a0 a1 a2 (fun w0_0 =>
 bif w0_0 then
 G.forest_Forest_is ρ a0 a1 a2 a3 (fun w1_0 =>
 bif w1_0 then
 k0 true
 else k0 false)
 else k0 false)
def Q06_g (n : Nat) : Q06_G := ⟨Q0 n, forest_Forest_is n⟩
def Q06 (n : Nat) : Q06_T := fun _ρ a0 a1 a2 a3 k0 => Q06_s (Q06_g n) n a0 a1 a2 a3 k0
def Q06_e (n : Nat) : EK := Q06_E (Q06 n)
def Q06_S (G : Q06_G) : CK := tabS [(13, Q0_E G.Q0), (35, forest_Forest_is_E G.forest_Forest_is)]
theorem Q06_Sok (n : Nat) : CK.OK (Q06_S (Q06_g n)) (L tab) := tabS_ok _ (List.forall_mem_cons.2 ⟨(Q0_ok n), List.forall_mem_cons.2 ⟨(forest_Forest_is_ok n), (fun _ h => nomatch h)⟩⟩)
def Q06_hs : HintC := hintL []
def Q06_lp (_G : Q06_G) (_n : Nat) : LK := tabL []
theorem Q06_k (G : Q06_G) {ρ : Type} (n : Nat) (a0 a1 : Bool) (a2 : Rows) (a3 : Int) (K : Res → Option ρ) : runC (Q06_S G) Q06_hs (Q06_lp G n) m94 [.agg [.lst a0 a1 1 a2], .i .i64 a3] K = Q06_s G n a0 a1 a2 a3 (fun w0 => K ⟨.b w0, [], []⟩) := by kernel_rfl
theorem Q06_ok (n : Nat) : EK.OK (Q06_e n) 94 (L tab) := EK.shp (fun _ _ _ => rfl) fun ρ K y c e => EK.run (Q06_Sok n) (by kernel_rfl) (MF.LKOK.of (LK.of (l := []) (by kernel_rfl) ((fun _ h => nomatch h)))) (Q06_k (Q06_g n) n _ _ _ _ K) (by kernel_rfl) e
abbrev forest_Forest_of_T : Type 1 := (ρ : Type) → Bool → Bool → Rows → Int → (Option ρ) → (Nat → Nat → Rows → Option ρ) → Option ρ
def forest_Forest_of_E (G : forest_Forest_of_T) : EK := fun ρ args K => decL [.agg [.lst none none 1 none], .i .i64 none] args fun c => G ρ c.1.1.1 c.1.1.2.1 c.1.1.2.2 c.2.1 (K ⟨.lst true true 0 [], [], []⟩) (fun w0 w1 w2 => K ⟨.sl 0 w0 1 0 w1, [.row 1 true false w2], []⟩)
structure forest_Forest_of_G where
 mk ::
abbrev forest_Forest_of_l3_V : Type := (Int) ⊕ (Nat × Nat × Int × Rows)
def forest_Forest_of_l3_s (_G : forest_Forest_of_G) {ρ : Type} (_n : Nat) (p0 : Int) (_p1 _p2 : Bool) (p3 : Rows) (p4 : Int) (_p5 _p6 : Bool) (_p7 : Rows) (k0 : (Option ρ)) (k1 : (Nat → Nat → Rows → Option ρ)) (rec' : forest_Forest_of_l3_V → Option ρ) : forest_Forest_of_l3_V → Option ρ
 | (.inl v) =>
 bif decide ((v : Int) < p4) then
 rowT [.i .i64] p3 v fun c0 =>
 bif ((c0.1 : Int) == p0) then
 rec' (.inr (1, 1, (IntKind.wrap .i64 (v + 1)), [[.i .i64 v]]))
 else rec' (.inl ((IntKind.wrap .i64 (v + 1))))
 else k0
 | (.inr v) =>
 bif decide ((v.2.2.1 : Int) < p4) then
 rowT [.i .i64] p3 v.2.2.1 fun c1 =>
 bif ((c1.1 : Int) == p0) then
 chk (((List.length (v.2.2.2 : Rows)) : Nat) == v.1) <|
 chk ((v.2.1 : Nat) == v.1) <|
 chk (decide ((v.1 + 1) ≤ most)) <|
 rec' (.inr ((v.1 + 1), (v.1 + 1), (IntKind.wrap .i64 (v.2.2.1 + 1)), (v.2.2.2 ++ [[.i .i64 v.2.2.1]])))
 else rec' (.inr (v.1, v.2.1, (IntKind.wrap .i64 (v.2.2.1 + 1)), v.2.2.2))
 else k1 v.1 v.2.1 v.2.2.2
def forest_Forest_of_l3 (G : forest_Forest_of_G) {ρ : Type} (n : Nat) (p0 : Int) (p1 p2 : Bool) (p3 : Rows) (p4 : Int) (p5 p6 : Bool) (p7 : Rows) (k0 : (Option ρ)) (k1 : (Nat → Nat → Rows → Option ρ)) (v : forest_Forest_of_l3_V) : Option ρ := fuelN (forest_Forest_of_l3_s G n p0 p1 p2 p3 p4 p5 p6 p7 k0 k1) n v
def forest_Forest_of_l3_enc (p0 : Int) (p1 p2 : Bool) (p3 : Rows) (p4 : Int) (p5 p6 : Bool) (p7 : Rows) : forest_Forest_of_l3_V → St
 | (.inl v) => ⟨[(1, .i .i64 p0), (5, .lst true true 0 []), (9, .lst p1 p2 1 p3), (10, .i .i64 p4), (11, .i .i64 v)], [.row 1 true false [[.lst p5 p6 1 p7]]]⟩
 | (.inr v) => ⟨[(1, .i .i64 p0), (5, .sl 1 v.1 1 0 v.2.1), (9, .lst p1 p2 1 p3), (10, .i .i64 p4), (11, .i .i64 v.2.2.1)], [.row 1 true false [[.lst p5 p6 1 p7]], .row 1 true false v.2.2.2]⟩
def forest_Forest_of_s (G : forest_Forest_of_G) {ρ : Type} (n : Nat) (a0 a1 : Bool) (a2 : Rows) (a3 : Int) (k0 : (Option ρ)) (k1 : (Nat → Nat → Rows → Option ρ)) : Option ρ :=
 forest_Forest_of_l3 G n a3 a0 a1 a2 (((List.length (a2 : Rows)) : Nat) : Int) a0 a1 a2 (k0) (fun w1_0 w1_1 w1_2 =>
 k1 w1_0 w1_1 w1_2) (.inl (0))
def forest_Forest_of_g (_n : Nat) : forest_Forest_of_G := ⟨⟩
def forest_Forest_of (n : Nat) : forest_Forest_of_T := fun _ρ a0 a1 a2 a3 k0 k1 => forest_Forest_of_s (forest_Forest_of_g n) n a0 a1 a2 a3 k0 k1
def forest_Forest_of_e (n : Nat) : EK := forest_Forest_of_E (forest_Forest_of n)
def forest_Forest_of_S (_G : forest_Forest_of_G) : CK := tabS []
theorem forest_Forest_of_Sok (n : Nat) : CK.OK (forest_Forest_of_S (forest_Forest_of_g n)) (L tab) := tabS_ok _ ((fun _ h => nomatch h))
def forest_Forest_of_hs : HintC := hintL [(14, [.i .i64])]
def forest_Forest_of_c3 : Nat × List Nat × List Nat × MC := loopAt 3 m95
def forest_Forest_of_l3_d (G : forest_Forest_of_G) (n : Nat) : Go.Rv.LE := fun _ρ h K => decSt [(1, .i .i64 none), (5, .lst (some true) (some true) 0 (some [])), (9, .lst none none 1 none), (10, .i .i64 none), (11, .i .i64 none)] [.row 1 true false (some [[.lst none none 1 none]])] h fun a b => forest_Forest_of_l3 G n a.1 a.2.2.1.1 a.2.2.1.2.1 a.2.2.1.2.2 a.2.2.2.1 b.1.1.1.1 b.1.1.1.2.1 b.1.1.1.2.2 (K (.exit 0) ⟨[(5, .lst true true 0 [])], [.row 1 true false [[.lst b.1.1.1.1 b.1.1.1.2.1 1 b.1.1.1.2.2]]]⟩) (fun w0 w1 w2 => K (.exit 0) ⟨[(5, .sl 1 w0 1 0 w1)], [.row 1 true false [[.lst b.1.1.1.1 b.1.1.1.2.1 1 b.1.1.1.2.2]], .row 1 true false w2]⟩) (.inl (a.2.2.2.2.1))
def forest_Forest_of_d3 (G : forest_Forest_of_G) (n : Nat) : Go.Rv.LE := forest_Forest_of_l3_d G n
def forest_Forest_of_lp (G : forest_Forest_of_G) (n : Nat) : LK := tabL [(3, forest_Forest_of_d3 G n)]
theorem forest_Forest_of_l3_k (G : forest_Forest_of_G) {ρ : Type} (n : Nat) (p0 : Int) (p1 p2 : Bool) (p3 : Rows) (p4 : Int) (p5 p6 : Bool) (p7 : Rows) (K : Ex → St → Option ρ) (N : St → Option ρ) : ∀ v, roundC (forest_Forest_of_S G) forest_Forest_of_hs (forest_Forest_of_lp G n) forest_Forest_of_c3 1 N K (forest_Forest_of_l3_enc p0 p1 p2 p3 p4 p5 p6 p7 v) = forest_Forest_of_l3_s G n p0 p1 p2 p3 p4 p5 p6 p7 (K (.exit 0) ⟨[(5, .lst true true 0 [])], [.row 1 true false [[.lst p5 p6 1 p7]]]⟩) (fun w0 w1 w2 => K (.exit 0) ⟨[(5, .sl 1 w0 1 0 w1)], [.row 1 true false [[.lst p5 p6 1 p7]], .row 1 true false w2]⟩) (fun v => N (forest_Forest_of_l3_enc p0 p1 p2 p3 p4 p5 p6 p7 v)) v
 | (.inl v) => by kernel_rfl
 | (.inr v) => by kernel_rfl
theorem forest_Forest_of_l3_dok (n : Nat) : LE.OK (forest_Forest_of_l3_d (forest_Forest_of_g n) n) (L tab) forest_Forest_of_c3 := LE.shp (fun _ _ _ => rfl) fun ρ K y a b e => LE.rounds (forest_Forest_of_Sok n) (LK.of (l := []) (by kernel_rfl) ((fun _ h => nomatch h))) (forest_Forest_of_l3_k (forest_Forest_of_g n) n _ _ _ _ _ _ _ _ K) (by kernel_rfl) (by kernel_rfl) e
theorem forest_Forest_of_d3_ok (n : Nat) : LE.OK (forest_Forest_of_d3 (forest_Forest_of_g n) n) (L tab) forest_Forest_of_c3 := forest_Forest_of_l3_dok n
theorem forest_Forest_of_k (G : forest_Forest_of_G) {ρ : Type} (n : Nat) (a0 a1 : Bool) (a2 : Rows) (a3 : Int) (K : Res → Option ρ) : runC (forest_Forest_of_S G) forest_Forest_of_hs (forest_Forest_of_lp G n) m95 [.agg [.lst a0 a1 1 a2], .i .i64 a3] K = forest_Forest_of_s G n a0 a1 a2 a3 (K ⟨.lst true true 0 [], [], []⟩) (fun w0 w1 w2 => K ⟨.sl 0 w0 1 0 w1, [.row 1 true false w2], []⟩) := by kernel_rfl
theorem forest_Forest_of_ok (n : Nat) : EK.OK (forest_Forest_of_e n) 95 (L tab) := EK.shp (fun _ _ _ => rfl) fun ρ K y c e => EK.run (forest_Forest_of_Sok n) (by kernel_rfl) (MF.LKOK.of (LK.of (l := [forest_Forest_of_c3]) (by kernel_rfl) (List.forall_mem_cons.2 ⟨LE.at (e := forest_Forest_of_d3 (forest_Forest_of_g n) n) (by kernel_rfl) (forest_Forest_of_d3_ok n), (fun _ h => nomatch h)⟩))) (forest_Forest_of_k (forest_Forest_of_g n) n _ _ _ _ K) (by kernel_rfl) e
abbrev Q09_T : Type 1 := (ρ : Type) → Bool → Bool → Rows → Int → (Option ρ) → (Nat → Nat → Rows → Option ρ) → Option ρ
def Q09_E (G : Q09_T) : EK := fun ρ args K => decL [.agg [.lst none none 1 none], .i .i64 none] args fun c => G ρ c.1.1.1 c.1.1.2.1 c.1.1.2.2 c.2.1 (K ⟨.lst true true 0 [], [], []⟩) (fun w0 w1 w2 => K ⟨.sl 0 w0 1 0 w1, [.row 1 true false w2], []⟩)
structure Q09_G where
 mk ::
 Q06 : Q06_T
 forest_Forest_of : forest_Forest_of_T
def Q09_s (G : Q09_G) {ρ : Type} (_n : Nat) (a0 a1 : Bool) (a2 : Rows) (a3 : Int) (k0 : (Option ρ)) (k1 : (Nat → Nat → Rows → Option ρ)) : Option ρ :=
 G.Q06 ρ a0 a1 a2 a3 (fun w0_0 =>
 bif w0_0 then
 G.forest_Forest_of ρ a0 a1 a2 a3 (k0) (fun w2_0 w2_1 w2_2 =>
 k1 w2_0 w2_1 w2_2)
 else k0)
def Q09_g (n : Nat) : Q09_G := ⟨Q06 n, forest_Forest_of n⟩
def Q09 (n : Nat) : Q09_T := fun _ρ a0 a1 a2 a3 k0 k1 => Q09_s (Q09_g n) n a0 a1 a2 a3 k0 k1
def Q09_e (n : Nat) : EK := Q09_E (Q09 n)
def Q09_S (G : Q09_G) : CK := tabS [(94, Q06_E G.Q06), (95, forest_Forest_of_E G.forest_Forest_of)]
theorem Q09_Sok (n : Nat) : CK.OK (Q09_S (Q09_g n)) (L tab) := tabS_ok _ (List.forall_mem_cons.2 ⟨(Q06_ok n), List.forall_mem_cons.2 ⟨(forest_Forest_of_ok n), (fun _ h => nomatch h)⟩⟩)
def Q09_hs : HintC := hintL []
def Q09_lp (_G : Q09_G) (_n : Nat) : LK := tabL []
theorem Q09_k (G : Q09_G) {ρ : Type} (n : Nat) (a0 a1 : Bool) (a2 : Rows) (a3 : Int) (K : Res → Option ρ) : runC (Q09_S G) Q09_hs (Q09_lp G n) m75 [.agg [.lst a0 a1 1 a2], .i .i64 a3] K = Q09_s G n a0 a1 a2 a3 (K ⟨.lst true true 0 [], [], []⟩) (fun w0 w1 w2 => K ⟨.sl 0 w0 1 0 w1, [.row 1 true false w2], []⟩) := by kernel_rfl
theorem Q09_ok (n : Nat) : EK.OK (Q09_e n) 75 (L tab) := EK.shp (fun _ _ _ => rfl) fun ρ K y c e => EK.run (Q09_Sok n) (by kernel_rfl) (MF.LKOK.of (LK.of (l := []) (by kernel_rfl) ((fun _ h => nomatch h)))) (Q09_k (Q09_g n) n _ _ _ _ K) (by kernel_rfl) e
abbrev Qt_T : Type 1 := (ρ : Type) → Int → Int → Int → Bool → Bool → Rows → Bool → Bool → Rows → Int → (Int → Option ρ) → Option ρ
def Qt_E (G : Qt_T) : EK := fun ρ args K => decL [.agg [.i .i64 none, .i .i64 none, .i .i64 none, .lst none none 5 none, .lst none none 13 none], .i .i64 none] args fun c => G ρ c.1.1 c.1.2.1 c.1.2.2.1 c.1.2.2.2.1.1 c.1.2.2.2.1.2.1 c.1.2.2.2.1.2.2 c.1.2.2.2.2.1.1 c.1.2.2.2.2.1.2.1 c.1.2.2.2.2.1.2.2 c.2.1 (fun w0 => K ⟨.i .i64 w0, [], []⟩)
structure Qt_G where
 mk ::
 Qj : Qj_T
 Q6 : Q6_T
 Q09 : Q09_T
def Qt_s (G : Qt_G) {ρ : Type} (_n : Nat) (a0 a1 a2 : Int) (a3 a4 : Bool) (a5 : Rows) (a6 a7 : Bool) (a8 : Rows) (a9 : Int) (k0 : (Int → Option ρ)) : Option ρ :=
 G.Qj ρ a0 a1 a2 a3 a4 a5 a6 a7 a8 (fun w0_0 =>
 bif w0_0 then
 bif decide ((a9 : Int) < 0) then
 k0 0
 else bif decide ((a9 : Int) ≥ (((List.length (a5 : Rows)) : Nat) : Int)) then
 k0 0
 else rowT [.i .i64, .i .i64, .i .i64, .i .i64, .i .i64] a5 a9 fun c1 =>
 bif ((c1.1 : Int) != 1) then
 k0 0
 else G.Q6 ρ a0 a1 a2 a3 a4 a5 a6 a7 a8 (fun w2_0 w2_1 w2_2 =>
 G.Q09 ρ w2_0 w2_1 w2_2 a9 (k0 0) (fun _w4_0 w4_1 _w4_2 =>
 bif ((((w4_1 : Nat) : Int) : Int) == 0) then
 k0 0
 else rowT [.i .i64, .i .i64, .i .i64, .i .i64, .i .i64] a5 a9 fun c5 =>
 rowT [.i .i64, .i .i64, .i .i64, .i .i64, .i .i64, .i .i64, .i .i64, .b, .i .u64, .i .u64, .i .u64, .i .u64, .i .u64] a8 c5.2.1 fun c6 =>
 k0 c6.2.2.2.2.1))
 else k0 0)
def Qt_g (n : Nat) : Qt_G := ⟨Qj n, Q6 n, Q09 n⟩
def Qt (n : Nat) : Qt_T := fun _ρ a0 a1 a2 a3 a4 a5 a6 a7 a8 a9 k0 => Qt_s (Qt_g n) n a0 a1 a2 a3 a4 a5 a6 a7 a8 a9 k0
def Qt_e (n : Nat) : EK := Qt_E (Qt n)
def Qt_S (G : Qt_G) : CK := tabS [(9, Qj_E G.Qj), (14, Q6_E G.Q6), (75, Q09_E G.Q09)]
theorem Qt_Sok (n : Nat) : CK.OK (Qt_S (Qt_g n)) (L tab) := tabS_ok _ (List.forall_mem_cons.2 ⟨(Qj_ok n), List.forall_mem_cons.2 ⟨(Q6_ok n), List.forall_mem_cons.2 ⟨(Q09_ok n), (fun _ h => nomatch h)⟩⟩⟩)
def Qt_hs : HintC := hintL [(23, [.i .i64, .i .i64, .i .i64, .i .i64, .i .i64]), (40, [.i .i64, .i .i64, .i .i64, .i .i64, .i .i64]), (44, [.i .i64, .i .i64, .i .i64, .i .i64, .i .i64, .i .i64, .i .i64, .b, .i .u64, .i .u64, .i .u64, .i .u64, .i .u64])]
def Qt_lp (_G : Qt_G) (_n : Nat) : LK := tabL []
theorem Qt_k (G : Qt_G) {ρ : Type} (n : Nat) (a0 a1 a2 : Int) (a3 a4 : Bool) (a5 : Rows) (a6 a7 : Bool) (a8 : Rows) (a9 : Int) (K : Res → Option ρ) : runC (Qt_S G) Qt_hs (Qt_lp G n) m52 [.agg [.i .i64 a0, .i .i64 a1, .i .i64 a2, .lst a3 a4 5 a5, .lst a6 a7 13 a8], .i .i64 a9] K = Qt_s G n a0 a1 a2 a3 a4 a5 a6 a7 a8 a9 (fun w0 => K ⟨.i .i64 w0, [], []⟩) := by kernel_rfl
theorem Qt_ok (n : Nat) : EK.OK (Qt_e n) 52 (L tab) := EK.shp (fun _ _ _ => rfl) fun ρ K y c e => EK.run (Qt_Sok n) (by kernel_rfl) (MF.LKOK.of (LK.of (l := []) (by kernel_rfl) ((fun _ h => nomatch h)))) (Qt_k (Qt_g n) n _ _ _ _ _ _ _ _ _ _ K) (by kernel_rfl) e
abbrev Qb_1_T : Type 1 := (ρ : Type) → Int → Int → Int → Int → Int → Int → Int → Bool → Int → Int → Int → Int → Int → (Bool → Option ρ) → Option ρ
def Qb_1_E (G : Qb_1_T) : EK := fun ρ args K => decL [.agg [.i .i64 none, .i .i64 none, .i .i64 none, .i .i64 none, .i .i64 none, .i .i64 none, .i .i64 none, .b none, .i .u64 none, .i .u64 none, .i .u64 none, .i .u64 none, .i .u64 none]] args fun c => G ρ c.1.1 c.1.2.1 c.1.2.2.1 c.1.2.2.2.1 c.1.2.2.2.2.1 c.1.2.2.2.2.2.1 c.1.2.2.2.2.2.2.1 c.1.2.2.2.2.2.2.2.1 c.1.2.2.2.2.2.2.2.2.1 c.1.2.2.2.2.2.2.2.2.2.1 c.1.2.2.2.2.2.2.2.2.2.2.1 c.1.2.2.2.2.2.2.2.2.2.2.2.1 c.1.2.2.2.2.2.2.2.2.2.2.2.2.1 (fun w0 => K ⟨.b w0, [], []⟩)
structure Qb_1_G where
 mk ::
def Qb_1_s (_G : Qb_1_G) {ρ : Type} (_n : Nat) (a0 _a1 : Int) (_a2 _a3 : Int) (_a4 _a5 _a6 : Int) (_a7 : Bool) (_a8 _a9 : Int) (_a10 _a11 _a12 : Int) (k0 : (Bool → Option ρ)) : Option ρ :=
 bif ((a0 : Int) == 0) then
 k0 true
 else k0 false
def Qb_1_g (_n : Nat) : Qb_1_G := ⟨⟩
def Qb_1 (n : Nat) : Qb_1_T := fun _ρ a0 a1 a2 a3 a4 a5 a6 a7 a8 a9 a10 a11 a12 k0 => Qb_1_s (Qb_1_g n) n a0 a1 a2 a3 a4 a5 a6 a7 a8 a9 a10 a11 a12 k0
def Qb_1_e (n : Nat) : EK := Qb_1_E (Qb_1 n)
def Qb_1_S (_G : Qb_1_G) : CK := tabS []
theorem Qb_1_Sok (n : Nat) : CK.OK (Qb_1_S (Qb_1_g n)) (L tab) := tabS_ok _ ((fun _ h => nomatch h))
def Qb_1_hs : HintC := hintL []
def Qb_1_lp (_G : Qb_1_G) (_n : Nat) : LK := tabL []
theorem Qb_1_k (G : Qb_1_G) {ρ : Type} (n : Nat) (a0 a1 : Int) (a2 a3 : Int) (a4 a5 a6 : Int) (a7 : Bool) (a8 a9 : Int) (a10 a11 a12 : Int) (K : Res → Option ρ) : runC (Qb_1_S G) Qb_1_hs (Qb_1_lp G n) m37 [.agg [.i .i64 a0, .i .i64 a1, .i .i64 a2, .i .i64 a3, .i .i64 a4, .i .i64 a5, .i .i64 a6, .b a7, .i .u64 a8, .i .u64 a9, .i .u64 a10, .i .u64 a11, .i .u64 a12]] K = Qb_1_s G n a0 a1 a2 a3 a4 a5 a6 a7 a8 a9 a10 a11 a12 (fun w0 => K ⟨.b w0, [], []⟩) := by kernel_rfl
theorem Qb_1_ok (n : Nat) : EK.OK (Qb_1_e n) 37 (L tab) := EK.shp (fun _ _ _ => rfl) fun ρ K y c e => EK.run (Qb_1_Sok n) (by kernel_rfl) (MF.LKOK.of (LK.of (l := []) (by kernel_rfl) ((fun _ h => nomatch h)))) (Qb_1_k (Qb_1_g n) n _ _ _ _ _ _ _ _ _ _ _ _ _ K) (by kernel_rfl) e
abbrev Qe_T : Type 1 := (ρ : Type) → Bool → Bool → Rows → (Int → Option ρ) → Option ρ
def Qe_E (G : Qe_T) : EK := fun ρ args K => decL [.lst none none 13 none, .fn 37 []] args fun c => G ρ c.1.1 c.1.2.1 c.1.2.2 (fun w0 => K ⟨.i .i64 w0, [], []⟩)
structure Qe_G where
 mk ::
 Qb_1 : Qb_1_T
abbrev Qe_l2_V : Type := Int
def Qe_l2_s (G : Qe_G) {ρ : Type} (_n : Nat) (_p0 _p1 : Bool) (p2 : Rows) (p3 : Int) (k0 : (Int → Option ρ)) (k1 : (Option ρ)) (rec' : Qe_l2_V → Option ρ) : Qe_l2_V → Option ρ
 | v =>
 bif decide ((v : Int) < p3) then
 rowT [.i .i64, .i .i64, .i .i64, .i .i64, .i .i64, .i .i64, .i .i64, .b, .i .u64, .i .u64, .i .u64, .i .u64, .i .u64] p2 v fun c0 =>
 G.Qb_1 ρ c0.1 c0.2.1 c0.2.2.1 c0.2.2.2.1 c0.2.2.2.2.1 c0.2.2.2.2.2.1 c0.2.2.2.2.2.2.1 c0.2.2.2.2.2.2.2.1 c0.2.2.2.2.2.2.2.2.1 c0.2.2.2.2.2.2.2.2.2.1 c0.2.2.2.2.2.2.2.2.2.2.1 c0.2.2.2.2.2.2.2.2.2.2.2.1 c0.2.2.2.2.2.2.2.2.2.2.2.2.1 (fun w1_0 =>
 bif w1_0 then
 k0 v
 else rec' ((IntKind.wrap .i64 (v + 1))))
 else k1
def Qe_l2 (G : Qe_G) {ρ : Type} (n : Nat) (p0 p1 : Bool) (p2 : Rows) (p3 : Int) (k0 : (Int → Option ρ)) (k1 : (Option ρ)) (v : Qe_l2_V) : Option ρ := fuelN (Qe_l2_s G n p0 p1 p2 p3 k0 k1) n v
def Qe_l2_enc (p0 p1 : Bool) (p2 : Rows) (p3 : Int) : Qe_l2_V → St
 | v => ⟨[(0, .lst p0 p1 13 p2), (1, .fn 37 []), (7, .i .i64 p3), (8, .i .i64 v)], []⟩
def Qe_s (G : Qe_G) {ρ : Type} (n : Nat) (a0 a1 : Bool) (a2 : Rows) (k0 : (Int → Option ρ)) : Option ρ :=
 Qe_l2 G n a0 a1 a2 (((List.length (a2 : Rows)) : Nat) : Int) (fun w0_0 =>
 k0 w0_0) (k0 (-1)) (0)
def Qe_g (n : Nat) : Qe_G := ⟨Qb_1 n⟩
def Qe (n : Nat) : Qe_T := fun _ρ a0 a1 a2 k0 => Qe_s (Qe_g n) n a0 a1 a2 k0
def Qe_e (n : Nat) : EK := Qe_E (Qe n)
def Qe_S (G : Qe_G) : CK := tabS [(37, Qb_1_E G.Qb_1)]
theorem Qe_Sok (n : Nat) : CK.OK (Qe_S (Qe_g n)) (L tab) := tabS_ok _ (List.forall_mem_cons.2 ⟨(Qb_1_ok n), (fun _ h => nomatch h)⟩)
def Qe_hs : HintC := hintL [(14, [.i .i64, .i .i64, .i .i64, .i .i64, .i .i64, .i .i64, .i .i64, .b, .i .u64, .i .u64, .i .u64, .i .u64, .i .u64])]
def Qe_c2 : Nat × List Nat × List Nat × MC := loopAt 2 m36
def Qe_l2_d (G : Qe_G) (n : Nat) : Go.Rv.LE := fun _ρ h K => decSt [(0, .lst none none 13 none), (1, .fn 37 []), (7, .i .i64 none), (8, .i .i64 none)] [] h fun a _b => Qe_l2 G n a.1.1 a.1.2.1 a.1.2.2 a.2.2.1 (fun w0 => K .ret ⟨[(4, .i .i64 w0)], []⟩) (K (.exit 0) ⟨[(4, .u)], []⟩) (a.2.2.2.1)
def Qe_d2 (G : Qe_G) (n : Nat) : Go.Rv.LE := Qe_l2_d G n
def Qe_lp (G : Qe_G) (n : Nat) : LK := tabL [(2, Qe_d2 G n)]
theorem Qe_l2_k (G : Qe_G) {ρ : Type} (n : Nat) (p0 p1 : Bool) (p2 : Rows) (p3 : Int) (K : Ex → St → Option ρ) (N : St → Option ρ) : ∀ v, roundC (Qe_S G) Qe_hs (Qe_lp G n) Qe_c2 0 N K (Qe_l2_enc p0 p1 p2 p3 v) = Qe_l2_s G n p0 p1 p2 p3 (fun w0 => K .ret ⟨[(4, .i .i64 w0)], []⟩) (K (.exit 0) ⟨[(4, .u)], []⟩) (fun v => N (Qe_l2_enc p0 p1 p2 p3 v)) v
 | v => by kernel_rfl
theorem Qe_l2_dok (n : Nat) : LE.OK (Qe_l2_d (Qe_g n) n) (L tab) Qe_c2 := LE.shp (fun _ _ _ => rfl) fun ρ K y a b e => LE.rounds (Qe_Sok n) (LK.of (l := []) (by kernel_rfl) ((fun _ h => nomatch h))) (Qe_l2_k (Qe_g n) n _ _ _ _ K) (by kernel_rfl) (by kernel_rfl) e
theorem Qe_d2_ok (n : Nat) : LE.OK (Qe_d2 (Qe_g n) n) (L tab) Qe_c2 := Qe_l2_dok n
theorem Qe_k (G : Qe_G) {ρ : Type} (n : Nat) (a0 a1 : Bool) (a2 : Rows) (K : Res → Option ρ) : runC (Qe_S G) Qe_hs (Qe_lp G n) m36 [.lst a0 a1 13 a2, .fn 37 []] K = Qe_s G n a0 a1 a2 (fun w0 => K ⟨.i .i64 w0, [], []⟩) := by kernel_rfl
theorem Qe_ok (n : Nat) : EK.OK (Qe_e n) 36 (L tab) := EK.shp (fun _ _ _ => rfl) fun ρ K y c e => EK.run (Qe_Sok n) (by kernel_rfl) (MF.LKOK.of (LK.of (l := [Qe_c2]) (by kernel_rfl) (List.forall_mem_cons.2 ⟨LE.at (e := Qe_d2 (Qe_g n) n) (by kernel_rfl) (Qe_d2_ok n), (fun _ h => nomatch h)⟩))) (Qe_k (Qe_g n) n _ _ _ K) (by kernel_rfl) e
abbrev Qb_T : Type 1 := (ρ : Type) → Int → Int → Int → Bool → Bool → Rows → Bool → Bool → Rows → (Int → Option ρ) → Option ρ
def Qb_E (G : Qb_T) : EK := fun ρ args K => decL [.agg [.i .i64 none, .i .i64 none, .i .i64 none, .lst none none 5 none, .lst none none 13 none]] args fun c => G ρ c.1.1 c.1.2.1 c.1.2.2.1 c.1.2.2.2.1.1 c.1.2.2.2.1.2.1 c.1.2.2.2.1.2.2 c.1.2.2.2.2.1.1 c.1.2.2.2.2.1.2.1 c.1.2.2.2.2.1.2.2 (fun w0 => K ⟨.i .i64 w0, [], []⟩)
structure Qb_G where
 mk ::
 Qj : Qj_T
 Qe : Qe_T
def Qb_s (G : Qb_G) {ρ : Type} (_n : Nat) (a0 a1 a2 : Int) (a3 a4 : Bool) (a5 : Rows) (a6 a7 : Bool) (a8 : Rows) (k0 : (Int → Option ρ)) : Option ρ :=
 G.Qj ρ a0 a1 a2 a3 a4 a5 a6 a7 a8 (fun w0_0 =>
 bif w0_0 then
 G.Qe ρ a6 a7 a8 (fun w1_0 =>
 k0 w1_0)
 else k0 (-1))
def Qb_g (n : Nat) : Qb_G := ⟨Qj n, Qe n⟩
def Qb (n : Nat) : Qb_T := fun _ρ a0 a1 a2 a3 a4 a5 a6 a7 a8 k0 => Qb_s (Qb_g n) n a0 a1 a2 a3 a4 a5 a6 a7 a8 k0
def Qb_e (n : Nat) : EK := Qb_E (Qb n)
def Qb_S (G : Qb_G) : CK := tabS [(9, Qj_E G.Qj), (36, Qe_E G.Qe)]
theorem Qb_Sok (n : Nat) : CK.OK (Qb_S (Qb_g n)) (L tab) := tabS_ok _ (List.forall_mem_cons.2 ⟨(Qj_ok n), List.forall_mem_cons.2 ⟨(Qe_ok n), (fun _ h => nomatch h)⟩⟩)
def Qb_hs : HintC := hintL []
def Qb_lp (_G : Qb_G) (_n : Nat) : LK := tabL []
theorem Qb_k (G : Qb_G) {ρ : Type} (n : Nat) (a0 a1 a2 : Int) (a3 a4 : Bool) (a5 : Rows) (a6 a7 : Bool) (a8 : Rows) (K : Res → Option ρ) : runC (Qb_S G) Qb_hs (Qb_lp G n) m15 [.agg [.i .i64 a0, .i .i64 a1, .i .i64 a2, .lst a3 a4 5 a5, .lst a6 a7 13 a8]] K = Qb_s G n a0 a1 a2 a3 a4 a5 a6 a7 a8 (fun w0 => K ⟨.i .i64 w0, [], []⟩) := by kernel_rfl
theorem Qb_ok (n : Nat) : EK.OK (Qb_e n) 15 (L tab) := EK.shp (fun _ _ _ => rfl) fun ρ K y c e => EK.run (Qb_Sok n) (by kernel_rfl) (MF.LKOK.of (LK.of (l := []) (by kernel_rfl) ((fun _ h => nomatch h)))) (Qb_k (Qb_g n) n _ _ _ _ _ _ _ _ _ K) (by kernel_rfl) e
end Go.Rv
namespace Go.Rv
abbrev Qc_T : Type 1 := (ρ : Type) → Int → Int → Int → Bool → Bool → Rows → Bool → Bool → Rows → Int → (Int → Bool → Option ρ) → Option ρ
def Qc_E (G : Qc_T) : EK := fun ρ args K => decL [.agg [.i .i64 none, .i .i64 none, .i .i64 none, .lst none none 5 none, .lst none none 13 none], .i .i64 none] args fun c => G ρ c.1.1 c.1.2.1 c.1.2.2.1 c.1.2.2.2.1.1 c.1.2.2.2.1.2.1 c.1.2.2.2.1.2.2 c.1.2.2.2.2.1.1 c.1.2.2.2.2.1.2.1 c.1.2.2.2.2.1.2.2 c.2.1 (fun w0 w1 => K ⟨.tup [.i .i64 w0, .b w1], [], []⟩)
structure Qc_G where
 mk ::
 Qj : Qj_T
 Qd : Qd_T
abbrev Qc_l5_V : Type := Int × Int
def Qc_l5_s (G : Qc_G) {ρ : Type} (_n : Nat) (p0 p1 : Int) (p2 p3 p4 : Int) (p5 p6 : Bool) (p7 : Rows) (p8 p9 : Bool) (p10 : Rows) (k0 : (Int → Option ρ)) (k1 : (Option ρ)) (rec' : Qc_l5_V → Option ρ) : Qc_l5_V → Option ρ
 | v =>
 bif decide ((v.2 : Int) < p1) then
 G.Qd ρ p2 p3 p4 p5 p6 p7 p8 p9 p10 v.2 (fun w0_0 =>
 bif ((w0_0 : Int) != (-1)) then
 chk (decide (0 ≤ (p0 : Int))) <|
 bif ((0 : Int) == (IntKind.wrap .i64 ((1 : Int) * 2 ^ (min p0.toNat (IntKind.bits .i64))))) then
 k0 (IntKind.wrap .i64 ((IntKind.wrap .i64 (v.2 + 1)) - 0))
 else rec' (0, (IntKind.wrap .i64 (v.2 + 1)))
 else chk (decide (0 ≤ (p0 : Int))) <|
 bif (((IntKind.wrap .i64 (v.1 + 1)) : Int) == (IntKind.wrap .i64 ((1 : Int) * 2 ^ (min p0.toNat (IntKind.bits .i64))))) then
 k0 (IntKind.wrap .i64 ((IntKind.wrap .i64 (v.2 + 1)) - (IntKind.wrap .i64 (v.1 + 1))))
 else rec' ((IntKind.wrap .i64 (v.1 + 1)), (IntKind.wrap .i64 (v.2 + 1))))
 else k1
def Qc_l5 (G : Qc_G) {ρ : Type} (n : Nat) (p0 p1 : Int) (p2 p3 p4 : Int) (p5 p6 : Bool) (p7 : Rows) (p8 p9 : Bool) (p10 : Rows) (k0 : (Int → Option ρ)) (k1 : (Option ρ)) (v : Qc_l5_V) : Option ρ := fuelN (Qc_l5_s G n p0 p1 p2 p3 p4 p5 p6 p7 p8 p9 p10 k0 k1) n v
def Qc_l5_enc (p0 p1 : Int) (p2 p3 p4 : Int) (p5 p6 : Bool) (p7 : Rows) (p8 p9 : Bool) (p10 : Rows) : Qc_l5_V → St
 | v => ⟨[(1, .i .i64 p0), (2, .ptr 0 1 5 0 0), (6, .i .i64 v.1), (21, .i .i64 p1), (22, .i .i64 v.2)], [.row 5 true false [[.i .i64 p2, .i .i64 p3, .i .i64 p4, .lst p5 p6 5 p7, .lst p8 p9 13 p10]]]⟩
def Qc_s (G : Qc_G) {ρ : Type} (n : Nat) (a0 a1 a2 : Int) (a3 a4 : Bool) (a5 : Rows) (a6 a7 : Bool) (a8 : Rows) (a9 : Int) (k0 : (Int → Bool → Option ρ)) : Option ρ :=
 G.Qj ρ a0 a1 a2 a3 a4 a5 a6 a7 a8 (fun w0_0 =>
 bif w0_0 then
 bif decide ((a9 : Int) < 1) then
 k0 0 false
 else bif decide ((a9 : Int) > 4) then
 k0 0 false
 else Qc_l5 G n a9 (((List.length (a5 : Rows)) : Nat) : Int) a0 a1 a2 a3 a4 a5 a6 a7 a8 (fun w1_0 =>
 k0 w1_0 true) (k0 0 false) (0, 0)
 else k0 0 false)
def Qc_g (n : Nat) : Qc_G := ⟨Qj n, Qd n⟩
def Qc (n : Nat) : Qc_T := fun _ρ a0 a1 a2 a3 a4 a5 a6 a7 a8 a9 k0 => Qc_s (Qc_g n) n a0 a1 a2 a3 a4 a5 a6 a7 a8 a9 k0
def Qc_e (n : Nat) : EK := Qc_E (Qc n)
def Qc_S (G : Qc_G) : CK := tabS [(9, Qj_E G.Qj), (68, Qd_E G.Qd)]
theorem Qc_Sok (n : Nat) : CK.OK (Qc_S (Qc_g n)) (L tab) := tabS_ok _ (List.forall_mem_cons.2 ⟨(Qj_ok n), List.forall_mem_cons.2 ⟨(Qd_ok n), (fun _ h => nomatch h)⟩⟩)
def Qc_hs : HintC := hintL []
def Qc_c5 : Nat × List Nat × List Nat × MC := loopAt 5 m53
def Qc_l5_d (G : Qc_G) (n : Nat) : Go.Rv.LE := fun _ρ h K => decSt [(1, .i .i64 none), (2, .ptr 0 5 0 (some 1) (some 0)), (6, .i .i64 none), (21, .i .i64 none), (22, .i .i64 none)] [.row 5 true false (some [[.i .i64 none, .i .i64 none, .i .i64 none, .lst none none 5 none, .lst none none 13 none]])] h fun a b => Qc_l5 G n a.1 a.2.2.2.1 b.1.1.1 b.1.1.2.1 b.1.1.2.2.1 b.1.1.2.2.2.1.1 b.1.1.2.2.2.1.2.1 b.1.1.2.2.2.1.2.2 b.1.1.2.2.2.2.1.1 b.1.1.2.2.2.2.1.2.1 b.1.1.2.2.2.2.1.2.2 (fun w0 => K .ret ⟨[(4, .i .i64 w0), (5, .b true)], [.row 5 true false [[.i .i64 b.1.1.1, .i .i64 b.1.1.2.1, .i .i64 b.1.1.2.2.1, .lst b.1.1.2.2.2.1.1 b.1.1.2.2.2.1.2.1 5 b.1.1.2.2.2.1.2.2, .lst b.1.1.2.2.2.2.1.1 b.1.1.2.2.2.2.1.2.1 13 b.1.1.2.2.2.2.1.2.2]]]⟩) (K (.exit 0) ⟨[(4, .u), (5, .u)], [.row 5 true false [[.i .i64 b.1.1.1, .i .i64 b.1.1.2.1, .i .i64 b.1.1.2.2.1, .lst b.1.1.2.2.2.1.1 b.1.1.2.2.2.1.2.1 5 b.1.1.2.2.2.1.2.2, .lst b.1.1.2.2.2.2.1.1 b.1.1.2.2.2.2.1.2.1 13 b.1.1.2.2.2.2.1.2.2]]]⟩) (a.2.2.1, a.2.2.2.2.1)
def Qc_d5 (G : Qc_G) (n : Nat) : Go.Rv.LE := Qc_l5_d G n
def Qc_lp (G : Qc_G) (n : Nat) : LK := tabL [(5, Qc_d5 G n)]
theorem Qc_l5_k (G : Qc_G) {ρ : Type} (n : Nat) (p0 p1 : Int) (p2 p3 p4 : Int) (p5 p6 : Bool) (p7 : Rows) (p8 p9 : Bool) (p10 : Rows) (K : Ex → St → Option ρ) (N : St → Option ρ) : ∀ v, roundC (Qc_S G) Qc_hs (Qc_lp G n) Qc_c5 1 N K (Qc_l5_enc p0 p1 p2 p3 p4 p5 p6 p7 p8 p9 p10 v) = Qc_l5_s G n p0 p1 p2 p3 p4 p5 p6 p7 p8 p9 p10 (fun w0 => K .ret ⟨[(4, .i .i64 w0), (5, .b true)], [.row 5 true false [[.i .i64 p2, .i .i64 p3, .i .i64 p4, .lst p5 p6 5 p7, .lst p8 p9 13 p10]]]⟩) (K (.exit 0) ⟨[(4, .u), (5, .u)], [.row 5 true false [[.i .i64 p2, .i .i64 p3, .i .i64 p4, .lst p5 p6 5 p7, .lst p8 p9 13 p10]]]⟩) (fun v => N (Qc_l5_enc p0 p1 p2 p3 p4 p5 p6 p7 p8 p9 p10 v)) v
 | v => by kernel_rfl
theorem Qc_l5_dok (n : Nat) : LE.OK (Qc_l5_d (Qc_g n) n) (L tab) Qc_c5 := LE.shp (fun _ _ _ => rfl) fun ρ K y a b e => LE.rounds (Qc_Sok n) (LK.of (l := []) (by kernel_rfl) ((fun _ h => nomatch h))) (Qc_l5_k (Qc_g n) n _ _ _ _ _ _ _ _ _ _ _ K) (by kernel_rfl) (by kernel_rfl) e
theorem Qc_d5_ok (n : Nat) : LE.OK (Qc_d5 (Qc_g n) n) (L tab) Qc_c5 := Qc_l5_dok n
theorem Qc_k (G : Qc_G) {ρ : Type} (n : Nat) (a0 a1 a2 : Int) (a3 a4 : Bool) (a5 : Rows) (a6 a7 : Bool) (a8 : Rows) (a9 : Int) (K : Res → Option ρ) : runC (Qc_S G) Qc_hs (Qc_lp G n) m53 [.agg [.i .i64 a0, .i .i64 a1, .i .i64 a2, .lst a3 a4 5 a5, .lst a6 a7 13 a8], .i .i64 a9] K = Qc_s G n a0 a1 a2 a3 a4 a5 a6 a7 a8 a9 (fun w0 w1 => K ⟨.tup [.i .i64 w0, .b w1], [], []⟩) := by kernel_rfl
theorem Qc_ok (n : Nat) : EK.OK (Qc_e n) 53 (L tab) := EK.shp (fun _ _ _ => rfl) fun ρ K y c e => EK.run (Qc_Sok n) (by kernel_rfl) (MF.LKOK.of (LK.of (l := [Qc_c5]) (by kernel_rfl) (List.forall_mem_cons.2 ⟨LE.at (e := Qc_d5 (Qc_g n) n) (by kernel_rfl) (Qc_d5_ok n), (fun _ h => nomatch h)⟩))) (Qc_k (Qc_g n) n _ _ _ _ _ _ _ _ _ _ K) (by kernel_rfl) e
abbrev slices_Clone_Slot_T : Type 1 := (ρ : Type) → Bool → Bool → Rows → (Option ρ) → (Nat → Nat → Rows → Option ρ) → Option ρ
def slices_Clone_Slot_E (G : slices_Clone_Slot_T) : EK := fun ρ args K => decL [.lst none none 5 none] args fun c => G ρ c.1.1 c.1.2.1 c.1.2.2 (K ⟨.lst true true 0 [], [], []⟩) (fun w0 w1 w2 => K ⟨.sl 0 w0 5 0 w1, [.row 5 true false w2], []⟩)
structure slices_Clone_Slot_G where
 mk ::
def slices_Clone_Slot_s (_G : slices_Clone_Slot_G) {ρ : Type} (_n : Nat) (a0 _a1 : Bool) (a2 : Rows) (k0 : (Option ρ)) (k1 : (Nat → Nat → Rows → Option ρ)) : Option ρ :=
 bif a0 then
 k0
 else chk (List.all (a2 : Rows) fun e => e.length == 5) <|
 chk (decide ((0 + (List.length (a2 : Rows))) ≤ most)) <|
 chk (List.all (a2 : Rows) fun e => !ownL e) <|
 k1 (0 + (List.length (a2 : Rows))) (0 + (List.length (a2 : Rows))) ([] ++ a2)
def slices_Clone_Slot_g (_n : Nat) : slices_Clone_Slot_G := ⟨⟩
def slices_Clone_Slot (n : Nat) : slices_Clone_Slot_T := fun _ρ a0 a1 a2 k0 k1 => slices_Clone_Slot_s (slices_Clone_Slot_g n) n a0 a1 a2 k0 k1
def slices_Clone_Slot_e (n : Nat) : EK := slices_Clone_Slot_E (slices_Clone_Slot n)
def slices_Clone_Slot_S (_G : slices_Clone_Slot_G) : CK := tabS []
theorem slices_Clone_Slot_Sok (n : Nat) : CK.OK (slices_Clone_Slot_S (slices_Clone_Slot_g n)) (L tab) := tabS_ok _ ((fun _ h => nomatch h))
def slices_Clone_Slot_hs : HintC := hintL []
def slices_Clone_Slot_lp (_G : slices_Clone_Slot_G) (_n : Nat) : LK := tabL []
theorem slices_Clone_Slot_k (G : slices_Clone_Slot_G) {ρ : Type} (n : Nat) (a0 a1 : Bool) (a2 : Rows) (K : Res → Option ρ) : runC (slices_Clone_Slot_S G) slices_Clone_Slot_hs (slices_Clone_Slot_lp G n) m76 [.lst a0 a1 5 a2] K = slices_Clone_Slot_s G n a0 a1 a2 (K ⟨.lst true true 0 [], [], []⟩) (fun w0 w1 w2 => K ⟨.sl 0 w0 5 0 w1, [.row 5 true false w2], []⟩) := by kernel_rfl
theorem slices_Clone_Slot_ok (n : Nat) : EK.OK (slices_Clone_Slot_e n) 76 (L tab) := EK.shp (fun _ _ _ => rfl) fun ρ K y c e => EK.run (slices_Clone_Slot_Sok n) (by kernel_rfl) (MF.LKOK.of (LK.of (l := []) (by kernel_rfl) ((fun _ h => nomatch h)))) (slices_Clone_Slot_k (slices_Clone_Slot_g n) n _ _ _ K) (by kernel_rfl) e
abbrev slices_Clone_Thing_T : Type 1 := (ρ : Type) → Bool → Bool → Rows → (Option ρ) → (Nat → Nat → Rows → Option ρ) → Option ρ
def slices_Clone_Thing_E (G : slices_Clone_Thing_T) : EK := fun ρ args K => decL [.lst none none 13 none] args fun c => G ρ c.1.1 c.1.2.1 c.1.2.2 (K ⟨.lst true true 0 [], [], []⟩) (fun w0 w1 w2 => K ⟨.sl 0 w0 13 0 w1, [.row 13 true false w2], []⟩)
structure slices_Clone_Thing_G where
 mk ::
def slices_Clone_Thing_s (_G : slices_Clone_Thing_G) {ρ : Type} (_n : Nat) (a0 _a1 : Bool) (a2 : Rows) (k0 : (Option ρ)) (k1 : (Nat → Nat → Rows → Option ρ)) : Option ρ :=
 bif a0 then
 k0
 else chk (List.all (a2 : Rows) fun e => e.length == 13) <|
 chk (decide ((0 + (List.length (a2 : Rows))) ≤ most)) <|
 chk (List.all (a2 : Rows) fun e => !ownL e) <|
 k1 (0 + (List.length (a2 : Rows))) (0 + (List.length (a2 : Rows))) ([] ++ a2)
def slices_Clone_Thing_g (_n : Nat) : slices_Clone_Thing_G := ⟨⟩
def slices_Clone_Thing (n : Nat) : slices_Clone_Thing_T := fun _ρ a0 a1 a2 k0 k1 => slices_Clone_Thing_s (slices_Clone_Thing_g n) n a0 a1 a2 k0 k1
def slices_Clone_Thing_e (n : Nat) : EK := slices_Clone_Thing_E (slices_Clone_Thing n)
def slices_Clone_Thing_S (_G : slices_Clone_Thing_G) : CK := tabS []
theorem slices_Clone_Thing_Sok (n : Nat) : CK.OK (slices_Clone_Thing_S (slices_Clone_Thing_g n)) (L tab) := tabS_ok _ ((fun _ h => nomatch h))
def slices_Clone_Thing_hs : HintC := hintL []
def slices_Clone_Thing_lp (_G : slices_Clone_Thing_G) (_n : Nat) : LK := tabL []
theorem slices_Clone_Thing_k (G : slices_Clone_Thing_G) {ρ : Type} (n : Nat) (a0 a1 : Bool) (a2 : Rows) (K : Res → Option ρ) : runC (slices_Clone_Thing_S G) slices_Clone_Thing_hs (slices_Clone_Thing_lp G n) m77 [.lst a0 a1 13 a2] K = slices_Clone_Thing_s G n a0 a1 a2 (K ⟨.lst true true 0 [], [], []⟩) (fun w0 w1 w2 => K ⟨.sl 0 w0 13 0 w1, [.row 13 true false w2], []⟩) := by kernel_rfl
theorem slices_Clone_Thing_ok (n : Nat) : EK.OK (slices_Clone_Thing_e n) 77 (L tab) := EK.shp (fun _ _ _ => rfl) fun ρ K y c e => EK.run (slices_Clone_Thing_Sok n) (by kernel_rfl) (MF.LKOK.of (LK.of (l := []) (by kernel_rfl) ((fun _ h => nomatch h)))) (slices_Clone_Thing_k (slices_Clone_Thing_g n) n _ _ _ K) (by kernel_rfl) e
abbrev Qs_T : Type 1 := (ρ : Type) → Int → Int → Int → Bool → Bool → Rows → Bool → Bool → Rows → (Option ρ) → (Nat → Nat → Rows → Option ρ) → (Nat → Nat → Rows → Option ρ) → (Nat → Nat → Nat → Nat → Rows → Rows → Option ρ) → Option ρ
def Qs_E (G : Qs_T) : EK := fun ρ args K => decL [.agg [.i .i64 none, .i .i64 none, .i .i64 none, .lst none none 5 none, .lst none none 13 none]] args fun c => G ρ c.1.1 c.1.2.1 c.1.2.2.1 c.1.2.2.2.1.1 c.1.2.2.2.1.2.1 c.1.2.2.2.1.2.2 c.1.2.2.2.2.1.1 c.1.2.2.2.2.1.2.1 c.1.2.2.2.2.1.2.2 (K ⟨.agg [.i .i64 c.1.1, .i .i64 c.1.2.1, .i .i64 c.1.2.2.1, .lst true true 0 [], .lst true true 0 []], [], []⟩) (fun w0 w1 w2 => K ⟨.agg [.i .i64 c.1.1, .i .i64 c.1.2.1, .i .i64 c.1.2.2.1, .lst true true 0 [], .sl 0 w0 13 0 w1], [.row 13 true false w2], []⟩) (fun w0 w1 w2 => K ⟨.agg [.i .i64 c.1.1, .i .i64 c.1.2.1, .i .i64 c.1.2.2.1, .sl 0 w0 5 0 w1, .lst true true 0 []], [.row 5 true false w2], []⟩) (fun w0 w1 w2 w3 w4 w5 => K ⟨.agg [.i .i64 c.1.1, .i .i64 c.1.2.1, .i .i64 c.1.2.2.1, .sl 0 w0 5 0 w1, .sl 1 w2 13 0 w3], [.row 5 true false w4, .row 13 true false w5], []⟩)
structure Qs_G where
 mk ::
 slices_Clone_Slot : slices_Clone_Slot_T
 slices_Clone_Thing : slices_Clone_Thing_T
def Qs_s (G : Qs_G) {ρ : Type} (_n : Nat) (_a0 _a1 _a2 : Int) (a3 a4 : Bool) (a5 : Rows) (a6 a7 : Bool) (a8 : Rows) (k0 : (Option ρ)) (k1 : (Nat → Nat → Rows → Option ρ)) (k2 : (Nat → Nat → Rows → Option ρ)) (k3 : (Nat → Nat → Nat → Nat → Rows → Rows → Option ρ)) : Option ρ :=
 G.slices_Clone_Slot ρ a3 a4 a5 (G.slices_Clone_Thing ρ a6 a7 a8 (k0) (fun w2_0 w2_1 w2_2 =>
 k1 w2_0 w2_1 w2_2)) (fun w3_0 w3_1 w3_2 =>
 G.slices_Clone_Thing ρ a6 a7 a8 (k2 w3_0 w3_1 w3_2) (fun w5_0 w5_1 w5_2 =>
 k3 w3_0 w3_1 w5_0 w5_1 w3_2 w5_2))
def Qs_g (n : Nat) : Qs_G := ⟨slices_Clone_Slot n, slices_Clone_Thing n⟩
def Qs (n : Nat) : Qs_T := fun _ρ a0 a1 a2 a3 a4 a5 a6 a7 a8 k0 k1 k2 k3 => Qs_s (Qs_g n) n a0 a1 a2 a3 a4 a5 a6 a7 a8 k0 k1 k2 k3
def Qs_e (n : Nat) : EK := Qs_E (Qs n)
def Qs_S (G : Qs_G) : CK := tabS [(76, slices_Clone_Slot_E G.slices_Clone_Slot), (77, slices_Clone_Thing_E G.slices_Clone_Thing)]
theorem Qs_Sok (n : Nat) : CK.OK (Qs_S (Qs_g n)) (L tab) := tabS_ok _ (List.forall_mem_cons.2 ⟨(slices_Clone_Slot_ok n), List.forall_mem_cons.2 ⟨(slices_Clone_Thing_ok n), (fun _ h => nomatch h)⟩⟩)
def Qs_hs : HintC := hintL []
def Qs_lp (_G : Qs_G) (_n : Nat) : LK := tabL []
theorem Qs_k (G : Qs_G) {ρ : Type} (n : Nat) (a0 a1 a2 : Int) (a3 a4 : Bool) (a5 : Rows) (a6 a7 : Bool) (a8 : Rows) (K : Res → Option ρ) : runC (Qs_S G) Qs_hs (Qs_lp G n) m54 [.agg [.i .i64 a0, .i .i64 a1, .i .i64 a2, .lst a3 a4 5 a5, .lst a6 a7 13 a8]] K = Qs_s G n a0 a1 a2 a3 a4 a5 a6 a7 a8 (K ⟨.agg [.i .i64 a0, .i .i64 a1, .i .i64 a2, .lst true true 0 [], .lst true true 0 []], [], []⟩) (fun w0 w1 w2 => K ⟨.agg [.i .i64 a0, .i .i64 a1, .i .i64 a2, .lst true true 0 [], .sl 0 w0 13 0 w1], [.row 13 true false w2], []⟩) (fun w0 w1 w2 => K ⟨.agg [.i .i64 a0, .i .i64 a1, .i .i64 a2, .sl 0 w0 5 0 w1, .lst true true 0 []], [.row 5 true false w2], []⟩) (fun w0 w1 w2 w3 w4 w5 => K ⟨.agg [.i .i64 a0, .i .i64 a1, .i .i64 a2, .sl 0 w0 5 0 w1, .sl 1 w2 13 0 w3], [.row 5 true false w4, .row 13 true false w5], []⟩) := by kernel_rfl
theorem Qs_ok (n : Nat) : EK.OK (Qs_e n) 54 (L tab) := EK.shp (fun _ _ _ => rfl) fun ρ K y c e => EK.run (Qs_Sok n) (by kernel_rfl) (MF.LKOK.of (LK.of (l := []) (by kernel_rfl) ((fun _ h => nomatch h)))) (Qs_k (Qs_g n) n _ _ _ _ _ _ _ _ _ K) (by kernel_rfl) e
abbrev Qo_T : Type 1 := (ρ : Type) → Int → Int → Int → Bool → Bool → Rows → Bool → Bool → Rows → Int → Int → Bool → Bool → Rows → Bool → Bool → Rows → Int → Int → Int → (Int → Option ρ) → (Nat → Nat → Nat → Nat → Int → Rows → Rows → Option ρ) → Option ρ
def Qo_E (G : Qo_T) : EK := fun ρ args K => decL [.agg [.i .i64 none, .i .i64 none, .i .i64 none, .lst none none 5 none, .lst none none 13 none], .i .i64 none, .agg [.i .i64 none, .lst none none 1 none, .lst none none 1 none, .i .i64 none, .i .i64 none, .i .u64 none]] args fun c => G ρ c.1.1 c.1.2.1 c.1.2.2.1 c.1.2.2.2.1.1 c.1.2.2.2.1.2.1 c.1.2.2.2.1.2.2 c.1.2.2.2.2.1.1 c.1.2.2.2.2.1.2.1 c.1.2.2.2.2.1.2.2 c.2.1 c.2.2.1.1 c.2.2.1.2.1.1 c.2.2.1.2.1.2.1 c.2.2.1.2.1.2.2 c.2.2.1.2.2.1.1 c.2.2.1.2.2.1.2.1 c.2.2.1.2.2.1.2.2 c.2.2.1.2.2.2.1 c.2.2.1.2.2.2.2.1 c.2.2.1.2.2.2.2.2.1 (fun w0 => K ⟨.tup [.agg [.i .i64 c.1.1, .i .i64 c.1.2.1, .i .i64 c.1.2.2.1, .lst c.1.2.2.2.1.1 c.1.2.2.2.1.2.1 5 c.1.2.2.2.1.2.2, .lst c.1.2.2.2.2.1.1 c.1.2.2.2.2.1.2.1 13 c.1.2.2.2.2.1.2.2], .i .i64 0, .i .i64 w0], [], []⟩) (fun w0 w1 w2 w3 w4 w5 w6 => K ⟨.tup [.agg [.i .i64 c.1.1, .i .i64 c.1.2.1, .i .i64 c.1.2.2.1, .sl 0 w0 5 0 w1, .sl 1 w2 13 0 w3], .i .i64 w4, .i .i64 0], [.row 5 true false w5, .row 13 true false w6], []⟩)
structure Qo_G where
 mk ::
 Q01 : Q01_T
 Qu : Qu_T
 Ql : Ql_T
 Qv : Qv_T
 Qq : Qq_T
 Qt : Qt_T
 Qb : Qb_T
 Qc : Qc_T
 Qs : Qs_T
 Qm : Qm_T
def Qo_s (G : Qo_G) {ρ : Type} (_n : Nat) (a0 a1 a2 : Int) (a3 a4 : Bool) (a5 : Rows) (a6 a7 : Bool) (a8 : Rows) (a9 a10 : Int) (a11 a12 : Bool) (a13 : Rows) (a14 a15 : Bool) (a16 : Rows) (a17 a18 a19 : Int) (k0 : (Int → Option ρ)) (k1 : (Nat → Nat → Nat → Nat → Int → Rows → Rows → Option ρ)) : Option ρ :=
 G.Q01 ρ a10 a11 a12 a13 a14 a15 a16 a17 a18 a19 (fun w0_0 =>
 bif w0_0 then
 bif ((a10 : Int) != 1) then
 k0 1
 else G.Qu ρ a0 a1 a2 a3 a4 a5 a6 a7 a8 a9 a11 a12 a13 (fun w1_0 w1_1 w1_2 w1_3 _w1_4 w1_5 =>
 bif ((w1_5 : Int) != 0) then
 k0 w1_5
 else bif ((w1_1 : Int) != 1) then
 k0 7
 else G.Ql ρ 2 w1_3 (fun w2_0 =>
 bif w2_0 then
 G.Qv ρ a0 a1 a2 a3 a4 a5 a6 a7 a8 a9 a14 a15 a16 (fun w3_0 w3_1 =>
 bif ((w3_1 : Int) != 0) then
 k0 w3_1
 else G.Qq ρ a17 a18 (fun w4_0 w4_1 =>
 bif w4_1 then
 G.Qt ρ a0 a1 a2 a3 a4 a5 a6 a7 a8 w1_0 (fun w5_0 =>
 G.Qb ρ a0 a1 a2 a3 a4 a5 a6 a7 a8 (fun w6_0 =>
 bif ((a17 : Int) == 2) then
 G.Qc ρ a0 a1 a2 a3 a4 a5 a6 a7 a8 a18 (fun w7_0 w7_1 =>
 bif w7_1 then
 rowT [.i .i64, .i .i64, .i .i64, .i .i64, .i .i64, .i .i64, .i .i64, .b, .i .u64, .i .u64, .i .u64, .i .u64, .i .u64] a8 w1_2 fun c8 =>
 bif decide (((IntKind.wrap .i64 (w5_0 + w4_0)) : Int) > c8.2.2.2.1) then
 k0 8
 else bif decide ((w6_0 : Int) < 0) then
 k0 8
 else G.Qs ρ a0 a1 a2 a3 a4 a5 a6 a7 a8 (G.Qm ρ a17 a18 w7_0 (fun _w10_0 _w10_1 _w10_2 _w10_3 w10_4 =>
 bif w10_4 then
 none
 else none)) (fun w11_0 w11_1 w11_2 =>
 G.Qm ρ a17 a18 w7_0 (fun w12_0 w12_1 w12_2 w12_3 w12_4 =>
 bif w12_4 then
 chk (decide ((0 : Int) ≤ w6_0)) <|
 chk (decide ((w6_0 : Int) < ((w11_1 : Nat) : Int))) <|
 chk (((List.length (w11_2 : Rows)) : Nat) == w11_0) <|
 rowN [.a, .a, .a, .a, .a, .a, .a, .a, .a, .a, .a, .a, .a] w11_2 (0 + w6_0.toNat) fun _c13 =>
 chk (decide ((0 : Int) ≤ w1_2)) <|
 chk (decide ((w1_2 : Int) < ((w11_1 : Nat) : Int))) <|
 chk (((List.length ((List.set (w11_2 : Rows) (0 + w6_0.toNat) [.i .i64 w12_0, .i .i64 w12_1, .i .i64 w12_2, .i .i64 w12_3, .i .i64 0, .i .i64 0, .i .i64 0, .b false, .i .u64 0, .i .u64 0, .i .u64 0, .i .u64 0, .i .u64 0]) : Rows)) : Nat) == w11_0) <|
 rowN [.a, .a, .a, .a, .a, .a, .a, .a, .a, .a, .a, .a, .a] (List.set (w11_2 : Rows) (0 + w6_0.toNat) [.i .i64 w12_0, .i .i64 w12_1, .i .i64 w12_2, .i .i64 w12_3, .i .i64 0, .i .i64 0, .i .i64 0, .b false, .i .u64 0, .i .u64 0, .i .u64 0, .i .u64 0, .i .u64 0]) (0 + w1_2.toNat) fun _c14 =>
 none
 else chk (decide ((0 : Int) ≤ w6_0)) <|
 chk (decide ((w6_0 : Int) < ((w11_1 : Nat) : Int))) <|
 chk (((List.length (w11_2 : Rows)) : Nat) == w11_0) <|
 rowN [.a, .a, .a, .a, .a, .a, .a, .a, .a, .a, .a, .a, .a] w11_2 (0 + w6_0.toNat) fun _c15 =>
 chk (decide ((0 : Int) ≤ w1_2)) <|
 chk (decide ((w1_2 : Int) < ((w11_1 : Nat) : Int))) <|
 chk (((List.length ((List.set (w11_2 : Rows) (0 + w6_0.toNat) [.i .i64 w12_0, .i .i64 w12_1, .i .i64 w12_2, .i .i64 w12_3, .i .i64 0, .i .i64 0, .i .i64 0, .b false, .i .u64 0, .i .u64 0, .i .u64 0, .i .u64 0, .i .u64 0]) : Rows)) : Nat) == w11_0) <|
 rowN [.a, .a, .a, .a, .a, .a, .a, .a, .a, .a, .a, .a, .a] (List.set (w11_2 : Rows) (0 + w6_0.toNat) [.i .i64 w12_0, .i .i64 w12_1, .i .i64 w12_2, .i .i64 w12_3, .i .i64 0, .i .i64 0, .i .i64 0, .b false, .i .u64 0, .i .u64 0, .i .u64 0, .i .u64 0, .i .u64 0]) (0 + w1_2.toNat) fun _c16 =>
 none)) (fun _w17_0 _w17_1 _w17_2 =>
 G.Qm ρ a17 a18 w7_0 (fun _w18_0 _w18_1 _w18_2 _w18_3 w18_4 =>
 bif w18_4 then
 none
 else none)) (fun w19_0 w19_1 w19_2 w19_3 w19_4 w19_5 =>
 G.Qm ρ a17 a18 w7_0 (fun w20_0 w20_1 w20_2 w20_3 w20_4 =>
 bif w20_4 then
 chk (decide ((0 : Int) ≤ w6_0)) <|
 chk (decide ((w6_0 : Int) < ((w19_3 : Nat) : Int))) <|
 chk (((List.length (w19_5 : Rows)) : Nat) == w19_2) <|
 rowN [.a, .a, .a, .a, .a, .a, .a, .a, .a, .a, .a, .a, .a] w19_5 (0 + w6_0.toNat) fun _c21 =>
 chk (decide ((0 : Int) ≤ w1_2)) <|
 chk (decide ((w1_2 : Int) < ((w19_3 : Nat) : Int))) <|
 chk (((List.length ((List.set (w19_5 : Rows) (0 + w6_0.toNat) [.i .i64 w20_0, .i .i64 w20_1, .i .i64 w20_2, .i .i64 w20_3, .i .i64 0, .i .i64 0, .i .i64 0, .b false, .i .u64 0, .i .u64 0, .i .u64 0, .i .u64 0, .i .u64 0]) : Rows)) : Nat) == w19_2) <|
 rowN [.a, .a, .a, .a, .a, .a, .a, .a, .a, .a, .a, .a, .a] (List.set (w19_5 : Rows) (0 + w6_0.toNat) [.i .i64 w20_0, .i .i64 w20_1, .i .i64 w20_2, .i .i64 w20_3, .i .i64 0, .i .i64 0, .i .i64 0, .b false, .i .u64 0, .i .u64 0, .i .u64 0, .i .u64 0, .i .u64 0]) (0 + w1_2.toNat) fun c22 =>
 chk (decide ((0 : Int) ≤ w3_0)) <|
 chk (decide ((w3_0 : Int) < ((w19_1 : Nat) : Int))) <|
 chk (((List.length (w19_4 : Rows)) : Nat) == w19_0) <|
 rowN [.a, .a, .a, .a, .a] w19_4 (0 + w3_0.toNat) fun _c23 =>
 k1 w19_0 w19_1 w19_2 w19_3 w6_0 (List.set (w19_4 : Rows) (0 + w3_0.toNat) [.i .i64 a17, .i .i64 w6_0, .i .i64 7, .i .i64 0, .i .i64 w1_0]) (List.set ((List.set (w19_5 : Rows) (0 + w6_0.toNat) [.i .i64 w20_0, .i .i64 w20_1, .i .i64 w20_2, .i .i64 w20_3, .i .i64 0, .i .i64 0, .i .i64 0, .b false, .i .u64 0, .i .u64 0, .i .u64 0, .i .u64 0, .i .u64 0]) : Rows) (0 + w1_2.toNat) [c22.1, c22.2.1, c22.2.2.1, c22.2.2.2.1, .i .i64 (IntKind.wrap .i64 (w5_0 + w4_0)), c22.2.2.2.2.2.1, c22.2.2.2.2.2.2.1, c22.2.2.2.2.2.2.2.1, c22.2.2.2.2.2.2.2.2.1, c22.2.2.2.2.2.2.2.2.2.1, c22.2.2.2.2.2.2.2.2.2.2.1, c22.2.2.2.2.2.2.2.2.2.2.2.1, c22.2.2.2.2.2.2.2.2.2.2.2.2.1])
 else chk (decide ((0 : Int) ≤ w6_0)) <|
 chk (decide ((w6_0 : Int) < ((w19_3 : Nat) : Int))) <|
 chk (((List.length (w19_5 : Rows)) : Nat) == w19_2) <|
 rowN [.a, .a, .a, .a, .a, .a, .a, .a, .a, .a, .a, .a, .a] w19_5 (0 + w6_0.toNat) fun _c24 =>
 chk (decide ((0 : Int) ≤ w1_2)) <|
 chk (decide ((w1_2 : Int) < ((w19_3 : Nat) : Int))) <|
 chk (((List.length ((List.set (w19_5 : Rows) (0 + w6_0.toNat) [.i .i64 w20_0, .i .i64 w20_1, .i .i64 w20_2, .i .i64 w20_3, .i .i64 0, .i .i64 0, .i .i64 0, .b false, .i .u64 0, .i .u64 0, .i .u64 0, .i .u64 0, .i .u64 0]) : Rows)) : Nat) == w19_2) <|
 rowN [.a, .a, .a, .a, .a, .a, .a, .a, .a, .a, .a, .a, .a] (List.set (w19_5 : Rows) (0 + w6_0.toNat) [.i .i64 w20_0, .i .i64 w20_1, .i .i64 w20_2, .i .i64 w20_3, .i .i64 0, .i .i64 0, .i .i64 0, .b false, .i .u64 0, .i .u64 0, .i .u64 0, .i .u64 0, .i .u64 0]) (0 + w1_2.toNat) fun c25 =>
 chk (decide ((0 : Int) ≤ w3_0)) <|
 chk (decide ((w3_0 : Int) < ((w19_1 : Nat) : Int))) <|
 chk (((List.length (w19_4 : Rows)) : Nat) == w19_0) <|
 rowN [.a, .a, .a, .a, .a] w19_4 (0 + w3_0.toNat) fun _c26 =>
 k1 w19_0 w19_1 w19_2 w19_3 w6_0 (List.set (w19_4 : Rows) (0 + w3_0.toNat) [.i .i64 a17, .i .i64 w6_0, .i .i64 7, .i .i64 0, .i .i64 w1_0]) (List.set ((List.set (w19_5 : Rows) (0 + w6_0.toNat) [.i .i64 w20_0, .i .i64 w20_1, .i .i64 w20_2, .i .i64 w20_3, .i .i64 0, .i .i64 0, .i .i64 0, .b false, .i .u64 0, .i .u64 0, .i .u64 0, .i .u64 0, .i .u64 0]) : Rows) (0 + w1_2.toNat) [c25.1, c25.2.1, c25.2.2.1, c25.2.2.2.1, .i .i64 (IntKind.wrap .i64 (w5_0 + w4_0)), c25.2.2.2.2.2.1, c25.2.2.2.2.2.2.1, c25.2.2.2.2.2.2.2.1, c25.2.2.2.2.2.2.2.2.1, c25.2.2.2.2.2.2.2.2.2.1, c25.2.2.2.2.2.2.2.2.2.2.1, c25.2.2.2.2.2.2.2.2.2.2.2.1, c25.2.2.2.2.2.2.2.2.2.2.2.2.1])))
 else rowT [.i .i64, .i .i64, .i .i64, .i .i64, .i .i64, .i .i64, .i .i64, .b, .i .u64, .i .u64, .i .u64, .i .u64, .i .u64] a8 w1_2 fun c27 =>
 bif decide (((IntKind.wrap .i64 (w5_0 + w4_0)) : Int) > c27.2.2.2.1) then
 k0 8
 else k0 8)
 else rowT [.i .i64, .i .i64, .i .i64, .i .i64, .i .i64, .i .i64, .i .i64, .b, .i .u64, .i .u64, .i .u64, .i .u64, .i .u64] a8 w1_2 fun c28 =>
 bif decide (((IntKind.wrap .i64 (w5_0 + w4_0)) : Int) > c28.2.2.2.1) then
 k0 8
 else bif decide ((w6_0 : Int) < 0) then
 k0 8
 else G.Qs ρ a0 a1 a2 a3 a4 a5 a6 a7 a8 (G.Qm ρ a17 a18 0 (fun _w30_0 _w30_1 _w30_2 _w30_3 w30_4 =>
 bif w30_4 then
 none
 else none)) (fun w31_0 w31_1 w31_2 =>
 G.Qm ρ a17 a18 0 (fun w32_0 w32_1 w32_2 w32_3 w32_4 =>
 bif w32_4 then
 chk (decide ((0 : Int) ≤ w6_0)) <|
 chk (decide ((w6_0 : Int) < ((w31_1 : Nat) : Int))) <|
 chk (((List.length (w31_2 : Rows)) : Nat) == w31_0) <|
 rowN [.a, .a, .a, .a, .a, .a, .a, .a, .a, .a, .a, .a, .a] w31_2 (0 + w6_0.toNat) fun _c33 =>
 chk (decide ((0 : Int) ≤ w1_2)) <|
 chk (decide ((w1_2 : Int) < ((w31_1 : Nat) : Int))) <|
 chk (((List.length ((List.set (w31_2 : Rows) (0 + w6_0.toNat) [.i .i64 w32_0, .i .i64 w32_1, .i .i64 w32_2, .i .i64 w32_3, .i .i64 0, .i .i64 0, .i .i64 0, .b false, .i .u64 0, .i .u64 0, .i .u64 0, .i .u64 0, .i .u64 0]) : Rows)) : Nat) == w31_0) <|
 rowN [.a, .a, .a, .a, .a, .a, .a, .a, .a, .a, .a, .a, .a] (List.set (w31_2 : Rows) (0 + w6_0.toNat) [.i .i64 w32_0, .i .i64 w32_1, .i .i64 w32_2, .i .i64 w32_3, .i .i64 0, .i .i64 0, .i .i64 0, .b false, .i .u64 0, .i .u64 0, .i .u64 0, .i .u64 0, .i .u64 0]) (0 + w1_2.toNat) fun _c34 =>
 none
 else chk (decide ((0 : Int) ≤ w6_0)) <|
 chk (decide ((w6_0 : Int) < ((w31_1 : Nat) : Int))) <|
 chk (((List.length (w31_2 : Rows)) : Nat) == w31_0) <|
 rowN [.a, .a, .a, .a, .a, .a, .a, .a, .a, .a, .a, .a, .a] w31_2 (0 + w6_0.toNat) fun _c35 =>
 chk (decide ((0 : Int) ≤ w1_2)) <|
 chk (decide ((w1_2 : Int) < ((w31_1 : Nat) : Int))) <|
 chk (((List.length ((List.set (w31_2 : Rows) (0 + w6_0.toNat) [.i .i64 w32_0, .i .i64 w32_1, .i .i64 w32_2, .i .i64 w32_3, .i .i64 0, .i .i64 0, .i .i64 0, .b false, .i .u64 0, .i .u64 0, .i .u64 0, .i .u64 0, .i .u64 0]) : Rows)) : Nat) == w31_0) <|
 rowN [.a, .a, .a, .a, .a, .a, .a, .a, .a, .a, .a, .a, .a] (List.set (w31_2 : Rows) (0 + w6_0.toNat) [.i .i64 w32_0, .i .i64 w32_1, .i .i64 w32_2, .i .i64 w32_3, .i .i64 0, .i .i64 0, .i .i64 0, .b false, .i .u64 0, .i .u64 0, .i .u64 0, .i .u64 0, .i .u64 0]) (0 + w1_2.toNat) fun _c36 =>
 none)) (fun _w37_0 _w37_1 _w37_2 =>
 G.Qm ρ a17 a18 0 (fun _w38_0 _w38_1 _w38_2 _w38_3 w38_4 =>
 bif w38_4 then
 none
 else none)) (fun w39_0 w39_1 w39_2 w39_3 w39_4 w39_5 =>
 G.Qm ρ a17 a18 0 (fun w40_0 w40_1 w40_2 w40_3 w40_4 =>
 bif w40_4 then
 chk (decide ((0 : Int) ≤ w6_0)) <|
 chk (decide ((w6_0 : Int) < ((w39_3 : Nat) : Int))) <|
 chk (((List.length (w39_5 : Rows)) : Nat) == w39_2) <|
 rowN [.a, .a, .a, .a, .a, .a, .a, .a, .a, .a, .a, .a, .a] w39_5 (0 + w6_0.toNat) fun _c41 =>
 chk (decide ((0 : Int) ≤ w1_2)) <|
 chk (decide ((w1_2 : Int) < ((w39_3 : Nat) : Int))) <|
 chk (((List.length ((List.set (w39_5 : Rows) (0 + w6_0.toNat) [.i .i64 w40_0, .i .i64 w40_1, .i .i64 w40_2, .i .i64 w40_3, .i .i64 0, .i .i64 0, .i .i64 0, .b false, .i .u64 0, .i .u64 0, .i .u64 0, .i .u64 0, .i .u64 0]) : Rows)) : Nat) == w39_2) <|
 rowN [.a, .a, .a, .a, .a, .a, .a, .a, .a, .a, .a, .a, .a] (List.set (w39_5 : Rows) (0 + w6_0.toNat) [.i .i64 w40_0, .i .i64 w40_1, .i .i64 w40_2, .i .i64 w40_3, .i .i64 0, .i .i64 0, .i .i64 0, .b false, .i .u64 0, .i .u64 0, .i .u64 0, .i .u64 0, .i .u64 0]) (0 + w1_2.toNat) fun c42 =>
 chk (decide ((0 : Int) ≤ w3_0)) <|
 chk (decide ((w3_0 : Int) < ((w39_1 : Nat) : Int))) <|
 chk (((List.length (w39_4 : Rows)) : Nat) == w39_0) <|
 rowN [.a, .a, .a, .a, .a] w39_4 (0 + w3_0.toNat) fun _c43 =>
 k1 w39_0 w39_1 w39_2 w39_3 w6_0 (List.set (w39_4 : Rows) (0 + w3_0.toNat) [.i .i64 a17, .i .i64 w6_0, .i .i64 7, .i .i64 0, .i .i64 w1_0]) (List.set ((List.set (w39_5 : Rows) (0 + w6_0.toNat) [.i .i64 w40_0, .i .i64 w40_1, .i .i64 w40_2, .i .i64 w40_3, .i .i64 0, .i .i64 0, .i .i64 0, .b false, .i .u64 0, .i .u64 0, .i .u64 0, .i .u64 0, .i .u64 0]) : Rows) (0 + w1_2.toNat) [c42.1, c42.2.1, c42.2.2.1, c42.2.2.2.1, .i .i64 (IntKind.wrap .i64 (w5_0 + w4_0)), c42.2.2.2.2.2.1, c42.2.2.2.2.2.2.1, c42.2.2.2.2.2.2.2.1, c42.2.2.2.2.2.2.2.2.1, c42.2.2.2.2.2.2.2.2.2.1, c42.2.2.2.2.2.2.2.2.2.2.1, c42.2.2.2.2.2.2.2.2.2.2.2.1, c42.2.2.2.2.2.2.2.2.2.2.2.2.1])
 else chk (decide ((0 : Int) ≤ w6_0)) <|
 chk (decide ((w6_0 : Int) < ((w39_3 : Nat) : Int))) <|
 chk (((List.length (w39_5 : Rows)) : Nat) == w39_2) <|
 rowN [.a, .a, .a, .a, .a, .a, .a, .a, .a, .a, .a, .a, .a] w39_5 (0 + w6_0.toNat) fun _c44 =>
 chk (decide ((0 : Int) ≤ w1_2)) <|
 chk (decide ((w1_2 : Int) < ((w39_3 : Nat) : Int))) <|
 chk (((List.length ((List.set (w39_5 : Rows) (0 + w6_0.toNat) [.i .i64 w40_0, .i .i64 w40_1, .i .i64 w40_2, .i .i64 w40_3, .i .i64 0, .i .i64 0, .i .i64 0, .b false, .i .u64 0, .i .u64 0, .i .u64 0, .i .u64 0, .i .u64 0]) : Rows)) : Nat) == w39_2) <|
 rowN [.a, .a, .a, .a, .a, .a, .a, .a, .a, .a, .a, .a, .a] (List.set (w39_5 : Rows) (0 + w6_0.toNat) [.i .i64 w40_0, .i .i64 w40_1, .i .i64 w40_2, .i .i64 w40_3, .i .i64 0, .i .i64 0, .i .i64 0, .b false, .i .u64 0, .i .u64 0, .i .u64 0, .i .u64 0, .i .u64 0]) (0 + w1_2.toNat) fun c45 =>
 chk (decide ((0 : Int) ≤ w3_0)) <|
 chk (decide ((w3_0 : Int) < ((w39_1 : Nat) : Int))) <|
 chk (((List.length (w39_4 : Rows)) : Nat) == w39_0) <|
 rowN [.a, .a, .a, .a, .a] w39_4 (0 + w3_0.toNat) fun _c46 =>
 k1 w39_0 w39_1 w39_2 w39_3 w6_0 (List.set (w39_4 : Rows) (0 + w3_0.toNat) [.i .i64 a17, .i .i64 w6_0, .i .i64 7, .i .i64 0, .i .i64 w1_0]) (List.set ((List.set (w39_5 : Rows) (0 + w6_0.toNat) [.i .i64 w40_0, .i .i64 w40_1, .i .i64 w40_2, .i .i64 w40_3, .i .i64 0, .i .i64 0, .i .i64 0, .b false, .i .u64 0, .i .u64 0, .i .u64 0, .i .u64 0, .i .u64 0]) : Rows) (0 + w1_2.toNat) [c45.1, c45.2.1, c45.2.2.1, c45.2.2.2.1, .i .i64 (IntKind.wrap .i64 (w5_0 + w4_0)), c45.2.2.2.2.2.1, c45.2.2.2.2.2.2.1, c45.2.2.2.2.2.2.2.1, c45.2.2.2.2.2.2.2.2.1, c45.2.2.2.2.2.2.2.2.2.1, c45.2.2.2.2.2.2.2.2.2.2.1, c45.2.2.2.2.2.2.2.2.2.2.2.1, c45.2.2.2.2.2.2.2.2.2.2.2.2.1])))))
 else k0 1))
 else k0 6))
 else k0 1)
def Qo_g (n : Nat) : Qo_G := ⟨Q01 n, Qu n, Ql n, Qv n, Qq n, Qt n, Qb n, Qc n, Qs n, Qm n⟩
def Qo (n : Nat) : Qo_T := fun _ρ a0 a1 a2 a3 a4 a5 a6 a7 a8 a9 a10 a11 a12 a13 a14 a15 a16 a17 a18 a19 k0 k1 => Qo_s (Qo_g n) n a0 a1 a2 a3 a4 a5 a6 a7 a8 a9 a10 a11 a12 a13 a14 a15 a16 a17 a18 a19 k0 k1
def Qo_e (n : Nat) : EK := Qo_E (Qo n)
def Qo_S (G : Qo_G) : CK := tabS [(49, Q01_E G.Q01), (50, Qu_E G.Qu), (41, Ql_E G.Ql), (51, Qv_E G.Qv), (12, Qq_E G.Qq), (52, Qt_E G.Qt), (15, Qb_E G.Qb), (53, Qc_E G.Qc), (54, Qs_E G.Qs), (55, Qm_E G.Qm)]
theorem Qo_Sok (n : Nat) : CK.OK (Qo_S (Qo_g n)) (L tab) := tabS_ok _ (List.forall_mem_cons.2 ⟨(Q01_ok n), List.forall_mem_cons.2 ⟨(Qu_ok n), List.forall_mem_cons.2 ⟨(Ql_ok n), List.forall_mem_cons.2 ⟨(Qv_ok n), List.forall_mem_cons.2 ⟨(Qq_ok n), List.forall_mem_cons.2 ⟨(Qt_ok n), List.forall_mem_cons.2 ⟨(Qb_ok n), List.forall_mem_cons.2 ⟨(Qc_ok n), List.forall_mem_cons.2 ⟨(Qs_ok n), List.forall_mem_cons.2 ⟨(Qm_ok n), (fun _ h => nomatch h)⟩⟩⟩⟩⟩⟩⟩⟩⟩⟩)
def Qo_hs : HintC := hintL [(97, [.i .i64, .i .i64, .i .i64, .i .i64, .i .i64, .i .i64, .i .i64, .b, .i .u64, .i .u64, .i .u64, .i .u64, .i .u64])]
def Qo_lp (_G : Qo_G) (_n : Nat) : LK := tabL []
theorem Qo_k (G : Qo_G) {ρ : Type} (n : Nat) (a0 a1 a2 : Int) (a3 a4 : Bool) (a5 : Rows) (a6 a7 : Bool) (a8 : Rows) (a9 a10 : Int) (a11 a12 : Bool) (a13 : Rows) (a14 a15 : Bool) (a16 : Rows) (a17 a18 a19 : Int) (K : Res → Option ρ) : runC (Qo_S G) Qo_hs (Qo_lp G n) m31 [.agg [.i .i64 a0, .i .i64 a1, .i .i64 a2, .lst a3 a4 5 a5, .lst a6 a7 13 a8], .i .i64 a9, .agg [.i .i64 a10, .lst a11 a12 1 a13, .lst a14 a15 1 a16, .i .i64 a17, .i .i64 a18, .i .u64 a19]] K = Qo_s G n a0 a1 a2 a3 a4 a5 a6 a7 a8 a9 a10 a11 a12 a13 a14 a15 a16 a17 a18 a19 (fun w0 => K ⟨.tup [.agg [.i .i64 a0, .i .i64 a1, .i .i64 a2, .lst a3 a4 5 a5, .lst a6 a7 13 a8], .i .i64 0, .i .i64 w0], [], []⟩) (fun w0 w1 w2 w3 w4 w5 w6 => K ⟨.tup [.agg [.i .i64 a0, .i .i64 a1, .i .i64 a2, .sl 0 w0 5 0 w1, .sl 1 w2 13 0 w3], .i .i64 w4, .i .i64 0], [.row 5 true false w5, .row 13 true false w6], []⟩) := by kernel_rfl
theorem Qo_ok (n : Nat) : EK.OK (Qo_e n) 31 (L tab) := EK.shp (fun _ _ _ => rfl) fun ρ K y c e => EK.run (Qo_Sok n) (by kernel_rfl) (MF.LKOK.of (LK.of (l := []) (by kernel_rfl) ((fun _ h => nomatch h)))) (Qo_k (Qo_g n) n _ _ _ _ _ _ _ _ _ _ _ _ _ _ _ _ _ _ _ _ K) (by kernel_rfl) e
abbrev Qr_T : Type 1 := (ρ : Type) → Int → Int → Int → Bool → Bool → Rows → Bool → Bool → Rows → Int → Int → Bool → Bool → Rows → Bool → Bool → Rows → Int → Int → Int → (Bool → Bool → Rows → Bool → Bool → Rows → Int → Int → Option ρ) → Option ρ
def Qr_E (G : Qr_T) : EK := fun ρ args K => decL [.agg [.i .i64 none, .i .i64 none, .i .i64 none, .lst none none 5 none, .lst none none 13 none], .i .i64 none, .agg [.i .i64 none, .lst none none 1 none, .lst none none 1 none, .i .i64 none, .i .i64 none, .i .u64 none]] args fun c => G ρ c.1.1 c.1.2.1 c.1.2.2.1 c.1.2.2.2.1.1 c.1.2.2.2.1.2.1 c.1.2.2.2.1.2.2 c.1.2.2.2.2.1.1 c.1.2.2.2.2.1.2.1 c.1.2.2.2.2.1.2.2 c.2.1 c.2.2.1.1 c.2.2.1.2.1.1 c.2.2.1.2.1.2.1 c.2.2.1.2.1.2.2 c.2.2.1.2.2.1.1 c.2.2.1.2.2.1.2.1 c.2.2.1.2.2.1.2.2 c.2.2.1.2.2.2.1 c.2.2.1.2.2.2.2.1 c.2.2.1.2.2.2.2.2.1 (fun w0 w1 w2 w3 w4 w5 w6 w7 => K ⟨.tup [.agg [.i .i64 c.1.1, .i .i64 c.1.2.1, .i .i64 c.1.2.2.1, .lst w0 w1 5 w2, .lst w3 w4 13 w5], .agg [.i .i64 w6, .i .u64 0, .i .i64 w7]], [], []⟩)
structure Qr_G where
 mk ::
 Qo : Qo_T
def Qr_s (G : Qr_G) {ρ : Type} (_n : Nat) (a0 a1 a2 : Int) (a3 a4 : Bool) (a5 : Rows) (a6 a7 : Bool) (a8 : Rows) (a9 a10 : Int) (a11 a12 : Bool) (a13 : Rows) (a14 a15 : Bool) (a16 : Rows) (a17 a18 a19 : Int) (k0 : (Bool → Bool → Rows → Bool → Bool → Rows → Int → Int → Option ρ)) : Option ρ :=
 G.Qo ρ a0 a1 a2 a3 a4 a5 a6 a7 a8 a9 a10 a11 a12 a13 a14 a15 a16 a17 a18 a19 (fun w0_0 =>
 bif ((w0_0 : Int) != 0) then
 k0 a3 a4 a5 a6 a7 a8 w0_0 0
 else k0 a3 a4 a5 a6 a7 a8 0 0) (fun w1_0 w1_1 w1_2 w1_3 w1_4 w1_5 w1_6 =>
 chk (((List.length (w1_5 : Rows)) : Nat) == w1_0) <|
 chk (((List.length (w1_6 : Rows)) : Nat) == w1_2) <|
 k0 false false (List.take w1_1 (List.drop 0 (w1_5 : Rows))) false false (List.take w1_3 (List.drop 0 (w1_6 : Rows))) 0 w1_4)
def Qr_g (n : Nat) : Qr_G := ⟨Qo n⟩
def Qr (n : Nat) : Qr_T := fun _ρ a0 a1 a2 a3 a4 a5 a6 a7 a8 a9 a10 a11 a12 a13 a14 a15 a16 a17 a18 a19 k0 => Qr_s (Qr_g n) n a0 a1 a2 a3 a4 a5 a6 a7 a8 a9 a10 a11 a12 a13 a14 a15 a16 a17 a18 a19 k0
def Qr_e (n : Nat) : EK := Qr_E (Qr n)
def Qr_S (G : Qr_G) : CK := tabS [(31, Qo_E G.Qo)]
theorem Qr_Sok (n : Nat) : CK.OK (Qr_S (Qr_g n)) (L tab) := tabS_ok _ (List.forall_mem_cons.2 ⟨(Qo_ok n), (fun _ h => nomatch h)⟩)
def Qr_hs : HintC := hintL []
def Qr_lp (_G : Qr_G) (_n : Nat) : LK := tabL []
theorem Qr_k (G : Qr_G) {ρ : Type} (n : Nat) (a0 a1 a2 : Int) (a3 a4 : Bool) (a5 : Rows) (a6 a7 : Bool) (a8 : Rows) (a9 a10 : Int) (a11 a12 : Bool) (a13 : Rows) (a14 a15 : Bool) (a16 : Rows) (a17 a18 a19 : Int) (K : Res → Option ρ) : runC (Qr_S G) Qr_hs (Qr_lp G n) m10 [.agg [.i .i64 a0, .i .i64 a1, .i .i64 a2, .lst a3 a4 5 a5, .lst a6 a7 13 a8], .i .i64 a9, .agg [.i .i64 a10, .lst a11 a12 1 a13, .lst a14 a15 1 a16, .i .i64 a17, .i .i64 a18, .i .u64 a19]] K = Qr_s G n a0 a1 a2 a3 a4 a5 a6 a7 a8 a9 a10 a11 a12 a13 a14 a15 a16 a17 a18 a19 (fun w0 w1 w2 w3 w4 w5 w6 w7 => K ⟨.tup [.agg [.i .i64 a0, .i .i64 a1, .i .i64 a2, .lst w0 w1 5 w2, .lst w3 w4 13 w5], .agg [.i .i64 w6, .i .u64 0, .i .i64 w7]], [], []⟩) := by kernel_rfl
theorem Qr_ok (n : Nat) : EK.OK (Qr_e n) 10 (L tab) := EK.shp (fun _ _ _ => rfl) fun ρ K y c e => EK.run (Qr_Sok n) (by kernel_rfl) (MF.LKOK.of (LK.of (l := []) (by kernel_rfl) ((fun _ h => nomatch h)))) (Qr_k (Qr_g n) n _ _ _ _ _ _ _ _ _ _ _ _ _ _ _ _ _ _ _ _ K) (by kernel_rfl) e
abbrev Q08_T : Type 1 := (ρ : Type) → (Bool → Option ρ) → Option ρ
def Q08_E (G : Q08_T) : EK := fun ρ args K => decL [] args fun _c => G ρ (fun w0 => K ⟨.b w0, [], []⟩)
structure Q08_G where
 mk ::
 Q0b : Q0b_T
 reevelaw15_way : reevelaw15_way_T
 Qr : Qr_T
def Q08_s (G : Q08_G) {ρ : Type} (_n : Nat)  (k0 : (Bool → Option ρ)) : Option ρ :=
 G.Q0b ρ (fun w0_0 w0_1 w0_2 w0_3 w0_4 w0_5 w0_6 w0_7 w0_8 =>
 G.reevelaw15_way ρ false false ([[.i .i64 0]]) (bs (stayR ⟨.agg [.lst false false 1 ([[.i .i64 0]])], [], []⟩) <|
 G.reevelaw15_way ρ false false ([[.i .i64 3]]) (bs (stayR ⟨.agg [.lst false false 1 ([[.i .i64 3]])], [], []⟩) <|
 G.Qr ρ w0_0 w0_1 w0_2 w0_3 w0_4 w0_5 w0_6 w0_7 w0_8 0 1 false false ([[.i .i64 0]]) false false ([[.i .i64 3]]) 4 0 0 (fun _w3_0 _w3_1 w3_2 _w3_3 _w3_4 w3_5 w3_6 w3_7 =>
 bif (((w3_6 : Int) == 0) && (((w3_7 : Int) == 4) && true)) then
 bif (((((List.length (w3_5 : Rows)) : Nat) : Int) : Int) == 16) then
 rowT [.i .i64, .i .i64, .i .i64, .i .i64, .i .i64, .i .i64, .i .i64, .b, .i .u64, .i .u64, .i .u64, .i .u64, .i .u64] w3_5 4 fun c4 =>
 bif ((c4.1 : Int) == 4) then
 bif (((((List.length (w3_2 : Rows)) : Nat) : Int) : Int) == 32) then
 rowT [.i .i64, .i .i64, .i .i64, .i .i64, .i .i64] w3_2 3 fun c5 =>
 bif (((c5.1 : Int) == 4) && (((c5.2.1 : Int) == 4) && (((c5.2.2.1 : Int) == 7) && (((c5.2.2.2.1 : Int) == 0) && (((c5.2.2.2.2.1 : Int) == 0) && true))))) then
 k0 true
 else k0 false
 else k0 false
 else k0 false
 else k0 false
 else k0 false))))
def Q08_g (n : Nat) : Q08_G := ⟨Q0b n, reevelaw15_way n, Qr n⟩
def Q08 (n : Nat) : Q08_T := fun _ρ k0 => Q08_s (Q08_g n) n k0
def Q08_e (n : Nat) : EK := Q08_E (Q08 n)
def Q08_S (G : Q08_G) : CK := tabS [(23, Q0b_E G.Q0b), (24, reevelaw15_way_E G.reevelaw15_way), (10, Qr_E G.Qr)]
theorem Q08_Sok (n : Nat) : CK.OK (Q08_S (Q08_g n)) (L tab) := tabS_ok _ (List.forall_mem_cons.2 ⟨(Q0b_ok n), List.forall_mem_cons.2 ⟨(reevelaw15_way_ok n), List.forall_mem_cons.2 ⟨(Qr_ok n), (fun _ h => nomatch h)⟩⟩⟩)
def Q08_hs : HintC := hintL [(25, [.i .i64, .i .i64, .i .i64, .i .i64, .i .i64, .i .i64, .i .i64, .b, .i .u64, .i .u64, .i .u64, .i .u64, .i .u64]), (39, [.i .i64, .i .i64, .i .i64, .i .i64, .i .i64])]
def Q08_lp (_G : Q08_G) (_n : Nat) : LK := tabL []
theorem Q08_k (G : Q08_G) {ρ : Type} (n : Nat)  (K : Res → Option ρ) : runC (Q08_S G) Q08_hs (Q08_lp G n) m7 [] K = Q08_s G n  (fun w0 => K ⟨.b w0, [], []⟩) := by kernel_rfl
theorem Q08_ok (n : Nat) : EK.OK (Q08_e n) 7 (L tab) := EK.shp (fun _ _ _ => rfl) fun ρ K y c e => EK.run (Q08_Sok n) (by kernel_rfl) (MF.LKOK.of (LK.of (l := []) (by kernel_rfl) ((fun _ h => nomatch h)))) (Q08_k (Q08_g n) n  K) (by kernel_rfl) e
abbrev reevelaw15_heavy_T : Type 1 := (ρ : Type) → Int → Int → Int → Bool → Bool → Rows → Bool → Bool → Rows → Int → Bool → Bool → Rows → Bool → Bool → Rows → Int → Int → Int → (Bool → Option ρ) → Option ρ
def reevelaw15_heavy_E (G : reevelaw15_heavy_T) : EK := fun ρ args K => decL [.agg [.i .i64 none, .i .i64 none, .i .i64 none, .lst none none 5 none, .lst none none 13 none], .agg [.i .i64 none, .lst none none 1 none, .lst none none 1 none, .i .i64 none, .i .i64 none, .i .u64 none]] args fun c => G ρ c.1.1 c.1.2.1 c.1.2.2.1 c.1.2.2.2.1.1 c.1.2.2.2.1.2.1 c.1.2.2.2.1.2.2 c.1.2.2.2.2.1.1 c.1.2.2.2.2.1.2.1 c.1.2.2.2.2.1.2.2 c.2.1.1 c.2.1.2.1.1 c.2.1.2.1.2.1 c.2.1.2.1.2.2 c.2.1.2.2.1.1 c.2.1.2.2.1.2.1 c.2.1.2.2.1.2.2 c.2.1.2.2.2.1 c.2.1.2.2.2.2.1 c.2.1.2.2.2.2.2.1 (fun w0 => K ⟨.b w0, [], []⟩)
structure reevelaw15_heavy_G where
 mk ::
def reevelaw15_heavy_s (_G : reevelaw15_heavy_G) {ρ : Type} (_n : Nat) (_a0 _a1 _a2 : Int) (_a3 _a4 : Bool) (a5 : Rows) (_a6 _a7 : Bool) (a8 : Rows) (_a9 : Int) (_a10 _a11 : Bool) (a12 : Rows) (_a13 _a14 : Bool) (a15 : Rows) (_a16 _a17 _a18 : Int) (k0 : (Bool → Option ρ)) : Option ρ :=
 bif decide (((((List.length (a5 : Rows)) : Nat) : Int) : Int) > 100) then
 k0 true
 else bif decide (((((List.length (a8 : Rows)) : Nat) : Int) : Int) > 50) then
 k0 true
 else bif decide (((((List.length (a12 : Rows)) : Nat) : Int) : Int) > 10) then
 k0 true
 else bif decide (((((List.length (a15 : Rows)) : Nat) : Int) : Int) > 10) then
 k0 true
 else k0 false
def reevelaw15_heavy_g (_n : Nat) : reevelaw15_heavy_G := ⟨⟩
def reevelaw15_heavy (n : Nat) : reevelaw15_heavy_T := fun _ρ a0 a1 a2 a3 a4 a5 a6 a7 a8 a9 a10 a11 a12 a13 a14 a15 a16 a17 a18 k0 => reevelaw15_heavy_s (reevelaw15_heavy_g n) n a0 a1 a2 a3 a4 a5 a6 a7 a8 a9 a10 a11 a12 a13 a14 a15 a16 a17 a18 k0
def reevelaw15_heavy_e (n : Nat) : EK := reevelaw15_heavy_E (reevelaw15_heavy n)
def reevelaw15_heavy_S (_G : reevelaw15_heavy_G) : CK := tabS []
theorem reevelaw15_heavy_Sok (n : Nat) : CK.OK (reevelaw15_heavy_S (reevelaw15_heavy_g n)) (L tab) := tabS_ok _ ((fun _ h => nomatch h))
def reevelaw15_heavy_hs : HintC := hintL []
def reevelaw15_heavy_lp (_G : reevelaw15_heavy_G) (_n : Nat) : LK := tabL []
theorem reevelaw15_heavy_k (G : reevelaw15_heavy_G) {ρ : Type} (n : Nat) (a0 a1 a2 : Int) (a3 a4 : Bool) (a5 : Rows) (a6 a7 : Bool) (a8 : Rows) (a9 : Int) (a10 a11 : Bool) (a12 : Rows) (a13 a14 : Bool) (a15 : Rows) (a16 a17 a18 : Int) (K : Res → Option ρ) : runC (reevelaw15_heavy_S G) reevelaw15_heavy_hs (reevelaw15_heavy_lp G n) m8 [.agg [.i .i64 a0, .i .i64 a1, .i .i64 a2, .lst a3 a4 5 a5, .lst a6 a7 13 a8], .agg [.i .i64 a9, .lst a10 a11 1 a12, .lst a13 a14 1 a15, .i .i64 a16, .i .i64 a17, .i .u64 a18]] K = reevelaw15_heavy_s G n a0 a1 a2 a3 a4 a5 a6 a7 a8 a9 a10 a11 a12 a13 a14 a15 a16 a17 a18 (fun w0 => K ⟨.b w0, [], []⟩) := by kernel_rfl
theorem reevelaw15_heavy_ok (n : Nat) : EK.OK (reevelaw15_heavy_e n) 8 (L tab) := EK.shp (fun _ _ _ => rfl) fun ρ K y c e => EK.run (reevelaw15_heavy_Sok n) (by kernel_rfl) (MF.LKOK.of (LK.of (l := []) (by kernel_rfl) ((fun _ h => nomatch h)))) (reevelaw15_heavy_k (reevelaw15_heavy_g n) n _ _ _ _ _ _ _ _ _ _ _ _ _ _ _ _ _ _ _ K) (by kernel_rfl) e
abbrev slices_Equal_Slot_T : Type 1 := (ρ : Type) → Bool → Bool → Rows → Bool → Bool → Rows → (Bool → Option ρ) → Option ρ
def slices_Equal_Slot_E (G : slices_Equal_Slot_T) : EK := fun ρ args K => decL [.lst none none 5 none, .lst none none 5 none] args fun c => G ρ c.1.1 c.1.2.1 c.1.2.2 c.2.1.1 c.2.1.2.1 c.2.1.2.2 (fun w0 => K ⟨.b w0, [], []⟩)
structure slices_Equal_Slot_G where
 mk ::
abbrev slices_Equal_Slot_l4_V : Type := Int
def slices_Equal_Slot_l4_s (_G : slices_Equal_Slot_G) {ρ : Type} (_n : Nat) (_p0 _p1 : Bool) (p2 : Rows) (_p3 _p4 : Bool) (p5 : Rows) (p6 : Int) (k0 : (Option ρ)) (k1 : (Option ρ)) (rec' : slices_Equal_Slot_l4_V → Option ρ) : slices_Equal_Slot_l4_V → Option ρ
 | v =>
 bif decide ((v : Int) < p6) then
 rowT [.i .i64, .i .i64, .i .i64, .i .i64, .i .i64] p2 v fun c0 =>
 rowT [.i .i64, .i .i64, .i .i64, .i .i64, .i .i64] p5 v fun c1 =>
 bif (!(((c0.1 : Int) == c1.1) && (((c0.2.1 : Int) == c1.2.1) && (((c0.2.2.1 : Int) == c1.2.2.1) && (((c0.2.2.2.1 : Int) == c1.2.2.2.1) && (((c0.2.2.2.2.1 : Int) == c1.2.2.2.2.1) && true)))))) then
 k0
 else rec' ((IntKind.wrap .i64 (v + 1)))
 else k1
def slices_Equal_Slot_l4 (G : slices_Equal_Slot_G) {ρ : Type} (n : Nat) (p0 p1 : Bool) (p2 : Rows) (p3 p4 : Bool) (p5 : Rows) (p6 : Int) (k0 : (Option ρ)) (k1 : (Option ρ)) (v : slices_Equal_Slot_l4_V) : Option ρ := fuelN (slices_Equal_Slot_l4_s G n p0 p1 p2 p3 p4 p5 p6 k0 k1) n v
def slices_Equal_Slot_l4_enc (p0 p1 : Bool) (p2 : Rows) (p3 p4 : Bool) (p5 : Rows) (p6 : Int) : slices_Equal_Slot_l4_V → St
 | v => ⟨[(0, .lst p0 p1 5 p2), (1, .lst p3 p4 5 p5), (12, .i .i64 p6), (13, .i .i64 v)], []⟩
def slices_Equal_Slot_s (G : slices_Equal_Slot_G) {ρ : Type} (n : Nat) (a0 a1 : Bool) (a2 : Rows) (a3 a4 : Bool) (a5 : Rows) (k0 : (Bool → Option ρ)) : Option ρ :=
 bif (((((List.length (a2 : Rows)) : Nat) : Int) : Int) != (((List.length (a5 : Rows)) : Nat) : Int)) then
 k0 false
 else slices_Equal_Slot_l4 G n a0 a1 a2 a3 a4 a5 (((List.length (a2 : Rows)) : Nat) : Int) (k0 false) (k0 true) (0)
def slices_Equal_Slot_g (_n : Nat) : slices_Equal_Slot_G := ⟨⟩
def slices_Equal_Slot (n : Nat) : slices_Equal_Slot_T := fun _ρ a0 a1 a2 a3 a4 a5 k0 => slices_Equal_Slot_s (slices_Equal_Slot_g n) n a0 a1 a2 a3 a4 a5 k0
def slices_Equal_Slot_e (n : Nat) : EK := slices_Equal_Slot_E (slices_Equal_Slot n)
def slices_Equal_Slot_S (_G : slices_Equal_Slot_G) : CK := tabS []
theorem slices_Equal_Slot_Sok (n : Nat) : CK.OK (slices_Equal_Slot_S (slices_Equal_Slot_g n)) (L tab) := tabS_ok _ ((fun _ h => nomatch h))
def slices_Equal_Slot_hs : HintC := hintL [(18, [.i .i64, .i .i64, .i .i64, .i .i64, .i .i64]), (22, [.i .i64, .i .i64, .i .i64, .i .i64, .i .i64])]
def slices_Equal_Slot_c4 : Nat × List Nat × List Nat × MC := loopAt 4 m32
def slices_Equal_Slot_l4_d (G : slices_Equal_Slot_G) (n : Nat) : Go.Rv.LE := fun _ρ h K => decSt [(0, .lst none none 5 none), (1, .lst none none 5 none), (12, .i .i64 none), (13, .i .i64 none)] [] h fun a _b => slices_Equal_Slot_l4 G n a.1.1 a.1.2.1 a.1.2.2 a.2.1.1 a.2.1.2.1 a.2.1.2.2 a.2.2.1 (K .ret ⟨[(4, .b false)], []⟩) (K (.exit 0) ⟨[(4, .u)], []⟩) (a.2.2.2.1)
def slices_Equal_Slot_d4 (G : slices_Equal_Slot_G) (n : Nat) : Go.Rv.LE := slices_Equal_Slot_l4_d G n
def slices_Equal_Slot_lp (G : slices_Equal_Slot_G) (n : Nat) : LK := tabL [(4, slices_Equal_Slot_d4 G n)]
theorem slices_Equal_Slot_l4_k (G : slices_Equal_Slot_G) {ρ : Type} (n : Nat) (p0 p1 : Bool) (p2 : Rows) (p3 p4 : Bool) (p5 : Rows) (p6 : Int) (K : Ex → St → Option ρ) (N : St → Option ρ) : ∀ v, roundC (slices_Equal_Slot_S G) slices_Equal_Slot_hs (slices_Equal_Slot_lp G n) slices_Equal_Slot_c4 0 N K (slices_Equal_Slot_l4_enc p0 p1 p2 p3 p4 p5 p6 v) = slices_Equal_Slot_l4_s G n p0 p1 p2 p3 p4 p5 p6 (K .ret ⟨[(4, .b false)], []⟩) (K (.exit 0) ⟨[(4, .u)], []⟩) (fun v => N (slices_Equal_Slot_l4_enc p0 p1 p2 p3 p4 p5 p6 v)) v
 | v => by kernel_rfl
theorem slices_Equal_Slot_l4_dok (n : Nat) : LE.OK (slices_Equal_Slot_l4_d (slices_Equal_Slot_g n) n) (L tab) slices_Equal_Slot_c4 := LE.shp (fun _ _ _ => rfl) fun ρ K y a b e => LE.rounds (slices_Equal_Slot_Sok n) (LK.of (l := []) (by kernel_rfl) ((fun _ h => nomatch h))) (slices_Equal_Slot_l4_k (slices_Equal_Slot_g n) n _ _ _ _ _ _ _ K) (by kernel_rfl) (by kernel_rfl) e
theorem slices_Equal_Slot_d4_ok (n : Nat) : LE.OK (slices_Equal_Slot_d4 (slices_Equal_Slot_g n) n) (L tab) slices_Equal_Slot_c4 := slices_Equal_Slot_l4_dok n
theorem slices_Equal_Slot_k (G : slices_Equal_Slot_G) {ρ : Type} (n : Nat) (a0 a1 : Bool) (a2 : Rows) (a3 a4 : Bool) (a5 : Rows) (K : Res → Option ρ) : runC (slices_Equal_Slot_S G) slices_Equal_Slot_hs (slices_Equal_Slot_lp G n) m32 [.lst a0 a1 5 a2, .lst a3 a4 5 a5] K = slices_Equal_Slot_s G n a0 a1 a2 a3 a4 a5 (fun w0 => K ⟨.b w0, [], []⟩) := by kernel_rfl
theorem slices_Equal_Slot_ok (n : Nat) : EK.OK (slices_Equal_Slot_e n) 32 (L tab) := EK.shp (fun _ _ _ => rfl) fun ρ K y c e => EK.run (slices_Equal_Slot_Sok n) (by kernel_rfl) (MF.LKOK.of (LK.of (l := [slices_Equal_Slot_c4]) (by kernel_rfl) (List.forall_mem_cons.2 ⟨LE.at (e := slices_Equal_Slot_d4 (slices_Equal_Slot_g n) n) (by kernel_rfl) (slices_Equal_Slot_d4_ok n), (fun _ h => nomatch h)⟩))) (slices_Equal_Slot_k (slices_Equal_Slot_g n) n _ _ _ _ _ _ K) (by kernel_rfl) e
abbrev slices_Equal_Thing_T : Type 1 := (ρ : Type) → Bool → Bool → Rows → Bool → Bool → Rows → (Bool → Option ρ) → Option ρ
def slices_Equal_Thing_E (G : slices_Equal_Thing_T) : EK := fun ρ args K => decL [.lst none none 13 none, .lst none none 13 none] args fun c => G ρ c.1.1 c.1.2.1 c.1.2.2 c.2.1.1 c.2.1.2.1 c.2.1.2.2 (fun w0 => K ⟨.b w0, [], []⟩)
structure slices_Equal_Thing_G where
 mk ::
abbrev slices_Equal_Thing_l4_V : Type := Int
def slices_Equal_Thing_l4_s (_G : slices_Equal_Thing_G) {ρ : Type} (_n : Nat) (_p0 _p1 : Bool) (p2 : Rows) (_p3 _p4 : Bool) (p5 : Rows) (p6 : Int) (k0 : (Option ρ)) (k1 : (Option ρ)) (rec' : slices_Equal_Thing_l4_V → Option ρ) : slices_Equal_Thing_l4_V → Option ρ
 | v =>
 bif decide ((v : Int) < p6) then
 rowT [.i .i64, .i .i64, .i .i64, .i .i64, .i .i64, .i .i64, .i .i64, .b, .i .u64, .i .u64, .i .u64, .i .u64, .i .u64] p2 v fun c0 =>
 rowT [.i .i64, .i .i64, .i .i64, .i .i64, .i .i64, .i .i64, .i .i64, .b, .i .u64, .i .u64, .i .u64, .i .u64, .i .u64] p5 v fun c1 =>
 bif (!(((c0.1 : Int) == c1.1) && (((c0.2.1 : Int) == c1.2.1) && (((c0.2.2.1 : Int) == c1.2.2.1) && (((c0.2.2.2.1 : Int) == c1.2.2.2.1) && (((c0.2.2.2.2.1 : Int) == c1.2.2.2.2.1) && (((c0.2.2.2.2.2.1 : Int) == c1.2.2.2.2.2.1) && (((c0.2.2.2.2.2.2.1 : Int) == c1.2.2.2.2.2.2.1) && (((c0.2.2.2.2.2.2.2.1 : Bool) == c1.2.2.2.2.2.2.2.1) && (((c0.2.2.2.2.2.2.2.2.1 : Int) == c1.2.2.2.2.2.2.2.2.1) && (((c0.2.2.2.2.2.2.2.2.2.1 : Int) == c1.2.2.2.2.2.2.2.2.2.1) && (((c0.2.2.2.2.2.2.2.2.2.2.1 : Int) == c1.2.2.2.2.2.2.2.2.2.2.1) && (((c0.2.2.2.2.2.2.2.2.2.2.2.1 : Int) == c1.2.2.2.2.2.2.2.2.2.2.2.1) && (((c0.2.2.2.2.2.2.2.2.2.2.2.2.1 : Int) == c1.2.2.2.2.2.2.2.2.2.2.2.2.1) && true)))))))))))))) then
 k0
 else rec' ((IntKind.wrap .i64 (v + 1)))
 else k1
def slices_Equal_Thing_l4 (G : slices_Equal_Thing_G) {ρ : Type} (n : Nat) (p0 p1 : Bool) (p2 : Rows) (p3 p4 : Bool) (p5 : Rows) (p6 : Int) (k0 : (Option ρ)) (k1 : (Option ρ)) (v : slices_Equal_Thing_l4_V) : Option ρ := fuelN (slices_Equal_Thing_l4_s G n p0 p1 p2 p3 p4 p5 p6 k0 k1) n v
def slices_Equal_Thing_l4_enc (p0 p1 : Bool) (p2 : Rows) (p3 p4 : Bool) (p5 : Rows) (p6 : Int) : slices_Equal_Thing_l4_V → St
 | v => ⟨[(0, .lst p0 p1 13 p2), (1, .lst p3 p4 13 p5), (12, .i .i64 p6), (13, .i .i64 v)], []⟩
def slices_Equal_Thing_s (G : slices_Equal_Thing_G) {ρ : Type} (n : Nat) (a0 a1 : Bool) (a2 : Rows) (a3 a4 : Bool) (a5 : Rows) (k0 : (Bool → Option ρ)) : Option ρ :=
 bif (((((List.length (a2 : Rows)) : Nat) : Int) : Int) != (((List.length (a5 : Rows)) : Nat) : Int)) then
 k0 false
 else slices_Equal_Thing_l4 G n a0 a1 a2 a3 a4 a5 (((List.length (a2 : Rows)) : Nat) : Int) (k0 false) (k0 true) (0)
def slices_Equal_Thing_g (_n : Nat) : slices_Equal_Thing_G := ⟨⟩
def slices_Equal_Thing (n : Nat) : slices_Equal_Thing_T := fun _ρ a0 a1 a2 a3 a4 a5 k0 => slices_Equal_Thing_s (slices_Equal_Thing_g n) n a0 a1 a2 a3 a4 a5 k0
def slices_Equal_Thing_e (n : Nat) : EK := slices_Equal_Thing_E (slices_Equal_Thing n)
def slices_Equal_Thing_S (_G : slices_Equal_Thing_G) : CK := tabS []
theorem slices_Equal_Thing_Sok (n : Nat) : CK.OK (slices_Equal_Thing_S (slices_Equal_Thing_g n)) (L tab) := tabS_ok _ ((fun _ h => nomatch h))
def slices_Equal_Thing_hs : HintC := hintL [(18, [.i .i64, .i .i64, .i .i64, .i .i64, .i .i64, .i .i64, .i .i64, .b, .i .u64, .i .u64, .i .u64, .i .u64, .i .u64]), (22, [.i .i64, .i .i64, .i .i64, .i .i64, .i .i64, .i .i64, .i .i64, .b, .i .u64, .i .u64, .i .u64, .i .u64, .i .u64])]
def slices_Equal_Thing_c4 : Nat × List Nat × List Nat × MC := loopAt 4 m33
def slices_Equal_Thing_l4_d (G : slices_Equal_Thing_G) (n : Nat) : Go.Rv.LE := fun _ρ h K => decSt [(0, .lst none none 13 none), (1, .lst none none 13 none), (12, .i .i64 none), (13, .i .i64 none)] [] h fun a _b => slices_Equal_Thing_l4 G n a.1.1 a.1.2.1 a.1.2.2 a.2.1.1 a.2.1.2.1 a.2.1.2.2 a.2.2.1 (K .ret ⟨[(4, .b false)], []⟩) (K (.exit 0) ⟨[(4, .u)], []⟩) (a.2.2.2.1)
def slices_Equal_Thing_d4 (G : slices_Equal_Thing_G) (n : Nat) : Go.Rv.LE := slices_Equal_Thing_l4_d G n
def slices_Equal_Thing_lp (G : slices_Equal_Thing_G) (n : Nat) : LK := tabL [(4, slices_Equal_Thing_d4 G n)]
theorem slices_Equal_Thing_l4_k (G : slices_Equal_Thing_G) {ρ : Type} (n : Nat) (p0 p1 : Bool) (p2 : Rows) (p3 p4 : Bool) (p5 : Rows) (p6 : Int) (K : Ex → St → Option ρ) (N : St → Option ρ) : ∀ v, roundC (slices_Equal_Thing_S G) slices_Equal_Thing_hs (slices_Equal_Thing_lp G n) slices_Equal_Thing_c4 0 N K (slices_Equal_Thing_l4_enc p0 p1 p2 p3 p4 p5 p6 v) = slices_Equal_Thing_l4_s G n p0 p1 p2 p3 p4 p5 p6 (K .ret ⟨[(4, .b false)], []⟩) (K (.exit 0) ⟨[(4, .u)], []⟩) (fun v => N (slices_Equal_Thing_l4_enc p0 p1 p2 p3 p4 p5 p6 v)) v
 | v => by kernel_rfl
theorem slices_Equal_Thing_l4_dok (n : Nat) : LE.OK (slices_Equal_Thing_l4_d (slices_Equal_Thing_g n) n) (L tab) slices_Equal_Thing_c4 := LE.shp (fun _ _ _ => rfl) fun ρ K y a b e => LE.rounds (slices_Equal_Thing_Sok n) (LK.of (l := []) (by kernel_rfl) ((fun _ h => nomatch h))) (slices_Equal_Thing_l4_k (slices_Equal_Thing_g n) n _ _ _ _ _ _ _ K) (by kernel_rfl) (by kernel_rfl) e
theorem slices_Equal_Thing_d4_ok (n : Nat) : LE.OK (slices_Equal_Thing_d4 (slices_Equal_Thing_g n) n) (L tab) slices_Equal_Thing_c4 := slices_Equal_Thing_l4_dok n
theorem slices_Equal_Thing_k (G : slices_Equal_Thing_G) {ρ : Type} (n : Nat) (a0 a1 : Bool) (a2 : Rows) (a3 a4 : Bool) (a5 : Rows) (K : Res → Option ρ) : runC (slices_Equal_Thing_S G) slices_Equal_Thing_hs (slices_Equal_Thing_lp G n) m33 [.lst a0 a1 13 a2, .lst a3 a4 13 a5] K = slices_Equal_Thing_s G n a0 a1 a2 a3 a4 a5 (fun w0 => K ⟨.b w0, [], []⟩) := by kernel_rfl
theorem slices_Equal_Thing_ok (n : Nat) : EK.OK (slices_Equal_Thing_e n) 33 (L tab) := EK.shp (fun _ _ _ => rfl) fun ρ K y c e => EK.run (slices_Equal_Thing_Sok n) (by kernel_rfl) (MF.LKOK.of (LK.of (l := [slices_Equal_Thing_c4]) (by kernel_rfl) (List.forall_mem_cons.2 ⟨LE.at (e := slices_Equal_Thing_d4 (slices_Equal_Thing_g n) n) (by kernel_rfl) (slices_Equal_Thing_d4_ok n), (fun _ h => nomatch h)⟩))) (slices_Equal_Thing_k (slices_Equal_Thing_g n) n _ _ _ _ _ _ K) (by kernel_rfl) e
abbrev Qz_T : Type 1 := (ρ : Type) → Int → Int → Int → Bool → Bool → Rows → Bool → Bool → Rows → Int → Int → Int → Bool → Bool → Rows → Bool → Bool → Rows → (Bool → Option ρ) → Option ρ
def Qz_E (G : Qz_T) : EK := fun ρ args K => decL [.agg [.i .i64 none, .i .i64 none, .i .i64 none, .lst none none 5 none, .lst none none 13 none], .agg [.i .i64 none, .i .i64 none, .i .i64 none, .lst none none 5 none, .lst none none 13 none]] args fun c => G ρ c.1.1 c.1.2.1 c.1.2.2.1 c.1.2.2.2.1.1 c.1.2.2.2.1.2.1 c.1.2.2.2.1.2.2 c.1.2.2.2.2.1.1 c.1.2.2.2.2.1.2.1 c.1.2.2.2.2.1.2.2 c.2.1.1 c.2.1.2.1 c.2.1.2.2.1 c.2.1.2.2.2.1.1 c.2.1.2.2.2.1.2.1 c.2.1.2.2.2.1.2.2 c.2.1.2.2.2.2.1.1 c.2.1.2.2.2.2.1.2.1 c.2.1.2.2.2.2.1.2.2 (fun w0 => K ⟨.b w0, [], []⟩)
structure Qz_G where
 mk ::
 slices_Equal_Slot : slices_Equal_Slot_T
 slices_Equal_Thing : slices_Equal_Thing_T
def Qz_s (G : Qz_G) {ρ : Type} (_n : Nat) (a0 a1 a2 : Int) (a3 a4 : Bool) (a5 : Rows) (a6 a7 : Bool) (a8 : Rows) (a9 a10 a11 : Int) (a12 a13 : Bool) (a14 : Rows) (a15 a16 : Bool) (a17 : Rows) (k0 : (Bool → Option ρ)) : Option ρ :=
 bif (((a0 : Int) == a9) && (((a1 : Int) == a10) && (((a2 : Int) == a11) && true))) then
 G.slices_Equal_Slot ρ a3 a4 a5 a12 a13 a14 (fun w0_0 =>
 bif w0_0 then
 G.slices_Equal_Thing ρ a6 a7 a8 a15 a16 a17 (fun w1_0 =>
 bif w1_0 then
 k0 true
 else k0 false)
 else k0 false)
 else k0 false
def Qz_g (n : Nat) : Qz_G := ⟨slices_Equal_Slot n, slices_Equal_Thing n⟩
def Qz (n : Nat) : Qz_T := fun _ρ a0 a1 a2 a3 a4 a5 a6 a7 a8 a9 a10 a11 a12 a13 a14 a15 a16 a17 k0 => Qz_s (Qz_g n) n a0 a1 a2 a3 a4 a5 a6 a7 a8 a9 a10 a11 a12 a13 a14 a15 a16 a17 k0
def Qz_e (n : Nat) : EK := Qz_E (Qz n)
def Qz_S (G : Qz_G) : CK := tabS [(32, slices_Equal_Slot_E G.slices_Equal_Slot), (33, slices_Equal_Thing_E G.slices_Equal_Thing)]
theorem Qz_Sok (n : Nat) : CK.OK (Qz_S (Qz_g n)) (L tab) := tabS_ok _ (List.forall_mem_cons.2 ⟨(slices_Equal_Slot_ok n), List.forall_mem_cons.2 ⟨(slices_Equal_Thing_ok n), (fun _ h => nomatch h)⟩⟩)
def Qz_hs : HintC := hintL []
def Qz_lp (_G : Qz_G) (_n : Nat) : LK := tabL []
theorem Qz_k (G : Qz_G) {ρ : Type} (n : Nat) (a0 a1 a2 : Int) (a3 a4 : Bool) (a5 : Rows) (a6 a7 : Bool) (a8 : Rows) (a9 a10 a11 : Int) (a12 a13 : Bool) (a14 : Rows) (a15 a16 : Bool) (a17 : Rows) (K : Res → Option ρ) : runC (Qz_S G) Qz_hs (Qz_lp G n) m11 [.agg [.i .i64 a0, .i .i64 a1, .i .i64 a2, .lst a3 a4 5 a5, .lst a6 a7 13 a8], .agg [.i .i64 a9, .i .i64 a10, .i .i64 a11, .lst a12 a13 5 a14, .lst a15 a16 13 a17]] K = Qz_s G n a0 a1 a2 a3 a4 a5 a6 a7 a8 a9 a10 a11 a12 a13 a14 a15 a16 a17 (fun w0 => K ⟨.b w0, [], []⟩) := by kernel_rfl
theorem Qz_ok (n : Nat) : EK.OK (Qz_e n) 11 (L tab) := EK.shp (fun _ _ _ => rfl) fun ρ K y c e => EK.run (Qz_Sok n) (by kernel_rfl) (MF.LKOK.of (LK.of (l := []) (by kernel_rfl) ((fun _ h => nomatch h)))) (Qz_k (Qz_g n) n _ _ _ _ _ _ _ _ _ _ _ _ _ _ _ _ _ _ K) (by kernel_rfl) e
abbrev Q3_T : Type 1 := (ρ : Type) → Int → Int → Int → Bool → Bool → Rows → Bool → Bool → Rows → Int → Int → Bool → Bool → Rows → Bool → Bool → Rows → Int → Int → Int → (Bool → Option ρ) → Option ρ
def Q3_E (G : Q3_T) : EK := fun ρ args K => decL [.agg [.i .i64 none, .i .i64 none, .i .i64 none, .lst none none 5 none, .lst none none 13 none], .i .i64 none, .agg [.i .i64 none, .lst none none 1 none, .lst none none 1 none, .i .i64 none, .i .i64 none, .i .u64 none]] args fun c => G ρ c.1.1 c.1.2.1 c.1.2.2.1 c.1.2.2.2.1.1 c.1.2.2.2.1.2.1 c.1.2.2.2.1.2.2 c.1.2.2.2.2.1.1 c.1.2.2.2.2.1.2.1 c.1.2.2.2.2.1.2.2 c.2.1 c.2.2.1.1 c.2.2.1.2.1.1 c.2.2.1.2.1.2.1 c.2.2.1.2.1.2.2 c.2.2.1.2.2.1.1 c.2.2.1.2.2.1.2.1 c.2.2.1.2.2.1.2.2 c.2.2.1.2.2.2.1 c.2.2.1.2.2.2.2.1 c.2.2.1.2.2.2.2.2.1 (fun w0 => K ⟨.b w0, [], []⟩)
structure Q3_G where
 mk ::
 Q08 : Q08_T
 reevelaw15_heavy : reevelaw15_heavy_T
 Qj : Qj_T
 Qr : Qr_T
 Qz : Qz_T
 Qq : Qq_T
 Q6 : Q6_T
 Q0 : Q0_T
 Qb : Qb_T
abbrev Q3_l13_V : Type := Int × Int × Int
def Q3_l13_s (_G : Q3_G) {ρ : Type} (_n : Nat) (p0 _p1 : Int) (_p2 _p3 : Int) (_p4 _p5 : Bool) (_p6 : Rows) (_p7 _p8 : Bool) (p9 : Rows) (_p10 : Int) (_p11 _p12 : Bool) (_p13 : Rows) (_p14 _p15 : Bool) (_p16 : Rows) (_p17 _p18 : Int) (_p19 _p20 : Int) (_p21 _p22 : Int) (_p23 _p24 : Bool) (_p25 : Rows) (_p26 _p27 : Bool) (p28 : Rows) (_p29 p30 : Int) (k0 : (Int → Int → Option ρ)) (k1 : (Int → Int → Option ρ)) (rec' : Q3_l13_V → Option ρ) : Q3_l13_V → Option ρ
 | v =>
 bif decide ((v.2.2 : Int) < (((List.length (p9 : Rows)) : Nat) : Int)) then
 rowT [.i .i64, .i .i64, .i .i64, .i .i64, .i .i64, .i .i64, .i .i64, .b, .i .u64, .i .u64, .i .u64, .i .u64, .i .u64] p28 v.2.2 fun c0 =>
 rowT [.i .i64, .i .i64, .i .i64, .i .i64, .i .i64, .i .i64, .i .i64, .b, .i .u64, .i .u64, .i .u64, .i .u64, .i .u64] p9 v.2.2 fun c1 =>
 bif (((c0.1 : Int) == c1.1) && (((c0.2.1 : Int) == c1.2.1) && (((c0.2.2.1 : Int) == c1.2.2.1) && (((c0.2.2.2.1 : Int) == c1.2.2.2.1) && (((c0.2.2.2.2.1 : Int) == c1.2.2.2.2.1) && (((c0.2.2.2.2.2.1 : Int) == c1.2.2.2.2.2.1) && (((c0.2.2.2.2.2.2.1 : Int) == c1.2.2.2.2.2.2.1) && (((c0.2.2.2.2.2.2.2.1 : Bool) == c1.2.2.2.2.2.2.2.1) && (((c0.2.2.2.2.2.2.2.2.1 : Int) == c1.2.2.2.2.2.2.2.2.1) && (((c0.2.2.2.2.2.2.2.2.2.1 : Int) == c1.2.2.2.2.2.2.2.2.2.1) && (((c0.2.2.2.2.2.2.2.2.2.2.1 : Int) == c1.2.2.2.2.2.2.2.2.2.2.1) && (((c0.2.2.2.2.2.2.2.2.2.2.2.1 : Int) == c1.2.2.2.2.2.2.2.2.2.2.2.1) && (((c0.2.2.2.2.2.2.2.2.2.2.2.2.1 : Int) == c1.2.2.2.2.2.2.2.2.2.2.2.2.1) && true))))))))))))) then
 rec' (v.1, v.2.1, (IntKind.wrap .i64 (v.2.2 + 1)))
 else bif ((v.2.2 : Int) == p30) then
 rec' (v.1, (IntKind.wrap .i64 (v.2.1 + 1)), (IntKind.wrap .i64 (v.2.2 + 1)))
 else rowT [.i .i64, .i .i64, .i .i64, .i .i64, .i .i64, .i .i64, .i .i64, .b, .i .u64, .i .u64, .i .u64, .i .u64, .i .u64] p9 v.2.2 fun c2 =>
 bif ((c2.1 : Int) != 1) then
 k0 v.1 v.2.1
 else rowT [.i .i64, .i .i64, .i .i64, .i .i64, .i .i64, .i .i64, .i .i64, .b, .i .u64, .i .u64, .i .u64, .i .u64, .i .u64] p28 v.2.2 fun c3 =>
 bif decide ((c3.2.2.2.2.1 : Int) < p0) then
 k0 v.1 v.2.1
 else rowT [.i .i64, .i .i64, .i .i64, .i .i64, .i .i64, .i .i64, .i .i64, .b, .i .u64, .i .u64, .i .u64, .i .u64, .i .u64] p28 v.2.2 fun c4 =>
 rowT [.i .i64, .i .i64, .i .i64, .i .i64, .i .i64, .i .i64, .i .i64, .b, .i .u64, .i .u64, .i .u64, .i .u64, .i .u64] p28 v.2.2 fun c5 =>
 bif decide ((c4.2.2.2.2.1 : Int) > c5.2.2.2.1) then
 k0 v.1 v.2.1
 else rec' ((IntKind.wrap .i64 (v.1 + 1)), v.2.1, (IntKind.wrap .i64 (v.2.2 + 1)))
 else k1 v.1 v.2.1
def Q3_l13 (G : Q3_G) {ρ : Type} (n : Nat) (p0 p1 : Int) (p2 p3 : Int) (p4 p5 : Bool) (p6 : Rows) (p7 p8 : Bool) (p9 : Rows) (p10 : Int) (p11 p12 : Bool) (p13 : Rows) (p14 p15 : Bool) (p16 : Rows) (p17 p18 : Int) (p19 p20 : Int) (p21 p22 : Int) (p23 p24 : Bool) (p25 : Rows) (p26 p27 : Bool) (p28 : Rows) (p29 p30 : Int) (k0 : (Int → Int → Option ρ)) (k1 : (Int → Int → Option ρ)) (v : Q3_l13_V) : Option ρ := fuelN (Q3_l13_s G n p0 p1 p2 p3 p4 p5 p6 p7 p8 p9 p10 p11 p12 p13 p14 p15 p16 p17 p18 p19 p20 p21 p22 p23 p24 p25 p26 p27 p28 p29 p30 k0 k1) n v
def Q3_l13_enc (p0 p1 : Int) (p2 p3 : Int) (p4 p5 : Bool) (p6 : Rows) (p7 p8 : Bool) (p9 : Rows) (p10 : Int) (p11 p12 : Bool) (p13 : Rows) (p14 p15 : Bool) (p16 : Rows) (p17 p18 : Int) (p19 p20 : Int) (p21 p22 : Int) (p23 p24 : Bool) (p25 : Rows) (p26 p27 : Bool) (p28 : Rows) (p29 p30 : Int) : Q3_l13_V → St
 | v => ⟨[(3, .ptr 0 1 5 0 0), (7, .ptr 2 1 5 0 0), (8, .ptr 3 1 3 0 0), (9, .i .i64 p0), (11, .i .i64 v.1), (12, .i .i64 v.2.1), (13, .i .i64 v.2.2)], [.row 5 true false [[.i .i64 p1, .i .i64 p2, .i .i64 p3, .lst p4 p5 5 p6, .lst p7 p8 13 p9]], .row 6 true false [[.i .i64 p10, .lst p11 p12 1 p13, .lst p14 p15 1 p16, .i .i64 p17, .i .i64 p18, .i .u64 p19]], .row 5 true false [[.i .i64 p20, .i .i64 p21, .i .i64 p22, .lst p23 p24 5 p25, .lst p26 p27 13 p28]], .row 3 true false [[.i .i64 p29, .i .u64 0, .i .i64 p30]]]⟩
abbrev Q3_l23_V : Type := Int × Int
def Q3_l23_s (_G : Q3_G) {ρ : Type} (_n : Nat) (_p0 _p1 : Int) (_p2 _p3 _p4 : Int) (_p5 _p6 : Bool) (p7 : Rows) (_p8 _p9 : Bool) (_p10 : Rows) (_p11 : Int) (_p12 _p13 : Bool) (_p14 : Rows) (_p15 _p16 : Bool) (_p17 : Rows) (_p18 _p19 : Int) (_p20 _p21 : Int) (_p22 _p23 : Int) (_p24 _p25 : Bool) (p26 : Rows) (_p27 _p28 : Bool) (_p29 : Rows) (_p30 _p31 : Int) (k0 : (Int → Option ρ)) (rec' : Q3_l23_V → Option ρ) : Q3_l23_V → Option ρ
 | v =>
 bif decide ((v.2 : Int) < (((List.length (p7 : Rows)) : Nat) : Int)) then
 rowT [.i .i64, .i .i64, .i .i64, .i .i64, .i .i64] p26 v.2 fun c0 =>
 rowT [.i .i64, .i .i64, .i .i64, .i .i64, .i .i64] p7 v.2 fun c1 =>
 bif (!(((c0.1 : Int) == c1.1) && (((c0.2.1 : Int) == c1.2.1) && (((c0.2.2.1 : Int) == c1.2.2.1) && (((c0.2.2.2.1 : Int) == c1.2.2.2.1) && (((c0.2.2.2.2.1 : Int) == c1.2.2.2.2.1) && true)))))) then
 rec' ((IntKind.wrap .i64 (v.1 + 1)), (IntKind.wrap .i64 (v.2 + 1)))
 else rec' (v.1, (IntKind.wrap .i64 (v.2 + 1)))
 else k0 v.1
def Q3_l23 (G : Q3_G) {ρ : Type} (n : Nat) (p0 p1 : Int) (p2 p3 p4 : Int) (p5 p6 : Bool) (p7 : Rows) (p8 p9 : Bool) (p10 : Rows) (p11 : Int) (p12 p13 : Bool) (p14 : Rows) (p15 p16 : Bool) (p17 : Rows) (p18 p19 : Int) (p20 p21 : Int) (p22 p23 : Int) (p24 p25 : Bool) (p26 : Rows) (p27 p28 : Bool) (p29 : Rows) (p30 p31 : Int) (k0 : (Int → Option ρ)) (v : Q3_l23_V) : Option ρ := fuelN (Q3_l23_s G n p0 p1 p2 p3 p4 p5 p6 p7 p8 p9 p10 p11 p12 p13 p14 p15 p16 p17 p18 p19 p20 p21 p22 p23 p24 p25 p26 p27 p28 p29 p30 p31 k0) n v
def Q3_l23_enc (p0 p1 : Int) (p2 p3 p4 : Int) (p5 p6 : Bool) (p7 : Rows) (p8 p9 : Bool) (p10 : Rows) (p11 : Int) (p12 p13 : Bool) (p14 : Rows) (p15 p16 : Bool) (p17 : Rows) (p18 p19 : Int) (p20 p21 : Int) (p22 p23 : Int) (p24 p25 : Bool) (p26 : Rows) (p27 p28 : Bool) (p29 : Rows) (p30 p31 : Int) : Q3_l23_V → St
 | v => ⟨[(3, .ptr 0 1 5 0 0), (7, .ptr 2 1 5 0 0), (8, .ptr 3 1 3 0 0), (11, .i .i64 p0), (12, .i .i64 p1), (14, .i .i64 v.1), (15, .i .i64 v.2)], [.row 5 true false [[.i .i64 p2, .i .i64 p3, .i .i64 p4, .lst p5 p6 5 p7, .lst p8 p9 13 p10]], .row 6 true false [[.i .i64 p11, .lst p12 p13 1 p14, .lst p15 p16 1 p17, .i .i64 p18, .i .i64 p19, .i .u64 p20]], .row 5 true false [[.i .i64 p21, .i .i64 p22, .i .i64 p23, .lst p24 p25 5 p26, .lst p27 p28 13 p29]], .row 3 true false [[.i .i64 p30, .i .u64 0, .i .i64 p31]]]⟩
def Q3_s (G : Q3_G) {ρ : Type} (n : Nat) (a0 a1 a2 : Int) (a3 a4 : Bool) (a5 : Rows) (a6 a7 : Bool) (a8 : Rows) (a9 a10 : Int) (a11 a12 : Bool) (a13 : Rows) (a14 a15 : Bool) (a16 : Rows) (a17 a18 a19 : Int) (k0 : (Bool → Option ρ)) : Option ρ :=
 G.Q08 ρ (fun w0_0 =>
 bif w0_0 then
 G.reevelaw15_heavy ρ a0 a1 a2 a3 a4 a5 a6 a7 a8 a10 a11 a12 a13 a14 a15 a16 a17 a18 a19 (fun w1_0 =>
 bif w1_0 then
 k0 true
 else G.Qj ρ a0 a1 a2 a3 a4 a5 a6 a7 a8 (fun w2_0 =>
 bif w2_0 then
 bif ((a10 : Int) != 1) then
 k0 true
 else G.Qr ρ a0 a1 a2 a3 a4 a5 a6 a7 a8 a9 a10 a11 a12 a13 a14 a15 a16 a17 a18 a19 (fun w3_0 w3_1 w3_2 w3_3 w3_4 w3_5 w3_6 w3_7 =>
 bif ((w3_6 : Int) != 0) then
 G.Qz ρ a0 a1 a2 w3_0 w3_1 w3_2 w3_3 w3_4 w3_5 a0 a1 a2 a3 a4 a5 a6 a7 a8 (fun w4_0 =>
 bif w4_0 then
 k0 true
 else k0 false)
 else G.Qq ρ a17 a18 (fun w5_0 w5_1 =>
 bif w5_1 then
 bif (((((List.length (w3_5 : Rows)) : Nat) : Int) : Int) != (((List.length (a8 : Rows)) : Nat) : Int)) then
 k0 false
 else bif (((((List.length (w3_2 : Rows)) : Nat) : Int) : Int) != (((List.length (a5 : Rows)) : Nat) : Int)) then
 k0 false
 else bif decide ((w3_7 : Int) < 0) then
 k0 false
 else bif decide ((w3_7 : Int) ≥ (((List.length (a8 : Rows)) : Nat) : Int)) then
 k0 false
 else Q3_l13 G n w5_0 a0 a1 a2 a3 a4 a5 a6 a7 a8 a10 a11 a12 a13 a14 a15 a16 a17 a18 a19 a0 a1 a2 w3_0 w3_1 w3_2 w3_3 w3_4 w3_5 w3_6 w3_7 (fun _w6_0 _w6_1 =>
 k0 false) (fun w7_0 w7_1 =>
 Q3_l23 G n w7_0 w7_1 a0 a1 a2 a3 a4 a5 a6 a7 a8 a10 a11 a12 a13 a14 a15 a16 a17 a18 a19 a0 a1 a2 w3_0 w3_1 w3_2 w3_3 w3_4 w3_5 w3_6 w3_7 (fun w8_0 =>
 bif decide ((w7_0 : Int) ≤ 1) then
 bif ((w7_1 : Int) == 1) then
 bif ((w8_0 : Int) == 1) then
 G.Q6 ρ a0 a1 a2 w3_0 w3_1 w3_2 w3_3 w3_4 w3_5 (fun w9_0 w9_1 w9_2 =>
 G.Q0 ρ w9_0 w9_1 w9_2 (fun w10_0 =>
 bif w10_0 then
 G.Qb ρ a0 a1 a2 a3 a4 a5 a6 a7 a8 (fun w11_0 =>
 bif ((w11_0 : Int) == w3_7) then
 k0 true
 else k0 false)
 else k0 false))
 else k0 false
 else k0 false
 else k0 false) (0, 0)) (0, 0, 0)
 else k0 false))
 else k0 true))
 else k0 false)
def Q3_g (n : Nat) : Q3_G := ⟨Q08 n, reevelaw15_heavy n, Qj n, Qr n, Qz n, Qq n, Q6 n, Q0 n, Qb n⟩
def Q3 (n : Nat) : Q3_T := fun _ρ a0 a1 a2 a3 a4 a5 a6 a7 a8 a9 a10 a11 a12 a13 a14 a15 a16 a17 a18 a19 k0 => Q3_s (Q3_g n) n a0 a1 a2 a3 a4 a5 a6 a7 a8 a9 a10 a11 a12 a13 a14 a15 a16 a17 a18 a19 k0
def Q3_e (n : Nat) : EK := Q3_E (Q3 n)
def Q3_S (G : Q3_G) : CK := tabS [(7, Q08_E G.Q08), (8, reevelaw15_heavy_E G.reevelaw15_heavy), (9, Qj_E G.Qj), (10, Qr_E G.Qr), (11, Qz_E G.Qz), (12, Qq_E G.Qq), (14, Q6_E G.Q6), (13, Q0_E G.Q0), (15, Qb_E G.Qb)]
theorem Q3_Sok (n : Nat) : CK.OK (Q3_S (Q3_g n)) (L tab) := tabS_ok _ (List.forall_mem_cons.2 ⟨(Q08_ok n), List.forall_mem_cons.2 ⟨(reevelaw15_heavy_ok n), List.forall_mem_cons.2 ⟨(Qj_ok n), List.forall_mem_cons.2 ⟨(Qr_ok n), List.forall_mem_cons.2 ⟨(Qz_ok n), List.forall_mem_cons.2 ⟨(Qq_ok n), List.forall_mem_cons.2 ⟨(Q6_ok n), List.forall_mem_cons.2 ⟨(Q0_ok n), List.forall_mem_cons.2 ⟨(Qb_ok n), (fun _ h => nomatch h)⟩⟩⟩⟩⟩⟩⟩⟩⟩)
def Q3_hs : HintC := hintL [(95, [.i .i64, .i .i64, .i .i64, .i .i64, .i .i64, .i .i64, .i .i64, .b, .i .u64, .i .u64, .i .u64, .i .u64, .i .u64]), (100, [.i .i64, .i .i64, .i .i64, .i .i64, .i .i64, .i .i64, .i .i64, .b, .i .u64, .i .u64, .i .u64, .i .u64, .i .u64]), (112, [.i .i64, .i .i64, .i .i64, .i .i64, .i .i64, .i .i64, .i .i64, .b, .i .u64, .i .u64, .i .u64, .i .u64, .i .u64]), (120, [.i .i64, .i .i64, .i .i64, .i .i64, .i .i64, .i .i64, .i .i64, .b, .i .u64, .i .u64, .i .u64, .i .u64, .i .u64]), (130, [.i .i64, .i .i64, .i .i64, .i .i64, .i .i64, .i .i64, .i .i64, .b, .i .u64, .i .u64, .i .u64, .i .u64, .i .u64]), (136, [.i .i64, .i .i64, .i .i64, .i .i64, .i .i64, .i .i64, .i .i64, .b, .i .u64, .i .u64, .i .u64, .i .u64, .i .u64]), (153, [.i .i64, .i .i64, .i .i64, .i .i64, .i .i64]), (158, [.i .i64, .i .i64, .i .i64, .i .i64, .i .i64])]
def Q3_c13 : Nat × List Nat × List Nat × MC := loopAt 13 m3
def Q3_l13_d (G : Q3_G) (n : Nat) : Go.Rv.LE := fun _ρ h K => decSt [(3, .ptr 0 5 0 (some 1) (some 0)), (7, .ptr 2 5 0 (some 1) (some 0)), (8, .ptr 3 3 0 (some 1) (some 0)), (9, .i .i64 none), (11, .i .i64 none), (12, .i .i64 none), (13, .i .i64 none)] [.row 5 true false (some [[.i .i64 none, .i .i64 none, .i .i64 none, .lst none none 5 none, .lst none none 13 none]]), .row 6 true false (some [[.i .i64 none, .lst none none 1 none, .lst none none 1 none, .i .i64 none, .i .i64 none, .i .u64 none]]), .row 5 true false (some [[.i .i64 none, .i .i64 none, .i .i64 none, .lst none none 5 none, .lst none none 13 none]]), .row 3 true false (some [[.i .i64 none, .i .u64 (some 0), .i .i64 none]])] h fun a b => Q3_l13 G n a.2.2.2.1 b.1.1.1 b.1.1.2.1 b.1.1.2.2.1 b.1.1.2.2.2.1.1 b.1.1.2.2.2.1.2.1 b.1.1.2.2.2.1.2.2 b.1.1.2.2.2.2.1.1 b.1.1.2.2.2.2.1.2.1 b.1.1.2.2.2.2.1.2.2 b.2.1.1.1 b.2.1.1.2.1.1 b.2.1.1.2.1.2.1 b.2.1.1.2.1.2.2 b.2.1.1.2.2.1.1 b.2.1.1.2.2.1.2.1 b.2.1.1.2.2.1.2.2 b.2.1.1.2.2.2.1 b.2.1.1.2.2.2.2.1 b.2.1.1.2.2.2.2.2.1 b.2.2.1.1.1 b.2.2.1.1.2.1 b.2.2.1.1.2.2.1 b.2.2.1.1.2.2.2.1.1 b.2.2.1.1.2.2.2.1.2.1 b.2.2.1.1.2.2.2.1.2.2 b.2.2.1.1.2.2.2.2.1.1 b.2.2.1.1.2.2.2.2.1.2.1 b.2.2.1.1.2.2.2.2.1.2.2 b.2.2.2.1.1.1 b.2.2.2.1.1.2.2.1 (fun w0 w1 => K .ret ⟨[(3, .ptr 0 1 5 0 0), (6, .b false), (7, .ptr 2 1 5 0 0), (8, .ptr 3 1 3 0 0), (11, .i .i64 w0), (12, .i .i64 w1)], [.row 5 true false [[.i .i64 b.1.1.1, .i .i64 b.1.1.2.1, .i .i64 b.1.1.2.2.1, .lst b.1.1.2.2.2.1.1 b.1.1.2.2.2.1.2.1 5 b.1.1.2.2.2.1.2.2, .lst b.1.1.2.2.2.2.1.1 b.1.1.2.2.2.2.1.2.1 13 b.1.1.2.2.2.2.1.2.2]], .row 6 true false [[.i .i64 b.2.1.1.1, .lst b.2.1.1.2.1.1 b.2.1.1.2.1.2.1 1 b.2.1.1.2.1.2.2, .lst b.2.1.1.2.2.1.1 b.2.1.1.2.2.1.2.1 1 b.2.1.1.2.2.1.2.2, .i .i64 b.2.1.1.2.2.2.1, .i .i64 b.2.1.1.2.2.2.2.1, .i .u64 b.2.1.1.2.2.2.2.2.1]], .row 5 true false [[.i .i64 b.2.2.1.1.1, .i .i64 b.2.2.1.1.2.1, .i .i64 b.2.2.1.1.2.2.1, .lst b.2.2.1.1.2.2.2.1.1 b.2.2.1.1.2.2.2.1.2.1 5 b.2.2.1.1.2.2.2.1.2.2, .lst b.2.2.1.1.2.2.2.2.1.1 b.2.2.1.1.2.2.2.2.1.2.1 13 b.2.2.1.1.2.2.2.2.1.2.2]], .row 3 true false [[.i .i64 b.2.2.2.1.1.1, .i .u64 0, .i .i64 b.2.2.2.1.1.2.2.1]]]⟩) (fun w0 w1 => K (.exit 0) ⟨[(3, .ptr 0 1 5 0 0), (6, .u), (7, .ptr 2 1 5 0 0), (8, .ptr 3 1 3 0 0), (11, .i .i64 w0), (12, .i .i64 w1)], [.row 5 true false [[.i .i64 b.1.1.1, .i .i64 b.1.1.2.1, .i .i64 b.1.1.2.2.1, .lst b.1.1.2.2.2.1.1 b.1.1.2.2.2.1.2.1 5 b.1.1.2.2.2.1.2.2, .lst b.1.1.2.2.2.2.1.1 b.1.1.2.2.2.2.1.2.1 13 b.1.1.2.2.2.2.1.2.2]], .row 6 true false [[.i .i64 b.2.1.1.1, .lst b.2.1.1.2.1.1 b.2.1.1.2.1.2.1 1 b.2.1.1.2.1.2.2, .lst b.2.1.1.2.2.1.1 b.2.1.1.2.2.1.2.1 1 b.2.1.1.2.2.1.2.2, .i .i64 b.2.1.1.2.2.2.1, .i .i64 b.2.1.1.2.2.2.2.1, .i .u64 b.2.1.1.2.2.2.2.2.1]], .row 5 true false [[.i .i64 b.2.2.1.1.1, .i .i64 b.2.2.1.1.2.1, .i .i64 b.2.2.1.1.2.2.1, .lst b.2.2.1.1.2.2.2.1.1 b.2.2.1.1.2.2.2.1.2.1 5 b.2.2.1.1.2.2.2.1.2.2, .lst b.2.2.1.1.2.2.2.2.1.1 b.2.2.1.1.2.2.2.2.1.2.1 13 b.2.2.1.1.2.2.2.2.1.2.2]], .row 3 true false [[.i .i64 b.2.2.2.1.1.1, .i .u64 0, .i .i64 b.2.2.2.1.1.2.2.1]]]⟩) (a.2.2.2.2.1, a.2.2.2.2.2.1, a.2.2.2.2.2.2.1)
def Q3_d13 (G : Q3_G) (n : Nat) : Go.Rv.LE := Q3_l13_d G n
def Q3_c23 : Nat × List Nat × List Nat × MC := loopAt 23 m3
def Q3_l23_d (G : Q3_G) (n : Nat) : Go.Rv.LE := fun _ρ h K => decSt [(3, .ptr 0 5 0 (some 1) (some 0)), (7, .ptr 2 5 0 (some 1) (some 0)), (8, .ptr 3 3 0 (some 1) (some 0)), (11, .i .i64 none), (12, .i .i64 none), (14, .i .i64 none), (15, .i .i64 none)] [.row 5 true false (some [[.i .i64 none, .i .i64 none, .i .i64 none, .lst none none 5 none, .lst none none 13 none]]), .row 6 true false (some [[.i .i64 none, .lst none none 1 none, .lst none none 1 none, .i .i64 none, .i .i64 none, .i .u64 none]]), .row 5 true false (some [[.i .i64 none, .i .i64 none, .i .i64 none, .lst none none 5 none, .lst none none 13 none]]), .row 3 true false (some [[.i .i64 none, .i .u64 (some 0), .i .i64 none]])] h fun a b => Q3_l23 G n a.2.2.2.1 a.2.2.2.2.1 b.1.1.1 b.1.1.2.1 b.1.1.2.2.1 b.1.1.2.2.2.1.1 b.1.1.2.2.2.1.2.1 b.1.1.2.2.2.1.2.2 b.1.1.2.2.2.2.1.1 b.1.1.2.2.2.2.1.2.1 b.1.1.2.2.2.2.1.2.2 b.2.1.1.1 b.2.1.1.2.1.1 b.2.1.1.2.1.2.1 b.2.1.1.2.1.2.2 b.2.1.1.2.2.1.1 b.2.1.1.2.2.1.2.1 b.2.1.1.2.2.1.2.2 b.2.1.1.2.2.2.1 b.2.1.1.2.2.2.2.1 b.2.1.1.2.2.2.2.2.1 b.2.2.1.1.1 b.2.2.1.1.2.1 b.2.2.1.1.2.2.1 b.2.2.1.1.2.2.2.1.1 b.2.2.1.1.2.2.2.1.2.1 b.2.2.1.1.2.2.2.1.2.2 b.2.2.1.1.2.2.2.2.1.1 b.2.2.1.1.2.2.2.2.1.2.1 b.2.2.1.1.2.2.2.2.1.2.2 b.2.2.2.1.1.1 b.2.2.2.1.1.2.2.1 (fun w0 => K (.exit 2) ⟨[(3, .ptr 0 1 5 0 0), (7, .ptr 2 1 5 0 0), (8, .ptr 3 1 3 0 0), (11, .i .i64 a.2.2.2.1), (12, .i .i64 a.2.2.2.2.1), (14, .i .i64 w0)], [.row 5 true false [[.i .i64 b.1.1.1, .i .i64 b.1.1.2.1, .i .i64 b.1.1.2.2.1, .lst b.1.1.2.2.2.1.1 b.1.1.2.2.2.1.2.1 5 b.1.1.2.2.2.1.2.2, .lst b.1.1.2.2.2.2.1.1 b.1.1.2.2.2.2.1.2.1 13 b.1.1.2.2.2.2.1.2.2]], .row 6 true false [[.i .i64 b.2.1.1.1, .lst b.2.1.1.2.1.1 b.2.1.1.2.1.2.1 1 b.2.1.1.2.1.2.2, .lst b.2.1.1.2.2.1.1 b.2.1.1.2.2.1.2.1 1 b.2.1.1.2.2.1.2.2, .i .i64 b.2.1.1.2.2.2.1, .i .i64 b.2.1.1.2.2.2.2.1, .i .u64 b.2.1.1.2.2.2.2.2.1]], .row 5 true false [[.i .i64 b.2.2.1.1.1, .i .i64 b.2.2.1.1.2.1, .i .i64 b.2.2.1.1.2.2.1, .lst b.2.2.1.1.2.2.2.1.1 b.2.2.1.1.2.2.2.1.2.1 5 b.2.2.1.1.2.2.2.1.2.2, .lst b.2.2.1.1.2.2.2.2.1.1 b.2.2.1.1.2.2.2.2.1.2.1 13 b.2.2.1.1.2.2.2.2.1.2.2]], .row 3 true false [[.i .i64 b.2.2.2.1.1.1, .i .u64 0, .i .i64 b.2.2.2.1.1.2.2.1]]]⟩) (a.2.2.2.2.2.1, a.2.2.2.2.2.2.1)
def Q3_d23 (G : Q3_G) (n : Nat) : Go.Rv.LE := Q3_l23_d G n
def Q3_lp (G : Q3_G) (n : Nat) : LK := tabL [(13, Q3_d13 G n), (23, Q3_d23 G n)]
theorem Q3_l13_k (G : Q3_G) {ρ : Type} (n : Nat) (p0 p1 : Int) (p2 p3 : Int) (p4 p5 : Bool) (p6 : Rows) (p7 p8 : Bool) (p9 : Rows) (p10 : Int) (p11 p12 : Bool) (p13 : Rows) (p14 p15 : Bool) (p16 : Rows) (p17 p18 : Int) (p19 p20 : Int) (p21 p22 : Int) (p23 p24 : Bool) (p25 : Rows) (p26 p27 : Bool) (p28 : Rows) (p29 p30 : Int) (K : Ex → St → Option ρ) (N : St → Option ρ) : ∀ v, roundC (Q3_S G) Q3_hs (Q3_lp G n) Q3_c13 4 N K (Q3_l13_enc p0 p1 p2 p3 p4 p5 p6 p7 p8 p9 p10 p11 p12 p13 p14 p15 p16 p17 p18 p19 p20 p21 p22 p23 p24 p25 p26 p27 p28 p29 p30 v) = Q3_l13_s G n p0 p1 p2 p3 p4 p5 p6 p7 p8 p9 p10 p11 p12 p13 p14 p15 p16 p17 p18 p19 p20 p21 p22 p23 p24 p25 p26 p27 p28 p29 p30 (fun w0 w1 => K .ret ⟨[(3, .ptr 0 1 5 0 0), (6, .b false), (7, .ptr 2 1 5 0 0), (8, .ptr 3 1 3 0 0), (11, .i .i64 w0), (12, .i .i64 w1)], [.row 5 true false [[.i .i64 p1, .i .i64 p2, .i .i64 p3, .lst p4 p5 5 p6, .lst p7 p8 13 p9]], .row 6 true false [[.i .i64 p10, .lst p11 p12 1 p13, .lst p14 p15 1 p16, .i .i64 p17, .i .i64 p18, .i .u64 p19]], .row 5 true false [[.i .i64 p20, .i .i64 p21, .i .i64 p22, .lst p23 p24 5 p25, .lst p26 p27 13 p28]], .row 3 true false [[.i .i64 p29, .i .u64 0, .i .i64 p30]]]⟩) (fun w0 w1 => K (.exit 0) ⟨[(3, .ptr 0 1 5 0 0), (6, .u), (7, .ptr 2 1 5 0 0), (8, .ptr 3 1 3 0 0), (11, .i .i64 w0), (12, .i .i64 w1)], [.row 5 true false [[.i .i64 p1, .i .i64 p2, .i .i64 p3, .lst p4 p5 5 p6, .lst p7 p8 13 p9]], .row 6 true false [[.i .i64 p10, .lst p11 p12 1 p13, .lst p14 p15 1 p16, .i .i64 p17, .i .i64 p18, .i .u64 p19]], .row 5 true false [[.i .i64 p20, .i .i64 p21, .i .i64 p22, .lst p23 p24 5 p25, .lst p26 p27 13 p28]], .row 3 true false [[.i .i64 p29, .i .u64 0, .i .i64 p30]]]⟩) (fun v => N (Q3_l13_enc p0 p1 p2 p3 p4 p5 p6 p7 p8 p9 p10 p11 p12 p13 p14 p15 p16 p17 p18 p19 p20 p21 p22 p23 p24 p25 p26 p27 p28 p29 p30 v)) v
 | v => by kernel_rfl
theorem Q3_l13_dok (n : Nat) : LE.OK (Q3_l13_d (Q3_g n) n) (L tab) Q3_c13 := LE.shp (fun _ _ _ => rfl) fun ρ K y a b e => LE.rounds (Q3_Sok n) (LK.of (l := []) (by kernel_rfl) ((fun _ h => nomatch h))) (Q3_l13_k (Q3_g n) n _ _ _ _ _ _ _ _ _ _ _ _ _ _ _ _ _ _ _ _ _ _ _ _ _ _ _ _ _ _ _ K) (by kernel_rfl) (by kernel_rfl) e
theorem Q3_d13_ok (n : Nat) : LE.OK (Q3_d13 (Q3_g n) n) (L tab) Q3_c13 := Q3_l13_dok n
theorem Q3_l23_k (G : Q3_G) {ρ : Type} (n : Nat) (p0 p1 : Int) (p2 p3 p4 : Int) (p5 p6 : Bool) (p7 : Rows) (p8 p9 : Bool) (p10 : Rows) (p11 : Int) (p12 p13 : Bool) (p14 : Rows) (p15 p16 : Bool) (p17 : Rows) (p18 p19 : Int) (p20 p21 : Int) (p22 p23 : Int) (p24 p25 : Bool) (p26 : Rows) (p27 p28 : Bool) (p29 : Rows) (p30 p31 : Int) (K : Ex → St → Option ρ) (N : St → Option ρ) : ∀ v, roundC (Q3_S G) Q3_hs (Q3_lp G n) Q3_c23 4 N K (Q3_l23_enc p0 p1 p2 p3 p4 p5 p6 p7 p8 p9 p10 p11 p12 p13 p14 p15 p16 p17 p18 p19 p20 p21 p22 p23 p24 p25 p26 p27 p28 p29 p30 p31 v) = Q3_l23_s G n p0 p1 p2 p3 p4 p5 p6 p7 p8 p9 p10 p11 p12 p13 p14 p15 p16 p17 p18 p19 p20 p21 p22 p23 p24 p25 p26 p27 p28 p29 p30 p31 (fun w0 => K (.exit 2) ⟨[(3, .ptr 0 1 5 0 0), (7, .ptr 2 1 5 0 0), (8, .ptr 3 1 3 0 0), (11, .i .i64 p0), (12, .i .i64 p1), (14, .i .i64 w0)], [.row 5 true false [[.i .i64 p2, .i .i64 p3, .i .i64 p4, .lst p5 p6 5 p7, .lst p8 p9 13 p10]], .row 6 true false [[.i .i64 p11, .lst p12 p13 1 p14, .lst p15 p16 1 p17, .i .i64 p18, .i .i64 p19, .i .u64 p20]], .row 5 true false [[.i .i64 p21, .i .i64 p22, .i .i64 p23, .lst p24 p25 5 p26, .lst p27 p28 13 p29]], .row 3 true false [[.i .i64 p30, .i .u64 0, .i .i64 p31]]]⟩) (fun v => N (Q3_l23_enc p0 p1 p2 p3 p4 p5 p6 p7 p8 p9 p10 p11 p12 p13 p14 p15 p16 p17 p18 p19 p20 p21 p22 p23 p24 p25 p26 p27 p28 p29 p30 p31 v)) v
 | v => by kernel_rfl
theorem Q3_l23_dok (n : Nat) : LE.OK (Q3_l23_d (Q3_g n) n) (L tab) Q3_c23 := LE.shp (fun _ _ _ => rfl) fun ρ K y a b e => LE.rounds (Q3_Sok n) (LK.of (l := []) (by kernel_rfl) ((fun _ h => nomatch h))) (Q3_l23_k (Q3_g n) n _ _ _ _ _ _ _ _ _ _ _ _ _ _ _ _ _ _ _ _ _ _ _ _ _ _ _ _ _ _ _ _ K) (by kernel_rfl) (by kernel_rfl) e
theorem Q3_d23_ok (n : Nat) : LE.OK (Q3_d23 (Q3_g n) n) (L tab) Q3_c23 := Q3_l23_dok n
theorem Q3_k (G : Q3_G) {ρ : Type} (n : Nat) (a0 a1 a2 : Int) (a3 a4 : Bool) (a5 : Rows) (a6 a7 : Bool) (a8 : Rows) (a9 a10 : Int) (a11 a12 : Bool) (a13 : Rows) (a14 a15 : Bool) (a16 : Rows) (a17 a18 a19 : Int) (K : Res → Option ρ) : runC (Q3_S G) Q3_hs (Q3_lp G n) m3 [.agg [.i .i64 a0, .i .i64 a1, .i .i64 a2, .lst a3 a4 5 a5, .lst a6 a7 13 a8], .i .i64 a9, .agg [.i .i64 a10, .lst a11 a12 1 a13, .lst a14 a15 1 a16, .i .i64 a17, .i .i64 a18, .i .u64 a19]] K = Q3_s G n a0 a1 a2 a3 a4 a5 a6 a7 a8 a9 a10 a11 a12 a13 a14 a15 a16 a17 a18 a19 (fun w0 => K ⟨.b w0, [], []⟩) := by kernel_rfl
theorem Q3_ok (n : Nat) : EK.OK (Q3_e n) 3 (L tab) := EK.shp (fun _ _ _ => rfl) fun ρ K y c e => EK.run (Q3_Sok n) (by kernel_rfl) (MF.LKOK.of (LK.of (l := [Q3_c13, Q3_c23]) (by kernel_rfl) (List.forall_mem_cons.2 ⟨LE.at (e := Q3_d13 (Q3_g n) n) (by kernel_rfl) (Q3_d13_ok n), List.forall_mem_cons.2 ⟨LE.at (e := Q3_d23 (Q3_g n) n) (by kernel_rfl) (Q3_d23_ok n), (fun _ h => nomatch h)⟩⟩))) (Q3_k (Q3_g n) n _ _ _ _ _ _ _ _ _ _ _ _ _ _ _ _ _ _ _ _ K) (by kernel_rfl) e
end Go.Rv
