/- functions as programs of ours, and their ties, part 2 -/
import Derived.Test.YtbmobnjhdealiaaNa
import Derived.KernelRfl
noncomputable section
namespace Go.Rv
abbrev Q2_T : Type 1 := (ρ : Type) → Bool → Bool → Rows → (Bool → Option ρ) → Option ρ
def Q2_E (G : Q2_T) : EK := fun ρ args K => decL [.agg [.lst none none 1 none]] args fun c => G ρ c.1.1.1 c.1.1.2.1 c.1.1.2.2 (fun w0 => K ⟨.b w0, [], []⟩)
structure Q2_G where
 mk ::
 forest_Forest_is : forest_Forest_is_T
abbrev Q2_l4_V : Type := Int
def Q2_l4_s (G : Q2_G) {ρ : Type} (_n : Nat) (_p0 _p1 : Bool) (p2 : Rows) (p3 : Int) (p4 p5 : Bool) (p6 : Rows) (k0 : (Option ρ)) (k1 : (Option ρ)) (rec' : Q2_l4_V → Option ρ) : Q2_l4_V → Option ρ
 | v =>
 bif decide ((v : Int) < p3) then
 rowT [.i .i64] p2 v fun c0 =>
 bif ((c0.1 : Int) != (-2)) then
 bif ((c0.1 : Int) != (-1)) then
 G.forest_Forest_is ρ p4 p5 p6 c0.1 (fun w1_0 =>
 bif w1_0 then
 rec' ((IntKind.wrap .i64 (v + 1)))
 else k0)
 else rec' ((IntKind.wrap .i64 (v + 1)))
 else rec' ((IntKind.wrap .i64 (v + 1)))
 else k1
def Q2_l4 (G : Q2_G) {ρ : Type} (n : Nat) (p0 p1 : Bool) (p2 : Rows) (p3 : Int) (p4 p5 : Bool) (p6 : Rows) (k0 : (Option ρ)) (k1 : (Option ρ)) (v : Q2_l4_V) : Option ρ := fuelN (Q2_l4_s G n p0 p1 p2 p3 p4 p5 p6 k0 k1) n v
def Q2_l4_enc (p0 p1 : Bool) (p2 : Rows) (p3 : Int) (p4 p5 : Bool) (p6 : Rows) : Q2_l4_V → St
 | v => ⟨[(1, .ptr 0 1 1 0 0), (13, .lst p0 p1 1 p2), (14, .i .i64 p3), (15, .i .i64 v)], [.row 1 true false [[.lst p4 p5 1 p6]]]⟩
abbrev Q2_l14_V : Type := Int × Int
def Q2_l14_s (G : Q2_G) {ρ : Type} (_n : Nat) (_p1 _p2 : Int) (p3 p4 : Bool) (p5 : Rows) (k0 : (Option ρ)) (k1 : (Option ρ)) (rec' : Q2_l14_V → Option ρ) : Q2_l14_V → Option ρ
 | v =>
 G.forest_Forest_is ρ p3 p4 p5 v.2 (fun w0_0 =>
 bif w0_0 then
 bif decide ((v.1 : Int) > (((List.length (p5 : Rows)) : Nat) : Int)) then
 k0
 else rowT [.i .i64] p5 v.2 fun c1 =>
 rec' ((IntKind.wrap .i64 (v.1 + 1)), c1.1)
 else k1)
def Q2_l14 (G : Q2_G) {ρ : Type} (n : Nat) (p1 p2 : Int) (p3 p4 : Bool) (p5 : Rows) (k0 : (Option ρ)) (k1 : (Option ρ)) (v : Q2_l14_V) : Option ρ := fuelN (Q2_l14_s G n p1 p2 p3 p4 p5 k0 k1) n v
def Q2_l14_enc (p1 p2 : Int) (p3 p4 : Bool) (p5 : Rows) : Q2_l14_V → St
 | v => ⟨[(1, .ptr 0 1 1 0 0), (6, .i .i64 v.1), (7, .i .i64 v.2), (34, .i .i64 p1), (35, .i .i64 p2)], [.row 1 true false [[.lst p3 p4 1 p5]]]⟩
abbrev Q2_l10_V : Type := Int
def Q2_l10_s (G : Q2_G) {ρ : Type} (n : Nat) (p0 : Int) (p1 p2 : Bool) (p3 : Rows) (k0 : (Option ρ)) (k1 : (Option ρ)) (rec' : Q2_l10_V → Option ρ) : Q2_l10_V → Option ρ
 | v =>
 bif decide ((v : Int) < p0) then
 Q2_l14 G n p0 v p1 p2 p3 (k0) (rec' ((IntKind.wrap .i64 (v + 1)))) (0, v)
 else k1
def Q2_l10 (G : Q2_G) {ρ : Type} (n : Nat) (p0 : Int) (p1 p2 : Bool) (p3 : Rows) (k0 : (Option ρ)) (k1 : (Option ρ)) (v : Q2_l10_V) : Option ρ := fuelN (Q2_l10_s G n p0 p1 p2 p3 k0 k1) n v
def Q2_l10_enc (p0 : Int) (p1 p2 : Bool) (p3 : Rows) : Q2_l10_V → St
 | v => ⟨[(1, .ptr 0 1 1 0 0), (34, .i .i64 p0), (35, .i .i64 v)], [.row 1 true false [[.lst p1 p2 1 p3]]]⟩
def Q2_s (G : Q2_G) {ρ : Type} (n : Nat) (a0 a1 : Bool) (a2 : Rows) (k0 : (Bool → Option ρ)) : Option ρ :=
 bif decide (((((List.length (a2 : Rows)) : Nat) : Int) : Int) > 96) then
 k0 false
 else Q2_l4 G n a0 a1 a2 (((List.length (a2 : Rows)) : Nat) : Int) a0 a1 a2 (k0 false) (Q2_l10 G n (((List.length (a2 : Rows)) : Nat) : Int) a0 a1 a2 (k0 false) (k0 true) (0)) (0)
def Q2_g (n : Nat) : Q2_G := ⟨forest_Forest_is n⟩
def Q2 (n : Nat) : Q2_T := fun _ρ a0 a1 a2 k0 => Q2_s (Q2_g n) n a0 a1 a2 k0
def Q2_e (n : Nat) : EK := Q2_E (Q2 n)
def Q2_S (G : Q2_G) : CK := tabS [(35, forest_Forest_is_E G.forest_Forest_is)]
theorem Q2_Sok (n : Nat) : CK.OK (Q2_S (Q2_g n)) (L tab) := tabS_ok _ (List.forall_mem_cons.2 ⟨(forest_Forest_is_ok n), (fun _ h => nomatch h)⟩)
def Q2_hs : HintC := hintL [(17, [.i .i64]), (45, [.i .i64])]
def Q2_c4 : Nat × List Nat × List Nat × MC := loopAt 4 m13
def Q2_l4_d (G : Q2_G) (n : Nat) : Go.Rv.LE := fun _ρ h K => decSt [(1, .ptr 0 1 0 (some 1) (some 0)), (13, .lst none none 1 none), (14, .i .i64 none), (15, .i .i64 none)] [.row 1 true false (some [[.lst none none 1 none]])] h fun a b => Q2_l4 G n a.2.1.1 a.2.1.2.1 a.2.1.2.2 a.2.2.1 b.1.1.1.1 b.1.1.1.2.1 b.1.1.1.2.2 (K .ret ⟨[(1, .ptr 0 1 1 0 0), (2, .b false)], [.row 1 true false [[.lst b.1.1.1.1 b.1.1.1.2.1 1 b.1.1.1.2.2]]]⟩) (K (.exit 0) ⟨[(1, .ptr 0 1 1 0 0), (2, .u)], [.row 1 true false [[.lst b.1.1.1.1 b.1.1.1.2.1 1 b.1.1.1.2.2]]]⟩) (a.2.2.2.1)
def Q2_d4 (G : Q2_G) (n : Nat) : Go.Rv.LE := Q2_l4_d G n
def Q2_c14 : Nat × List Nat × List Nat × MC := loopAt 14 m13
def Q2_l14_d (G : Q2_G) (n : Nat) : Go.Rv.LE := fun _ρ h K => decSt [(1, .ptr 0 1 0 (some 1) (some 0)), (6, .i .i64 none), (7, .i .i64 none), (34, .i .i64 none), (35, .i .i64 none)] [.row 1 true false (some [[.lst none none 1 none]])] h fun a b => Q2_l14 G n a.2.2.2.1 a.2.2.2.2.1 b.1.1.1.1 b.1.1.1.2.1 b.1.1.1.2.2 (K .ret ⟨[(1, .ptr 0 1 1 0 0), (2, .b false), (34, .i .i64 a.2.2.2.1), (35, .i .i64 a.2.2.2.2.1)], [.row 1 true false [[.lst b.1.1.1.1 b.1.1.1.2.1 1 b.1.1.1.2.2]]]⟩) (K (.exit 4) ⟨[(1, .ptr 0 1 1 0 0), (2, .u), (34, .i .i64 a.2.2.2.1), (35, .i .i64 a.2.2.2.2.1)], [.row 1 true false [[.lst b.1.1.1.1 b.1.1.1.2.1 1 b.1.1.1.2.2]]]⟩) (a.2.1, a.2.2.1)
def Q2_d14 (G : Q2_G) (n : Nat) : Go.Rv.LE := Q2_l14_d G n
def Q2_c10 : Nat × List Nat × List Nat × MC := loopAt 10 m13
def Q2_l10_d (G : Q2_G) (n : Nat) : Go.Rv.LE := fun _ρ h K => decSt [(1, .ptr 0 1 0 (some 1) (some 0)), (34, .i .i64 none), (35, .i .i64 none)] [.row 1 true false (some [[.lst none none 1 none]])] h fun a b => Q2_l10 G n a.2.1 b.1.1.1.1 b.1.1.1.2.1 b.1.1.1.2.2 (K .ret ⟨[(2, .b false)], [.row 1 true false [[.lst b.1.1.1.1 b.1.1.1.2.1 1 b.1.1.1.2.2]]]⟩) (K (.exit 2) ⟨[(2, .u)], [.row 1 true false [[.lst b.1.1.1.1 b.1.1.1.2.1 1 b.1.1.1.2.2]]]⟩) (a.2.2.1)
def Q2_d10 (G : Q2_G) (n : Nat) : Go.Rv.LE := Q2_l10_d G n
def Q2_lp (G : Q2_G) (n : Nat) : LK := tabL [(4, Q2_d4 G n), (14, Q2_d14 G n), (10, Q2_d10 G n)]
theorem Q2_l4_k (G : Q2_G) {ρ : Type} (n : Nat) (p0 p1 : Bool) (p2 : Rows) (p3 : Int) (p4 p5 : Bool) (p6 : Rows) (K : Ex → St → Option ρ) (N : St → Option ρ) : ∀ v, roundC (Q2_S G) Q2_hs (Q2_lp G n) Q2_c4 1 N K (Q2_l4_enc p0 p1 p2 p3 p4 p5 p6 v) = Q2_l4_s G n p0 p1 p2 p3 p4 p5 p6 (K .ret ⟨[(1, .ptr 0 1 1 0 0), (2, .b false)], [.row 1 true false [[.lst p4 p5 1 p6]]]⟩) (K (.exit 0) ⟨[(1, .ptr 0 1 1 0 0), (2, .u)], [.row 1 true false [[.lst p4 p5 1 p6]]]⟩) (fun v => N (Q2_l4_enc p0 p1 p2 p3 p4 p5 p6 v)) v
 | v => by kernel_rfl
theorem Q2_l4_dok (n : Nat) : LE.OK (Q2_l4_d (Q2_g n) n) (L tab) Q2_c4 := LE.shp (fun _ _ _ => rfl) fun ρ K y a b e => LE.rounds (Q2_Sok n) (LK.of (l := []) (by kernel_rfl) ((fun _ h => nomatch h))) (Q2_l4_k (Q2_g n) n _ _ _ _ _ _ _ K) (by kernel_rfl) (by kernel_rfl) e
theorem Q2_d4_ok (n : Nat) : LE.OK (Q2_d4 (Q2_g n) n) (L tab) Q2_c4 := Q2_l4_dok n
theorem Q2_l14_k (G : Q2_G) {ρ : Type} (n : Nat) (p1 p2 : Int) (p3 p4 : Bool) (p5 : Rows) (K : Ex → St → Option ρ) (N : St → Option ρ) : ∀ v, roundC (Q2_S G) Q2_hs (Q2_lp G n) Q2_c14 1 N K (Q2_l14_enc p1 p2 p3 p4 p5 v) = Q2_l14_s G n p1 p2 p3 p4 p5 (K .ret ⟨[(1, .ptr 0 1 1 0 0), (2, .b false), (34, .i .i64 p1), (35, .i .i64 p2)], [.row 1 true false [[.lst p3 p4 1 p5]]]⟩) (K (.exit 4) ⟨[(1, .ptr 0 1 1 0 0), (2, .u), (34, .i .i64 p1), (35, .i .i64 p2)], [.row 1 true false [[.lst p3 p4 1 p5]]]⟩) (fun v => N (Q2_l14_enc p1 p2 p3 p4 p5 v)) v
 | v => by kernel_rfl
theorem Q2_l14_dok (n : Nat) : LE.OK (Q2_l14_d (Q2_g n) n) (L tab) Q2_c14 := LE.shp (fun _ _ _ => rfl) fun ρ K y a b e => LE.rounds (Q2_Sok n) (LK.of (l := []) (by kernel_rfl) ((fun _ h => nomatch h))) (Q2_l14_k (Q2_g n) n _ _ _ _ _ K) (by kernel_rfl) (by kernel_rfl) e
theorem Q2_d14_ok (n : Nat) : LE.OK (Q2_d14 (Q2_g n) n) (L tab) Q2_c14 := Q2_l14_dok n
theorem Q2_l10_k (G : Q2_G) {ρ : Type} (n : Nat) (p0 : Int) (p1 p2 : Bool) (p3 : Rows) (K : Ex → St → Option ρ) (N : St → Option ρ) : ∀ v, roundC (Q2_S G) Q2_hs (Q2_lp G n) Q2_c10 1 N K (Q2_l10_enc p0 p1 p2 p3 v) = Q2_l10_s G n p0 p1 p2 p3 (K .ret ⟨[(2, .b false)], [.row 1 true false [[.lst p1 p2 1 p3]]]⟩) (K (.exit 2) ⟨[(2, .u)], [.row 1 true false [[.lst p1 p2 1 p3]]]⟩) (fun v => N (Q2_l10_enc p0 p1 p2 p3 v)) v
 | v => by kernel_rfl
theorem Q2_l10_dok (n : Nat) : LE.OK (Q2_l10_d (Q2_g n) n) (L tab) Q2_c10 := LE.shp (fun _ _ _ => rfl) fun ρ K y a b e => LE.rounds (Q2_Sok n) (LK.of (l := [Q2_c14]) (by kernel_rfl) (List.forall_mem_cons.2 ⟨LE.at (e := Q2_d14 (Q2_g n) n) (by kernel_rfl) (Q2_d14_ok n), (fun _ h => nomatch h)⟩)) (Q2_l10_k (Q2_g n) n _ _ _ _ K) (by kernel_rfl) (by kernel_rfl) e
theorem Q2_d10_ok (n : Nat) : LE.OK (Q2_d10 (Q2_g n) n) (L tab) Q2_c10 := Q2_l10_dok n
theorem Q2_k (G : Q2_G) {ρ : Type} (n : Nat) (a0 a1 : Bool) (a2 : Rows) (K : Res → Option ρ) : runC (Q2_S G) Q2_hs (Q2_lp G n) m13 [.agg [.lst a0 a1 1 a2]] K = Q2_s G n a0 a1 a2 (fun w0 => K ⟨.b w0, [], []⟩) := by kernel_rfl
theorem Q2_ok (n : Nat) : EK.OK (Q2_e n) 13 (L tab) := EK.shp (fun _ _ _ => rfl) fun ρ K y c e => EK.run (Q2_Sok n) (by kernel_rfl) (MF.LKOK.of (LK.of (l := [Q2_c4, Q2_c10]) (by kernel_rfl) (List.forall_mem_cons.2 ⟨LE.at (e := Q2_d4 (Q2_g n) n) (by kernel_rfl) (Q2_d4_ok n), List.forall_mem_cons.2 ⟨LE.at (e := Q2_d10 (Q2_g n) n) (by kernel_rfl) (Q2_d10_ok n), (fun _ h => nomatch h)⟩⟩))) (Q2_k (Q2_g n) n _ _ _ K) (by kernel_rfl) e
abbrev Qq_T : Type 1 := (ρ : Type) → Int → (Int → Option ρ) → Option ρ
def Qq_E (G : Qq_T) : EK := fun ρ args K => decL [.i .i64 none] args fun c => G ρ c.1 (fun w0 => K ⟨.i .i64 w0, [], []⟩)
structure Qq_G where
 mk ::
 right_Good : right_Good_T
def Qq_s (G : Qq_G) {ρ : Type} (_n : Nat) (a0 : Int) (k0 : (Int → Option ρ)) : Option ρ :=
 G.right_Good ρ a0 (fun w0_0 =>
 bif w0_0 then
 k0 a0
 else k0 0)
def Qq_g (n : Nat) : Qq_G := ⟨right_Good n⟩
def Qq (n : Nat) : Qq_T := fun _ρ a0 k0 => Qq_s (Qq_g n) n a0 k0
def Qq_e (n : Nat) : EK := Qq_E (Qq n)
def Qq_S (G : Qq_G) : CK := tabS [(63, right_Good_E G.right_Good)]
theorem Qq_Sok (n : Nat) : CK.OK (Qq_S (Qq_g n)) (L tab) := tabS_ok _ (List.forall_mem_cons.2 ⟨(right_Good_ok n), (fun _ h => nomatch h)⟩)
def Qq_hs : HintC := hintL []
def Qq_lp (_G : Qq_G) (_n : Nat) : LK := tabL []
theorem Qq_k (G : Qq_G) {ρ : Type} (n : Nat) (a0 : Int) (K : Res → Option ρ) : runC (Qq_S G) Qq_hs (Qq_lp G n) m82 [.i .i64 a0] K = Qq_s G n a0 (fun w0 => K ⟨.i .i64 w0, [], []⟩) := by kernel_rfl
theorem Qq_ok (n : Nat) : EK.OK (Qq_e n) 82 (L tab) := EK.shp (fun _ _ _ => rfl) fun ρ K y c e => EK.run (Qq_Sok n) (by kernel_rfl) (MF.LKOK.of (LK.of (l := []) (by kernel_rfl) ((fun _ h => nomatch h)))) (Qq_k (Qq_g n) n _ K) (by kernel_rfl) e
abbrev Q00_T : Type 1 := (ρ : Type) → Int → Int → (Int → Option ρ) → Option ρ
def Q00_E (G : Q00_T) : EK := fun ρ args K => decL [.i .i64 none, .i .i64 none] args fun c => G ρ c.1 c.2.1 (fun w0 => K ⟨.i .i64 w0, [], []⟩)
structure Q00_G where
 mk ::
 Qq : Qq_T
def Q00_s (G : Q00_G) {ρ : Type} (_n : Nat) (a0 a1 : Int) (k0 : (Int → Option ρ)) : Option ρ :=
 G.Qq ρ a0 (fun w0_0 =>
 G.Qq ρ a1 (fun w1_0 =>
 k0 (IntKind.wrap .i64 (BitVec.ofInt (IntKind.bits .i64) w0_0 &&& ~~~ BitVec.ofInt (IntKind.bits .i64) w1_0).toNat)))
def Q00_g (n : Nat) : Q00_G := ⟨Qq n⟩
def Q00 (n : Nat) : Q00_T := fun _ρ a0 a1 k0 => Q00_s (Q00_g n) n a0 a1 k0
def Q00_e (n : Nat) : EK := Q00_E (Q00 n)
def Q00_S (G : Q00_G) : CK := tabS [(82, Qq_E G.Qq)]
theorem Q00_Sok (n : Nat) : CK.OK (Q00_S (Q00_g n)) (L tab) := tabS_ok _ (List.forall_mem_cons.2 ⟨(Qq_ok n), (fun _ h => nomatch h)⟩)
def Q00_hs : HintC := hintL []
def Q00_lp (_G : Q00_G) (_n : Nat) : LK := tabL []
theorem Q00_k (G : Q00_G) {ρ : Type} (n : Nat) (a0 a1 : Int) (K : Res → Option ρ) : runC (Q00_S G) Q00_hs (Q00_lp G n) m61 [.i .i64 a0, .i .i64 a1] K = Q00_s G n a0 a1 (fun w0 => K ⟨.i .i64 w0, [], []⟩) := by kernel_rfl
theorem Q00_ok (n : Nat) : EK.OK (Q00_e n) 61 (L tab) := EK.shp (fun _ _ _ => rfl) fun ρ K y c e => EK.run (Q00_Sok n) (by kernel_rfl) (MF.LKOK.of (LK.of (l := []) (by kernel_rfl) ((fun _ h => nomatch h)))) (Q00_k (Q00_g n) n _ _ K) (by kernel_rfl) e
abbrev Qr_T : Type 1 := (ρ : Type) → Int → Int → (Bool → Option ρ) → Option ρ
def Qr_E (G : Qr_T) : EK := fun ρ args K => decL [.i .i64 none, .i .i64 none] args fun c => G ρ c.1 c.2.1 (fun w0 => K ⟨.b w0, [], []⟩)
structure Qr_G where
 mk ::
 Q00 : Q00_T
def Qr_s (G : Qr_G) {ρ : Type} (_n : Nat) (a0 a1 : Int) (k0 : (Bool → Option ρ)) : Option ρ :=
 G.Q00 ρ a0 a1 (fun w0_0 =>
 bif ((w0_0 : Int) == 0) then
 k0 true
 else k0 false)
def Qr_g (n : Nat) : Qr_G := ⟨Q00 n⟩
def Qr (n : Nat) : Qr_T := fun _ρ a0 a1 k0 => Qr_s (Qr_g n) n a0 a1 k0
def Qr_e (n : Nat) : EK := Qr_E (Qr n)
def Qr_S (G : Qr_G) : CK := tabS [(61, Q00_E G.Q00)]
theorem Qr_Sok (n : Nat) : CK.OK (Qr_S (Qr_g n)) (L tab) := tabS_ok _ (List.forall_mem_cons.2 ⟨(Q00_ok n), (fun _ h => nomatch h)⟩)
def Qr_hs : HintC := hintL []
def Qr_lp (_G : Qr_G) (_n : Nat) : LK := tabL []
theorem Qr_k (G : Qr_G) {ρ : Type} (n : Nat) (a0 a1 : Int) (K : Res → Option ρ) : runC (Qr_S G) Qr_hs (Qr_lp G n) m41 [.i .i64 a0, .i .i64 a1] K = Qr_s G n a0 a1 (fun w0 => K ⟨.b w0, [], []⟩) := by kernel_rfl
theorem Qr_ok (n : Nat) : EK.OK (Qr_e n) 41 (L tab) := EK.shp (fun _ _ _ => rfl) fun ρ K y c e => EK.run (Qr_Sok n) (by kernel_rfl) (MF.LKOK.of (LK.of (l := []) (by kernel_rfl) ((fun _ h => nomatch h)))) (Qr_k (Qr_g n) n _ _ K) (by kernel_rfl) e
abbrev Qu_T : Type 1 := (ρ : Type) → Int → Int → Int → Int → Int → Int → Int → Int → (Bool → Option ρ) → Option ρ
def Qu_E (G : Qu_T) : EK := fun ρ args K => decL [.agg [.i .i64 none, .i .i64 none, .i .i64 none, .i .i64 none], .agg [.i .i64 none, .i .i64 none, .i .i64 none, .i .i64 none]] args fun c => G ρ c.1.1 c.1.2.1 c.1.2.2.1 c.1.2.2.2.1 c.2.1.1 c.2.1.2.1 c.2.1.2.2.1 c.2.1.2.2.2.1 (fun w0 => K ⟨.b w0, [], []⟩)
structure Qu_G where
 mk ::
 cap_None : cap_None_T
 Qr : Qr_T
def Qu_s (G : Qu_G) {ρ : Type} (_n : Nat) (a0 a1 : Int) (a2 a3 : Int) (a4 a5 : Int) (a6 a7 : Int) (k0 : (Bool → Option ρ)) : Option ρ :=
 G.cap_None ρ a0 a1 a2 a3 (fun w0_0 =>
 bif w0_0 then
 k0 true
 else bif ((a0 : Int) == a4) then
 bif ((a1 : Int) == a5) then
 G.Qr ρ a2 a6 (fun w1_0 =>
 bif w1_0 then
 bif ((a7 : Int) == 0) then
 k0 true
 else bif ((a7 : Int) == a3) then
 k0 true
 else k0 false
 else k0 false)
 else k0 false
 else k0 false)
def Qu_g (n : Nat) : Qu_G := ⟨cap_None n, Qr n⟩
def Qu (n : Nat) : Qu_T := fun _ρ a0 a1 a2 a3 a4 a5 a6 a7 k0 => Qu_s (Qu_g n) n a0 a1 a2 a3 a4 a5 a6 a7 k0
def Qu_e (n : Nat) : EK := Qu_E (Qu n)
def Qu_S (G : Qu_G) : CK := tabS [(21, cap_None_E G.cap_None), (41, Qr_E G.Qr)]
theorem Qu_Sok (n : Nat) : CK.OK (Qu_S (Qu_g n)) (L tab) := tabS_ok _ (List.forall_mem_cons.2 ⟨(cap_None_ok n), List.forall_mem_cons.2 ⟨(Qr_ok n), (fun _ h => nomatch h)⟩⟩)
def Qu_hs : HintC := hintL []
def Qu_lp (_G : Qu_G) (_n : Nat) : LK := tabL []
theorem Qu_k (G : Qu_G) {ρ : Type} (n : Nat) (a0 a1 : Int) (a2 a3 : Int) (a4 a5 : Int) (a6 a7 : Int) (K : Res → Option ρ) : runC (Qu_S G) Qu_hs (Qu_lp G n) m22 [.agg [.i .i64 a0, .i .i64 a1, .i .i64 a2, .i .i64 a3], .agg [.i .i64 a4, .i .i64 a5, .i .i64 a6, .i .i64 a7]] K = Qu_s G n a0 a1 a2 a3 a4 a5 a6 a7 (fun w0 => K ⟨.b w0, [], []⟩) := by kernel_rfl
theorem Qu_ok (n : Nat) : EK.OK (Qu_e n) 22 (L tab) := EK.shp (fun _ _ _ => rfl) fun ρ K y c e => EK.run (Qu_Sok n) (by kernel_rfl) (MF.LKOK.of (LK.of (l := []) (by kernel_rfl) ((fun _ h => nomatch h)))) (Qu_k (Qu_g n) n _ _ _ _ _ _ _ _ K) (by kernel_rfl) e
abbrev Q4_T : Type 1 := (ρ : Type) → Int → Int → Int → Bool → Bool → Rows → Bool → Bool → Rows → (Bool → Option ρ) → Option ρ
def Q4_E (G : Q4_T) : EK := fun ρ args K => decL [.agg [.i .i64 none, .i .i64 none, .i .i64 none, .lst none none 5 none, .lst none none 13 none]] args fun c => G ρ c.1.1 c.1.2.1 c.1.2.2.1 c.1.2.2.2.1.1 c.1.2.2.2.1.2.1 c.1.2.2.2.1.2.2 c.1.2.2.2.2.1.1 c.1.2.2.2.2.1.2.1 c.1.2.2.2.2.1.2.2 (fun w0 => K ⟨.b w0, [], []⟩)
structure Q4_G where
 mk ::
 Qu : Qu_T
abbrev Q4_l6_V : Type := Int × Int
def Q4_l6_s (G : Q4_G) {ρ : Type} (_n : Nat) (_p1 _p2 : Bool) (_p3 : Rows) (_p4 _p5 : Int) (p6 _p7 : Int) (_p8 _p9 : Int) (_p10 _p11 : Bool) (p12 : Rows) (_p13 _p14 : Bool) (_p15 : Rows) (p16 p17 : Int) (p18 p19 _p20 : Int) (k0 : (Option ρ)) (k1 : (Option ρ)) (rec' : Q4_l6_V → Option ρ) : Q4_l6_V → Option ρ
 | v =>
 bif decide ((v.2 : Int) < p6) then
 bif decide ((v.1 : Int) < 0) then
 k0
 else rowT [.i .i64, .i .i64, .i .i64, .i .i64, .i .i64] p12 v.1 fun c0 =>
 G.Qu ρ p16 p17 p18 p19 c0.1 c0.2.1 c0.2.2.1 c0.2.2.2.1 (fun w1_0 =>
 bif w1_0 then
 rec' (c0.2.2.2.2.1, (IntKind.wrap .i64 (v.2 + 1)))
 else bif ((c0.1 : Int) != 1) then
 k1
 else bif ((p17 : Int) == c0.2.1) then
 k1
 else rec' (c0.2.2.2.2.1, (IntKind.wrap .i64 (v.2 + 1))))
 else k0
def Q4_l6 (G : Q4_G) {ρ : Type} (n : Nat) (p1 p2 : Bool) (p3 : Rows) (p4 p5 : Int) (p6 p7 : Int) (p8 p9 : Int) (p10 p11 : Bool) (p12 : Rows) (p13 p14 : Bool) (p15 : Rows) (p16 p17 : Int) (p18 p19 p20 : Int) (k0 : (Option ρ)) (k1 : (Option ρ)) (v : Q4_l6_V) : Option ρ := fuelN (Q4_l6_s G n p1 p2 p3 p4 p5 p6 p7 p8 p9 p10 p11 p12 p13 p14 p15 p16 p17 p18 p19 p20 k0 k1) n v
def Q4_l6_enc (p1 p2 : Bool) (p3 : Rows) (p4 p5 : Int) (p6 p7 : Int) (p8 p9 : Int) (p10 p11 : Bool) (p12 : Rows) (p13 p14 : Bool) (p15 : Rows) (p16 p17 : Int) (p18 p19 p20 : Int) : Q4_l6_V → St
 | v => ⟨[(1, .ptr 0 1 5 0 0), (4, .ptr 1 1 5 0 0), (5, .i .i64 v.1), (8, .lst p1 p2 5 p3), (9, .i .i64 p4), (10, .i .i64 p5), (18, .i .i64 p6), (19, .i .i64 v.2)], [.row 5 true false [[.i .i64 p7, .i .i64 p8, .i .i64 p9, .lst p10 p11 5 p12, .lst p13 p14 13 p15]], .row 5 true false [[.i .i64 p16, .i .i64 p17, .i .i64 p18, .i .i64 p19, .i .i64 p20]]]⟩
abbrev Q4_l2_V : Type := Int
def Q4_l2_s (G : Q4_G) {ρ : Type} (n : Nat) (p0 p1 : Bool) (p2 : Rows) (p3 p4 : Int) (p5 p6 : Int) (p7 p8 : Bool) (p9 : Rows) (p10 p11 : Bool) (p12 : Rows) (k0 : (Option ρ)) (k1 : (Option ρ)) (rec' : Q4_l2_V → Option ρ) : Q4_l2_V → Option ρ
 | v =>
 bif decide ((v : Int) < p3) then
 rowT [.i .i64, .i .i64, .i .i64, .i .i64, .i .i64] p2 v fun c0 =>
 Q4_l6 G n p0 p1 p2 p3 v (((List.length (p9 : Rows)) : Nat) : Int) p4 p5 p6 p7 p8 p9 p10 p11 p12 c0.1 c0.2.1 c0.2.2.1 c0.2.2.2.1 c0.2.2.2.2.1 (rec' ((IntKind.wrap .i64 (v + 1)))) (k0) (c0.2.2.2.2.1, 0)
 else k1
def Q4_l2 (G : Q4_G) {ρ : Type} (n : Nat) (p0 p1 : Bool) (p2 : Rows) (p3 p4 : Int) (p5 p6 : Int) (p7 p8 : Bool) (p9 : Rows) (p10 p11 : Bool) (p12 : Rows) (k0 : (Option ρ)) (k1 : (Option ρ)) (v : Q4_l2_V) : Option ρ := fuelN (Q4_l2_s G n p0 p1 p2 p3 p4 p5 p6 p7 p8 p9 p10 p11 p12 k0 k1) n v
def Q4_l2_enc (p0 p1 : Bool) (p2 : Rows) (p3 p4 : Int) (p5 p6 : Int) (p7 p8 : Bool) (p9 : Rows) (p10 p11 : Bool) (p12 : Rows) : Q4_l2_V → St
 | v => ⟨[(1, .ptr 0 1 5 0 0), (8, .lst p0 p1 5 p2), (9, .i .i64 p3), (10, .i .i64 v)], [.row 5 true false [[.i .i64 p4, .i .i64 p5, .i .i64 p6, .lst p7 p8 5 p9, .lst p10 p11 13 p12]]]⟩
def Q4_s (G : Q4_G) {ρ : Type} (n : Nat) (a0 a1 a2 : Int) (a3 a4 : Bool) (a5 : Rows) (a6 a7 : Bool) (a8 : Rows) (k0 : (Bool → Option ρ)) : Option ρ :=
 Q4_l2 G n a3 a4 a5 (((List.length (a5 : Rows)) : Nat) : Int) a0 a1 a2 a3 a4 a5 a6 a7 a8 (k0 false) (k0 true) (0)
def Q4_g (n : Nat) : Q4_G := ⟨Qu n⟩
def Q4 (n : Nat) : Q4_T := fun _ρ a0 a1 a2 a3 a4 a5 a6 a7 a8 k0 => Q4_s (Q4_g n) n a0 a1 a2 a3 a4 a5 a6 a7 a8 k0
def Q4_e (n : Nat) : EK := Q4_E (Q4 n)
def Q4_S (G : Q4_G) : CK := tabS [(22, Qu_E G.Qu)]
theorem Q4_Sok (n : Nat) : CK.OK (Q4_S (Q4_g n)) (L tab) := tabS_ok _ (List.forall_mem_cons.2 ⟨(Qu_ok n), (fun _ h => nomatch h)⟩)
def Q4_hs : HintC := hintL [(12, [.i .i64, .i .i64, .i .i64, .i .i64, .i .i64]), (26, [.i .i64, .i .i64, .i .i64, .i .i64, .i .i64])]
def Q4_c6 : Nat × List Nat × List Nat × MC := loopAt 6 m30
def Q4_l6_d (G : Q4_G) (n : Nat) : Go.Rv.LE := fun _ρ h K => decSt [(1, .ptr 0 5 0 (some 1) (some 0)), (4, .ptr 1 5 0 (some 1) (some 0)), (5, .i .i64 none), (8, .lst none none 5 none), (9, .i .i64 none), (10, .i .i64 none), (18, .i .i64 none), (19, .i .i64 none)] [.row 5 true false (some [[.i .i64 none, .i .i64 none, .i .i64 none, .lst none none 5 none, .lst none none 13 none]]), .row 5 true false (some [[.i .i64 none, .i .i64 none, .i .i64 none, .i .i64 none, .i .i64 none]])] h fun a b => Q4_l6 G n a.2.2.2.1.1 a.2.2.2.1.2.1 a.2.2.2.1.2.2 a.2.2.2.2.1 a.2.2.2.2.2.1 a.2.2.2.2.2.2.1 b.1.1.1 b.1.1.2.1 b.1.1.2.2.1 b.1.1.2.2.2.1.1 b.1.1.2.2.2.1.2.1 b.1.1.2.2.2.1.2.2 b.1.1.2.2.2.2.1.1 b.1.1.2.2.2.2.1.2.1 b.1.1.2.2.2.2.1.2.2 b.2.1.1.1 b.2.1.1.2.1 b.2.1.1.2.2.1 b.2.1.1.2.2.2.1 b.2.1.1.2.2.2.2.1 (K (.exit 2) ⟨[(1, .ptr 0 1 5 0 0), (2, .u), (8, .lst a.2.2.2.1.1 a.2.2.2.1.2.1 5 a.2.2.2.1.2.2), (9, .i .i64 a.2.2.2.2.1), (10, .i .i64 a.2.2.2.2.2.1)], [.row 5 true false [[.i .i64 b.1.1.1, .i .i64 b.1.1.2.1, .i .i64 b.1.1.2.2.1, .lst b.1.1.2.2.2.1.1 b.1.1.2.2.2.1.2.1 5 b.1.1.2.2.2.1.2.2, .lst b.1.1.2.2.2.2.1.1 b.1.1.2.2.2.2.1.2.1 13 b.1.1.2.2.2.2.1.2.2]], .row 5 true false [[.i .i64 b.2.1.1.1, .i .i64 b.2.1.1.2.1, .i .i64 b.2.1.1.2.2.1, .i .i64 b.2.1.1.2.2.2.1, .i .i64 b.2.1.1.2.2.2.2.1]]]⟩) (K .ret ⟨[(1, .ptr 0 1 5 0 0), (2, .b false), (8, .lst a.2.2.2.1.1 a.2.2.2.1.2.1 5 a.2.2.2.1.2.2), (9, .i .i64 a.2.2.2.2.1), (10, .i .i64 a.2.2.2.2.2.1)], [.row 5 true false [[.i .i64 b.1.1.1, .i .i64 b.1.1.2.1, .i .i64 b.1.1.2.2.1, .lst b.1.1.2.2.2.1.1 b.1.1.2.2.2.1.2.1 5 b.1.1.2.2.2.1.2.2, .lst b.1.1.2.2.2.2.1.1 b.1.1.2.2.2.2.1.2.1 13 b.1.1.2.2.2.2.1.2.2]], .row 5 true false [[.i .i64 b.2.1.1.1, .i .i64 b.2.1.1.2.1, .i .i64 b.2.1.1.2.2.1, .i .i64 b.2.1.1.2.2.2.1, .i .i64 b.2.1.1.2.2.2.2.1]]]⟩) (a.2.2.1, a.2.2.2.2.2.2.2.1)
def Q4_d6 (G : Q4_G) (n : Nat) : Go.Rv.LE := Q4_l6_d G n
def Q4_c2 : Nat × List Nat × List Nat × MC := loopAt 2 m30
def Q4_l2_d (G : Q4_G) (n : Nat) : Go.Rv.LE := fun _ρ h K => decSt [(1, .ptr 0 5 0 (some 1) (some 0)), (8, .lst none none 5 none), (9, .i .i64 none), (10, .i .i64 none)] [.row 5 true false (some [[.i .i64 none, .i .i64 none, .i .i64 none, .lst none none 5 none, .lst none none 13 none]])] h fun a b => Q4_l2 G n a.2.1.1 a.2.1.2.1 a.2.1.2.2 a.2.2.1 b.1.1.1 b.1.1.2.1 b.1.1.2.2.1 b.1.1.2.2.2.1.1 b.1.1.2.2.2.1.2.1 b.1.1.2.2.2.1.2.2 b.1.1.2.2.2.2.1.1 b.1.1.2.2.2.2.1.2.1 b.1.1.2.2.2.2.1.2.2 (K .ret ⟨[(2, .b false)], [.row 5 true false [[.i .i64 b.1.1.1, .i .i64 b.1.1.2.1, .i .i64 b.1.1.2.2.1, .lst b.1.1.2.2.2.1.1 b.1.1.2.2.2.1.2.1 5 b.1.1.2.2.2.1.2.2, .lst b.1.1.2.2.2.2.1.1 b.1.1.2.2.2.2.1.2.1 13 b.1.1.2.2.2.2.1.2.2]]]⟩) (K (.exit 0) ⟨[(2, .u)], [.row 5 true false [[.i .i64 b.1.1.1, .i .i64 b.1.1.2.1, .i .i64 b.1.1.2.2.1, .lst b.1.1.2.2.2.1.1 b.1.1.2.2.2.1.2.1 5 b.1.1.2.2.2.1.2.2, .lst b.1.1.2.2.2.2.1.1 b.1.1.2.2.2.2.1.2.1 13 b.1.1.2.2.2.2.1.2.2]]]⟩) (a.2.2.2.1)
def Q4_d2 (G : Q4_G) (n : Nat) : Go.Rv.LE := Q4_l2_d G n
def Q4_lp (G : Q4_G) (n : Nat) : LK := tabL [(6, Q4_d6 G n), (2, Q4_d2 G n)]
theorem Q4_l6_k (G : Q4_G) {ρ : Type} (n : Nat) (p1 p2 : Bool) (p3 : Rows) (p4 p5 : Int) (p6 p7 : Int) (p8 p9 : Int) (p10 p11 : Bool) (p12 : Rows) (p13 p14 : Bool) (p15 : Rows) (p16 p17 : Int) (p18 p19 p20 : Int) (K : Ex → St → Option ρ) (N : St → Option ρ) : ∀ v, roundC (Q4_S G) Q4_hs (Q4_lp G n) Q4_c6 2 N K (Q4_l6_enc p1 p2 p3 p4 p5 p6 p7 p8 p9 p10 p11 p12 p13 p14 p15 p16 p17 p18 p19 p20 v) = Q4_l6_s G n p1 p2 p3 p4 p5 p6 p7 p8 p9 p10 p11 p12 p13 p14 p15 p16 p17 p18 p19 p20 (K (.exit 2) ⟨[(1, .ptr 0 1 5 0 0), (2, .u), (8, .lst p1 p2 5 p3), (9, .i .i64 p4), (10, .i .i64 p5)], [.row 5 true false [[.i .i64 p7, .i .i64 p8, .i .i64 p9, .lst p10 p11 5 p12, .lst p13 p14 13 p15]], .row 5 true false [[.i .i64 p16, .i .i64 p17, .i .i64 p18, .i .i64 p19, .i .i64 p20]]]⟩) (K .ret ⟨[(1, .ptr 0 1 5 0 0), (2, .b false), (8, .lst p1 p2 5 p3), (9, .i .i64 p4), (10, .i .i64 p5)], [.row 5 true false [[.i .i64 p7, .i .i64 p8, .i .i64 p9, .lst p10 p11 5 p12, .lst p13 p14 13 p15]], .row 5 true false [[.i .i64 p16, .i .i64 p17, .i .i64 p18, .i .i64 p19, .i .i64 p20]]]⟩) (fun v => N (Q4_l6_enc p1 p2 p3 p4 p5 p6 p7 p8 p9 p10 p11 p12 p13 p14 p15 p16 p17 p18 p19 p20 v)) v
 | v => by kernel_rfl
theorem Q4_l6_dok (n : Nat) : LE.OK (Q4_l6_d (Q4_g n) n) (L tab) Q4_c6 := LE.shp (fun _ _ _ => rfl) fun ρ K y a b e => LE.rounds (Q4_Sok n) (LK.of (l := []) (by kernel_rfl) ((fun _ h => nomatch h))) (Q4_l6_k (Q4_g n) n _ _ _ _ _ _ _ _ _ _ _ _ _ _ _ _ _ _ _ _ K) (by kernel_rfl) (by kernel_rfl) e
theorem Q4_d6_ok (n : Nat) : LE.OK (Q4_d6 (Q4_g n) n) (L tab) Q4_c6 := Q4_l6_dok n
theorem Q4_l2_k (G : Q4_G) {ρ : Type} (n : Nat) (p0 p1 : Bool) (p2 : Rows) (p3 p4 : Int) (p5 p6 : Int) (p7 p8 : Bool) (p9 : Rows) (p10 p11 : Bool) (p12 : Rows) (K : Ex → St → Option ρ) (N : St → Option ρ) : ∀ v, roundC (Q4_S G) Q4_hs (Q4_lp G n) Q4_c2 1 N K (Q4_l2_enc p0 p1 p2 p3 p4 p5 p6 p7 p8 p9 p10 p11 p12 v) = Q4_l2_s G n p0 p1 p2 p3 p4 p5 p6 p7 p8 p9 p10 p11 p12 (K .ret ⟨[(2, .b false)], [.row 5 true false [[.i .i64 p4, .i .i64 p5, .i .i64 p6, .lst p7 p8 5 p9, .lst p10 p11 13 p12]]]⟩) (K (.exit 0) ⟨[(2, .u)], [.row 5 true false [[.i .i64 p4, .i .i64 p5, .i .i64 p6, .lst p7 p8 5 p9, .lst p10 p11 13 p12]]]⟩) (fun v => N (Q4_l2_enc p0 p1 p2 p3 p4 p5 p6 p7 p8 p9 p10 p11 p12 v)) v
 | v => by kernel_rfl
theorem Q4_l2_dok (n : Nat) : LE.OK (Q4_l2_d (Q4_g n) n) (L tab) Q4_c2 := LE.shp (fun _ _ _ => rfl) fun ρ K y a b e => LE.rounds (Q4_Sok n) (LK.of (l := [Q4_c6]) (by kernel_rfl) (List.forall_mem_cons.2 ⟨LE.at (e := Q4_d6 (Q4_g n) n) (by kernel_rfl) (Q4_d6_ok n), (fun _ h => nomatch h)⟩)) (Q4_l2_k (Q4_g n) n _ _ _ _ _ _ _ _ _ _ _ _ _ K) (by kernel_rfl) (by kernel_rfl) e
theorem Q4_d2_ok (n : Nat) : LE.OK (Q4_d2 (Q4_g n) n) (L tab) Q4_c2 := Q4_l2_dok n
theorem Q4_k (G : Q4_G) {ρ : Type} (n : Nat) (a0 a1 a2 : Int) (a3 a4 : Bool) (a5 : Rows) (a6 a7 : Bool) (a8 : Rows) (K : Res → Option ρ) : runC (Q4_S G) Q4_hs (Q4_lp G n) m30 [.agg [.i .i64 a0, .i .i64 a1, .i .i64 a2, .lst a3 a4 5 a5, .lst a6 a7 13 a8]] K = Q4_s G n a0 a1 a2 a3 a4 a5 a6 a7 a8 (fun w0 => K ⟨.b w0, [], []⟩) := by kernel_rfl
theorem Q4_ok (n : Nat) : EK.OK (Q4_e n) 30 (L tab) := EK.shp (fun _ _ _ => rfl) fun ρ K y c e => EK.run (Q4_Sok n) (by kernel_rfl) (MF.LKOK.of (LK.of (l := [Q4_c2]) (by kernel_rfl) (List.forall_mem_cons.2 ⟨LE.at (e := Q4_d2 (Q4_g n) n) (by kernel_rfl) (Q4_d2_ok n), (fun _ h => nomatch h)⟩))) (Q4_k (Q4_g n) n _ _ _ _ _ _ _ _ _ K) (by kernel_rfl) e
abbrev Qh_T : Type 1 := (ρ : Type) → Int → Int → Int → Bool → Bool → Rows → Bool → Bool → Rows → (Bool → Option ρ) → Option ρ
def Qh_E (G : Qh_T) : EK := fun ρ args K => decL [.agg [.i .i64 none, .i .i64 none, .i .i64 none, .lst none none 5 none, .lst none none 13 none]] args fun c => G ρ c.1.1 c.1.2.1 c.1.2.2.1 c.1.2.2.2.1.1 c.1.2.2.2.1.2.1 c.1.2.2.2.1.2.2 c.1.2.2.2.2.1.1 c.1.2.2.2.2.1.2.1 c.1.2.2.2.2.1.2.2 (fun w0 => K ⟨.b w0, [], []⟩)
structure Qh_G where
 mk ::
 Ql : Ql_T
 Qg : Qg_T
 Qf : Qf_T
 Q3 : Q3_T
 Qe : Qe_T
 Qa : Qa_T
 Q2 : Q2_T
 Q4 : Q4_T
def Qh_s (G : Qh_G) {ρ : Type} (_n : Nat) (a0 a1 a2 : Int) (a3 a4 : Bool) (a5 : Rows) (a6 a7 : Bool) (a8 : Rows) (k0 : (Bool → Option ρ)) : Option ρ :=
 G.Ql ρ a0 a1 a2 (fun w0_0 =>
 bif w0_0 then
 bif (((((List.length (a5 : Rows)) : Nat) : Int) : Int) != a1) then
 k0 false
 else bif (((((List.length (a8 : Rows)) : Nat) : Int) : Int) != a2) then
 k0 false
 else G.Qg ρ a0 a1 a2 a3 a4 a5 a6 a7 a8 (fun w1_0 =>
 bif w1_0 then
 G.Qf ρ a0 a1 a2 a3 a4 a5 a6 a7 a8 (fun w2_0 =>
 bif w2_0 then
 G.Q3 ρ a0 a1 a2 a3 a4 a5 a6 a7 a8 (fun w3_0 =>
 bif w3_0 then
 G.Qe ρ a0 a1 a2 a3 a4 a5 a6 a7 a8 (fun w4_0 =>
 bif w4_0 then
 k0 false
 else G.Qa ρ a0 a1 a2 a3 a4 a5 a6 a7 a8 (fun w5_0 w5_1 w5_2 =>
 G.Q2 ρ w5_0 w5_1 w5_2 (fun w6_0 =>
 bif w6_0 then
 G.Q4 ρ a0 a1 a2 a3 a4 a5 a6 a7 a8 (fun w7_0 =>
 bif w7_0 then
 k0 true
 else k0 false)
 else k0 false)))
 else k0 false)
 else k0 false)
 else k0 false)
 else k0 false)
def Qh_g (n : Nat) : Qh_G := ⟨Ql n, Qg n, Qf n, Q3 n, Qe n, Qa n, Q2 n, Q4 n⟩
def Qh (n : Nat) : Qh_T := fun _ρ a0 a1 a2 a3 a4 a5 a6 a7 a8 k0 => Qh_s (Qh_g n) n a0 a1 a2 a3 a4 a5 a6 a7 a8 k0
def Qh_e (n : Nat) : EK := Qh_E (Qh n)
def Qh_S (G : Qh_G) : CK := tabS [(25, Ql_E G.Ql), (26, Qg_E G.Qg), (27, Qf_E G.Qf), (28, Q3_E G.Q3), (29, Qe_E G.Qe), (14, Qa_E G.Qa), (13, Q2_E G.Q2), (30, Q4_E G.Q4)]
theorem Qh_Sok (n : Nat) : CK.OK (Qh_S (Qh_g n)) (L tab) := tabS_ok _ (List.forall_mem_cons.2 ⟨(Ql_ok n), List.forall_mem_cons.2 ⟨(Qg_ok n), List.forall_mem_cons.2 ⟨(Qf_ok n), List.forall_mem_cons.2 ⟨(Q3_ok n), List.forall_mem_cons.2 ⟨(Qe_ok n), List.forall_mem_cons.2 ⟨(Qa_ok n), List.forall_mem_cons.2 ⟨(Q2_ok n), List.forall_mem_cons.2 ⟨(Q4_ok n), (fun _ h => nomatch h)⟩⟩⟩⟩⟩⟩⟩⟩)
def Qh_hs : HintC := hintL []
def Qh_lp (_G : Qh_G) (_n : Nat) : LK := tabL []
theorem Qh_k (G : Qh_G) {ρ : Type} (n : Nat) (a0 a1 a2 : Int) (a3 a4 : Bool) (a5 : Rows) (a6 a7 : Bool) (a8 : Rows) (K : Res → Option ρ) : runC (Qh_S G) Qh_hs (Qh_lp G n) m9 [.agg [.i .i64 a0, .i .i64 a1, .i .i64 a2, .lst a3 a4 5 a5, .lst a6 a7 13 a8]] K = Qh_s G n a0 a1 a2 a3 a4 a5 a6 a7 a8 (fun w0 => K ⟨.b w0, [], []⟩) := by kernel_rfl
theorem Qh_ok (n : Nat) : EK.OK (Qh_e n) 9 (L tab) := EK.shp (fun _ _ _ => rfl) fun ρ K y c e => EK.run (Qh_Sok n) (by kernel_rfl) (MF.LKOK.of (LK.of (l := []) (by kernel_rfl) ((fun _ h => nomatch h)))) (Qh_k (Qh_g n) n _ _ _ _ _ _ _ _ _ K) (by kernel_rfl) e
abbrev find_in_T : Type 1 := (ρ : Type) → Int → Int → Int → (Bool → Option ρ) → Option ρ
def find_in_E (G : find_in_T) : EK := fun ρ args K => decL [.i .i64 none, .i .i64 none, .i .i64 none] args fun c => G ρ c.1 c.2.1 c.2.2.1 (fun w0 => K ⟨.b w0, [], []⟩)
structure find_in_G where
 mk ::
def find_in_s (_G : find_in_G) {ρ : Type} (_n : Nat) (a0 a1 a2 : Int) (k0 : (Bool → Option ρ)) : Option ρ :=
 bif decide ((a0 : Int) ≥ a1) then
 bif decide ((a0 : Int) ≤ a2) then
 k0 true
 else k0 false
 else k0 false
def find_in_g (_n : Nat) : find_in_G := ⟨⟩
def find_in (n : Nat) : find_in_T := fun _ρ a0 a1 a2 k0 => find_in_s (find_in_g n) n a0 a1 a2 k0
def find_in_e (n : Nat) : EK := find_in_E (find_in n)
def find_in_S (_G : find_in_G) : CK := tabS []
theorem find_in_Sok (n : Nat) : CK.OK (find_in_S (find_in_g n)) (L tab) := tabS_ok _ ((fun _ h => nomatch h))
def find_in_hs : HintC := hintL []
def find_in_lp (_G : find_in_G) (_n : Nat) : LK := tabL []
theorem find_in_k (G : find_in_G) {ρ : Type} (n : Nat) (a0 a1 a2 : Int) (K : Res → Option ρ) : runC (find_in_S G) find_in_hs (find_in_lp G n) m91 [.i .i64 a0, .i .i64 a1, .i .i64 a2] K = find_in_s G n a0 a1 a2 (fun w0 => K ⟨.b w0, [], []⟩) := by kernel_rfl
theorem find_in_ok (n : Nat) : EK.OK (find_in_e n) 91 (L tab) := EK.shp (fun _ _ _ => rfl) fun ρ K y c e => EK.run (find_in_Sok n) (by kernel_rfl) (MF.LKOK.of (LK.of (l := []) (by kernel_rfl) ((fun _ h => nomatch h)))) (find_in_k (find_in_g n) n _ _ _ K) (by kernel_rfl) e
abbrev find_step_T : Type 1 := (ρ : Type) → Int → Int → Int → Int → Int → Int → Int → Bool → Int → Int → Int → Int → Int → Int → (Int → Option ρ) → Option ρ
def find_step_E (G : find_step_T) : EK := fun ρ args K => decL [.agg [.i .i64 none, .i .i64 none, .i .i64 none, .i .i64 none, .i .i64 none, .i .i64 none, .i .i64 none, .b none, .i .u64 none, .i .u64 none, .i .u64 none, .i .u64 none, .i .u64 none], .i .i64 none] args fun c => G ρ c.1.1 c.1.2.1 c.1.2.2.1 c.1.2.2.2.1 c.1.2.2.2.2.1 c.1.2.2.2.2.2.1 c.1.2.2.2.2.2.2.1 c.1.2.2.2.2.2.2.2.1 c.1.2.2.2.2.2.2.2.2.1 c.1.2.2.2.2.2.2.2.2.2.1 c.1.2.2.2.2.2.2.2.2.2.2.1 c.1.2.2.2.2.2.2.2.2.2.2.2.1 c.1.2.2.2.2.2.2.2.2.2.2.2.2.1 c.2.1 (fun w0 => K ⟨.i .i64 w0, [], []⟩)
structure find_step_G where
 mk ::
def find_step_s (_G : find_step_G) {ρ : Type} (_n : Nat) (_a0 a1 : Int) (a2 _a3 : Int) (_a4 _a5 _a6 : Int) (_a7 : Bool) (_a8 _a9 : Int) (_a10 _a11 : Int) (_a12 a13 : Int) (k0 : (Int → Option ρ)) : Option ρ :=
 chk (decide (0 ≤ (a1 : Int))) <|
 bif decide ((a13 : Int) ≥ (IntKind.wrap .i64 ((1 : Int) * 2 ^ (min a1.toNat (IntKind.bits .i64))))) then
 k0 (-1)
 else k0 (IntKind.wrap .i64 (a2 + a13))
def find_step_g (_n : Nat) : find_step_G := ⟨⟩
def find_step (n : Nat) : find_step_T := fun _ρ a0 a1 a2 a3 a4 a5 a6 a7 a8 a9 a10 a11 a12 a13 k0 => find_step_s (find_step_g n) n a0 a1 a2 a3 a4 a5 a6 a7 a8 a9 a10 a11 a12 a13 k0
def find_step_e (n : Nat) : EK := find_step_E (find_step n)
def find_step_S (_G : find_step_G) : CK := tabS []
theorem find_step_Sok (n : Nat) : CK.OK (find_step_S (find_step_g n)) (L tab) := tabS_ok _ ((fun _ h => nomatch h))
def find_step_hs : HintC := hintL []
def find_step_lp (_G : find_step_G) (_n : Nat) : LK := tabL []
theorem find_step_k (G : find_step_G) {ρ : Type} (n : Nat) (a0 a1 : Int) (a2 a3 : Int) (a4 a5 a6 : Int) (a7 : Bool) (a8 a9 : Int) (a10 a11 : Int) (a12 a13 : Int) (K : Res → Option ρ) : runC (find_step_S G) find_step_hs (find_step_lp G n) m93 [.agg [.i .i64 a0, .i .i64 a1, .i .i64 a2, .i .i64 a3, .i .i64 a4, .i .i64 a5, .i .i64 a6, .b a7, .i .u64 a8, .i .u64 a9, .i .u64 a10, .i .u64 a11, .i .u64 a12], .i .i64 a13] K = find_step_s G n a0 a1 a2 a3 a4 a5 a6 a7 a8 a9 a10 a11 a12 a13 (fun w0 => K ⟨.i .i64 w0, [], []⟩) := by kernel_rfl
theorem find_step_ok (n : Nat) : EK.OK (find_step_e n) 93 (L tab) := EK.shp (fun _ _ _ => rfl) fun ρ K y c e => EK.run (find_step_Sok n) (by kernel_rfl) (MF.LKOK.of (LK.of (l := []) (by kernel_rfl) ((fun _ h => nomatch h)))) (find_step_k (find_step_g n) n _ _ _ _ _ _ _ _ _ _ _ _ _ _ K) (by kernel_rfl) e
abbrev Qz_T : Type 1 := (ρ : Type) → Int → Int → Int → Bool → Bool → Rows → Bool → Bool → Rows → Int → (Int → Int → Int → Int → Int → Int → Int → Bool → Int → Int → Int → Int → Int → Bool → Option ρ) → Option ρ
def Qz_E (G : Qz_T) : EK := fun ρ args K => decL [.agg [.i .i64 none, .i .i64 none, .i .i64 none, .lst none none 5 none, .lst none none 13 none], .i .i64 none] args fun c => G ρ c.1.1 c.1.2.1 c.1.2.2.1 c.1.2.2.2.1.1 c.1.2.2.2.1.2.1 c.1.2.2.2.1.2.2 c.1.2.2.2.2.1.1 c.1.2.2.2.2.1.2.1 c.1.2.2.2.2.1.2.2 c.2.1 (fun w0 w1 w2 w3 w4 w5 w6 w7 w8 w9 w10 w11 w12 w13 => K ⟨.tup [.agg [.i .i64 w0, .i .i64 w1, .i .i64 w2, .i .i64 w3, .i .i64 w4, .i .i64 w5, .i .i64 w6, .b w7, .i .u64 w8, .i .u64 w9, .i .u64 w10, .i .u64 w11, .i .u64 w12], .b w13], [], []⟩)
structure Qz_G where
 mk ::
 Qr : Qr_T
def Qz_s (G : Qz_G) {ρ : Type} (_n : Nat) (_a0 _a1 _a2 : Int) (_a3 _a4 : Bool) (a5 : Rows) (_a6 _a7 : Bool) (a8 : Rows) (a9 : Int) (k0 : (Int → Int → Int → Int → Int → Int → Int → Bool → Int → Int → Int → Int → Int → Bool → Option ρ)) : Option ρ :=
 rowT [.i .i64, .i .i64, .i .i64, .i .i64, .i .i64] a5 a9 fun c0 =>
 bif ((c0.1 : Int) != 2) then
 k0 0 0 0 0 0 0 0 false 0 0 0 0 0 false
 else G.Qr ρ 1 c0.2.2.1 (fun w1_0 =>
 bif w1_0 then
 rowT [.i .i64, .i .i64, .i .i64, .i .i64, .i .i64, .i .i64, .i .i64, .b, .i .u64, .i .u64, .i .u64, .i .u64, .i .u64] a8 c0.2.1 fun c2 =>
 k0 c2.1 c2.2.1 c2.2.2.1 c2.2.2.2.1 c2.2.2.2.2.1 c2.2.2.2.2.2.1 c2.2.2.2.2.2.2.1 c2.2.2.2.2.2.2.2.1 c2.2.2.2.2.2.2.2.2.1 c2.2.2.2.2.2.2.2.2.2.1 c2.2.2.2.2.2.2.2.2.2.2.1 c2.2.2.2.2.2.2.2.2.2.2.2.1 c2.2.2.2.2.2.2.2.2.2.2.2.2.1 true
 else k0 0 0 0 0 0 0 0 false 0 0 0 0 0 false)
def Qz_g (n : Nat) : Qz_G := ⟨Qr n⟩
def Qz (n : Nat) : Qz_T := fun _ρ a0 a1 a2 a3 a4 a5 a6 a7 a8 a9 k0 => Qz_s (Qz_g n) n a0 a1 a2 a3 a4 a5 a6 a7 a8 a9 k0
def Qz_e (n : Nat) : EK := Qz_E (Qz n)
def Qz_S (G : Qz_G) : CK := tabS [(41, Qr_E G.Qr)]
theorem Qz_Sok (n : Nat) : CK.OK (Qz_S (Qz_g n)) (L tab) := tabS_ok _ (List.forall_mem_cons.2 ⟨(Qr_ok n), (fun _ h => nomatch h)⟩)
def Qz_hs : HintC := hintL [(10, [.i .i64, .i .i64, .i .i64, .i .i64, .i .i64]), (27, [.i .i64, .i .i64, .i .i64, .i .i64, .i .i64, .i .i64, .i .i64, .b, .i .u64, .i .u64, .i .u64, .i .u64, .i .u64])]
def Qz_lp (_G : Qz_G) (_n : Nat) : LK := tabL []
theorem Qz_k (G : Qz_G) {ρ : Type} (n : Nat) (a0 a1 a2 : Int) (a3 a4 : Bool) (a5 : Rows) (a6 a7 : Bool) (a8 : Rows) (a9 : Int) (K : Res → Option ρ) : runC (Qz_S G) Qz_hs (Qz_lp G n) m92 [.agg [.i .i64 a0, .i .i64 a1, .i .i64 a2, .lst a3 a4 5 a5, .lst a6 a7 13 a8], .i .i64 a9] K = Qz_s G n a0 a1 a2 a3 a4 a5 a6 a7 a8 a9 (fun w0 w1 w2 w3 w4 w5 w6 w7 w8 w9 w10 w11 w12 w13 => K ⟨.tup [.agg [.i .i64 w0, .i .i64 w1, .i .i64 w2, .i .i64 w3, .i .i64 w4, .i .i64 w5, .i .i64 w6, .b w7, .i .u64 w8, .i .u64 w9, .i .u64 w10, .i .u64 w11, .i .u64 w12], .b w13], [], []⟩) := by kernel_rfl
theorem Qz_ok (n : Nat) : EK.OK (Qz_e n) 92 (L tab) := EK.shp (fun _ _ _ => rfl) fun ρ K y c e => EK.run (Qz_Sok n) (by kernel_rfl) (MF.LKOK.of (LK.of (l := []) (by kernel_rfl) ((fun _ h => nomatch h)))) (Qz_k (Qz_g n) n _ _ _ _ _ _ _ _ _ _ K) (by kernel_rfl) e
abbrev Q8_T : Type 1 := (ρ : Type) → Int → Int → Int → Bool → Bool → Rows → Bool → Bool → Rows → Int → Bool → Bool → Rows → (Int → Int → Option ρ) → Option ρ
def Q8_E (G : Q8_T) : EK := fun ρ args K => decL [.agg [.i .i64 none, .i .i64 none, .i .i64 none, .lst none none 5 none, .lst none none 13 none], .i .i64 none, .agg [.lst none none 1 none]] args fun c => G ρ c.1.1 c.1.2.1 c.1.2.2.1 c.1.2.2.2.1.1 c.1.2.2.2.1.2.1 c.1.2.2.2.1.2.2 c.1.2.2.2.2.1.1 c.1.2.2.2.2.1.2.1 c.1.2.2.2.2.1.2.2 c.2.1 c.2.2.1.1.1 c.2.2.1.1.2.1 c.2.2.1.1.2.2 (fun w0 w1 => K ⟨.tup [.i .i64 w0, .i .i64 w1], [], []⟩)
structure Q8_G where
 mk ::
 Qh : Qh_T
 find_in : find_in_T
 Q9 : Q9_T
 find_step : find_step_T
 Qz : Qz_T
abbrev Q8_l6_V : Type := Int × Int × Int × Int × Int × Int × Int × Int × Int × Bool × Int × Int × Int × Int × Int
def Q8_l6_s (G : Q8_G) {ρ : Type} (_n : Nat) (_p0 _p1 : Bool) (p2 : Rows) (p3 p4 : Int) (p5 p6 : Int) (p7 p8 : Bool) (p9 : Rows) (p10 p11 : Bool) (p12 : Rows) (_p13 _p14 : Bool) (_p15 : Rows) (k0 : (Int → Int → Int → Int → Int → Int → Int → Int → Bool → Int → Int → Int → Int → Int → Option ρ)) (k1 : (Int → Int → Int → Int → Int → Int → Int → Int → Bool → Int → Int → Int → Int → Int → Option ρ)) (k2 : (Int → Int → Int → Int → Int → Int → Int → Bool → Int → Int → Int → Int → Int → Option ρ)) (rec' : Q8_l6_V → Option ρ) : Q8_l6_V → Option ρ
 | v =>
 bif decide ((v.2.1 : Int) < p3) then
 rowT [.i .i64] p2 v.2.1 fun c0 =>
 bif decide ((v.2.1 : Int) > 0) then
 G.Qz ρ p4 p5 p6 p7 p8 p9 p10 p11 p12 v.1 (fun w1_0 w1_1 w1_2 w1_3 w1_4 w1_5 w1_6 w1_7 w1_8 w1_9 w1_10 w1_11 w1_12 w1_13 =>
 bif w1_13 then
 G.find_step ρ w1_0 w1_1 w1_2 w1_3 w1_4 w1_5 w1_6 w1_7 w1_8 w1_9 w1_10 w1_11 w1_12 c0.1 (fun w2_0 =>
 bif decide ((w2_0 : Int) < 0) then
 k2 w1_0 w1_1 w1_2 w1_3 w1_4 w1_5 w1_6 w1_7 w1_8 w1_9 w1_10 w1_11 w1_12
 else G.find_step ρ w1_0 w1_1 w1_2 w1_3 w1_4 w1_5 w1_6 w1_7 w1_8 w1_9 w1_10 w1_11 w1_12 c0.1 (fun w3_0 =>
 rec' (w3_0, (IntKind.wrap .i64 (v.2.1 + 1)), w1_0, w1_1, w1_2, w1_3, w1_4, w1_5, w1_6, w1_7, w1_8, w1_9, w1_10, w1_11, w1_12)))
 else k2 w1_0 w1_1 w1_2 w1_3 w1_4 w1_5 w1_6 w1_7 w1_8 w1_9 w1_10 w1_11 w1_12)
 else G.find_step ρ v.2.2.1 v.2.2.2.1 v.2.2.2.2.1 v.2.2.2.2.2.1 v.2.2.2.2.2.2.1 v.2.2.2.2.2.2.2.1 v.2.2.2.2.2.2.2.2.1 v.2.2.2.2.2.2.2.2.2.1 v.2.2.2.2.2.2.2.2.2.2.1 v.2.2.2.2.2.2.2.2.2.2.2.1 v.2.2.2.2.2.2.2.2.2.2.2.2.1 v.2.2.2.2.2.2.2.2.2.2.2.2.2.1 v.2.2.2.2.2.2.2.2.2.2.2.2.2.2 c0.1 (fun w4_0 =>
 bif decide ((w4_0 : Int) < 0) then
 k0 v.1 v.2.2.1 v.2.2.2.1 v.2.2.2.2.1 v.2.2.2.2.2.1 v.2.2.2.2.2.2.1 v.2.2.2.2.2.2.2.1 v.2.2.2.2.2.2.2.2.1 v.2.2.2.2.2.2.2.2.2.1 v.2.2.2.2.2.2.2.2.2.2.1 v.2.2.2.2.2.2.2.2.2.2.2.1 v.2.2.2.2.2.2.2.2.2.2.2.2.1 v.2.2.2.2.2.2.2.2.2.2.2.2.2.1 v.2.2.2.2.2.2.2.2.2.2.2.2.2.2
 else G.find_step ρ v.2.2.1 v.2.2.2.1 v.2.2.2.2.1 v.2.2.2.2.2.1 v.2.2.2.2.2.2.1 v.2.2.2.2.2.2.2.1 v.2.2.2.2.2.2.2.2.1 v.2.2.2.2.2.2.2.2.2.1 v.2.2.2.2.2.2.2.2.2.2.1 v.2.2.2.2.2.2.2.2.2.2.2.1 v.2.2.2.2.2.2.2.2.2.2.2.2.1 v.2.2.2.2.2.2.2.2.2.2.2.2.2.1 v.2.2.2.2.2.2.2.2.2.2.2.2.2.2 c0.1 (fun w5_0 =>
 rec' (w5_0, (IntKind.wrap .i64 (v.2.1 + 1)), v.2.2.1, v.2.2.2.1, v.2.2.2.2.1, v.2.2.2.2.2.1, v.2.2.2.2.2.2.1, v.2.2.2.2.2.2.2.1, v.2.2.2.2.2.2.2.2.1, v.2.2.2.2.2.2.2.2.2.1, v.2.2.2.2.2.2.2.2.2.2.1, v.2.2.2.2.2.2.2.2.2.2.2.1, v.2.2.2.2.2.2.2.2.2.2.2.2.1, v.2.2.2.2.2.2.2.2.2.2.2.2.2.1, v.2.2.2.2.2.2.2.2.2.2.2.2.2.2)))
 else k1 v.1 v.2.2.1 v.2.2.2.1 v.2.2.2.2.1 v.2.2.2.2.2.1 v.2.2.2.2.2.2.1 v.2.2.2.2.2.2.2.1 v.2.2.2.2.2.2.2.2.1 v.2.2.2.2.2.2.2.2.2.1 v.2.2.2.2.2.2.2.2.2.2.1 v.2.2.2.2.2.2.2.2.2.2.2.1 v.2.2.2.2.2.2.2.2.2.2.2.2.1 v.2.2.2.2.2.2.2.2.2.2.2.2.2.1 v.2.2.2.2.2.2.2.2.2.2.2.2.2.2
def Q8_l6 (G : Q8_G) {ρ : Type} (n : Nat) (p0 p1 : Bool) (p2 : Rows) (p3 p4 : Int) (p5 p6 : Int) (p7 p8 : Bool) (p9 : Rows) (p10 p11 : Bool) (p12 : Rows) (p13 p14 : Bool) (p15 : Rows) (k0 : (Int → Int → Int → Int → Int → Int → Int → Int → Bool → Int → Int → Int → Int → Int → Option ρ)) (k1 : (Int → Int → Int → Int → Int → Int → Int → Int → Bool → Int → Int → Int → Int → Int → Option ρ)) (k2 : (Int → Int → Int → Int → Int → Int → Int → Bool → Int → Int → Int → Int → Int → Option ρ)) (v : Q8_l6_V) : Option ρ := fuelN (Q8_l6_s G n p0 p1 p2 p3 p4 p5 p6 p7 p8 p9 p10 p11 p12 p13 p14 p15 k0 k1 k2) n v
def Q8_l6_enc (p0 p1 : Bool) (p2 : Rows) (p3 p4 : Int) (p5 p6 : Int) (p7 p8 : Bool) (p9 : Rows) (p10 p11 : Bool) (p12 : Rows) (p13 p14 : Bool) (p15 : Rows) : Q8_l6_V → St
 | v => ⟨[(3, .ptr 0 1 5 0 0), (8, .ptr 2 1 13 0 0), (9, .b true), (10, .i .i64 v.1), (37, .lst p0 p1 1 p2), (38, .i .i64 p3), (39, .i .i64 v.2.1)], [.row 5 true false [[.i .i64 p4, .i .i64 p5, .i .i64 p6, .lst p7 p8 5 p9, .lst p10 p11 13 p12]], .row 1 true false [[.lst p13 p14 1 p15]], .row 13 true false [[.i .i64 v.2.2.1, .i .i64 v.2.2.2.1, .i .i64 v.2.2.2.2.1, .i .i64 v.2.2.2.2.2.1, .i .i64 v.2.2.2.2.2.2.1, .i .i64 v.2.2.2.2.2.2.2.1, .i .i64 v.2.2.2.2.2.2.2.2.1, .b v.2.2.2.2.2.2.2.2.2.1, .i .u64 v.2.2.2.2.2.2.2.2.2.2.1, .i .u64 v.2.2.2.2.2.2.2.2.2.2.2.1, .i .u64 v.2.2.2.2.2.2.2.2.2.2.2.2.1, .i .u64 v.2.2.2.2.2.2.2.2.2.2.2.2.2.1, .i .u64 v.2.2.2.2.2.2.2.2.2.2.2.2.2.2]]]⟩
def Q8_s (G : Q8_G) {ρ : Type} (n : Nat) (a0 a1 a2 : Int) (a3 a4 : Bool) (a5 : Rows) (a6 a7 : Bool) (a8 : Rows) (a9 : Int) (a10 a11 : Bool) (a12 : Rows) (k0 : (Int → Int → Option ρ)) : Option ρ :=
 G.Qh ρ a0 a1 a2 a3 a4 a5 a6 a7 a8 (fun w0_0 =>
 bif w0_0 then
 G.find_in ρ a9 0 (IntKind.wrap .i64 (a0 - 1)) (fun w1_0 =>
 bif w1_0 then
 G.Q9 ρ a10 a11 a12 (fun w2_0 =>
 bif w2_0 then
 rowT [.i .i64, .i .i64, .i .i64, .i .i64, .i .i64, .i .i64, .i .i64, .b, .i .u64, .i .u64, .i .u64, .i .u64, .i .u64] a8 (IntKind.wrap .i64 (2 + a9)) fun c3 =>
 Q8_l6 G n a10 a11 a12 (((List.length (a12 : Rows)) : Nat) : Int) a0 a1 a2 a3 a4 a5 a6 a7 a8 a10 a11 a12 (fun _w4_0 _w4_1 _w4_2 _w4_3 _w4_4 _w4_5 _w4_6 _w4_7 _w4_8 _w4_9 _w4_10 _w4_11 _w4_12 _w4_13 =>
 k0 0 3) (fun w5_0 _w5_1 _w5_2 _w5_3 _w5_4 _w5_5 _w5_6 _w5_7 _w5_8 _w5_9 _w5_10 _w5_11 _w5_12 _w5_13 =>
 k0 w5_0 0) (fun _w6_0 _w6_1 _w6_2 _w6_3 _w6_4 _w6_5 _w6_6 _w6_7 _w6_8 _w6_9 _w6_10 _w6_11 _w6_12 =>
 k0 0 3) (0, 0, c3.1, c3.2.1, c3.2.2.1, c3.2.2.2.1, c3.2.2.2.2.1, c3.2.2.2.2.2.1, c3.2.2.2.2.2.2.1, c3.2.2.2.2.2.2.2.1, c3.2.2.2.2.2.2.2.2.1, c3.2.2.2.2.2.2.2.2.2.1, c3.2.2.2.2.2.2.2.2.2.2.1, c3.2.2.2.2.2.2.2.2.2.2.2.1, c3.2.2.2.2.2.2.2.2.2.2.2.2.1)
 else k0 0 1)
 else k0 0 1)
 else k0 0 1)
def Q8_g (n : Nat) : Q8_G := ⟨Qh n, find_in n, Q9 n, find_step n, Qz n⟩
def Q8 (n : Nat) : Q8_T := fun _ρ a0 a1 a2 a3 a4 a5 a6 a7 a8 a9 a10 a11 a12 k0 => Q8_s (Q8_g n) n a0 a1 a2 a3 a4 a5 a6 a7 a8 a9 a10 a11 a12 k0
def Q8_e (n : Nat) : EK := Q8_E (Q8 n)
def Q8_S (G : Q8_G) : CK := tabS [(9, Qh_E G.Qh), (91, find_in_E G.find_in), (71, Q9_E G.Q9), (93, find_step_E G.find_step), (92, Qz_E G.Qz)]
theorem Q8_Sok (n : Nat) : CK.OK (Q8_S (Q8_g n)) (L tab) := tabS_ok _ (List.forall_mem_cons.2 ⟨(Qh_ok n), List.forall_mem_cons.2 ⟨(find_in_ok n), List.forall_mem_cons.2 ⟨(Q9_ok n), List.forall_mem_cons.2 ⟨(find_step_ok n), List.forall_mem_cons.2 ⟨(Qz_ok n), (fun _ h => nomatch h)⟩⟩⟩⟩⟩)
def Q8_hs : HintC := hintL [(34, [.i .i64, .i .i64, .i .i64, .i .i64, .i .i64, .i .i64, .i .i64, .b, .i .u64, .i .u64, .i .u64, .i .u64, .i .u64]), (42, [.i .i64])]
def Q8_c6 : Nat × List Nat × List Nat × MC := loopAt 6 m74
def Q8_l6_d (G : Q8_G) (n : Nat) : Go.Rv.LE := fun _ρ h K => decSt [(3, .ptr 0 5 0 (some 1) (some 0)), (8, .ptr 2 13 0 (some 1) (some 0)), (9, .b (some true)), (10, .i .i64 none), (37, .lst none none 1 none), (38, .i .i64 none), (39, .i .i64 none)] [.row 5 true false (some [[.i .i64 none, .i .i64 none, .i .i64 none, .lst none none 5 none, .lst none none 13 none]]), .row 1 true false (some [[.lst none none 1 none]]), .row 13 true false (some [[.i .i64 none, .i .i64 none, .i .i64 none, .i .i64 none, .i .i64 none, .i .i64 none, .i .i64 none, .b none, .i .u64 none, .i .u64 none, .i .u64 none, .i .u64 none, .i .u64 none]])] h fun a b => Q8_l6 G n a.2.2.2.2.1.1 a.2.2.2.2.1.2.1 a.2.2.2.2.1.2.2 a.2.2.2.2.2.1 b.1.1.1 b.1.1.2.1 b.1.1.2.2.1 b.1.1.2.2.2.1.1 b.1.1.2.2.2.1.2.1 b.1.1.2.2.2.1.2.2 b.1.1.2.2.2.2.1.1 b.1.1.2.2.2.2.1.2.1 b.1.1.2.2.2.2.1.2.2 b.2.1.1.1.1 b.2.1.1.1.2.1 b.2.1.1.1.2.2 (fun w0 w1 w2 w3 w4 w5 w6 w7 w8 w9 w10 w11 w12 w13 => K .ret ⟨[(6, .i .i64 0), (7, .i .i64 3), (10, .i .i64 w0)], [.row 5 true false [[.i .i64 b.1.1.1, .i .i64 b.1.1.2.1, .i .i64 b.1.1.2.2.1, .lst b.1.1.2.2.2.1.1 b.1.1.2.2.2.1.2.1 5 b.1.1.2.2.2.1.2.2, .lst b.1.1.2.2.2.2.1.1 b.1.1.2.2.2.2.1.2.1 13 b.1.1.2.2.2.2.1.2.2]], .row 1 true false [[.lst b.2.1.1.1.1 b.2.1.1.1.2.1 1 b.2.1.1.1.2.2]], .row 13 true false [[.i .i64 w1, .i .i64 w2, .i .i64 w3, .i .i64 w4, .i .i64 w5, .i .i64 w6, .i .i64 w7, .b w8, .i .u64 w9, .i .u64 w10, .i .u64 w11, .i .u64 w12, .i .u64 w13]]]⟩) (fun w0 w1 w2 w3 w4 w5 w6 w7 w8 w9 w10 w11 w12 w13 => K (.exit 0) ⟨[(6, .u), (7, .u), (10, .i .i64 w0)], [.row 5 true false [[.i .i64 b.1.1.1, .i .i64 b.1.1.2.1, .i .i64 b.1.1.2.2.1, .lst b.1.1.2.2.2.1.1 b.1.1.2.2.2.1.2.1 5 b.1.1.2.2.2.1.2.2, .lst b.1.1.2.2.2.2.1.1 b.1.1.2.2.2.2.1.2.1 13 b.1.1.2.2.2.2.1.2.2]], .row 1 true false [[.lst b.2.1.1.1.1 b.2.1.1.1.2.1 1 b.2.1.1.1.2.2]], .row 13 true false [[.i .i64 w1, .i .i64 w2, .i .i64 w3, .i .i64 w4, .i .i64 w5, .i .i64 w6, .i .i64 w7, .b w8, .i .u64 w9, .i .u64 w10, .i .u64 w11, .i .u64 w12, .i .u64 w13]]]⟩) (fun w0 w1 w2 w3 w4 w5 w6 w7 w8 w9 w10 w11 w12 => K .ret ⟨[(6, .i .i64 0), (7, .i .i64 3), (10, .u)], [.row 5 true false [[.i .i64 b.1.1.1, .i .i64 b.1.1.2.1, .i .i64 b.1.1.2.2.1, .lst b.1.1.2.2.2.1.1 b.1.1.2.2.2.1.2.1 5 b.1.1.2.2.2.1.2.2, .lst b.1.1.2.2.2.2.1.1 b.1.1.2.2.2.2.1.2.1 13 b.1.1.2.2.2.2.1.2.2]], .row 1 true false [[.lst b.2.1.1.1.1 b.2.1.1.1.2.1 1 b.2.1.1.1.2.2]], .row 13 true false [[.i .i64 w0, .i .i64 w1, .i .i64 w2, .i .i64 w3, .i .i64 w4, .i .i64 w5, .i .i64 w6, .b w7, .i .u64 w8, .i .u64 w9, .i .u64 w10, .i .u64 w11, .i .u64 w12]]]⟩) (a.2.2.2.1, a.2.2.2.2.2.2.1, b.2.2.1.1.1, b.2.2.1.1.2.1, b.2.2.1.1.2.2.1, b.2.2.1.1.2.2.2.1, b.2.2.1.1.2.2.2.2.1, b.2.2.1.1.2.2.2.2.2.1, b.2.2.1.1.2.2.2.2.2.2.1, b.2.2.1.1.2.2.2.2.2.2.2.1, b.2.2.1.1.2.2.2.2.2.2.2.2.1, b.2.2.1.1.2.2.2.2.2.2.2.2.2.1, b.2.2.1.1.2.2.2.2.2.2.2.2.2.2.1, b.2.2.1.1.2.2.2.2.2.2.2.2.2.2.2.1, b.2.2.1.1.2.2.2.2.2.2.2.2.2.2.2.2.1)
def Q8_d6 (G : Q8_G) (n : Nat) : Go.Rv.LE := Q8_l6_d G n
def Q8_lp (G : Q8_G) (n : Nat) : LK := tabL [(6, Q8_d6 G n)]
theorem Q8_l6_k (G : Q8_G) {ρ : Type} (n : Nat) (p0 p1 : Bool) (p2 : Rows) (p3 p4 : Int) (p5 p6 : Int) (p7 p8 : Bool) (p9 : Rows) (p10 p11 : Bool) (p12 : Rows) (p13 p14 : Bool) (p15 : Rows) (K : Ex → St → Option ρ) (N : St → Option ρ) : ∀ v, roundC (Q8_S G) Q8_hs (Q8_lp G n) Q8_c6 3 N K (Q8_l6_enc p0 p1 p2 p3 p4 p5 p6 p7 p8 p9 p10 p11 p12 p13 p14 p15 v) = Q8_l6_s G n p0 p1 p2 p3 p4 p5 p6 p7 p8 p9 p10 p11 p12 p13 p14 p15 (fun w0 w1 w2 w3 w4 w5 w6 w7 w8 w9 w10 w11 w12 w13 => K .ret ⟨[(6, .i .i64 0), (7, .i .i64 3), (10, .i .i64 w0)], [.row 5 true false [[.i .i64 p4, .i .i64 p5, .i .i64 p6, .lst p7 p8 5 p9, .lst p10 p11 13 p12]], .row 1 true false [[.lst p13 p14 1 p15]], .row 13 true false [[.i .i64 w1, .i .i64 w2, .i .i64 w3, .i .i64 w4, .i .i64 w5, .i .i64 w6, .i .i64 w7, .b w8, .i .u64 w9, .i .u64 w10, .i .u64 w11, .i .u64 w12, .i .u64 w13]]]⟩) (fun w0 w1 w2 w3 w4 w5 w6 w7 w8 w9 w10 w11 w12 w13 => K (.exit 0) ⟨[(6, .u), (7, .u), (10, .i .i64 w0)], [.row 5 true false [[.i .i64 p4, .i .i64 p5, .i .i64 p6, .lst p7 p8 5 p9, .lst p10 p11 13 p12]], .row 1 true false [[.lst p13 p14 1 p15]], .row 13 true false [[.i .i64 w1, .i .i64 w2, .i .i64 w3, .i .i64 w4, .i .i64 w5, .i .i64 w6, .i .i64 w7, .b w8, .i .u64 w9, .i .u64 w10, .i .u64 w11, .i .u64 w12, .i .u64 w13]]]⟩) (fun w0 w1 w2 w3 w4 w5 w6 w7 w8 w9 w10 w11 w12 => K .ret ⟨[(6, .i .i64 0), (7, .i .i64 3), (10, .u)], [.row 5 true false [[.i .i64 p4, .i .i64 p5, .i .i64 p6, .lst p7 p8 5 p9, .lst p10 p11 13 p12]], .row 1 true false [[.lst p13 p14 1 p15]], .row 13 true false [[.i .i64 w0, .i .i64 w1, .i .i64 w2, .i .i64 w3, .i .i64 w4, .i .i64 w5, .i .i64 w6, .b w7, .i .u64 w8, .i .u64 w9, .i .u64 w10, .i .u64 w11, .i .u64 w12]]]⟩) (fun v => N (Q8_l6_enc p0 p1 p2 p3 p4 p5 p6 p7 p8 p9 p10 p11 p12 p13 p14 p15 v)) v
 | v => by kernel_rfl
theorem Q8_l6_dok (n : Nat) : LE.OK (Q8_l6_d (Q8_g n) n) (L tab) Q8_c6 := LE.shp (fun _ _ _ => rfl) fun ρ K y a b e => LE.rounds (Q8_Sok n) (LK.of (l := []) (by kernel_rfl) ((fun _ h => nomatch h))) (Q8_l6_k (Q8_g n) n _ _ _ _ _ _ _ _ _ _ _ _ _ _ _ _ K) (by kernel_rfl) (by kernel_rfl) e
theorem Q8_d6_ok (n : Nat) : LE.OK (Q8_d6 (Q8_g n) n) (L tab) Q8_c6 := Q8_l6_dok n
theorem Q8_k (G : Q8_G) {ρ : Type} (n : Nat) (a0 a1 a2 : Int) (a3 a4 : Bool) (a5 : Rows) (a6 a7 : Bool) (a8 : Rows) (a9 : Int) (a10 a11 : Bool) (a12 : Rows) (K : Res → Option ρ) : runC (Q8_S G) Q8_hs (Q8_lp G n) m74 [.agg [.i .i64 a0, .i .i64 a1, .i .i64 a2, .lst a3 a4 5 a5, .lst a6 a7 13 a8], .i .i64 a9, .agg [.lst a10 a11 1 a12]] K = Q8_s G n a0 a1 a2 a3 a4 a5 a6 a7 a8 a9 a10 a11 a12 (fun w0 w1 => K ⟨.tup [.i .i64 w0, .i .i64 w1], [], []⟩) := by kernel_rfl
theorem Q8_ok (n : Nat) : EK.OK (Q8_e n) 74 (L tab) := EK.shp (fun _ _ _ => rfl) fun ρ K y c e => EK.run (Q8_Sok n) (by kernel_rfl) (MF.LKOK.of (LK.of (l := [Q8_c6]) (by kernel_rfl) (List.forall_mem_cons.2 ⟨LE.at (e := Q8_d6 (Q8_g n) n) (by kernel_rfl) (Q8_d6_ok n), (fun _ h => nomatch h)⟩))) (Q8_k (Q8_g n) n _ _ _ _ _ _ _ _ _ _ _ _ _ K) (by kernel_rfl) e
abbrev Qt_T : Type 1 := (ρ : Type) → Int → Int → Int → Bool → Bool → Rows → Bool → Bool → Rows → Int → Bool → Bool → Rows → (Int → Int → Int → Int → Int → Int → Option ρ) → Option ρ
def Qt_E (G : Qt_T) : EK := fun ρ args K => decL [.agg [.i .i64 none, .i .i64 none, .i .i64 none, .lst none none 5 none, .lst none none 13 none], .i .i64 none, .agg [.lst none none 1 none]] args fun c => G ρ c.1.1 c.1.2.1 c.1.2.2.1 c.1.2.2.2.1.1 c.1.2.2.2.1.2.1 c.1.2.2.2.1.2.2 c.1.2.2.2.2.1.1 c.1.2.2.2.2.1.2.1 c.1.2.2.2.2.1.2.2 c.2.1 c.2.2.1.1.1 c.2.2.1.1.2.1 c.2.2.1.1.2.2 (fun w0 w1 w2 w3 w4 w5 => K ⟨.tup [.i .i64 w0, .agg [.i .i64 w1, .i .i64 w2, .i .i64 w3, .i .i64 w4], .i .i64 w5], [], []⟩)
structure Qt_G where
 mk ::
 Q8 : Q8_T
 cap_None : cap_None_T
def Qt_s (G : Qt_G) {ρ : Type} (_n : Nat) (a0 a1 a2 : Int) (a3 a4 : Bool) (a5 : Rows) (a6 a7 : Bool) (a8 : Rows) (a9 : Int) (a10 a11 : Bool) (a12 : Rows) (k0 : (Int → Int → Int → Int → Int → Int → Option ρ)) : Option ρ :=
 G.Q8 ρ a0 a1 a2 a3 a4 a5 a6 a7 a8 a9 a10 a11 a12 (fun w0_0 w0_1 =>
 bif ((w0_1 : Int) != 0) then
 k0 0 0 0 0 0 w0_1
 else rowT [.i .i64, .i .i64, .i .i64, .i .i64, .i .i64] a5 w0_0 fun c1 =>
 G.cap_None ρ c1.1 c1.2.1 c1.2.2.1 c1.2.2.2.1 (fun w2_0 =>
 bif w2_0 then
 k0 0 0 0 0 0 4
 else rowT [.i .i64, .i .i64, .i .i64, .i .i64, .i .i64] a5 w0_0 fun c3 =>
 k0 w0_0 c3.1 c3.2.1 c3.2.2.1 c3.2.2.2.1 0))
def Qt_g (n : Nat) : Qt_G := ⟨Q8 n, cap_None n⟩
def Qt (n : Nat) : Qt_T := fun _ρ a0 a1 a2 a3 a4 a5 a6 a7 a8 a9 a10 a11 a12 k0 => Qt_s (Qt_g n) n a0 a1 a2 a3 a4 a5 a6 a7 a8 a9 a10 a11 a12 k0
def Qt_e (n : Nat) : EK := Qt_E (Qt n)
def Qt_S (G : Qt_G) : CK := tabS [(74, Q8_E G.Q8), (21, cap_None_E G.cap_None)]
theorem Qt_Sok (n : Nat) : CK.OK (Qt_S (Qt_g n)) (L tab) := tabS_ok _ (List.forall_mem_cons.2 ⟨(Q8_ok n), List.forall_mem_cons.2 ⟨(cap_None_ok n), (fun _ h => nomatch h)⟩⟩)
def Qt_hs : HintC := hintL [(27, [.i .i64, .i .i64, .i .i64, .i .i64, .i .i64]), (36, [.i .i64, .i .i64, .i .i64, .i .i64, .i .i64])]
def Qt_lp (_G : Qt_G) (_n : Nat) : LK := tabL []
theorem Qt_k (G : Qt_G) {ρ : Type} (n : Nat) (a0 a1 a2 : Int) (a3 a4 : Bool) (a5 : Rows) (a6 a7 : Bool) (a8 : Rows) (a9 : Int) (a10 a11 : Bool) (a12 : Rows) (K : Res → Option ρ) : runC (Qt_S G) Qt_hs (Qt_lp G n) m50 [.agg [.i .i64 a0, .i .i64 a1, .i .i64 a2, .lst a3 a4 5 a5, .lst a6 a7 13 a8], .i .i64 a9, .agg [.lst a10 a11 1 a12]] K = Qt_s G n a0 a1 a2 a3 a4 a5 a6 a7 a8 a9 a10 a11 a12 (fun w0 w1 w2 w3 w4 w5 => K ⟨.tup [.i .i64 w0, .agg [.i .i64 w1, .i .i64 w2, .i .i64 w3, .i .i64 w4], .i .i64 w5], [], []⟩) := by kernel_rfl
theorem Qt_ok (n : Nat) : EK.OK (Qt_e n) 50 (L tab) := EK.shp (fun _ _ _ => rfl) fun ρ K y c e => EK.run (Qt_Sok n) (by kernel_rfl) (MF.LKOK.of (LK.of (l := []) (by kernel_rfl) ((fun _ h => nomatch h)))) (Qt_k (Qt_g n) n _ _ _ _ _ _ _ _ _ _ _ _ _ K) (by kernel_rfl) e
abbrev Q0f_T : Type 1 := (ρ : Type) → Int → Int → (Int → Option ρ) → Option ρ
def Q0f_E (G : Q0f_T) : EK := fun ρ args K => decL [.i .i64 none, .i .i64 none] args fun c => G ρ c.1 c.2.1 (fun w0 => K ⟨.i .i64 w0, [], []⟩)
structure Q0f_G where
 mk ::
 Qq : Qq_T
def Q0f_s (G : Q0f_G) {ρ : Type} (_n : Nat) (a0 a1 : Int) (k0 : (Int → Option ρ)) : Option ρ :=
 G.Qq ρ a0 (fun w0_0 =>
 G.Qq ρ a1 (fun w1_0 =>
 k0 (IntKind.wrap .i64 (BitVec.ofInt (IntKind.bits .i64) w0_0 &&& BitVec.ofInt (IntKind.bits .i64) w1_0).toNat)))
def Q0f_g (n : Nat) : Q0f_G := ⟨Qq n⟩
def Q0f (n : Nat) : Q0f_T := fun _ρ a0 a1 k0 => Q0f_s (Q0f_g n) n a0 a1 k0
def Q0f_e (n : Nat) : EK := Q0f_E (Q0f n)
def Q0f_S (G : Q0f_G) : CK := tabS [(82, Qq_E G.Qq)]
theorem Q0f_Sok (n : Nat) : CK.OK (Q0f_S (Q0f_g n)) (L tab) := tabS_ok _ (List.forall_mem_cons.2 ⟨(Qq_ok n), (fun _ h => nomatch h)⟩)
def Q0f_hs : HintC := hintL []
def Q0f_lp (_G : Q0f_G) (_n : Nat) : LK := tabL []
theorem Q0f_k (G : Q0f_G) {ρ : Type} (n : Nat) (a0 a1 : Int) (K : Res → Option ρ) : runC (Q0f_S G) Q0f_hs (Q0f_lp G n) m78 [.i .i64 a0, .i .i64 a1] K = Q0f_s G n a0 a1 (fun w0 => K ⟨.i .i64 w0, [], []⟩) := by kernel_rfl
theorem Q0f_ok (n : Nat) : EK.OK (Q0f_e n) 78 (L tab) := EK.shp (fun _ _ _ => rfl) fun ρ K y c e => EK.run (Q0f_Sok n) (by kernel_rfl) (MF.LKOK.of (LK.of (l := []) (by kernel_rfl) ((fun _ h => nomatch h)))) (Q0f_k (Q0f_g n) n _ _ K) (by kernel_rfl) e
abbrev Q0b_T : Type 1 := (ρ : Type) → Int → Int → Int → Int → Int → (Int → Int → Int → Int → Option ρ) → Option ρ
def Q0b_E (G : Q0b_T) : EK := fun ρ args K => decL [.agg [.i .i64 none, .i .i64 none, .i .i64 none, .i .i64 none], .i .i64 none] args fun c => G ρ c.1.1 c.1.2.1 c.1.2.2.1 c.1.2.2.2.1 c.2.1 (fun w0 w1 w2 w3 => K ⟨.agg [.i .i64 w0, .i .i64 w1, .i .i64 w2, .i .i64 w3], [], []⟩)
structure Q0b_G where
 mk ::
 Qj : Qj_T
 Q0f : Q0f_T
def Q0b_s (G : Q0b_G) {ρ : Type} (_n : Nat) (a0 a1 : Int) (a2 a3 a4 : Int) (k0 : (Int → Int → Int → Int → Option ρ)) : Option ρ :=
 G.Qj ρ a0 a1 a2 a3 (fun w0_0 =>
 bif w0_0 then
 G.Q0f ρ a2 a4 (fun w1_0 =>
 k0 a0 a1 w1_0 a3)
 else k0 0 0 0 0)
def Q0b_g (n : Nat) : Q0b_G := ⟨Qj n, Q0f n⟩
def Q0b (n : Nat) : Q0b_T := fun _ρ a0 a1 a2 a3 a4 k0 => Q0b_s (Q0b_g n) n a0 a1 a2 a3 a4 k0
def Q0b_e (n : Nat) : EK := Q0b_E (Q0b n)
def Q0b_S (G : Q0b_G) : CK := tabS [(43, Qj_E G.Qj), (78, Q0f_E G.Q0f)]
theorem Q0b_Sok (n : Nat) : CK.OK (Q0b_S (Q0b_g n)) (L tab) := tabS_ok _ (List.forall_mem_cons.2 ⟨(Qj_ok n), List.forall_mem_cons.2 ⟨(Q0f_ok n), (fun _ h => nomatch h)⟩⟩)
def Q0b_hs : HintC := hintL []
def Q0b_lp (_G : Q0b_G) (_n : Nat) : LK := tabL []
theorem Q0b_k (G : Q0b_G) {ρ : Type} (n : Nat) (a0 a1 : Int) (a2 a3 a4 : Int) (K : Res → Option ρ) : runC (Q0b_S G) Q0b_hs (Q0b_lp G n) m56 [.agg [.i .i64 a0, .i .i64 a1, .i .i64 a2, .i .i64 a3], .i .i64 a4] K = Q0b_s G n a0 a1 a2 a3 a4 (fun w0 w1 w2 w3 => K ⟨.agg [.i .i64 w0, .i .i64 w1, .i .i64 w2, .i .i64 w3], [], []⟩) := by kernel_rfl
theorem Q0b_ok (n : Nat) : EK.OK (Q0b_e n) 56 (L tab) := EK.shp (fun _ _ _ => rfl) fun ρ K y c e => EK.run (Q0b_Sok n) (by kernel_rfl) (MF.LKOK.of (LK.of (l := []) (by kernel_rfl) ((fun _ h => nomatch h)))) (Q0b_k (Q0b_g n) n _ _ _ _ _ K) (by kernel_rfl) e
abbrev Q04_T : Type 1 := (ρ : Type) → Int → Int → Int → Int → Int → (Int → Int → Int → Int → Int → Option ρ) → Option ρ
def Q04_E (G : Q04_T) : EK := fun ρ args K => decL [.agg [.i .i64 none, .i .i64 none, .i .i64 none, .i .i64 none], .i .i64 none] args fun c => G ρ c.1.1 c.1.2.1 c.1.2.2.1 c.1.2.2.2.1 c.2.1 (fun w0 w1 w2 w3 w4 => K ⟨.tup [.agg [.i .i64 w0, .i .i64 w1, .i .i64 w2, .i .i64 w3], .i .i64 w4], [], []⟩)
structure Q04_G where
 mk ::
 Qj : Qj_T
 right_Badge : right_Badge_T
 cap_badged : cap_badged_T
def Q04_s (G : Q04_G) {ρ : Type} (_n : Nat) (a0 a1 : Int) (a2 a3 a4 : Int) (k0 : (Int → Int → Int → Int → Int → Option ρ)) : Option ρ :=
 G.Qj ρ a0 a1 a2 a3 (fun w0_0 =>
 bif w0_0 then
 G.right_Badge ρ a4 (fun w1_0 =>
 bif w1_0 then
 bif ((a4 : Int) == 0) then
 k0 0 0 0 0 1
 else G.cap_badged ρ a0 (fun w2_0 =>
 bif w2_0 then
 bif ((a3 : Int) != 0) then
 k0 0 0 0 0 5
 else k0 a0 a1 a2 a4 0
 else k0 0 0 0 0 7)
 else k0 0 0 0 0 1)
 else k0 0 0 0 0 1)
def Q04_g (n : Nat) : Q04_G := ⟨Qj n, right_Badge n, cap_badged n⟩
def Q04 (n : Nat) : Q04_T := fun _ρ a0 a1 a2 a3 a4 k0 => Q04_s (Q04_g n) n a0 a1 a2 a3 a4 k0
def Q04_e (n : Nat) : EK := Q04_E (Q04 n)
def Q04_S (G : Q04_G) : CK := tabS [(43, Qj_E G.Qj), (64, right_Badge_E G.right_Badge), (65, cap_badged_E G.cap_badged)]
theorem Q04_Sok (n : Nat) : CK.OK (Q04_S (Q04_g n)) (L tab) := tabS_ok _ (List.forall_mem_cons.2 ⟨(Qj_ok n), List.forall_mem_cons.2 ⟨(right_Badge_ok n), List.forall_mem_cons.2 ⟨(cap_badged_ok n), (fun _ h => nomatch h)⟩⟩⟩)
def Q04_hs : HintC := hintL []
def Q04_lp (_G : Q04_G) (_n : Nat) : LK := tabL []
theorem Q04_k (G : Q04_G) {ρ : Type} (n : Nat) (a0 a1 : Int) (a2 a3 a4 : Int) (K : Res → Option ρ) : runC (Q04_S G) Q04_hs (Q04_lp G n) m57 [.agg [.i .i64 a0, .i .i64 a1, .i .i64 a2, .i .i64 a3], .i .i64 a4] K = Q04_s G n a0 a1 a2 a3 a4 (fun w0 w1 w2 w3 w4 => K ⟨.tup [.agg [.i .i64 w0, .i .i64 w1, .i .i64 w2, .i .i64 w3], .i .i64 w4], [], []⟩) := by kernel_rfl
theorem Q04_ok (n : Nat) : EK.OK (Q04_e n) 57 (L tab) := EK.shp (fun _ _ _ => rfl) fun ρ K y c e => EK.run (Q04_Sok n) (by kernel_rfl) (MF.LKOK.of (LK.of (l := []) (by kernel_rfl) ((fun _ h => nomatch h)))) (Q04_k (Q04_g n) n _ _ _ _ _ K) (by kernel_rfl) e
abbrev Qk_T : Type 1 := (ρ : Type) → Int → Int → Int → Bool → Bool → Rows → Bool → Bool → Rows → Int → Bool → Bool → Rows → (Int → Int → Option ρ) → Option ρ
def Qk_E (G : Qk_T) : EK := fun ρ args K => decL [.agg [.i .i64 none, .i .i64 none, .i .i64 none, .lst none none 5 none, .lst none none 13 none], .i .i64 none, .agg [.lst none none 1 none]] args fun c => G ρ c.1.1 c.1.2.1 c.1.2.2.1 c.1.2.2.2.1.1 c.1.2.2.2.1.2.1 c.1.2.2.2.1.2.2 c.1.2.2.2.2.1.1 c.1.2.2.2.2.1.2.1 c.1.2.2.2.2.1.2.2 c.2.1 c.2.2.1.1.1 c.2.2.1.1.2.1 c.2.2.1.1.2.2 (fun w0 w1 => K ⟨.tup [.i .i64 w0, .i .i64 w1], [], []⟩)
structure Qk_G where
 mk ::
 Q8 : Q8_T
 cap_None : cap_None_T
def Qk_s (G : Qk_G) {ρ : Type} (_n : Nat) (a0 a1 a2 : Int) (a3 a4 : Bool) (a5 : Rows) (a6 a7 : Bool) (a8 : Rows) (a9 : Int) (a10 a11 : Bool) (a12 : Rows) (k0 : (Int → Int → Option ρ)) : Option ρ :=
 G.Q8 ρ a0 a1 a2 a3 a4 a5 a6 a7 a8 a9 a10 a11 a12 (fun w0_0 w0_1 =>
 bif ((w0_1 : Int) != 0) then
 k0 0 w0_1
 else rowT [.i .i64, .i .i64, .i .i64, .i .i64, .i .i64] a5 w0_0 fun c1 =>
 G.cap_None ρ c1.1 c1.2.1 c1.2.2.1 c1.2.2.2.1 (fun w2_0 =>
 bif w2_0 then
 k0 w0_0 0
 else k0 0 5))
def Qk_g (n : Nat) : Qk_G := ⟨Q8 n, cap_None n⟩
def Qk (n : Nat) : Qk_T := fun _ρ a0 a1 a2 a3 a4 a5 a6 a7 a8 a9 a10 a11 a12 k0 => Qk_s (Qk_g n) n a0 a1 a2 a3 a4 a5 a6 a7 a8 a9 a10 a11 a12 k0
def Qk_e (n : Nat) : EK := Qk_E (Qk n)
def Qk_S (G : Qk_G) : CK := tabS [(74, Q8_E G.Q8), (21, cap_None_E G.cap_None)]
theorem Qk_Sok (n : Nat) : CK.OK (Qk_S (Qk_g n)) (L tab) := tabS_ok _ (List.forall_mem_cons.2 ⟨(Q8_ok n), List.forall_mem_cons.2 ⟨(cap_None_ok n), (fun _ h => nomatch h)⟩⟩)
def Qk_hs : HintC := hintL [(25, [.i .i64, .i .i64, .i .i64, .i .i64, .i .i64])]
def Qk_lp (_G : Qk_G) (_n : Nat) : LK := tabL []
theorem Qk_k (G : Qk_G) {ρ : Type} (n : Nat) (a0 a1 a2 : Int) (a3 a4 : Bool) (a5 : Rows) (a6 a7 : Bool) (a8 : Rows) (a9 : Int) (a10 a11 : Bool) (a12 : Rows) (K : Res → Option ρ) : runC (Qk_S G) Qk_hs (Qk_lp G n) m51 [.agg [.i .i64 a0, .i .i64 a1, .i .i64 a2, .lst a3 a4 5 a5, .lst a6 a7 13 a8], .i .i64 a9, .agg [.lst a10 a11 1 a12]] K = Qk_s G n a0 a1 a2 a3 a4 a5 a6 a7 a8 a9 a10 a11 a12 (fun w0 w1 => K ⟨.tup [.i .i64 w0, .i .i64 w1], [], []⟩) := by kernel_rfl
theorem Qk_ok (n : Nat) : EK.OK (Qk_e n) 51 (L tab) := EK.shp (fun _ _ _ => rfl) fun ρ K y c e => EK.run (Qk_Sok n) (by kernel_rfl) (MF.LKOK.of (LK.of (l := []) (by kernel_rfl) ((fun _ h => nomatch h)))) (Qk_k (Qk_g n) n _ _ _ _ _ _ _ _ _ _ _ _ _ K) (by kernel_rfl) e
abbrev Q0e_T : Type 1 := (ρ : Type) → Int → Int → Int → Bool → Bool → Rows → Bool → Bool → Rows → Int → (Int → Option ρ) → Option ρ
def Q0e_E (G : Q0e_T) : EK := fun ρ args K => decL [.agg [.i .i64 none, .i .i64 none, .i .i64 none, .lst none none 5 none, .lst none none 13 none], .i .i64 none] args fun c => G ρ c.1.1 c.1.2.1 c.1.2.2.1 c.1.2.2.2.1.1 c.1.2.2.2.1.2.1 c.1.2.2.2.1.2.2 c.1.2.2.2.2.1.1 c.1.2.2.2.2.1.2.1 c.1.2.2.2.2.1.2.2 c.2.1 (fun w0 => K ⟨.i .i64 w0, [], []⟩)
structure Q0e_G where
 mk ::
 Qh : Qh_T
 Qb : Qb_T
def Q0e_s (G : Q0e_G) {ρ : Type} (_n : Nat) (a0 a1 a2 : Int) (a3 a4 : Bool) (a5 : Rows) (a6 a7 : Bool) (a8 : Rows) (a9 : Int) (k0 : (Int → Option ρ)) : Option ρ :=
 G.Qh ρ a0 a1 a2 a3 a4 a5 a6 a7 a8 (fun w0_0 =>
 bif w0_0 then
 bif decide ((a9 : Int) < 0) then
 k0 (-1)
 else bif decide ((a9 : Int) ≥ (((List.length (a5 : Rows)) : Nat) : Int)) then
 k0 (-1)
 else G.Qb ρ a0 a1 a2 a3 a4 a5 a6 a7 a8 a9 (fun w1_0 =>
 k0 w1_0)
 else k0 (-1))
def Q0e_g (n : Nat) : Q0e_G := ⟨Qh n, Qb n⟩
def Q0e (n : Nat) : Q0e_T := fun _ρ a0 a1 a2 a3 a4 a5 a6 a7 a8 a9 k0 => Q0e_s (Q0e_g n) n a0 a1 a2 a3 a4 a5 a6 a7 a8 a9 k0
def Q0e_e (n : Nat) : EK := Q0e_E (Q0e n)
def Q0e_S (G : Q0e_G) : CK := tabS [(9, Qh_E G.Qh), (68, Qb_E G.Qb)]
theorem Q0e_Sok (n : Nat) : CK.OK (Q0e_S (Q0e_g n)) (L tab) := tabS_ok _ (List.forall_mem_cons.2 ⟨(Qh_ok n), List.forall_mem_cons.2 ⟨(Qb_ok n), (fun _ h => nomatch h)⟩⟩)
def Q0e_hs : HintC := hintL []
def Q0e_lp (_G : Q0e_G) (_n : Nat) : LK := tabL []
theorem Q0e_k (G : Q0e_G) {ρ : Type} (n : Nat) (a0 a1 a2 : Int) (a3 a4 : Bool) (a5 : Rows) (a6 a7 : Bool) (a8 : Rows) (a9 : Int) (K : Res → Option ρ) : runC (Q0e_S G) Q0e_hs (Q0e_lp G n) m79 [.agg [.i .i64 a0, .i .i64 a1, .i .i64 a2, .lst a3 a4 5 a5, .lst a6 a7 13 a8], .i .i64 a9] K = Q0e_s G n a0 a1 a2 a3 a4 a5 a6 a7 a8 a9 (fun w0 => K ⟨.i .i64 w0, [], []⟩) := by kernel_rfl
theorem Q0e_ok (n : Nat) : EK.OK (Q0e_e n) 79 (L tab) := EK.shp (fun _ _ _ => rfl) fun ρ K y c e => EK.run (Q0e_Sok n) (by kernel_rfl) (MF.LKOK.of (LK.of (l := []) (by kernel_rfl) ((fun _ h => nomatch h)))) (Q0e_k (Q0e_g n) n _ _ _ _ _ _ _ _ _ _ K) (by kernel_rfl) e
abbrev Q02_T : Type 1 := (ρ : Type) → Int → Int → Int → Bool → Bool → Rows → Bool → Bool → Rows → Int → Int → (Bool → Option ρ) → Option ρ
def Q02_E (G : Q02_T) : EK := fun ρ args K => decL [.agg [.i .i64 none, .i .i64 none, .i .i64 none, .lst none none 5 none, .lst none none 13 none], .i .i64 none, .i .i64 none] args fun c => G ρ c.1.1 c.1.2.1 c.1.2.2.1 c.1.2.2.2.1.1 c.1.2.2.2.1.2.1 c.1.2.2.2.1.2.2 c.1.2.2.2.2.1.1 c.1.2.2.2.2.1.2.1 c.1.2.2.2.2.1.2.2 c.2.1 c.2.2.1 (fun w0 => K ⟨.b w0, [], []⟩)
structure Q02_G where
 mk ::
 Qh : Qh_T
 Qv : Qv_T
def Q02_s (G : Q02_G) {ρ : Type} (_n : Nat) (a0 a1 a2 : Int) (a3 a4 : Bool) (a5 : Rows) (a6 a7 : Bool) (a8 : Rows) (a9 a10 : Int) (k0 : (Bool → Option ρ)) : Option ρ :=
 G.Qh ρ a0 a1 a2 a3 a4 a5 a6 a7 a8 (fun w0_0 =>
 bif w0_0 then
 bif decide ((a10 : Int) ≥ 0) then
 bif decide ((a10 : Int) < (((List.length (a5 : Rows)) : Nat) : Int)) then
 G.Qv ρ a0 a1 a2 a3 a4 a5 a6 a7 a8 a9 a10 (fun w1_0 =>
 bif w1_0 then
 k0 true
 else k0 false)
 else k0 false
 else k0 false
 else k0 false)
def Q02_g (n : Nat) : Q02_G := ⟨Qh n, Qv n⟩
def Q02 (n : Nat) : Q02_T := fun _ρ a0 a1 a2 a3 a4 a5 a6 a7 a8 a9 a10 k0 => Q02_s (Q02_g n) n a0 a1 a2 a3 a4 a5 a6 a7 a8 a9 a10 k0
def Q02_e (n : Nat) : EK := Q02_E (Q02 n)
def Q02_S (G : Q02_G) : CK := tabS [(9, Qh_E G.Qh), (48, Qv_E G.Qv)]
theorem Q02_Sok (n : Nat) : CK.OK (Q02_S (Q02_g n)) (L tab) := tabS_ok _ (List.forall_mem_cons.2 ⟨(Qh_ok n), List.forall_mem_cons.2 ⟨(Qv_ok n), (fun _ h => nomatch h)⟩⟩)
def Q02_hs : HintC := hintL []
def Q02_lp (_G : Q02_G) (_n : Nat) : LK := tabL []
theorem Q02_k (G : Q02_G) {ρ : Type} (n : Nat) (a0 a1 a2 : Int) (a3 a4 : Bool) (a5 : Rows) (a6 a7 : Bool) (a8 : Rows) (a9 a10 : Int) (K : Res → Option ρ) : runC (Q02_S G) Q02_hs (Q02_lp G n) m80 [.agg [.i .i64 a0, .i .i64 a1, .i .i64 a2, .lst a3 a4 5 a5, .lst a6 a7 13 a8], .i .i64 a9, .i .i64 a10] K = Q02_s G n a0 a1 a2 a3 a4 a5 a6 a7 a8 a9 a10 (fun w0 => K ⟨.b w0, [], []⟩) := by kernel_rfl
theorem Q02_ok (n : Nat) : EK.OK (Q02_e n) 80 (L tab) := EK.shp (fun _ _ _ => rfl) fun ρ K y c e => EK.run (Q02_Sok n) (by kernel_rfl) (MF.LKOK.of (LK.of (l := []) (by kernel_rfl) ((fun _ h => nomatch h)))) (Q02_k (Q02_g n) n _ _ _ _ _ _ _ _ _ _ _ K) (by kernel_rfl) e
abbrev Qi_T : Type 1 := (ρ : Type) → Int → Int → Int → Bool → Bool → Rows → Bool → Bool → Rows → Int → Int → Int → Int → Int → (Bool → Option ρ) → Option ρ
def Qi_E (G : Qi_T) : EK := fun ρ args K => decL [.agg [.i .i64 none, .i .i64 none, .i .i64 none, .lst none none 5 none, .lst none none 13 none], .agg [.i .i64 none, .i .i64 none, .i .i64 none, .i .i64 none], .i .i64 none] args fun c => G ρ c.1.1 c.1.2.1 c.1.2.2.1 c.1.2.2.2.1.1 c.1.2.2.2.1.2.1 c.1.2.2.2.1.2.2 c.1.2.2.2.2.1.1 c.1.2.2.2.2.1.2.1 c.1.2.2.2.2.1.2.2 c.2.1.1 c.2.1.2.1 c.2.1.2.2.1 c.2.1.2.2.2.1 c.2.2.1 (fun w0 => K ⟨.b w0, [], []⟩)
structure Qi_G where
 mk ::
 Q02 : Q02_T
def Qi_s (G : Qi_G) {ρ : Type} (_n : Nat) (a0 a1 a2 : Int) (a3 a4 : Bool) (a5 : Rows) (a6 a7 : Bool) (a8 : Rows) (a9 a10 : Int) (_a11 _a12 a13 : Int) (k0 : (Bool → Option ρ)) : Option ρ :=
 bif ((a9 : Int) == 2) then
 G.Q02 ρ a0 a1 a2 a3 a4 a5 a6 a7 a8 a10 a13 (fun w0_0 =>
 bif w0_0 then
 k0 true
 else k0 false)
 else k0 false
def Qi_g (n : Nat) : Qi_G := ⟨Q02 n⟩
def Qi (n : Nat) : Qi_T := fun _ρ a0 a1 a2 a3 a4 a5 a6 a7 a8 a9 a10 a11 a12 a13 k0 => Qi_s (Qi_g n) n a0 a1 a2 a3 a4 a5 a6 a7 a8 a9 a10 a11 a12 a13 k0
def Qi_e (n : Nat) : EK := Qi_E (Qi n)
def Qi_S (G : Qi_G) : CK := tabS [(80, Q02_E G.Q02)]
theorem Qi_Sok (n : Nat) : CK.OK (Qi_S (Qi_g n)) (L tab) := tabS_ok _ (List.forall_mem_cons.2 ⟨(Q02_ok n), (fun _ h => nomatch h)⟩)
def Qi_hs : HintC := hintL []
def Qi_lp (_G : Qi_G) (_n : Nat) : LK := tabL []
theorem Qi_k (G : Qi_G) {ρ : Type} (n : Nat) (a0 a1 a2 : Int) (a3 a4 : Bool) (a5 : Rows) (a6 a7 : Bool) (a8 : Rows) (a9 a10 : Int) (a11 a12 a13 : Int) (K : Res → Option ρ) : runC (Qi_S G) Qi_hs (Qi_lp G n) m59 [.agg [.i .i64 a0, .i .i64 a1, .i .i64 a2, .lst a3 a4 5 a5, .lst a6 a7 13 a8], .agg [.i .i64 a9, .i .i64 a10, .i .i64 a11, .i .i64 a12], .i .i64 a13] K = Qi_s G n a0 a1 a2 a3 a4 a5 a6 a7 a8 a9 a10 a11 a12 a13 (fun w0 => K ⟨.b w0, [], []⟩) := by kernel_rfl
theorem Qi_ok (n : Nat) : EK.OK (Qi_e n) 59 (L tab) := EK.shp (fun _ _ _ => rfl) fun ρ K y c e => EK.run (Qi_Sok n) (by kernel_rfl) (MF.LKOK.of (LK.of (l := []) (by kernel_rfl) ((fun _ h => nomatch h)))) (Qi_k (Qi_g n) n _ _ _ _ _ _ _ _ _ _ _ _ _ _ K) (by kernel_rfl) e
abbrev slices_Clone_Slot_T : Type 1 := (ρ : Type) → Bool → Bool → Rows → (Option ρ) → (Nat → Nat → Rows → Option ρ) → Option ρ
def slices_Clone_Slot_E (G : slices_Clone_Slot_T) : EK := fun ρ args K => decL [.lst none none 5 none] args fun c => G ρ c.1.1 c.1.2.1 c.1.2.2 (K ⟨.lst true true 0 [], [], []⟩) (fun w0 w1 w2 => K ⟨.sl 0 w0 5 0 w1, [.row 5 true false w2], []⟩)
structure slices_Clone_Slot_G where
 mk ::
def slices_Clone_Slot_s (_G : slices_Clone_Slot_G) {ρ : Type} (_n : Nat) (a0 _a1 : Bool) (a2 : Rows) (k0 : (Option ρ)) (k1 : (Nat → Nat → Rows → Option ρ)) : Option ρ :=
 bif a0 then
 k0
 else chk (List.all (a2 : Rows) fun e => e.length == 5) <|
 chk (decide ((0 + (List.length (a2 : Rows))) ≤ most)) <|
 chk (List.all (a2 : Rows) fun e => !ownL e) <|
 k1 (0 + (List.length (a2 : Rows))) (0 + (List.length (a2 : Rows))) ([] ++ a2)
def slices_Clone_Slot_g (_n : Nat) : slices_Clone_Slot_G := ⟨⟩
def slices_Clone_Slot (n : Nat) : slices_Clone_Slot_T := fun _ρ a0 a1 a2 k0 k1 => slices_Clone_Slot_s (slices_Clone_Slot_g n) n a0 a1 a2 k0 k1
def slices_Clone_Slot_e (n : Nat) : EK := slices_Clone_Slot_E (slices_Clone_Slot n)
def slices_Clone_Slot_S (_G : slices_Clone_Slot_G) : CK := tabS []
theorem slices_Clone_Slot_Sok (n : Nat) : CK.OK (slices_Clone_Slot_S (slices_Clone_Slot_g n)) (L tab) := tabS_ok _ ((fun _ h => nomatch h))
def slices_Clone_Slot_hs : HintC := hintL []
def slices_Clone_Slot_lp (_G : slices_Clone_Slot_G) (_n : Nat) : LK := tabL []
theorem slices_Clone_Slot_k (G : slices_Clone_Slot_G) {ρ : Type} (n : Nat) (a0 a1 : Bool) (a2 : Rows) (K : Res → Option ρ) : runC (slices_Clone_Slot_S G) slices_Clone_Slot_hs (slices_Clone_Slot_lp G n) m76 [.lst a0 a1 5 a2] K = slices_Clone_Slot_s G n a0 a1 a2 (K ⟨.lst true true 0 [], [], []⟩) (fun w0 w1 w2 => K ⟨.sl 0 w0 5 0 w1, [.row 5 true false w2], []⟩) := by kernel_rfl
theorem slices_Clone_Slot_ok (n : Nat) : EK.OK (slices_Clone_Slot_e n) 76 (L tab) := EK.shp (fun _ _ _ => rfl) fun ρ K y c e => EK.run (slices_Clone_Slot_Sok n) (by kernel_rfl) (MF.LKOK.of (LK.of (l := []) (by kernel_rfl) ((fun _ h => nomatch h)))) (slices_Clone_Slot_k (slices_Clone_Slot_g n) n _ _ _ K) (by kernel_rfl) e
abbrev slices_Clone_Thing_T : Type 1 := (ρ : Type) → Bool → Bool → Rows → (Option ρ) → (Nat → Nat → Rows → Option ρ) → Option ρ
def slices_Clone_Thing_E (G : slices_Clone_Thing_T) : EK := fun ρ args K => decL [.lst none none 13 none] args fun c => G ρ c.1.1 c.1.2.1 c.1.2.2 (K ⟨.lst true true 0 [], [], []⟩) (fun w0 w1 w2 => K ⟨.sl 0 w0 13 0 w1, [.row 13 true false w2], []⟩)
structure slices_Clone_Thing_G where
 mk ::
def slices_Clone_Thing_s (_G : slices_Clone_Thing_G) {ρ : Type} (_n : Nat) (a0 _a1 : Bool) (a2 : Rows) (k0 : (Option ρ)) (k1 : (Nat → Nat → Rows → Option ρ)) : Option ρ :=
 bif a0 then
 k0
 else chk (List.all (a2 : Rows) fun e => e.length == 13) <|
 chk (decide ((0 + (List.length (a2 : Rows))) ≤ most)) <|
 chk (List.all (a2 : Rows) fun e => !ownL e) <|
 k1 (0 + (List.length (a2 : Rows))) (0 + (List.length (a2 : Rows))) ([] ++ a2)
def slices_Clone_Thing_g (_n : Nat) : slices_Clone_Thing_G := ⟨⟩
def slices_Clone_Thing (n : Nat) : slices_Clone_Thing_T := fun _ρ a0 a1 a2 k0 k1 => slices_Clone_Thing_s (slices_Clone_Thing_g n) n a0 a1 a2 k0 k1
def slices_Clone_Thing_e (n : Nat) : EK := slices_Clone_Thing_E (slices_Clone_Thing n)
def slices_Clone_Thing_S (_G : slices_Clone_Thing_G) : CK := tabS []
theorem slices_Clone_Thing_Sok (n : Nat) : CK.OK (slices_Clone_Thing_S (slices_Clone_Thing_g n)) (L tab) := tabS_ok _ ((fun _ h => nomatch h))
def slices_Clone_Thing_hs : HintC := hintL []
def slices_Clone_Thing_lp (_G : slices_Clone_Thing_G) (_n : Nat) : LK := tabL []
theorem slices_Clone_Thing_k (G : slices_Clone_Thing_G) {ρ : Type} (n : Nat) (a0 a1 : Bool) (a2 : Rows) (K : Res → Option ρ) : runC (slices_Clone_Thing_S G) slices_Clone_Thing_hs (slices_Clone_Thing_lp G n) m77 [.lst a0 a1 13 a2] K = slices_Clone_Thing_s G n a0 a1 a2 (K ⟨.lst true true 0 [], [], []⟩) (fun w0 w1 w2 => K ⟨.sl 0 w0 13 0 w1, [.row 13 true false w2], []⟩) := by kernel_rfl
theorem slices_Clone_Thing_ok (n : Nat) : EK.OK (slices_Clone_Thing_e n) 77 (L tab) := EK.shp (fun _ _ _ => rfl) fun ρ K y c e => EK.run (slices_Clone_Thing_Sok n) (by kernel_rfl) (MF.LKOK.of (LK.of (l := []) (by kernel_rfl) ((fun _ h => nomatch h)))) (slices_Clone_Thing_k (slices_Clone_Thing_g n) n _ _ _ K) (by kernel_rfl) e
abbrev Qs_T : Type 1 := (ρ : Type) → Int → Int → Int → Bool → Bool → Rows → Bool → Bool → Rows → (Option ρ) → (Nat → Nat → Rows → Option ρ) → (Nat → Nat → Rows → Option ρ) → (Nat → Nat → Nat → Nat → Rows → Rows → Option ρ) → Option ρ
def Qs_E (G : Qs_T) : EK := fun ρ args K => decL [.agg [.i .i64 none, .i .i64 none, .i .i64 none, .lst none none 5 none, .lst none none 13 none]] args fun c => G ρ c.1.1 c.1.2.1 c.1.2.2.1 c.1.2.2.2.1.1 c.1.2.2.2.1.2.1 c.1.2.2.2.1.2.2 c.1.2.2.2.2.1.1 c.1.2.2.2.2.1.2.1 c.1.2.2.2.2.1.2.2 (K ⟨.agg [.i .i64 c.1.1, .i .i64 c.1.2.1, .i .i64 c.1.2.2.1, .lst true true 0 [], .lst true true 0 []], [], []⟩) (fun w0 w1 w2 => K ⟨.agg [.i .i64 c.1.1, .i .i64 c.1.2.1, .i .i64 c.1.2.2.1, .lst true true 0 [], .sl 0 w0 13 0 w1], [.row 13 true false w2], []⟩) (fun w0 w1 w2 => K ⟨.agg [.i .i64 c.1.1, .i .i64 c.1.2.1, .i .i64 c.1.2.2.1, .sl 0 w0 5 0 w1, .lst true true 0 []], [.row 5 true false w2], []⟩) (fun w0 w1 w2 w3 w4 w5 => K ⟨.agg [.i .i64 c.1.1, .i .i64 c.1.2.1, .i .i64 c.1.2.2.1, .sl 0 w0 5 0 w1, .sl 1 w2 13 0 w3], [.row 5 true false w4, .row 13 true false w5], []⟩)
structure Qs_G where
 mk ::
 slices_Clone_Slot : slices_Clone_Slot_T
 slices_Clone_Thing : slices_Clone_Thing_T
def Qs_s (G : Qs_G) {ρ : Type} (_n : Nat) (_a0 _a1 _a2 : Int) (a3 a4 : Bool) (a5 : Rows) (a6 a7 : Bool) (a8 : Rows) (k0 : (Option ρ)) (k1 : (Nat → Nat → Rows → Option ρ)) (k2 : (Nat → Nat → Rows → Option ρ)) (k3 : (Nat → Nat → Nat → Nat → Rows → Rows → Option ρ)) : Option ρ :=
 G.slices_Clone_Slot ρ a3 a4 a5 (G.slices_Clone_Thing ρ a6 a7 a8 (k0) (fun w2_0 w2_1 w2_2 =>
 k1 w2_0 w2_1 w2_2)) (fun w3_0 w3_1 w3_2 =>
 G.slices_Clone_Thing ρ a6 a7 a8 (k2 w3_0 w3_1 w3_2) (fun w5_0 w5_1 w5_2 =>
 k3 w3_0 w3_1 w5_0 w5_1 w3_2 w5_2))
def Qs_g (n : Nat) : Qs_G := ⟨slices_Clone_Slot n, slices_Clone_Thing n⟩
def Qs (n : Nat) : Qs_T := fun _ρ a0 a1 a2 a3 a4 a5 a6 a7 a8 k0 k1 k2 k3 => Qs_s (Qs_g n) n a0 a1 a2 a3 a4 a5 a6 a7 a8 k0 k1 k2 k3
def Qs_e (n : Nat) : EK := Qs_E (Qs n)
def Qs_S (G : Qs_G) : CK := tabS [(76, slices_Clone_Slot_E G.slices_Clone_Slot), (77, slices_Clone_Thing_E G.slices_Clone_Thing)]
theorem Qs_Sok (n : Nat) : CK.OK (Qs_S (Qs_g n)) (L tab) := tabS_ok _ (List.forall_mem_cons.2 ⟨(slices_Clone_Slot_ok n), List.forall_mem_cons.2 ⟨(slices_Clone_Thing_ok n), (fun _ h => nomatch h)⟩⟩)
def Qs_hs : HintC := hintL []
def Qs_lp (_G : Qs_G) (_n : Nat) : LK := tabL []
theorem Qs_k (G : Qs_G) {ρ : Type} (n : Nat) (a0 a1 a2 : Int) (a3 a4 : Bool) (a5 : Rows) (a6 a7 : Bool) (a8 : Rows) (K : Res → Option ρ) : runC (Qs_S G) Qs_hs (Qs_lp G n) m54 [.agg [.i .i64 a0, .i .i64 a1, .i .i64 a2, .lst a3 a4 5 a5, .lst a6 a7 13 a8]] K = Qs_s G n a0 a1 a2 a3 a4 a5 a6 a7 a8 (K ⟨.agg [.i .i64 a0, .i .i64 a1, .i .i64 a2, .lst true true 0 [], .lst true true 0 []], [], []⟩) (fun w0 w1 w2 => K ⟨.agg [.i .i64 a0, .i .i64 a1, .i .i64 a2, .lst true true 0 [], .sl 0 w0 13 0 w1], [.row 13 true false w2], []⟩) (fun w0 w1 w2 => K ⟨.agg [.i .i64 a0, .i .i64 a1, .i .i64 a2, .sl 0 w0 5 0 w1, .lst true true 0 []], [.row 5 true false w2], []⟩) (fun w0 w1 w2 w3 w4 w5 => K ⟨.agg [.i .i64 a0, .i .i64 a1, .i .i64 a2, .sl 0 w0 5 0 w1, .sl 1 w2 13 0 w3], [.row 5 true false w4, .row 13 true false w5], []⟩) := by kernel_rfl
theorem Qs_ok (n : Nat) : EK.OK (Qs_e n) 54 (L tab) := EK.shp (fun _ _ _ => rfl) fun ρ K y c e => EK.run (Qs_Sok n) (by kernel_rfl) (MF.LKOK.of (LK.of (l := []) (by kernel_rfl) ((fun _ h => nomatch h)))) (Qs_k (Qs_g n) n _ _ _ _ _ _ _ _ _ K) (by kernel_rfl) e
abbrev Qw_T : Type 1 := (ρ : Type) → Int → Int → Int → Bool → Bool → Rows → Bool → Bool → Rows → Int → Int → Int → Int → Int → Int → (Bool → Bool → Rows → Bool → Bool → Rows → Int → Option ρ) → Option ρ
def Qw_E (G : Qw_T) : EK := fun ρ args K => decL [.agg [.i .i64 none, .i .i64 none, .i .i64 none, .lst none none 5 none, .lst none none 13 none], .i .i64 none, .i .i64 none, .agg [.i .i64 none, .i .i64 none, .i .i64 none, .i .i64 none]] args fun c => G ρ c.1.1 c.1.2.1 c.1.2.2.1 c.1.2.2.2.1.1 c.1.2.2.2.1.2.1 c.1.2.2.2.1.2.2 c.1.2.2.2.2.1.1 c.1.2.2.2.2.1.2.1 c.1.2.2.2.2.1.2.2 c.2.1 c.2.2.1 c.2.2.2.1.1 c.2.2.2.1.2.1 c.2.2.2.1.2.2.1 c.2.2.2.1.2.2.2.1 (fun w0 w1 w2 w3 w4 w5 w6 => K ⟨.tup [.agg [.i .i64 c.1.1, .i .i64 c.1.2.1, .i .i64 c.1.2.2.1, .lst w0 w1 5 w2, .lst w3 w4 13 w5], .i .i64 w6], [], []⟩)
structure Qw_G where
 mk ::
 Qh : Qh_T
 Qj : Qj_T
 cap_None : cap_None_T
 Q0e : Q0e_T
 Qu : Qu_T
 Qi : Qi_T
 Qs : Qs_T
def Qw_s (G : Qw_G) {ρ : Type} (_n : Nat) (a0 a1 a2 : Int) (a3 a4 : Bool) (a5 : Rows) (a6 a7 : Bool) (a8 : Rows) (a9 a10 : Int) (a11 a12 : Int) (a13 a14 : Int) (k0 : (Bool → Bool → Rows → Bool → Bool → Rows → Int → Option ρ)) : Option ρ :=
 G.Qh ρ a0 a1 a2 a3 a4 a5 a6 a7 a8 (fun w0_0 =>
 bif w0_0 then
 bif decide ((a9 : Int) < 0) then
 k0 a3 a4 a5 a6 a7 a8 1
 else bif decide ((a9 : Int) ≥ (((List.length (a5 : Rows)) : Nat) : Int)) then
 k0 a3 a4 a5 a6 a7 a8 1
 else bif decide ((a10 : Int) < 0) then
 k0 a3 a4 a5 a6 a7 a8 1
 else bif decide ((a10 : Int) ≥ (((List.length (a5 : Rows)) : Nat) : Int)) then
 k0 a3 a4 a5 a6 a7 a8 1
 else G.Qj ρ a11 a12 a13 a14 (fun w1_0 =>
 bif w1_0 then
 G.cap_None ρ a11 a12 a13 a14 (fun w2_0 =>
 bif w2_0 then
 k0 a3 a4 a5 a6 a7 a8 1
 else G.Q0e ρ a0 a1 a2 a3 a4 a5 a6 a7 a8 a10 (fun w3_0 =>
 bif decide ((w3_0 : Int) < 0) then
 k0 a3 a4 a5 a6 a7 a8 1
 else rowT [.i .i64, .i .i64, .i .i64, .i .i64, .i .i64] a5 a9 fun c4 =>
 G.cap_None ρ c4.1 c4.2.1 c4.2.2.1 c4.2.2.2.1 (fun w5_0 =>
 bif w5_0 then
 k0 a3 a4 a5 a6 a7 a8 4
 else rowT [.i .i64, .i .i64, .i .i64, .i .i64, .i .i64] a5 a10 fun c6 =>
 G.cap_None ρ c6.1 c6.2.1 c6.2.2.1 c6.2.2.2.1 (fun w7_0 =>
 bif w7_0 then
 rowT [.i .i64, .i .i64, .i .i64, .i .i64, .i .i64] a5 a9 fun c8 =>
 bif ((c8.1 : Int) == 1) then
 k0 a3 a4 a5 a6 a7 a8 7
 else rowT [.i .i64, .i .i64, .i .i64, .i .i64, .i .i64] a5 a9 fun c9 =>
 G.Qu ρ a11 a12 a13 a14 c9.1 c9.2.1 c9.2.2.1 c9.2.2.2.1 (fun w10_0 =>
 bif w10_0 then
 G.Qi ρ a0 a1 a2 a3 a4 a5 a6 a7 a8 a11 a12 a13 a14 a10 (fun w11_0 =>
 bif w11_0 then
 k0 a3 a4 a5 a6 a7 a8 1
 else G.Qs ρ a0 a1 a2 a3 a4 a5 a6 a7 a8 (none) (fun _w13_0 _w13_1 _w13_2 =>
 none) (fun w14_0 w14_1 w14_2 =>
 chk (decide ((0 : Int) ≤ a10)) <|
 chk (decide ((a10 : Int) < ((w14_1 : Nat) : Int))) <|
 chk (((List.length (w14_2 : Rows)) : Nat) == w14_0) <|
 rowN [.a, .a, .a, .a, .a] w14_2 (0 + a10.toNat) fun _c15 =>
 chk (((List.length ((List.set (w14_2 : Rows) (0 + a10.toNat) [.i .i64 a11, .i .i64 a12, .i .i64 a13, .i .i64 a14, .i .i64 a9]) : Rows)) : Nat) == w14_0) <|
 k0 false false (List.take w14_1 (List.drop 0 ((List.set (w14_2 : Rows) (0 + a10.toNat) [.i .i64 a11, .i .i64 a12, .i .i64 a13, .i .i64 a14, .i .i64 a9]) : Rows))) true true [] 0) (fun w16_0 w16_1 w16_2 w16_3 w16_4 w16_5 =>
 chk (decide ((0 : Int) ≤ a10)) <|
 chk (decide ((a10 : Int) < ((w16_1 : Nat) : Int))) <|
 chk (((List.length (w16_4 : Rows)) : Nat) == w16_0) <|
 rowN [.a, .a, .a, .a, .a] w16_4 (0 + a10.toNat) fun _c17 =>
 chk (((List.length ((List.set (w16_4 : Rows) (0 + a10.toNat) [.i .i64 a11, .i .i64 a12, .i .i64 a13, .i .i64 a14, .i .i64 a9]) : Rows)) : Nat) == w16_0) <|
 chk (((List.length (w16_5 : Rows)) : Nat) == w16_2) <|
 k0 false false (List.take w16_1 (List.drop 0 ((List.set (w16_4 : Rows) (0 + a10.toNat) [.i .i64 a11, .i .i64 a12, .i .i64 a13, .i .i64 a14, .i .i64 a9]) : Rows))) false false (List.take w16_3 (List.drop 0 (w16_5 : Rows))) 0))
 else k0 a3 a4 a5 a6 a7 a8 1)
 else k0 a3 a4 a5 a6 a7 a8 5))))
 else k0 a3 a4 a5 a6 a7 a8 1)
 else k0 a3 a4 a5 a6 a7 a8 1)
def Qw_g (n : Nat) : Qw_G := ⟨Qh n, Qj n, cap_None n, Q0e n, Qu n, Qi n, Qs n⟩
def Qw (n : Nat) : Qw_T := fun _ρ a0 a1 a2 a3 a4 a5 a6 a7 a8 a9 a10 a11 a12 a13 a14 k0 => Qw_s (Qw_g n) n a0 a1 a2 a3 a4 a5 a6 a7 a8 a9 a10 a11 a12 a13 a14 k0
def Qw_e (n : Nat) : EK := Qw_E (Qw n)
def Qw_S (G : Qw_G) : CK := tabS [(9, Qh_E G.Qh), (43, Qj_E G.Qj), (21, cap_None_E G.cap_None), (79, Q0e_E G.Q0e), (22, Qu_E G.Qu), (59, Qi_E G.Qi), (54, Qs_E G.Qs)]
theorem Qw_Sok (n : Nat) : CK.OK (Qw_S (Qw_g n)) (L tab) := tabS_ok _ (List.forall_mem_cons.2 ⟨(Qh_ok n), List.forall_mem_cons.2 ⟨(Qj_ok n), List.forall_mem_cons.2 ⟨(cap_None_ok n), List.forall_mem_cons.2 ⟨(Q0e_ok n), List.forall_mem_cons.2 ⟨(Qu_ok n), List.forall_mem_cons.2 ⟨(Qi_ok n), List.forall_mem_cons.2 ⟨(Qs_ok n), (fun _ h => nomatch h)⟩⟩⟩⟩⟩⟩⟩)
def Qw_hs : HintC := hintL [(52, [.i .i64, .i .i64, .i .i64, .i .i64, .i .i64]), (61, [.i .i64, .i .i64, .i .i64, .i .i64, .i .i64]), (71, [.i .i64, .i .i64, .i .i64, .i .i64, .i .i64]), (82, [.i .i64, .i .i64, .i .i64, .i .i64, .i .i64])]
def Qw_lp (_G : Qw_G) (_n : Nat) : LK := tabL []
theorem Qw_k (G : Qw_G) {ρ : Type} (n : Nat) (a0 a1 a2 : Int) (a3 a4 : Bool) (a5 : Rows) (a6 a7 : Bool) (a8 : Rows) (a9 a10 : Int) (a11 a12 : Int) (a13 a14 : Int) (K : Res → Option ρ) : runC (Qw_S G) Qw_hs (Qw_lp G n) m58 [.agg [.i .i64 a0, .i .i64 a1, .i .i64 a2, .lst a3 a4 5 a5, .lst a6 a7 13 a8], .i .i64 a9, .i .i64 a10, .agg [.i .i64 a11, .i .i64 a12, .i .i64 a13, .i .i64 a14]] K = Qw_s G n a0 a1 a2 a3 a4 a5 a6 a7 a8 a9 a10 a11 a12 a13 a14 (fun w0 w1 w2 w3 w4 w5 w6 => K ⟨.tup [.agg [.i .i64 a0, .i .i64 a1, .i .i64 a2, .lst w0 w1 5 w2, .lst w3 w4 13 w5], .i .i64 w6], [], []⟩) := by kernel_rfl
theorem Qw_ok (n : Nat) : EK.OK (Qw_e n) 58 (L tab) := EK.shp (fun _ _ _ => rfl) fun ρ K y c e => EK.run (Qw_Sok n) (by kernel_rfl) (MF.LKOK.of (LK.of (l := []) (by kernel_rfl) ((fun _ h => nomatch h)))) (Qw_k (Qw_g n) n _ _ _ _ _ _ _ _ _ _ _ _ _ _ _ K) (by kernel_rfl) e
abbrev Q03_T : Type 1 := (ρ : Type) → Bool → Bool → Rows → Int → (Bool → Option ρ) → Option ρ
def Q03_E (G : Q03_T) : EK := fun ρ args K => decL [.agg [.lst none none 1 none], .i .i64 none] args fun c => G ρ c.1.1.1 c.1.1.2.1 c.1.1.2.2 c.2.1 (fun w0 => K ⟨.b w0, [], []⟩)
structure Q03_G where
 mk ::
 Q2 : Q2_T
 forest_Forest_is : forest_Forest_is_T
def Q03_s (G : Q03_G) {ρ : Type} (_n : Nat) (a0 a1 : Bool) (a2 : Rows) (a3 : Int) (k0 : (Bool → Option ρ)) : Option ρ :=
 G.Q2 ρ a0 a1 a2 (fun w0_0 =>
 bif w0_0 then
 G.forest_Forest_is ρ a0 a1 a2 a3 (fun w1_0 =>
 bif w1_0 then
 k0 true
 else k0 false)
 else k0 false)
def Q03_g (n : Nat) : Q03_G := ⟨Q2 n, forest_Forest_is n⟩
def Q03 (n : Nat) : Q03_T := fun _ρ a0 a1 a2 a3 k0 => Q03_s (Q03_g n) n a0 a1 a2 a3 k0
def Q03_e (n : Nat) : EK := Q03_E (Q03 n)
def Q03_S (G : Q03_G) : CK := tabS [(13, Q2_E G.Q2), (35, forest_Forest_is_E G.forest_Forest_is)]
theorem Q03_Sok (n : Nat) : CK.OK (Q03_S (Q03_g n)) (L tab) := tabS_ok _ (List.forall_mem_cons.2 ⟨(Q2_ok n), List.forall_mem_cons.2 ⟨(forest_Forest_is_ok n), (fun _ h => nomatch h)⟩⟩)
def Q03_hs : HintC := hintL []
def Q03_lp (_G : Q03_G) (_n : Nat) : LK := tabL []
theorem Q03_k (G : Q03_G) {ρ : Type} (n : Nat) (a0 a1 : Bool) (a2 : Rows) (a3 : Int) (K : Res → Option ρ) : runC (Q03_S G) Q03_hs (Q03_lp G n) m94 [.agg [.lst a0 a1 1 a2], .i .i64 a3] K = Q03_s G n a0 a1 a2 a3 (fun w0 => K ⟨.b w0, [], []⟩) := by kernel_rfl
theorem Q03_ok (n : Nat) : EK.OK (Q03_e n) 94 (L tab) := EK.shp (fun _ _ _ => rfl) fun ρ K y c e => EK.run (Q03_Sok n) (by kernel_rfl) (MF.LKOK.of (LK.of (l := []) (by kernel_rfl) ((fun _ h => nomatch h)))) (Q03_k (Q03_g n) n _ _ _ _ K) (by kernel_rfl) e
end Go.Rv
namespace Go.Rv
abbrev slices_Clone_int_T : Type 1 := (ρ : Type) → Bool → Bool → Rows → (Option ρ) → (Nat → Nat → Rows → Option ρ) → Option ρ
def slices_Clone_int_E (G : slices_Clone_int_T) : EK := fun ρ args K => decL [.lst none none 1 none] args fun c => G ρ c.1.1 c.1.2.1 c.1.2.2 (K ⟨.lst true true 0 [], [], []⟩) (fun w0 w1 w2 => K ⟨.sl 0 w0 1 0 w1, [.row 1 true false w2], []⟩)
structure slices_Clone_int_G where
 mk ::
def slices_Clone_int_s (_G : slices_Clone_int_G) {ρ : Type} (_n : Nat) (a0 _a1 : Bool) (a2 : Rows) (k0 : (Option ρ)) (k1 : (Nat → Nat → Rows → Option ρ)) : Option ρ :=
 bif a0 then
 k0
 else chk (List.all (a2 : Rows) fun e => e.length == 1) <|
 chk (decide ((0 + (List.length (a2 : Rows))) ≤ most)) <|
 chk (List.all (a2 : Rows) fun e => !ownL e) <|
 k1 (0 + (List.length (a2 : Rows))) (0 + (List.length (a2 : Rows))) ([] ++ a2)
def slices_Clone_int_g (_n : Nat) : slices_Clone_int_G := ⟨⟩
def slices_Clone_int (n : Nat) : slices_Clone_int_T := fun _ρ a0 a1 a2 k0 k1 => slices_Clone_int_s (slices_Clone_int_g n) n a0 a1 a2 k0 k1
def slices_Clone_int_e (n : Nat) : EK := slices_Clone_int_E (slices_Clone_int n)
def slices_Clone_int_S (_G : slices_Clone_int_G) : CK := tabS []
theorem slices_Clone_int_Sok (n : Nat) : CK.OK (slices_Clone_int_S (slices_Clone_int_g n)) (L tab) := tabS_ok _ ((fun _ h => nomatch h))
def slices_Clone_int_hs : HintC := hintL []
def slices_Clone_int_lp (_G : slices_Clone_int_G) (_n : Nat) : LK := tabL []
theorem slices_Clone_int_k (G : slices_Clone_int_G) {ρ : Type} (n : Nat) (a0 a1 : Bool) (a2 : Rows) (K : Res → Option ρ) : runC (slices_Clone_int_S G) slices_Clone_int_hs (slices_Clone_int_lp G n) m104 [.lst a0 a1 1 a2] K = slices_Clone_int_s G n a0 a1 a2 (K ⟨.lst true true 0 [], [], []⟩) (fun w0 w1 w2 => K ⟨.sl 0 w0 1 0 w1, [.row 1 true false w2], []⟩) := by kernel_rfl
theorem slices_Clone_int_ok (n : Nat) : EK.OK (slices_Clone_int_e n) 104 (L tab) := EK.shp (fun _ _ _ => rfl) fun ρ K y c e => EK.run (slices_Clone_int_Sok n) (by kernel_rfl) (MF.LKOK.of (LK.of (l := []) (by kernel_rfl) ((fun _ h => nomatch h)))) (slices_Clone_int_k (slices_Clone_int_g n) n _ _ _ K) (by kernel_rfl) e
abbrev Q08_T : Type 1 := (ρ : Type) → Bool → Bool → Rows → (Option ρ) → (Nat → Nat → Rows → Option ρ) → Option ρ
def Q08_E (G : Q08_T) : EK := fun ρ args K => decL [.agg [.lst none none 1 none]] args fun c => G ρ c.1.1.1 c.1.1.2.1 c.1.1.2.2 (K ⟨.agg [.lst true true 0 []], [], []⟩) (fun w0 w1 w2 => K ⟨.agg [.sl 0 w0 1 0 w1], [.row 1 true false w2], []⟩)
structure Q08_G where
 mk ::
 slices_Clone_int : slices_Clone_int_T
def Q08_s (G : Q08_G) {ρ : Type} (_n : Nat) (a0 a1 : Bool) (a2 : Rows) (k0 : (Option ρ)) (k1 : (Nat → Nat → Rows → Option ρ)) : Option ρ :=
 G.slices_Clone_int ρ a0 a1 a2 (k0) (fun w1_0 w1_1 w1_2 =>
 k1 w1_0 w1_1 w1_2)
def Q08_g (n : Nat) : Q08_G := ⟨slices_Clone_int n⟩
def Q08 (n : Nat) : Q08_T := fun _ρ a0 a1 a2 k0 k1 => Q08_s (Q08_g n) n a0 a1 a2 k0 k1
def Q08_e (n : Nat) : EK := Q08_E (Q08 n)
def Q08_S (G : Q08_G) : CK := tabS [(104, slices_Clone_int_E G.slices_Clone_int)]
theorem Q08_Sok (n : Nat) : CK.OK (Q08_S (Q08_g n)) (L tab) := tabS_ok _ (List.forall_mem_cons.2 ⟨(slices_Clone_int_ok n), (fun _ h => nomatch h)⟩)
def Q08_hs : HintC := hintL []
def Q08_lp (_G : Q08_G) (_n : Nat) : LK := tabL []
theorem Q08_k (G : Q08_G) {ρ : Type} (n : Nat) (a0 a1 : Bool) (a2 : Rows) (K : Res → Option ρ) : runC (Q08_S G) Q08_hs (Q08_lp G n) m96 [.agg [.lst a0 a1 1 a2]] K = Q08_s G n a0 a1 a2 (K ⟨.agg [.lst true true 0 []], [], []⟩) (fun w0 w1 w2 => K ⟨.agg [.sl 0 w0 1 0 w1], [.row 1 true false w2], []⟩) := by kernel_rfl
theorem Q08_ok (n : Nat) : EK.OK (Q08_e n) 96 (L tab) := EK.shp (fun _ _ _ => rfl) fun ρ K y c e => EK.run (Q08_Sok n) (by kernel_rfl) (MF.LKOK.of (LK.of (l := []) (by kernel_rfl) ((fun _ h => nomatch h)))) (Q08_k (Q08_g n) n _ _ _ K) (by kernel_rfl) e
abbrev forest_Forest_of_T : Type 1 := (ρ : Type) → Bool → Bool → Int → (Option ρ) → Option ρ
def forest_Forest_of_E (G : forest_Forest_of_T) : EK := fun ρ args K => decL [.agg [.lst none none 0 (some [])], .i .i64 none] args fun c => G ρ c.1.1.1 c.1.1.2.1 c.2.1 (K ⟨.lst true true 0 [], [], []⟩)
structure forest_Forest_of_G where
 mk ::
abbrev forest_Forest_of_l3_V : Type := Unit
def forest_Forest_of_l3_s (_G : forest_Forest_of_G) {ρ : Type} (_n : Nat) (_p0 : Int) (_p1 _p2 : Bool) (_p3 _p4 : Bool) (k0 : (Option ρ)) (_rec' : forest_Forest_of_l3_V → Option ρ) : forest_Forest_of_l3_V → Option ρ
 | _v =>
 k0
def forest_Forest_of_l3 (G : forest_Forest_of_G) {ρ : Type} (n : Nat) (p0 : Int) (p1 p2 : Bool) (p3 p4 : Bool) (k0 : (Option ρ)) (v : forest_Forest_of_l3_V) : Option ρ := fuelN (forest_Forest_of_l3_s G n p0 p1 p2 p3 p4 k0) n v
def forest_Forest_of_l3_enc (p0 : Int) (p1 p2 : Bool) (p3 p4 : Bool) : forest_Forest_of_l3_V → St
 | _v => ⟨[(1, .i .i64 p0), (5, .lst true true 0 []), (9, .lst p1 p2 0 []), (10, .i .i64 0), (11, .i .i64 0)], [.row 1 true false [[.lst p3 p4 0 []]]]⟩
def forest_Forest_of_s (G : forest_Forest_of_G) {ρ : Type} (n : Nat) (a0 a1 : Bool) (a2 : Int) (k0 : (Option ρ)) : Option ρ :=
 forest_Forest_of_l3 G n a2 a0 a1 a0 a1 (k0) ()
def forest_Forest_of_g (_n : Nat) : forest_Forest_of_G := ⟨⟩
def forest_Forest_of (n : Nat) : forest_Forest_of_T := fun _ρ a0 a1 a2 k0 => forest_Forest_of_s (forest_Forest_of_g n) n a0 a1 a2 k0
def forest_Forest_of_e (n : Nat) : EK := forest_Forest_of_E (forest_Forest_of n)
def forest_Forest_of_S (_G : forest_Forest_of_G) : CK := tabS []
theorem forest_Forest_of_Sok (n : Nat) : CK.OK (forest_Forest_of_S (forest_Forest_of_g n)) (L tab) := tabS_ok _ ((fun _ h => nomatch h))
def forest_Forest_of_hs : HintC := hintL []
def forest_Forest_of_c3 : Nat × List Nat × List Nat × MC := loopAt 3 m95
def forest_Forest_of_l3_d (G : forest_Forest_of_G) (n : Nat) : Go.Rv.LE := fun _ρ h K => decSt [(1, .i .i64 none), (5, .lst (some true) (some true) 0 (some [])), (9, .lst none none 0 (some [])), (10, .i .i64 (some 0)), (11, .i .i64 (some 0))] [.row 1 true false (some [[.lst none none 0 (some [])]])] h fun a b => forest_Forest_of_l3 G n a.1 a.2.2.1.1 a.2.2.1.2.1 b.1.1.1.1 b.1.1.1.2.1 (K (.exit 0) ⟨[(5, .lst true true 0 [])], [.row 1 true false [[.lst b.1.1.1.1 b.1.1.1.2.1 0 []]]]⟩) ()
def forest_Forest_of_d3 (G : forest_Forest_of_G) (n : Nat) : Go.Rv.LE := forest_Forest_of_l3_d G n
def forest_Forest_of_lp (G : forest_Forest_of_G) (n : Nat) : LK := tabL [(3, forest_Forest_of_d3 G n)]
theorem forest_Forest_of_l3_k (G : forest_Forest_of_G) {ρ : Type} (n : Nat) (p0 : Int) (p1 p2 : Bool) (p3 p4 : Bool) (K : Ex → St → Option ρ) (N : St → Option ρ) : ∀ v, roundC (forest_Forest_of_S G) forest_Forest_of_hs (forest_Forest_of_lp G n) forest_Forest_of_c3 1 N K (forest_Forest_of_l3_enc p0 p1 p2 p3 p4 v) = forest_Forest_of_l3_s G n p0 p1 p2 p3 p4 (K (.exit 0) ⟨[(5, .lst true true 0 [])], [.row 1 true false [[.lst p3 p4 0 []]]]⟩) (fun v => N (forest_Forest_of_l3_enc p0 p1 p2 p3 p4 v)) v
 | v => by kernel_rfl
theorem forest_Forest_of_l3_dok (n : Nat) : LE.OK (forest_Forest_of_l3_d (forest_Forest_of_g n) n) (L tab) forest_Forest_of_c3 := LE.shp (fun _ _ _ => rfl) fun ρ K y a b e => LE.rounds (forest_Forest_of_Sok n) (LK.of (l := []) (by kernel_rfl) ((fun _ h => nomatch h))) (forest_Forest_of_l3_k (forest_Forest_of_g n) n _ _ _ _ _ K) (by kernel_rfl) (by kernel_rfl) e
theorem forest_Forest_of_d3_ok (n : Nat) : LE.OK (forest_Forest_of_d3 (forest_Forest_of_g n) n) (L tab) forest_Forest_of_c3 := forest_Forest_of_l3_dok n
theorem forest_Forest_of_k (G : forest_Forest_of_G) {ρ : Type} (n : Nat) (a0 a1 : Bool) (a2 : Int) (K : Res → Option ρ) : runC (forest_Forest_of_S G) forest_Forest_of_hs (forest_Forest_of_lp G n) m95 [.agg [.lst a0 a1 0 []], .i .i64 a2] K = forest_Forest_of_s G n a0 a1 a2 (K ⟨.lst true true 0 [], [], []⟩) := by kernel_rfl
theorem forest_Forest_of_ok (n : Nat) : EK.OK (forest_Forest_of_e n) 95 (L tab) := EK.shp (fun _ _ _ => rfl) fun ρ K y c e => EK.run (forest_Forest_of_Sok n) (by kernel_rfl) (MF.LKOK.of (LK.of (l := [forest_Forest_of_c3]) (by kernel_rfl) (List.forall_mem_cons.2 ⟨LE.at (e := forest_Forest_of_d3 (forest_Forest_of_g n) n) (by kernel_rfl) (forest_Forest_of_d3_ok n), (fun _ h => nomatch h)⟩))) (forest_Forest_of_k (forest_Forest_of_g n) n _ _ _ K) (by kernel_rfl) e
abbrev forest_Forest_of_i1_T : Type 1 := (ρ : Type) → Bool → Bool → Rows → Int → (Option ρ) → (Nat → Nat → Rows → Option ρ) → Option ρ
def forest_Forest_of_i1_E (G : forest_Forest_of_i1_T) : EK := fun ρ args K => decL [.agg [.lst none none 1 none], .i .i64 none] args fun c => G ρ c.1.1.1 c.1.1.2.1 c.1.1.2.2 c.2.1 (K ⟨.lst true true 0 [], [], []⟩) (fun w0 w1 w2 => K ⟨.sl 0 w0 1 0 w1, [.row 1 true false w2], []⟩)
structure forest_Forest_of_i1_G where
 mk ::
abbrev forest_Forest_of_i1_l3_V : Type := (Int) ⊕ (Nat × Nat × Int × Rows)
def forest_Forest_of_i1_l3_s (_G : forest_Forest_of_i1_G) {ρ : Type} (_n : Nat) (p0 : Int) (_p1 _p2 : Bool) (p3 : Rows) (p4 : Int) (_p5 _p6 : Bool) (_p7 : Rows) (k0 : (Option ρ)) (k1 : (Nat → Nat → Rows → Option ρ)) (rec' : forest_Forest_of_i1_l3_V → Option ρ) : forest_Forest_of_i1_l3_V → Option ρ
 | (.inl v) =>
 bif decide ((v : Int) < p4) then
 rowT [.i .i64] p3 v fun c0 =>
 bif ((c0.1 : Int) == p0) then
 rec' (.inr (1, 1, (IntKind.wrap .i64 (v + 1)), [[.i .i64 v]]))
 else rec' (.inl ((IntKind.wrap .i64 (v + 1))))
 else k0
 | (.inr v) =>
 bif decide ((v.2.2.1 : Int) < p4) then
 rowT [.i .i64] p3 v.2.2.1 fun c1 =>
 bif ((c1.1 : Int) == p0) then
 chk (((List.length (v.2.2.2 : Rows)) : Nat) == v.1) <|
 chk ((v.2.1 : Nat) == v.1) <|
 chk (decide ((v.1 + 1) ≤ most)) <|
 rec' (.inr ((v.1 + 1), (v.1 + 1), (IntKind.wrap .i64 (v.2.2.1 + 1)), (v.2.2.2 ++ [[.i .i64 v.2.2.1]])))
 else rec' (.inr (v.1, v.2.1, (IntKind.wrap .i64 (v.2.2.1 + 1)), v.2.2.2))
 else k1 v.1 v.2.1 v.2.2.2
def forest_Forest_of_i1_l3 (G : forest_Forest_of_i1_G) {ρ : Type} (n : Nat) (p0 : Int) (p1 p2 : Bool) (p3 : Rows) (p4 : Int) (p5 p6 : Bool) (p7 : Rows) (k0 : (Option ρ)) (k1 : (Nat → Nat → Rows → Option ρ)) (v : forest_Forest_of_i1_l3_V) : Option ρ := fuelN (forest_Forest_of_i1_l3_s G n p0 p1 p2 p3 p4 p5 p6 p7 k0 k1) n v
def forest_Forest_of_i1_l3_enc (p0 : Int) (p1 p2 : Bool) (p3 : Rows) (p4 : Int) (p5 p6 : Bool) (p7 : Rows) : forest_Forest_of_i1_l3_V → St
 | (.inl v) => ⟨[(1, .i .i64 p0), (5, .lst true true 0 []), (9, .lst p1 p2 1 p3), (10, .i .i64 p4), (11, .i .i64 v)], [.row 1 true false [[.lst p5 p6 1 p7]]]⟩
 | (.inr v) => ⟨[(1, .i .i64 p0), (5, .sl 1 v.1 1 0 v.2.1), (9, .lst p1 p2 1 p3), (10, .i .i64 p4), (11, .i .i64 v.2.2.1)], [.row 1 true false [[.lst p5 p6 1 p7]], .row 1 true false v.2.2.2]⟩
def forest_Forest_of_i1_s (G : forest_Forest_of_i1_G) {ρ : Type} (n : Nat) (a0 a1 : Bool) (a2 : Rows) (a3 : Int) (k0 : (Option ρ)) (k1 : (Nat → Nat → Rows → Option ρ)) : Option ρ :=
 forest_Forest_of_i1_l3 G n a3 a0 a1 a2 (((List.length (a2 : Rows)) : Nat) : Int) a0 a1 a2 (k0) (fun w1_0 w1_1 w1_2 =>
 k1 w1_0 w1_1 w1_2) (.inl (0))
def forest_Forest_of_i1_g (_n : Nat) : forest_Forest_of_i1_G := ⟨⟩
def forest_Forest_of_i1 (n : Nat) : forest_Forest_of_i1_T := fun _ρ a0 a1 a2 a3 k0 k1 => forest_Forest_of_i1_s (forest_Forest_of_i1_g n) n a0 a1 a2 a3 k0 k1
def forest_Forest_of_i1_e (n : Nat) : EK := forest_Forest_of_i1_E (forest_Forest_of_i1 n)
def forest_Forest_of_i1_S (_G : forest_Forest_of_i1_G) : CK := tabS []
theorem forest_Forest_of_i1_Sok (n : Nat) : CK.OK (forest_Forest_of_i1_S (forest_Forest_of_i1_g n)) (L tab) := tabS_ok _ ((fun _ h => nomatch h))
def forest_Forest_of_i1_hs : HintC := hintL [(14, [.i .i64])]
def forest_Forest_of_i1_c3 : Nat × List Nat × List Nat × MC := loopAt 3 m95
def forest_Forest_of_i1_l3_d (G : forest_Forest_of_i1_G) (n : Nat) : Go.Rv.LE := fun _ρ h K => decSt [(1, .i .i64 none), (5, .lst (some true) (some true) 0 (some [])), (9, .lst none none 1 none), (10, .i .i64 none), (11, .i .i64 none)] [.row 1 true false (some [[.lst none none 1 none]])] h fun a b => forest_Forest_of_i1_l3 G n a.1 a.2.2.1.1 a.2.2.1.2.1 a.2.2.1.2.2 a.2.2.2.1 b.1.1.1.1 b.1.1.1.2.1 b.1.1.1.2.2 (K (.exit 0) ⟨[(5, .lst true true 0 [])], [.row 1 true false [[.lst b.1.1.1.1 b.1.1.1.2.1 1 b.1.1.1.2.2]]]⟩) (fun w0 w1 w2 => K (.exit 0) ⟨[(5, .sl 1 w0 1 0 w1)], [.row 1 true false [[.lst b.1.1.1.1 b.1.1.1.2.1 1 b.1.1.1.2.2]], .row 1 true false w2]⟩) (.inl (a.2.2.2.2.1))
def forest_Forest_of_i1_d3 (G : forest_Forest_of_i1_G) (n : Nat) : Go.Rv.LE := forest_Forest_of_i1_l3_d G n
def forest_Forest_of_i1_lp (G : forest_Forest_of_i1_G) (n : Nat) : LK := tabL [(3, forest_Forest_of_i1_d3 G n)]
theorem forest_Forest_of_i1_l3_k (G : forest_Forest_of_i1_G) {ρ : Type} (n : Nat) (p0 : Int) (p1 p2 : Bool) (p3 : Rows) (p4 : Int) (p5 p6 : Bool) (p7 : Rows) (K : Ex → St → Option ρ) (N : St → Option ρ) : ∀ v, roundC (forest_Forest_of_i1_S G) forest_Forest_of_i1_hs (forest_Forest_of_i1_lp G n) forest_Forest_of_i1_c3 1 N K (forest_Forest_of_i1_l3_enc p0 p1 p2 p3 p4 p5 p6 p7 v) = forest_Forest_of_i1_l3_s G n p0 p1 p2 p3 p4 p5 p6 p7 (K (.exit 0) ⟨[(5, .lst true true 0 [])], [.row 1 true false [[.lst p5 p6 1 p7]]]⟩) (fun w0 w1 w2 => K (.exit 0) ⟨[(5, .sl 1 w0 1 0 w1)], [.row 1 true false [[.lst p5 p6 1 p7]], .row 1 true false w2]⟩) (fun v => N (forest_Forest_of_i1_l3_enc p0 p1 p2 p3 p4 p5 p6 p7 v)) v
 | (.inl v) => by kernel_rfl
 | (.inr v) => by kernel_rfl
theorem forest_Forest_of_i1_l3_dok (n : Nat) : LE.OK (forest_Forest_of_i1_l3_d (forest_Forest_of_i1_g n) n) (L tab) forest_Forest_of_i1_c3 := LE.shp (fun _ _ _ => rfl) fun ρ K y a b e => LE.rounds (forest_Forest_of_i1_Sok n) (LK.of (l := []) (by kernel_rfl) ((fun _ h => nomatch h))) (forest_Forest_of_i1_l3_k (forest_Forest_of_i1_g n) n _ _ _ _ _ _ _ _ K) (by kernel_rfl) (by kernel_rfl) e
theorem forest_Forest_of_i1_d3_ok (n : Nat) : LE.OK (forest_Forest_of_i1_d3 (forest_Forest_of_i1_g n) n) (L tab) forest_Forest_of_i1_c3 := forest_Forest_of_i1_l3_dok n
theorem forest_Forest_of_i1_k (G : forest_Forest_of_i1_G) {ρ : Type} (n : Nat) (a0 a1 : Bool) (a2 : Rows) (a3 : Int) (K : Res → Option ρ) : runC (forest_Forest_of_i1_S G) forest_Forest_of_i1_hs (forest_Forest_of_i1_lp G n) m95 [.agg [.lst a0 a1 1 a2], .i .i64 a3] K = forest_Forest_of_i1_s G n a0 a1 a2 a3 (K ⟨.lst true true 0 [], [], []⟩) (fun w0 w1 w2 => K ⟨.sl 0 w0 1 0 w1, [.row 1 true false w2], []⟩) := by kernel_rfl
theorem forest_Forest_of_i1_ok (n : Nat) : EK.OK (forest_Forest_of_i1_e n) 95 (L tab) := EK.shp (fun _ _ _ => rfl) fun ρ K y c e => EK.run (forest_Forest_of_i1_Sok n) (by kernel_rfl) (MF.LKOK.of (LK.of (l := [forest_Forest_of_i1_c3]) (by kernel_rfl) (List.forall_mem_cons.2 ⟨LE.at (e := forest_Forest_of_i1_d3 (forest_Forest_of_i1_g n) n) (by kernel_rfl) (forest_Forest_of_i1_d3_ok n), (fun _ h => nomatch h)⟩))) (forest_Forest_of_i1_k (forest_Forest_of_i1_g n) n _ _ _ _ K) (by kernel_rfl) e
abbrev Q1_T : Type 1 := (ρ : Type) → Bool → Bool → Rows → Int → Int → (Option ρ) → (Nat → Nat → Rows → Option ρ) → Option ρ
def Q1_E (G : Q1_T) : EK := fun ρ args K => decL [.agg [.lst none none 1 none], .i .i64 none, .i .i64 none] args fun c => G ρ c.1.1.1 c.1.1.2.1 c.1.1.2.2 c.2.1 c.2.2.1 (K ⟨.tup [.agg [.lst true true 0 []], .b false], [], []⟩) (fun w0 w1 w2 => K ⟨.tup [.agg [.sl 0 w0 1 0 w1], .b true], [.row 1 true false w2], []⟩)
structure Q1_G where
 mk ::
 Q03 : Q03_T
 forest_Forest_is : forest_Forest_is_T
 Q08 : Q08_T
 forest_Forest_of : forest_Forest_of_T
 forest_Forest_of_i1 : forest_Forest_of_i1_T
abbrev Q1_l5_0_V : Type := Unit
def Q1_l5_0_s (_G : Q1_G) {ρ : Type} (_n : Nat) (_p0 _p1 : Int) (k0 : (Option ρ)) (_rec' : Q1_l5_0_V → Option ρ) : Q1_l5_0_V → Option ρ
 | _v =>
 k0
def Q1_l5_0 (G : Q1_G) {ρ : Type} (n : Nat) (p0 p1 : Int) (k0 : (Option ρ)) (v : Q1_l5_0_V) : Option ρ := fuelN (Q1_l5_0_s G n p0 p1 k0) n v
def Q1_l5_0_enc (p0 p1 : Int) : Q1_l5_0_V → St
 | _v => ⟨[(1, .i .i64 p0), (2, .i .i64 p1), (3, .ptr 0 1 1 0 0), (6, .ptr 1 1 1 0 0), (35, .lst true true 0 []), (36, .i .i64 0), (37, .i .i64 0)], [.row 1 true false [[.lst true true 0 []]], .row 1 true false [[.lst true true 0 []]]]⟩
abbrev Q1_l5_1_V : Type := Unit
def Q1_l5_1_s (_G : Q1_G) {ρ : Type} (_n : Nat) (_p0 _p1 : Int) (_p2 _p3 : Nat) (_p4 : Rows) (k0 : (Option ρ)) (_rec' : Q1_l5_1_V → Option ρ) : Q1_l5_1_V → Option ρ
 | _v =>
 k0
def Q1_l5_1 (G : Q1_G) {ρ : Type} (n : Nat) (p0 p1 : Int) (p2 p3 : Nat) (p4 : Rows) (k0 : (Option ρ)) (v : Q1_l5_1_V) : Option ρ := fuelN (Q1_l5_1_s G n p0 p1 p2 p3 p4 k0) n v
def Q1_l5_1_enc (p0 p1 : Int) (p2 p3 : Nat) (p4 : Rows) : Q1_l5_1_V → St
 | _v => ⟨[(1, .i .i64 p0), (2, .i .i64 p1), (3, .ptr 0 1 1 0 0), (6, .ptr 1 1 1 0 0), (35, .lst true true 0 []), (36, .i .i64 0), (37, .i .i64 0)], [.row 1 false false [[.sl 2 p2 1 0 p3]], .row 1 true false [[.lst true true 0 []]], .row 1 true false p4]⟩
abbrev Q1_l5_2_V : Type := Unit
def Q1_l5_2_s (_G : Q1_G) {ρ : Type} (_n : Nat) (_p0 _p1 : Int) (p2 p3 : Nat) (p4 : Int) (_p5 p6 : Nat) (_p7 p8 : Rows) (k0 : (Option ρ)) (_rec' : Q1_l5_2_V → Option ρ) : Q1_l5_2_V → Option ρ
 | _v =>
 bif decide ((0 : Int) < p4) then
 chk (decide ((0 : Int) < ((p3 : Nat) : Int))) <|
 chk (((List.length (p8 : Rows)) : Nat) == p2) <|
 rowN [.i .i64] p8 0 fun c0 =>
 chk (decide ((0 : Int) ≤ c0.1)) <|
 chk (decide ((c0.1 : Int) < ((p6 : Nat) : Int))) <|
 none
 else k0
def Q1_l5_2 (G : Q1_G) {ρ : Type} (n : Nat) (p0 p1 : Int) (p2 p3 : Nat) (p4 : Int) (p5 p6 : Nat) (p7 p8 : Rows) (k0 : (Option ρ)) (v : Q1_l5_2_V) : Option ρ := fuelN (Q1_l5_2_s G n p0 p1 p2 p3 p4 p5 p6 p7 p8 k0) n v
def Q1_l5_2_enc (p0 p1 : Int) (p2 p3 : Nat) (p4 : Int) (p5 p6 : Nat) (p7 p8 : Rows) : Q1_l5_2_V → St
 | _v => ⟨[(1, .i .i64 p0), (2, .i .i64 p1), (3, .ptr 0 1 1 0 0), (6, .ptr 1 1 1 0 0), (35, .sl 3 p2 1 0 p3), (36, .i .i64 p4), (37, .i .i64 0)], [.row 1 false false [[.sl 2 p5 1 0 p6]], .row 1 true false [[.lst true true 0 []]], .row 1 true true p7, .row 1 true false p8]⟩
abbrev Q1_l5_3_V : Type := Int × Rows
def Q1_l5_3_s (_G : Q1_G) {ρ : Type} (_n : Nat) (_p0 p1 : Int) (p2 p3 : Nat) (p4 : Int) (p5 p6 : Nat) (p8 : Rows) (k0 : (Rows → Option ρ)) (rec' : Q1_l5_3_V → Option ρ) : Q1_l5_3_V → Option ρ
 | v =>
 bif decide ((v.1 : Int) < p4) then
 chk (decide ((0 : Int) ≤ v.1)) <|
 chk (decide ((v.1 : Int) < ((p3 : Nat) : Int))) <|
 chk (((List.length (p8 : Rows)) : Nat) == p2) <|
 rowN [.i .i64] p8 (0 + v.1.toNat) fun c0 =>
 chk (decide ((0 : Int) ≤ c0.1)) <|
 chk (decide ((c0.1 : Int) < ((p6 : Nat) : Int))) <|
 chk (((List.length (v.2 : Rows)) : Nat) == p5) <|
 rowN [.a] v.2 (0 + c0.1.toNat) fun _c1 =>
 rec' ((IntKind.wrap .i64 (v.1 + 1)), (List.set (v.2 : Rows) (0 + c0.1.toNat) [.i .i64 p1]))
 else k0 v.2
def Q1_l5_3 (G : Q1_G) {ρ : Type} (n : Nat) (p0 p1 : Int) (p2 p3 : Nat) (p4 : Int) (p5 p6 : Nat) (p8 : Rows) (k0 : (Rows → Option ρ)) (v : Q1_l5_3_V) : Option ρ := fuelN (Q1_l5_3_s G n p0 p1 p2 p3 p4 p5 p6 p8 k0) n v
def Q1_l5_3_enc (p0 p1 : Int) (p2 p3 : Nat) (p4 : Int) (p5 p6 : Nat) (p8 : Rows) : Q1_l5_3_V → St
 | v => ⟨[(1, .i .i64 p0), (2, .i .i64 p1), (3, .ptr 0 1 1 0 0), (6, .ptr 1 1 1 0 0), (35, .sl 3 p2 1 0 p3), (36, .i .i64 p4), (37, .i .i64 v.1)], [.row 1 false false [[.sl 2 p5 1 0 p6]], .row 1 true false [[.lst true true 0 []]], .row 1 true false v.2, .row 1 true false p8]⟩
def Q1_s (G : Q1_G) {ρ : Type} (n : Nat) (a0 a1 : Bool) (a2 : Rows) (a3 a4 : Int) (k0 : (Option ρ)) (k1 : (Nat → Nat → Rows → Option ρ)) : Option ρ :=
 G.Q03 ρ a0 a1 a2 a3 (fun w0_0 =>
 bif w0_0 then
 bif decide ((a4 : Int) < 0) then
 k0
 else bif decide ((a4 : Int) ≥ (((List.length (a2 : Rows)) : Nat) : Int)) then
 k0
 else G.forest_Forest_is ρ a0 a1 a2 a4 (fun w1_0 =>
 bif w1_0 then
 k0
 else G.Q08 ρ a0 a1 a2 (G.forest_Forest_of ρ true true a3 (Q1_l5_0 G n a3 a4 (none) ())) (fun w5_0 w5_1 w5_2 =>
 chk (((List.length (w5_2 : Rows)) : Nat) == w5_0) <|
 G.forest_Forest_of_i1 ρ false false (List.take w5_1 (List.drop 0 (w5_2 : Rows))) a3 (Q1_l5_1 G n a3 a4 w5_0 w5_1 w5_2 (chk (decide ((0 : Int) ≤ a3)) <|
 chk (decide ((a3 : Int) < ((w5_1 : Nat) : Int))) <|
 chk (((List.length (w5_2 : Rows)) : Nat) == w5_0) <|
 rowN [.i .i64] w5_2 (0 + a3.toNat) fun c8 =>
 chk (decide ((0 : Int) ≤ a4)) <|
 chk (decide ((a4 : Int) < ((w5_1 : Nat) : Int))) <|
 chk (((List.length (w5_2 : Rows)) : Nat) == w5_0) <|
 rowN [.a] w5_2 (0 + a4.toNat) fun _c9 =>
 chk (decide ((0 : Int) ≤ a3)) <|
 chk (decide ((a3 : Int) < ((w5_1 : Nat) : Int))) <|
 chk (((List.length ((List.set (w5_2 : Rows) (0 + a4.toNat) [.i .i64 c8.1]) : Rows)) : Nat) == w5_0) <|
 rowN [.a] (List.set (w5_2 : Rows) (0 + a4.toNat) [.i .i64 c8.1]) (0 + a3.toNat) fun _c10 =>
 k1 w5_0 w5_1 (List.set ((List.set (w5_2 : Rows) (0 + a4.toNat) [.i .i64 c8.1]) : Rows) (0 + a3.toNat) [.i .i64 (-2)])) ()) (fun w11_0 w11_1 w11_2 =>
 bif stayR ⟨.sl 0 w11_0 1 0 w11_1, [.row 1 true false w11_2], []⟩ then
 Q1_l5_2 G n a3 a4 w11_0 w11_1 ((w11_1 : Nat) : Int) w5_0 w5_1 w5_2 w11_2 (chk (decide ((0 : Int) ≤ a3)) <|
 chk (decide ((a3 : Int) < ((w5_1 : Nat) : Int))) <|
 chk (((List.length (w5_2 : Rows)) : Nat) == w5_0) <|
 rowN [.i .i64] w5_2 (0 + a3.toNat) fun _c13 =>
 chk (decide ((0 : Int) ≤ a4)) <|
 chk (decide ((a4 : Int) < ((w5_1 : Nat) : Int))) <|
 none) ()
 else Q1_l5_3 G n a3 a4 w11_0 w11_1 ((w11_1 : Nat) : Int) w5_0 w5_1 w11_2 (fun w12_0 =>
 chk (decide ((0 : Int) ≤ a3)) <|
 chk (decide ((a3 : Int) < ((w5_1 : Nat) : Int))) <|
 chk (((List.length (w12_0 : Rows)) : Nat) == w5_0) <|
 rowN [.i .i64] w12_0 (0 + a3.toNat) fun c13 =>
 chk (decide ((0 : Int) ≤ a4)) <|
 chk (decide ((a4 : Int) < ((w5_1 : Nat) : Int))) <|
 chk (((List.length (w12_0 : Rows)) : Nat) == w5_0) <|
 rowN [.a] w12_0 (0 + a4.toNat) fun _c14 =>
 chk (decide ((0 : Int) ≤ a3)) <|
 chk (decide ((a3 : Int) < ((w5_1 : Nat) : Int))) <|
 chk (((List.length ((List.set (w12_0 : Rows) (0 + a4.toNat) [.i .i64 c13.1]) : Rows)) : Nat) == w5_0) <|
 rowN [.a] (List.set (w12_0 : Rows) (0 + a4.toNat) [.i .i64 c13.1]) (0 + a3.toNat) fun _c15 =>
 k1 w5_0 w5_1 (List.set ((List.set (w12_0 : Rows) (0 + a4.toNat) [.i .i64 c13.1]) : Rows) (0 + a3.toNat) [.i .i64 (-2)])) (0, w5_2))))
 else k0)
def Q1_g (n : Nat) : Q1_G := ⟨Q03 n, forest_Forest_is n, Q08 n, forest_Forest_of n, forest_Forest_of_i1 n⟩
def Q1 (n : Nat) : Q1_T := fun _ρ a0 a1 a2 a3 a4 k0 k1 => Q1_s (Q1_g n) n a0 a1 a2 a3 a4 k0 k1
def Q1_e (n : Nat) : EK := Q1_E (Q1 n)
def Q1_S (G : Q1_G) : CK := tabS [(94, Q03_E G.Q03), (35, forest_Forest_is_E G.forest_Forest_is), (96, Q08_E G.Q08), (95, altE [.agg [.lst none none 0 (some [])], .i .i64 none] (forest_Forest_of_E G.forest_Forest_of) (forest_Forest_of_i1_E G.forest_Forest_of_i1))]
theorem Q1_Sok (n : Nat) : CK.OK (Q1_S (Q1_g n)) (L tab) := tabS_ok _ (List.forall_mem_cons.2 ⟨(Q03_ok n), List.forall_mem_cons.2 ⟨(forest_Forest_is_ok n), List.forall_mem_cons.2 ⟨(Q08_ok n), List.forall_mem_cons.2 ⟨altE_ok (forest_Forest_of_ok n) ((forest_Forest_of_i1_ok n)), (fun _ h => nomatch h)⟩⟩⟩⟩)
def Q1_hs : HintC := hintL [(54, [.i .i64]), (40, [.i .i64])]
def Q1_c5 : Nat × List Nat × List Nat × MC := loopAt 5 m81
def Q1_l5_3_d (G : Q1_G) (n : Nat) : Go.Rv.LE := fun _ρ h K => decSt [(1, .i .i64 none), (2, .i .i64 none), (3, .ptr 0 1 0 (some 1) (some 0)), (6, .ptr 1 1 0 (some 1) (some 0)), (35, .sl 3 1 none (some 0) none), (36, .i .i64 none), (37, .i .i64 none)] [.row 1 false false (some [[.sl 2 1 none (some 0) none]]), .row 1 true false (some [[.lst (some true) (some true) 0 (some [])]]), .row 1 true false none, .row 1 true false none] h fun a b => Q1_l5_3 G n a.1 a.2.1 a.2.2.2.2.1.1 a.2.2.2.2.1.2.2 a.2.2.2.2.2.1 b.1.1.1.1 b.1.1.1.2.2 b.2.2.2.1 (fun w0 => K (.exit 0) ⟨[(1, .i .i64 a.1), (2, .i .i64 a.2.1), (3, .ptr 0 1 1 0 0), (6, .ptr 1 1 1 0 0)], [.row 1 false false [[.sl 2 b.1.1.1.1 1 0 b.1.1.1.2.2]], .row 1 true false [[.lst true true 0 []]], .row 1 true false w0, .row 1 true false b.2.2.2.1]⟩) (a.2.2.2.2.2.2.1, b.2.2.1)
def Q1_l5_2_d (G : Q1_G) (n : Nat) : Go.Rv.LE := fun _ρ h K => decSt [(1, .i .i64 none), (2, .i .i64 none), (3, .ptr 0 1 0 (some 1) (some 0)), (6, .ptr 1 1 0 (some 1) (some 0)), (35, .sl 3 1 none (some 0) none), (36, .i .i64 none), (37, .i .i64 (some 0))] [.row 1 false false (some [[.sl 2 1 none (some 0) none]]), .row 1 true false (some [[.lst (some true) (some true) 0 (some [])]]), .row 1 true true none, .row 1 true false none] h fun a b => Q1_l5_2 G n a.1 a.2.1 a.2.2.2.2.1.1 a.2.2.2.2.1.2.2 a.2.2.2.2.2.1 b.1.1.1.1 b.1.1.1.2.2 b.2.2.1 b.2.2.2.1 (K (.exit 0) ⟨[(1, .i .i64 a.1), (2, .i .i64 a.2.1), (3, .ptr 0 1 1 0 0), (6, .ptr 1 1 1 0 0)], [.row 1 false false [[.sl 2 b.1.1.1.1 1 0 b.1.1.1.2.2]], .row 1 true false [[.lst true true 0 []]], .row 1 true true b.2.2.1, .row 1 true false b.2.2.2.1]⟩) ()
def Q1_l5_1_d (G : Q1_G) (n : Nat) : Go.Rv.LE := fun _ρ h K => decSt [(1, .i .i64 none), (2, .i .i64 none), (3, .ptr 0 1 0 (some 1) (some 0)), (6, .ptr 1 1 0 (some 1) (some 0)), (35, .lst (some true) (some true) 0 (some [])), (36, .i .i64 (some 0)), (37, .i .i64 (some 0))] [.row 1 false false (some [[.sl 2 1 none (some 0) none]]), .row 1 true false (some [[.lst (some true) (some true) 0 (some [])]]), .row 1 true false none] h fun a b => Q1_l5_1 G n a.1 a.2.1 b.1.1.1.1 b.1.1.1.2.2 b.2.2.1 (K (.exit 0) ⟨[(1, .i .i64 a.1), (2, .i .i64 a.2.1), (3, .ptr 0 1 1 0 0), (6, .ptr 1 1 1 0 0)], [.row 1 false false [[.sl 2 b.1.1.1.1 1 0 b.1.1.1.2.2]], .row 1 true false [[.lst true true 0 []]], .row 1 true false b.2.2.1]⟩) ()
def Q1_l5_0_d (G : Q1_G) (n : Nat) : Go.Rv.LE := fun _ρ h K => decSt [(1, .i .i64 none), (2, .i .i64 none), (3, .ptr 0 1 0 (some 1) (some 0)), (6, .ptr 1 1 0 (some 1) (some 0)), (35, .lst (some true) (some true) 0 (some [])), (36, .i .i64 (some 0)), (37, .i .i64 (some 0))] [.row 1 true false (some [[.lst (some true) (some true) 0 (some [])]]), .row 1 true false (some [[.lst (some true) (some true) 0 (some [])]])] h fun a _b => Q1_l5_0 G n a.1 a.2.1 (K (.exit 0) ⟨[(1, .i .i64 a.1), (2, .i .i64 a.2.1), (3, .ptr 0 1 1 0 0), (6, .ptr 1 1 1 0 0)], [.row 1 true false [[.lst true true 0 []]], .row 1 true false [[.lst true true 0 []]]]⟩) ()
def Q1_d5 (G : Q1_G) (n : Nat) : Go.Rv.LE := altL [(1, .i .i64 none), (2, .i .i64 none), (3, .ptr 0 1 0 (some 1) (some 0)), (6, .ptr 1 1 0 (some 1) (some 0)), (35, .sl 3 1 none (some 0) none), (36, .i .i64 none), (37, .i .i64 none)] [.row 1 false false (some [[.sl 2 1 none (some 0) none]]), .row 1 true false (some [[.lst (some true) (some true) 0 (some [])]]), .row 1 true false none, .row 1 true false none] (Q1_l5_3_d G n) (altL [(1, .i .i64 none), (2, .i .i64 none), (3, .ptr 0 1 0 (some 1) (some 0)), (6, .ptr 1 1 0 (some 1) (some 0)), (35, .sl 3 1 none (some 0) none), (36, .i .i64 none), (37, .i .i64 (some 0))] [.row 1 false false (some [[.sl 2 1 none (some 0) none]]), .row 1 true false (some [[.lst (some true) (some true) 0 (some [])]]), .row 1 true true none, .row 1 true false none] (Q1_l5_2_d G n) (altL [(1, .i .i64 none), (2, .i .i64 none), (3, .ptr 0 1 0 (some 1) (some 0)), (6, .ptr 1 1 0 (some 1) (some 0)), (35, .lst (some true) (some true) 0 (some [])), (36, .i .i64 (some 0)), (37, .i .i64 (some 0))] [.row 1 false false (some [[.sl 2 1 none (some 0) none]]), .row 1 true false (some [[.lst (some true) (some true) 0 (some [])]]), .row 1 true false none] (Q1_l5_1_d G n) (Q1_l5_0_d G n)))
def Q1_lp (G : Q1_G) (n : Nat) : LK := tabL [(5, Q1_d5 G n)]
theorem Q1_l5_3_k (G : Q1_G) {ρ : Type} (n : Nat) (p0 p1 : Int) (p2 p3 : Nat) (p4 : Int) (p5 p6 : Nat) (p8 : Rows) (K : Ex → St → Option ρ) (N : St → Option ρ) : ∀ v, roundC (Q1_S G) Q1_hs (Q1_lp G n) Q1_c5 4 N K (Q1_l5_3_enc p0 p1 p2 p3 p4 p5 p6 p8 v) = Q1_l5_3_s G n p0 p1 p2 p3 p4 p5 p6 p8 (fun w0 => K (.exit 0) ⟨[(1, .i .i64 p0), (2, .i .i64 p1), (3, .ptr 0 1 1 0 0), (6, .ptr 1 1 1 0 0)], [.row 1 false false [[.sl 2 p5 1 0 p6]], .row 1 true false [[.lst true true 0 []]], .row 1 true false w0, .row 1 true false p8]⟩) (fun v => N (Q1_l5_3_enc p0 p1 p2 p3 p4 p5 p6 p8 v)) v
 | v => by kernel_rfl
theorem Q1_l5_3_dok (n : Nat) : LE.OK (Q1_l5_3_d (Q1_g n) n) (L tab) Q1_c5 := LE.shp (fun _ _ _ => rfl) fun ρ K y a b e => LE.rounds (Q1_Sok n) (LK.of (l := []) (by kernel_rfl) ((fun _ h => nomatch h))) (Q1_l5_3_k (Q1_g n) n _ _ _ _ _ _ _ _ K) (by kernel_rfl) (by kernel_rfl) e
theorem Q1_l5_2_k (G : Q1_G) {ρ : Type} (n : Nat) (p0 p1 : Int) (p2 p3 : Nat) (p4 : Int) (p5 p6 : Nat) (p7 p8 : Rows) (K : Ex → St → Option ρ) (N : St → Option ρ) : ∀ v, roundC (Q1_S G) Q1_hs (Q1_lp G n) Q1_c5 4 N K (Q1_l5_2_enc p0 p1 p2 p3 p4 p5 p6 p7 p8 v) = Q1_l5_2_s G n p0 p1 p2 p3 p4 p5 p6 p7 p8 (K (.exit 0) ⟨[(1, .i .i64 p0), (2, .i .i64 p1), (3, .ptr 0 1 1 0 0), (6, .ptr 1 1 1 0 0)], [.row 1 false false [[.sl 2 p5 1 0 p6]], .row 1 true false [[.lst true true 0 []]], .row 1 true true p7, .row 1 true false p8]⟩) (fun v => N (Q1_l5_2_enc p0 p1 p2 p3 p4 p5 p6 p7 p8 v)) v
 | v => by kernel_rfl
theorem Q1_l5_2_dok (n : Nat) : LE.OK (Q1_l5_2_d (Q1_g n) n) (L tab) Q1_c5 := LE.shp (fun _ _ _ => rfl) fun ρ K y a b e => LE.rounds (Q1_Sok n) (LK.of (l := []) (by kernel_rfl) ((fun _ h => nomatch h))) (Q1_l5_2_k (Q1_g n) n _ _ _ _ _ _ _ _ _ K) (by kernel_rfl) (by kernel_rfl) e
theorem Q1_l5_1_k (G : Q1_G) {ρ : Type} (n : Nat) (p0 p1 : Int) (p2 p3 : Nat) (p4 : Rows) (K : Ex → St → Option ρ) (N : St → Option ρ) : ∀ v, roundC (Q1_S G) Q1_hs (Q1_lp G n) Q1_c5 3 N K (Q1_l5_1_enc p0 p1 p2 p3 p4 v) = Q1_l5_1_s G n p0 p1 p2 p3 p4 (K (.exit 0) ⟨[(1, .i .i64 p0), (2, .i .i64 p1), (3, .ptr 0 1 1 0 0), (6, .ptr 1 1 1 0 0)], [.row 1 false false [[.sl 2 p2 1 0 p3]], .row 1 true false [[.lst true true 0 []]], .row 1 true false p4]⟩) (fun v => N (Q1_l5_1_enc p0 p1 p2 p3 p4 v)) v
 | v => by kernel_rfl
theorem Q1_l5_1_dok (n : Nat) : LE.OK (Q1_l5_1_d (Q1_g n) n) (L tab) Q1_c5 := LE.shp (fun _ _ _ => rfl) fun ρ K y a b e => LE.rounds (Q1_Sok n) (LK.of (l := []) (by kernel_rfl) ((fun _ h => nomatch h))) (Q1_l5_1_k (Q1_g n) n _ _ _ _ _ K) (by kernel_rfl) (by kernel_rfl) e
theorem Q1_l5_0_k (G : Q1_G) {ρ : Type} (n : Nat) (p0 p1 : Int) (K : Ex → St → Option ρ) (N : St → Option ρ) : ∀ v, roundC (Q1_S G) Q1_hs (Q1_lp G n) Q1_c5 2 N K (Q1_l5_0_enc p0 p1 v) = Q1_l5_0_s G n p0 p1 (K (.exit 0) ⟨[(1, .i .i64 p0), (2, .i .i64 p1), (3, .ptr 0 1 1 0 0), (6, .ptr 1 1 1 0 0)], [.row 1 true false [[.lst true true 0 []]], .row 1 true false [[.lst true true 0 []]]]⟩) (fun v => N (Q1_l5_0_enc p0 p1 v)) v
 | v => by kernel_rfl
theorem Q1_l5_0_dok (n : Nat) : LE.OK (Q1_l5_0_d (Q1_g n) n) (L tab) Q1_c5 := LE.shp (fun _ _ _ => rfl) fun ρ K y a b e => LE.rounds (Q1_Sok n) (LK.of (l := []) (by kernel_rfl) ((fun _ h => nomatch h))) (Q1_l5_0_k (Q1_g n) n _ _ K) (by kernel_rfl) (by kernel_rfl) e
theorem Q1_d5_ok (n : Nat) : LE.OK (Q1_d5 (Q1_g n) n) (L tab) Q1_c5 := altL_ok (Q1_l5_3_dok n) (altL_ok (Q1_l5_2_dok n) (altL_ok (Q1_l5_1_dok n) (Q1_l5_0_dok n)))
theorem Q1_k (G : Q1_G) {ρ : Type} (n : Nat) (a0 a1 : Bool) (a2 : Rows) (a3 a4 : Int) (K : Res → Option ρ) : runC (Q1_S G) Q1_hs (Q1_lp G n) m81 [.agg [.lst a0 a1 1 a2], .i .i64 a3, .i .i64 a4] K = Q1_s G n a0 a1 a2 a3 a4 (K ⟨.tup [.agg [.lst true true 0 []], .b false], [], []⟩) (fun w0 w1 w2 => K ⟨.tup [.agg [.sl 0 w0 1 0 w1], .b true], [.row 1 true false w2], []⟩) := by kernel_rfl
theorem Q1_ok (n : Nat) : EK.OK (Q1_e n) 81 (L tab) := EK.shp (fun _ _ _ => rfl) fun ρ K y c e => EK.run (Q1_Sok n) (by kernel_rfl) (MF.LKOK.of (LK.of (l := [Q1_c5]) (by kernel_rfl) (List.forall_mem_cons.2 ⟨LE.at (e := Q1_d5 (Q1_g n) n) (by kernel_rfl) (Q1_d5_ok n), (fun _ h => nomatch h)⟩))) (Q1_k (Q1_g n) n _ _ _ _ _ K) (by kernel_rfl) e
abbrev Q0_T : Type 1 := (ρ : Type) → Int → Int → Int → Bool → Bool → Rows → Bool → Bool → Rows → Int → Int → (Nat → Nat → Rows → Option ρ) → (Nat → Nat → Nat → Nat → Rows → Rows → Option ρ) → Option ρ
def Q0_E (G : Q0_T) : EK := fun ρ args K => decL [.agg [.i .i64 none, .i .i64 none, .i .i64 none, .lst none none 5 none, .lst none none 13 none], .i .i64 none, .i .i64 none] args fun c => G ρ c.1.1 c.1.2.1 c.1.2.2.1 c.1.2.2.2.1.1 c.1.2.2.2.1.2.1 c.1.2.2.2.1.2.2 c.1.2.2.2.2.1.1 c.1.2.2.2.2.1.2.1 c.1.2.2.2.2.1.2.2 c.2.1 c.2.2.1 (fun w0 w1 w2 => K ⟨.agg [.i .i64 c.1.1, .i .i64 c.1.2.1, .i .i64 c.1.2.2.1, .sl 0 w0 5 0 w1, .lst true true 0 []], [.row 5 true false w2], []⟩) (fun w0 w1 w2 w3 w4 w5 => K ⟨.agg [.i .i64 c.1.1, .i .i64 c.1.2.1, .i .i64 c.1.2.2.1, .sl 0 w0 5 0 w1, .sl 1 w2 13 0 w3], [.row 5 true false w4, .row 13 true false w5], []⟩)
structure Q0_G where
 mk ::
 Qa : Qa_T
 Q1 : Q1_T
 Qs : Qs_T
abbrev Q0_l5_0_V : Type := Unit
def Q0_l5_0_s (_G : Q0_G) {ρ : Type} (_n : Nat) (_p0 _p1 : Int) (_p2 _p3 _p4 : Int) (_p5 _p6 : Nat) (_p7 : Rows) (k0 : (Option ρ)) (_rec' : Q0_l5_0_V → Option ρ) : Q0_l5_0_V → Option ρ
 | _v =>
 k0
def Q0_l5_0 (G : Q0_G) {ρ : Type} (n : Nat) (p0 p1 : Int) (p2 p3 p4 : Int) (p5 p6 : Nat) (p7 : Rows) (k0 : (Option ρ)) (v : Q0_l5_0_V) : Option ρ := fuelN (Q0_l5_0_s G n p0 p1 p2 p3 p4 p5 p6 p7 k0) n v
def Q0_l5_0_enc (p0 p1 : Int) (p2 p3 p4 : Int) (p5 p6 : Nat) (p7 : Rows) : Q0_l5_0_V → St
 | _v => ⟨[(1, .i .i64 p0), (2, .i .i64 p1), (3, .ptr 0 1 5 0 0), (6, .ptr 1 1 5 0 0), (40, .lst true true 0 []), (41, .i .i64 0), (42, .i .i64 0)], [.row 5 false false [[.i .i64 p2, .i .i64 p3, .i .i64 p4, .sl 3 p5 5 0 p6, .lst true true 0 []]], .row 5 true false [[.i .i64 0, .i .i64 0, .i .i64 0, .lst true true 0 [], .lst true true 0 []]], .row 1 true false [[.lst true true 0 []]], .row 5 true false p7]⟩
abbrev Q0_l10_0_V : Type := Unit
def Q0_l10_0_s (_G : Q0_G) {ρ : Type} (_n : Nat) (_p0 _p1 : Int) (_p2 _p3 _p4 : Int) (_p5 _p6 : Nat) (_p7 : Rows) (k0 : (Option ρ)) (_rec' : Q0_l10_0_V → Option ρ) : Q0_l10_0_V → Option ρ
 | _v =>
 k0
def Q0_l10_0 (G : Q0_G) {ρ : Type} (n : Nat) (p0 p1 : Int) (p2 p3 p4 : Int) (p5 p6 : Nat) (p7 : Rows) (k0 : (Option ρ)) (v : Q0_l10_0_V) : Option ρ := fuelN (Q0_l10_0_s G n p0 p1 p2 p3 p4 p5 p6 p7 k0) n v
def Q0_l10_0_enc (p0 p1 : Int) (p2 p3 p4 : Int) (p5 p6 : Nat) (p7 : Rows) : Q0_l10_0_V → St
 | _v => ⟨[(1, .i .i64 p0), (2, .i .i64 p1), (3, .ptr 0 1 5 0 0), (6, .ptr 1 1 5 0 0), (57, .i .i64 0), (58, .i .i64 0)], [.row 5 false false [[.i .i64 p2, .i .i64 p3, .i .i64 p4, .sl 3 p5 5 0 p6, .lst true true 0 []]], .row 5 true false [[.i .i64 0, .i .i64 0, .i .i64 0, .lst true true 0 [], .lst true true 0 []]], .row 1 true false [[.lst true true 0 []]], .row 5 true false p7]⟩
abbrev Q0_l5_1_V : Type := Unit
def Q0_l5_1_s (_G : Q0_G) {ρ : Type} (_n : Nat) (_p0 _p1 : Int) (_p2 _p3 _p4 : Int) (_p5 _p6 : Nat) (_p7 _p8 : Nat) (_p9 _p10 : Rows) (k0 : (Option ρ)) (_rec' : Q0_l5_1_V → Option ρ) : Q0_l5_1_V → Option ρ
 | _v =>
 k0
def Q0_l5_1 (G : Q0_G) {ρ : Type} (n : Nat) (p0 p1 : Int) (p2 p3 p4 : Int) (p5 p6 : Nat) (p7 p8 : Nat) (p9 p10 : Rows) (k0 : (Option ρ)) (v : Q0_l5_1_V) : Option ρ := fuelN (Q0_l5_1_s G n p0 p1 p2 p3 p4 p5 p6 p7 p8 p9 p10 k0) n v
def Q0_l5_1_enc (p0 p1 : Int) (p2 p3 p4 : Int) (p5 p6 : Nat) (p7 p8 : Nat) (p9 p10 : Rows) : Q0_l5_1_V → St
 | _v => ⟨[(1, .i .i64 p0), (2, .i .i64 p1), (3, .ptr 0 1 5 0 0), (6, .ptr 1 1 5 0 0), (40, .lst true true 0 []), (41, .i .i64 0), (42, .i .i64 0)], [.row 5 false false [[.i .i64 p2, .i .i64 p3, .i .i64 p4, .sl 3 p5 5 0 p6, .sl 4 p7 13 0 p8]], .row 5 true false [[.i .i64 0, .i .i64 0, .i .i64 0, .lst true true 0 [], .lst true true 0 []]], .row 1 true false [[.lst true true 0 []]], .row 5 true false p9, .row 13 true false p10]⟩
abbrev Q0_l10_1_V : Type := Int × Rows
def Q0_l10_1_s (_G : Q0_G) {ρ : Type} (_n : Nat) (p0 p1 : Int) (p2 _p3 : Int) (_p4 _p5 : Int) (_p6 _p7 : Nat) (p8 p9 : Nat) (_p10 : Rows) (k0 : (Rows → Option ρ)) (rec' : Q0_l10_1_V → Option ρ) : Q0_l10_1_V → Option ρ
 | v =>
 bif decide ((v.1 : Int) < p2) then
 chk (decide ((0 : Int) ≤ v.1)) <|
 chk (decide ((v.1 : Int) < ((p9 : Nat) : Int))) <|
 chk (((List.length (v.2 : Rows)) : Nat) == p8) <|
 rowN [.i .i64, .i .i64, .i .i64, .i .i64, .i .i64, .i .i64, .i .i64, .b, .i .u64, .i .u64, .i .u64, .i .u64, .i .u64] v.2 (0 + v.1.toNat) fun c0 =>
 bif ((c0.2.2.2.2.2.1 : Int) == (IntKind.wrap .i64 (p0 + 1))) then
 chk (decide ((0 : Int) ≤ v.1)) <|
 chk (decide ((v.1 : Int) < ((p9 : Nat) : Int))) <|
 chk (((List.length (v.2 : Rows)) : Nat) == p8) <|
 rowN [.a, .a, .a, .a, .a, .a, .a, .a, .a, .a, .a, .a, .a] v.2 (0 + v.1.toNat) fun c1 =>
 rec' ((IntKind.wrap .i64 (v.1 + 1)), (List.set (v.2 : Rows) (0 + v.1.toNat) [c1.1, c1.2.1, c1.2.2.1, c1.2.2.2.1, c1.2.2.2.2.1, .i .i64 (IntKind.wrap .i64 (p1 + 1)), c1.2.2.2.2.2.2.1, c1.2.2.2.2.2.2.2.1, c1.2.2.2.2.2.2.2.2.1, c1.2.2.2.2.2.2.2.2.2.1, c1.2.2.2.2.2.2.2.2.2.2.1, c1.2.2.2.2.2.2.2.2.2.2.2.1, c1.2.2.2.2.2.2.2.2.2.2.2.2.1]))
 else rec' ((IntKind.wrap .i64 (v.1 + 1)), v.2)
 else k0 v.2
def Q0_l10_1 (G : Q0_G) {ρ : Type} (n : Nat) (p0 p1 : Int) (p2 p3 : Int) (p4 p5 : Int) (p6 p7 : Nat) (p8 p9 : Nat) (p10 : Rows) (k0 : (Rows → Option ρ)) (v : Q0_l10_1_V) : Option ρ := fuelN (Q0_l10_1_s G n p0 p1 p2 p3 p4 p5 p6 p7 p8 p9 p10 k0) n v
def Q0_l10_1_enc (p0 p1 : Int) (p2 p3 : Int) (p4 p5 : Int) (p6 p7 : Nat) (p8 p9 : Nat) (p10 : Rows) : Q0_l10_1_V → St
 | v => ⟨[(1, .i .i64 p0), (2, .i .i64 p1), (3, .ptr 0 1 5 0 0), (6, .ptr 1 1 5 0 0), (57, .i .i64 p2), (58, .i .i64 v.1)], [.row 5 false false [[.i .i64 p3, .i .i64 p4, .i .i64 p5, .sl 3 p6 5 0 p7, .sl 4 p8 13 0 p9]], .row 5 true false [[.i .i64 0, .i .i64 0, .i .i64 0, .lst true true 0 [], .lst true true 0 []]], .row 1 true false [[.lst true true 0 []]], .row 5 true false p10, .row 13 true false v.2]⟩
abbrev Q0_l5_2_V : Type := Int × Rows
def Q0_l5_2_s (_G : Q0_G) {ρ : Type} (_n : Nat) (_p0 _p1 : Int) (p2 p3 : Nat) (p4 _p5 : Int) (_p6 _p7 : Int) (p8 p9 : Nat) (p10 : Rows) (_p11 _p12 : Nat) (k0 : (Rows → Option ρ)) (rec' : Q0_l5_2_V → Option ρ) : Q0_l5_2_V → Option ρ
 | v =>
 bif decide ((v.1 : Int) < p4) then
 chk (decide ((0 : Int) ≤ v.1)) <|
 chk (decide ((v.1 : Int) < ((p3 : Nat) : Int))) <|
 chk (((List.length (p10 : Rows)) : Nat) == p2) <|
 rowN [.i .i64] p10 (0 + v.1.toNat) fun c0 =>
 chk (decide ((0 : Int) ≤ v.1)) <|
 chk (decide ((v.1 : Int) < ((p9 : Nat) : Int))) <|
 chk (((List.length (v.2 : Rows)) : Nat) == p8) <|
 rowN [.a, .a, .a, .a, .a] v.2 (0 + v.1.toNat) fun c1 =>
 rec' ((IntKind.wrap .i64 (v.1 + 1)), (List.set (v.2 : Rows) (0 + v.1.toNat) [c1.1, c1.2.1, c1.2.2.1, c1.2.2.2.1, .i .i64 (if (-1) > c0.1 then (-1) else c0.1)]))
 else k0 v.2
def Q0_l5_2 (G : Q0_G) {ρ : Type} (n : Nat) (p0 p1 : Int) (p2 p3 : Nat) (p4 p5 : Int) (p6 p7 : Int) (p8 p9 : Nat) (p10 : Rows) (p11 p12 : Nat) (k0 : (Rows → Option ρ)) (v : Q0_l5_2_V) : Option ρ := fuelN (Q0_l5_2_s G n p0 p1 p2 p3 p4 p5 p6 p7 p8 p9 p10 p11 p12 k0) n v
def Q0_l5_2_enc (p0 p1 : Int) (p2 p3 : Nat) (p4 p5 : Int) (p6 p7 : Int) (p8 p9 : Nat) (p10 : Rows) (p11 p12 : Nat) : Q0_l5_2_V → St
 | v => ⟨[(1, .i .i64 p0), (2, .i .i64 p1), (3, .ptr 0 1 5 0 0), (6, .ptr 1 1 5 0 0), (40, .sl 2 p2 1 0 p3), (41, .i .i64 p4), (42, .i .i64 v.1)], [.row 5 false false [[.i .i64 p5, .i .i64 p6, .i .i64 p7, .sl 4 p8 5 0 p9, .lst true true 0 []]], .row 5 true false [[.i .i64 0, .i .i64 0, .i .i64 0, .lst true true 0 [], .lst true true 0 []]], .row 1 true false p10, .row 1 false false [[.sl 2 p11 1 0 p12]], .row 5 true false v.2]⟩
abbrev Q0_l10_2_V : Type := Unit
def Q0_l10_2_s (_G : Q0_G) {ρ : Type} (_n : Nat) (_p0 _p1 : Int) (_p2 _p3 _p4 : Int) (_p5 _p6 : Nat) (_p7 : Rows) (_p8 _p9 : Nat) (_p10 : Rows) (k0 : (Option ρ)) (_rec' : Q0_l10_2_V → Option ρ) : Q0_l10_2_V → Option ρ
 | _v =>
 k0
def Q0_l10_2 (G : Q0_G) {ρ : Type} (n : Nat) (p0 p1 : Int) (p2 p3 p4 : Int) (p5 p6 : Nat) (p7 : Rows) (p8 p9 : Nat) (p10 : Rows) (k0 : (Option ρ)) (v : Q0_l10_2_V) : Option ρ := fuelN (Q0_l10_2_s G n p0 p1 p2 p3 p4 p5 p6 p7 p8 p9 p10 k0) n v
def Q0_l10_2_enc (p0 p1 : Int) (p2 p3 p4 : Int) (p5 p6 : Nat) (p7 : Rows) (p8 p9 : Nat) (p10 : Rows) : Q0_l10_2_V → St
 | _v => ⟨[(1, .i .i64 p0), (2, .i .i64 p1), (3, .ptr 0 1 5 0 0), (6, .ptr 1 1 5 0 0), (57, .i .i64 0), (58, .i .i64 0)], [.row 5 false false [[.i .i64 p2, .i .i64 p3, .i .i64 p4, .sl 4 p5 5 0 p6, .lst true true 0 []]], .row 5 true false [[.i .i64 0, .i .i64 0, .i .i64 0, .lst true true 0 [], .lst true true 0 []]], .row 1 true false p7, .row 1 false false [[.sl 2 p8 1 0 p9]], .row 5 true false p10]⟩
abbrev Q0_l5_3_V : Type := Int × Rows
def Q0_l5_3_s (_G : Q0_G) {ρ : Type} (_n : Nat) (_p0 _p1 : Int) (p2 p3 : Nat) (p4 _p5 : Int) (_p6 _p7 : Int) (p8 p9 : Nat) (_p10 _p11 : Nat) (p12 : Rows) (_p13 _p14 : Nat) (_p16 : Rows) (k0 : (Rows → Option ρ)) (rec' : Q0_l5_3_V → Option ρ) : Q0_l5_3_V → Option ρ
 | v =>
 bif decide ((v.1 : Int) < p4) then
 chk (decide ((0 : Int) ≤ v.1)) <|
 chk (decide ((v.1 : Int) < ((p3 : Nat) : Int))) <|
 chk (((List.length (p12 : Rows)) : Nat) == p2) <|
 rowN [.i .i64] p12 (0 + v.1.toNat) fun c0 =>
 chk (decide ((0 : Int) ≤ v.1)) <|
 chk (decide ((v.1 : Int) < ((p9 : Nat) : Int))) <|
 chk (((List.length (v.2 : Rows)) : Nat) == p8) <|
 rowN [.a, .a, .a, .a, .a] v.2 (0 + v.1.toNat) fun c1 =>
 rec' ((IntKind.wrap .i64 (v.1 + 1)), (List.set (v.2 : Rows) (0 + v.1.toNat) [c1.1, c1.2.1, c1.2.2.1, c1.2.2.2.1, .i .i64 (if (-1) > c0.1 then (-1) else c0.1)]))
 else k0 v.2
def Q0_l5_3 (G : Q0_G) {ρ : Type} (n : Nat) (p0 p1 : Int) (p2 p3 : Nat) (p4 p5 : Int) (p6 p7 : Int) (p8 p9 : Nat) (p10 p11 : Nat) (p12 : Rows) (p13 p14 : Nat) (p16 : Rows) (k0 : (Rows → Option ρ)) (v : Q0_l5_3_V) : Option ρ := fuelN (Q0_l5_3_s G n p0 p1 p2 p3 p4 p5 p6 p7 p8 p9 p10 p11 p12 p13 p14 p16 k0) n v
def Q0_l5_3_enc (p0 p1 : Int) (p2 p3 : Nat) (p4 p5 : Int) (p6 p7 : Int) (p8 p9 : Nat) (p10 p11 : Nat) (p12 : Rows) (p13 p14 : Nat) (p16 : Rows) : Q0_l5_3_V → St
 | v => ⟨[(1, .i .i64 p0), (2, .i .i64 p1), (3, .ptr 0 1 5 0 0), (6, .ptr 1 1 5 0 0), (40, .sl 2 p2 1 0 p3), (41, .i .i64 p4), (42, .i .i64 v.1)], [.row 5 false false [[.i .i64 p5, .i .i64 p6, .i .i64 p7, .sl 4 p8 5 0 p9, .sl 5 p10 13 0 p11]], .row 5 true false [[.i .i64 0, .i .i64 0, .i .i64 0, .lst true true 0 [], .lst true true 0 []]], .row 1 true false p12, .row 1 false false [[.sl 2 p13 1 0 p14]], .row 5 true false v.2, .row 13 true false p16]⟩
abbrev Q0_l10_3_V : Type := Int × Rows
def Q0_l10_3_s (_G : Q0_G) {ρ : Type} (_n : Nat) (p0 p1 : Int) (p2 _p3 : Int) (_p4 _p5 : Int) (_p6 _p7 : Nat) (p8 p9 : Nat) (_p10 : Rows) (_p11 _p12 : Nat) (_p13 : Rows) (k0 : (Rows → Option ρ)) (rec' : Q0_l10_3_V → Option ρ) : Q0_l10_3_V → Option ρ
 | v =>
 bif decide ((v.1 : Int) < p2) then
 chk (decide ((0 : Int) ≤ v.1)) <|
 chk (decide ((v.1 : Int) < ((p9 : Nat) : Int))) <|
 chk (((List.length (v.2 : Rows)) : Nat) == p8) <|
 rowN [.i .i64, .i .i64, .i .i64, .i .i64, .i .i64, .i .i64, .i .i64, .b, .i .u64, .i .u64, .i .u64, .i .u64, .i .u64] v.2 (0 + v.1.toNat) fun c0 =>
 bif ((c0.2.2.2.2.2.1 : Int) == (IntKind.wrap .i64 (p0 + 1))) then
 chk (decide ((0 : Int) ≤ v.1)) <|
 chk (decide ((v.1 : Int) < ((p9 : Nat) : Int))) <|
 chk (((List.length (v.2 : Rows)) : Nat) == p8) <|
 rowN [.a, .a, .a, .a, .a, .a, .a, .a, .a, .a, .a, .a, .a] v.2 (0 + v.1.toNat) fun c1 =>
 rec' ((IntKind.wrap .i64 (v.1 + 1)), (List.set (v.2 : Rows) (0 + v.1.toNat) [c1.1, c1.2.1, c1.2.2.1, c1.2.2.2.1, c1.2.2.2.2.1, .i .i64 (IntKind.wrap .i64 (p1 + 1)), c1.2.2.2.2.2.2.1, c1.2.2.2.2.2.2.2.1, c1.2.2.2.2.2.2.2.2.1, c1.2.2.2.2.2.2.2.2.2.1, c1.2.2.2.2.2.2.2.2.2.2.1, c1.2.2.2.2.2.2.2.2.2.2.2.1, c1.2.2.2.2.2.2.2.2.2.2.2.2.1]))
 else rec' ((IntKind.wrap .i64 (v.1 + 1)), v.2)
 else k0 v.2
def Q0_l10_3 (G : Q0_G) {ρ : Type} (n : Nat) (p0 p1 : Int) (p2 p3 : Int) (p4 p5 : Int) (p6 p7 : Nat) (p8 p9 : Nat) (p10 : Rows) (p11 p12 : Nat) (p13 : Rows) (k0 : (Rows → Option ρ)) (v : Q0_l10_3_V) : Option ρ := fuelN (Q0_l10_3_s G n p0 p1 p2 p3 p4 p5 p6 p7 p8 p9 p10 p11 p12 p13 k0) n v
def Q0_l10_3_enc (p0 p1 : Int) (p2 p3 : Int) (p4 p5 : Int) (p6 p7 : Nat) (p8 p9 : Nat) (p10 : Rows) (p11 p12 : Nat) (p13 : Rows) : Q0_l10_3_V → St
 | v => ⟨[(1, .i .i64 p0), (2, .i .i64 p1), (3, .ptr 0 1 5 0 0), (6, .ptr 1 1 5 0 0), (57, .i .i64 p2), (58, .i .i64 v.1)], [.row 5 false false [[.i .i64 p3, .i .i64 p4, .i .i64 p5, .sl 4 p6 5 0 p7, .sl 5 p8 13 0 p9]], .row 5 true false [[.i .i64 0, .i .i64 0, .i .i64 0, .lst true true 0 [], .lst true true 0 []]], .row 1 true false p10, .row 1 false false [[.sl 2 p11 1 0 p12]], .row 5 true false p13, .row 13 true false v.2]⟩
def Q0_s (G : Q0_G) {ρ : Type} (n : Nat) (a0 a1 a2 : Int) (a3 a4 : Bool) (a5 : Rows) (a6 a7 : Bool) (a8 : Rows) (a9 a10 : Int) (k0 : (Nat → Nat → Rows → Option ρ)) (k1 : (Nat → Nat → Nat → Nat → Rows → Rows → Option ρ)) : Option ρ :=
 G.Qa ρ a0 a1 a2 a3 a4 a5 a6 a7 a8 (fun w0_0 w0_1 w0_2 =>
 G.Q1 ρ w0_0 w0_1 w0_2 a9 a10 (G.Qs ρ a0 a1 a2 a3 a4 a5 a6 a7 a8 (none) (fun _w3_0 _w3_1 _w3_2 =>
 none) (fun w4_0 w4_1 w4_2 =>
 chk (decide ((0 : Int) ≤ a9)) <|
 chk (decide ((a9 : Int) < ((w4_1 : Nat) : Int))) <|
 chk (((List.length (w4_2 : Rows)) : Nat) == w4_0) <|
 rowN [.i .i64, .i .i64, .i .i64, .i .i64, .i .i64] w4_2 (0 + a9.toNat) fun c5 =>
 chk (decide ((0 : Int) ≤ a10)) <|
 chk (decide ((a10 : Int) < ((w4_1 : Nat) : Int))) <|
 chk (((List.length (w4_2 : Rows)) : Nat) == w4_0) <|
 rowN [.a, .a, .a, .a, .a] w4_2 (0 + a10.toNat) fun c6 =>
 chk (decide ((0 : Int) ≤ a9)) <|
 chk (decide ((a9 : Int) < ((w4_1 : Nat) : Int))) <|
 chk (((List.length ((List.set (w4_2 : Rows) (0 + a10.toNat) [.i .i64 c5.1, .i .i64 c5.2.1, .i .i64 c5.2.2.1, .i .i64 c5.2.2.2.1, c6.2.2.2.2.1]) : Rows)) : Nat) == w4_0) <|
 rowN [.a, .a, .a, .a, .a] (List.set (w4_2 : Rows) (0 + a10.toNat) [.i .i64 c5.1, .i .i64 c5.2.1, .i .i64 c5.2.2.1, .i .i64 c5.2.2.2.1, c6.2.2.2.2.1]) (0 + a9.toNat) fun c7 =>
 Q0_l5_0 G n a9 a10 a0 a1 a2 w4_0 w4_1 (List.set ((List.set (w4_2 : Rows) (0 + a10.toNat) [.i .i64 c5.1, .i .i64 c5.2.1, .i .i64 c5.2.2.1, .i .i64 c5.2.2.2.1, c6.2.2.2.2.1]) : Rows) (0 + a9.toNat) [.i .i64 0, .i .i64 0, .i .i64 0, .i .i64 0, c7.2.2.2.2.1]) (Q0_l10_0 G n a9 a10 a0 a1 a2 w4_0 w4_1 (List.set ((List.set (w4_2 : Rows) (0 + a10.toNat) [.i .i64 c5.1, .i .i64 c5.2.1, .i .i64 c5.2.2.1, .i .i64 c5.2.2.2.1, c6.2.2.2.2.1]) : Rows) (0 + a9.toNat) [.i .i64 0, .i .i64 0, .i .i64 0, .i .i64 0, c7.2.2.2.2.1]) (k0 w4_0 w4_1 (List.set ((List.set (w4_2 : Rows) (0 + a10.toNat) [.i .i64 c5.1, .i .i64 c5.2.1, .i .i64 c5.2.2.1, .i .i64 c5.2.2.2.1, c6.2.2.2.2.1]) : Rows) (0 + a9.toNat) [.i .i64 0, .i .i64 0, .i .i64 0, .i .i64 0, c7.2.2.2.2.1])) ()) ()) (fun w10_0 w10_1 w10_2 w10_3 w10_4 w10_5 =>
 chk (decide ((0 : Int) ≤ a9)) <|
 chk (decide ((a9 : Int) < ((w10_1 : Nat) : Int))) <|
 chk (((List.length (w10_4 : Rows)) : Nat) == w10_0) <|
 rowN [.i .i64, .i .i64, .i .i64, .i .i64, .i .i64] w10_4 (0 + a9.toNat) fun c11 =>
 chk (decide ((0 : Int) ≤ a10)) <|
 chk (decide ((a10 : Int) < ((w10_1 : Nat) : Int))) <|
 chk (((List.length (w10_4 : Rows)) : Nat) == w10_0) <|
 rowN [.a, .a, .a, .a, .a] w10_4 (0 + a10.toNat) fun c12 =>
 chk (decide ((0 : Int) ≤ a9)) <|
 chk (decide ((a9 : Int) < ((w10_1 : Nat) : Int))) <|
 chk (((List.length ((List.set (w10_4 : Rows) (0 + a10.toNat) [.i .i64 c11.1, .i .i64 c11.2.1, .i .i64 c11.2.2.1, .i .i64 c11.2.2.2.1, c12.2.2.2.2.1]) : Rows)) : Nat) == w10_0) <|
 rowN [.a, .a, .a, .a, .a] (List.set (w10_4 : Rows) (0 + a10.toNat) [.i .i64 c11.1, .i .i64 c11.2.1, .i .i64 c11.2.2.1, .i .i64 c11.2.2.2.1, c12.2.2.2.2.1]) (0 + a9.toNat) fun c13 =>
 Q0_l5_1 G n a9 a10 a0 a1 a2 w10_0 w10_1 w10_2 w10_3 (List.set ((List.set (w10_4 : Rows) (0 + a10.toNat) [.i .i64 c11.1, .i .i64 c11.2.1, .i .i64 c11.2.2.1, .i .i64 c11.2.2.2.1, c12.2.2.2.2.1]) : Rows) (0 + a9.toNat) [.i .i64 0, .i .i64 0, .i .i64 0, .i .i64 0, c13.2.2.2.2.1]) w10_5 (Q0_l10_1 G n a9 a10 ((w10_3 : Nat) : Int) a0 a1 a2 w10_0 w10_1 w10_2 w10_3 (List.set ((List.set (w10_4 : Rows) (0 + a10.toNat) [.i .i64 c11.1, .i .i64 c11.2.1, .i .i64 c11.2.2.1, .i .i64 c11.2.2.2.1, c12.2.2.2.2.1]) : Rows) (0 + a9.toNat) [.i .i64 0, .i .i64 0, .i .i64 0, .i .i64 0, c13.2.2.2.2.1]) (fun w15_0 =>
 k1 w10_0 w10_1 w10_2 w10_3 (List.set ((List.set (w10_4 : Rows) (0 + a10.toNat) [.i .i64 c11.1, .i .i64 c11.2.1, .i .i64 c11.2.2.1, .i .i64 c11.2.2.2.1, c12.2.2.2.2.1]) : Rows) (0 + a9.toNat) [.i .i64 0, .i .i64 0, .i .i64 0, .i .i64 0, c13.2.2.2.2.1]) w15_0) (0, w10_5)) ())) (fun w16_0 w16_1 w16_2 =>
 G.Qs ρ a0 a1 a2 a3 a4 a5 a6 a7 a8 (none) (fun _w18_0 _w18_1 _w18_2 =>
 none) (fun w19_0 w19_1 w19_2 =>
 chk (decide ((0 : Int) ≤ a9)) <|
 chk (decide ((a9 : Int) < ((w19_1 : Nat) : Int))) <|
 chk (((List.length (w19_2 : Rows)) : Nat) == w19_0) <|
 rowN [.i .i64, .i .i64, .i .i64, .i .i64, .i .i64] w19_2 (0 + a9.toNat) fun c20 =>
 chk (decide ((0 : Int) ≤ a10)) <|
 chk (decide ((a10 : Int) < ((w19_1 : Nat) : Int))) <|
 chk (((List.length (w19_2 : Rows)) : Nat) == w19_0) <|
 rowN [.a, .a, .a, .a, .a] w19_2 (0 + a10.toNat) fun c21 =>
 chk (decide ((0 : Int) ≤ a9)) <|
 chk (decide ((a9 : Int) < ((w19_1 : Nat) : Int))) <|
 chk (((List.length ((List.set (w19_2 : Rows) (0 + a10.toNat) [.i .i64 c20.1, .i .i64 c20.2.1, .i .i64 c20.2.2.1, .i .i64 c20.2.2.2.1, c21.2.2.2.2.1]) : Rows)) : Nat) == w19_0) <|
 rowN [.a, .a, .a, .a, .a] (List.set (w19_2 : Rows) (0 + a10.toNat) [.i .i64 c20.1, .i .i64 c20.2.1, .i .i64 c20.2.2.1, .i .i64 c20.2.2.2.1, c21.2.2.2.2.1]) (0 + a9.toNat) fun c22 =>
 Q0_l5_2 G n a9 a10 w16_0 w16_1 ((w16_1 : Nat) : Int) a0 a1 a2 w19_0 w19_1 w16_2 w16_0 w16_1 (fun w23_0 =>
 Q0_l10_2 G n a9 a10 a0 a1 a2 w19_0 w19_1 w16_2 w16_0 w16_1 w23_0 (k0 w19_0 w19_1 w23_0) ()) (0, (List.set ((List.set (w19_2 : Rows) (0 + a10.toNat) [.i .i64 c20.1, .i .i64 c20.2.1, .i .i64 c20.2.2.1, .i .i64 c20.2.2.2.1, c21.2.2.2.2.1]) : Rows) (0 + a9.toNat) [.i .i64 0, .i .i64 0, .i .i64 0, .i .i64 0, c22.2.2.2.2.1]))) (fun w25_0 w25_1 w25_2 w25_3 w25_4 w25_5 =>
 chk (decide ((0 : Int) ≤ a9)) <|
 chk (decide ((a9 : Int) < ((w25_1 : Nat) : Int))) <|
 chk (((List.length (w25_4 : Rows)) : Nat) == w25_0) <|
 rowN [.i .i64, .i .i64, .i .i64, .i .i64, .i .i64] w25_4 (0 + a9.toNat) fun c26 =>
 chk (decide ((0 : Int) ≤ a10)) <|
 chk (decide ((a10 : Int) < ((w25_1 : Nat) : Int))) <|
 chk (((List.length (w25_4 : Rows)) : Nat) == w25_0) <|
 rowN [.a, .a, .a, .a, .a] w25_4 (0 + a10.toNat) fun c27 =>
 chk (decide ((0 : Int) ≤ a9)) <|
 chk (decide ((a9 : Int) < ((w25_1 : Nat) : Int))) <|
 chk (((List.length ((List.set (w25_4 : Rows) (0 + a10.toNat) [.i .i64 c26.1, .i .i64 c26.2.1, .i .i64 c26.2.2.1, .i .i64 c26.2.2.2.1, c27.2.2.2.2.1]) : Rows)) : Nat) == w25_0) <|
 rowN [.a, .a, .a, .a, .a] (List.set (w25_4 : Rows) (0 + a10.toNat) [.i .i64 c26.1, .i .i64 c26.2.1, .i .i64 c26.2.2.1, .i .i64 c26.2.2.2.1, c27.2.2.2.2.1]) (0 + a9.toNat) fun c28 =>
 Q0_l5_3 G n a9 a10 w16_0 w16_1 ((w16_1 : Nat) : Int) a0 a1 a2 w25_0 w25_1 w25_2 w25_3 w16_2 w16_0 w16_1 w25_5 (fun w29_0 =>
 Q0_l10_3 G n a9 a10 ((w25_3 : Nat) : Int) a0 a1 a2 w25_0 w25_1 w25_2 w25_3 w16_2 w16_0 w16_1 w29_0 (fun w30_0 =>
 k1 w25_0 w25_1 w25_2 w25_3 w29_0 w30_0) (0, w25_5)) (0, (List.set ((List.set (w25_4 : Rows) (0 + a10.toNat) [.i .i64 c26.1, .i .i64 c26.2.1, .i .i64 c26.2.2.1, .i .i64 c26.2.2.2.1, c27.2.2.2.2.1]) : Rows) (0 + a9.toNat) [.i .i64 0, .i .i64 0, .i .i64 0, .i .i64 0, c28.2.2.2.2.1])))))
def Q0_g (n : Nat) : Q0_G := ⟨Qa n, Q1 n, Qs n⟩
def Q0 (n : Nat) : Q0_T := fun _ρ a0 a1 a2 a3 a4 a5 a6 a7 a8 a9 a10 k0 k1 => Q0_s (Q0_g n) n a0 a1 a2 a3 a4 a5 a6 a7 a8 a9 a10 k0 k1
def Q0_e (n : Nat) : EK := Q0_E (Q0 n)
def Q0_S (G : Q0_G) : CK := tabS [(14, Qa_E G.Qa), (81, Q1_E G.Q1), (54, Qs_E G.Qs)]
theorem Q0_Sok (n : Nat) : CK.OK (Q0_S (Q0_g n)) (L tab) := tabS_ok _ (List.forall_mem_cons.2 ⟨(Qa_ok n), List.forall_mem_cons.2 ⟨(Q1_ok n), List.forall_mem_cons.2 ⟨(Qs_ok n), (fun _ h => nomatch h)⟩⟩⟩)
def Q0_hs : HintC := hintL [(33, [.i .i64, .i .i64, .i .i64, .i .i64, .i .i64]), (66, [.i .i64, .i .i64, .i .i64, .i .i64, .i .i64, .i .i64, .i .i64, .b, .i .u64, .i .u64, .i .u64, .i .u64, .i .u64]), (46, [.i .i64])]
def Q0_c5 : Nat × List Nat × List Nat × MC := loopAt 5 m60
def Q0_l5_3_d (G : Q0_G) (n : Nat) : Go.Rv.LE := fun _ρ h K => decSt [(1, .i .i64 none), (2, .i .i64 none), (3, .ptr 0 5 0 (some 1) (some 0)), (6, .ptr 1 5 0 (some 1) (some 0)), (40, .sl 2 1 none (some 0) none), (41, .i .i64 none), (42, .i .i64 none)] [.row 5 false false (some [[.i .i64 none, .i .i64 none, .i .i64 none, .sl 4 5 none (some 0) none, .sl 5 13 none (some 0) none]]), .row 5 true false (some [[.i .i64 (some 0), .i .i64 (some 0), .i .i64 (some 0), .lst (some true) (some true) 0 (some []), .lst (some true) (some true) 0 (some [])]]), .row 1 true false none, .row 1 false false (some [[.sl 2 1 none (some 0) none]]), .row 5 true false none, .row 13 true false none] h fun a b => Q0_l5_3 G n a.1 a.2.1 a.2.2.2.2.1.1 a.2.2.2.2.1.2.2 a.2.2.2.2.2.1 b.1.1.1 b.1.1.2.1 b.1.1.2.2.1 b.1.1.2.2.2.1.1 b.1.1.2.2.2.1.2.2 b.1.1.2.2.2.2.1.1 b.1.1.2.2.2.2.1.2.2 b.2.2.1 b.2.2.2.1.1.1.1 b.2.2.2.1.1.1.2.2 b.2.2.2.2.2.1 (fun w0 => K (.exit 0) ⟨[(1, .i .i64 a.1), (2, .i .i64 a.2.1), (3, .ptr 0 1 5 0 0), (6, .ptr 1 1 5 0 0)], [.row 5 false false [[.i .i64 b.1.1.1, .i .i64 b.1.1.2.1, .i .i64 b.1.1.2.2.1, .sl 4 b.1.1.2.2.2.1.1 5 0 b.1.1.2.2.2.1.2.2, .sl 5 b.1.1.2.2.2.2.1.1 13 0 b.1.1.2.2.2.2.1.2.2]], .row 5 true false [[.i .i64 0, .i .i64 0, .i .i64 0, .lst true true 0 [], .lst true true 0 []]], .row 1 true false b.2.2.1, .row 1 false false [[.sl 2 b.2.2.2.1.1.1.1 1 0 b.2.2.2.1.1.1.2.2]], .row 5 true false w0, .row 13 true false b.2.2.2.2.2.1]⟩) (a.2.2.2.2.2.2.1, b.2.2.2.2.1)
def Q0_l5_2_d (G : Q0_G) (n : Nat) : Go.Rv.LE := fun _ρ h K => decSt [(1, .i .i64 none), (2, .i .i64 none), (3, .ptr 0 5 0 (some 1) (some 0)), (6, .ptr 1 5 0 (some 1) (some 0)), (40, .sl 2 1 none (some 0) none), (41, .i .i64 none), (42, .i .i64 none)] [.row 5 false false (some [[.i .i64 none, .i .i64 none, .i .i64 none, .sl 4 5 none (some 0) none, .lst (some true) (some true) 0 (some [])]]), .row 5 true false (some [[.i .i64 (some 0), .i .i64 (some 0), .i .i64 (some 0), .lst (some true) (some true) 0 (some []), .lst (some true) (some true) 0 (some [])]]), .row 1 true false none, .row 1 false false (some [[.sl 2 1 none (some 0) none]]), .row 5 true false none] h fun a b => Q0_l5_2 G n a.1 a.2.1 a.2.2.2.2.1.1 a.2.2.2.2.1.2.2 a.2.2.2.2.2.1 b.1.1.1 b.1.1.2.1 b.1.1.2.2.1 b.1.1.2.2.2.1.1 b.1.1.2.2.2.1.2.2 b.2.2.1 b.2.2.2.1.1.1.1 b.2.2.2.1.1.1.2.2 (fun w0 => K (.exit 0) ⟨[(1, .i .i64 a.1), (2, .i .i64 a.2.1), (3, .ptr 0 1 5 0 0), (6, .ptr 1 1 5 0 0)], [.row 5 false false [[.i .i64 b.1.1.1, .i .i64 b.1.1.2.1, .i .i64 b.1.1.2.2.1, .sl 4 b.1.1.2.2.2.1.1 5 0 b.1.1.2.2.2.1.2.2, .lst true true 0 []]], .row 5 true false [[.i .i64 0, .i .i64 0, .i .i64 0, .lst true true 0 [], .lst true true 0 []]], .row 1 true false b.2.2.1, .row 1 false false [[.sl 2 b.2.2.2.1.1.1.1 1 0 b.2.2.2.1.1.1.2.2]], .row 5 true false w0]⟩) (a.2.2.2.2.2.2.1, b.2.2.2.2.1)
def Q0_l5_1_d (G : Q0_G) (n : Nat) : Go.Rv.LE := fun _ρ h K => decSt [(1, .i .i64 none), (2, .i .i64 none), (3, .ptr 0 5 0 (some 1) (some 0)), (6, .ptr 1 5 0 (some 1) (some 0)), (40, .lst (some true) (some true) 0 (some [])), (41, .i .i64 (some 0)), (42, .i .i64 (some 0))] [.row 5 false false (some [[.i .i64 none, .i .i64 none, .i .i64 none, .sl 3 5 none (some 0) none, .sl 4 13 none (some 0) none]]), .row 5 true false (some [[.i .i64 (some 0), .i .i64 (some 0), .i .i64 (some 0), .lst (some true) (some true) 0 (some []), .lst (some true) (some true) 0 (some [])]]), .row 1 true false (some [[.lst (some true) (some true) 0 (some [])]]), .row 5 true false none, .row 13 true false none] h fun a b => Q0_l5_1 G n a.1 a.2.1 b.1.1.1 b.1.1.2.1 b.1.1.2.2.1 b.1.1.2.2.2.1.1 b.1.1.2.2.2.1.2.2 b.1.1.2.2.2.2.1.1 b.1.1.2.2.2.2.1.2.2 b.2.2.2.1 b.2.2.2.2.1 (K (.exit 0) ⟨[(1, .i .i64 a.1), (2, .i .i64 a.2.1), (3, .ptr 0 1 5 0 0), (6, .ptr 1 1 5 0 0)], [.row 5 false false [[.i .i64 b.1.1.1, .i .i64 b.1.1.2.1, .i .i64 b.1.1.2.2.1, .sl 3 b.1.1.2.2.2.1.1 5 0 b.1.1.2.2.2.1.2.2, .sl 4 b.1.1.2.2.2.2.1.1 13 0 b.1.1.2.2.2.2.1.2.2]], .row 5 true false [[.i .i64 0, .i .i64 0, .i .i64 0, .lst true true 0 [], .lst true true 0 []]], .row 1 true false [[.lst true true 0 []]], .row 5 true false b.2.2.2.1, .row 13 true false b.2.2.2.2.1]⟩) ()
def Q0_l5_0_d (G : Q0_G) (n : Nat) : Go.Rv.LE := fun _ρ h K => decSt [(1, .i .i64 none), (2, .i .i64 none), (3, .ptr 0 5 0 (some 1) (some 0)), (6, .ptr 1 5 0 (some 1) (some 0)), (40, .lst (some true) (some true) 0 (some [])), (41, .i .i64 (some 0)), (42, .i .i64 (some 0))] [.row 5 false false (some [[.i .i64 none, .i .i64 none, .i .i64 none, .sl 3 5 none (some 0) none, .lst (some true) (some true) 0 (some [])]]), .row 5 true false (some [[.i .i64 (some 0), .i .i64 (some 0), .i .i64 (some 0), .lst (some true) (some true) 0 (some []), .lst (some true) (some true) 0 (some [])]]), .row 1 true false (some [[.lst (some true) (some true) 0 (some [])]]), .row 5 true false none] h fun a b => Q0_l5_0 G n a.1 a.2.1 b.1.1.1 b.1.1.2.1 b.1.1.2.2.1 b.1.1.2.2.2.1.1 b.1.1.2.2.2.1.2.2 b.2.2.2.1 (K (.exit 0) ⟨[(1, .i .i64 a.1), (2, .i .i64 a.2.1), (3, .ptr 0 1 5 0 0), (6, .ptr 1 1 5 0 0)], [.row 5 false false [[.i .i64 b.1.1.1, .i .i64 b.1.1.2.1, .i .i64 b.1.1.2.2.1, .sl 3 b.1.1.2.2.2.1.1 5 0 b.1.1.2.2.2.1.2.2, .lst true true 0 []]], .row 5 true false [[.i .i64 0, .i .i64 0, .i .i64 0, .lst true true 0 [], .lst true true 0 []]], .row 1 true false [[.lst true true 0 []]], .row 5 true false b.2.2.2.1]⟩) ()
def Q0_d5 (G : Q0_G) (n : Nat) : Go.Rv.LE := altL [(1, .i .i64 none), (2, .i .i64 none), (3, .ptr 0 5 0 (some 1) (some 0)), (6, .ptr 1 5 0 (some 1) (some 0)), (40, .sl 2 1 none (some 0) none), (41, .i .i64 none), (42, .i .i64 none)] [.row 5 false false (some [[.i .i64 none, .i .i64 none, .i .i64 none, .sl 4 5 none (some 0) none, .sl 5 13 none (some 0) none]]), .row 5 true false (some [[.i .i64 (some 0), .i .i64 (some 0), .i .i64 (some 0), .lst (some true) (some true) 0 (some []), .lst (some true) (some true) 0 (some [])]]), .row 1 true false none, .row 1 false false (some [[.sl 2 1 none (some 0) none]]), .row 5 true false none, .row 13 true false none] (Q0_l5_3_d G n) (altL [(1, .i .i64 none), (2, .i .i64 none), (3, .ptr 0 5 0 (some 1) (some 0)), (6, .ptr 1 5 0 (some 1) (some 0)), (40, .sl 2 1 none (some 0) none), (41, .i .i64 none), (42, .i .i64 none)] [.row 5 false false (some [[.i .i64 none, .i .i64 none, .i .i64 none, .sl 4 5 none (some 0) none, .lst (some true) (some true) 0 (some [])]]), .row 5 true false (some [[.i .i64 (some 0), .i .i64 (some 0), .i .i64 (some 0), .lst (some true) (some true) 0 (some []), .lst (some true) (some true) 0 (some [])]]), .row 1 true false none, .row 1 false false (some [[.sl 2 1 none (some 0) none]]), .row 5 true false none] (Q0_l5_2_d G n) (altL [(1, .i .i64 none), (2, .i .i64 none), (3, .ptr 0 5 0 (some 1) (some 0)), (6, .ptr 1 5 0 (some 1) (some 0)), (40, .lst (some true) (some true) 0 (some [])), (41, .i .i64 (some 0)), (42, .i .i64 (some 0))] [.row 5 false false (some [[.i .i64 none, .i .i64 none, .i .i64 none, .sl 3 5 none (some 0) none, .sl 4 13 none (some 0) none]]), .row 5 true false (some [[.i .i64 (some 0), .i .i64 (some 0), .i .i64 (some 0), .lst (some true) (some true) 0 (some []), .lst (some true) (some true) 0 (some [])]]), .row 1 true false (some [[.lst (some true) (some true) 0 (some [])]]), .row 5 true false none, .row 13 true false none] (Q0_l5_1_d G n) (Q0_l5_0_d G n)))
def Q0_c10 : Nat × List Nat × List Nat × MC := loopAt 10 m60
def Q0_l10_3_d (G : Q0_G) (n : Nat) : Go.Rv.LE := fun _ρ h K => decSt [(1, .i .i64 none), (2, .i .i64 none), (3, .ptr 0 5 0 (some 1) (some 0)), (6, .ptr 1 5 0 (some 1) (some 0)), (57, .i .i64 none), (58, .i .i64 none)] [.row 5 false false (some [[.i .i64 none, .i .i64 none, .i .i64 none, .sl 4 5 none (some 0) none, .sl 5 13 none (some 0) none]]), .row 5 true false (some [[.i .i64 (some 0), .i .i64 (some 0), .i .i64 (some 0), .lst (some true) (some true) 0 (some []), .lst (some true) (some true) 0 (some [])]]), .row 1 true false none, .row 1 false false (some [[.sl 2 1 none (some 0) none]]), .row 5 true false none, .row 13 true false none] h fun a b => Q0_l10_3 G n a.1 a.2.1 a.2.2.2.2.1 b.1.1.1 b.1.1.2.1 b.1.1.2.2.1 b.1.1.2.2.2.1.1 b.1.1.2.2.2.1.2.2 b.1.1.2.2.2.2.1.1 b.1.1.2.2.2.2.1.2.2 b.2.2.1 b.2.2.2.1.1.1.1 b.2.2.2.1.1.1.2.2 b.2.2.2.2.1 (fun w0 => K (.exit 2) ⟨[(3, .ptr 0 1 5 0 0), (6, .ptr 1 1 5 0 0)], [.row 5 false false [[.i .i64 b.1.1.1, .i .i64 b.1.1.2.1, .i .i64 b.1.1.2.2.1, .sl 4 b.1.1.2.2.2.1.1 5 0 b.1.1.2.2.2.1.2.2, .sl 5 b.1.1.2.2.2.2.1.1 13 0 b.1.1.2.2.2.2.1.2.2]], .row 5 true false [[.i .i64 0, .i .i64 0, .i .i64 0, .lst true true 0 [], .lst true true 0 []]], .row 1 true false b.2.2.1, .row 1 false false [[.sl 2 b.2.2.2.1.1.1.1 1 0 b.2.2.2.1.1.1.2.2]], .row 5 true false b.2.2.2.2.1, .row 13 true false w0]⟩) (a.2.2.2.2.2.1, b.2.2.2.2.2.1)
def Q0_l10_1_d (G : Q0_G) (n : Nat) : Go.Rv.LE := fun _ρ h K => decSt [(1, .i .i64 none), (2, .i .i64 none), (3, .ptr 0 5 0 (some 1) (some 0)), (6, .ptr 1 5 0 (some 1) (some 0)), (57, .i .i64 none), (58, .i .i64 none)] [.row 5 false false (some [[.i .i64 none, .i .i64 none, .i .i64 none, .sl 3 5 none (some 0) none, .sl 4 13 none (some 0) none]]), .row 5 true false (some [[.i .i64 (some 0), .i .i64 (some 0), .i .i64 (some 0), .lst (some true) (some true) 0 (some []), .lst (some true) (some true) 0 (some [])]]), .row 1 true false (some [[.lst (some true) (some true) 0 (some [])]]), .row 5 true false none, .row 13 true false none] h fun a b => Q0_l10_1 G n a.1 a.2.1 a.2.2.2.2.1 b.1.1.1 b.1.1.2.1 b.1.1.2.2.1 b.1.1.2.2.2.1.1 b.1.1.2.2.2.1.2.2 b.1.1.2.2.2.2.1.1 b.1.1.2.2.2.2.1.2.2 b.2.2.2.1 (fun w0 => K (.exit 2) ⟨[(3, .ptr 0 1 5 0 0), (6, .ptr 1 1 5 0 0)], [.row 5 false false [[.i .i64 b.1.1.1, .i .i64 b.1.1.2.1, .i .i64 b.1.1.2.2.1, .sl 3 b.1.1.2.2.2.1.1 5 0 b.1.1.2.2.2.1.2.2, .sl 4 b.1.1.2.2.2.2.1.1 13 0 b.1.1.2.2.2.2.1.2.2]], .row 5 true false [[.i .i64 0, .i .i64 0, .i .i64 0, .lst true true 0 [], .lst true true 0 []]], .row 1 true false [[.lst true true 0 []]], .row 5 true false b.2.2.2.1, .row 13 true false w0]⟩) (a.2.2.2.2.2.1, b.2.2.2.2.1)
def Q0_l10_2_d (G : Q0_G) (n : Nat) : Go.Rv.LE := fun _ρ h K => decSt [(1, .i .i64 none), (2, .i .i64 none), (3, .ptr 0 5 0 (some 1) (some 0)), (6, .ptr 1 5 0 (some 1) (some 0)), (57, .i .i64 (some 0)), (58, .i .i64 (some 0))] [.row 5 false false (some [[.i .i64 none, .i .i64 none, .i .i64 none, .sl 4 5 none (some 0) none, .lst (some true) (some true) 0 (some [])]]), .row 5 true false (some [[.i .i64 (some 0), .i .i64 (some 0), .i .i64 (some 0), .lst (some true) (some true) 0 (some []), .lst (some true) (some true) 0 (some [])]]), .row 1 true false none, .row 1 false false (some [[.sl 2 1 none (some 0) none]]), .row 5 true false none] h fun a b => Q0_l10_2 G n a.1 a.2.1 b.1.1.1 b.1.1.2.1 b.1.1.2.2.1 b.1.1.2.2.2.1.1 b.1.1.2.2.2.1.2.2 b.2.2.1 b.2.2.2.1.1.1.1 b.2.2.2.1.1.1.2.2 b.2.2.2.2.1 (K (.exit 2) ⟨[(3, .ptr 0 1 5 0 0), (6, .ptr 1 1 5 0 0)], [.row 5 false false [[.i .i64 b.1.1.1, .i .i64 b.1.1.2.1, .i .i64 b.1.1.2.2.1, .sl 4 b.1.1.2.2.2.1.1 5 0 b.1.1.2.2.2.1.2.2, .lst true true 0 []]], .row 5 true false [[.i .i64 0, .i .i64 0, .i .i64 0, .lst true true 0 [], .lst true true 0 []]], .row 1 true false b.2.2.1, .row 1 false false [[.sl 2 b.2.2.2.1.1.1.1 1 0 b.2.2.2.1.1.1.2.2]], .row 5 true false b.2.2.2.2.1]⟩) ()
def Q0_l10_0_d (G : Q0_G) (n : Nat) : Go.Rv.LE := fun _ρ h K => decSt [(1, .i .i64 none), (2, .i .i64 none), (3, .ptr 0 5 0 (some 1) (some 0)), (6, .ptr 1 5 0 (some 1) (some 0)), (57, .i .i64 (some 0)), (58, .i .i64 (some 0))] [.row 5 false false (some [[.i .i64 none, .i .i64 none, .i .i64 none, .sl 3 5 none (some 0) none, .lst (some true) (some true) 0 (some [])]]), .row 5 true false (some [[.i .i64 (some 0), .i .i64 (some 0), .i .i64 (some 0), .lst (some true) (some true) 0 (some []), .lst (some true) (some true) 0 (some [])]]), .row 1 true false (some [[.lst (some true) (some true) 0 (some [])]]), .row 5 true false none] h fun a b => Q0_l10_0 G n a.1 a.2.1 b.1.1.1 b.1.1.2.1 b.1.1.2.2.1 b.1.1.2.2.2.1.1 b.1.1.2.2.2.1.2.2 b.2.2.2.1 (K (.exit 2) ⟨[(3, .ptr 0 1 5 0 0), (6, .ptr 1 1 5 0 0)], [.row 5 false false [[.i .i64 b.1.1.1, .i .i64 b.1.1.2.1, .i .i64 b.1.1.2.2.1, .sl 3 b.1.1.2.2.2.1.1 5 0 b.1.1.2.2.2.1.2.2, .lst true true 0 []]], .row 5 true false [[.i .i64 0, .i .i64 0, .i .i64 0, .lst true true 0 [], .lst true true 0 []]], .row 1 true false [[.lst true true 0 []]], .row 5 true false b.2.2.2.1]⟩) ()
def Q0_d10 (G : Q0_G) (n : Nat) : Go.Rv.LE := altL [(1, .i .i64 none), (2, .i .i64 none), (3, .ptr 0 5 0 (some 1) (some 0)), (6, .ptr 1 5 0 (some 1) (some 0)), (57, .i .i64 none), (58, .i .i64 none)] [.row 5 false false (some [[.i .i64 none, .i .i64 none, .i .i64 none, .sl 4 5 none (some 0) none, .sl 5 13 none (some 0) none]]), .row 5 true false (some [[.i .i64 (some 0), .i .i64 (some 0), .i .i64 (some 0), .lst (some true) (some true) 0 (some []), .lst (some true) (some true) 0 (some [])]]), .row 1 true false none, .row 1 false false (some [[.sl 2 1 none (some 0) none]]), .row 5 true false none, .row 13 true false none] (Q0_l10_3_d G n) (altL [(1, .i .i64 none), (2, .i .i64 none), (3, .ptr 0 5 0 (some 1) (some 0)), (6, .ptr 1 5 0 (some 1) (some 0)), (57, .i .i64 none), (58, .i .i64 none)] [.row 5 false false (some [[.i .i64 none, .i .i64 none, .i .i64 none, .sl 3 5 none (some 0) none, .sl 4 13 none (some 0) none]]), .row 5 true false (some [[.i .i64 (some 0), .i .i64 (some 0), .i .i64 (some 0), .lst (some true) (some true) 0 (some []), .lst (some true) (some true) 0 (some [])]]), .row 1 true false (some [[.lst (some true) (some true) 0 (some [])]]), .row 5 true false none, .row 13 true false none] (Q0_l10_1_d G n) (altL [(1, .i .i64 none), (2, .i .i64 none), (3, .ptr 0 5 0 (some 1) (some 0)), (6, .ptr 1 5 0 (some 1) (some 0)), (57, .i .i64 (some 0)), (58, .i .i64 (some 0))] [.row 5 false false (some [[.i .i64 none, .i .i64 none, .i .i64 none, .sl 4 5 none (some 0) none, .lst (some true) (some true) 0 (some [])]]), .row 5 true false (some [[.i .i64 (some 0), .i .i64 (some 0), .i .i64 (some 0), .lst (some true) (some true) 0 (some []), .lst (some true) (some true) 0 (some [])]]), .row 1 true false none, .row 1 false false (some [[.sl 2 1 none (some 0) none]]), .row 5 true false none] (Q0_l10_2_d G n) (Q0_l10_0_d G n)))
def Q0_lp (G : Q0_G) (n : Nat) : LK := tabL [(5, Q0_d5 G n), (10, Q0_d10 G n)]
theorem Q0_l5_3_k (G : Q0_G) {ρ : Type} (n : Nat) (p0 p1 : Int) (p2 p3 : Nat) (p4 p5 : Int) (p6 p7 : Int) (p8 p9 : Nat) (p10 p11 : Nat) (p12 : Rows) (p13 p14 : Nat) (p16 : Rows) (K : Ex → St → Option ρ) (N : St → Option ρ) : ∀ v, roundC (Q0_S G) Q0_hs (Q0_lp G n) Q0_c5 6 N K (Q0_l5_3_enc p0 p1 p2 p3 p4 p5 p6 p7 p8 p9 p10 p11 p12 p13 p14 p16 v) = Q0_l5_3_s G n p0 p1 p2 p3 p4 p5 p6 p7 p8 p9 p10 p11 p12 p13 p14 p16 (fun w0 => K (.exit 0) ⟨[(1, .i .i64 p0), (2, .i .i64 p1), (3, .ptr 0 1 5 0 0), (6, .ptr 1 1 5 0 0)], [.row 5 false false [[.i .i64 p5, .i .i64 p6, .i .i64 p7, .sl 4 p8 5 0 p9, .sl 5 p10 13 0 p11]], .row 5 true false [[.i .i64 0, .i .i64 0, .i .i64 0, .lst true true 0 [], .lst true true 0 []]], .row 1 true false p12, .row 1 false false [[.sl 2 p13 1 0 p14]], .row 5 true false w0, .row 13 true false p16]⟩) (fun v => N (Q0_l5_3_enc p0 p1 p2 p3 p4 p5 p6 p7 p8 p9 p10 p11 p12 p13 p14 p16 v)) v
 | v => by kernel_rfl
theorem Q0_l5_3_dok (n : Nat) : LE.OK (Q0_l5_3_d (Q0_g n) n) (L tab) Q0_c5 := LE.shp (fun _ _ _ => rfl) fun ρ K y a b e => LE.rounds (Q0_Sok n) (LK.of (l := []) (by kernel_rfl) ((fun _ h => nomatch h))) (Q0_l5_3_k (Q0_g n) n _ _ _ _ _ _ _ _ _ _ _ _ _ _ _ _ K) (by kernel_rfl) (by kernel_rfl) e
theorem Q0_l5_2_k (G : Q0_G) {ρ : Type} (n : Nat) (p0 p1 : Int) (p2 p3 : Nat) (p4 p5 : Int) (p6 p7 : Int) (p8 p9 : Nat) (p10 : Rows) (p11 p12 : Nat) (K : Ex → St → Option ρ) (N : St → Option ρ) : ∀ v, roundC (Q0_S G) Q0_hs (Q0_lp G n) Q0_c5 5 N K (Q0_l5_2_enc p0 p1 p2 p3 p4 p5 p6 p7 p8 p9 p10 p11 p12 v) = Q0_l5_2_s G n p0 p1 p2 p3 p4 p5 p6 p7 p8 p9 p10 p11 p12 (fun w0 => K (.exit 0) ⟨[(1, .i .i64 p0), (2, .i .i64 p1), (3, .ptr 0 1 5 0 0), (6, .ptr 1 1 5 0 0)], [.row 5 false false [[.i .i64 p5, .i .i64 p6, .i .i64 p7, .sl 4 p8 5 0 p9, .lst true true 0 []]], .row 5 true false [[.i .i64 0, .i .i64 0, .i .i64 0, .lst true true 0 [], .lst true true 0 []]], .row 1 true false p10, .row 1 false false [[.sl 2 p11 1 0 p12]], .row 5 true false w0]⟩) (fun v => N (Q0_l5_2_enc p0 p1 p2 p3 p4 p5 p6 p7 p8 p9 p10 p11 p12 v)) v
 | v => by kernel_rfl
theorem Q0_l5_2_dok (n : Nat) : LE.OK (Q0_l5_2_d (Q0_g n) n) (L tab) Q0_c5 := LE.shp (fun _ _ _ => rfl) fun ρ K y a b e => LE.rounds (Q0_Sok n) (LK.of (l := []) (by kernel_rfl) ((fun _ h => nomatch h))) (Q0_l5_2_k (Q0_g n) n _ _ _ _ _ _ _ _ _ _ _ _ _ K) (by kernel_rfl) (by kernel_rfl) e
theorem Q0_l5_1_k (G : Q0_G) {ρ : Type} (n : Nat) (p0 p1 : Int) (p2 p3 p4 : Int) (p5 p6 : Nat) (p7 p8 : Nat) (p9 p10 : Rows) (K : Ex → St → Option ρ) (N : St → Option ρ) : ∀ v, roundC (Q0_S G) Q0_hs (Q0_lp G n) Q0_c5 5 N K (Q0_l5_1_enc p0 p1 p2 p3 p4 p5 p6 p7 p8 p9 p10 v) = Q0_l5_1_s G n p0 p1 p2 p3 p4 p5 p6 p7 p8 p9 p10 (K (.exit 0) ⟨[(1, .i .i64 p0), (2, .i .i64 p1), (3, .ptr 0 1 5 0 0), (6, .ptr 1 1 5 0 0)], [.row 5 false false [[.i .i64 p2, .i .i64 p3, .i .i64 p4, .sl 3 p5 5 0 p6, .sl 4 p7 13 0 p8]], .row 5 true false [[.i .i64 0, .i .i64 0, .i .i64 0, .lst true true 0 [], .lst true true 0 []]], .row 1 true false [[.lst true true 0 []]], .row 5 true false p9, .row 13 true false p10]⟩) (fun v => N (Q0_l5_1_enc p0 p1 p2 p3 p4 p5 p6 p7 p8 p9 p10 v)) v
 | v => by kernel_rfl
theorem Q0_l5_1_dok (n : Nat) : LE.OK (Q0_l5_1_d (Q0_g n) n) (L tab) Q0_c5 := LE.shp (fun _ _ _ => rfl) fun ρ K y a b e => LE.rounds (Q0_Sok n) (LK.of (l := []) (by kernel_rfl) ((fun _ h => nomatch h))) (Q0_l5_1_k (Q0_g n) n _ _ _ _ _ _ _ _ _ _ _ K) (by kernel_rfl) (by kernel_rfl) e
theorem Q0_l5_0_k (G : Q0_G) {ρ : Type} (n : Nat) (p0 p1 : Int) (p2 p3 p4 : Int) (p5 p6 : Nat) (p7 : Rows) (K : Ex → St → Option ρ) (N : St → Option ρ) : ∀ v, roundC (Q0_S G) Q0_hs (Q0_lp G n) Q0_c5 4 N K (Q0_l5_0_enc p0 p1 p2 p3 p4 p5 p6 p7 v) = Q0_l5_0_s G n p0 p1 p2 p3 p4 p5 p6 p7 (K (.exit 0) ⟨[(1, .i .i64 p0), (2, .i .i64 p1), (3, .ptr 0 1 5 0 0), (6, .ptr 1 1 5 0 0)], [.row 5 false false [[.i .i64 p2, .i .i64 p3, .i .i64 p4, .sl 3 p5 5 0 p6, .lst true true 0 []]], .row 5 true false [[.i .i64 0, .i .i64 0, .i .i64 0, .lst true true 0 [], .lst true true 0 []]], .row 1 true false [[.lst true true 0 []]], .row 5 true false p7]⟩) (fun v => N (Q0_l5_0_enc p0 p1 p2 p3 p4 p5 p6 p7 v)) v
 | v => by kernel_rfl
theorem Q0_l5_0_dok (n : Nat) : LE.OK (Q0_l5_0_d (Q0_g n) n) (L tab) Q0_c5 := LE.shp (fun _ _ _ => rfl) fun ρ K y a b e => LE.rounds (Q0_Sok n) (LK.of (l := []) (by kernel_rfl) ((fun _ h => nomatch h))) (Q0_l5_0_k (Q0_g n) n _ _ _ _ _ _ _ _ K) (by kernel_rfl) (by kernel_rfl) e
theorem Q0_d5_ok (n : Nat) : LE.OK (Q0_d5 (Q0_g n) n) (L tab) Q0_c5 := altL_ok (Q0_l5_3_dok n) (altL_ok (Q0_l5_2_dok n) (altL_ok (Q0_l5_1_dok n) (Q0_l5_0_dok n)))
theorem Q0_l10_3_k (G : Q0_G) {ρ : Type} (n : Nat) (p0 p1 : Int) (p2 p3 : Int) (p4 p5 : Int) (p6 p7 : Nat) (p8 p9 : Nat) (p10 : Rows) (p11 p12 : Nat) (p13 : Rows) (K : Ex → St → Option ρ) (N : St → Option ρ) : ∀ v, roundC (Q0_S G) Q0_hs (Q0_lp G n) Q0_c10 6 N K (Q0_l10_3_enc p0 p1 p2 p3 p4 p5 p6 p7 p8 p9 p10 p11 p12 p13 v) = Q0_l10_3_s G n p0 p1 p2 p3 p4 p5 p6 p7 p8 p9 p10 p11 p12 p13 (fun w0 => K (.exit 2) ⟨[(3, .ptr 0 1 5 0 0), (6, .ptr 1 1 5 0 0)], [.row 5 false false [[.i .i64 p3, .i .i64 p4, .i .i64 p5, .sl 4 p6 5 0 p7, .sl 5 p8 13 0 p9]], .row 5 true false [[.i .i64 0, .i .i64 0, .i .i64 0, .lst true true 0 [], .lst true true 0 []]], .row 1 true false p10, .row 1 false false [[.sl 2 p11 1 0 p12]], .row 5 true false p13, .row 13 true false w0]⟩) (fun v => N (Q0_l10_3_enc p0 p1 p2 p3 p4 p5 p6 p7 p8 p9 p10 p11 p12 p13 v)) v
 | v => by kernel_rfl
theorem Q0_l10_3_dok (n : Nat) : LE.OK (Q0_l10_3_d (Q0_g n) n) (L tab) Q0_c10 := LE.shp (fun _ _ _ => rfl) fun ρ K y a b e => LE.rounds (Q0_Sok n) (LK.of (l := []) (by kernel_rfl) ((fun _ h => nomatch h))) (Q0_l10_3_k (Q0_g n) n _ _ _ _ _ _ _ _ _ _ _ _ _ _ K) (by kernel_rfl) (by kernel_rfl) e
theorem Q0_l10_1_k (G : Q0_G) {ρ : Type} (n : Nat) (p0 p1 : Int) (p2 p3 : Int) (p4 p5 : Int) (p6 p7 : Nat) (p8 p9 : Nat) (p10 : Rows) (K : Ex → St → Option ρ) (N : St → Option ρ) : ∀ v, roundC (Q0_S G) Q0_hs (Q0_lp G n) Q0_c10 5 N K (Q0_l10_1_enc p0 p1 p2 p3 p4 p5 p6 p7 p8 p9 p10 v) = Q0_l10_1_s G n p0 p1 p2 p3 p4 p5 p6 p7 p8 p9 p10 (fun w0 => K (.exit 2) ⟨[(3, .ptr 0 1 5 0 0), (6, .ptr 1 1 5 0 0)], [.row 5 false false [[.i .i64 p3, .i .i64 p4, .i .i64 p5, .sl 3 p6 5 0 p7, .sl 4 p8 13 0 p9]], .row 5 true false [[.i .i64 0, .i .i64 0, .i .i64 0, .lst true true 0 [], .lst true true 0 []]], .row 1 true false [[.lst true true 0 []]], .row 5 true false p10, .row 13 true false w0]⟩) (fun v => N (Q0_l10_1_enc p0 p1 p2 p3 p4 p5 p6 p7 p8 p9 p10 v)) v
 | v => by kernel_rfl
theorem Q0_l10_1_dok (n : Nat) : LE.OK (Q0_l10_1_d (Q0_g n) n) (L tab) Q0_c10 := LE.shp (fun _ _ _ => rfl) fun ρ K y a b e => LE.rounds (Q0_Sok n) (LK.of (l := []) (by kernel_rfl) ((fun _ h => nomatch h))) (Q0_l10_1_k (Q0_g n) n _ _ _ _ _ _ _ _ _ _ _ K) (by kernel_rfl) (by kernel_rfl) e
theorem Q0_l10_2_k (G : Q0_G) {ρ : Type} (n : Nat) (p0 p1 : Int) (p2 p3 p4 : Int) (p5 p6 : Nat) (p7 : Rows) (p8 p9 : Nat) (p10 : Rows) (K : Ex → St → Option ρ) (N : St → Option ρ) : ∀ v, roundC (Q0_S G) Q0_hs (Q0_lp G n) Q0_c10 5 N K (Q0_l10_2_enc p0 p1 p2 p3 p4 p5 p6 p7 p8 p9 p10 v) = Q0_l10_2_s G n p0 p1 p2 p3 p4 p5 p6 p7 p8 p9 p10 (K (.exit 2) ⟨[(3, .ptr 0 1 5 0 0), (6, .ptr 1 1 5 0 0)], [.row 5 false false [[.i .i64 p2, .i .i64 p3, .i .i64 p4, .sl 4 p5 5 0 p6, .lst true true 0 []]], .row 5 true false [[.i .i64 0, .i .i64 0, .i .i64 0, .lst true true 0 [], .lst true true 0 []]], .row 1 true false p7, .row 1 false false [[.sl 2 p8 1 0 p9]], .row 5 true false p10]⟩) (fun v => N (Q0_l10_2_enc p0 p1 p2 p3 p4 p5 p6 p7 p8 p9 p10 v)) v
 | v => by kernel_rfl
theorem Q0_l10_2_dok (n : Nat) : LE.OK (Q0_l10_2_d (Q0_g n) n) (L tab) Q0_c10 := LE.shp (fun _ _ _ => rfl) fun ρ K y a b e => LE.rounds (Q0_Sok n) (LK.of (l := []) (by kernel_rfl) ((fun _ h => nomatch h))) (Q0_l10_2_k (Q0_g n) n _ _ _ _ _ _ _ _ _ _ _ K) (by kernel_rfl) (by kernel_rfl) e
theorem Q0_l10_0_k (G : Q0_G) {ρ : Type} (n : Nat) (p0 p1 : Int) (p2 p3 p4 : Int) (p5 p6 : Nat) (p7 : Rows) (K : Ex → St → Option ρ) (N : St → Option ρ) : ∀ v, roundC (Q0_S G) Q0_hs (Q0_lp G n) Q0_c10 4 N K (Q0_l10_0_enc p0 p1 p2 p3 p4 p5 p6 p7 v) = Q0_l10_0_s G n p0 p1 p2 p3 p4 p5 p6 p7 (K (.exit 2) ⟨[(3, .ptr 0 1 5 0 0), (6, .ptr 1 1 5 0 0)], [.row 5 false false [[.i .i64 p2, .i .i64 p3, .i .i64 p4, .sl 3 p5 5 0 p6, .lst true true 0 []]], .row 5 true false [[.i .i64 0, .i .i64 0, .i .i64 0, .lst true true 0 [], .lst true true 0 []]], .row 1 true false [[.lst true true 0 []]], .row 5 true false p7]⟩) (fun v => N (Q0_l10_0_enc p0 p1 p2 p3 p4 p5 p6 p7 v)) v
 | v => by kernel_rfl
theorem Q0_l10_0_dok (n : Nat) : LE.OK (Q0_l10_0_d (Q0_g n) n) (L tab) Q0_c10 := LE.shp (fun _ _ _ => rfl) fun ρ K y a b e => LE.rounds (Q0_Sok n) (LK.of (l := []) (by kernel_rfl) ((fun _ h => nomatch h))) (Q0_l10_0_k (Q0_g n) n _ _ _ _ _ _ _ _ K) (by kernel_rfl) (by kernel_rfl) e
theorem Q0_d10_ok (n : Nat) : LE.OK (Q0_d10 (Q0_g n) n) (L tab) Q0_c10 := altL_ok (Q0_l10_3_dok n) (altL_ok (Q0_l10_1_dok n) (altL_ok (Q0_l10_2_dok n) (Q0_l10_0_dok n)))
theorem Q0_k (G : Q0_G) {ρ : Type} (n : Nat) (a0 a1 a2 : Int) (a3 a4 : Bool) (a5 : Rows) (a6 a7 : Bool) (a8 : Rows) (a9 a10 : Int) (K : Res → Option ρ) : runC (Q0_S G) Q0_hs (Q0_lp G n) m60 [.agg [.i .i64 a0, .i .i64 a1, .i .i64 a2, .lst a3 a4 5 a5, .lst a6 a7 13 a8], .i .i64 a9, .i .i64 a10] K = Q0_s G n a0 a1 a2 a3 a4 a5 a6 a7 a8 a9 a10 (fun w0 w1 w2 => K ⟨.agg [.i .i64 a0, .i .i64 a1, .i .i64 a2, .sl 0 w0 5 0 w1, .lst true true 0 []], [.row 5 true false w2], []⟩) (fun w0 w1 w2 w3 w4 w5 => K ⟨.agg [.i .i64 a0, .i .i64 a1, .i .i64 a2, .sl 0 w0 5 0 w1, .sl 1 w2 13 0 w3], [.row 5 true false w4, .row 13 true false w5], []⟩) := by kernel_rfl
theorem Q0_ok (n : Nat) : EK.OK (Q0_e n) 60 (L tab) := EK.shp (fun _ _ _ => rfl) fun ρ K y c e => EK.run (Q0_Sok n) (by kernel_rfl) (MF.LKOK.of (LK.of (l := [Q0_c5, Q0_c10]) (by kernel_rfl) (List.forall_mem_cons.2 ⟨LE.at (e := Q0_d5 (Q0_g n) n) (by kernel_rfl) (Q0_d5_ok n), List.forall_mem_cons.2 ⟨LE.at (e := Q0_d10 (Q0_g n) n) (by kernel_rfl) (Q0_d10_ok n), (fun _ h => nomatch h)⟩⟩))) (Q0_k (Q0_g n) n _ _ _ _ _ _ _ _ _ _ _ K) (by kernel_rfl) e
end Go.Rv
namespace Go.Rv
abbrev Qo_T : Type 1 := (ρ : Type) → Int → Int → Int → Bool → Bool → Rows → Bool → Bool → Rows → Int → Int → Bool → Bool → Rows → Bool → Bool → Rows → Int → Int → Int → (Bool → Bool → Rows → Bool → Bool → Rows → Int → Option ρ) → (Nat → Nat → Rows → Option ρ) → (Nat → Nat → Nat → Nat → Rows → Rows → Option ρ) → Option ρ
def Qo_E (G : Qo_T) : EK := fun ρ args K => decL [.agg [.i .i64 none, .i .i64 none, .i .i64 none, .lst none none 5 none, .lst none none 13 none], .i .i64 none, .agg [.i .i64 none, .lst none none 1 none, .lst none none 1 none, .i .i64 none, .i .i64 none, .i .u64 none]] args fun c => G ρ c.1.1 c.1.2.1 c.1.2.2.1 c.1.2.2.2.1.1 c.1.2.2.2.1.2.1 c.1.2.2.2.1.2.2 c.1.2.2.2.2.1.1 c.1.2.2.2.2.1.2.1 c.1.2.2.2.2.1.2.2 c.2.1 c.2.2.1.1 c.2.2.1.2.1.1 c.2.2.1.2.1.2.1 c.2.2.1.2.1.2.2 c.2.2.1.2.2.1.1 c.2.2.1.2.2.1.2.1 c.2.2.1.2.2.1.2.2 c.2.2.1.2.2.2.1 c.2.2.1.2.2.2.2.1 c.2.2.1.2.2.2.2.2.1 (fun w0 w1 w2 w3 w4 w5 w6 => K ⟨.tup [.agg [.i .i64 c.1.1, .i .i64 c.1.2.1, .i .i64 c.1.2.2.1, .lst w0 w1 5 w2, .lst w3 w4 13 w5], .i .i64 w6], [], []⟩) (fun w0 w1 w2 => K ⟨.tup [.agg [.i .i64 c.1.1, .i .i64 c.1.2.1, .i .i64 c.1.2.2.1, .sl 0 w0 5 0 w1, .lst true true 0 []], .i .i64 0], [.row 5 true false w2], []⟩) (fun w0 w1 w2 w3 w4 w5 => K ⟨.tup [.agg [.i .i64 c.1.1, .i .i64 c.1.2.1, .i .i64 c.1.2.2.1, .sl 0 w0 5 0 w1, .sl 1 w2 13 0 w3], .i .i64 0], [.row 5 true false w4, .row 13 true false w5], []⟩)
structure Qo_G where
 mk ::
 Qx : Qx_T
 Qt : Qt_T
 Q0b : Q0b_T
 Q04 : Q04_T
 Qk : Qk_T
 Qw : Qw_T
 Qi : Qi_T
 Q0 : Q0_T
def Qo_s (G : Qo_G) {ρ : Type} (_n : Nat) (a0 a1 a2 : Int) (a3 a4 : Bool) (a5 : Rows) (a6 a7 : Bool) (a8 : Rows) (a9 a10 : Int) (a11 a12 : Bool) (a13 : Rows) (a14 a15 : Bool) (a16 : Rows) (a17 a18 a19 : Int) (k0 : (Bool → Bool → Rows → Bool → Bool → Rows → Int → Option ρ)) (k1 : (Nat → Nat → Rows → Option ρ)) (k2 : (Nat → Nat → Nat → Nat → Rows → Rows → Option ρ)) : Option ρ :=
 G.Qx ρ a10 a11 a12 a13 a14 a15 a16 a17 a18 a19 (fun w0_0 =>
 bif w0_0 then
 bif ((a10 : Int) != 2) then
 bif ((a10 : Int) != 3) then
 bif ((a10 : Int) != 4) then
 k0 a3 a4 a5 a6 a7 a8 1
 else G.Qt ρ a0 a1 a2 a3 a4 a5 a6 a7 a8 a9 a11 a12 a13 (fun w1_0 w1_1 w1_2 w1_3 w1_4 w1_5 =>
 bif ((w1_5 : Int) != 0) then
 k0 a3 a4 a5 a6 a7 a8 w1_5
 else bif ((a10 : Int) != 4) then
 G.Q0b ρ w1_1 w1_2 w1_3 w1_4 a17 (fun w2_0 w2_1 w2_2 w2_3 =>
 bif ((a10 : Int) == 3) then
 G.Q04 ρ w2_0 w2_1 w2_2 w2_3 a18 (fun w3_0 w3_1 w3_2 w3_3 w3_4 =>
 bif ((w3_4 : Int) != 0) then
 k0 a3 a4 a5 a6 a7 a8 w3_4
 else G.Qk ρ a0 a1 a2 a3 a4 a5 a6 a7 a8 a9 a14 a15 a16 (fun w4_0 w4_1 =>
 bif ((w4_1 : Int) != 0) then
 k0 a3 a4 a5 a6 a7 a8 w4_1
 else bif ((a10 : Int) != 4) then
 G.Qw ρ a0 a1 a2 a3 a4 a5 a6 a7 a8 w1_0 w4_0 w3_0 w3_1 w3_2 w3_3 (fun w5_0 w5_1 w5_2 w5_3 w5_4 w5_5 w5_6 =>
 k0 w5_0 w5_1 w5_2 w5_3 w5_4 w5_5 w5_6)
 else G.Qi ρ a0 a1 a2 a3 a4 a5 a6 a7 a8 w3_0 w3_1 w3_2 w3_3 w4_0 (fun w6_0 =>
 bif w6_0 then
 k0 a3 a4 a5 a6 a7 a8 1
 else G.Q0 ρ a0 a1 a2 a3 a4 a5 a6 a7 a8 w1_0 w4_0 (fun w7_0 w7_1 w7_2 =>
 k1 w7_0 w7_1 w7_2) (fun w8_0 w8_1 w8_2 w8_3 w8_4 w8_5 =>
 k2 w8_0 w8_1 w8_2 w8_3 w8_4 w8_5))))
 else G.Qk ρ a0 a1 a2 a3 a4 a5 a6 a7 a8 a9 a14 a15 a16 (fun w9_0 w9_1 =>
 bif ((w9_1 : Int) != 0) then
 k0 a3 a4 a5 a6 a7 a8 w9_1
 else bif ((a10 : Int) != 4) then
 G.Qw ρ a0 a1 a2 a3 a4 a5 a6 a7 a8 w1_0 w9_0 w2_0 w2_1 w2_2 w2_3 (fun w10_0 w10_1 w10_2 w10_3 w10_4 w10_5 w10_6 =>
 k0 w10_0 w10_1 w10_2 w10_3 w10_4 w10_5 w10_6)
 else G.Qi ρ a0 a1 a2 a3 a4 a5 a6 a7 a8 w2_0 w2_1 w2_2 w2_3 w9_0 (fun w11_0 =>
 bif w11_0 then
 k0 a3 a4 a5 a6 a7 a8 1
 else G.Q0 ρ a0 a1 a2 a3 a4 a5 a6 a7 a8 w1_0 w9_0 (fun w12_0 w12_1 w12_2 =>
 k1 w12_0 w12_1 w12_2) (fun w13_0 w13_1 w13_2 w13_3 w13_4 w13_5 =>
 k2 w13_0 w13_1 w13_2 w13_3 w13_4 w13_5))))
 else bif ((a10 : Int) == 3) then
 G.Q04 ρ w1_1 w1_2 w1_3 w1_4 a18 (fun w14_0 w14_1 w14_2 w14_3 w14_4 =>
 bif ((w14_4 : Int) != 0) then
 k0 a3 a4 a5 a6 a7 a8 w14_4
 else G.Qk ρ a0 a1 a2 a3 a4 a5 a6 a7 a8 a9 a14 a15 a16 (fun w15_0 w15_1 =>
 bif ((w15_1 : Int) != 0) then
 k0 a3 a4 a5 a6 a7 a8 w15_1
 else bif ((a10 : Int) != 4) then
 G.Qw ρ a0 a1 a2 a3 a4 a5 a6 a7 a8 w1_0 w15_0 w14_0 w14_1 w14_2 w14_3 (fun w16_0 w16_1 w16_2 w16_3 w16_4 w16_5 w16_6 =>
 k0 w16_0 w16_1 w16_2 w16_3 w16_4 w16_5 w16_6)
 else G.Qi ρ a0 a1 a2 a3 a4 a5 a6 a7 a8 w14_0 w14_1 w14_2 w14_3 w15_0 (fun w17_0 =>
 bif w17_0 then
 k0 a3 a4 a5 a6 a7 a8 1
 else G.Q0 ρ a0 a1 a2 a3 a4 a5 a6 a7 a8 w1_0 w15_0 (fun w18_0 w18_1 w18_2 =>
 k1 w18_0 w18_1 w18_2) (fun w19_0 w19_1 w19_2 w19_3 w19_4 w19_5 =>
 k2 w19_0 w19_1 w19_2 w19_3 w19_4 w19_5))))
 else G.Qk ρ a0 a1 a2 a3 a4 a5 a6 a7 a8 a9 a14 a15 a16 (fun w20_0 w20_1 =>
 bif ((w20_1 : Int) != 0) then
 k0 a3 a4 a5 a6 a7 a8 w20_1
 else bif ((a10 : Int) != 4) then
 G.Qw ρ a0 a1 a2 a3 a4 a5 a6 a7 a8 w1_0 w20_0 w1_1 w1_2 w1_3 w1_4 (fun w21_0 w21_1 w21_2 w21_3 w21_4 w21_5 w21_6 =>
 k0 w21_0 w21_1 w21_2 w21_3 w21_4 w21_5 w21_6)
 else G.Qi ρ a0 a1 a2 a3 a4 a5 a6 a7 a8 w1_1 w1_2 w1_3 w1_4 w20_0 (fun w22_0 =>
 bif w22_0 then
 k0 a3 a4 a5 a6 a7 a8 1
 else G.Q0 ρ a0 a1 a2 a3 a4 a5 a6 a7 a8 w1_0 w20_0 (fun w23_0 w23_1 w23_2 =>
 k1 w23_0 w23_1 w23_2) (fun w24_0 w24_1 w24_2 w24_3 w24_4 w24_5 =>
 k2 w24_0 w24_1 w24_2 w24_3 w24_4 w24_5))))
 else G.Qt ρ a0 a1 a2 a3 a4 a5 a6 a7 a8 a9 a11 a12 a13 (fun w25_0 w25_1 w25_2 w25_3 w25_4 w25_5 =>
 bif ((w25_5 : Int) != 0) then
 k0 a3 a4 a5 a6 a7 a8 w25_5
 else bif ((a10 : Int) != 4) then
 G.Q0b ρ w25_1 w25_2 w25_3 w25_4 a17 (fun w26_0 w26_1 w26_2 w26_3 =>
 bif ((a10 : Int) == 3) then
 G.Q04 ρ w26_0 w26_1 w26_2 w26_3 a18 (fun w27_0 w27_1 w27_2 w27_3 w27_4 =>
 bif ((w27_4 : Int) != 0) then
 k0 a3 a4 a5 a6 a7 a8 w27_4
 else G.Qk ρ a0 a1 a2 a3 a4 a5 a6 a7 a8 a9 a14 a15 a16 (fun w28_0 w28_1 =>
 bif ((w28_1 : Int) != 0) then
 k0 a3 a4 a5 a6 a7 a8 w28_1
 else bif ((a10 : Int) != 4) then
 G.Qw ρ a0 a1 a2 a3 a4 a5 a6 a7 a8 w25_0 w28_0 w27_0 w27_1 w27_2 w27_3 (fun w29_0 w29_1 w29_2 w29_3 w29_4 w29_5 w29_6 =>
 k0 w29_0 w29_1 w29_2 w29_3 w29_4 w29_5 w29_6)
 else G.Qi ρ a0 a1 a2 a3 a4 a5 a6 a7 a8 w27_0 w27_1 w27_2 w27_3 w28_0 (fun w30_0 =>
 bif w30_0 then
 k0 a3 a4 a5 a6 a7 a8 1
 else G.Q0 ρ a0 a1 a2 a3 a4 a5 a6 a7 a8 w25_0 w28_0 (fun w31_0 w31_1 w31_2 =>
 k1 w31_0 w31_1 w31_2) (fun w32_0 w32_1 w32_2 w32_3 w32_4 w32_5 =>
 k2 w32_0 w32_1 w32_2 w32_3 w32_4 w32_5))))
 else G.Qk ρ a0 a1 a2 a3 a4 a5 a6 a7 a8 a9 a14 a15 a16 (fun w33_0 w33_1 =>
 bif ((w33_1 : Int) != 0) then
 k0 a3 a4 a5 a6 a7 a8 w33_1
 else bif ((a10 : Int) != 4) then
 G.Qw ρ a0 a1 a2 a3 a4 a5 a6 a7 a8 w25_0 w33_0 w26_0 w26_1 w26_2 w26_3 (fun w34_0 w34_1 w34_2 w34_3 w34_4 w34_5 w34_6 =>
 k0 w34_0 w34_1 w34_2 w34_3 w34_4 w34_5 w34_6)
 else G.Qi ρ a0 a1 a2 a3 a4 a5 a6 a7 a8 w26_0 w26_1 w26_2 w26_3 w33_0 (fun w35_0 =>
 bif w35_0 then
 k0 a3 a4 a5 a6 a7 a8 1
 else G.Q0 ρ a0 a1 a2 a3 a4 a5 a6 a7 a8 w25_0 w33_0 (fun w36_0 w36_1 w36_2 =>
 k1 w36_0 w36_1 w36_2) (fun w37_0 w37_1 w37_2 w37_3 w37_4 w37_5 =>
 k2 w37_0 w37_1 w37_2 w37_3 w37_4 w37_5))))
 else bif ((a10 : Int) == 3) then
 G.Q04 ρ w25_1 w25_2 w25_3 w25_4 a18 (fun w38_0 w38_1 w38_2 w38_3 w38_4 =>
 bif ((w38_4 : Int) != 0) then
 k0 a3 a4 a5 a6 a7 a8 w38_4
 else G.Qk ρ a0 a1 a2 a3 a4 a5 a6 a7 a8 a9 a14 a15 a16 (fun w39_0 w39_1 =>
 bif ((w39_1 : Int) != 0) then
 k0 a3 a4 a5 a6 a7 a8 w39_1
 else bif ((a10 : Int) != 4) then
 G.Qw ρ a0 a1 a2 a3 a4 a5 a6 a7 a8 w25_0 w39_0 w38_0 w38_1 w38_2 w38_3 (fun w40_0 w40_1 w40_2 w40_3 w40_4 w40_5 w40_6 =>
 k0 w40_0 w40_1 w40_2 w40_3 w40_4 w40_5 w40_6)
 else G.Qi ρ a0 a1 a2 a3 a4 a5 a6 a7 a8 w38_0 w38_1 w38_2 w38_3 w39_0 (fun w41_0 =>
 bif w41_0 then
 k0 a3 a4 a5 a6 a7 a8 1
 else G.Q0 ρ a0 a1 a2 a3 a4 a5 a6 a7 a8 w25_0 w39_0 (fun w42_0 w42_1 w42_2 =>
 k1 w42_0 w42_1 w42_2) (fun w43_0 w43_1 w43_2 w43_3 w43_4 w43_5 =>
 k2 w43_0 w43_1 w43_2 w43_3 w43_4 w43_5))))
 else G.Qk ρ a0 a1 a2 a3 a4 a5 a6 a7 a8 a9 a14 a15 a16 (fun w44_0 w44_1 =>
 bif ((w44_1 : Int) != 0) then
 k0 a3 a4 a5 a6 a7 a8 w44_1
 else bif ((a10 : Int) != 4) then
 G.Qw ρ a0 a1 a2 a3 a4 a5 a6 a7 a8 w25_0 w44_0 w25_1 w25_2 w25_3 w25_4 (fun w45_0 w45_1 w45_2 w45_3 w45_4 w45_5 w45_6 =>
 k0 w45_0 w45_1 w45_2 w45_3 w45_4 w45_5 w45_6)
 else G.Qi ρ a0 a1 a2 a3 a4 a5 a6 a7 a8 w25_1 w25_2 w25_3 w25_4 w44_0 (fun w46_0 =>
 bif w46_0 then
 k0 a3 a4 a5 a6 a7 a8 1
 else G.Q0 ρ a0 a1 a2 a3 a4 a5 a6 a7 a8 w25_0 w44_0 (fun w47_0 w47_1 w47_2 =>
 k1 w47_0 w47_1 w47_2) (fun w48_0 w48_1 w48_2 w48_3 w48_4 w48_5 =>
 k2 w48_0 w48_1 w48_2 w48_3 w48_4 w48_5))))
 else G.Qt ρ a0 a1 a2 a3 a4 a5 a6 a7 a8 a9 a11 a12 a13 (fun w49_0 w49_1 w49_2 w49_3 w49_4 w49_5 =>
 bif ((w49_5 : Int) != 0) then
 k0 a3 a4 a5 a6 a7 a8 w49_5
 else bif ((a10 : Int) != 4) then
 G.Q0b ρ w49_1 w49_2 w49_3 w49_4 a17 (fun w50_0 w50_1 w50_2 w50_3 =>
 bif ((a10 : Int) == 3) then
 G.Q04 ρ w50_0 w50_1 w50_2 w50_3 a18 (fun w51_0 w51_1 w51_2 w51_3 w51_4 =>
 bif ((w51_4 : Int) != 0) then
 k0 a3 a4 a5 a6 a7 a8 w51_4
 else G.Qk ρ a0 a1 a2 a3 a4 a5 a6 a7 a8 a9 a14 a15 a16 (fun w52_0 w52_1 =>
 bif ((w52_1 : Int) != 0) then
 k0 a3 a4 a5 a6 a7 a8 w52_1
 else bif ((a10 : Int) != 4) then
 G.Qw ρ a0 a1 a2 a3 a4 a5 a6 a7 a8 w49_0 w52_0 w51_0 w51_1 w51_2 w51_3 (fun w53_0 w53_1 w53_2 w53_3 w53_4 w53_5 w53_6 =>
 k0 w53_0 w53_1 w53_2 w53_3 w53_4 w53_5 w53_6)
 else G.Qi ρ a0 a1 a2 a3 a4 a5 a6 a7 a8 w51_0 w51_1 w51_2 w51_3 w52_0 (fun w54_0 =>
 bif w54_0 then
 k0 a3 a4 a5 a6 a7 a8 1
 else G.Q0 ρ a0 a1 a2 a3 a4 a5 a6 a7 a8 w49_0 w52_0 (fun w55_0 w55_1 w55_2 =>
 k1 w55_0 w55_1 w55_2) (fun w56_0 w56_1 w56_2 w56_3 w56_4 w56_5 =>
 k2 w56_0 w56_1 w56_2 w56_3 w56_4 w56_5))))
 else G.Qk ρ a0 a1 a2 a3 a4 a5 a6 a7 a8 a9 a14 a15 a16 (fun w57_0 w57_1 =>
 bif ((w57_1 : Int) != 0) then
 k0 a3 a4 a5 a6 a7 a8 w57_1
 else bif ((a10 : Int) != 4) then
 G.Qw ρ a0 a1 a2 a3 a4 a5 a6 a7 a8 w49_0 w57_0 w50_0 w50_1 w50_2 w50_3 (fun w58_0 w58_1 w58_2 w58_3 w58_4 w58_5 w58_6 =>
 k0 w58_0 w58_1 w58_2 w58_3 w58_4 w58_5 w58_6)
 else G.Qi ρ a0 a1 a2 a3 a4 a5 a6 a7 a8 w50_0 w50_1 w50_2 w50_3 w57_0 (fun w59_0 =>
 bif w59_0 then
 k0 a3 a4 a5 a6 a7 a8 1
 else G.Q0 ρ a0 a1 a2 a3 a4 a5 a6 a7 a8 w49_0 w57_0 (fun w60_0 w60_1 w60_2 =>
 k1 w60_0 w60_1 w60_2) (fun w61_0 w61_1 w61_2 w61_3 w61_4 w61_5 =>
 k2 w61_0 w61_1 w61_2 w61_3 w61_4 w61_5))))
 else bif ((a10 : Int) == 3) then
 G.Q04 ρ w49_1 w49_2 w49_3 w49_4 a18 (fun w62_0 w62_1 w62_2 w62_3 w62_4 =>
 bif ((w62_4 : Int) != 0) then
 k0 a3 a4 a5 a6 a7 a8 w62_4
 else G.Qk ρ a0 a1 a2 a3 a4 a5 a6 a7 a8 a9 a14 a15 a16 (fun w63_0 w63_1 =>
 bif ((w63_1 : Int) != 0) then
 k0 a3 a4 a5 a6 a7 a8 w63_1
 else bif ((a10 : Int) != 4) then
 G.Qw ρ a0 a1 a2 a3 a4 a5 a6 a7 a8 w49_0 w63_0 w62_0 w62_1 w62_2 w62_3 (fun w64_0 w64_1 w64_2 w64_3 w64_4 w64_5 w64_6 =>
 k0 w64_0 w64_1 w64_2 w64_3 w64_4 w64_5 w64_6)
 else G.Qi ρ a0 a1 a2 a3 a4 a5 a6 a7 a8 w62_0 w62_1 w62_2 w62_3 w63_0 (fun w65_0 =>
 bif w65_0 then
 k0 a3 a4 a5 a6 a7 a8 1
 else G.Q0 ρ a0 a1 a2 a3 a4 a5 a6 a7 a8 w49_0 w63_0 (fun w66_0 w66_1 w66_2 =>
 k1 w66_0 w66_1 w66_2) (fun w67_0 w67_1 w67_2 w67_3 w67_4 w67_5 =>
 k2 w67_0 w67_1 w67_2 w67_3 w67_4 w67_5))))
 else G.Qk ρ a0 a1 a2 a3 a4 a5 a6 a7 a8 a9 a14 a15 a16 (fun w68_0 w68_1 =>
 bif ((w68_1 : Int) != 0) then
 k0 a3 a4 a5 a6 a7 a8 w68_1
 else bif ((a10 : Int) != 4) then
 G.Qw ρ a0 a1 a2 a3 a4 a5 a6 a7 a8 w49_0 w68_0 w49_1 w49_2 w49_3 w49_4 (fun w69_0 w69_1 w69_2 w69_3 w69_4 w69_5 w69_6 =>
 k0 w69_0 w69_1 w69_2 w69_3 w69_4 w69_5 w69_6)
 else G.Qi ρ a0 a1 a2 a3 a4 a5 a6 a7 a8 w49_1 w49_2 w49_3 w49_4 w68_0 (fun w70_0 =>
 bif w70_0 then
 k0 a3 a4 a5 a6 a7 a8 1
 else G.Q0 ρ a0 a1 a2 a3 a4 a5 a6 a7 a8 w49_0 w68_0 (fun w71_0 w71_1 w71_2 =>
 k1 w71_0 w71_1 w71_2) (fun w72_0 w72_1 w72_2 w72_3 w72_4 w72_5 =>
 k2 w72_0 w72_1 w72_2 w72_3 w72_4 w72_5))))
 else k0 a3 a4 a5 a6 a7 a8 1)
def Qo_g (n : Nat) : Qo_G := ⟨Qx n, Qt n, Q0b n, Q04 n, Qk n, Qw n, Qi n, Q0 n⟩
def Qo (n : Nat) : Qo_T := fun _ρ a0 a1 a2 a3 a4 a5 a6 a7 a8 a9 a10 a11 a12 a13 a14 a15 a16 a17 a18 a19 k0 k1 k2 => Qo_s (Qo_g n) n a0 a1 a2 a3 a4 a5 a6 a7 a8 a9 a10 a11 a12 a13 a14 a15 a16 a17 a18 a19 k0 k1 k2
def Qo_e (n : Nat) : EK := Qo_E (Qo n)
def Qo_S (G : Qo_G) : CK := tabS [(49, Qx_E G.Qx), (50, Qt_E G.Qt), (56, Q0b_E G.Q0b), (57, Q04_E G.Q04), (51, Qk_E G.Qk), (58, Qw_E G.Qw), (59, Qi_E G.Qi), (60, Q0_E G.Q0)]
theorem Qo_Sok (n : Nat) : CK.OK (Qo_S (Qo_g n)) (L tab) := tabS_ok _ (List.forall_mem_cons.2 ⟨(Qx_ok n), List.forall_mem_cons.2 ⟨(Qt_ok n), List.forall_mem_cons.2 ⟨(Q0b_ok n), List.forall_mem_cons.2 ⟨(Q04_ok n), List.forall_mem_cons.2 ⟨(Qk_ok n), List.forall_mem_cons.2 ⟨(Qw_ok n), List.forall_mem_cons.2 ⟨(Qi_ok n), List.forall_mem_cons.2 ⟨(Q0_ok n), (fun _ h => nomatch h)⟩⟩⟩⟩⟩⟩⟩⟩)
def Qo_hs : HintC := hintL []
def Qo_lp (_G : Qo_G) (_n : Nat) : LK := tabL []
theorem Qo_k (G : Qo_G) {ρ : Type} (n : Nat) (a0 a1 a2 : Int) (a3 a4 : Bool) (a5 : Rows) (a6 a7 : Bool) (a8 : Rows) (a9 a10 : Int) (a11 a12 : Bool) (a13 : Rows) (a14 a15 : Bool) (a16 : Rows) (a17 a18 a19 : Int) (K : Res → Option ρ) : runC (Qo_S G) Qo_hs (Qo_lp G n) m38 [.agg [.i .i64 a0, .i .i64 a1, .i .i64 a2, .lst a3 a4 5 a5, .lst a6 a7 13 a8], .i .i64 a9, .agg [.i .i64 a10, .lst a11 a12 1 a13, .lst a14 a15 1 a16, .i .i64 a17, .i .i64 a18, .i .u64 a19]] K = Qo_s G n a0 a1 a2 a3 a4 a5 a6 a7 a8 a9 a10 a11 a12 a13 a14 a15 a16 a17 a18 a19 (fun w0 w1 w2 w3 w4 w5 w6 => K ⟨.tup [.agg [.i .i64 a0, .i .i64 a1, .i .i64 a2, .lst w0 w1 5 w2, .lst w3 w4 13 w5], .i .i64 w6], [], []⟩) (fun w0 w1 w2 => K ⟨.tup [.agg [.i .i64 a0, .i .i64 a1, .i .i64 a2, .sl 0 w0 5 0 w1, .lst true true 0 []], .i .i64 0], [.row 5 true false w2], []⟩) (fun w0 w1 w2 w3 w4 w5 => K ⟨.tup [.agg [.i .i64 a0, .i .i64 a1, .i .i64 a2, .sl 0 w0 5 0 w1, .sl 1 w2 13 0 w3], .i .i64 0], [.row 5 true false w4, .row 13 true false w5], []⟩) := by kernel_rfl
theorem Qo_ok (n : Nat) : EK.OK (Qo_e n) 38 (L tab) := EK.shp (fun _ _ _ => rfl) fun ρ K y c e => EK.run (Qo_Sok n) (by kernel_rfl) (MF.LKOK.of (LK.of (l := []) (by kernel_rfl) ((fun _ h => nomatch h)))) (Qo_k (Qo_g n) n _ _ _ _ _ _ _ _ _ _ _ _ _ _ _ _ _ _ _ _ K) (by kernel_rfl) e
abbrev Qm_T : Type 1 := (ρ : Type) → Int → Int → Int → Bool → Bool → Rows → Bool → Bool → Rows → Int → Int → Bool → Bool → Rows → Bool → Bool → Rows → Int → Int → Int → (Bool → Bool → Rows → Bool → Bool → Rows → Int → Option ρ) → Option ρ
def Qm_E (G : Qm_T) : EK := fun ρ args K => decL [.agg [.i .i64 none, .i .i64 none, .i .i64 none, .lst none none 5 none, .lst none none 13 none], .i .i64 none, .agg [.i .i64 none, .lst none none 1 none, .lst none none 1 none, .i .i64 none, .i .i64 none, .i .u64 none]] args fun c => G ρ c.1.1 c.1.2.1 c.1.2.2.1 c.1.2.2.2.1.1 c.1.2.2.2.1.2.1 c.1.2.2.2.1.2.2 c.1.2.2.2.2.1.1 c.1.2.2.2.2.1.2.1 c.1.2.2.2.2.1.2.2 c.2.1 c.2.2.1.1 c.2.2.1.2.1.1 c.2.2.1.2.1.2.1 c.2.2.1.2.1.2.2 c.2.2.1.2.2.1.1 c.2.2.1.2.2.1.2.1 c.2.2.1.2.2.1.2.2 c.2.2.1.2.2.2.1 c.2.2.1.2.2.2.2.1 c.2.2.1.2.2.2.2.2.1 (fun w0 w1 w2 w3 w4 w5 w6 => K ⟨.tup [.agg [.i .i64 c.1.1, .i .i64 c.1.2.1, .i .i64 c.1.2.2.1, .lst w0 w1 5 w2, .lst w3 w4 13 w5], .agg [.i .i64 w6, .i .u64 0, .i .i64 0]], [], []⟩)
structure Qm_G where
 mk ::
 Qo : Qo_T
def Qm_s (G : Qm_G) {ρ : Type} (_n : Nat) (a0 a1 a2 : Int) (a3 a4 : Bool) (a5 : Rows) (a6 a7 : Bool) (a8 : Rows) (a9 a10 : Int) (a11 a12 : Bool) (a13 : Rows) (a14 a15 : Bool) (a16 : Rows) (a17 a18 a19 : Int) (k0 : (Bool → Bool → Rows → Bool → Bool → Rows → Int → Option ρ)) : Option ρ :=
 G.Qo ρ a0 a1 a2 a3 a4 a5 a6 a7 a8 a9 a10 a11 a12 a13 a14 a15 a16 a17 a18 a19 (fun w0_0 w0_1 w0_2 w0_3 w0_4 w0_5 w0_6 =>
 bif ((w0_6 : Int) != 0) then
 k0 a3 a4 a5 a6 a7 a8 w0_6
 else k0 w0_0 w0_1 w0_2 w0_3 w0_4 w0_5 0) (fun w1_0 w1_1 w1_2 =>
 chk (((List.length (w1_2 : Rows)) : Nat) == w1_0) <|
 k0 false false (List.take w1_1 (List.drop 0 (w1_2 : Rows))) true true [] 0) (fun w2_0 w2_1 w2_2 w2_3 w2_4 w2_5 =>
 chk (((List.length (w2_4 : Rows)) : Nat) == w2_0) <|
 chk (((List.length (w2_5 : Rows)) : Nat) == w2_2) <|
 k0 false false (List.take w2_1 (List.drop 0 (w2_4 : Rows))) false false (List.take w2_3 (List.drop 0 (w2_5 : Rows))) 0)
def Qm_g (n : Nat) : Qm_G := ⟨Qo n⟩
def Qm (n : Nat) : Qm_T := fun _ρ a0 a1 a2 a3 a4 a5 a6 a7 a8 a9 a10 a11 a12 a13 a14 a15 a16 a17 a18 a19 k0 => Qm_s (Qm_g n) n a0 a1 a2 a3 a4 a5 a6 a7 a8 a9 a10 a11 a12 a13 a14 a15 a16 a17 a18 a19 k0
def Qm_e (n : Nat) : EK := Qm_E (Qm n)
def Qm_S (G : Qm_G) : CK := tabS [(38, Qo_E G.Qo)]
theorem Qm_Sok (n : Nat) : CK.OK (Qm_S (Qm_g n)) (L tab) := tabS_ok _ (List.forall_mem_cons.2 ⟨(Qo_ok n), (fun _ h => nomatch h)⟩)
def Qm_hs : HintC := hintL []
def Qm_lp (_G : Qm_G) (_n : Nat) : LK := tabL []
theorem Qm_k (G : Qm_G) {ρ : Type} (n : Nat) (a0 a1 a2 : Int) (a3 a4 : Bool) (a5 : Rows) (a6 a7 : Bool) (a8 : Rows) (a9 a10 : Int) (a11 a12 : Bool) (a13 : Rows) (a14 a15 : Bool) (a16 : Rows) (a17 a18 a19 : Int) (K : Res → Option ρ) : runC (Qm_S G) Qm_hs (Qm_lp G n) m17 [.agg [.i .i64 a0, .i .i64 a1, .i .i64 a2, .lst a3 a4 5 a5, .lst a6 a7 13 a8], .i .i64 a9, .agg [.i .i64 a10, .lst a11 a12 1 a13, .lst a14 a15 1 a16, .i .i64 a17, .i .i64 a18, .i .u64 a19]] K = Qm_s G n a0 a1 a2 a3 a4 a5 a6 a7 a8 a9 a10 a11 a12 a13 a14 a15 a16 a17 a18 a19 (fun w0 w1 w2 w3 w4 w5 w6 => K ⟨.tup [.agg [.i .i64 a0, .i .i64 a1, .i .i64 a2, .lst w0 w1 5 w2, .lst w3 w4 13 w5], .agg [.i .i64 w6, .i .u64 0, .i .i64 0]], [], []⟩) := by kernel_rfl
theorem Qm_ok (n : Nat) : EK.OK (Qm_e n) 17 (L tab) := EK.shp (fun _ _ _ => rfl) fun ρ K y c e => EK.run (Qm_Sok n) (by kernel_rfl) (MF.LKOK.of (LK.of (l := []) (by kernel_rfl) ((fun _ h => nomatch h)))) (Qm_k (Qm_g n) n _ _ _ _ _ _ _ _ _ _ _ _ _ _ _ _ _ _ _ _ K) (by kernel_rfl) e
abbrev Q07_T : Type 1 := (ρ : Type) → (Bool → Option ρ) → Option ρ
def Q07_E (G : Q07_T) : EK := fun ρ args K => decL [] args fun _c => G ρ (fun w0 => K ⟨.b w0, [], []⟩)
structure Q07_G where
 mk ::
 Q0d : Q0d_T
 reevelaw16_way : reevelaw16_way_T
 Qm : Qm_T
def Q07_s (G : Q07_G) {ρ : Type} (_n : Nat)  (k0 : (Bool → Option ρ)) : Option ρ :=
 G.Q0d ρ (fun w0_0 w0_1 w0_2 w0_3 w0_4 w0_5 w0_6 w0_7 w0_8 =>
 G.reevelaw16_way ρ false false ([[.i .i64 1]]) (bs (stayR ⟨.agg [.lst false false 1 ([[.i .i64 1]])], [], []⟩) <|
 G.reevelaw16_way ρ false false ([[.i .i64 2]]) (bs (stayR ⟨.agg [.lst false false 1 ([[.i .i64 2]])], [], []⟩) <|
 G.Qm ρ w0_0 w0_1 w0_2 w0_3 w0_4 w0_5 w0_6 w0_7 w0_8 0 2 false false ([[.i .i64 1]]) false false ([[.i .i64 2]]) 1 0 0 (fun _w3_0 _w3_1 w3_2 _w3_3 _w3_4 _w3_5 w3_6 =>
 bif (((w3_6 : Int) == 0) && true) then
 bif (((((List.length (w3_2 : Rows)) : Nat) : Int) : Int) == 32) then
 rowT [.i .i64, .i .i64, .i .i64, .i .i64, .i .i64] w3_2 2 fun c4 =>
 bif (((c4.1 : Int) == 3) && (((c4.2.1 : Int) == 1) && (((c4.2.2.1 : Int) == 1) && (((c4.2.2.2.1 : Int) == 0) && (((c4.2.2.2.2.1 : Int) == 1) && true))))) then
 k0 true
 else k0 false
 else k0 false
 else k0 false))))
def Q07_g (n : Nat) : Q07_G := ⟨Q0d n, reevelaw16_way n, Qm n⟩
def Q07 (n : Nat) : Q07_T := fun _ρ k0 => Q07_s (Q07_g n) n k0
def Q07_e (n : Nat) : EK := Q07_E (Q07 n)
def Q07_S (G : Q07_G) : CK := tabS [(18, Q0d_E G.Q0d), (19, reevelaw16_way_E G.reevelaw16_way), (17, Qm_E G.Qm)]
theorem Q07_Sok (n : Nat) : CK.OK (Q07_S (Q07_g n)) (L tab) := tabS_ok _ (List.forall_mem_cons.2 ⟨(Q0d_ok n), List.forall_mem_cons.2 ⟨(reevelaw16_way_ok n), List.forall_mem_cons.2 ⟨(Qm_ok n), (fun _ h => nomatch h)⟩⟩⟩)
def Q07_hs : HintC := hintL [(25, [.i .i64, .i .i64, .i .i64, .i .i64, .i .i64])]
def Q07_lp (_G : Q07_G) (_n : Nat) : LK := tabL []
theorem Q07_k (G : Q07_G) {ρ : Type} (n : Nat)  (K : Res → Option ρ) : runC (Q07_S G) Q07_hs (Q07_lp G n) m16 [] K = Q07_s G n  (fun w0 => K ⟨.b w0, [], []⟩) := by kernel_rfl
theorem Q07_ok (n : Nat) : EK.OK (Q07_e n) 16 (L tab) := EK.shp (fun _ _ _ => rfl) fun ρ K y c e => EK.run (Q07_Sok n) (by kernel_rfl) (MF.LKOK.of (LK.of (l := []) (by kernel_rfl) ((fun _ h => nomatch h)))) (Q07_k (Q07_g n) n  K) (by kernel_rfl) e
abbrev reevelaw16_heavy_T : Type 1 := (ρ : Type) → Int → Int → Int → Bool → Bool → Rows → Bool → Bool → Rows → Int → Bool → Bool → Rows → Bool → Bool → Rows → Int → Int → Int → (Bool → Option ρ) → Option ρ
def reevelaw16_heavy_E (G : reevelaw16_heavy_T) : EK := fun ρ args K => decL [.agg [.i .i64 none, .i .i64 none, .i .i64 none, .lst none none 5 none, .lst none none 13 none], .agg [.i .i64 none, .lst none none 1 none, .lst none none 1 none, .i .i64 none, .i .i64 none, .i .u64 none]] args fun c => G ρ c.1.1 c.1.2.1 c.1.2.2.1 c.1.2.2.2.1.1 c.1.2.2.2.1.2.1 c.1.2.2.2.1.2.2 c.1.2.2.2.2.1.1 c.1.2.2.2.2.1.2.1 c.1.2.2.2.2.1.2.2 c.2.1.1 c.2.1.2.1.1 c.2.1.2.1.2.1 c.2.1.2.1.2.2 c.2.1.2.2.1.1 c.2.1.2.2.1.2.1 c.2.1.2.2.1.2.2 c.2.1.2.2.2.1 c.2.1.2.2.2.2.1 c.2.1.2.2.2.2.2.1 (fun w0 => K ⟨.b w0, [], []⟩)
structure reevelaw16_heavy_G where
 mk ::
def reevelaw16_heavy_s (_G : reevelaw16_heavy_G) {ρ : Type} (_n : Nat) (_a0 _a1 _a2 : Int) (_a3 _a4 : Bool) (a5 : Rows) (_a6 _a7 : Bool) (a8 : Rows) (_a9 : Int) (_a10 _a11 : Bool) (a12 : Rows) (_a13 _a14 : Bool) (a15 : Rows) (_a16 _a17 _a18 : Int) (k0 : (Bool → Option ρ)) : Option ρ :=
 bif decide (((((List.length (a5 : Rows)) : Nat) : Int) : Int) > 100) then
 k0 true
 else bif decide (((((List.length (a8 : Rows)) : Nat) : Int) : Int) > 50) then
 k0 true
 else bif decide (((((List.length (a12 : Rows)) : Nat) : Int) : Int) > 10) then
 k0 true
 else bif decide (((((List.length (a15 : Rows)) : Nat) : Int) : Int) > 10) then
 k0 true
 else k0 false
def reevelaw16_heavy_g (_n : Nat) : reevelaw16_heavy_G := ⟨⟩
def reevelaw16_heavy (n : Nat) : reevelaw16_heavy_T := fun _ρ a0 a1 a2 a3 a4 a5 a6 a7 a8 a9 a10 a11 a12 a13 a14 a15 a16 a17 a18 k0 => reevelaw16_heavy_s (reevelaw16_heavy_g n) n a0 a1 a2 a3 a4 a5 a6 a7 a8 a9 a10 a11 a12 a13 a14 a15 a16 a17 a18 k0
def reevelaw16_heavy_e (n : Nat) : EK := reevelaw16_heavy_E (reevelaw16_heavy n)
def reevelaw16_heavy_S (_G : reevelaw16_heavy_G) : CK := tabS []
theorem reevelaw16_heavy_Sok (n : Nat) : CK.OK (reevelaw16_heavy_S (reevelaw16_heavy_g n)) (L tab) := tabS_ok _ ((fun _ h => nomatch h))
def reevelaw16_heavy_hs : HintC := hintL []
def reevelaw16_heavy_lp (_G : reevelaw16_heavy_G) (_n : Nat) : LK := tabL []
theorem reevelaw16_heavy_k (G : reevelaw16_heavy_G) {ρ : Type} (n : Nat) (a0 a1 a2 : Int) (a3 a4 : Bool) (a5 : Rows) (a6 a7 : Bool) (a8 : Rows) (a9 : Int) (a10 a11 : Bool) (a12 : Rows) (a13 a14 : Bool) (a15 : Rows) (a16 a17 a18 : Int) (K : Res → Option ρ) : runC (reevelaw16_heavy_S G) reevelaw16_heavy_hs (reevelaw16_heavy_lp G n) m20 [.agg [.i .i64 a0, .i .i64 a1, .i .i64 a2, .lst a3 a4 5 a5, .lst a6 a7 13 a8], .agg [.i .i64 a9, .lst a10 a11 1 a12, .lst a13 a14 1 a15, .i .i64 a16, .i .i64 a17, .i .u64 a18]] K = reevelaw16_heavy_s G n a0 a1 a2 a3 a4 a5 a6 a7 a8 a9 a10 a11 a12 a13 a14 a15 a16 a17 a18 (fun w0 => K ⟨.b w0, [], []⟩) := by kernel_rfl
theorem reevelaw16_heavy_ok (n : Nat) : EK.OK (reevelaw16_heavy_e n) 20 (L tab) := EK.shp (fun _ _ _ => rfl) fun ρ K y c e => EK.run (reevelaw16_heavy_Sok n) (by kernel_rfl) (MF.LKOK.of (LK.of (l := []) (by kernel_rfl) ((fun _ h => nomatch h)))) (reevelaw16_heavy_k (reevelaw16_heavy_g n) n _ _ _ _ _ _ _ _ _ _ _ _ _ _ _ _ _ _ _ K) (by kernel_rfl) e
abbrev slices_Equal_Slot_T : Type 1 := (ρ : Type) → Bool → Bool → Rows → Bool → Bool → Rows → (Bool → Option ρ) → Option ρ
def slices_Equal_Slot_E (G : slices_Equal_Slot_T) : EK := fun ρ args K => decL [.lst none none 5 none, .lst none none 5 none] args fun c => G ρ c.1.1 c.1.2.1 c.1.2.2 c.2.1.1 c.2.1.2.1 c.2.1.2.2 (fun w0 => K ⟨.b w0, [], []⟩)
structure slices_Equal_Slot_G where
 mk ::
abbrev slices_Equal_Slot_l4_V : Type := Int
def slices_Equal_Slot_l4_s (_G : slices_Equal_Slot_G) {ρ : Type} (_n : Nat) (_p0 _p1 : Bool) (p2 : Rows) (_p3 _p4 : Bool) (p5 : Rows) (p6 : Int) (k0 : (Option ρ)) (k1 : (Option ρ)) (rec' : slices_Equal_Slot_l4_V → Option ρ) : slices_Equal_Slot_l4_V → Option ρ
 | v =>
 bif decide ((v : Int) < p6) then
 rowT [.i .i64, .i .i64, .i .i64, .i .i64, .i .i64] p2 v fun c0 =>
 rowT [.i .i64, .i .i64, .i .i64, .i .i64, .i .i64] p5 v fun c1 =>
 bif (!(((c0.1 : Int) == c1.1) && (((c0.2.1 : Int) == c1.2.1) && (((c0.2.2.1 : Int) == c1.2.2.1) && (((c0.2.2.2.1 : Int) == c1.2.2.2.1) && (((c0.2.2.2.2.1 : Int) == c1.2.2.2.2.1) && true)))))) then
 k0
 else rec' ((IntKind.wrap .i64 (v + 1)))
 else k1
def slices_Equal_Slot_l4 (G : slices_Equal_Slot_G) {ρ : Type} (n : Nat) (p0 p1 : Bool) (p2 : Rows) (p3 p4 : Bool) (p5 : Rows) (p6 : Int) (k0 : (Option ρ)) (k1 : (Option ρ)) (v : slices_Equal_Slot_l4_V) : Option ρ := fuelN (slices_Equal_Slot_l4_s G n p0 p1 p2 p3 p4 p5 p6 k0 k1) n v
def slices_Equal_Slot_l4_enc (p0 p1 : Bool) (p2 : Rows) (p3 p4 : Bool) (p5 : Rows) (p6 : Int) : slices_Equal_Slot_l4_V → St
 | v => ⟨[(0, .lst p0 p1 5 p2), (1, .lst p3 p4 5 p5), (12, .i .i64 p6), (13, .i .i64 v)], []⟩
def slices_Equal_Slot_s (G : slices_Equal_Slot_G) {ρ : Type} (n : Nat) (a0 a1 : Bool) (a2 : Rows) (a3 a4 : Bool) (a5 : Rows) (k0 : (Bool → Option ρ)) : Option ρ :=
 bif (((((List.length (a2 : Rows)) : Nat) : Int) : Int) != (((List.length (a5 : Rows)) : Nat) : Int)) then
 k0 false
 else slices_Equal_Slot_l4 G n a0 a1 a2 a3 a4 a5 (((List.length (a2 : Rows)) : Nat) : Int) (k0 false) (k0 true) (0)
def slices_Equal_Slot_g (_n : Nat) : slices_Equal_Slot_G := ⟨⟩
def slices_Equal_Slot (n : Nat) : slices_Equal_Slot_T := fun _ρ a0 a1 a2 a3 a4 a5 k0 => slices_Equal_Slot_s (slices_Equal_Slot_g n) n a0 a1 a2 a3 a4 a5 k0
def slices_Equal_Slot_e (n : Nat) : EK := slices_Equal_Slot_E (slices_Equal_Slot n)
def slices_Equal_Slot_S (_G : slices_Equal_Slot_G) : CK := tabS []
theorem slices_Equal_Slot_Sok (n : Nat) : CK.OK (slices_Equal_Slot_S (slices_Equal_Slot_g n)) (L tab) := tabS_ok _ ((fun _ h => nomatch h))
def slices_Equal_Slot_hs : HintC := hintL [(18, [.i .i64, .i .i64, .i .i64, .i .i64, .i .i64]), (22, [.i .i64, .i .i64, .i .i64, .i .i64, .i .i64])]
def slices_Equal_Slot_c4 : Nat × List Nat × List Nat × MC := loopAt 4 m32
def slices_Equal_Slot_l4_d (G : slices_Equal_Slot_G) (n : Nat) : Go.Rv.LE := fun _ρ h K => decSt [(0, .lst none none 5 none), (1, .lst none none 5 none), (12, .i .i64 none), (13, .i .i64 none)] [] h fun a _b => slices_Equal_Slot_l4 G n a.1.1 a.1.2.1 a.1.2.2 a.2.1.1 a.2.1.2.1 a.2.1.2.2 a.2.2.1 (K .ret ⟨[(4, .b false)], []⟩) (K (.exit 0) ⟨[(4, .u)], []⟩) (a.2.2.2.1)
def slices_Equal_Slot_d4 (G : slices_Equal_Slot_G) (n : Nat) : Go.Rv.LE := slices_Equal_Slot_l4_d G n
def slices_Equal_Slot_lp (G : slices_Equal_Slot_G) (n : Nat) : LK := tabL [(4, slices_Equal_Slot_d4 G n)]
theorem slices_Equal_Slot_l4_k (G : slices_Equal_Slot_G) {ρ : Type} (n : Nat) (p0 p1 : Bool) (p2 : Rows) (p3 p4 : Bool) (p5 : Rows) (p6 : Int) (K : Ex → St → Option ρ) (N : St → Option ρ) : ∀ v, roundC (slices_Equal_Slot_S G) slices_Equal_Slot_hs (slices_Equal_Slot_lp G n) slices_Equal_Slot_c4 0 N K (slices_Equal_Slot_l4_enc p0 p1 p2 p3 p4 p5 p6 v) = slices_Equal_Slot_l4_s G n p0 p1 p2 p3 p4 p5 p6 (K .ret ⟨[(4, .b false)], []⟩) (K (.exit 0) ⟨[(4, .u)], []⟩) (fun v => N (slices_Equal_Slot_l4_enc p0 p1 p2 p3 p4 p5 p6 v)) v
 | v => by kernel_rfl
theorem slices_Equal_Slot_l4_dok (n : Nat) : LE.OK (slices_Equal_Slot_l4_d (slices_Equal_Slot_g n) n) (L tab) slices_Equal_Slot_c4 := LE.shp (fun _ _ _ => rfl) fun ρ K y a b e => LE.rounds (slices_Equal_Slot_Sok n) (LK.of (l := []) (by kernel_rfl) ((fun _ h => nomatch h))) (slices_Equal_Slot_l4_k (slices_Equal_Slot_g n) n _ _ _ _ _ _ _ K) (by kernel_rfl) (by kernel_rfl) e
theorem slices_Equal_Slot_d4_ok (n : Nat) : LE.OK (slices_Equal_Slot_d4 (slices_Equal_Slot_g n) n) (L tab) slices_Equal_Slot_c4 := slices_Equal_Slot_l4_dok n
theorem slices_Equal_Slot_k (G : slices_Equal_Slot_G) {ρ : Type} (n : Nat) (a0 a1 : Bool) (a2 : Rows) (a3 a4 : Bool) (a5 : Rows) (K : Res → Option ρ) : runC (slices_Equal_Slot_S G) slices_Equal_Slot_hs (slices_Equal_Slot_lp G n) m32 [.lst a0 a1 5 a2, .lst a3 a4 5 a5] K = slices_Equal_Slot_s G n a0 a1 a2 a3 a4 a5 (fun w0 => K ⟨.b w0, [], []⟩) := by kernel_rfl
theorem slices_Equal_Slot_ok (n : Nat) : EK.OK (slices_Equal_Slot_e n) 32 (L tab) := EK.shp (fun _ _ _ => rfl) fun ρ K y c e => EK.run (slices_Equal_Slot_Sok n) (by kernel_rfl) (MF.LKOK.of (LK.of (l := [slices_Equal_Slot_c4]) (by kernel_rfl) (List.forall_mem_cons.2 ⟨LE.at (e := slices_Equal_Slot_d4 (slices_Equal_Slot_g n) n) (by kernel_rfl) (slices_Equal_Slot_d4_ok n), (fun _ h => nomatch h)⟩))) (slices_Equal_Slot_k (slices_Equal_Slot_g n) n _ _ _ _ _ _ K) (by kernel_rfl) e
abbrev slices_Equal_Thing_T : Type 1 := (ρ : Type) → Bool → Bool → Rows → Bool → Bool → Rows → (Bool → Option ρ) → Option ρ
def slices_Equal_Thing_E (G : slices_Equal_Thing_T) : EK := fun ρ args K => decL [.lst none none 13 none, .lst none none 13 none] args fun c => G ρ c.1.1 c.1.2.1 c.1.2.2 c.2.1.1 c.2.1.2.1 c.2.1.2.2 (fun w0 => K ⟨.b w0, [], []⟩)
structure slices_Equal_Thing_G where
 mk ::
abbrev slices_Equal_Thing_l4_V : Type := Int
def slices_Equal_Thing_l4_s (_G : slices_Equal_Thing_G) {ρ : Type} (_n : Nat) (_p0 _p1 : Bool) (p2 : Rows) (_p3 _p4 : Bool) (p5 : Rows) (p6 : Int) (k0 : (Option ρ)) (k1 : (Option ρ)) (rec' : slices_Equal_Thing_l4_V → Option ρ) : slices_Equal_Thing_l4_V → Option ρ
 | v =>
 bif decide ((v : Int) < p6) then
 rowT [.i .i64, .i .i64, .i .i64, .i .i64, .i .i64, .i .i64, .i .i64, .b, .i .u64, .i .u64, .i .u64, .i .u64, .i .u64] p2 v fun c0 =>
 rowT [.i .i64, .i .i64, .i .i64, .i .i64, .i .i64, .i .i64, .i .i64, .b, .i .u64, .i .u64, .i .u64, .i .u64, .i .u64] p5 v fun c1 =>
 bif (!(((c0.1 : Int) == c1.1) && (((c0.2.1 : Int) == c1.2.1) && (((c0.2.2.1 : Int) == c1.2.2.1) && (((c0.2.2.2.1 : Int) == c1.2.2.2.1) && (((c0.2.2.2.2.1 : Int) == c1.2.2.2.2.1) && (((c0.2.2.2.2.2.1 : Int) == c1.2.2.2.2.2.1) && (((c0.2.2.2.2.2.2.1 : Int) == c1.2.2.2.2.2.2.1) && (((c0.2.2.2.2.2.2.2.1 : Bool) == c1.2.2.2.2.2.2.2.1) && (((c0.2.2.2.2.2.2.2.2.1 : Int) == c1.2.2.2.2.2.2.2.2.1) && (((c0.2.2.2.2.2.2.2.2.2.1 : Int) == c1.2.2.2.2.2.2.2.2.2.1) && (((c0.2.2.2.2.2.2.2.2.2.2.1 : Int) == c1.2.2.2.2.2.2.2.2.2.2.1) && (((c0.2.2.2.2.2.2.2.2.2.2.2.1 : Int) == c1.2.2.2.2.2.2.2.2.2.2.2.1) && (((c0.2.2.2.2.2.2.2.2.2.2.2.2.1 : Int) == c1.2.2.2.2.2.2.2.2.2.2.2.2.1) && true)))))))))))))) then
 k0
 else rec' ((IntKind.wrap .i64 (v + 1)))
 else k1
def slices_Equal_Thing_l4 (G : slices_Equal_Thing_G) {ρ : Type} (n : Nat) (p0 p1 : Bool) (p2 : Rows) (p3 p4 : Bool) (p5 : Rows) (p6 : Int) (k0 : (Option ρ)) (k1 : (Option ρ)) (v : slices_Equal_Thing_l4_V) : Option ρ := fuelN (slices_Equal_Thing_l4_s G n p0 p1 p2 p3 p4 p5 p6 k0 k1) n v
def slices_Equal_Thing_l4_enc (p0 p1 : Bool) (p2 : Rows) (p3 p4 : Bool) (p5 : Rows) (p6 : Int) : slices_Equal_Thing_l4_V → St
 | v => ⟨[(0, .lst p0 p1 13 p2), (1, .lst p3 p4 13 p5), (12, .i .i64 p6), (13, .i .i64 v)], []⟩
def slices_Equal_Thing_s (G : slices_Equal_Thing_G) {ρ : Type} (n : Nat) (a0 a1 : Bool) (a2 : Rows) (a3 a4 : Bool) (a5 : Rows) (k0 : (Bool → Option ρ)) : Option ρ :=
 bif (((((List.length (a2 : Rows)) : Nat) : Int) : Int) != (((List.length (a5 : Rows)) : Nat) : Int)) then
 k0 false
 else slices_Equal_Thing_l4 G n a0 a1 a2 a3 a4 a5 (((List.length (a2 : Rows)) : Nat) : Int) (k0 false) (k0 true) (0)
def slices_Equal_Thing_g (_n : Nat) : slices_Equal_Thing_G := ⟨⟩
def slices_Equal_Thing (n : Nat) : slices_Equal_Thing_T := fun _ρ a0 a1 a2 a3 a4 a5 k0 => slices_Equal_Thing_s (slices_Equal_Thing_g n) n a0 a1 a2 a3 a4 a5 k0
def slices_Equal_Thing_e (n : Nat) : EK := slices_Equal_Thing_E (slices_Equal_Thing n)
def slices_Equal_Thing_S (_G : slices_Equal_Thing_G) : CK := tabS []
theorem slices_Equal_Thing_Sok (n : Nat) : CK.OK (slices_Equal_Thing_S (slices_Equal_Thing_g n)) (L tab) := tabS_ok _ ((fun _ h => nomatch h))
def slices_Equal_Thing_hs : HintC := hintL [(18, [.i .i64, .i .i64, .i .i64, .i .i64, .i .i64, .i .i64, .i .i64, .b, .i .u64, .i .u64, .i .u64, .i .u64, .i .u64]), (22, [.i .i64, .i .i64, .i .i64, .i .i64, .i .i64, .i .i64, .i .i64, .b, .i .u64, .i .u64, .i .u64, .i .u64, .i .u64])]
def slices_Equal_Thing_c4 : Nat × List Nat × List Nat × MC := loopAt 4 m33
def slices_Equal_Thing_l4_d (G : slices_Equal_Thing_G) (n : Nat) : Go.Rv.LE := fun _ρ h K => decSt [(0, .lst none none 13 none), (1, .lst none none 13 none), (12, .i .i64 none), (13, .i .i64 none)] [] h fun a _b => slices_Equal_Thing_l4 G n a.1.1 a.1.2.1 a.1.2.2 a.2.1.1 a.2.1.2.1 a.2.1.2.2 a.2.2.1 (K .ret ⟨[(4, .b false)], []⟩) (K (.exit 0) ⟨[(4, .u)], []⟩) (a.2.2.2.1)
def slices_Equal_Thing_d4 (G : slices_Equal_Thing_G) (n : Nat) : Go.Rv.LE := slices_Equal_Thing_l4_d G n
def slices_Equal_Thing_lp (G : slices_Equal_Thing_G) (n : Nat) : LK := tabL [(4, slices_Equal_Thing_d4 G n)]
theorem slices_Equal_Thing_l4_k (G : slices_Equal_Thing_G) {ρ : Type} (n : Nat) (p0 p1 : Bool) (p2 : Rows) (p3 p4 : Bool) (p5 : Rows) (p6 : Int) (K : Ex → St → Option ρ) (N : St → Option ρ) : ∀ v, roundC (slices_Equal_Thing_S G) slices_Equal_Thing_hs (slices_Equal_Thing_lp G n) slices_Equal_Thing_c4 0 N K (slices_Equal_Thing_l4_enc p0 p1 p2 p3 p4 p5 p6 v) = slices_Equal_Thing_l4_s G n p0 p1 p2 p3 p4 p5 p6 (K .ret ⟨[(4, .b false)], []⟩) (K (.exit 0) ⟨[(4, .u)], []⟩) (fun v => N (slices_Equal_Thing_l4_enc p0 p1 p2 p3 p4 p5 p6 v)) v
 | v => by kernel_rfl
theorem slices_Equal_Thing_l4_dok (n : Nat) : LE.OK (slices_Equal_Thing_l4_d (slices_Equal_Thing_g n) n) (L tab) slices_Equal_Thing_c4 := LE.shp (fun _ _ _ => rfl) fun ρ K y a b e => LE.rounds (slices_Equal_Thing_Sok n) (LK.of (l := []) (by kernel_rfl) ((fun _ h => nomatch h))) (slices_Equal_Thing_l4_k (slices_Equal_Thing_g n) n _ _ _ _ _ _ _ K) (by kernel_rfl) (by kernel_rfl) e
theorem slices_Equal_Thing_d4_ok (n : Nat) : LE.OK (slices_Equal_Thing_d4 (slices_Equal_Thing_g n) n) (L tab) slices_Equal_Thing_c4 := slices_Equal_Thing_l4_dok n
theorem slices_Equal_Thing_k (G : slices_Equal_Thing_G) {ρ : Type} (n : Nat) (a0 a1 : Bool) (a2 : Rows) (a3 a4 : Bool) (a5 : Rows) (K : Res → Option ρ) : runC (slices_Equal_Thing_S G) slices_Equal_Thing_hs (slices_Equal_Thing_lp G n) m33 [.lst a0 a1 13 a2, .lst a3 a4 13 a5] K = slices_Equal_Thing_s G n a0 a1 a2 a3 a4 a5 (fun w0 => K ⟨.b w0, [], []⟩) := by kernel_rfl
theorem slices_Equal_Thing_ok (n : Nat) : EK.OK (slices_Equal_Thing_e n) 33 (L tab) := EK.shp (fun _ _ _ => rfl) fun ρ K y c e => EK.run (slices_Equal_Thing_Sok n) (by kernel_rfl) (MF.LKOK.of (LK.of (l := [slices_Equal_Thing_c4]) (by kernel_rfl) (List.forall_mem_cons.2 ⟨LE.at (e := slices_Equal_Thing_d4 (slices_Equal_Thing_g n) n) (by kernel_rfl) (slices_Equal_Thing_d4_ok n), (fun _ h => nomatch h)⟩))) (slices_Equal_Thing_k (slices_Equal_Thing_g n) n _ _ _ _ _ _ K) (by kernel_rfl) e
abbrev Qy_T : Type 1 := (ρ : Type) → Int → Int → Int → Bool → Bool → Rows → Bool → Bool → Rows → Int → Int → Int → Bool → Bool → Rows → Bool → Bool → Rows → (Bool → Option ρ) → Option ρ
def Qy_E (G : Qy_T) : EK := fun ρ args K => decL [.agg [.i .i64 none, .i .i64 none, .i .i64 none, .lst none none 5 none, .lst none none 13 none], .agg [.i .i64 none, .i .i64 none, .i .i64 none, .lst none none 5 none, .lst none none 13 none]] args fun c => G ρ c.1.1 c.1.2.1 c.1.2.2.1 c.1.2.2.2.1.1 c.1.2.2.2.1.2.1 c.1.2.2.2.1.2.2 c.1.2.2.2.2.1.1 c.1.2.2.2.2.1.2.1 c.1.2.2.2.2.1.2.2 c.2.1.1 c.2.1.2.1 c.2.1.2.2.1 c.2.1.2.2.2.1.1 c.2.1.2.2.2.1.2.1 c.2.1.2.2.2.1.2.2 c.2.1.2.2.2.2.1.1 c.2.1.2.2.2.2.1.2.1 c.2.1.2.2.2.2.1.2.2 (fun w0 => K ⟨.b w0, [], []⟩)
structure Qy_G where
 mk ::
 slices_Equal_Slot : slices_Equal_Slot_T
 slices_Equal_Thing : slices_Equal_Thing_T
def Qy_s (G : Qy_G) {ρ : Type} (_n : Nat) (a0 a1 a2 : Int) (a3 a4 : Bool) (a5 : Rows) (a6 a7 : Bool) (a8 : Rows) (a9 a10 a11 : Int) (a12 a13 : Bool) (a14 : Rows) (a15 a16 : Bool) (a17 : Rows) (k0 : (Bool → Option ρ)) : Option ρ :=
 bif (((a0 : Int) == a9) && (((a1 : Int) == a10) && (((a2 : Int) == a11) && true))) then
 G.slices_Equal_Slot ρ a3 a4 a5 a12 a13 a14 (fun w0_0 =>
 bif w0_0 then
 G.slices_Equal_Thing ρ a6 a7 a8 a15 a16 a17 (fun w1_0 =>
 bif w1_0 then
 k0 true
 else k0 false)
 else k0 false)
 else k0 false
def Qy_g (n : Nat) : Qy_G := ⟨slices_Equal_Slot n, slices_Equal_Thing n⟩
def Qy (n : Nat) : Qy_T := fun _ρ a0 a1 a2 a3 a4 a5 a6 a7 a8 a9 a10 a11 a12 a13 a14 a15 a16 a17 k0 => Qy_s (Qy_g n) n a0 a1 a2 a3 a4 a5 a6 a7 a8 a9 a10 a11 a12 a13 a14 a15 a16 a17 k0
def Qy_e (n : Nat) : EK := Qy_E (Qy n)
def Qy_S (G : Qy_G) : CK := tabS [(32, slices_Equal_Slot_E G.slices_Equal_Slot), (33, slices_Equal_Thing_E G.slices_Equal_Thing)]
theorem Qy_Sok (n : Nat) : CK.OK (Qy_S (Qy_g n)) (L tab) := tabS_ok _ (List.forall_mem_cons.2 ⟨(slices_Equal_Slot_ok n), List.forall_mem_cons.2 ⟨(slices_Equal_Thing_ok n), (fun _ h => nomatch h)⟩⟩)
def Qy_hs : HintC := hintL []
def Qy_lp (_G : Qy_G) (_n : Nat) : LK := tabL []
theorem Qy_k (G : Qy_G) {ρ : Type} (n : Nat) (a0 a1 a2 : Int) (a3 a4 : Bool) (a5 : Rows) (a6 a7 : Bool) (a8 : Rows) (a9 a10 a11 : Int) (a12 a13 : Bool) (a14 : Rows) (a15 a16 : Bool) (a17 : Rows) (K : Res → Option ρ) : runC (Qy_S G) Qy_hs (Qy_lp G n) m11 [.agg [.i .i64 a0, .i .i64 a1, .i .i64 a2, .lst a3 a4 5 a5, .lst a6 a7 13 a8], .agg [.i .i64 a9, .i .i64 a10, .i .i64 a11, .lst a12 a13 5 a14, .lst a15 a16 13 a17]] K = Qy_s G n a0 a1 a2 a3 a4 a5 a6 a7 a8 a9 a10 a11 a12 a13 a14 a15 a16 a17 (fun w0 => K ⟨.b w0, [], []⟩) := by kernel_rfl
theorem Qy_ok (n : Nat) : EK.OK (Qy_e n) 11 (L tab) := EK.shp (fun _ _ _ => rfl) fun ρ K y c e => EK.run (Qy_Sok n) (by kernel_rfl) (MF.LKOK.of (LK.of (l := []) (by kernel_rfl) ((fun _ h => nomatch h)))) (Qy_k (Qy_g n) n _ _ _ _ _ _ _ _ _ _ _ _ _ _ _ _ _ _ K) (by kernel_rfl) e
abbrev Q06_T : Type 1 := (ρ : Type) → Int → Int → Int → Bool → Bool → Rows → Bool → Bool → Rows → Int → Bool → Bool → Rows → Bool → Bool → Rows → (Bool → Option ρ) → Option ρ
def Q06_E (G : Q06_T) : EK := fun ρ args K => decL [.agg [.i .i64 none, .i .i64 none, .i .i64 none, .lst none none 5 none, .lst none none 13 none], .i .i64 none, .lst none none 1 none, .lst none none 1 none] args fun c => G ρ c.1.1 c.1.2.1 c.1.2.2.1 c.1.2.2.2.1.1 c.1.2.2.2.1.2.1 c.1.2.2.2.1.2.2 c.1.2.2.2.2.1.1 c.1.2.2.2.2.1.2.1 c.1.2.2.2.2.1.2.2 c.2.1 c.2.2.1.1 c.2.2.1.2.1 c.2.2.1.2.2 c.2.2.2.1.1 c.2.2.2.1.2.1 c.2.2.2.1.2.2 (fun w0 => K ⟨.b w0, [], []⟩)
structure Q06_G where
 mk ::
 Q07 : Q07_T
 reevelaw16_way : reevelaw16_way_T
 reevelaw16_heavy : reevelaw16_heavy_T
 Qh : Qh_T
 Qm : Qm_T
 Qy : Qy_T
def Q06_s (G : Q06_G) {ρ : Type} (_n : Nat) (a0 a1 a2 : Int) (a3 a4 : Bool) (a5 : Rows) (a6 a7 : Bool) (a8 : Rows) (a9 : Int) (a10 a11 : Bool) (a12 : Rows) (a13 a14 : Bool) (a15 : Rows) (k0 : (Bool → Option ρ)) : Option ρ :=
 G.Q07 ρ (fun w0_0 =>
 bif w0_0 then
 G.reevelaw16_way ρ a10 a11 a12 (G.reevelaw16_way ρ a13 a14 a15 (G.reevelaw16_heavy ρ a0 a1 a2 a3 a4 a5 a6 a7 a8 4 a10 a11 a12 a13 a14 a15 0 0 0 (fun w3_0 =>
 bif w3_0 then
 k0 true
 else G.Qh ρ a0 a1 a2 a3 a4 a5 a6 a7 a8 (fun w4_0 =>
 bif w4_0 then
 bif (((((List.length (a12 : Rows)) : Nat) : Int) : Int) != 1) then
 k0 true
 else bif (((((List.length (a15 : Rows)) : Nat) : Int) : Int) != 1) then
 k0 true
 else G.Qm ρ a0 a1 a2 a3 a4 a5 a6 a7 a8 a9 4 a10 a11 a12 a13 a14 a15 0 0 0 (fun w5_0 w5_1 w5_2 w5_3 w5_4 w5_5 w5_6 =>
 bif ((w5_6 : Int) != 0) then
 G.Qy ρ a0 a1 a2 w5_0 w5_1 w5_2 w5_3 w5_4 w5_5 a0 a1 a2 a3 a4 a5 a6 a7 a8 (fun w6_0 =>
 bif w6_0 then
 k0 true
 else k0 false)
 else G.reevelaw16_way ρ a13 a14 a15 (G.reevelaw16_way ρ a10 a11 a12 (G.Qm ρ a0 a1 a2 w5_0 w5_1 w5_2 w5_3 w5_4 w5_5 a9 4 a13 a14 a15 a10 a11 a12 0 0 0 (fun w9_0 w9_1 w9_2 w9_3 w9_4 w9_5 w9_6 =>
 bif ((w9_6 : Int) == 0) then
 G.Qy ρ a0 a1 a2 w9_0 w9_1 w9_2 w9_3 w9_4 w9_5 a0 a1 a2 a3 a4 a5 a6 a7 a8 (fun w10_0 =>
 bif w10_0 then
 k0 true
 else k0 false)
 else k0 false))))
 else k0 true))))
 else k0 false)
def Q06_g (n : Nat) : Q06_G := ⟨Q07 n, reevelaw16_way n, reevelaw16_heavy n, Qh n, Qm n, Qy n⟩
def Q06 (n : Nat) : Q06_T := fun _ρ a0 a1 a2 a3 a4 a5 a6 a7 a8 a9 a10 a11 a12 a13 a14 a15 k0 => Q06_s (Q06_g n) n a0 a1 a2 a3 a4 a5 a6 a7 a8 a9 a10 a11 a12 a13 a14 a15 k0
def Q06_e (n : Nat) : EK := Q06_E (Q06 n)
def Q06_S (G : Q06_G) : CK := tabS [(16, Q07_E G.Q07), (19, reevelaw16_way_E G.reevelaw16_way), (20, reevelaw16_heavy_E G.reevelaw16_heavy), (9, Qh_E G.Qh), (17, Qm_E G.Qm), (11, Qy_E G.Qy)]
theorem Q06_Sok (n : Nat) : CK.OK (Q06_S (Q06_g n)) (L tab) := tabS_ok _ (List.forall_mem_cons.2 ⟨(Q07_ok n), List.forall_mem_cons.2 ⟨(reevelaw16_way_ok n), List.forall_mem_cons.2 ⟨(reevelaw16_heavy_ok n), List.forall_mem_cons.2 ⟨(Qh_ok n), List.forall_mem_cons.2 ⟨(Qm_ok n), List.forall_mem_cons.2 ⟨(Qy_ok n), (fun _ h => nomatch h)⟩⟩⟩⟩⟩⟩)
def Q06_hs : HintC := hintL []
def Q06_lp (_G : Q06_G) (_n : Nat) : LK := tabL []
theorem Q06_k (G : Q06_G) {ρ : Type} (n : Nat) (a0 a1 a2 : Int) (a3 a4 : Bool) (a5 : Rows) (a6 a7 : Bool) (a8 : Rows) (a9 : Int) (a10 a11 : Bool) (a12 : Rows) (a13 a14 : Bool) (a15 : Rows) (K : Res → Option ρ) : runC (Q06_S G) Q06_hs (Q06_lp G n) m5 [.agg [.i .i64 a0, .i .i64 a1, .i .i64 a2, .lst a3 a4 5 a5, .lst a6 a7 13 a8], .i .i64 a9, .lst a10 a11 1 a12, .lst a13 a14 1 a15] K = Q06_s G n a0 a1 a2 a3 a4 a5 a6 a7 a8 a9 a10 a11 a12 a13 a14 a15 (fun w0 => K ⟨.b w0, [], []⟩) := by kernel_rfl
theorem Q06_ok (n : Nat) : EK.OK (Q06_e n) 5 (L tab) := EK.shp (fun _ _ _ => rfl) fun ρ K y c e => EK.run (Q06_Sok n) (by kernel_rfl) (MF.LKOK.of (LK.of (l := []) (by kernel_rfl) ((fun _ h => nomatch h)))) (Q06_k (Q06_g n) n _ _ _ _ _ _ _ _ _ _ _ _ _ _ _ _ K) (by kernel_rfl) e
end Go.Rv
