/- functions as programs of ours, and their ties, part 2 -/
import Derived.Test.YtcjpmmbenlbndaaQNa
import Derived.KernelRfl
namespace Go.Rv
/-! reeve/forest.Good -/
abbrev forest_Good_i1_T : Type 1 := (ρ : Type) → Bool → Bool → Rows → (Bool → Option ρ) → Option ρ
def forest_Good_i1_E (G : forest_Good_i1_T) : EK := fun ρ args K => decL [.agg [.lst none none 1 none]] args fun c => G ρ c.1.1.1 c.1.1.2.1 c.1.1.2.2 (fun w0 => K ⟨.b w0, [], []⟩)
structure forest_Good_i1_G where
  mk ::
  forest_Forest_is : forest_Forest_is_T
abbrev forest_Good_i1_l4_V : Type := Int
noncomputable def forest_Good_i1_l4_s (G : forest_Good_i1_G) {ρ : Type} (_n : Nat) (_p0 : Bool) (_p1 : Bool) (p2 : Rows) (p3 : Int) (p4 : Bool) (p5 : Bool) (p6 : Rows) (k0 : (Option ρ)) (k1 : (Option ρ)) (rec' : forest_Good_i1_l4_V → Option ρ) : forest_Good_i1_l4_V → Option ρ
  | v =>
  bif decide ((v : Int) < p3) then
    rowT [.i .i64] p2 v fun c0 =>
    bif ((c0.1 : Int) != (-2)) then
      bif ((c0.1 : Int) != (-1)) then
        G.forest_Forest_is ρ p4 p5 p6 c0.1 (fun w1_0 =>
          bif w1_0 then
            rec' ((IntKind.wrap .i64 (v + 1)))
          else k0)
      else rec' ((IntKind.wrap .i64 (v + 1)))
    else rec' ((IntKind.wrap .i64 (v + 1)))
  else k1
noncomputable def forest_Good_i1_l4 (G : forest_Good_i1_G) {ρ : Type} (n : Nat) (p0 : Bool) (p1 : Bool) (p2 : Rows) (p3 : Int) (p4 : Bool) (p5 : Bool) (p6 : Rows) (k0 : (Option ρ)) (k1 : (Option ρ)) (v : forest_Good_i1_l4_V) : Option ρ := fuelN (forest_Good_i1_l4_s G n p0 p1 p2 p3 p4 p5 p6 k0 k1) n v
def forest_Good_i1_l4_enc (p0 : Bool) (p1 : Bool) (p2 : Rows) (p3 : Int) (p4 : Bool) (p5 : Bool) (p6 : Rows) : forest_Good_i1_l4_V → St
  | v => ⟨[(1, .ptr 0 1 1 0 0), (13, .lst p0 p1 1 p2), (14, .i .i64 p3), (15, .i .i64 v)], [.row 1 true false [[.lst p4 p5 1 p6]]]⟩
abbrev forest_Good_i1_l14_V : Type := Int × Int
noncomputable def forest_Good_i1_l14_s (G : forest_Good_i1_G) {ρ : Type} (_n : Nat) (_p1 : Int) (_p2 : Int) (p3 : Bool) (p4 : Bool) (p5 : Rows) (k0 : (Option ρ)) (k1 : (Option ρ)) (rec' : forest_Good_i1_l14_V → Option ρ) : forest_Good_i1_l14_V → Option ρ
  | v =>
  G.forest_Forest_is ρ p3 p4 p5 v.2 (fun w0_0 =>
    bif w0_0 then
      bif decide ((v.1 : Int) > (((List.length (p5 : Rows)) : Nat) : Int)) then
        k0
      else rowT [.i .i64] p5 v.2 fun c1 =>
      rec' ((IntKind.wrap .i64 (v.1 + 1)), c1.1)
    else k1)
noncomputable def forest_Good_i1_l14 (G : forest_Good_i1_G) {ρ : Type} (n : Nat) (p1 : Int) (p2 : Int) (p3 : Bool) (p4 : Bool) (p5 : Rows) (k0 : (Option ρ)) (k1 : (Option ρ)) (v : forest_Good_i1_l14_V) : Option ρ := fuelN (forest_Good_i1_l14_s G n p1 p2 p3 p4 p5 k0 k1) n v
def forest_Good_i1_l14_enc (p1 : Int) (p2 : Int) (p3 : Bool) (p4 : Bool) (p5 : Rows) : forest_Good_i1_l14_V → St
  | v => ⟨[(1, .ptr 0 1 1 0 0), (6, .i .i64 v.1), (7, .i .i64 v.2), (34, .i .i64 p1), (35, .i .i64 p2)], [.row 1 true false [[.lst p3 p4 1 p5]]]⟩
abbrev forest_Good_i1_l10_V : Type := Int
noncomputable def forest_Good_i1_l10_s (G : forest_Good_i1_G) {ρ : Type} (n : Nat) (p0 : Int) (p1 : Bool) (p2 : Bool) (p3 : Rows) (k0 : (Option ρ)) (k1 : (Option ρ)) (rec' : forest_Good_i1_l10_V → Option ρ) : forest_Good_i1_l10_V → Option ρ
  | v =>
  bif decide ((v : Int) < p0) then
    forest_Good_i1_l14 G n p0 v p1 p2 p3 (k0) (rec' ((IntKind.wrap .i64 (v + 1)))) (0, v)
  else k1
noncomputable def forest_Good_i1_l10 (G : forest_Good_i1_G) {ρ : Type} (n : Nat) (p0 : Int) (p1 : Bool) (p2 : Bool) (p3 : Rows) (k0 : (Option ρ)) (k1 : (Option ρ)) (v : forest_Good_i1_l10_V) : Option ρ := fuelN (forest_Good_i1_l10_s G n p0 p1 p2 p3 k0 k1) n v
def forest_Good_i1_l10_enc (p0 : Int) (p1 : Bool) (p2 : Bool) (p3 : Rows) : forest_Good_i1_l10_V → St
  | v => ⟨[(1, .ptr 0 1 1 0 0), (34, .i .i64 p0), (35, .i .i64 v)], [.row 1 true false [[.lst p1 p2 1 p3]]]⟩
noncomputable def forest_Good_i1_s (G : forest_Good_i1_G) {ρ : Type} (n : Nat) (a0 : Bool) (a1 : Bool) (a2 : Rows) (k0 : (Bool → Option ρ)) : Option ρ :=
  bif decide (((((List.length (a2 : Rows)) : Nat) : Int) : Int) > 96) then
    k0 false
  else forest_Good_i1_l4 G n a0 a1 a2 (((List.length (a2 : Rows)) : Nat) : Int) a0 a1 a2 (k0 false) (forest_Good_i1_l10 G n (((List.length (a2 : Rows)) : Nat) : Int) a0 a1 a2 (k0 false) (k0 true) (0)) (0)
noncomputable def forest_Good_i1_g (n : Nat) : forest_Good_i1_G := ⟨forest_Forest_is n⟩
noncomputable def forest_Good_i1 (n : Nat) : forest_Good_i1_T := fun _ρ a0 a1 a2 k0 => forest_Good_i1_s (forest_Good_i1_g n) n a0 a1 a2 k0
noncomputable def forest_Good_i1_e (n : Nat) : EK := forest_Good_i1_E (forest_Good_i1 n)
def forest_Good_i1_S (G : forest_Good_i1_G) : CK := tabS [(53, forest_Forest_is_E G.forest_Forest_is)]
theorem forest_Good_i1_Sok (n : Nat) : CK.OK (forest_Good_i1_S (forest_Good_i1_g n)) (L tab) := tabS_ok _ (List.forall_mem_cons.2 ⟨(forest_Forest_is_ok n), (fun _ h => nomatch h)⟩)
def forest_Good_i1_hs : HintC := hintL [(17, [.i .i64]), (45, [.i .i64])]
def forest_Good_i1_c4 : Nat × List Nat × List Nat × MC := loopAt 4 m27
noncomputable def forest_Good_i1_l4_d (G : forest_Good_i1_G) (n : Nat) : Go.Rv.LE := fun _ρ h K => decSt [(1, .ptr 0 1 0 (some 1) (some 0)), (13, .lst none none 1 none), (14, .i .i64 none), (15, .i .i64 none)] [.row 1 true false (some [[.lst none none 1 none]])] h fun a b => forest_Good_i1_l4 G n a.2.1.1 a.2.1.2.1 a.2.1.2.2 a.2.2.1 b.1.1.1.1 b.1.1.1.2.1 b.1.1.1.2.2 (K .ret ⟨[(1, .ptr 0 1 1 0 0), (2, .b false)], [.row 1 true false [[.lst b.1.1.1.1 b.1.1.1.2.1 1 b.1.1.1.2.2]]]⟩) (K (.exit 0) ⟨[(1, .ptr 0 1 1 0 0), (2, .u)], [.row 1 true false [[.lst b.1.1.1.1 b.1.1.1.2.1 1 b.1.1.1.2.2]]]⟩) (a.2.2.2.1)
noncomputable def forest_Good_i1_d4 (G : forest_Good_i1_G) (n : Nat) : Go.Rv.LE := forest_Good_i1_l4_d G n
def forest_Good_i1_c14 : Nat × List Nat × List Nat × MC := loopAt 14 m27
noncomputable def forest_Good_i1_l14_d (G : forest_Good_i1_G) (n : Nat) : Go.Rv.LE := fun _ρ h K => decSt [(1, .ptr 0 1 0 (some 1) (some 0)), (6, .i .i64 none), (7, .i .i64 none), (34, .i .i64 none), (35, .i .i64 none)] [.row 1 true false (some [[.lst none none 1 none]])] h fun a b => forest_Good_i1_l14 G n a.2.2.2.1 a.2.2.2.2.1 b.1.1.1.1 b.1.1.1.2.1 b.1.1.1.2.2 (K .ret ⟨[(1, .ptr 0 1 1 0 0), (2, .b false), (34, .i .i64 a.2.2.2.1), (35, .i .i64 a.2.2.2.2.1)], [.row 1 true false [[.lst b.1.1.1.1 b.1.1.1.2.1 1 b.1.1.1.2.2]]]⟩) (K (.exit 4) ⟨[(1, .ptr 0 1 1 0 0), (2, .u), (34, .i .i64 a.2.2.2.1), (35, .i .i64 a.2.2.2.2.1)], [.row 1 true false [[.lst b.1.1.1.1 b.1.1.1.2.1 1 b.1.1.1.2.2]]]⟩) (a.2.1, a.2.2.1)
noncomputable def forest_Good_i1_d14 (G : forest_Good_i1_G) (n : Nat) : Go.Rv.LE := forest_Good_i1_l14_d G n
def forest_Good_i1_c10 : Nat × List Nat × List Nat × MC := loopAt 10 m27
noncomputable def forest_Good_i1_l10_d (G : forest_Good_i1_G) (n : Nat) : Go.Rv.LE := fun _ρ h K => decSt [(1, .ptr 0 1 0 (some 1) (some 0)), (34, .i .i64 none), (35, .i .i64 none)] [.row 1 true false (some [[.lst none none 1 none]])] h fun a b => forest_Good_i1_l10 G n a.2.1 b.1.1.1.1 b.1.1.1.2.1 b.1.1.1.2.2 (K .ret ⟨[(2, .b false)], [.row 1 true false [[.lst b.1.1.1.1 b.1.1.1.2.1 1 b.1.1.1.2.2]]]⟩) (K (.exit 2) ⟨[(2, .u)], [.row 1 true false [[.lst b.1.1.1.1 b.1.1.1.2.1 1 b.1.1.1.2.2]]]⟩) (a.2.2.1)
noncomputable def forest_Good_i1_d10 (G : forest_Good_i1_G) (n : Nat) : Go.Rv.LE := forest_Good_i1_l10_d G n
noncomputable def forest_Good_i1_lp (G : forest_Good_i1_G) (n : Nat) : LK := tabL [(4, forest_Good_i1_d4 G n), (14, forest_Good_i1_d14 G n), (10, forest_Good_i1_d10 G n)]
theorem forest_Good_i1_l4_k (G : forest_Good_i1_G) {ρ : Type} (n : Nat) (p0 : Bool) (p1 : Bool) (p2 : Rows) (p3 : Int) (p4 : Bool) (p5 : Bool) (p6 : Rows) (K : Ex → St → Option ρ) (N : St → Option ρ) : ∀ v, roundC (forest_Good_i1_S G) forest_Good_i1_hs (forest_Good_i1_lp G n) forest_Good_i1_c4 1 N K (forest_Good_i1_l4_enc p0 p1 p2 p3 p4 p5 p6 v) = forest_Good_i1_l4_s G n p0 p1 p2 p3 p4 p5 p6 (K .ret ⟨[(1, .ptr 0 1 1 0 0), (2, .b false)], [.row 1 true false [[.lst p4 p5 1 p6]]]⟩) (K (.exit 0) ⟨[(1, .ptr 0 1 1 0 0), (2, .u)], [.row 1 true false [[.lst p4 p5 1 p6]]]⟩) (fun v => N (forest_Good_i1_l4_enc p0 p1 p2 p3 p4 p5 p6 v)) v
  | v => by kernel_rfl
theorem forest_Good_i1_l4_dok (n : Nat) : LE.OK (forest_Good_i1_l4_d (forest_Good_i1_g n) n) (L tab) forest_Good_i1_c4 := LE.shp (fun _ _ _ => rfl) fun ρ K y a b e => LE.rounds (forest_Good_i1_Sok n) (LK.of (l := []) (by kernel_rfl) ((fun _ h => nomatch h))) (forest_Good_i1_l4_k (forest_Good_i1_g n) n _ _ _ _ _ _ _ K) (by kernel_rfl) (by kernel_rfl) e
theorem forest_Good_i1_d4_ok (n : Nat) : LE.OK (forest_Good_i1_d4 (forest_Good_i1_g n) n) (L tab) forest_Good_i1_c4 := forest_Good_i1_l4_dok n
theorem forest_Good_i1_l14_k (G : forest_Good_i1_G) {ρ : Type} (n : Nat) (p1 : Int) (p2 : Int) (p3 : Bool) (p4 : Bool) (p5 : Rows) (K : Ex → St → Option ρ) (N : St → Option ρ) : ∀ v, roundC (forest_Good_i1_S G) forest_Good_i1_hs (forest_Good_i1_lp G n) forest_Good_i1_c14 1 N K (forest_Good_i1_l14_enc p1 p2 p3 p4 p5 v) = forest_Good_i1_l14_s G n p1 p2 p3 p4 p5 (K .ret ⟨[(1, .ptr 0 1 1 0 0), (2, .b false), (34, .i .i64 p1), (35, .i .i64 p2)], [.row 1 true false [[.lst p3 p4 1 p5]]]⟩) (K (.exit 4) ⟨[(1, .ptr 0 1 1 0 0), (2, .u), (34, .i .i64 p1), (35, .i .i64 p2)], [.row 1 true false [[.lst p3 p4 1 p5]]]⟩) (fun v => N (forest_Good_i1_l14_enc p1 p2 p3 p4 p5 v)) v
  | v => by kernel_rfl
theorem forest_Good_i1_l14_dok (n : Nat) : LE.OK (forest_Good_i1_l14_d (forest_Good_i1_g n) n) (L tab) forest_Good_i1_c14 := LE.shp (fun _ _ _ => rfl) fun ρ K y a b e => LE.rounds (forest_Good_i1_Sok n) (LK.of (l := []) (by kernel_rfl) ((fun _ h => nomatch h))) (forest_Good_i1_l14_k (forest_Good_i1_g n) n _ _ _ _ _ K) (by kernel_rfl) (by kernel_rfl) e
theorem forest_Good_i1_d14_ok (n : Nat) : LE.OK (forest_Good_i1_d14 (forest_Good_i1_g n) n) (L tab) forest_Good_i1_c14 := forest_Good_i1_l14_dok n
theorem forest_Good_i1_l10_k (G : forest_Good_i1_G) {ρ : Type} (n : Nat) (p0 : Int) (p1 : Bool) (p2 : Bool) (p3 : Rows) (K : Ex → St → Option ρ) (N : St → Option ρ) : ∀ v, roundC (forest_Good_i1_S G) forest_Good_i1_hs (forest_Good_i1_lp G n) forest_Good_i1_c10 1 N K (forest_Good_i1_l10_enc p0 p1 p2 p3 v) = forest_Good_i1_l10_s G n p0 p1 p2 p3 (K .ret ⟨[(2, .b false)], [.row 1 true false [[.lst p1 p2 1 p3]]]⟩) (K (.exit 2) ⟨[(2, .u)], [.row 1 true false [[.lst p1 p2 1 p3]]]⟩) (fun v => N (forest_Good_i1_l10_enc p0 p1 p2 p3 v)) v
  | v => by kernel_rfl
theorem forest_Good_i1_l10_dok (n : Nat) : LE.OK (forest_Good_i1_l10_d (forest_Good_i1_g n) n) (L tab) forest_Good_i1_c10 := LE.shp (fun _ _ _ => rfl) fun ρ K y a b e => LE.rounds (forest_Good_i1_Sok n) (LK.of (l := [forest_Good_i1_c14]) (by kernel_rfl) (List.forall_mem_cons.2 ⟨LE.at (e := forest_Good_i1_d14 (forest_Good_i1_g n) n) (by kernel_rfl) (forest_Good_i1_d14_ok n), (fun _ h => nomatch h)⟩)) (forest_Good_i1_l10_k (forest_Good_i1_g n) n _ _ _ _ K) (by kernel_rfl) (by kernel_rfl) e
theorem forest_Good_i1_d10_ok (n : Nat) : LE.OK (forest_Good_i1_d10 (forest_Good_i1_g n) n) (L tab) forest_Good_i1_c10 := forest_Good_i1_l10_dok n
theorem forest_Good_i1_k (G : forest_Good_i1_G) {ρ : Type} (n : Nat) (a0 : Bool) (a1 : Bool) (a2 : Rows) (K : Res → Option ρ) : runC (forest_Good_i1_S G) forest_Good_i1_hs (forest_Good_i1_lp G n) m27 [.agg [.lst a0 a1 1 a2]] K = forest_Good_i1_s G n a0 a1 a2 (fun w0 => K ⟨.b w0, [], []⟩) := by kernel_rfl
theorem forest_Good_i1_ok (n : Nat) : EK.OK (forest_Good_i1_e n) 27 (L tab) := EK.shp (fun _ _ _ => rfl) fun ρ K y c e => EK.run (forest_Good_i1_Sok n) (by kernel_rfl) (MF.LKOK.of (LK.of (l := [forest_Good_i1_c4, forest_Good_i1_c10]) (by kernel_rfl) (List.forall_mem_cons.2 ⟨LE.at (e := forest_Good_i1_d4 (forest_Good_i1_g n) n) (by kernel_rfl) (forest_Good_i1_d4_ok n), List.forall_mem_cons.2 ⟨LE.at (e := forest_Good_i1_d10 (forest_Good_i1_g n) n) (by kernel_rfl) (forest_Good_i1_d10_ok n), (fun _ h => nomatch h)⟩⟩))) (forest_Good_i1_k (forest_Good_i1_g n) n _ _ _ K) (by kernel_rfl) e

/-! reeve/state.Good -/
abbrev state_Good_T : Type 1 := (ρ : Type) → Int → Int → Int → Bool → Bool → Rows → Bool → Bool → Rows → (Bool → Option ρ) → Option ρ
def state_Good_E (G : state_Good_T) : EK := fun ρ args K => decL [.agg [.i .i64 none, .i .i64 none, .i .i64 none, .lst none none 5 none, .lst none none 13 none]] args fun c => G ρ c.1.1 c.1.2.1 c.1.2.2.1 c.1.2.2.2.1.1 c.1.2.2.2.1.2.1 c.1.2.2.2.1.2.2 c.1.2.2.2.2.1.1 c.1.2.2.2.2.1.2.1 c.1.2.2.2.2.1.2.2 (fun w0 => K ⟨.b w0, [], []⟩)
structure state_Good_G where
  mk ::
  geo_Good : geo_Good_T
  state_State_caps : state_State_caps_T
  state_State_things : state_State_things_T
  state_State_nodes : state_State_nodes_T
  state_State_ring : state_State_ring_T
  state_Forest : state_Forest_T
  forest_Good : forest_Good_T
  state_State_allowed : state_State_allowed_T
  forest_Good_i1 : forest_Good_i1_T
noncomputable def state_Good_s (G : state_Good_G) {ρ : Type} (_n : Nat) (a0 : Int) (a1 : Int) (a2 : Int) (a3 : Bool) (a4 : Bool) (a5 : Rows) (a6 : Bool) (a7 : Bool) (a8 : Rows) (k0 : (Bool → Option ρ)) : Option ρ :=
  G.geo_Good ρ a0 a1 a2 (fun w0_0 =>
    bif w0_0 then
      bif (((((List.length (a5 : Rows)) : Nat) : Int) : Int) != a1) then
        k0 false
      else bif (((((List.length (a8 : Rows)) : Nat) : Int) : Int) != a2) then
        k0 false
      else G.state_State_caps ρ a0 a1 a2 a3 a4 a5 a6 a7 a8 (fun w1_0 =>
        bif w1_0 then
          G.state_State_things ρ a0 a1 a2 a3 a4 a5 a6 a7 a8 (fun w2_0 =>
            bif w2_0 then
              G.state_State_nodes ρ a0 a1 a2 a3 a4 a5 a6 a7 a8 (fun w3_0 =>
                bif w3_0 then
                  G.state_State_ring ρ a0 a1 a2 a3 a4 a5 a6 a7 a8 (fun w4_0 =>
                    bif w4_0 then
                      k0 false
                    else G.state_Forest ρ a0 a1 a2 a3 a4 a5 a6 a7 a8 (G.forest_Good ρ true true (G.state_State_allowed ρ a0 a1 a2 a3 a4 a5 a6 a7 a8 (fun w7_0 =>
                          bif w7_0 then
                            k0 true
                          else k0 false))) (fun w8_0 w8_1 w8_2 =>
                      chk (((List.length (w8_2 : Rows)) : Nat) == w8_0) <|
                      G.forest_Good_i1 ρ false false (List.take w8_1 (List.drop 0 (w8_2 : Rows))) (fun w9_0 =>
                        bif w9_0 then
                          G.state_State_allowed ρ a0 a1 a2 a3 a4 a5 a6 a7 a8 (fun w10_0 =>
                            bif w10_0 then
                              k0 true
                            else k0 false)
                        else k0 false)))
                else k0 false)
            else k0 false)
        else k0 false)
    else k0 false)
noncomputable def state_Good_g (n : Nat) : state_Good_G := ⟨geo_Good n, state_State_caps n, state_State_things n, state_State_nodes n, state_State_ring n, state_Forest n, forest_Good n, state_State_allowed n, forest_Good_i1 n⟩
noncomputable def state_Good (n : Nat) : state_Good_T := fun _ρ a0 a1 a2 a3 a4 a5 a6 a7 a8 k0 => state_Good_s (state_Good_g n) n a0 a1 a2 a3 a4 a5 a6 a7 a8 k0
noncomputable def state_Good_e (n : Nat) : EK := state_Good_E (state_Good n)
def state_Good_S (G : state_Good_G) : CK := tabS [(15, geo_Good_E G.geo_Good), (37, state_State_caps_E G.state_State_caps), (38, state_State_things_E G.state_State_things), (39, state_State_nodes_E G.state_State_nodes), (40, state_State_ring_E G.state_State_ring), (25, state_Forest_E G.state_Forest), (27, altE [.agg [.lst none none 0 (some [])]] (forest_Good_E G.forest_Good) (forest_Good_i1_E G.forest_Good_i1)), (41, state_State_allowed_E G.state_State_allowed)]
theorem state_Good_Sok (n : Nat) : CK.OK (state_Good_S (state_Good_g n)) (L tab) := tabS_ok _ (List.forall_mem_cons.2 ⟨(geo_Good_ok n), List.forall_mem_cons.2 ⟨(state_State_caps_ok n), List.forall_mem_cons.2 ⟨(state_State_things_ok n), List.forall_mem_cons.2 ⟨(state_State_nodes_ok n), List.forall_mem_cons.2 ⟨(state_State_ring_ok n), List.forall_mem_cons.2 ⟨(state_Forest_ok n), List.forall_mem_cons.2 ⟨altE_ok (forest_Good_ok n) ((forest_Good_i1_ok n)), List.forall_mem_cons.2 ⟨(state_State_allowed_ok n), (fun _ h => nomatch h)⟩⟩⟩⟩⟩⟩⟩⟩)
def state_Good_hs : HintC := hintL []
noncomputable def state_Good_lp (_G : state_Good_G) (_n : Nat) : LK := tabL []
theorem state_Good_k (G : state_Good_G) {ρ : Type} (n : Nat) (a0 : Int) (a1 : Int) (a2 : Int) (a3 : Bool) (a4 : Bool) (a5 : Rows) (a6 : Bool) (a7 : Bool) (a8 : Rows) (K : Res → Option ρ) : runC (state_Good_S G) state_Good_hs (state_Good_lp G n) m11 [.agg [.i .i64 a0, .i .i64 a1, .i .i64 a2, .lst a3 a4 5 a5, .lst a6 a7 13 a8]] K = state_Good_s G n a0 a1 a2 a3 a4 a5 a6 a7 a8 (fun w0 => K ⟨.b w0, [], []⟩) := by kernel_rfl
theorem state_Good_ok (n : Nat) : EK.OK (state_Good_e n) 11 (L tab) := EK.shp (fun _ _ _ => rfl) fun ρ K y c e => EK.run (state_Good_Sok n) (by kernel_rfl) (MF.LKOK.of (LK.of (l := []) (by kernel_rfl) ((fun _ h => nomatch h)))) (state_Good_k (state_Good_g n) n _ _ _ _ _ _ _ _ _ K) (by kernel_rfl) e

/-! reeve/reevelaw12.awake -/
abbrev reevelaw12_awake_T : Type 1 := (ρ : Type) → (Bool → Option ρ) → Option ρ
def reevelaw12_awake_E (G : reevelaw12_awake_T) : EK := fun ρ args K => decL [] args fun _c => G ρ (fun w0 => K ⟨.b w0, [], []⟩)
structure reevelaw12_awake_G where
  mk ::
  geo_Plain : geo_Plain_T
  state_New : state_New_T
  cap_None : cap_None_T
  state_Good : state_Good_T
abbrev reevelaw12_awake_l4_0_V : Type := Int × Int
noncomputable def reevelaw12_awake_l4_0_s (G : reevelaw12_awake_G) {ρ : Type} (_n : Nat) (p0 : Rows) (_p1 : Rows) (p2 : Nat) (p3 : Nat) (_p4 : Nat) (_p5 : Nat) (k0 : (Int → Option ρ)) (rec' : reevelaw12_awake_l4_0_V → Option ρ) : reevelaw12_awake_l4_0_V → Option ρ
  | v =>
  bif decide ((v.2 : Int) < ((p3 : Nat) : Int)) then
    chk (decide ((0 : Int) ≤ v.2)) <|
    chk (decide ((v.2 : Int) < ((p3 : Nat) : Int))) <|
    chk (((List.length (p0 : Rows)) : Nat) == p2) <|
    rowN [.i .i64, .i .i64, .i .i64, .i .i64, .i .i64] p0 (0 + v.2.toNat) fun c0 =>
    G.cap_None ρ c0.1 c0.2.1 c0.2.2.1 c0.2.2.2.1 (fun w1_0 =>
      bif w1_0 then
        rec' (v.1, (IntKind.wrap .i64 (v.2 + 1)))
      else rec' ((IntKind.wrap .i64 (v.1 + 1)), (IntKind.wrap .i64 (v.2 + 1))))
  else k0 v.1
noncomputable def reevelaw12_awake_l4_0 (G : reevelaw12_awake_G) {ρ : Type} (n : Nat) (p0 : Rows) (p1 : Rows) (p2 : Nat) (p3 : Nat) (p4 : Nat) (p5 : Nat) (k0 : (Int → Option ρ)) (v : reevelaw12_awake_l4_0_V) : Option ρ := fuelN (reevelaw12_awake_l4_0_s G n p0 p1 p2 p3 p4 p5 k0) n v
def reevelaw12_awake_l4_0_enc (p0 : Rows) (p1 : Rows) (p2 : Nat) (p3 : Nat) (p4 : Nat) (p5 : Nat) : reevelaw12_awake_l4_0_V → St
  | v => ⟨[(1, .ptr 2 1 5 0 0), (2, .i .i64 0), (3, .i .i64 v.1), (4, .i .i64 v.2)], [.row 5 true false p0, .row 13 true false p1, .row 5 false false [[.i .i64 2, .i .i64 32, .i .i64 16, .sl 0 p2 5 0 p3, .sl 1 p4 13 0 p5]]]⟩
abbrev reevelaw12_awake_l4_1_V : Type := Unit
noncomputable def reevelaw12_awake_l4_1_s (_G : reevelaw12_awake_G) {ρ : Type} (_n : Nat)  (k0 : (Option ρ)) (_rec' : reevelaw12_awake_l4_1_V → Option ρ) : reevelaw12_awake_l4_1_V → Option ρ
  | _v =>
  k0
noncomputable def reevelaw12_awake_l4_1 (G : reevelaw12_awake_G) {ρ : Type} (n : Nat)  (k0 : (Option ρ)) (v : reevelaw12_awake_l4_1_V) : Option ρ := fuelN (reevelaw12_awake_l4_1_s G n  k0) n v
def reevelaw12_awake_l4_1_enc  : reevelaw12_awake_l4_1_V → St
  | _v => ⟨[(1, .ptr 0 1 5 0 0), (2, .i .i64 1), (3, .i .i64 0), (4, .i .i64 0)], [.row 5 true false [[.i .i64 0, .i .i64 0, .i .i64 0, .lst true true 0 [], .lst true true 0 []]]]⟩
noncomputable def reevelaw12_awake_s (G : reevelaw12_awake_G) {ρ : Type} (n : Nat)  (k0 : (Bool → Option ρ)) : Option ρ :=
  G.geo_Plain ρ (G.state_New ρ 2 32 16 64 (fun w1_0 w1_1 w1_2 w1_3 w1_4 w1_5 =>
      reevelaw12_awake_l4_0 G n w1_4 w1_5 w1_0 w1_1 w1_2 w1_3 (fun w2_0 =>
        bif ((w2_0 : Int) == 3) then
          chk (((List.length (w1_4 : Rows)) : Nat) == w1_0) <|
          chk (((List.length (w1_5 : Rows)) : Nat) == w1_2) <|
          G.state_Good ρ 2 32 16 false false (List.take w1_1 (List.drop 0 (w1_4 : Rows))) false false (List.take w1_3 (List.drop 0 (w1_5 : Rows))) (fun w3_0 =>
            bif w3_0 then
              bif ((((w1_3 : Nat) : Int) : Int) == 16) then
                bif ((((w1_1 : Nat) : Int) : Int) == 32) then
                  k0 true
                else k0 false
              else k0 false
            else k0 false)
        else k0 false) (0, 0)) (reevelaw12_awake_l4_1 G n (k0 false) ()))
noncomputable def reevelaw12_awake_g (n : Nat) : reevelaw12_awake_G := ⟨geo_Plain n, state_New n, cap_None n, state_Good n⟩
noncomputable def reevelaw12_awake (n : Nat) : reevelaw12_awake_T := fun _ρ k0 => reevelaw12_awake_s (reevelaw12_awake_g n) n k0
noncomputable def reevelaw12_awake_e (n : Nat) : EK := reevelaw12_awake_E (reevelaw12_awake n)
def reevelaw12_awake_S (G : reevelaw12_awake_G) : CK := tabS [(24, geo_Plain_E G.geo_Plain), (14, state_New_E G.state_New), (12, cap_None_E G.cap_None), (11, state_Good_E G.state_Good)]
theorem reevelaw12_awake_Sok (n : Nat) : CK.OK (reevelaw12_awake_S (reevelaw12_awake_g n)) (L tab) := tabS_ok _ (List.forall_mem_cons.2 ⟨(geo_Plain_ok n), List.forall_mem_cons.2 ⟨(state_New_ok n), List.forall_mem_cons.2 ⟨(cap_None_ok n), List.forall_mem_cons.2 ⟨(state_Good_ok n), (fun _ h => nomatch h)⟩⟩⟩⟩)
def reevelaw12_awake_hs : HintC := hintL [(22, [.i .i64, .i .i64, .i .i64, .i .i64, .i .i64])]
def reevelaw12_awake_c4 : Nat × List Nat × List Nat × MC := loopAt 4 m9
noncomputable def reevelaw12_awake_l4_0_d (G : reevelaw12_awake_G) (n : Nat) : Go.Rv.LE := fun _ρ h K => decSt [(1, .ptr 2 5 0 (some 1) (some 0)), (2, .i .i64 (some 0)), (3, .i .i64 none), (4, .i .i64 none)] [.row 5 true false none, .row 13 true false none, .row 5 false false (some [[.i .i64 (some 2), .i .i64 (some 32), .i .i64 (some 16), .sl 0 5 none (some 0) none, .sl 1 13 none (some 0) none]])] h fun a b => reevelaw12_awake_l4_0 G n b.1 b.2.1 b.2.2.1.1.2.2.2.1.1 b.2.2.1.1.2.2.2.1.2.2 b.2.2.1.1.2.2.2.2.1.1 b.2.2.1.1.2.2.2.2.1.2.2 (fun w0 => K (.exit 0) ⟨[(1, .ptr 2 1 5 0 0), (2, .i .i64 0), (3, .i .i64 w0)], [.row 5 true false b.1, .row 13 true false b.2.1, .row 5 false false [[.i .i64 2, .i .i64 32, .i .i64 16, .sl 0 b.2.2.1.1.2.2.2.1.1 5 0 b.2.2.1.1.2.2.2.1.2.2, .sl 1 b.2.2.1.1.2.2.2.2.1.1 13 0 b.2.2.1.1.2.2.2.2.1.2.2]]]⟩) (a.2.2.1, a.2.2.2.1)
noncomputable def reevelaw12_awake_l4_1_d (G : reevelaw12_awake_G) (n : Nat) : Go.Rv.LE := fun _ρ h K => decSt [(1, .ptr 0 5 0 (some 1) (some 0)), (2, .i .i64 (some 1)), (3, .i .i64 (some 0)), (4, .i .i64 (some 0))] [.row 5 true false (some [[.i .i64 (some 0), .i .i64 (some 0), .i .i64 (some 0), .lst (some true) (some true) 0 (some []), .lst (some true) (some true) 0 (some [])]])] h fun _a _b => reevelaw12_awake_l4_1 G n (K (.exit 0) ⟨[(1, .ptr 0 1 5 0 0), (2, .i .i64 1), (3, .i .i64 0)], [.row 5 true false [[.i .i64 0, .i .i64 0, .i .i64 0, .lst true true 0 [], .lst true true 0 []]]]⟩) ()
noncomputable def reevelaw12_awake_d4 (G : reevelaw12_awake_G) (n : Nat) : Go.Rv.LE := altL [(1, .ptr 2 5 0 (some 1) (some 0)), (2, .i .i64 (some 0)), (3, .i .i64 none), (4, .i .i64 none)] [.row 5 true false none, .row 13 true false none, .row 5 false false (some [[.i .i64 (some 2), .i .i64 (some 32), .i .i64 (some 16), .sl 0 5 none (some 0) none, .sl 1 13 none (some 0) none]])] (reevelaw12_awake_l4_0_d G n) (reevelaw12_awake_l4_1_d G n)
noncomputable def reevelaw12_awake_lp (G : reevelaw12_awake_G) (n : Nat) : LK := tabL [(4, reevelaw12_awake_d4 G n)]
theorem reevelaw12_awake_l4_0_k (G : reevelaw12_awake_G) {ρ : Type} (n : Nat) (p0 : Rows) (p1 : Rows) (p2 : Nat) (p3 : Nat) (p4 : Nat) (p5 : Nat) (K : Ex → St → Option ρ) (N : St → Option ρ) : ∀ v, roundC (reevelaw12_awake_S G) reevelaw12_awake_hs (reevelaw12_awake_lp G n) reevelaw12_awake_c4 3 N K (reevelaw12_awake_l4_0_enc p0 p1 p2 p3 p4 p5 v) = reevelaw12_awake_l4_0_s G n p0 p1 p2 p3 p4 p5 (fun w0 => K (.exit 0) ⟨[(1, .ptr 2 1 5 0 0), (2, .i .i64 0), (3, .i .i64 w0)], [.row 5 true false p0, .row 13 true false p1, .row 5 false false [[.i .i64 2, .i .i64 32, .i .i64 16, .sl 0 p2 5 0 p3, .sl 1 p4 13 0 p5]]]⟩) (fun v => N (reevelaw12_awake_l4_0_enc p0 p1 p2 p3 p4 p5 v)) v
  | v => by kernel_rfl
theorem reevelaw12_awake_l4_0_dok (n : Nat) : LE.OK (reevelaw12_awake_l4_0_d (reevelaw12_awake_g n) n) (L tab) reevelaw12_awake_c4 := LE.shp (fun _ _ _ => rfl) fun ρ K y a b e => LE.rounds (reevelaw12_awake_Sok n) (LK.of (l := []) (by kernel_rfl) ((fun _ h => nomatch h))) (reevelaw12_awake_l4_0_k (reevelaw12_awake_g n) n _ _ _ _ _ _ K) (by kernel_rfl) (by kernel_rfl) e
theorem reevelaw12_awake_l4_1_k (G : reevelaw12_awake_G) {ρ : Type} (n : Nat)  (K : Ex → St → Option ρ) (N : St → Option ρ) : ∀ v, roundC (reevelaw12_awake_S G) reevelaw12_awake_hs (reevelaw12_awake_lp G n) reevelaw12_awake_c4 1 N K (reevelaw12_awake_l4_1_enc  v) = reevelaw12_awake_l4_1_s G n  (K (.exit 0) ⟨[(1, .ptr 0 1 5 0 0), (2, .i .i64 1), (3, .i .i64 0)], [.row 5 true false [[.i .i64 0, .i .i64 0, .i .i64 0, .lst true true 0 [], .lst true true 0 []]]]⟩) (fun v => N (reevelaw12_awake_l4_1_enc  v)) v
  | v => by kernel_rfl
theorem reevelaw12_awake_l4_1_dok (n : Nat) : LE.OK (reevelaw12_awake_l4_1_d (reevelaw12_awake_g n) n) (L tab) reevelaw12_awake_c4 := LE.shp (fun _ _ _ => rfl) fun ρ K y a b e => LE.rounds (reevelaw12_awake_Sok n) (LK.of (l := []) (by kernel_rfl) ((fun _ h => nomatch h))) (reevelaw12_awake_l4_1_k (reevelaw12_awake_g n) n  K) (by kernel_rfl) (by kernel_rfl) e
theorem reevelaw12_awake_d4_ok (n : Nat) : LE.OK (reevelaw12_awake_d4 (reevelaw12_awake_g n) n) (L tab) reevelaw12_awake_c4 := altL_ok (reevelaw12_awake_l4_0_dok n) (reevelaw12_awake_l4_1_dok n)
theorem reevelaw12_awake_k (G : reevelaw12_awake_G) {ρ : Type} (n : Nat)  (K : Res → Option ρ) : runC (reevelaw12_awake_S G) reevelaw12_awake_hs (reevelaw12_awake_lp G n) m9 [] K = reevelaw12_awake_s G n  (fun w0 => K ⟨.b w0, [], []⟩) := by kernel_rfl
theorem reevelaw12_awake_ok (n : Nat) : EK.OK (reevelaw12_awake_e n) 9 (L tab) := EK.shp (fun _ _ _ => rfl) fun ρ K y c e => EK.run (reevelaw12_awake_Sok n) (by kernel_rfl) (MF.LKOK.of (LK.of (l := [reevelaw12_awake_c4]) (by kernel_rfl) (List.forall_mem_cons.2 ⟨LE.at (e := reevelaw12_awake_d4 (reevelaw12_awake_g n) n) (by kernel_rfl) (reevelaw12_awake_d4_ok n), (fun _ h => nomatch h)⟩))) (reevelaw12_awake_k (reevelaw12_awake_g n) n  K) (by kernel_rfl) e

/-! reeve/reevelaw12.heavy -/
abbrev reevelaw12_heavy_T : Type 1 := (ρ : Type) → Int → Int → Int → Bool → Bool → Rows → Bool → Bool → Rows → (Bool → Option ρ) → Option ρ
def reevelaw12_heavy_E (G : reevelaw12_heavy_T) : EK := fun ρ args K => decL [.agg [.i .i64 none, .i .i64 none, .i .i64 none, .lst none none 5 none, .lst none none 13 none]] args fun c => G ρ c.1.1 c.1.2.1 c.1.2.2.1 c.1.2.2.2.1.1 c.1.2.2.2.1.2.1 c.1.2.2.2.1.2.2 c.1.2.2.2.2.1.1 c.1.2.2.2.2.1.2.1 c.1.2.2.2.2.1.2.2 (fun w0 => K ⟨.b w0, [], []⟩)
structure reevelaw12_heavy_G where
  mk ::
noncomputable def reevelaw12_heavy_s (_G : reevelaw12_heavy_G) {ρ : Type} (_n : Nat) (_a0 : Int) (_a1 : Int) (_a2 : Int) (_a3 : Bool) (_a4 : Bool) (a5 : Rows) (_a6 : Bool) (_a7 : Bool) (a8 : Rows) (k0 : (Bool → Option ρ)) : Option ρ :=
  bif decide (((((List.length (a5 : Rows)) : Nat) : Int) : Int) > 100) then
    k0 true
  else bif decide (((((List.length (a8 : Rows)) : Nat) : Int) : Int) > 50) then
    k0 true
  else k0 false
noncomputable def reevelaw12_heavy_g (_n : Nat) : reevelaw12_heavy_G := ⟨⟩
noncomputable def reevelaw12_heavy (n : Nat) : reevelaw12_heavy_T := fun _ρ a0 a1 a2 a3 a4 a5 a6 a7 a8 k0 => reevelaw12_heavy_s (reevelaw12_heavy_g n) n a0 a1 a2 a3 a4 a5 a6 a7 a8 k0
noncomputable def reevelaw12_heavy_e (n : Nat) : EK := reevelaw12_heavy_E (reevelaw12_heavy n)
def reevelaw12_heavy_S (_G : reevelaw12_heavy_G) : CK := tabS []
theorem reevelaw12_heavy_Sok (n : Nat) : CK.OK (reevelaw12_heavy_S (reevelaw12_heavy_g n)) (L tab) := tabS_ok _ ((fun _ h => nomatch h))
def reevelaw12_heavy_hs : HintC := hintL []
noncomputable def reevelaw12_heavy_lp (_G : reevelaw12_heavy_G) (_n : Nat) : LK := tabL []
theorem reevelaw12_heavy_k (G : reevelaw12_heavy_G) {ρ : Type} (n : Nat) (a0 : Int) (a1 : Int) (a2 : Int) (a3 : Bool) (a4 : Bool) (a5 : Rows) (a6 : Bool) (a7 : Bool) (a8 : Rows) (K : Res → Option ρ) : runC (reevelaw12_heavy_S G) reevelaw12_heavy_hs (reevelaw12_heavy_lp G n) m10 [.agg [.i .i64 a0, .i .i64 a1, .i .i64 a2, .lst a3 a4 5 a5, .lst a6 a7 13 a8]] K = reevelaw12_heavy_s G n a0 a1 a2 a3 a4 a5 a6 a7 a8 (fun w0 => K ⟨.b w0, [], []⟩) := by kernel_rfl
theorem reevelaw12_heavy_ok (n : Nat) : EK.OK (reevelaw12_heavy_e n) 10 (L tab) := EK.shp (fun _ _ _ => rfl) fun ρ K y c e => EK.run (reevelaw12_heavy_Sok n) (by kernel_rfl) (MF.LKOK.of (LK.of (l := []) (by kernel_rfl) ((fun _ h => nomatch h)))) (reevelaw12_heavy_k (reevelaw12_heavy_g n) n _ _ _ _ _ _ _ _ _ K) (by kernel_rfl) e

/-! slices.Equal[[]reeve/state.Slot,reeve/state.Slot] -/
abbrev slices_Equal_Slot_T : Type 1 := (ρ : Type) → Bool → Bool → Rows → Bool → Bool → Rows → (Bool → Option ρ) → Option ρ
def slices_Equal_Slot_E (G : slices_Equal_Slot_T) : EK := fun ρ args K => decL [.lst none none 5 none, .lst none none 5 none] args fun c => G ρ c.1.1 c.1.2.1 c.1.2.2 c.2.1.1 c.2.1.2.1 c.2.1.2.2 (fun w0 => K ⟨.b w0, [], []⟩)
structure slices_Equal_Slot_G where
  mk ::
abbrev slices_Equal_Slot_l4_V : Type := Int
noncomputable def slices_Equal_Slot_l4_s (_G : slices_Equal_Slot_G) {ρ : Type} (_n : Nat) (_p0 : Bool) (_p1 : Bool) (p2 : Rows) (_p3 : Bool) (_p4 : Bool) (p5 : Rows) (p6 : Int) (k0 : (Option ρ)) (k1 : (Option ρ)) (rec' : slices_Equal_Slot_l4_V → Option ρ) : slices_Equal_Slot_l4_V → Option ρ
  | v =>
  bif decide ((v : Int) < p6) then
    rowT [.i .i64, .i .i64, .i .i64, .i .i64, .i .i64] p2 v fun c0 =>
    rowT [.i .i64, .i .i64, .i .i64, .i .i64, .i .i64] p5 v fun c1 =>
    bif (!(((c0.1 : Int) == c1.1) && (((c0.2.1 : Int) == c1.2.1) && (((c0.2.2.1 : Int) == c1.2.2.1) && (((c0.2.2.2.1 : Int) == c1.2.2.2.1) && (((c0.2.2.2.2.1 : Int) == c1.2.2.2.2.1) && true)))))) then
      k0
    else rec' ((IntKind.wrap .i64 (v + 1)))
  else k1
noncomputable def slices_Equal_Slot_l4 (G : slices_Equal_Slot_G) {ρ : Type} (n : Nat) (p0 : Bool) (p1 : Bool) (p2 : Rows) (p3 : Bool) (p4 : Bool) (p5 : Rows) (p6 : Int) (k0 : (Option ρ)) (k1 : (Option ρ)) (v : slices_Equal_Slot_l4_V) : Option ρ := fuelN (slices_Equal_Slot_l4_s G n p0 p1 p2 p3 p4 p5 p6 k0 k1) n v
def slices_Equal_Slot_l4_enc (p0 : Bool) (p1 : Bool) (p2 : Rows) (p3 : Bool) (p4 : Bool) (p5 : Rows) (p6 : Int) : slices_Equal_Slot_l4_V → St
  | v => ⟨[(0, .lst p0 p1 5 p2), (1, .lst p3 p4 5 p5), (12, .i .i64 p6), (13, .i .i64 v)], []⟩
noncomputable def slices_Equal_Slot_s (G : slices_Equal_Slot_G) {ρ : Type} (n : Nat) (a0 : Bool) (a1 : Bool) (a2 : Rows) (a3 : Bool) (a4 : Bool) (a5 : Rows) (k0 : (Bool → Option ρ)) : Option ρ :=
  bif (((((List.length (a2 : Rows)) : Nat) : Int) : Int) != (((List.length (a5 : Rows)) : Nat) : Int)) then
    k0 false
  else slices_Equal_Slot_l4 G n a0 a1 a2 a3 a4 a5 (((List.length (a2 : Rows)) : Nat) : Int) (k0 false) (k0 true) (0)
noncomputable def slices_Equal_Slot_g (_n : Nat) : slices_Equal_Slot_G := ⟨⟩
noncomputable def slices_Equal_Slot (n : Nat) : slices_Equal_Slot_T := fun _ρ a0 a1 a2 a3 a4 a5 k0 => slices_Equal_Slot_s (slices_Equal_Slot_g n) n a0 a1 a2 a3 a4 a5 k0
noncomputable def slices_Equal_Slot_e (n : Nat) : EK := slices_Equal_Slot_E (slices_Equal_Slot n)
def slices_Equal_Slot_S (_G : slices_Equal_Slot_G) : CK := tabS []
theorem slices_Equal_Slot_Sok (n : Nat) : CK.OK (slices_Equal_Slot_S (slices_Equal_Slot_g n)) (L tab) := tabS_ok _ ((fun _ h => nomatch h))
def slices_Equal_Slot_hs : HintC := hintL [(18, [.i .i64, .i .i64, .i .i64, .i .i64, .i .i64]), (22, [.i .i64, .i .i64, .i .i64, .i .i64, .i .i64])]
def slices_Equal_Slot_c4 : Nat × List Nat × List Nat × MC := loopAt 4 m48
noncomputable def slices_Equal_Slot_l4_d (G : slices_Equal_Slot_G) (n : Nat) : Go.Rv.LE := fun _ρ h K => decSt [(0, .lst none none 5 none), (1, .lst none none 5 none), (12, .i .i64 none), (13, .i .i64 none)] [] h fun a _b => slices_Equal_Slot_l4 G n a.1.1 a.1.2.1 a.1.2.2 a.2.1.1 a.2.1.2.1 a.2.1.2.2 a.2.2.1 (K .ret ⟨[(4, .b false)], []⟩) (K (.exit 0) ⟨[(4, .u)], []⟩) (a.2.2.2.1)
noncomputable def slices_Equal_Slot_d4 (G : slices_Equal_Slot_G) (n : Nat) : Go.Rv.LE := slices_Equal_Slot_l4_d G n
noncomputable def slices_Equal_Slot_lp (G : slices_Equal_Slot_G) (n : Nat) : LK := tabL [(4, slices_Equal_Slot_d4 G n)]
theorem slices_Equal_Slot_l4_k (G : slices_Equal_Slot_G) {ρ : Type} (n : Nat) (p0 : Bool) (p1 : Bool) (p2 : Rows) (p3 : Bool) (p4 : Bool) (p5 : Rows) (p6 : Int) (K : Ex → St → Option ρ) (N : St → Option ρ) : ∀ v, roundC (slices_Equal_Slot_S G) slices_Equal_Slot_hs (slices_Equal_Slot_lp G n) slices_Equal_Slot_c4 0 N K (slices_Equal_Slot_l4_enc p0 p1 p2 p3 p4 p5 p6 v) = slices_Equal_Slot_l4_s G n p0 p1 p2 p3 p4 p5 p6 (K .ret ⟨[(4, .b false)], []⟩) (K (.exit 0) ⟨[(4, .u)], []⟩) (fun v => N (slices_Equal_Slot_l4_enc p0 p1 p2 p3 p4 p5 p6 v)) v
  | v => by kernel_rfl
theorem slices_Equal_Slot_l4_dok (n : Nat) : LE.OK (slices_Equal_Slot_l4_d (slices_Equal_Slot_g n) n) (L tab) slices_Equal_Slot_c4 := LE.shp (fun _ _ _ => rfl) fun ρ K y a b e => LE.rounds (slices_Equal_Slot_Sok n) (LK.of (l := []) (by kernel_rfl) ((fun _ h => nomatch h))) (slices_Equal_Slot_l4_k (slices_Equal_Slot_g n) n _ _ _ _ _ _ _ K) (by kernel_rfl) (by kernel_rfl) e
theorem slices_Equal_Slot_d4_ok (n : Nat) : LE.OK (slices_Equal_Slot_d4 (slices_Equal_Slot_g n) n) (L tab) slices_Equal_Slot_c4 := slices_Equal_Slot_l4_dok n
theorem slices_Equal_Slot_k (G : slices_Equal_Slot_G) {ρ : Type} (n : Nat) (a0 : Bool) (a1 : Bool) (a2 : Rows) (a3 : Bool) (a4 : Bool) (a5 : Rows) (K : Res → Option ρ) : runC (slices_Equal_Slot_S G) slices_Equal_Slot_hs (slices_Equal_Slot_lp G n) m48 [.lst a0 a1 5 a2, .lst a3 a4 5 a5] K = slices_Equal_Slot_s G n a0 a1 a2 a3 a4 a5 (fun w0 => K ⟨.b w0, [], []⟩) := by kernel_rfl
theorem slices_Equal_Slot_ok (n : Nat) : EK.OK (slices_Equal_Slot_e n) 48 (L tab) := EK.shp (fun _ _ _ => rfl) fun ρ K y c e => EK.run (slices_Equal_Slot_Sok n) (by kernel_rfl) (MF.LKOK.of (LK.of (l := [slices_Equal_Slot_c4]) (by kernel_rfl) (List.forall_mem_cons.2 ⟨LE.at (e := slices_Equal_Slot_d4 (slices_Equal_Slot_g n) n) (by kernel_rfl) (slices_Equal_Slot_d4_ok n), (fun _ h => nomatch h)⟩))) (slices_Equal_Slot_k (slices_Equal_Slot_g n) n _ _ _ _ _ _ K) (by kernel_rfl) e

/-! slices.Equal[[]reeve/thing.Thing,reeve/thing.Thing] -/
abbrev slices_Equal_Thing_T : Type 1 := (ρ : Type) → Bool → Bool → Rows → Bool → Bool → Rows → (Bool → Option ρ) → Option ρ
def slices_Equal_Thing_E (G : slices_Equal_Thing_T) : EK := fun ρ args K => decL [.lst none none 13 none, .lst none none 13 none] args fun c => G ρ c.1.1 c.1.2.1 c.1.2.2 c.2.1.1 c.2.1.2.1 c.2.1.2.2 (fun w0 => K ⟨.b w0, [], []⟩)
structure slices_Equal_Thing_G where
  mk ::
abbrev slices_Equal_Thing_l4_V : Type := Int
noncomputable def slices_Equal_Thing_l4_s (_G : slices_Equal_Thing_G) {ρ : Type} (_n : Nat) (_p0 : Bool) (_p1 : Bool) (p2 : Rows) (_p3 : Bool) (_p4 : Bool) (p5 : Rows) (p6 : Int) (k0 : (Option ρ)) (k1 : (Option ρ)) (rec' : slices_Equal_Thing_l4_V → Option ρ) : slices_Equal_Thing_l4_V → Option ρ
  | v =>
  bif decide ((v : Int) < p6) then
    rowT [.i .i64, .i .i64, .i .i64, .i .i64, .i .i64, .i .i64, .i .i64, .b, .i .u64, .i .u64, .i .u64, .i .u64, .i .u64] p2 v fun c0 =>
    rowT [.i .i64, .i .i64, .i .i64, .i .i64, .i .i64, .i .i64, .i .i64, .b, .i .u64, .i .u64, .i .u64, .i .u64, .i .u64] p5 v fun c1 =>
    bif (!(((c0.1 : Int) == c1.1) && (((c0.2.1 : Int) == c1.2.1) && (((c0.2.2.1 : Int) == c1.2.2.1) && (((c0.2.2.2.1 : Int) == c1.2.2.2.1) && (((c0.2.2.2.2.1 : Int) == c1.2.2.2.2.1) && (((c0.2.2.2.2.2.1 : Int) == c1.2.2.2.2.2.1) && (((c0.2.2.2.2.2.2.1 : Int) == c1.2.2.2.2.2.2.1) && (((c0.2.2.2.2.2.2.2.1 : Bool) == c1.2.2.2.2.2.2.2.1) && (((c0.2.2.2.2.2.2.2.2.1 : Int) == c1.2.2.2.2.2.2.2.2.1) && (((c0.2.2.2.2.2.2.2.2.2.1 : Int) == c1.2.2.2.2.2.2.2.2.2.1) && (((c0.2.2.2.2.2.2.2.2.2.2.1 : Int) == c1.2.2.2.2.2.2.2.2.2.2.1) && (((c0.2.2.2.2.2.2.2.2.2.2.2.1 : Int) == c1.2.2.2.2.2.2.2.2.2.2.2.1) && (((c0.2.2.2.2.2.2.2.2.2.2.2.2.1 : Int) == c1.2.2.2.2.2.2.2.2.2.2.2.2.1) && true)))))))))))))) then
      k0
    else rec' ((IntKind.wrap .i64 (v + 1)))
  else k1
noncomputable def slices_Equal_Thing_l4 (G : slices_Equal_Thing_G) {ρ : Type} (n : Nat) (p0 : Bool) (p1 : Bool) (p2 : Rows) (p3 : Bool) (p4 : Bool) (p5 : Rows) (p6 : Int) (k0 : (Option ρ)) (k1 : (Option ρ)) (v : slices_Equal_Thing_l4_V) : Option ρ := fuelN (slices_Equal_Thing_l4_s G n p0 p1 p2 p3 p4 p5 p6 k0 k1) n v
def slices_Equal_Thing_l4_enc (p0 : Bool) (p1 : Bool) (p2 : Rows) (p3 : Bool) (p4 : Bool) (p5 : Rows) (p6 : Int) : slices_Equal_Thing_l4_V → St
  | v => ⟨[(0, .lst p0 p1 13 p2), (1, .lst p3 p4 13 p5), (12, .i .i64 p6), (13, .i .i64 v)], []⟩
noncomputable def slices_Equal_Thing_s (G : slices_Equal_Thing_G) {ρ : Type} (n : Nat) (a0 : Bool) (a1 : Bool) (a2 : Rows) (a3 : Bool) (a4 : Bool) (a5 : Rows) (k0 : (Bool → Option ρ)) : Option ρ :=
  bif (((((List.length (a2 : Rows)) : Nat) : Int) : Int) != (((List.length (a5 : Rows)) : Nat) : Int)) then
    k0 false
  else slices_Equal_Thing_l4 G n a0 a1 a2 a3 a4 a5 (((List.length (a2 : Rows)) : Nat) : Int) (k0 false) (k0 true) (0)
noncomputable def slices_Equal_Thing_g (_n : Nat) : slices_Equal_Thing_G := ⟨⟩
noncomputable def slices_Equal_Thing (n : Nat) : slices_Equal_Thing_T := fun _ρ a0 a1 a2 a3 a4 a5 k0 => slices_Equal_Thing_s (slices_Equal_Thing_g n) n a0 a1 a2 a3 a4 a5 k0
noncomputable def slices_Equal_Thing_e (n : Nat) : EK := slices_Equal_Thing_E (slices_Equal_Thing n)
def slices_Equal_Thing_S (_G : slices_Equal_Thing_G) : CK := tabS []
theorem slices_Equal_Thing_Sok (n : Nat) : CK.OK (slices_Equal_Thing_S (slices_Equal_Thing_g n)) (L tab) := tabS_ok _ ((fun _ h => nomatch h))
def slices_Equal_Thing_hs : HintC := hintL [(18, [.i .i64, .i .i64, .i .i64, .i .i64, .i .i64, .i .i64, .i .i64, .b, .i .u64, .i .u64, .i .u64, .i .u64, .i .u64]), (22, [.i .i64, .i .i64, .i .i64, .i .i64, .i .i64, .i .i64, .i .i64, .b, .i .u64, .i .u64, .i .u64, .i .u64, .i .u64])]
def slices_Equal_Thing_c4 : Nat × List Nat × List Nat × MC := loopAt 4 m49
noncomputable def slices_Equal_Thing_l4_d (G : slices_Equal_Thing_G) (n : Nat) : Go.Rv.LE := fun _ρ h K => decSt [(0, .lst none none 13 none), (1, .lst none none 13 none), (12, .i .i64 none), (13, .i .i64 none)] [] h fun a _b => slices_Equal_Thing_l4 G n a.1.1 a.1.2.1 a.1.2.2 a.2.1.1 a.2.1.2.1 a.2.1.2.2 a.2.2.1 (K .ret ⟨[(4, .b false)], []⟩) (K (.exit 0) ⟨[(4, .u)], []⟩) (a.2.2.2.1)
noncomputable def slices_Equal_Thing_d4 (G : slices_Equal_Thing_G) (n : Nat) : Go.Rv.LE := slices_Equal_Thing_l4_d G n
noncomputable def slices_Equal_Thing_lp (G : slices_Equal_Thing_G) (n : Nat) : LK := tabL [(4, slices_Equal_Thing_d4 G n)]
theorem slices_Equal_Thing_l4_k (G : slices_Equal_Thing_G) {ρ : Type} (n : Nat) (p0 : Bool) (p1 : Bool) (p2 : Rows) (p3 : Bool) (p4 : Bool) (p5 : Rows) (p6 : Int) (K : Ex → St → Option ρ) (N : St → Option ρ) : ∀ v, roundC (slices_Equal_Thing_S G) slices_Equal_Thing_hs (slices_Equal_Thing_lp G n) slices_Equal_Thing_c4 0 N K (slices_Equal_Thing_l4_enc p0 p1 p2 p3 p4 p5 p6 v) = slices_Equal_Thing_l4_s G n p0 p1 p2 p3 p4 p5 p6 (K .ret ⟨[(4, .b false)], []⟩) (K (.exit 0) ⟨[(4, .u)], []⟩) (fun v => N (slices_Equal_Thing_l4_enc p0 p1 p2 p3 p4 p5 p6 v)) v
  | v => by kernel_rfl
theorem slices_Equal_Thing_l4_dok (n : Nat) : LE.OK (slices_Equal_Thing_l4_d (slices_Equal_Thing_g n) n) (L tab) slices_Equal_Thing_c4 := LE.shp (fun _ _ _ => rfl) fun ρ K y a b e => LE.rounds (slices_Equal_Thing_Sok n) (LK.of (l := []) (by kernel_rfl) ((fun _ h => nomatch h))) (slices_Equal_Thing_l4_k (slices_Equal_Thing_g n) n _ _ _ _ _ _ _ K) (by kernel_rfl) (by kernel_rfl) e
theorem slices_Equal_Thing_d4_ok (n : Nat) : LE.OK (slices_Equal_Thing_d4 (slices_Equal_Thing_g n) n) (L tab) slices_Equal_Thing_c4 := slices_Equal_Thing_l4_dok n
theorem slices_Equal_Thing_k (G : slices_Equal_Thing_G) {ρ : Type} (n : Nat) (a0 : Bool) (a1 : Bool) (a2 : Rows) (a3 : Bool) (a4 : Bool) (a5 : Rows) (K : Res → Option ρ) : runC (slices_Equal_Thing_S G) slices_Equal_Thing_hs (slices_Equal_Thing_lp G n) m49 [.lst a0 a1 13 a2, .lst a3 a4 13 a5] K = slices_Equal_Thing_s G n a0 a1 a2 a3 a4 a5 (fun w0 => K ⟨.b w0, [], []⟩) := by kernel_rfl
theorem slices_Equal_Thing_ok (n : Nat) : EK.OK (slices_Equal_Thing_e n) 49 (L tab) := EK.shp (fun _ _ _ => rfl) fun ρ K y c e => EK.run (slices_Equal_Thing_Sok n) (by kernel_rfl) (MF.LKOK.of (LK.of (l := [slices_Equal_Thing_c4]) (by kernel_rfl) (List.forall_mem_cons.2 ⟨LE.at (e := slices_Equal_Thing_d4 (slices_Equal_Thing_g n) n) (by kernel_rfl) (slices_Equal_Thing_d4_ok n), (fun _ h => nomatch h)⟩))) (slices_Equal_Thing_k (slices_Equal_Thing_g n) n _ _ _ _ _ _ K) (by kernel_rfl) e

/-! reeve/state.Same -/
abbrev state_Same_T : Type 1 := (ρ : Type) → Int → Int → Int → Bool → Bool → Rows → Bool → Bool → Rows → Int → Int → Int → Bool → Bool → Rows → Bool → Bool → Rows → (Bool → Option ρ) → Option ρ
def state_Same_E (G : state_Same_T) : EK := fun ρ args K => decL [.agg [.i .i64 none, .i .i64 none, .i .i64 none, .lst none none 5 none, .lst none none 13 none], .agg [.i .i64 none, .i .i64 none, .i .i64 none, .lst none none 5 none, .lst none none 13 none]] args fun c => G ρ c.1.1 c.1.2.1 c.1.2.2.1 c.1.2.2.2.1.1 c.1.2.2.2.1.2.1 c.1.2.2.2.1.2.2 c.1.2.2.2.2.1.1 c.1.2.2.2.2.1.2.1 c.1.2.2.2.2.1.2.2 c.2.1.1 c.2.1.2.1 c.2.1.2.2.1 c.2.1.2.2.2.1.1 c.2.1.2.2.2.1.2.1 c.2.1.2.2.2.1.2.2 c.2.1.2.2.2.2.1.1 c.2.1.2.2.2.2.1.2.1 c.2.1.2.2.2.2.1.2.2 (fun w0 => K ⟨.b w0, [], []⟩)
structure state_Same_G where
  mk ::
  slices_Equal_Slot : slices_Equal_Slot_T
  slices_Equal_Thing : slices_Equal_Thing_T
noncomputable def state_Same_s (G : state_Same_G) {ρ : Type} (_n : Nat) (a0 : Int) (a1 : Int) (a2 : Int) (a3 : Bool) (a4 : Bool) (a5 : Rows) (a6 : Bool) (a7 : Bool) (a8 : Rows) (a9 : Int) (a10 : Int) (a11 : Int) (a12 : Bool) (a13 : Bool) (a14 : Rows) (a15 : Bool) (a16 : Bool) (a17 : Rows) (k0 : (Bool → Option ρ)) : Option ρ :=
  bif (((a0 : Int) == a9) && (((a1 : Int) == a10) && (((a2 : Int) == a11) && true))) then
    G.slices_Equal_Slot ρ a3 a4 a5 a12 a13 a14 (fun w0_0 =>
      bif w0_0 then
        G.slices_Equal_Thing ρ a6 a7 a8 a15 a16 a17 (fun w1_0 =>
          bif w1_0 then
            k0 true
          else k0 false)
      else k0 false)
  else k0 false
noncomputable def state_Same_g (n : Nat) : state_Same_G := ⟨slices_Equal_Slot n, slices_Equal_Thing n⟩
noncomputable def state_Same (n : Nat) : state_Same_T := fun _ρ a0 a1 a2 a3 a4 a5 a6 a7 a8 a9 a10 a11 a12 a13 a14 a15 a16 a17 k0 => state_Same_s (state_Same_g n) n a0 a1 a2 a3 a4 a5 a6 a7 a8 a9 a10 a11 a12 a13 a14 a15 a16 a17 k0
noncomputable def state_Same_e (n : Nat) : EK := state_Same_E (state_Same n)
def state_Same_S (G : state_Same_G) : CK := tabS [(48, slices_Equal_Slot_E G.slices_Equal_Slot), (49, slices_Equal_Thing_E G.slices_Equal_Thing)]
theorem state_Same_Sok (n : Nat) : CK.OK (state_Same_S (state_Same_g n)) (L tab) := tabS_ok _ (List.forall_mem_cons.2 ⟨(slices_Equal_Slot_ok n), List.forall_mem_cons.2 ⟨(slices_Equal_Thing_ok n), (fun _ h => nomatch h)⟩⟩)
def state_Same_hs : HintC := hintL []
noncomputable def state_Same_lp (_G : state_Same_G) (_n : Nat) : LK := tabL []
theorem state_Same_k (G : state_Same_G) {ρ : Type} (n : Nat) (a0 : Int) (a1 : Int) (a2 : Int) (a3 : Bool) (a4 : Bool) (a5 : Rows) (a6 : Bool) (a7 : Bool) (a8 : Rows) (a9 : Int) (a10 : Int) (a11 : Int) (a12 : Bool) (a13 : Bool) (a14 : Rows) (a15 : Bool) (a16 : Bool) (a17 : Rows) (K : Res → Option ρ) : runC (state_Same_S G) state_Same_hs (state_Same_lp G n) m20 [.agg [.i .i64 a0, .i .i64 a1, .i .i64 a2, .lst a3 a4 5 a5, .lst a6 a7 13 a8], .agg [.i .i64 a9, .i .i64 a10, .i .i64 a11, .lst a12 a13 5 a14, .lst a15 a16 13 a17]] K = state_Same_s G n a0 a1 a2 a3 a4 a5 a6 a7 a8 a9 a10 a11 a12 a13 a14 a15 a16 a17 (fun w0 => K ⟨.b w0, [], []⟩) := by kernel_rfl
theorem state_Same_ok (n : Nat) : EK.OK (state_Same_e n) 20 (L tab) := EK.shp (fun _ _ _ => rfl) fun ρ K y c e => EK.run (state_Same_Sok n) (by kernel_rfl) (MF.LKOK.of (LK.of (l := []) (by kernel_rfl) ((fun _ h => nomatch h)))) (state_Same_k (state_Same_g n) n _ _ _ _ _ _ _ _ _ _ _ _ _ _ _ _ _ _ K) (by kernel_rfl) e

/-! reeve/reevelaw12.thingOf -/
abbrev reevelaw12_thingOf_T : Type 1 := (ρ : Type) → Int → Int → Int → Int → Int → Int → Int → Bool → Int → Int → Int → Int → Int → (Bool → Option ρ) → Option ρ
def reevelaw12_thingOf_E (G : reevelaw12_thingOf_T) : EK := fun ρ args K => decL [.agg [.i .i64 none, .i .i64 none, .i .i64 none, .i .i64 none, .i .i64 none, .i .i64 none, .i .i64 none, .b none, .i .u64 none, .i .u64 none, .i .u64 none, .i .u64 none, .i .u64 none]] args fun c => G ρ c.1.1 c.1.2.1 c.1.2.2.1 c.1.2.2.2.1 c.1.2.2.2.2.1 c.1.2.2.2.2.2.1 c.1.2.2.2.2.2.2.1 c.1.2.2.2.2.2.2.2.1 c.1.2.2.2.2.2.2.2.2.1 c.1.2.2.2.2.2.2.2.2.2.1 c.1.2.2.2.2.2.2.2.2.2.2.1 c.1.2.2.2.2.2.2.2.2.2.2.2.1 c.1.2.2.2.2.2.2.2.2.2.2.2.2.1 (fun w0 => K ⟨.agg [.i .i64 c.1.1, .i .i64 c.1.2.1, .i .i64 c.1.2.2.1, .i .i64 c.1.2.2.2.1, .i .i64 c.1.2.2.2.2.1, .i .i64 c.1.2.2.2.2.2.1, .i .i64 c.1.2.2.2.2.2.2.1, .b w0, .i .u64 c.1.2.2.2.2.2.2.2.2.1, .i .u64 c.1.2.2.2.2.2.2.2.2.2.1, .i .u64 c.1.2.2.2.2.2.2.2.2.2.2.1, .i .u64 c.1.2.2.2.2.2.2.2.2.2.2.2.1, .i .u64 c.1.2.2.2.2.2.2.2.2.2.2.2.2.1], [], []⟩)
structure reevelaw12_thingOf_G where
  mk ::
noncomputable def reevelaw12_thingOf_s (_G : reevelaw12_thingOf_G) {ρ : Type} (_n : Nat) (_a0 : Int) (_a1 : Int) (_a2 : Int) (_a3 : Int) (_a4 : Int) (_a5 : Int) (_a6 : Int) (a7 : Bool) (_a8 : Int) (_a9 : Int) (_a10 : Int) (_a11 : Int) (_a12 : Int) (k0 : (Bool → Option ρ)) : Option ρ :=
  bif a7 then
    k0 true
  else k0 false
noncomputable def reevelaw12_thingOf_g (_n : Nat) : reevelaw12_thingOf_G := ⟨⟩
noncomputable def reevelaw12_thingOf (n : Nat) : reevelaw12_thingOf_T := fun _ρ a0 a1 a2 a3 a4 a5 a6 a7 a8 a9 a10 a11 a12 k0 => reevelaw12_thingOf_s (reevelaw12_thingOf_g n) n a0 a1 a2 a3 a4 a5 a6 a7 a8 a9 a10 a11 a12 k0
noncomputable def reevelaw12_thingOf_e (n : Nat) : EK := reevelaw12_thingOf_E (reevelaw12_thingOf n)
def reevelaw12_thingOf_S (_G : reevelaw12_thingOf_G) : CK := tabS []
theorem reevelaw12_thingOf_Sok (n : Nat) : CK.OK (reevelaw12_thingOf_S (reevelaw12_thingOf_g n)) (L tab) := tabS_ok _ ((fun _ h => nomatch h))
def reevelaw12_thingOf_hs : HintC := hintL []
noncomputable def reevelaw12_thingOf_lp (_G : reevelaw12_thingOf_G) (_n : Nat) : LK := tabL []
theorem reevelaw12_thingOf_k (G : reevelaw12_thingOf_G) {ρ : Type} (n : Nat) (a0 : Int) (a1 : Int) (a2 : Int) (a3 : Int) (a4 : Int) (a5 : Int) (a6 : Int) (a7 : Bool) (a8 : Int) (a9 : Int) (a10 : Int) (a11 : Int) (a12 : Int) (K : Res → Option ρ) : runC (reevelaw12_thingOf_S G) reevelaw12_thingOf_hs (reevelaw12_thingOf_lp G n) m50 [.agg [.i .i64 a0, .i .i64 a1, .i .i64 a2, .i .i64 a3, .i .i64 a4, .i .i64 a5, .i .i64 a6, .b a7, .i .u64 a8, .i .u64 a9, .i .u64 a10, .i .u64 a11, .i .u64 a12]] K = reevelaw12_thingOf_s G n a0 a1 a2 a3 a4 a5 a6 a7 a8 a9 a10 a11 a12 (fun w0 => K ⟨.agg [.i .i64 a0, .i .i64 a1, .i .i64 a2, .i .i64 a3, .i .i64 a4, .i .i64 a5, .i .i64 a6, .b w0, .i .u64 a8, .i .u64 a9, .i .u64 a10, .i .u64 a11, .i .u64 a12], [], []⟩) := by kernel_rfl
theorem reevelaw12_thingOf_ok (n : Nat) : EK.OK (reevelaw12_thingOf_e n) 50 (L tab) := EK.shp (fun _ _ _ => rfl) fun ρ K y c e => EK.run (reevelaw12_thingOf_Sok n) (by kernel_rfl) (MF.LKOK.of (LK.of (l := []) (by kernel_rfl) ((fun _ h => nomatch h)))) (reevelaw12_thingOf_k (reevelaw12_thingOf_g n) n _ _ _ _ _ _ _ _ _ _ _ _ _ K) (by kernel_rfl) e

/-! reeve/reevelaw12.ownOf -/
abbrev reevelaw12_ownOf_T : Type 1 := (ρ : Type) → Int → Int → Int → Bool → Bool → Rows → Bool → Bool → Rows → (Bool → Bool → Rows → Bool → Bool → Rows → Option ρ) → Option ρ
def reevelaw12_ownOf_E (G : reevelaw12_ownOf_T) : EK := fun ρ args K => decL [.agg [.i .i64 none, .i .i64 none, .i .i64 none, .lst none none 5 none, .lst none none 13 none]] args fun c => G ρ c.1.1 c.1.2.1 c.1.2.2.1 c.1.2.2.2.1.1 c.1.2.2.2.1.2.1 c.1.2.2.2.1.2.2 c.1.2.2.2.2.1.1 c.1.2.2.2.2.1.2.1 c.1.2.2.2.2.1.2.2 (fun w0 w1 w2 w3 w4 w5 => K ⟨.agg [.i .i64 c.1.1, .i .i64 c.1.2.1, .i .i64 c.1.2.2.1, .lst w0 w1 5 w2, .lst w3 w4 13 w5], [], []⟩)
structure reevelaw12_ownOf_G where
  mk ::
  reevelaw12_thingOf : reevelaw12_thingOf_T
abbrev reevelaw12_ownOf_l3_V : Type := (Unit) ⊕ (Int × Nat × Nat × Rows)
noncomputable def reevelaw12_ownOf_l3_s (_G : reevelaw12_ownOf_G) {ρ : Type} (_n : Nat) (_p0 : Int) (_p1 : Int) (_p2 : Int) (_p3 : Bool) (_p4 : Bool) (p5 : Rows) (_p6 : Bool) (_p7 : Bool) (_p8 : Rows) (_p9 : Int) (_p10 : Int) (_p11 : Int) (k0 : (Option ρ)) (k1 : (Nat → Nat → Rows → Option ρ)) (rec' : reevelaw12_ownOf_l3_V → Option ρ) : reevelaw12_ownOf_l3_V → Option ρ
  | (.inl _v) =>
  bif decide ((0 : Int) < (((List.length (p5 : Rows)) : Nat) : Int)) then
    rowT [.i .i64, .i .i64, .i .i64, .i .i64, .i .i64] p5 0 fun c0 =>
    rowT [.i .i64, .i .i64, .i .i64, .i .i64, .i .i64] p5 0 fun c1 =>
    rec' (.inr (1, 1, 1, [[.i .i64 c0.1, .i .i64 c0.2.1, .i .i64 c0.2.2.1, .i .i64 c0.2.2.2.1, .i .i64 c1.2.2.2.2.1]]))
  else k0
  | (.inr v) =>
  bif decide ((v.1 : Int) < (((List.length (p5 : Rows)) : Nat) : Int)) then
    rowT [.i .i64, .i .i64, .i .i64, .i .i64, .i .i64] p5 v.1 fun c2 =>
    rowT [.i .i64, .i .i64, .i .i64, .i .i64, .i .i64] p5 v.1 fun c3 =>
    chk (((List.length (v.2.2.2 : Rows)) : Nat) == v.2.1) <|
    chk ((v.2.2.1 : Nat) == v.2.1) <|
    chk (decide ((v.2.1 + 1) ≤ most)) <|
    rec' (.inr ((IntKind.wrap .i64 (v.1 + 1)), (v.2.1 + 1), (v.2.1 + 1), (v.2.2.2 ++ [[.i .i64 c2.1, .i .i64 c2.2.1, .i .i64 c2.2.2.1, .i .i64 c2.2.2.2.1, .i .i64 c3.2.2.2.2.1]])))
  else k1 v.2.1 v.2.2.1 v.2.2.2
noncomputable def reevelaw12_ownOf_l3 (G : reevelaw12_ownOf_G) {ρ : Type} (n : Nat) (p0 : Int) (p1 : Int) (p2 : Int) (p3 : Bool) (p4 : Bool) (p5 : Rows) (p6 : Bool) (p7 : Bool) (p8 : Rows) (p9 : Int) (p10 : Int) (p11 : Int) (k0 : (Option ρ)) (k1 : (Nat → Nat → Rows → Option ρ)) (v : reevelaw12_ownOf_l3_V) : Option ρ := fuelN (reevelaw12_ownOf_l3_s G n p0 p1 p2 p3 p4 p5 p6 p7 p8 p9 p10 p11 k0 k1) n v
def reevelaw12_ownOf_l3_enc (p0 : Int) (p1 : Int) (p2 : Int) (p3 : Bool) (p4 : Bool) (p5 : Rows) (p6 : Bool) (p7 : Bool) (p8 : Rows) (p9 : Int) (p10 : Int) (p11 : Int) : reevelaw12_ownOf_l3_V → St
  | (.inl _v) => ⟨[(1, .ptr 0 1 5 0 0), (2, .ptr 1 1 5 0 0), (3, .ptr 2 1 5 0 0), (4, .i .i64 0)], [.row 5 true false [[.i .i64 p0, .i .i64 p1, .i .i64 p2, .lst p3 p4 5 p5, .lst p6 p7 13 p8]], .row 5 true false [[.i .i64 0, .i .i64 0, .i .i64 0, .lst true true 0 [], .lst true true 0 []]], .row 5 true false [[.i .i64 p9, .i .i64 p10, .i .i64 p11, .lst true true 0 [], .lst true true 0 []]]]⟩
  | (.inr v) => ⟨[(1, .ptr 0 1 5 0 0), (2, .ptr 1 1 5 0 0), (3, .ptr 2 1 5 0 0), (4, .i .i64 v.1)], [.row 5 true false [[.i .i64 p0, .i .i64 p1, .i .i64 p2, .lst p3 p4 5 p5, .lst p6 p7 13 p8]], .row 5 true false [[.i .i64 0, .i .i64 0, .i .i64 0, .lst true true 0 [], .lst true true 0 []]], .row 5 false false [[.i .i64 p9, .i .i64 p10, .i .i64 p11, .sl 3 v.2.1 5 0 v.2.2.1, .lst true true 0 []]], .row 5 true false v.2.2.2]⟩
abbrev reevelaw12_ownOf_l8_0_V : Type := (Unit) ⊕ (Int × Nat × Nat × Rows)
noncomputable def reevelaw12_ownOf_l8_0_s (G : reevelaw12_ownOf_G) {ρ : Type} (_n : Nat) (_p0 : Int) (_p1 : Int) (_p2 : Int) (_p3 : Bool) (_p4 : Bool) (_p5 : Rows) (_p6 : Bool) (_p7 : Bool) (p8 : Rows) (_p9 : Int) (_p10 : Int) (_p11 : Int) (k0 : (Option ρ)) (k1 : (Nat → Nat → Rows → Option ρ)) (rec' : reevelaw12_ownOf_l8_0_V → Option ρ) : reevelaw12_ownOf_l8_0_V → Option ρ
  | (.inl _v) =>
  bif decide ((0 : Int) < (((List.length (p8 : Rows)) : Nat) : Int)) then
    rowT [.i .i64, .i .i64, .i .i64, .i .i64, .i .i64, .i .i64, .i .i64, .b, .i .u64, .i .u64, .i .u64, .i .u64, .i .u64] p8 0 fun c0 =>
    G.reevelaw12_thingOf ρ c0.1 c0.2.1 c0.2.2.1 c0.2.2.2.1 c0.2.2.2.2.1 c0.2.2.2.2.2.1 c0.2.2.2.2.2.2.1 c0.2.2.2.2.2.2.2.1 c0.2.2.2.2.2.2.2.2.1 c0.2.2.2.2.2.2.2.2.2.1 c0.2.2.2.2.2.2.2.2.2.2.1 c0.2.2.2.2.2.2.2.2.2.2.2.1 c0.2.2.2.2.2.2.2.2.2.2.2.2.1 (fun w1_0 =>
      rec' (.inr (1, 1, 1, [[.i .i64 c0.1, .i .i64 c0.2.1, .i .i64 c0.2.2.1, .i .i64 c0.2.2.2.1, .i .i64 c0.2.2.2.2.1, .i .i64 c0.2.2.2.2.2.1, .i .i64 c0.2.2.2.2.2.2.1, .b w1_0, .i .u64 c0.2.2.2.2.2.2.2.2.1, .i .u64 c0.2.2.2.2.2.2.2.2.2.1, .i .u64 c0.2.2.2.2.2.2.2.2.2.2.1, .i .u64 c0.2.2.2.2.2.2.2.2.2.2.2.1, .i .u64 c0.2.2.2.2.2.2.2.2.2.2.2.2.1]])))
  else k0
  | (.inr v) =>
  bif decide ((v.1 : Int) < (((List.length (p8 : Rows)) : Nat) : Int)) then
    rowT [.i .i64, .i .i64, .i .i64, .i .i64, .i .i64, .i .i64, .i .i64, .b, .i .u64, .i .u64, .i .u64, .i .u64, .i .u64] p8 v.1 fun c2 =>
    G.reevelaw12_thingOf ρ c2.1 c2.2.1 c2.2.2.1 c2.2.2.2.1 c2.2.2.2.2.1 c2.2.2.2.2.2.1 c2.2.2.2.2.2.2.1 c2.2.2.2.2.2.2.2.1 c2.2.2.2.2.2.2.2.2.1 c2.2.2.2.2.2.2.2.2.2.1 c2.2.2.2.2.2.2.2.2.2.2.1 c2.2.2.2.2.2.2.2.2.2.2.2.1 c2.2.2.2.2.2.2.2.2.2.2.2.2.1 (fun w3_0 =>
      chk (((List.length (v.2.2.2 : Rows)) : Nat) == v.2.1) <|
      chk ((v.2.2.1 : Nat) == v.2.1) <|
      chk (decide ((v.2.1 + 1) ≤ most)) <|
      rec' (.inr ((IntKind.wrap .i64 (v.1 + 1)), (v.2.1 + 1), (v.2.1 + 1), (v.2.2.2 ++ [[.i .i64 c2.1, .i .i64 c2.2.1, .i .i64 c2.2.2.1, .i .i64 c2.2.2.2.1, .i .i64 c2.2.2.2.2.1, .i .i64 c2.2.2.2.2.2.1, .i .i64 c2.2.2.2.2.2.2.1, .b w3_0, .i .u64 c2.2.2.2.2.2.2.2.2.1, .i .u64 c2.2.2.2.2.2.2.2.2.2.1, .i .u64 c2.2.2.2.2.2.2.2.2.2.2.1, .i .u64 c2.2.2.2.2.2.2.2.2.2.2.2.1, .i .u64 c2.2.2.2.2.2.2.2.2.2.2.2.2.1]]))))
  else k1 v.2.1 v.2.2.1 v.2.2.2
noncomputable def reevelaw12_ownOf_l8_0 (G : reevelaw12_ownOf_G) {ρ : Type} (n : Nat) (p0 : Int) (p1 : Int) (p2 : Int) (p3 : Bool) (p4 : Bool) (p5 : Rows) (p6 : Bool) (p7 : Bool) (p8 : Rows) (p9 : Int) (p10 : Int) (p11 : Int) (k0 : (Option ρ)) (k1 : (Nat → Nat → Rows → Option ρ)) (v : reevelaw12_ownOf_l8_0_V) : Option ρ := fuelN (reevelaw12_ownOf_l8_0_s G n p0 p1 p2 p3 p4 p5 p6 p7 p8 p9 p10 p11 k0 k1) n v
def reevelaw12_ownOf_l8_0_enc (p0 : Int) (p1 : Int) (p2 : Int) (p3 : Bool) (p4 : Bool) (p5 : Rows) (p6 : Bool) (p7 : Bool) (p8 : Rows) (p9 : Int) (p10 : Int) (p11 : Int) : reevelaw12_ownOf_l8_0_V → St
  | (.inl _v) => ⟨[(1, .ptr 0 1 5 0 0), (2, .ptr 1 1 5 0 0), (3, .ptr 2 1 5 0 0), (6, .i .i64 0)], [.row 5 true false [[.i .i64 p0, .i .i64 p1, .i .i64 p2, .lst p3 p4 5 p5, .lst p6 p7 13 p8]], .row 5 true false [[.i .i64 0, .i .i64 0, .i .i64 0, .lst true true 0 [], .lst true true 0 []]], .row 5 true false [[.i .i64 p9, .i .i64 p10, .i .i64 p11, .lst true true 0 [], .lst true true 0 []]]]⟩
  | (.inr v) => ⟨[(1, .ptr 0 1 5 0 0), (2, .ptr 1 1 5 0 0), (3, .ptr 2 1 5 0 0), (6, .i .i64 v.1)], [.row 5 true false [[.i .i64 p0, .i .i64 p1, .i .i64 p2, .lst p3 p4 5 p5, .lst p6 p7 13 p8]], .row 5 true false [[.i .i64 0, .i .i64 0, .i .i64 0, .lst true true 0 [], .lst true true 0 []]], .row 5 false false [[.i .i64 p9, .i .i64 p10, .i .i64 p11, .lst true true 0 [], .sl 3 v.2.1 13 0 v.2.2.1]], .row 13 true false v.2.2.2]⟩
abbrev reevelaw12_ownOf_l8_1_V : Type := (Unit) ⊕ (Int × Nat × Nat × Rows)
noncomputable def reevelaw12_ownOf_l8_1_s (G : reevelaw12_ownOf_G) {ρ : Type} (_n : Nat) (_p0 : Int) (_p1 : Int) (_p2 : Int) (_p3 : Bool) (_p4 : Bool) (_p5 : Rows) (_p6 : Bool) (_p7 : Bool) (p8 : Rows) (_p9 : Int) (_p10 : Int) (_p11 : Int) (_p12 : Nat) (_p13 : Nat) (_p14 : Rows) (k0 : (Option ρ)) (k1 : (Nat → Nat → Rows → Option ρ)) (rec' : reevelaw12_ownOf_l8_1_V → Option ρ) : reevelaw12_ownOf_l8_1_V → Option ρ
  | (.inl _v) =>
  bif decide ((0 : Int) < (((List.length (p8 : Rows)) : Nat) : Int)) then
    rowT [.i .i64, .i .i64, .i .i64, .i .i64, .i .i64, .i .i64, .i .i64, .b, .i .u64, .i .u64, .i .u64, .i .u64, .i .u64] p8 0 fun c0 =>
    G.reevelaw12_thingOf ρ c0.1 c0.2.1 c0.2.2.1 c0.2.2.2.1 c0.2.2.2.2.1 c0.2.2.2.2.2.1 c0.2.2.2.2.2.2.1 c0.2.2.2.2.2.2.2.1 c0.2.2.2.2.2.2.2.2.1 c0.2.2.2.2.2.2.2.2.2.1 c0.2.2.2.2.2.2.2.2.2.2.1 c0.2.2.2.2.2.2.2.2.2.2.2.1 c0.2.2.2.2.2.2.2.2.2.2.2.2.1 (fun w1_0 =>
      rec' (.inr (1, 1, 1, [[.i .i64 c0.1, .i .i64 c0.2.1, .i .i64 c0.2.2.1, .i .i64 c0.2.2.2.1, .i .i64 c0.2.2.2.2.1, .i .i64 c0.2.2.2.2.2.1, .i .i64 c0.2.2.2.2.2.2.1, .b w1_0, .i .u64 c0.2.2.2.2.2.2.2.2.1, .i .u64 c0.2.2.2.2.2.2.2.2.2.1, .i .u64 c0.2.2.2.2.2.2.2.2.2.2.1, .i .u64 c0.2.2.2.2.2.2.2.2.2.2.2.1, .i .u64 c0.2.2.2.2.2.2.2.2.2.2.2.2.1]])))
  else k0
  | (.inr v) =>
  bif decide ((v.1 : Int) < (((List.length (p8 : Rows)) : Nat) : Int)) then
    rowT [.i .i64, .i .i64, .i .i64, .i .i64, .i .i64, .i .i64, .i .i64, .b, .i .u64, .i .u64, .i .u64, .i .u64, .i .u64] p8 v.1 fun c2 =>
    G.reevelaw12_thingOf ρ c2.1 c2.2.1 c2.2.2.1 c2.2.2.2.1 c2.2.2.2.2.1 c2.2.2.2.2.2.1 c2.2.2.2.2.2.2.1 c2.2.2.2.2.2.2.2.1 c2.2.2.2.2.2.2.2.2.1 c2.2.2.2.2.2.2.2.2.2.1 c2.2.2.2.2.2.2.2.2.2.2.1 c2.2.2.2.2.2.2.2.2.2.2.2.1 c2.2.2.2.2.2.2.2.2.2.2.2.2.1 (fun w3_0 =>
      chk (((List.length (v.2.2.2 : Rows)) : Nat) == v.2.1) <|
      chk ((v.2.2.1 : Nat) == v.2.1) <|
      chk (decide ((v.2.1 + 1) ≤ most)) <|
      rec' (.inr ((IntKind.wrap .i64 (v.1 + 1)), (v.2.1 + 1), (v.2.1 + 1), (v.2.2.2 ++ [[.i .i64 c2.1, .i .i64 c2.2.1, .i .i64 c2.2.2.1, .i .i64 c2.2.2.2.1, .i .i64 c2.2.2.2.2.1, .i .i64 c2.2.2.2.2.2.1, .i .i64 c2.2.2.2.2.2.2.1, .b w3_0, .i .u64 c2.2.2.2.2.2.2.2.2.1, .i .u64 c2.2.2.2.2.2.2.2.2.2.1, .i .u64 c2.2.2.2.2.2.2.2.2.2.2.1, .i .u64 c2.2.2.2.2.2.2.2.2.2.2.2.1, .i .u64 c2.2.2.2.2.2.2.2.2.2.2.2.2.1]]))))
  else k1 v.2.1 v.2.2.1 v.2.2.2
noncomputable def reevelaw12_ownOf_l8_1 (G : reevelaw12_ownOf_G) {ρ : Type} (n : Nat) (p0 : Int) (p1 : Int) (p2 : Int) (p3 : Bool) (p4 : Bool) (p5 : Rows) (p6 : Bool) (p7 : Bool) (p8 : Rows) (p9 : Int) (p10 : Int) (p11 : Int) (p12 : Nat) (p13 : Nat) (p14 : Rows) (k0 : (Option ρ)) (k1 : (Nat → Nat → Rows → Option ρ)) (v : reevelaw12_ownOf_l8_1_V) : Option ρ := fuelN (reevelaw12_ownOf_l8_1_s G n p0 p1 p2 p3 p4 p5 p6 p7 p8 p9 p10 p11 p12 p13 p14 k0 k1) n v
def reevelaw12_ownOf_l8_1_enc (p0 : Int) (p1 : Int) (p2 : Int) (p3 : Bool) (p4 : Bool) (p5 : Rows) (p6 : Bool) (p7 : Bool) (p8 : Rows) (p9 : Int) (p10 : Int) (p11 : Int) (p12 : Nat) (p13 : Nat) (p14 : Rows) : reevelaw12_ownOf_l8_1_V → St
  | (.inl _v) => ⟨[(1, .ptr 0 1 5 0 0), (2, .ptr 1 1 5 0 0), (3, .ptr 2 1 5 0 0), (6, .i .i64 0)], [.row 5 true false [[.i .i64 p0, .i .i64 p1, .i .i64 p2, .lst p3 p4 5 p5, .lst p6 p7 13 p8]], .row 5 true false [[.i .i64 0, .i .i64 0, .i .i64 0, .lst true true 0 [], .lst true true 0 []]], .row 5 false false [[.i .i64 p9, .i .i64 p10, .i .i64 p11, .sl 3 p12 5 0 p13, .lst true true 0 []]], .row 5 true false p14]⟩
  | (.inr v) => ⟨[(1, .ptr 0 1 5 0 0), (2, .ptr 1 1 5 0 0), (3, .ptr 2 1 5 0 0), (6, .i .i64 v.1)], [.row 5 true false [[.i .i64 p0, .i .i64 p1, .i .i64 p2, .lst p3 p4 5 p5, .lst p6 p7 13 p8]], .row 5 true false [[.i .i64 0, .i .i64 0, .i .i64 0, .lst true true 0 [], .lst true true 0 []]], .row 5 false false [[.i .i64 p9, .i .i64 p10, .i .i64 p11, .sl 3 p12 5 0 p13, .sl 4 v.2.1 13 0 v.2.2.1]], .row 5 true false p14, .row 13 true false v.2.2.2]⟩
noncomputable def reevelaw12_ownOf_s (G : reevelaw12_ownOf_G) {ρ : Type} (n : Nat) (a0 : Int) (a1 : Int) (a2 : Int) (a3 : Bool) (a4 : Bool) (a5 : Rows) (a6 : Bool) (a7 : Bool) (a8 : Rows) (k0 : (Bool → Bool → Rows → Bool → Bool → Rows → Option ρ)) : Option ρ :=
  reevelaw12_ownOf_l3 G n a0 a1 a2 a3 a4 a5 a6 a7 a8 a0 a1 a2 (reevelaw12_ownOf_l8_0 G n a0 a1 a2 a3 a4 a5 a6 a7 a8 a0 a1 a2 (k0 true true [] true true []) (fun w2_0 w2_1 w2_2 =>
      chk (((List.length (w2_2 : Rows)) : Nat) == w2_0) <|
      k0 true true [] false false (List.take w2_1 (List.drop 0 (w2_2 : Rows)))) (.inl ())) (fun w3_0 w3_1 w3_2 =>
    reevelaw12_ownOf_l8_1 G n a0 a1 a2 a3 a4 a5 a6 a7 a8 a0 a1 a2 w3_0 w3_1 w3_2 (chk (((List.length (w3_2 : Rows)) : Nat) == w3_0) <|
      k0 false false (List.take w3_1 (List.drop 0 (w3_2 : Rows))) true true []) (fun w5_0 w5_1 w5_2 =>
      chk (((List.length (w3_2 : Rows)) : Nat) == w3_0) <|
      chk (((List.length (w5_2 : Rows)) : Nat) == w5_0) <|
      k0 false false (List.take w3_1 (List.drop 0 (w3_2 : Rows))) false false (List.take w5_1 (List.drop 0 (w5_2 : Rows)))) (.inl ())) (.inl ())
noncomputable def reevelaw12_ownOf_g (n : Nat) : reevelaw12_ownOf_G := ⟨reevelaw12_thingOf n⟩
noncomputable def reevelaw12_ownOf (n : Nat) : reevelaw12_ownOf_T := fun _ρ a0 a1 a2 a3 a4 a5 a6 a7 a8 k0 => reevelaw12_ownOf_s (reevelaw12_ownOf_g n) n a0 a1 a2 a3 a4 a5 a6 a7 a8 k0
noncomputable def reevelaw12_ownOf_e (n : Nat) : EK := reevelaw12_ownOf_E (reevelaw12_ownOf n)
def reevelaw12_ownOf_S (G : reevelaw12_ownOf_G) : CK := tabS [(50, reevelaw12_thingOf_E G.reevelaw12_thingOf)]
theorem reevelaw12_ownOf_Sok (n : Nat) : CK.OK (reevelaw12_ownOf_S (reevelaw12_ownOf_g n)) (L tab) := tabS_ok _ (List.forall_mem_cons.2 ⟨(reevelaw12_thingOf_ok n), (fun _ h => nomatch h)⟩)
def reevelaw12_ownOf_hs : HintC := hintL [(28, [.i .i64, .i .i64, .i .i64, .i .i64, .i .i64]), (45, [.i .i64, .i .i64, .i .i64, .i .i64, .i .i64]), (64, [.i .i64, .i .i64, .i .i64, .i .i64, .i .i64, .i .i64, .i .i64, .b, .i .u64, .i .u64, .i .u64, .i .u64, .i .u64])]
def reevelaw12_ownOf_c3 : Nat × List Nat × List Nat × MC := loopAt 3 m22
noncomputable def reevelaw12_ownOf_l3_d (G : reevelaw12_ownOf_G) (n : Nat) : Go.Rv.LE := fun _ρ h K => decSt [(1, .ptr 0 5 0 (some 1) (some 0)), (2, .ptr 1 5 0 (some 1) (some 0)), (3, .ptr 2 5 0 (some 1) (some 0)), (4, .i .i64 (some 0))] [.row 5 true false (some [[.i .i64 none, .i .i64 none, .i .i64 none, .lst none none 5 none, .lst none none 13 none]]), .row 5 true false (some [[.i .i64 (some 0), .i .i64 (some 0), .i .i64 (some 0), .lst (some true) (some true) 0 (some []), .lst (some true) (some true) 0 (some [])]]), .row 5 true false (some [[.i .i64 none, .i .i64 none, .i .i64 none, .lst (some true) (some true) 0 (some []), .lst (some true) (some true) 0 (some [])]])] h fun _a b => reevelaw12_ownOf_l3 G n b.1.1.1 b.1.1.2.1 b.1.1.2.2.1 b.1.1.2.2.2.1.1 b.1.1.2.2.2.1.2.1 b.1.1.2.2.2.1.2.2 b.1.1.2.2.2.2.1.1 b.1.1.2.2.2.2.1.2.1 b.1.1.2.2.2.2.1.2.2 b.2.2.1.1.1 b.2.2.1.1.2.1 b.2.2.1.1.2.2.1 (K (.exit 0) ⟨[(1, .ptr 0 1 5 0 0), (2, .ptr 1 1 5 0 0), (3, .ptr 2 1 5 0 0)], [.row 5 true false [[.i .i64 b.1.1.1, .i .i64 b.1.1.2.1, .i .i64 b.1.1.2.2.1, .lst b.1.1.2.2.2.1.1 b.1.1.2.2.2.1.2.1 5 b.1.1.2.2.2.1.2.2, .lst b.1.1.2.2.2.2.1.1 b.1.1.2.2.2.2.1.2.1 13 b.1.1.2.2.2.2.1.2.2]], .row 5 true false [[.i .i64 0, .i .i64 0, .i .i64 0, .lst true true 0 [], .lst true true 0 []]], .row 5 true false [[.i .i64 b.2.2.1.1.1, .i .i64 b.2.2.1.1.2.1, .i .i64 b.2.2.1.1.2.2.1, .lst true true 0 [], .lst true true 0 []]]]⟩) (fun w0 w1 w2 => K (.exit 0) ⟨[(1, .ptr 0 1 5 0 0), (2, .ptr 1 1 5 0 0), (3, .ptr 2 1 5 0 0)], [.row 5 true false [[.i .i64 b.1.1.1, .i .i64 b.1.1.2.1, .i .i64 b.1.1.2.2.1, .lst b.1.1.2.2.2.1.1 b.1.1.2.2.2.1.2.1 5 b.1.1.2.2.2.1.2.2, .lst b.1.1.2.2.2.2.1.1 b.1.1.2.2.2.2.1.2.1 13 b.1.1.2.2.2.2.1.2.2]], .row 5 true false [[.i .i64 0, .i .i64 0, .i .i64 0, .lst true true 0 [], .lst true true 0 []]], .row 5 false false [[.i .i64 b.2.2.1.1.1, .i .i64 b.2.2.1.1.2.1, .i .i64 b.2.2.1.1.2.2.1, .sl 3 w0 5 0 w1, .lst true true 0 []]], .row 5 true false w2]⟩) (.inl ())
noncomputable def reevelaw12_ownOf_d3 (G : reevelaw12_ownOf_G) (n : Nat) : Go.Rv.LE := reevelaw12_ownOf_l3_d G n
def reevelaw12_ownOf_c8 : Nat × List Nat × List Nat × MC := loopAt 8 m22
noncomputable def reevelaw12_ownOf_l8_0_d (G : reevelaw12_ownOf_G) (n : Nat) : Go.Rv.LE := fun _ρ h K => decSt [(1, .ptr 0 5 0 (some 1) (some 0)), (2, .ptr 1 5 0 (some 1) (some 0)), (3, .ptr 2 5 0 (some 1) (some 0)), (6, .i .i64 (some 0))] [.row 5 true false (some [[.i .i64 none, .i .i64 none, .i .i64 none, .lst none none 5 none, .lst none none 13 none]]), .row 5 true false (some [[.i .i64 (some 0), .i .i64 (some 0), .i .i64 (some 0), .lst (some true) (some true) 0 (some []), .lst (some true) (some true) 0 (some [])]]), .row 5 true false (some [[.i .i64 none, .i .i64 none, .i .i64 none, .lst (some true) (some true) 0 (some []), .lst (some true) (some true) 0 (some [])]])] h fun _a b => reevelaw12_ownOf_l8_0 G n b.1.1.1 b.1.1.2.1 b.1.1.2.2.1 b.1.1.2.2.2.1.1 b.1.1.2.2.2.1.2.1 b.1.1.2.2.2.1.2.2 b.1.1.2.2.2.2.1.1 b.1.1.2.2.2.2.1.2.1 b.1.1.2.2.2.2.1.2.2 b.2.2.1.1.1 b.2.2.1.1.2.1 b.2.2.1.1.2.2.1 (K (.exit 2) ⟨[(2, .ptr 1 1 5 0 0), (3, .ptr 2 1 5 0 0)], [.row 5 true false [[.i .i64 b.1.1.1, .i .i64 b.1.1.2.1, .i .i64 b.1.1.2.2.1, .lst b.1.1.2.2.2.1.1 b.1.1.2.2.2.1.2.1 5 b.1.1.2.2.2.1.2.2, .lst b.1.1.2.2.2.2.1.1 b.1.1.2.2.2.2.1.2.1 13 b.1.1.2.2.2.2.1.2.2]], .row 5 true false [[.i .i64 0, .i .i64 0, .i .i64 0, .lst true true 0 [], .lst true true 0 []]], .row 5 true false [[.i .i64 b.2.2.1.1.1, .i .i64 b.2.2.1.1.2.1, .i .i64 b.2.2.1.1.2.2.1, .lst true true 0 [], .lst true true 0 []]]]⟩) (fun w0 w1 w2 => K (.exit 2) ⟨[(2, .ptr 1 1 5 0 0), (3, .ptr 2 1 5 0 0)], [.row 5 true false [[.i .i64 b.1.1.1, .i .i64 b.1.1.2.1, .i .i64 b.1.1.2.2.1, .lst b.1.1.2.2.2.1.1 b.1.1.2.2.2.1.2.1 5 b.1.1.2.2.2.1.2.2, .lst b.1.1.2.2.2.2.1.1 b.1.1.2.2.2.2.1.2.1 13 b.1.1.2.2.2.2.1.2.2]], .row 5 true false [[.i .i64 0, .i .i64 0, .i .i64 0, .lst true true 0 [], .lst true true 0 []]], .row 5 false false [[.i .i64 b.2.2.1.1.1, .i .i64 b.2.2.1.1.2.1, .i .i64 b.2.2.1.1.2.2.1, .lst true true 0 [], .sl 3 w0 13 0 w1]], .row 13 true false w2]⟩) (.inl ())
noncomputable def reevelaw12_ownOf_l8_1_d (G : reevelaw12_ownOf_G) (n : Nat) : Go.Rv.LE := fun _ρ h K => decSt [(1, .ptr 0 5 0 (some 1) (some 0)), (2, .ptr 1 5 0 (some 1) (some 0)), (3, .ptr 2 5 0 (some 1) (some 0)), (6, .i .i64 (some 0))] [.row 5 true false (some [[.i .i64 none, .i .i64 none, .i .i64 none, .lst none none 5 none, .lst none none 13 none]]), .row 5 true false (some [[.i .i64 (some 0), .i .i64 (some 0), .i .i64 (some 0), .lst (some true) (some true) 0 (some []), .lst (some true) (some true) 0 (some [])]]), .row 5 false false (some [[.i .i64 none, .i .i64 none, .i .i64 none, .sl 3 5 none (some 0) none, .lst (some true) (some true) 0 (some [])]]), .row 5 true false none] h fun _a b => reevelaw12_ownOf_l8_1 G n b.1.1.1 b.1.1.2.1 b.1.1.2.2.1 b.1.1.2.2.2.1.1 b.1.1.2.2.2.1.2.1 b.1.1.2.2.2.1.2.2 b.1.1.2.2.2.2.1.1 b.1.1.2.2.2.2.1.2.1 b.1.1.2.2.2.2.1.2.2 b.2.2.1.1.1 b.2.2.1.1.2.1 b.2.2.1.1.2.2.1 b.2.2.1.1.2.2.2.1.1 b.2.2.1.1.2.2.2.1.2.2 b.2.2.2.1 (K (.exit 2) ⟨[(2, .ptr 1 1 5 0 0), (3, .ptr 2 1 5 0 0)], [.row 5 true false [[.i .i64 b.1.1.1, .i .i64 b.1.1.2.1, .i .i64 b.1.1.2.2.1, .lst b.1.1.2.2.2.1.1 b.1.1.2.2.2.1.2.1 5 b.1.1.2.2.2.1.2.2, .lst b.1.1.2.2.2.2.1.1 b.1.1.2.2.2.2.1.2.1 13 b.1.1.2.2.2.2.1.2.2]], .row 5 true false [[.i .i64 0, .i .i64 0, .i .i64 0, .lst true true 0 [], .lst true true 0 []]], .row 5 false false [[.i .i64 b.2.2.1.1.1, .i .i64 b.2.2.1.1.2.1, .i .i64 b.2.2.1.1.2.2.1, .sl 3 b.2.2.1.1.2.2.2.1.1 5 0 b.2.2.1.1.2.2.2.1.2.2, .lst true true 0 []]], .row 5 true false b.2.2.2.1]⟩) (fun w0 w1 w2 => K (.exit 2) ⟨[(2, .ptr 1 1 5 0 0), (3, .ptr 2 1 5 0 0)], [.row 5 true false [[.i .i64 b.1.1.1, .i .i64 b.1.1.2.1, .i .i64 b.1.1.2.2.1, .lst b.1.1.2.2.2.1.1 b.1.1.2.2.2.1.2.1 5 b.1.1.2.2.2.1.2.2, .lst b.1.1.2.2.2.2.1.1 b.1.1.2.2.2.2.1.2.1 13 b.1.1.2.2.2.2.1.2.2]], .row 5 true false [[.i .i64 0, .i .i64 0, .i .i64 0, .lst true true 0 [], .lst true true 0 []]], .row 5 false false [[.i .i64 b.2.2.1.1.1, .i .i64 b.2.2.1.1.2.1, .i .i64 b.2.2.1.1.2.2.1, .sl 3 b.2.2.1.1.2.2.2.1.1 5 0 b.2.2.1.1.2.2.2.1.2.2, .sl 4 w0 13 0 w1]], .row 5 true false b.2.2.2.1, .row 13 true false w2]⟩) (.inl ())
noncomputable def reevelaw12_ownOf_d8 (G : reevelaw12_ownOf_G) (n : Nat) : Go.Rv.LE := altL [(1, .ptr 0 5 0 (some 1) (some 0)), (2, .ptr 1 5 0 (some 1) (some 0)), (3, .ptr 2 5 0 (some 1) (some 0)), (6, .i .i64 (some 0))] [.row 5 true false (some [[.i .i64 none, .i .i64 none, .i .i64 none, .lst none none 5 none, .lst none none 13 none]]), .row 5 true false (some [[.i .i64 (some 0), .i .i64 (some 0), .i .i64 (some 0), .lst (some true) (some true) 0 (some []), .lst (some true) (some true) 0 (some [])]]), .row 5 true false (some [[.i .i64 none, .i .i64 none, .i .i64 none, .lst (some true) (some true) 0 (some []), .lst (some true) (some true) 0 (some [])]])] (reevelaw12_ownOf_l8_0_d G n) (reevelaw12_ownOf_l8_1_d G n)
noncomputable def reevelaw12_ownOf_lp (G : reevelaw12_ownOf_G) (n : Nat) : LK := tabL [(3, reevelaw12_ownOf_d3 G n), (8, reevelaw12_ownOf_d8 G n)]
theorem reevelaw12_ownOf_l3_k (G : reevelaw12_ownOf_G) {ρ : Type} (n : Nat) (p0 : Int) (p1 : Int) (p2 : Int) (p3 : Bool) (p4 : Bool) (p5 : Rows) (p6 : Bool) (p7 : Bool) (p8 : Rows) (p9 : Int) (p10 : Int) (p11 : Int) (K : Ex → St → Option ρ) (N : St → Option ρ) : ∀ v, roundC (reevelaw12_ownOf_S G) reevelaw12_ownOf_hs (reevelaw12_ownOf_lp G n) reevelaw12_ownOf_c3 3 N K (reevelaw12_ownOf_l3_enc p0 p1 p2 p3 p4 p5 p6 p7 p8 p9 p10 p11 v) = reevelaw12_ownOf_l3_s G n p0 p1 p2 p3 p4 p5 p6 p7 p8 p9 p10 p11 (K (.exit 0) ⟨[(1, .ptr 0 1 5 0 0), (2, .ptr 1 1 5 0 0), (3, .ptr 2 1 5 0 0)], [.row 5 true false [[.i .i64 p0, .i .i64 p1, .i .i64 p2, .lst p3 p4 5 p5, .lst p6 p7 13 p8]], .row 5 true false [[.i .i64 0, .i .i64 0, .i .i64 0, .lst true true 0 [], .lst true true 0 []]], .row 5 true false [[.i .i64 p9, .i .i64 p10, .i .i64 p11, .lst true true 0 [], .lst true true 0 []]]]⟩) (fun w0 w1 w2 => K (.exit 0) ⟨[(1, .ptr 0 1 5 0 0), (2, .ptr 1 1 5 0 0), (3, .ptr 2 1 5 0 0)], [.row 5 true false [[.i .i64 p0, .i .i64 p1, .i .i64 p2, .lst p3 p4 5 p5, .lst p6 p7 13 p8]], .row 5 true false [[.i .i64 0, .i .i64 0, .i .i64 0, .lst true true 0 [], .lst true true 0 []]], .row 5 false false [[.i .i64 p9, .i .i64 p10, .i .i64 p11, .sl 3 w0 5 0 w1, .lst true true 0 []]], .row 5 true false w2]⟩) (fun v => N (reevelaw12_ownOf_l3_enc p0 p1 p2 p3 p4 p5 p6 p7 p8 p9 p10 p11 v)) v
  | (.inl v) => by kernel_rfl
  | (.inr v) => by kernel_rfl
theorem reevelaw12_ownOf_l3_dok (n : Nat) : LE.OK (reevelaw12_ownOf_l3_d (reevelaw12_ownOf_g n) n) (L tab) reevelaw12_ownOf_c3 := LE.shp (fun _ _ _ => rfl) fun ρ K y a b e => LE.rounds (reevelaw12_ownOf_Sok n) (LK.of (l := []) (by kernel_rfl) ((fun _ h => nomatch h))) (reevelaw12_ownOf_l3_k (reevelaw12_ownOf_g n) n _ _ _ _ _ _ _ _ _ _ _ _ K) (by kernel_rfl) (by kernel_rfl) e
theorem reevelaw12_ownOf_d3_ok (n : Nat) : LE.OK (reevelaw12_ownOf_d3 (reevelaw12_ownOf_g n) n) (L tab) reevelaw12_ownOf_c3 := reevelaw12_ownOf_l3_dok n
theorem reevelaw12_ownOf_l8_0_k (G : reevelaw12_ownOf_G) {ρ : Type} (n : Nat) (p0 : Int) (p1 : Int) (p2 : Int) (p3 : Bool) (p4 : Bool) (p5 : Rows) (p6 : Bool) (p7 : Bool) (p8 : Rows) (p9 : Int) (p10 : Int) (p11 : Int) (K : Ex → St → Option ρ) (N : St → Option ρ) : ∀ v, roundC (reevelaw12_ownOf_S G) reevelaw12_ownOf_hs (reevelaw12_ownOf_lp G n) reevelaw12_ownOf_c8 3 N K (reevelaw12_ownOf_l8_0_enc p0 p1 p2 p3 p4 p5 p6 p7 p8 p9 p10 p11 v) = reevelaw12_ownOf_l8_0_s G n p0 p1 p2 p3 p4 p5 p6 p7 p8 p9 p10 p11 (K (.exit 2) ⟨[(2, .ptr 1 1 5 0 0), (3, .ptr 2 1 5 0 0)], [.row 5 true false [[.i .i64 p0, .i .i64 p1, .i .i64 p2, .lst p3 p4 5 p5, .lst p6 p7 13 p8]], .row 5 true false [[.i .i64 0, .i .i64 0, .i .i64 0, .lst true true 0 [], .lst true true 0 []]], .row 5 true false [[.i .i64 p9, .i .i64 p10, .i .i64 p11, .lst true true 0 [], .lst true true 0 []]]]⟩) (fun w0 w1 w2 => K (.exit 2) ⟨[(2, .ptr 1 1 5 0 0), (3, .ptr 2 1 5 0 0)], [.row 5 true false [[.i .i64 p0, .i .i64 p1, .i .i64 p2, .lst p3 p4 5 p5, .lst p6 p7 13 p8]], .row 5 true false [[.i .i64 0, .i .i64 0, .i .i64 0, .lst true true 0 [], .lst true true 0 []]], .row 5 false false [[.i .i64 p9, .i .i64 p10, .i .i64 p11, .lst true true 0 [], .sl 3 w0 13 0 w1]], .row 13 true false w2]⟩) (fun v => N (reevelaw12_ownOf_l8_0_enc p0 p1 p2 p3 p4 p5 p6 p7 p8 p9 p10 p11 v)) v
  | (.inl v) => by kernel_rfl
  | (.inr v) => by kernel_rfl
theorem reevelaw12_ownOf_l8_0_dok (n : Nat) : LE.OK (reevelaw12_ownOf_l8_0_d (reevelaw12_ownOf_g n) n) (L tab) reevelaw12_ownOf_c8 := LE.shp (fun _ _ _ => rfl) fun ρ K y a b e => LE.rounds (reevelaw12_ownOf_Sok n) (LK.of (l := []) (by kernel_rfl) ((fun _ h => nomatch h))) (reevelaw12_ownOf_l8_0_k (reevelaw12_ownOf_g n) n _ _ _ _ _ _ _ _ _ _ _ _ K) (by kernel_rfl) (by kernel_rfl) e
theorem reevelaw12_ownOf_l8_1_k (G : reevelaw12_ownOf_G) {ρ : Type} (n : Nat) (p0 : Int) (p1 : Int) (p2 : Int) (p3 : Bool) (p4 : Bool) (p5 : Rows) (p6 : Bool) (p7 : Bool) (p8 : Rows) (p9 : Int) (p10 : Int) (p11 : Int) (p12 : Nat) (p13 : Nat) (p14 : Rows) (K : Ex → St → Option ρ) (N : St → Option ρ) : ∀ v, roundC (reevelaw12_ownOf_S G) reevelaw12_ownOf_hs (reevelaw12_ownOf_lp G n) reevelaw12_ownOf_c8 4 N K (reevelaw12_ownOf_l8_1_enc p0 p1 p2 p3 p4 p5 p6 p7 p8 p9 p10 p11 p12 p13 p14 v) = reevelaw12_ownOf_l8_1_s G n p0 p1 p2 p3 p4 p5 p6 p7 p8 p9 p10 p11 p12 p13 p14 (K (.exit 2) ⟨[(2, .ptr 1 1 5 0 0), (3, .ptr 2 1 5 0 0)], [.row 5 true false [[.i .i64 p0, .i .i64 p1, .i .i64 p2, .lst p3 p4 5 p5, .lst p6 p7 13 p8]], .row 5 true false [[.i .i64 0, .i .i64 0, .i .i64 0, .lst true true 0 [], .lst true true 0 []]], .row 5 false false [[.i .i64 p9, .i .i64 p10, .i .i64 p11, .sl 3 p12 5 0 p13, .lst true true 0 []]], .row 5 true false p14]⟩) (fun w0 w1 w2 => K (.exit 2) ⟨[(2, .ptr 1 1 5 0 0), (3, .ptr 2 1 5 0 0)], [.row 5 true false [[.i .i64 p0, .i .i64 p1, .i .i64 p2, .lst p3 p4 5 p5, .lst p6 p7 13 p8]], .row 5 true false [[.i .i64 0, .i .i64 0, .i .i64 0, .lst true true 0 [], .lst true true 0 []]], .row 5 false false [[.i .i64 p9, .i .i64 p10, .i .i64 p11, .sl 3 p12 5 0 p13, .sl 4 w0 13 0 w1]], .row 5 true false p14, .row 13 true false w2]⟩) (fun v => N (reevelaw12_ownOf_l8_1_enc p0 p1 p2 p3 p4 p5 p6 p7 p8 p9 p10 p11 p12 p13 p14 v)) v
  | (.inl v) => by kernel_rfl
  | (.inr v) => by kernel_rfl
theorem reevelaw12_ownOf_l8_1_dok (n : Nat) : LE.OK (reevelaw12_ownOf_l8_1_d (reevelaw12_ownOf_g n) n) (L tab) reevelaw12_ownOf_c8 := LE.shp (fun _ _ _ => rfl) fun ρ K y a b e => LE.rounds (reevelaw12_ownOf_Sok n) (LK.of (l := []) (by kernel_rfl) ((fun _ h => nomatch h))) (reevelaw12_ownOf_l8_1_k (reevelaw12_ownOf_g n) n _ _ _ _ _ _ _ _ _ _ _ _ _ _ _ K) (by kernel_rfl) (by kernel_rfl) e
theorem reevelaw12_ownOf_d8_ok (n : Nat) : LE.OK (reevelaw12_ownOf_d8 (reevelaw12_ownOf_g n) n) (L tab) reevelaw12_ownOf_c8 := altL_ok (reevelaw12_ownOf_l8_0_dok n) (reevelaw12_ownOf_l8_1_dok n)
theorem reevelaw12_ownOf_k (G : reevelaw12_ownOf_G) {ρ : Type} (n : Nat) (a0 : Int) (a1 : Int) (a2 : Int) (a3 : Bool) (a4 : Bool) (a5 : Rows) (a6 : Bool) (a7 : Bool) (a8 : Rows) (K : Res → Option ρ) : runC (reevelaw12_ownOf_S G) reevelaw12_ownOf_hs (reevelaw12_ownOf_lp G n) m22 [.agg [.i .i64 a0, .i .i64 a1, .i .i64 a2, .lst a3 a4 5 a5, .lst a6 a7 13 a8]] K = reevelaw12_ownOf_s G n a0 a1 a2 a3 a4 a5 a6 a7 a8 (fun w0 w1 w2 w3 w4 w5 => K ⟨.agg [.i .i64 a0, .i .i64 a1, .i .i64 a2, .lst w0 w1 5 w2, .lst w3 w4 13 w5], [], []⟩) := by kernel_rfl
theorem reevelaw12_ownOf_ok (n : Nat) : EK.OK (reevelaw12_ownOf_e n) 22 (L tab) := EK.shp (fun _ _ _ => rfl) fun ρ K y c e => EK.run (reevelaw12_ownOf_Sok n) (by kernel_rfl) (MF.LKOK.of (LK.of (l := [reevelaw12_ownOf_c3, reevelaw12_ownOf_c8]) (by kernel_rfl) (List.forall_mem_cons.2 ⟨LE.at (e := reevelaw12_ownOf_d3 (reevelaw12_ownOf_g n) n) (by kernel_rfl) (reevelaw12_ownOf_d3_ok n), List.forall_mem_cons.2 ⟨LE.at (e := reevelaw12_ownOf_d8 (reevelaw12_ownOf_g n) n) (by kernel_rfl) (reevelaw12_ownOf_d8_ok n), (fun _ h => nomatch h)⟩⟩))) (reevelaw12_ownOf_k (reevelaw12_ownOf_g n) n _ _ _ _ _ _ _ _ _ K) (by kernel_rfl) e

/-! reeve/reeveref11.Same -/
abbrev reeveref11_Same_T : Type 1 := (ρ : Type) → Int → Int → Int → Bool → Bool → Rows → Bool → Bool → Rows → Int → Int → Int → Bool → Bool → Rows → Bool → Bool → Rows → (Bool → Option ρ) → Option ρ
def reeveref11_Same_E (G : reeveref11_Same_T) : EK := fun ρ args K => decL [.agg [.i .i64 none, .i .i64 none, .i .i64 none, .lst none none 5 none, .lst none none 13 none], .agg [.i .i64 none, .i .i64 none, .i .i64 none, .lst none none 5 none, .lst none none 13 none]] args fun c => G ρ c.1.1 c.1.2.1 c.1.2.2.1 c.1.2.2.2.1.1 c.1.2.2.2.1.2.1 c.1.2.2.2.1.2.2 c.1.2.2.2.2.1.1 c.1.2.2.2.2.1.2.1 c.1.2.2.2.2.1.2.2 c.2.1.1 c.2.1.2.1 c.2.1.2.2.1 c.2.1.2.2.2.1.1 c.2.1.2.2.2.1.2.1 c.2.1.2.2.2.1.2.2 c.2.1.2.2.2.2.1.1 c.2.1.2.2.2.2.1.2.1 c.2.1.2.2.2.2.1.2.2 (fun w0 => K ⟨.b w0, [], []⟩)
structure reeveref11_Same_G where
  mk ::
abbrev reeveref11_Same_l4_V : Type := Int
noncomputable def reeveref11_Same_l4_s (_G : reeveref11_Same_G) {ρ : Type} (_n : Nat) (_p0 : Int) (_p1 : Int) (_p2 : Int) (_p3 : Bool) (_p4 : Bool) (p5 : Rows) (_p6 : Bool) (_p7 : Bool) (_p8 : Rows) (_p9 : Int) (_p10 : Int) (_p11 : Int) (_p12 : Bool) (_p13 : Bool) (p14 : Rows) (_p15 : Bool) (_p16 : Bool) (_p17 : Rows) (k0 : (Option ρ)) (k1 : (Option ρ)) (rec' : reeveref11_Same_l4_V → Option ρ) : reeveref11_Same_l4_V → Option ρ
  | v =>
  bif decide ((v : Int) < (((List.length (p5 : Rows)) : Nat) : Int)) then
    rowT [.i .i64, .i .i64, .i .i64, .i .i64, .i .i64] p5 v fun c0 =>
    rowT [.i .i64, .i .i64, .i .i64, .i .i64, .i .i64] p14 v fun c1 =>
    bif (!(((c0.1 : Int) == c1.1) && (((c0.2.1 : Int) == c1.2.1) && (((c0.2.2.1 : Int) == c1.2.2.1) && (((c0.2.2.2.1 : Int) == c1.2.2.2.1) && (((c0.2.2.2.2.1 : Int) == c1.2.2.2.2.1) && true)))))) then
      k0
    else rec' ((IntKind.wrap .i64 (v + 1)))
  else k1
noncomputable def reeveref11_Same_l4 (G : reeveref11_Same_G) {ρ : Type} (n : Nat) (p0 : Int) (p1 : Int) (p2 : Int) (p3 : Bool) (p4 : Bool) (p5 : Rows) (p6 : Bool) (p7 : Bool) (p8 : Rows) (p9 : Int) (p10 : Int) (p11 : Int) (p12 : Bool) (p13 : Bool) (p14 : Rows) (p15 : Bool) (p16 : Bool) (p17 : Rows) (k0 : (Option ρ)) (k1 : (Option ρ)) (v : reeveref11_Same_l4_V) : Option ρ := fuelN (reeveref11_Same_l4_s G n p0 p1 p2 p3 p4 p5 p6 p7 p8 p9 p10 p11 p12 p13 p14 p15 p16 p17 k0 k1) n v
def reeveref11_Same_l4_enc (p0 : Int) (p1 : Int) (p2 : Int) (p3 : Bool) (p4 : Bool) (p5 : Rows) (p6 : Bool) (p7 : Bool) (p8 : Rows) (p9 : Int) (p10 : Int) (p11 : Int) (p12 : Bool) (p13 : Bool) (p14 : Rows) (p15 : Bool) (p16 : Bool) (p17 : Rows) : reeveref11_Same_l4_V → St
  | v => ⟨[(2, .ptr 0 1 5 0 0), (3, .ptr 1 1 5 0 0), (5, .i .i64 v)], [.row 5 true false [[.i .i64 p0, .i .i64 p1, .i .i64 p2, .lst p3 p4 5 p5, .lst p6 p7 13 p8]], .row 5 true false [[.i .i64 p9, .i .i64 p10, .i .i64 p11, .lst p12 p13 5 p14, .lst p15 p16 13 p17]]]⟩
abbrev reeveref11_Same_l9_V : Type := Int
noncomputable def reeveref11_Same_l9_s (_G : reeveref11_Same_G) {ρ : Type} (_n : Nat) (_p0 : Int) (_p1 : Int) (_p2 : Int) (_p3 : Bool) (_p4 : Bool) (_p5 : Rows) (_p6 : Bool) (_p7 : Bool) (p8 : Rows) (_p9 : Int) (_p10 : Int) (_p11 : Int) (_p12 : Bool) (_p13 : Bool) (_p14 : Rows) (_p15 : Bool) (_p16 : Bool) (p17 : Rows) (k0 : (Option ρ)) (k1 : (Option ρ)) (rec' : reeveref11_Same_l9_V → Option ρ) : reeveref11_Same_l9_V → Option ρ
  | v =>
  bif decide ((v : Int) < (((List.length (p8 : Rows)) : Nat) : Int)) then
    rowT [.i .i64, .i .i64, .i .i64, .i .i64, .i .i64, .i .i64, .i .i64, .b, .i .u64, .i .u64, .i .u64, .i .u64, .i .u64] p8 v fun c0 =>
    rowT [.i .i64, .i .i64, .i .i64, .i .i64, .i .i64, .i .i64, .i .i64, .b, .i .u64, .i .u64, .i .u64, .i .u64, .i .u64] p17 v fun c1 =>
    bif (!(((c0.1 : Int) == c1.1) && (((c0.2.1 : Int) == c1.2.1) && (((c0.2.2.1 : Int) == c1.2.2.1) && (((c0.2.2.2.1 : Int) == c1.2.2.2.1) && (((c0.2.2.2.2.1 : Int) == c1.2.2.2.2.1) && (((c0.2.2.2.2.2.1 : Int) == c1.2.2.2.2.2.1) && (((c0.2.2.2.2.2.2.1 : Int) == c1.2.2.2.2.2.2.1) && (((c0.2.2.2.2.2.2.2.1 : Bool) == c1.2.2.2.2.2.2.2.1) && (((c0.2.2.2.2.2.2.2.2.1 : Int) == c1.2.2.2.2.2.2.2.2.1) && (((c0.2.2.2.2.2.2.2.2.2.1 : Int) == c1.2.2.2.2.2.2.2.2.2.1) && (((c0.2.2.2.2.2.2.2.2.2.2.1 : Int) == c1.2.2.2.2.2.2.2.2.2.2.1) && (((c0.2.2.2.2.2.2.2.2.2.2.2.1 : Int) == c1.2.2.2.2.2.2.2.2.2.2.2.1) && (((c0.2.2.2.2.2.2.2.2.2.2.2.2.1 : Int) == c1.2.2.2.2.2.2.2.2.2.2.2.2.1) && true)))))))))))))) then
      k0
    else rec' ((IntKind.wrap .i64 (v + 1)))
  else k1
noncomputable def reeveref11_Same_l9 (G : reeveref11_Same_G) {ρ : Type} (n : Nat) (p0 : Int) (p1 : Int) (p2 : Int) (p3 : Bool) (p4 : Bool) (p5 : Rows) (p6 : Bool) (p7 : Bool) (p8 : Rows) (p9 : Int) (p10 : Int) (p11 : Int) (p12 : Bool) (p13 : Bool) (p14 : Rows) (p15 : Bool) (p16 : Bool) (p17 : Rows) (k0 : (Option ρ)) (k1 : (Option ρ)) (v : reeveref11_Same_l9_V) : Option ρ := fuelN (reeveref11_Same_l9_s G n p0 p1 p2 p3 p4 p5 p6 p7 p8 p9 p10 p11 p12 p13 p14 p15 p16 p17 k0 k1) n v
def reeveref11_Same_l9_enc (p0 : Int) (p1 : Int) (p2 : Int) (p3 : Bool) (p4 : Bool) (p5 : Rows) (p6 : Bool) (p7 : Bool) (p8 : Rows) (p9 : Int) (p10 : Int) (p11 : Int) (p12 : Bool) (p13 : Bool) (p14 : Rows) (p15 : Bool) (p16 : Bool) (p17 : Rows) : reeveref11_Same_l9_V → St
  | v => ⟨[(2, .ptr 0 1 5 0 0), (3, .ptr 1 1 5 0 0), (6, .i .i64 v)], [.row 5 true false [[.i .i64 p0, .i .i64 p1, .i .i64 p2, .lst p3 p4 5 p5, .lst p6 p7 13 p8]], .row 5 true false [[.i .i64 p9, .i .i64 p10, .i .i64 p11, .lst p12 p13 5 p14, .lst p15 p16 13 p17]]]⟩
noncomputable def reeveref11_Same_s (G : reeveref11_Same_G) {ρ : Type} (n : Nat) (a0 : Int) (a1 : Int) (a2 : Int) (a3 : Bool) (a4 : Bool) (a5 : Rows) (a6 : Bool) (a7 : Bool) (a8 : Rows) (a9 : Int) (a10 : Int) (a11 : Int) (a12 : Bool) (a13 : Bool) (a14 : Rows) (a15 : Bool) (a16 : Bool) (a17 : Rows) (k0 : (Bool → Option ρ)) : Option ρ :=
  bif (!(((a0 : Int) == a9) && (((a1 : Int) == a10) && (((a2 : Int) == a11) && true)))) then
    k0 false
  else bif (((((List.length (a5 : Rows)) : Nat) : Int) : Int) != (((List.length (a14 : Rows)) : Nat) : Int)) then
    k0 false
  else bif (((((List.length (a8 : Rows)) : Nat) : Int) : Int) != (((List.length (a17 : Rows)) : Nat) : Int)) then
    k0 false
  else reeveref11_Same_l4 G n a0 a1 a2 a3 a4 a5 a6 a7 a8 a9 a10 a11 a12 a13 a14 a15 a16 a17 (k0 false) (reeveref11_Same_l9 G n a0 a1 a2 a3 a4 a5 a6 a7 a8 a9 a10 a11 a12 a13 a14 a15 a16 a17 (k0 false) (k0 true) (0)) (0)
noncomputable def reeveref11_Same_g (_n : Nat) : reeveref11_Same_G := ⟨⟩
noncomputable def reeveref11_Same (n : Nat) : reeveref11_Same_T := fun _ρ a0 a1 a2 a3 a4 a5 a6 a7 a8 a9 a10 a11 a12 a13 a14 a15 a16 a17 k0 => reeveref11_Same_s (reeveref11_Same_g n) n a0 a1 a2 a3 a4 a5 a6 a7 a8 a9 a10 a11 a12 a13 a14 a15 a16 a17 k0
noncomputable def reeveref11_Same_e (n : Nat) : EK := reeveref11_Same_E (reeveref11_Same n)
def reeveref11_Same_S (_G : reeveref11_Same_G) : CK := tabS []
theorem reeveref11_Same_Sok (n : Nat) : CK.OK (reeveref11_Same_S (reeveref11_Same_g n)) (L tab) := tabS_ok _ ((fun _ h => nomatch h))
def reeveref11_Same_hs : HintC := hintL [(40, [.i .i64, .i .i64, .i .i64, .i .i64, .i .i64]), (45, [.i .i64, .i .i64, .i .i64, .i .i64, .i .i64]), (58, [.i .i64, .i .i64, .i .i64, .i .i64, .i .i64, .i .i64, .i .i64, .b, .i .u64, .i .u64, .i .u64, .i .u64, .i .u64]), (63, [.i .i64, .i .i64, .i .i64, .i .i64, .i .i64, .i .i64, .i .i64, .b, .i .u64, .i .u64, .i .u64, .i .u64, .i .u64])]
def reeveref11_Same_c4 : Nat × List Nat × List Nat × MC := loopAt 4 m21
noncomputable def reeveref11_Same_l4_d (G : reeveref11_Same_G) (n : Nat) : Go.Rv.LE := fun _ρ h K => decSt [(2, .ptr 0 5 0 (some 1) (some 0)), (3, .ptr 1 5 0 (some 1) (some 0)), (5, .i .i64 none)] [.row 5 true false (some [[.i .i64 none, .i .i64 none, .i .i64 none, .lst none none 5 none, .lst none none 13 none]]), .row 5 true false (some [[.i .i64 none, .i .i64 none, .i .i64 none, .lst none none 5 none, .lst none none 13 none]])] h fun a b => reeveref11_Same_l4 G n b.1.1.1 b.1.1.2.1 b.1.1.2.2.1 b.1.1.2.2.2.1.1 b.1.1.2.2.2.1.2.1 b.1.1.2.2.2.1.2.2 b.1.1.2.2.2.2.1.1 b.1.1.2.2.2.2.1.2.1 b.1.1.2.2.2.2.1.2.2 b.2.1.1.1 b.2.1.1.2.1 b.2.1.1.2.2.1 b.2.1.1.2.2.2.1.1 b.2.1.1.2.2.2.1.2.1 b.2.1.1.2.2.2.1.2.2 b.2.1.1.2.2.2.2.1.1 b.2.1.1.2.2.2.2.1.2.1 b.2.1.1.2.2.2.2.1.2.2 (K .ret ⟨[(2, .ptr 0 1 5 0 0), (3, .ptr 1 1 5 0 0), (4, .b false)], [.row 5 true false [[.i .i64 b.1.1.1, .i .i64 b.1.1.2.1, .i .i64 b.1.1.2.2.1, .lst b.1.1.2.2.2.1.1 b.1.1.2.2.2.1.2.1 5 b.1.1.2.2.2.1.2.2, .lst b.1.1.2.2.2.2.1.1 b.1.1.2.2.2.2.1.2.1 13 b.1.1.2.2.2.2.1.2.2]], .row 5 true false [[.i .i64 b.2.1.1.1, .i .i64 b.2.1.1.2.1, .i .i64 b.2.1.1.2.2.1, .lst b.2.1.1.2.2.2.1.1 b.2.1.1.2.2.2.1.2.1 5 b.2.1.1.2.2.2.1.2.2, .lst b.2.1.1.2.2.2.2.1.1 b.2.1.1.2.2.2.2.1.2.1 13 b.2.1.1.2.2.2.2.1.2.2]]]⟩) (K (.exit 0) ⟨[(2, .ptr 0 1 5 0 0), (3, .ptr 1 1 5 0 0), (4, .u)], [.row 5 true false [[.i .i64 b.1.1.1, .i .i64 b.1.1.2.1, .i .i64 b.1.1.2.2.1, .lst b.1.1.2.2.2.1.1 b.1.1.2.2.2.1.2.1 5 b.1.1.2.2.2.1.2.2, .lst b.1.1.2.2.2.2.1.1 b.1.1.2.2.2.2.1.2.1 13 b.1.1.2.2.2.2.1.2.2]], .row 5 true false [[.i .i64 b.2.1.1.1, .i .i64 b.2.1.1.2.1, .i .i64 b.2.1.1.2.2.1, .lst b.2.1.1.2.2.2.1.1 b.2.1.1.2.2.2.1.2.1 5 b.2.1.1.2.2.2.1.2.2, .lst b.2.1.1.2.2.2.2.1.1 b.2.1.1.2.2.2.2.1.2.1 13 b.2.1.1.2.2.2.2.1.2.2]]]⟩) (a.2.2.1)
noncomputable def reeveref11_Same_d4 (G : reeveref11_Same_G) (n : Nat) : Go.Rv.LE := reeveref11_Same_l4_d G n
def reeveref11_Same_c9 : Nat × List Nat × List Nat × MC := loopAt 9 m21
noncomputable def reeveref11_Same_l9_d (G : reeveref11_Same_G) (n : Nat) : Go.Rv.LE := fun _ρ h K => decSt [(2, .ptr 0 5 0 (some 1) (some 0)), (3, .ptr 1 5 0 (some 1) (some 0)), (6, .i .i64 none)] [.row 5 true false (some [[.i .i64 none, .i .i64 none, .i .i64 none, .lst none none 5 none, .lst none none 13 none]]), .row 5 true false (some [[.i .i64 none, .i .i64 none, .i .i64 none, .lst none none 5 none, .lst none none 13 none]])] h fun a b => reeveref11_Same_l9 G n b.1.1.1 b.1.1.2.1 b.1.1.2.2.1 b.1.1.2.2.2.1.1 b.1.1.2.2.2.1.2.1 b.1.1.2.2.2.1.2.2 b.1.1.2.2.2.2.1.1 b.1.1.2.2.2.2.1.2.1 b.1.1.2.2.2.2.1.2.2 b.2.1.1.1 b.2.1.1.2.1 b.2.1.1.2.2.1 b.2.1.1.2.2.2.1.1 b.2.1.1.2.2.2.1.2.1 b.2.1.1.2.2.2.1.2.2 b.2.1.1.2.2.2.2.1.1 b.2.1.1.2.2.2.2.1.2.1 b.2.1.1.2.2.2.2.1.2.2 (K .ret ⟨[(4, .b false)], [.row 5 true false [[.i .i64 b.1.1.1, .i .i64 b.1.1.2.1, .i .i64 b.1.1.2.2.1, .lst b.1.1.2.2.2.1.1 b.1.1.2.2.2.1.2.1 5 b.1.1.2.2.2.1.2.2, .lst b.1.1.2.2.2.2.1.1 b.1.1.2.2.2.2.1.2.1 13 b.1.1.2.2.2.2.1.2.2]], .row 5 true false [[.i .i64 b.2.1.1.1, .i .i64 b.2.1.1.2.1, .i .i64 b.2.1.1.2.2.1, .lst b.2.1.1.2.2.2.1.1 b.2.1.1.2.2.2.1.2.1 5 b.2.1.1.2.2.2.1.2.2, .lst b.2.1.1.2.2.2.2.1.1 b.2.1.1.2.2.2.2.1.2.1 13 b.2.1.1.2.2.2.2.1.2.2]]]⟩) (K (.exit 2) ⟨[(4, .u)], [.row 5 true false [[.i .i64 b.1.1.1, .i .i64 b.1.1.2.1, .i .i64 b.1.1.2.2.1, .lst b.1.1.2.2.2.1.1 b.1.1.2.2.2.1.2.1 5 b.1.1.2.2.2.1.2.2, .lst b.1.1.2.2.2.2.1.1 b.1.1.2.2.2.2.1.2.1 13 b.1.1.2.2.2.2.1.2.2]], .row 5 true false [[.i .i64 b.2.1.1.1, .i .i64 b.2.1.1.2.1, .i .i64 b.2.1.1.2.2.1, .lst b.2.1.1.2.2.2.1.1 b.2.1.1.2.2.2.1.2.1 5 b.2.1.1.2.2.2.1.2.2, .lst b.2.1.1.2.2.2.2.1.1 b.2.1.1.2.2.2.2.1.2.1 13 b.2.1.1.2.2.2.2.1.2.2]]]⟩) (a.2.2.1)
noncomputable def reeveref11_Same_d9 (G : reeveref11_Same_G) (n : Nat) : Go.Rv.LE := reeveref11_Same_l9_d G n
noncomputable def reeveref11_Same_lp (G : reeveref11_Same_G) (n : Nat) : LK := tabL [(4, reeveref11_Same_d4 G n), (9, reeveref11_Same_d9 G n)]
theorem reeveref11_Same_l4_k (G : reeveref11_Same_G) {ρ : Type} (n : Nat) (p0 : Int) (p1 : Int) (p2 : Int) (p3 : Bool) (p4 : Bool) (p5 : Rows) (p6 : Bool) (p7 : Bool) (p8 : Rows) (p9 : Int) (p10 : Int) (p11 : Int) (p12 : Bool) (p13 : Bool) (p14 : Rows) (p15 : Bool) (p16 : Bool) (p17 : Rows) (K : Ex → St → Option ρ) (N : St → Option ρ) : ∀ v, roundC (reeveref11_Same_S G) reeveref11_Same_hs (reeveref11_Same_lp G n) reeveref11_Same_c4 2 N K (reeveref11_Same_l4_enc p0 p1 p2 p3 p4 p5 p6 p7 p8 p9 p10 p11 p12 p13 p14 p15 p16 p17 v) = reeveref11_Same_l4_s G n p0 p1 p2 p3 p4 p5 p6 p7 p8 p9 p10 p11 p12 p13 p14 p15 p16 p17 (K .ret ⟨[(2, .ptr 0 1 5 0 0), (3, .ptr 1 1 5 0 0), (4, .b false)], [.row 5 true false [[.i .i64 p0, .i .i64 p1, .i .i64 p2, .lst p3 p4 5 p5, .lst p6 p7 13 p8]], .row 5 true false [[.i .i64 p9, .i .i64 p10, .i .i64 p11, .lst p12 p13 5 p14, .lst p15 p16 13 p17]]]⟩) (K (.exit 0) ⟨[(2, .ptr 0 1 5 0 0), (3, .ptr 1 1 5 0 0), (4, .u)], [.row 5 true false [[.i .i64 p0, .i .i64 p1, .i .i64 p2, .lst p3 p4 5 p5, .lst p6 p7 13 p8]], .row 5 true false [[.i .i64 p9, .i .i64 p10, .i .i64 p11, .lst p12 p13 5 p14, .lst p15 p16 13 p17]]]⟩) (fun v => N (reeveref11_Same_l4_enc p0 p1 p2 p3 p4 p5 p6 p7 p8 p9 p10 p11 p12 p13 p14 p15 p16 p17 v)) v
  | v => by kernel_rfl
theorem reeveref11_Same_l4_dok (n : Nat) : LE.OK (reeveref11_Same_l4_d (reeveref11_Same_g n) n) (L tab) reeveref11_Same_c4 := LE.shp (fun _ _ _ => rfl) fun ρ K y a b e => LE.rounds (reeveref11_Same_Sok n) (LK.of (l := []) (by kernel_rfl) ((fun _ h => nomatch h))) (reeveref11_Same_l4_k (reeveref11_Same_g n) n _ _ _ _ _ _ _ _ _ _ _ _ _ _ _ _ _ _ K) (by kernel_rfl) (by kernel_rfl) e
theorem reeveref11_Same_d4_ok (n : Nat) : LE.OK (reeveref11_Same_d4 (reeveref11_Same_g n) n) (L tab) reeveref11_Same_c4 := reeveref11_Same_l4_dok n
theorem reeveref11_Same_l9_k (G : reeveref11_Same_G) {ρ : Type} (n : Nat) (p0 : Int) (p1 : Int) (p2 : Int) (p3 : Bool) (p4 : Bool) (p5 : Rows) (p6 : Bool) (p7 : Bool) (p8 : Rows) (p9 : Int) (p10 : Int) (p11 : Int) (p12 : Bool) (p13 : Bool) (p14 : Rows) (p15 : Bool) (p16 : Bool) (p17 : Rows) (K : Ex → St → Option ρ) (N : St → Option ρ) : ∀ v, roundC (reeveref11_Same_S G) reeveref11_Same_hs (reeveref11_Same_lp G n) reeveref11_Same_c9 2 N K (reeveref11_Same_l9_enc p0 p1 p2 p3 p4 p5 p6 p7 p8 p9 p10 p11 p12 p13 p14 p15 p16 p17 v) = reeveref11_Same_l9_s G n p0 p1 p2 p3 p4 p5 p6 p7 p8 p9 p10 p11 p12 p13 p14 p15 p16 p17 (K .ret ⟨[(4, .b false)], [.row 5 true false [[.i .i64 p0, .i .i64 p1, .i .i64 p2, .lst p3 p4 5 p5, .lst p6 p7 13 p8]], .row 5 true false [[.i .i64 p9, .i .i64 p10, .i .i64 p11, .lst p12 p13 5 p14, .lst p15 p16 13 p17]]]⟩) (K (.exit 2) ⟨[(4, .u)], [.row 5 true false [[.i .i64 p0, .i .i64 p1, .i .i64 p2, .lst p3 p4 5 p5, .lst p6 p7 13 p8]], .row 5 true false [[.i .i64 p9, .i .i64 p10, .i .i64 p11, .lst p12 p13 5 p14, .lst p15 p16 13 p17]]]⟩) (fun v => N (reeveref11_Same_l9_enc p0 p1 p2 p3 p4 p5 p6 p7 p8 p9 p10 p11 p12 p13 p14 p15 p16 p17 v)) v
  | v => by kernel_rfl
theorem reeveref11_Same_l9_dok (n : Nat) : LE.OK (reeveref11_Same_l9_d (reeveref11_Same_g n) n) (L tab) reeveref11_Same_c9 := LE.shp (fun _ _ _ => rfl) fun ρ K y a b e => LE.rounds (reeveref11_Same_Sok n) (LK.of (l := []) (by kernel_rfl) ((fun _ h => nomatch h))) (reeveref11_Same_l9_k (reeveref11_Same_g n) n _ _ _ _ _ _ _ _ _ _ _ _ _ _ _ _ _ _ K) (by kernel_rfl) (by kernel_rfl) e
theorem reeveref11_Same_d9_ok (n : Nat) : LE.OK (reeveref11_Same_d9 (reeveref11_Same_g n) n) (L tab) reeveref11_Same_c9 := reeveref11_Same_l9_dok n
theorem reeveref11_Same_k (G : reeveref11_Same_G) {ρ : Type} (n : Nat) (a0 : Int) (a1 : Int) (a2 : Int) (a3 : Bool) (a4 : Bool) (a5 : Rows) (a6 : Bool) (a7 : Bool) (a8 : Rows) (a9 : Int) (a10 : Int) (a11 : Int) (a12 : Bool) (a13 : Bool) (a14 : Rows) (a15 : Bool) (a16 : Bool) (a17 : Rows) (K : Res → Option ρ) : runC (reeveref11_Same_S G) reeveref11_Same_hs (reeveref11_Same_lp G n) m21 [.agg [.i .i64 a0, .i .i64 a1, .i .i64 a2, .lst a3 a4 5 a5, .lst a6 a7 13 a8], .agg [.i .i64 a9, .i .i64 a10, .i .i64 a11, .lst a12 a13 5 a14, .lst a15 a16 13 a17]] K = reeveref11_Same_s G n a0 a1 a2 a3 a4 a5 a6 a7 a8 a9 a10 a11 a12 a13 a14 a15 a16 a17 (fun w0 => K ⟨.b w0, [], []⟩) := by kernel_rfl
theorem reeveref11_Same_ok (n : Nat) : EK.OK (reeveref11_Same_e n) 21 (L tab) := EK.shp (fun _ _ _ => rfl) fun ρ K y c e => EK.run (reeveref11_Same_Sok n) (by kernel_rfl) (MF.LKOK.of (LK.of (l := [reeveref11_Same_c4, reeveref11_Same_c9]) (by kernel_rfl) (List.forall_mem_cons.2 ⟨LE.at (e := reeveref11_Same_d4 (reeveref11_Same_g n) n) (by kernel_rfl) (reeveref11_Same_d4_ok n), List.forall_mem_cons.2 ⟨LE.at (e := reeveref11_Same_d9 (reeveref11_Same_g n) n) (by kernel_rfl) (reeveref11_Same_d9_ok n), (fun _ h => nomatch h)⟩⟩))) (reeveref11_Same_k (reeveref11_Same_g n) n _ _ _ _ _ _ _ _ _ _ _ _ _ _ _ _ _ _ K) (by kernel_rfl) e

/-! slices.Clone[[]reeve/state.Slot,reeve/state.Slot] -/
abbrev slices_Clone_Slot_T : Type 1 := (ρ : Type) → Bool → Bool → Rows → (Option ρ) → (Nat → Nat → Rows → Option ρ) → Option ρ
def slices_Clone_Slot_E (G : slices_Clone_Slot_T) : EK := fun ρ args K => decL [.lst none none 5 none] args fun c => G ρ c.1.1 c.1.2.1 c.1.2.2 (K ⟨.lst true true 0 [], [], []⟩) (fun w0 w1 w2 => K ⟨.sl 0 w0 5 0 w1, [.row 5 true false w2], []⟩)
structure slices_Clone_Slot_G where
  mk ::
noncomputable def slices_Clone_Slot_s (_G : slices_Clone_Slot_G) {ρ : Type} (_n : Nat) (a0 : Bool) (_a1 : Bool) (a2 : Rows) (k0 : (Option ρ)) (k1 : (Nat → Nat → Rows → Option ρ)) : Option ρ :=
  bif a0 then
    k0
  else chk (List.all (a2 : Rows) fun e => e.length == 5) <|
  chk (decide ((0 + (List.length (a2 : Rows))) ≤ most)) <|
  chk (List.all (a2 : Rows) fun e => !ownL e) <|
  k1 (0 + (List.length (a2 : Rows))) (0 + (List.length (a2 : Rows))) ([] ++ a2)
noncomputable def slices_Clone_Slot_g (_n : Nat) : slices_Clone_Slot_G := ⟨⟩
noncomputable def slices_Clone_Slot (n : Nat) : slices_Clone_Slot_T := fun _ρ a0 a1 a2 k0 k1 => slices_Clone_Slot_s (slices_Clone_Slot_g n) n a0 a1 a2 k0 k1
noncomputable def slices_Clone_Slot_e (n : Nat) : EK := slices_Clone_Slot_E (slices_Clone_Slot n)
def slices_Clone_Slot_S (_G : slices_Clone_Slot_G) : CK := tabS []
theorem slices_Clone_Slot_Sok (n : Nat) : CK.OK (slices_Clone_Slot_S (slices_Clone_Slot_g n)) (L tab) := tabS_ok _ ((fun _ h => nomatch h))
def slices_Clone_Slot_hs : HintC := hintL []
noncomputable def slices_Clone_Slot_lp (_G : slices_Clone_Slot_G) (_n : Nat) : LK := tabL []
theorem slices_Clone_Slot_k (G : slices_Clone_Slot_G) {ρ : Type} (n : Nat) (a0 : Bool) (a1 : Bool) (a2 : Rows) (K : Res → Option ρ) : runC (slices_Clone_Slot_S G) slices_Clone_Slot_hs (slices_Clone_Slot_lp G n) m51 [.lst a0 a1 5 a2] K = slices_Clone_Slot_s G n a0 a1 a2 (K ⟨.lst true true 0 [], [], []⟩) (fun w0 w1 w2 => K ⟨.sl 0 w0 5 0 w1, [.row 5 true false w2], []⟩) := by kernel_rfl
theorem slices_Clone_Slot_ok (n : Nat) : EK.OK (slices_Clone_Slot_e n) 51 (L tab) := EK.shp (fun _ _ _ => rfl) fun ρ K y c e => EK.run (slices_Clone_Slot_Sok n) (by kernel_rfl) (MF.LKOK.of (LK.of (l := []) (by kernel_rfl) ((fun _ h => nomatch h)))) (slices_Clone_Slot_k (slices_Clone_Slot_g n) n _ _ _ K) (by kernel_rfl) e

/-! slices.Clone[[]reeve/thing.Thing,reeve/thing.Thing] -/
abbrev slices_Clone_Thing_T : Type 1 := (ρ : Type) → Bool → Bool → Rows → (Option ρ) → (Nat → Nat → Rows → Option ρ) → Option ρ
def slices_Clone_Thing_E (G : slices_Clone_Thing_T) : EK := fun ρ args K => decL [.lst none none 13 none] args fun c => G ρ c.1.1 c.1.2.1 c.1.2.2 (K ⟨.lst true true 0 [], [], []⟩) (fun w0 w1 w2 => K ⟨.sl 0 w0 13 0 w1, [.row 13 true false w2], []⟩)
structure slices_Clone_Thing_G where
  mk ::
noncomputable def slices_Clone_Thing_s (_G : slices_Clone_Thing_G) {ρ : Type} (_n : Nat) (a0 : Bool) (_a1 : Bool) (a2 : Rows) (k0 : (Option ρ)) (k1 : (Nat → Nat → Rows → Option ρ)) : Option ρ :=
  bif a0 then
    k0
  else chk (List.all (a2 : Rows) fun e => e.length == 13) <|
  chk (decide ((0 + (List.length (a2 : Rows))) ≤ most)) <|
  chk (List.all (a2 : Rows) fun e => !ownL e) <|
  k1 (0 + (List.length (a2 : Rows))) (0 + (List.length (a2 : Rows))) ([] ++ a2)
noncomputable def slices_Clone_Thing_g (_n : Nat) : slices_Clone_Thing_G := ⟨⟩
noncomputable def slices_Clone_Thing (n : Nat) : slices_Clone_Thing_T := fun _ρ a0 a1 a2 k0 k1 => slices_Clone_Thing_s (slices_Clone_Thing_g n) n a0 a1 a2 k0 k1
noncomputable def slices_Clone_Thing_e (n : Nat) : EK := slices_Clone_Thing_E (slices_Clone_Thing n)
def slices_Clone_Thing_S (_G : slices_Clone_Thing_G) : CK := tabS []
theorem slices_Clone_Thing_Sok (n : Nat) : CK.OK (slices_Clone_Thing_S (slices_Clone_Thing_g n)) (L tab) := tabS_ok _ ((fun _ h => nomatch h))
def slices_Clone_Thing_hs : HintC := hintL []
noncomputable def slices_Clone_Thing_lp (_G : slices_Clone_Thing_G) (_n : Nat) : LK := tabL []
theorem slices_Clone_Thing_k (G : slices_Clone_Thing_G) {ρ : Type} (n : Nat) (a0 : Bool) (a1 : Bool) (a2 : Rows) (K : Res → Option ρ) : runC (slices_Clone_Thing_S G) slices_Clone_Thing_hs (slices_Clone_Thing_lp G n) m52 [.lst a0 a1 13 a2] K = slices_Clone_Thing_s G n a0 a1 a2 (K ⟨.lst true true 0 [], [], []⟩) (fun w0 w1 w2 => K ⟨.sl 0 w0 13 0 w1, [.row 13 true false w2], []⟩) := by kernel_rfl
theorem slices_Clone_Thing_ok (n : Nat) : EK.OK (slices_Clone_Thing_e n) 52 (L tab) := EK.shp (fun _ _ _ => rfl) fun ρ K y c e => EK.run (slices_Clone_Thing_Sok n) (by kernel_rfl) (MF.LKOK.of (LK.of (l := []) (by kernel_rfl) ((fun _ h => nomatch h)))) (slices_Clone_Thing_k (slices_Clone_Thing_g n) n _ _ _ K) (by kernel_rfl) e

/-! reeve/state.Clone -/
abbrev state_Clone_T : Type 1 := (ρ : Type) → Int → Int → Int → Bool → Bool → Rows → Bool → Bool → Rows → (Option ρ) → (Nat → Nat → Rows → Option ρ) → (Nat → Nat → Rows → Option ρ) → (Nat → Nat → Nat → Nat → Rows → Rows → Option ρ) → Option ρ
def state_Clone_E (G : state_Clone_T) : EK := fun ρ args K => decL [.agg [.i .i64 none, .i .i64 none, .i .i64 none, .lst none none 5 none, .lst none none 13 none]] args fun c => G ρ c.1.1 c.1.2.1 c.1.2.2.1 c.1.2.2.2.1.1 c.1.2.2.2.1.2.1 c.1.2.2.2.1.2.2 c.1.2.2.2.2.1.1 c.1.2.2.2.2.1.2.1 c.1.2.2.2.2.1.2.2 (K ⟨.agg [.i .i64 c.1.1, .i .i64 c.1.2.1, .i .i64 c.1.2.2.1, .lst true true 0 [], .lst true true 0 []], [], []⟩) (fun w0 w1 w2 => K ⟨.agg [.i .i64 c.1.1, .i .i64 c.1.2.1, .i .i64 c.1.2.2.1, .lst true true 0 [], .sl 0 w0 13 0 w1], [.row 13 true false w2], []⟩) (fun w0 w1 w2 => K ⟨.agg [.i .i64 c.1.1, .i .i64 c.1.2.1, .i .i64 c.1.2.2.1, .sl 0 w0 5 0 w1, .lst true true 0 []], [.row 5 true false w2], []⟩) (fun w0 w1 w2 w3 w4 w5 => K ⟨.agg [.i .i64 c.1.1, .i .i64 c.1.2.1, .i .i64 c.1.2.2.1, .sl 0 w0 5 0 w1, .sl 1 w2 13 0 w3], [.row 5 true false w4, .row 13 true false w5], []⟩)
structure state_Clone_G where
  mk ::
  slices_Clone_Slot : slices_Clone_Slot_T
  slices_Clone_Thing : slices_Clone_Thing_T
noncomputable def state_Clone_s (G : state_Clone_G) {ρ : Type} (_n : Nat) (_a0 : Int) (_a1 : Int) (_a2 : Int) (a3 : Bool) (a4 : Bool) (a5 : Rows) (a6 : Bool) (a7 : Bool) (a8 : Rows) (k0 : (Option ρ)) (k1 : (Nat → Nat → Rows → Option ρ)) (k2 : (Nat → Nat → Rows → Option ρ)) (k3 : (Nat → Nat → Nat → Nat → Rows → Rows → Option ρ)) : Option ρ :=
  G.slices_Clone_Slot ρ a3 a4 a5 (G.slices_Clone_Thing ρ a6 a7 a8 (k0) (fun w2_0 w2_1 w2_2 =>
      k1 w2_0 w2_1 w2_2)) (fun w3_0 w3_1 w3_2 =>
    G.slices_Clone_Thing ρ a6 a7 a8 (k2 w3_0 w3_1 w3_2) (fun w5_0 w5_1 w5_2 =>
      k3 w3_0 w3_1 w5_0 w5_1 w3_2 w5_2))
noncomputable def state_Clone_g (n : Nat) : state_Clone_G := ⟨slices_Clone_Slot n, slices_Clone_Thing n⟩
noncomputable def state_Clone (n : Nat) : state_Clone_T := fun _ρ a0 a1 a2 a3 a4 a5 a6 a7 a8 k0 k1 k2 k3 => state_Clone_s (state_Clone_g n) n a0 a1 a2 a3 a4 a5 a6 a7 a8 k0 k1 k2 k3
noncomputable def state_Clone_e (n : Nat) : EK := state_Clone_E (state_Clone n)
def state_Clone_S (G : state_Clone_G) : CK := tabS [(51, slices_Clone_Slot_E G.slices_Clone_Slot), (52, slices_Clone_Thing_E G.slices_Clone_Thing)]
theorem state_Clone_Sok (n : Nat) : CK.OK (state_Clone_S (state_Clone_g n)) (L tab) := tabS_ok _ (List.forall_mem_cons.2 ⟨(slices_Clone_Slot_ok n), List.forall_mem_cons.2 ⟨(slices_Clone_Thing_ok n), (fun _ h => nomatch h)⟩⟩)
def state_Clone_hs : HintC := hintL []
noncomputable def state_Clone_lp (_G : state_Clone_G) (_n : Nat) : LK := tabL []
theorem state_Clone_k (G : state_Clone_G) {ρ : Type} (n : Nat) (a0 : Int) (a1 : Int) (a2 : Int) (a3 : Bool) (a4 : Bool) (a5 : Rows) (a6 : Bool) (a7 : Bool) (a8 : Rows) (K : Res → Option ρ) : runC (state_Clone_S G) state_Clone_hs (state_Clone_lp G n) m23 [.agg [.i .i64 a0, .i .i64 a1, .i .i64 a2, .lst a3 a4 5 a5, .lst a6 a7 13 a8]] K = state_Clone_s G n a0 a1 a2 a3 a4 a5 a6 a7 a8 (K ⟨.agg [.i .i64 a0, .i .i64 a1, .i .i64 a2, .lst true true 0 [], .lst true true 0 []], [], []⟩) (fun w0 w1 w2 => K ⟨.agg [.i .i64 a0, .i .i64 a1, .i .i64 a2, .lst true true 0 [], .sl 0 w0 13 0 w1], [.row 13 true false w2], []⟩) (fun w0 w1 w2 => K ⟨.agg [.i .i64 a0, .i .i64 a1, .i .i64 a2, .sl 0 w0 5 0 w1, .lst true true 0 []], [.row 5 true false w2], []⟩) (fun w0 w1 w2 w3 w4 w5 => K ⟨.agg [.i .i64 a0, .i .i64 a1, .i .i64 a2, .sl 0 w0 5 0 w1, .sl 1 w2 13 0 w3], [.row 5 true false w4, .row 13 true false w5], []⟩) := by kernel_rfl
theorem state_Clone_ok (n : Nat) : EK.OK (state_Clone_e n) 23 (L tab) := EK.shp (fun _ _ _ => rfl) fun ρ K y c e => EK.run (state_Clone_Sok n) (by kernel_rfl) (MF.LKOK.of (LK.of (l := []) (by kernel_rfl) ((fun _ h => nomatch h)))) (state_Clone_k (state_Clone_g n) n _ _ _ _ _ _ _ _ _ K) (by kernel_rfl) e

end Go.Rv
/- functions as programs of ours, and their ties, part 3 -/
namespace Go.Rv
/-! slices.Equal[[]reeve/state.Slot,reeve/state.Slot] -/
abbrev slices_Equal_Slot_i1_T : Type 1 := (ρ : Type) → Bool → Bool → Bool → Bool → Rows → (Bool → Option ρ) → Option ρ
def slices_Equal_Slot_i1_E (G : slices_Equal_Slot_i1_T) : EK := fun ρ args K => decL [.lst none none 0 (some []), .lst none none 5 none] args fun c => G ρ c.1.1 c.1.2.1 c.2.1.1 c.2.1.2.1 c.2.1.2.2 (fun w0 => K ⟨.b w0, [], []⟩)
structure slices_Equal_Slot_i1_G where
  mk ::
abbrev slices_Equal_Slot_i1_l4_V : Type := Unit
noncomputable def slices_Equal_Slot_i1_l4_s (_G : slices_Equal_Slot_i1_G) {ρ : Type} (_n : Nat) (_p0 : Bool) (_p1 : Bool) (_p2 : Bool) (_p3 : Bool) (_p4 : Rows) (k0 : (Option ρ)) (_rec' : slices_Equal_Slot_i1_l4_V → Option ρ) : slices_Equal_Slot_i1_l4_V → Option ρ
  | _v =>
  k0
noncomputable def slices_Equal_Slot_i1_l4 (G : slices_Equal_Slot_i1_G) {ρ : Type} (n : Nat) (p0 : Bool) (p1 : Bool) (p2 : Bool) (p3 : Bool) (p4 : Rows) (k0 : (Option ρ)) (v : slices_Equal_Slot_i1_l4_V) : Option ρ := fuelN (slices_Equal_Slot_i1_l4_s G n p0 p1 p2 p3 p4 k0) n v
def slices_Equal_Slot_i1_l4_enc (p0 : Bool) (p1 : Bool) (p2 : Bool) (p3 : Bool) (p4 : Rows) : slices_Equal_Slot_i1_l4_V → St
  | _v => ⟨[(0, .lst p0 p1 0 []), (1, .lst p2 p3 5 p4), (12, .i .i64 0), (13, .i .i64 0)], []⟩
noncomputable def slices_Equal_Slot_i1_s (G : slices_Equal_Slot_i1_G) {ρ : Type} (n : Nat) (a0 : Bool) (a1 : Bool) (a2 : Bool) (a3 : Bool) (a4 : Rows) (k0 : (Bool → Option ρ)) : Option ρ :=
  bif ((0 : Int) != (((List.length (a4 : Rows)) : Nat) : Int)) then
    k0 false
  else slices_Equal_Slot_i1_l4 G n a0 a1 a2 a3 a4 (k0 true) ()
noncomputable def slices_Equal_Slot_i1_g (_n : Nat) : slices_Equal_Slot_i1_G := ⟨⟩
noncomputable def slices_Equal_Slot_i1 (n : Nat) : slices_Equal_Slot_i1_T := fun _ρ a0 a1 a2 a3 a4 k0 => slices_Equal_Slot_i1_s (slices_Equal_Slot_i1_g n) n a0 a1 a2 a3 a4 k0
noncomputable def slices_Equal_Slot_i1_e (n : Nat) : EK := slices_Equal_Slot_i1_E (slices_Equal_Slot_i1 n)
def slices_Equal_Slot_i1_S (_G : slices_Equal_Slot_i1_G) : CK := tabS []
theorem slices_Equal_Slot_i1_Sok (n : Nat) : CK.OK (slices_Equal_Slot_i1_S (slices_Equal_Slot_i1_g n)) (L tab) := tabS_ok _ ((fun _ h => nomatch h))
def slices_Equal_Slot_i1_hs : HintC := hintL []
def slices_Equal_Slot_i1_c4 : Nat × List Nat × List Nat × MC := loopAt 4 m48
noncomputable def slices_Equal_Slot_i1_l4_d (G : slices_Equal_Slot_i1_G) (n : Nat) : Go.Rv.LE := fun _ρ h K => decSt [(0, .lst none none 0 (some [])), (1, .lst none none 5 none), (12, .i .i64 (some 0)), (13, .i .i64 (some 0))] [] h fun a _b => slices_Equal_Slot_i1_l4 G n a.1.1 a.1.2.1 a.2.1.1 a.2.1.2.1 a.2.1.2.2 (K (.exit 0) ⟨[(4, .u)], []⟩) ()
noncomputable def slices_Equal_Slot_i1_d4 (G : slices_Equal_Slot_i1_G) (n : Nat) : Go.Rv.LE := slices_Equal_Slot_i1_l4_d G n
noncomputable def slices_Equal_Slot_i1_lp (G : slices_Equal_Slot_i1_G) (n : Nat) : LK := tabL [(4, slices_Equal_Slot_i1_d4 G n)]
theorem slices_Equal_Slot_i1_l4_k (G : slices_Equal_Slot_i1_G) {ρ : Type} (n : Nat) (p0 : Bool) (p1 : Bool) (p2 : Bool) (p3 : Bool) (p4 : Rows) (K : Ex → St → Option ρ) (N : St → Option ρ) : ∀ v, roundC (slices_Equal_Slot_i1_S G) slices_Equal_Slot_i1_hs (slices_Equal_Slot_i1_lp G n) slices_Equal_Slot_i1_c4 0 N K (slices_Equal_Slot_i1_l4_enc p0 p1 p2 p3 p4 v) = slices_Equal_Slot_i1_l4_s G n p0 p1 p2 p3 p4 (K (.exit 0) ⟨[(4, .u)], []⟩) (fun v => N (slices_Equal_Slot_i1_l4_enc p0 p1 p2 p3 p4 v)) v
  | v => by kernel_rfl
theorem slices_Equal_Slot_i1_l4_dok (n : Nat) : LE.OK (slices_Equal_Slot_i1_l4_d (slices_Equal_Slot_i1_g n) n) (L tab) slices_Equal_Slot_i1_c4 := LE.shp (fun _ _ _ => rfl) fun ρ K y a b e => LE.rounds (slices_Equal_Slot_i1_Sok n) (LK.of (l := []) (by kernel_rfl) ((fun _ h => nomatch h))) (slices_Equal_Slot_i1_l4_k (slices_Equal_Slot_i1_g n) n _ _ _ _ _ K) (by kernel_rfl) (by kernel_rfl) e
theorem slices_Equal_Slot_i1_d4_ok (n : Nat) : LE.OK (slices_Equal_Slot_i1_d4 (slices_Equal_Slot_i1_g n) n) (L tab) slices_Equal_Slot_i1_c4 := slices_Equal_Slot_i1_l4_dok n
theorem slices_Equal_Slot_i1_k (G : slices_Equal_Slot_i1_G) {ρ : Type} (n : Nat) (a0 : Bool) (a1 : Bool) (a2 : Bool) (a3 : Bool) (a4 : Rows) (K : Res → Option ρ) : runC (slices_Equal_Slot_i1_S G) slices_Equal_Slot_i1_hs (slices_Equal_Slot_i1_lp G n) m48 [.lst a0 a1 0 [], .lst a2 a3 5 a4] K = slices_Equal_Slot_i1_s G n a0 a1 a2 a3 a4 (fun w0 => K ⟨.b w0, [], []⟩) := by kernel_rfl
theorem slices_Equal_Slot_i1_ok (n : Nat) : EK.OK (slices_Equal_Slot_i1_e n) 48 (L tab) := EK.shp (fun _ _ _ => rfl) fun ρ K y c e => EK.run (slices_Equal_Slot_i1_Sok n) (by kernel_rfl) (MF.LKOK.of (LK.of (l := [slices_Equal_Slot_i1_c4]) (by kernel_rfl) (List.forall_mem_cons.2 ⟨LE.at (e := slices_Equal_Slot_i1_d4 (slices_Equal_Slot_i1_g n) n) (by kernel_rfl) (slices_Equal_Slot_i1_d4_ok n), (fun _ h => nomatch h)⟩))) (slices_Equal_Slot_i1_k (slices_Equal_Slot_i1_g n) n _ _ _ _ _ K) (by kernel_rfl) e

/-! slices.Equal[[]reeve/thing.Thing,reeve/thing.Thing] -/
abbrev slices_Equal_Thing_i1_T : Type 1 := (ρ : Type) → Bool → Bool → Bool → Bool → Rows → (Bool → Option ρ) → Option ρ
def slices_Equal_Thing_i1_E (G : slices_Equal_Thing_i1_T) : EK := fun ρ args K => decL [.lst none none 0 (some []), .lst none none 13 none] args fun c => G ρ c.1.1 c.1.2.1 c.2.1.1 c.2.1.2.1 c.2.1.2.2 (fun w0 => K ⟨.b w0, [], []⟩)
structure slices_Equal_Thing_i1_G where
  mk ::
abbrev slices_Equal_Thing_i1_l4_V : Type := Unit
noncomputable def slices_Equal_Thing_i1_l4_s (_G : slices_Equal_Thing_i1_G) {ρ : Type} (_n : Nat) (_p0 : Bool) (_p1 : Bool) (_p2 : Bool) (_p3 : Bool) (_p4 : Rows) (k0 : (Option ρ)) (_rec' : slices_Equal_Thing_i1_l4_V → Option ρ) : slices_Equal_Thing_i1_l4_V → Option ρ
  | _v =>
  k0
noncomputable def slices_Equal_Thing_i1_l4 (G : slices_Equal_Thing_i1_G) {ρ : Type} (n : Nat) (p0 : Bool) (p1 : Bool) (p2 : Bool) (p3 : Bool) (p4 : Rows) (k0 : (Option ρ)) (v : slices_Equal_Thing_i1_l4_V) : Option ρ := fuelN (slices_Equal_Thing_i1_l4_s G n p0 p1 p2 p3 p4 k0) n v
def slices_Equal_Thing_i1_l4_enc (p0 : Bool) (p1 : Bool) (p2 : Bool) (p3 : Bool) (p4 : Rows) : slices_Equal_Thing_i1_l4_V → St
  | _v => ⟨[(0, .lst p0 p1 0 []), (1, .lst p2 p3 13 p4), (12, .i .i64 0), (13, .i .i64 0)], []⟩
noncomputable def slices_Equal_Thing_i1_s (G : slices_Equal_Thing_i1_G) {ρ : Type} (n : Nat) (a0 : Bool) (a1 : Bool) (a2 : Bool) (a3 : Bool) (a4 : Rows) (k0 : (Bool → Option ρ)) : Option ρ :=
  bif ((0 : Int) != (((List.length (a4 : Rows)) : Nat) : Int)) then
    k0 false
  else slices_Equal_Thing_i1_l4 G n a0 a1 a2 a3 a4 (k0 true) ()
noncomputable def slices_Equal_Thing_i1_g (_n : Nat) : slices_Equal_Thing_i1_G := ⟨⟩
noncomputable def slices_Equal_Thing_i1 (n : Nat) : slices_Equal_Thing_i1_T := fun _ρ a0 a1 a2 a3 a4 k0 => slices_Equal_Thing_i1_s (slices_Equal_Thing_i1_g n) n a0 a1 a2 a3 a4 k0
noncomputable def slices_Equal_Thing_i1_e (n : Nat) : EK := slices_Equal_Thing_i1_E (slices_Equal_Thing_i1 n)
def slices_Equal_Thing_i1_S (_G : slices_Equal_Thing_i1_G) : CK := tabS []
theorem slices_Equal_Thing_i1_Sok (n : Nat) : CK.OK (slices_Equal_Thing_i1_S (slices_Equal_Thing_i1_g n)) (L tab) := tabS_ok _ ((fun _ h => nomatch h))
def slices_Equal_Thing_i1_hs : HintC := hintL []
def slices_Equal_Thing_i1_c4 : Nat × List Nat × List Nat × MC := loopAt 4 m49
noncomputable def slices_Equal_Thing_i1_l4_d (G : slices_Equal_Thing_i1_G) (n : Nat) : Go.Rv.LE := fun _ρ h K => decSt [(0, .lst none none 0 (some [])), (1, .lst none none 13 none), (12, .i .i64 (some 0)), (13, .i .i64 (some 0))] [] h fun a _b => slices_Equal_Thing_i1_l4 G n a.1.1 a.1.2.1 a.2.1.1 a.2.1.2.1 a.2.1.2.2 (K (.exit 0) ⟨[(4, .u)], []⟩) ()
noncomputable def slices_Equal_Thing_i1_d4 (G : slices_Equal_Thing_i1_G) (n : Nat) : Go.Rv.LE := slices_Equal_Thing_i1_l4_d G n
noncomputable def slices_Equal_Thing_i1_lp (G : slices_Equal_Thing_i1_G) (n : Nat) : LK := tabL [(4, slices_Equal_Thing_i1_d4 G n)]
theorem slices_Equal_Thing_i1_l4_k (G : slices_Equal_Thing_i1_G) {ρ : Type} (n : Nat) (p0 : Bool) (p1 : Bool) (p2 : Bool) (p3 : Bool) (p4 : Rows) (K : Ex → St → Option ρ) (N : St → Option ρ) : ∀ v, roundC (slices_Equal_Thing_i1_S G) slices_Equal_Thing_i1_hs (slices_Equal_Thing_i1_lp G n) slices_Equal_Thing_i1_c4 0 N K (slices_Equal_Thing_i1_l4_enc p0 p1 p2 p3 p4 v) = slices_Equal_Thing_i1_l4_s G n p0 p1 p2 p3 p4 (K (.exit 0) ⟨[(4, .u)], []⟩) (fun v => N (slices_Equal_Thing_i1_l4_enc p0 p1 p2 p3 p4 v)) v
  | v => by kernel_rfl
theorem slices_Equal_Thing_i1_l4_dok (n : Nat) : LE.OK (slices_Equal_Thing_i1_l4_d (slices_Equal_Thing_i1_g n) n) (L tab) slices_Equal_Thing_i1_c4 := LE.shp (fun _ _ _ => rfl) fun ρ K y a b e => LE.rounds (slices_Equal_Thing_i1_Sok n) (LK.of (l := []) (by kernel_rfl) ((fun _ h => nomatch h))) (slices_Equal_Thing_i1_l4_k (slices_Equal_Thing_i1_g n) n _ _ _ _ _ K) (by kernel_rfl) (by kernel_rfl) e
theorem slices_Equal_Thing_i1_d4_ok (n : Nat) : LE.OK (slices_Equal_Thing_i1_d4 (slices_Equal_Thing_i1_g n) n) (L tab) slices_Equal_Thing_i1_c4 := slices_Equal_Thing_i1_l4_dok n
theorem slices_Equal_Thing_i1_k (G : slices_Equal_Thing_i1_G) {ρ : Type} (n : Nat) (a0 : Bool) (a1 : Bool) (a2 : Bool) (a3 : Bool) (a4 : Rows) (K : Res → Option ρ) : runC (slices_Equal_Thing_i1_S G) slices_Equal_Thing_i1_hs (slices_Equal_Thing_i1_lp G n) m49 [.lst a0 a1 0 [], .lst a2 a3 13 a4] K = slices_Equal_Thing_i1_s G n a0 a1 a2 a3 a4 (fun w0 => K ⟨.b w0, [], []⟩) := by kernel_rfl
theorem slices_Equal_Thing_i1_ok (n : Nat) : EK.OK (slices_Equal_Thing_i1_e n) 49 (L tab) := EK.shp (fun _ _ _ => rfl) fun ρ K y c e => EK.run (slices_Equal_Thing_i1_Sok n) (by kernel_rfl) (MF.LKOK.of (LK.of (l := [slices_Equal_Thing_i1_c4]) (by kernel_rfl) (List.forall_mem_cons.2 ⟨LE.at (e := slices_Equal_Thing_i1_d4 (slices_Equal_Thing_i1_g n) n) (by kernel_rfl) (slices_Equal_Thing_i1_d4_ok n), (fun _ h => nomatch h)⟩))) (slices_Equal_Thing_i1_k (slices_Equal_Thing_i1_g n) n _ _ _ _ _ K) (by kernel_rfl) e

/-! reeve/state.Same -/
abbrev state_Same_i1_T : Type 1 := (ρ : Type) → Int → Int → Int → Bool → Bool → Bool → Bool → Int → Int → Int → Bool → Bool → Rows → Bool → Bool → Rows → (Bool → Option ρ) → Option ρ
def state_Same_i1_E (G : state_Same_i1_T) : EK := fun ρ args K => decL [.agg [.i .i64 none, .i .i64 none, .i .i64 none, .lst none none 0 (some []), .lst none none 0 (some [])], .agg [.i .i64 none, .i .i64 none, .i .i64 none, .lst none none 5 none, .lst none none 13 none]] args fun c => G ρ c.1.1 c.1.2.1 c.1.2.2.1 c.1.2.2.2.1.1 c.1.2.2.2.1.2.1 c.1.2.2.2.2.1.1 c.1.2.2.2.2.1.2.1 c.2.1.1 c.2.1.2.1 c.2.1.2.2.1 c.2.1.2.2.2.1.1 c.2.1.2.2.2.1.2.1 c.2.1.2.2.2.1.2.2 c.2.1.2.2.2.2.1.1 c.2.1.2.2.2.2.1.2.1 c.2.1.2.2.2.2.1.2.2 (fun w0 => K ⟨.b w0, [], []⟩)
structure state_Same_i1_G where
  mk ::
  slices_Equal_Slot_i1 : slices_Equal_Slot_i1_T
  slices_Equal_Thing_i1 : slices_Equal_Thing_i1_T
noncomputable def state_Same_i1_s (G : state_Same_i1_G) {ρ : Type} (_n : Nat) (a0 : Int) (a1 : Int) (a2 : Int) (a3 : Bool) (a4 : Bool) (a5 : Bool) (a6 : Bool) (a7 : Int) (a8 : Int) (a9 : Int) (a10 : Bool) (a11 : Bool) (a12 : Rows) (a13 : Bool) (a14 : Bool) (a15 : Rows) (k0 : (Bool → Option ρ)) : Option ρ :=
  bif (((a0 : Int) == a7) && (((a1 : Int) == a8) && (((a2 : Int) == a9) && true))) then
    G.slices_Equal_Slot_i1 ρ a3 a4 a10 a11 a12 (fun w0_0 =>
      bif w0_0 then
        G.slices_Equal_Thing_i1 ρ a5 a6 a13 a14 a15 (fun w1_0 =>
          bif w1_0 then
            k0 true
          else k0 false)
      else k0 false)
  else k0 false
noncomputable def state_Same_i1_g (n : Nat) : state_Same_i1_G := ⟨slices_Equal_Slot_i1 n, slices_Equal_Thing_i1 n⟩
noncomputable def state_Same_i1 (n : Nat) : state_Same_i1_T := fun _ρ a0 a1 a2 a3 a4 a5 a6 a7 a8 a9 a10 a11 a12 a13 a14 a15 k0 => state_Same_i1_s (state_Same_i1_g n) n a0 a1 a2 a3 a4 a5 a6 a7 a8 a9 a10 a11 a12 a13 a14 a15 k0
noncomputable def state_Same_i1_e (n : Nat) : EK := state_Same_i1_E (state_Same_i1 n)
def state_Same_i1_S (G : state_Same_i1_G) : CK := tabS [(48, slices_Equal_Slot_i1_E G.slices_Equal_Slot_i1), (49, slices_Equal_Thing_i1_E G.slices_Equal_Thing_i1)]
theorem state_Same_i1_Sok (n : Nat) : CK.OK (state_Same_i1_S (state_Same_i1_g n)) (L tab) := tabS_ok _ (List.forall_mem_cons.2 ⟨(slices_Equal_Slot_i1_ok n), List.forall_mem_cons.2 ⟨(slices_Equal_Thing_i1_ok n), (fun _ h => nomatch h)⟩⟩)
def state_Same_i1_hs : HintC := hintL []
noncomputable def state_Same_i1_lp (_G : state_Same_i1_G) (_n : Nat) : LK := tabL []
theorem state_Same_i1_k (G : state_Same_i1_G) {ρ : Type} (n : Nat) (a0 : Int) (a1 : Int) (a2 : Int) (a3 : Bool) (a4 : Bool) (a5 : Bool) (a6 : Bool) (a7 : Int) (a8 : Int) (a9 : Int) (a10 : Bool) (a11 : Bool) (a12 : Rows) (a13 : Bool) (a14 : Bool) (a15 : Rows) (K : Res → Option ρ) : runC (state_Same_i1_S G) state_Same_i1_hs (state_Same_i1_lp G n) m20 [.agg [.i .i64 a0, .i .i64 a1, .i .i64 a2, .lst a3 a4 0 [], .lst a5 a6 0 []], .agg [.i .i64 a7, .i .i64 a8, .i .i64 a9, .lst a10 a11 5 a12, .lst a13 a14 13 a15]] K = state_Same_i1_s G n a0 a1 a2 a3 a4 a5 a6 a7 a8 a9 a10 a11 a12 a13 a14 a15 (fun w0 => K ⟨.b w0, [], []⟩) := by kernel_rfl
theorem state_Same_i1_ok (n : Nat) : EK.OK (state_Same_i1_e n) 20 (L tab) := EK.shp (fun _ _ _ => rfl) fun ρ K y c e => EK.run (state_Same_i1_Sok n) (by kernel_rfl) (MF.LKOK.of (LK.of (l := []) (by kernel_rfl) ((fun _ h => nomatch h)))) (state_Same_i1_k (state_Same_i1_g n) n _ _ _ _ _ _ _ _ _ _ _ _ _ _ _ _ K) (by kernel_rfl) e

/-! reeve/state.Same -/
abbrev state_Same_i2_T : Type 1 := (ρ : Type) → Int → Int → Int → Bool → Bool → Bool → Bool → Rows → Int → Int → Int → Bool → Bool → Rows → Bool → Bool → Rows → (Bool → Option ρ) → Option ρ
def state_Same_i2_E (G : state_Same_i2_T) : EK := fun ρ args K => decL [.agg [.i .i64 none, .i .i64 none, .i .i64 none, .lst none none 0 (some []), .lst none none 13 none], .agg [.i .i64 none, .i .i64 none, .i .i64 none, .lst none none 5 none, .lst none none 13 none]] args fun c => G ρ c.1.1 c.1.2.1 c.1.2.2.1 c.1.2.2.2.1.1 c.1.2.2.2.1.2.1 c.1.2.2.2.2.1.1 c.1.2.2.2.2.1.2.1 c.1.2.2.2.2.1.2.2 c.2.1.1 c.2.1.2.1 c.2.1.2.2.1 c.2.1.2.2.2.1.1 c.2.1.2.2.2.1.2.1 c.2.1.2.2.2.1.2.2 c.2.1.2.2.2.2.1.1 c.2.1.2.2.2.2.1.2.1 c.2.1.2.2.2.2.1.2.2 (fun w0 => K ⟨.b w0, [], []⟩)
structure state_Same_i2_G where
  mk ::
  slices_Equal_Slot_i1 : slices_Equal_Slot_i1_T
  slices_Equal_Thing : slices_Equal_Thing_T
noncomputable def state_Same_i2_s (G : state_Same_i2_G) {ρ : Type} (_n : Nat) (a0 : Int) (a1 : Int) (a2 : Int) (a3 : Bool) (a4 : Bool) (a5 : Bool) (a6 : Bool) (a7 : Rows) (a8 : Int) (a9 : Int) (a10 : Int) (a11 : Bool) (a12 : Bool) (a13 : Rows) (a14 : Bool) (a15 : Bool) (a16 : Rows) (k0 : (Bool → Option ρ)) : Option ρ :=
  bif (((a0 : Int) == a8) && (((a1 : Int) == a9) && (((a2 : Int) == a10) && true))) then
    G.slices_Equal_Slot_i1 ρ a3 a4 a11 a12 a13 (fun w0_0 =>
      bif w0_0 then
        G.slices_Equal_Thing ρ a5 a6 a7 a14 a15 a16 (fun w1_0 =>
          bif w1_0 then
            k0 true
          else k0 false)
      else k0 false)
  else k0 false
noncomputable def state_Same_i2_g (n : Nat) : state_Same_i2_G := ⟨slices_Equal_Slot_i1 n, slices_Equal_Thing n⟩
noncomputable def state_Same_i2 (n : Nat) : state_Same_i2_T := fun _ρ a0 a1 a2 a3 a4 a5 a6 a7 a8 a9 a10 a11 a12 a13 a14 a15 a16 k0 => state_Same_i2_s (state_Same_i2_g n) n a0 a1 a2 a3 a4 a5 a6 a7 a8 a9 a10 a11 a12 a13 a14 a15 a16 k0
noncomputable def state_Same_i2_e (n : Nat) : EK := state_Same_i2_E (state_Same_i2 n)
def state_Same_i2_S (G : state_Same_i2_G) : CK := tabS [(48, slices_Equal_Slot_i1_E G.slices_Equal_Slot_i1), (49, slices_Equal_Thing_E G.slices_Equal_Thing)]
theorem state_Same_i2_Sok (n : Nat) : CK.OK (state_Same_i2_S (state_Same_i2_g n)) (L tab) := tabS_ok _ (List.forall_mem_cons.2 ⟨(slices_Equal_Slot_i1_ok n), List.forall_mem_cons.2 ⟨(slices_Equal_Thing_ok n), (fun _ h => nomatch h)⟩⟩)
def state_Same_i2_hs : HintC := hintL []
noncomputable def state_Same_i2_lp (_G : state_Same_i2_G) (_n : Nat) : LK := tabL []
theorem state_Same_i2_k (G : state_Same_i2_G) {ρ : Type} (n : Nat) (a0 : Int) (a1 : Int) (a2 : Int) (a3 : Bool) (a4 : Bool) (a5 : Bool) (a6 : Bool) (a7 : Rows) (a8 : Int) (a9 : Int) (a10 : Int) (a11 : Bool) (a12 : Bool) (a13 : Rows) (a14 : Bool) (a15 : Bool) (a16 : Rows) (K : Res → Option ρ) : runC (state_Same_i2_S G) state_Same_i2_hs (state_Same_i2_lp G n) m20 [.agg [.i .i64 a0, .i .i64 a1, .i .i64 a2, .lst a3 a4 0 [], .lst a5 a6 13 a7], .agg [.i .i64 a8, .i .i64 a9, .i .i64 a10, .lst a11 a12 5 a13, .lst a14 a15 13 a16]] K = state_Same_i2_s G n a0 a1 a2 a3 a4 a5 a6 a7 a8 a9 a10 a11 a12 a13 a14 a15 a16 (fun w0 => K ⟨.b w0, [], []⟩) := by kernel_rfl
theorem state_Same_i2_ok (n : Nat) : EK.OK (state_Same_i2_e n) 20 (L tab) := EK.shp (fun _ _ _ => rfl) fun ρ K y c e => EK.run (state_Same_i2_Sok n) (by kernel_rfl) (MF.LKOK.of (LK.of (l := []) (by kernel_rfl) ((fun _ h => nomatch h)))) (state_Same_i2_k (state_Same_i2_g n) n _ _ _ _ _ _ _ _ _ _ _ _ _ _ _ _ _ K) (by kernel_rfl) e

/-! reeve/state.Same -/
abbrev state_Same_i3_T : Type 1 := (ρ : Type) → Int → Int → Int → Bool → Bool → Rows → Bool → Bool → Int → Int → Int → Bool → Bool → Rows → Bool → Bool → Rows → (Bool → Option ρ) → Option ρ
def state_Same_i3_E (G : state_Same_i3_T) : EK := fun ρ args K => decL [.agg [.i .i64 none, .i .i64 none, .i .i64 none, .lst none none 5 none, .lst none none 0 (some [])], .agg [.i .i64 none, .i .i64 none, .i .i64 none, .lst none none 5 none, .lst none none 13 none]] args fun c => G ρ c.1.1 c.1.2.1 c.1.2.2.1 c.1.2.2.2.1.1 c.1.2.2.2.1.2.1 c.1.2.2.2.1.2.2 c.1.2.2.2.2.1.1 c.1.2.2.2.2.1.2.1 c.2.1.1 c.2.1.2.1 c.2.1.2.2.1 c.2.1.2.2.2.1.1 c.2.1.2.2.2.1.2.1 c.2.1.2.2.2.1.2.2 c.2.1.2.2.2.2.1.1 c.2.1.2.2.2.2.1.2.1 c.2.1.2.2.2.2.1.2.2 (fun w0 => K ⟨.b w0, [], []⟩)
structure state_Same_i3_G where
  mk ::
  slices_Equal_Slot : slices_Equal_Slot_T
  slices_Equal_Thing_i1 : slices_Equal_Thing_i1_T
noncomputable def state_Same_i3_s (G : state_Same_i3_G) {ρ : Type} (_n : Nat) (a0 : Int) (a1 : Int) (a2 : Int) (a3 : Bool) (a4 : Bool) (a5 : Rows) (a6 : Bool) (a7 : Bool) (a8 : Int) (a9 : Int) (a10 : Int) (a11 : Bool) (a12 : Bool) (a13 : Rows) (a14 : Bool) (a15 : Bool) (a16 : Rows) (k0 : (Bool → Option ρ)) : Option ρ :=
  bif (((a0 : Int) == a8) && (((a1 : Int) == a9) && (((a2 : Int) == a10) && true))) then
    G.slices_Equal_Slot ρ a3 a4 a5 a11 a12 a13 (fun w0_0 =>
      bif w0_0 then
        G.slices_Equal_Thing_i1 ρ a6 a7 a14 a15 a16 (fun w1_0 =>
          bif w1_0 then
            k0 true
          else k0 false)
      else k0 false)
  else k0 false
noncomputable def state_Same_i3_g (n : Nat) : state_Same_i3_G := ⟨slices_Equal_Slot n, slices_Equal_Thing_i1 n⟩
noncomputable def state_Same_i3 (n : Nat) : state_Same_i3_T := fun _ρ a0 a1 a2 a3 a4 a5 a6 a7 a8 a9 a10 a11 a12 a13 a14 a15 a16 k0 => state_Same_i3_s (state_Same_i3_g n) n a0 a1 a2 a3 a4 a5 a6 a7 a8 a9 a10 a11 a12 a13 a14 a15 a16 k0
noncomputable def state_Same_i3_e (n : Nat) : EK := state_Same_i3_E (state_Same_i3 n)
def state_Same_i3_S (G : state_Same_i3_G) : CK := tabS [(48, slices_Equal_Slot_E G.slices_Equal_Slot), (49, slices_Equal_Thing_i1_E G.slices_Equal_Thing_i1)]
theorem state_Same_i3_Sok (n : Nat) : CK.OK (state_Same_i3_S (state_Same_i3_g n)) (L tab) := tabS_ok _ (List.forall_mem_cons.2 ⟨(slices_Equal_Slot_ok n), List.forall_mem_cons.2 ⟨(slices_Equal_Thing_i1_ok n), (fun _ h => nomatch h)⟩⟩)
def state_Same_i3_hs : HintC := hintL []
noncomputable def state_Same_i3_lp (_G : state_Same_i3_G) (_n : Nat) : LK := tabL []
theorem state_Same_i3_k (G : state_Same_i3_G) {ρ : Type} (n : Nat) (a0 : Int) (a1 : Int) (a2 : Int) (a3 : Bool) (a4 : Bool) (a5 : Rows) (a6 : Bool) (a7 : Bool) (a8 : Int) (a9 : Int) (a10 : Int) (a11 : Bool) (a12 : Bool) (a13 : Rows) (a14 : Bool) (a15 : Bool) (a16 : Rows) (K : Res → Option ρ) : runC (state_Same_i3_S G) state_Same_i3_hs (state_Same_i3_lp G n) m20 [.agg [.i .i64 a0, .i .i64 a1, .i .i64 a2, .lst a3 a4 5 a5, .lst a6 a7 0 []], .agg [.i .i64 a8, .i .i64 a9, .i .i64 a10, .lst a11 a12 5 a13, .lst a14 a15 13 a16]] K = state_Same_i3_s G n a0 a1 a2 a3 a4 a5 a6 a7 a8 a9 a10 a11 a12 a13 a14 a15 a16 (fun w0 => K ⟨.b w0, [], []⟩) := by kernel_rfl
theorem state_Same_i3_ok (n : Nat) : EK.OK (state_Same_i3_e n) 20 (L tab) := EK.shp (fun _ _ _ => rfl) fun ρ K y c e => EK.run (state_Same_i3_Sok n) (by kernel_rfl) (MF.LKOK.of (LK.of (l := []) (by kernel_rfl) ((fun _ h => nomatch h)))) (state_Same_i3_k (state_Same_i3_g n) n _ _ _ _ _ _ _ _ _ _ _ _ _ _ _ _ _ K) (by kernel_rfl) e

/-! slices.Equal[[]reeve/thing.Thing,reeve/thing.Thing] -/
abbrev slices_Equal_Thing_i2_T : Type 1 := (ρ : Type) → Bool → Bool → Rows → Bool → Bool → (Bool → Option ρ) → Option ρ
def slices_Equal_Thing_i2_E (G : slices_Equal_Thing_i2_T) : EK := fun ρ args K => decL [.lst none none 13 none, .lst none none 0 (some [])] args fun c => G ρ c.1.1 c.1.2.1 c.1.2.2 c.2.1.1 c.2.1.2.1 (fun w0 => K ⟨.b w0, [], []⟩)
structure slices_Equal_Thing_i2_G where
  mk ::
abbrev slices_Equal_Thing_i2_l4_V : Type := Unit
noncomputable def slices_Equal_Thing_i2_l4_s (_G : slices_Equal_Thing_i2_G) {ρ : Type} (_n : Nat) (_p0 : Bool) (_p1 : Bool) (p2 : Rows) (_p3 : Bool) (_p4 : Bool) (p5 : Int) (k0 : (Option ρ)) (_rec' : slices_Equal_Thing_i2_l4_V → Option ρ) : slices_Equal_Thing_i2_l4_V → Option ρ
  | _v =>
  bif decide ((0 : Int) < p5) then
    rowT [.i .i64, .i .i64, .i .i64, .i .i64, .i .i64, .i .i64, .i .i64, .b, .i .u64, .i .u64, .i .u64, .i .u64, .i .u64] p2 0 fun _c0 =>
    none
  else k0
noncomputable def slices_Equal_Thing_i2_l4 (G : slices_Equal_Thing_i2_G) {ρ : Type} (n : Nat) (p0 : Bool) (p1 : Bool) (p2 : Rows) (p3 : Bool) (p4 : Bool) (p5 : Int) (k0 : (Option ρ)) (v : slices_Equal_Thing_i2_l4_V) : Option ρ := fuelN (slices_Equal_Thing_i2_l4_s G n p0 p1 p2 p3 p4 p5 k0) n v
def slices_Equal_Thing_i2_l4_enc (p0 : Bool) (p1 : Bool) (p2 : Rows) (p3 : Bool) (p4 : Bool) (p5 : Int) : slices_Equal_Thing_i2_l4_V → St
  | _v => ⟨[(0, .lst p0 p1 13 p2), (1, .lst p3 p4 0 []), (12, .i .i64 p5), (13, .i .i64 0)], []⟩
noncomputable def slices_Equal_Thing_i2_s (G : slices_Equal_Thing_i2_G) {ρ : Type} (n : Nat) (a0 : Bool) (a1 : Bool) (a2 : Rows) (a3 : Bool) (a4 : Bool) (k0 : (Bool → Option ρ)) : Option ρ :=
  bif (((((List.length (a2 : Rows)) : Nat) : Int) : Int) != 0) then
    k0 false
  else slices_Equal_Thing_i2_l4 G n a0 a1 a2 a3 a4 (((List.length (a2 : Rows)) : Nat) : Int) (k0 true) ()
noncomputable def slices_Equal_Thing_i2_g (_n : Nat) : slices_Equal_Thing_i2_G := ⟨⟩
noncomputable def slices_Equal_Thing_i2 (n : Nat) : slices_Equal_Thing_i2_T := fun _ρ a0 a1 a2 a3 a4 k0 => slices_Equal_Thing_i2_s (slices_Equal_Thing_i2_g n) n a0 a1 a2 a3 a4 k0
noncomputable def slices_Equal_Thing_i2_e (n : Nat) : EK := slices_Equal_Thing_i2_E (slices_Equal_Thing_i2 n)
def slices_Equal_Thing_i2_S (_G : slices_Equal_Thing_i2_G) : CK := tabS []
theorem slices_Equal_Thing_i2_Sok (n : Nat) : CK.OK (slices_Equal_Thing_i2_S (slices_Equal_Thing_i2_g n)) (L tab) := tabS_ok _ ((fun _ h => nomatch h))
def slices_Equal_Thing_i2_hs : HintC := hintL [(18, [.i .i64, .i .i64, .i .i64, .i .i64, .i .i64, .i .i64, .i .i64, .b, .i .u64, .i .u64, .i .u64, .i .u64, .i .u64])]
def slices_Equal_Thing_i2_c4 : Nat × List Nat × List Nat × MC := loopAt 4 m49
noncomputable def slices_Equal_Thing_i2_l4_d (G : slices_Equal_Thing_i2_G) (n : Nat) : Go.Rv.LE := fun _ρ h K => decSt [(0, .lst none none 13 none), (1, .lst none none 0 (some [])), (12, .i .i64 none), (13, .i .i64 (some 0))] [] h fun a _b => slices_Equal_Thing_i2_l4 G n a.1.1 a.1.2.1 a.1.2.2 a.2.1.1 a.2.1.2.1 a.2.2.1 (K (.exit 0) ⟨[(4, .u)], []⟩) ()
noncomputable def slices_Equal_Thing_i2_d4 (G : slices_Equal_Thing_i2_G) (n : Nat) : Go.Rv.LE := slices_Equal_Thing_i2_l4_d G n
noncomputable def slices_Equal_Thing_i2_lp (G : slices_Equal_Thing_i2_G) (n : Nat) : LK := tabL [(4, slices_Equal_Thing_i2_d4 G n)]
theorem slices_Equal_Thing_i2_l4_k (G : slices_Equal_Thing_i2_G) {ρ : Type} (n : Nat) (p0 : Bool) (p1 : Bool) (p2 : Rows) (p3 : Bool) (p4 : Bool) (p5 : Int) (K : Ex → St → Option ρ) (N : St → Option ρ) : ∀ v, roundC (slices_Equal_Thing_i2_S G) slices_Equal_Thing_i2_hs (slices_Equal_Thing_i2_lp G n) slices_Equal_Thing_i2_c4 0 N K (slices_Equal_Thing_i2_l4_enc p0 p1 p2 p3 p4 p5 v) = slices_Equal_Thing_i2_l4_s G n p0 p1 p2 p3 p4 p5 (K (.exit 0) ⟨[(4, .u)], []⟩) (fun v => N (slices_Equal_Thing_i2_l4_enc p0 p1 p2 p3 p4 p5 v)) v
  | v => by kernel_rfl
theorem slices_Equal_Thing_i2_l4_dok (n : Nat) : LE.OK (slices_Equal_Thing_i2_l4_d (slices_Equal_Thing_i2_g n) n) (L tab) slices_Equal_Thing_i2_c4 := LE.shp (fun _ _ _ => rfl) fun ρ K y a b e => LE.rounds (slices_Equal_Thing_i2_Sok n) (LK.of (l := []) (by kernel_rfl) ((fun _ h => nomatch h))) (slices_Equal_Thing_i2_l4_k (slices_Equal_Thing_i2_g n) n _ _ _ _ _ _ K) (by kernel_rfl) (by kernel_rfl) e
theorem slices_Equal_Thing_i2_d4_ok (n : Nat) : LE.OK (slices_Equal_Thing_i2_d4 (slices_Equal_Thing_i2_g n) n) (L tab) slices_Equal_Thing_i2_c4 := slices_Equal_Thing_i2_l4_dok n
theorem slices_Equal_Thing_i2_k (G : slices_Equal_Thing_i2_G) {ρ : Type} (n : Nat) (a0 : Bool) (a1 : Bool) (a2 : Rows) (a3 : Bool) (a4 : Bool) (K : Res → Option ρ) : runC (slices_Equal_Thing_i2_S G) slices_Equal_Thing_i2_hs (slices_Equal_Thing_i2_lp G n) m49 [.lst a0 a1 13 a2, .lst a3 a4 0 []] K = slices_Equal_Thing_i2_s G n a0 a1 a2 a3 a4 (fun w0 => K ⟨.b w0, [], []⟩) := by kernel_rfl
theorem slices_Equal_Thing_i2_ok (n : Nat) : EK.OK (slices_Equal_Thing_i2_e n) 49 (L tab) := EK.shp (fun _ _ _ => rfl) fun ρ K y c e => EK.run (slices_Equal_Thing_i2_Sok n) (by kernel_rfl) (MF.LKOK.of (LK.of (l := [slices_Equal_Thing_i2_c4]) (by kernel_rfl) (List.forall_mem_cons.2 ⟨LE.at (e := slices_Equal_Thing_i2_d4 (slices_Equal_Thing_i2_g n) n) (by kernel_rfl) (slices_Equal_Thing_i2_d4_ok n), (fun _ h => nomatch h)⟩))) (slices_Equal_Thing_i2_k (slices_Equal_Thing_i2_g n) n _ _ _ _ _ K) (by kernel_rfl) e

/-! reeve/state.Same -/
abbrev state_Same_i4_T : Type 1 := (ρ : Type) → Int → Int → Int → Bool → Bool → Rows → Bool → Bool → Rows → Int → Int → Int → Bool → Bool → Rows → Bool → Bool → (Bool → Option ρ) → Option ρ
def state_Same_i4_E (G : state_Same_i4_T) : EK := fun ρ args K => decL [.agg [.i .i64 none, .i .i64 none, .i .i64 none, .lst none none 5 none, .lst none none 13 none], .agg [.i .i64 none, .i .i64 none, .i .i64 none, .lst none none 5 none, .lst none none 0 (some [])]] args fun c => G ρ c.1.1 c.1.2.1 c.1.2.2.1 c.1.2.2.2.1.1 c.1.2.2.2.1.2.1 c.1.2.2.2.1.2.2 c.1.2.2.2.2.1.1 c.1.2.2.2.2.1.2.1 c.1.2.2.2.2.1.2.2 c.2.1.1 c.2.1.2.1 c.2.1.2.2.1 c.2.1.2.2.2.1.1 c.2.1.2.2.2.1.2.1 c.2.1.2.2.2.1.2.2 c.2.1.2.2.2.2.1.1 c.2.1.2.2.2.2.1.2.1 (fun w0 => K ⟨.b w0, [], []⟩)
structure state_Same_i4_G where
  mk ::
  slices_Equal_Slot : slices_Equal_Slot_T
  slices_Equal_Thing_i2 : slices_Equal_Thing_i2_T
noncomputable def state_Same_i4_s (G : state_Same_i4_G) {ρ : Type} (_n : Nat) (a0 : Int) (a1 : Int) (a2 : Int) (a3 : Bool) (a4 : Bool) (a5 : Rows) (a6 : Bool) (a7 : Bool) (a8 : Rows) (a9 : Int) (a10 : Int) (a11 : Int) (a12 : Bool) (a13 : Bool) (a14 : Rows) (a15 : Bool) (a16 : Bool) (k0 : (Bool → Option ρ)) : Option ρ :=
  bif (((a0 : Int) == a9) && (((a1 : Int) == a10) && (((a2 : Int) == a11) && true))) then
    G.slices_Equal_Slot ρ a3 a4 a5 a12 a13 a14 (fun w0_0 =>
      bif w0_0 then
        G.slices_Equal_Thing_i2 ρ a6 a7 a8 a15 a16 (fun w1_0 =>
          bif w1_0 then
            k0 true
          else k0 false)
      else k0 false)
  else k0 false
noncomputable def state_Same_i4_g (n : Nat) : state_Same_i4_G := ⟨slices_Equal_Slot n, slices_Equal_Thing_i2 n⟩
noncomputable def state_Same_i4 (n : Nat) : state_Same_i4_T := fun _ρ a0 a1 a2 a3 a4 a5 a6 a7 a8 a9 a10 a11 a12 a13 a14 a15 a16 k0 => state_Same_i4_s (state_Same_i4_g n) n a0 a1 a2 a3 a4 a5 a6 a7 a8 a9 a10 a11 a12 a13 a14 a15 a16 k0
noncomputable def state_Same_i4_e (n : Nat) : EK := state_Same_i4_E (state_Same_i4 n)
def state_Same_i4_S (G : state_Same_i4_G) : CK := tabS [(48, slices_Equal_Slot_E G.slices_Equal_Slot), (49, slices_Equal_Thing_i2_E G.slices_Equal_Thing_i2)]
theorem state_Same_i4_Sok (n : Nat) : CK.OK (state_Same_i4_S (state_Same_i4_g n)) (L tab) := tabS_ok _ (List.forall_mem_cons.2 ⟨(slices_Equal_Slot_ok n), List.forall_mem_cons.2 ⟨(slices_Equal_Thing_i2_ok n), (fun _ h => nomatch h)⟩⟩)
def state_Same_i4_hs : HintC := hintL []
noncomputable def state_Same_i4_lp (_G : state_Same_i4_G) (_n : Nat) : LK := tabL []
theorem state_Same_i4_k (G : state_Same_i4_G) {ρ : Type} (n : Nat) (a0 : Int) (a1 : Int) (a2 : Int) (a3 : Bool) (a4 : Bool) (a5 : Rows) (a6 : Bool) (a7 : Bool) (a8 : Rows) (a9 : Int) (a10 : Int) (a11 : Int) (a12 : Bool) (a13 : Bool) (a14 : Rows) (a15 : Bool) (a16 : Bool) (K : Res → Option ρ) : runC (state_Same_i4_S G) state_Same_i4_hs (state_Same_i4_lp G n) m20 [.agg [.i .i64 a0, .i .i64 a1, .i .i64 a2, .lst a3 a4 5 a5, .lst a6 a7 13 a8], .agg [.i .i64 a9, .i .i64 a10, .i .i64 a11, .lst a12 a13 5 a14, .lst a15 a16 0 []]] K = state_Same_i4_s G n a0 a1 a2 a3 a4 a5 a6 a7 a8 a9 a10 a11 a12 a13 a14 a15 a16 (fun w0 => K ⟨.b w0, [], []⟩) := by kernel_rfl
theorem state_Same_i4_ok (n : Nat) : EK.OK (state_Same_i4_e n) 20 (L tab) := EK.shp (fun _ _ _ => rfl) fun ρ K y c e => EK.run (state_Same_i4_Sok n) (by kernel_rfl) (MF.LKOK.of (LK.of (l := []) (by kernel_rfl) ((fun _ h => nomatch h)))) (state_Same_i4_k (state_Same_i4_g n) n _ _ _ _ _ _ _ _ _ _ _ _ _ _ _ _ _ K) (by kernel_rfl) e

/-! reeve/reevelaw12.StateSame -/
abbrev reevelaw12_StateSame_T : Type 1 := (ρ : Type) → Int → Int → Int → Bool → Bool → Rows → Bool → Bool → Rows → Int → Int → Int → Bool → Bool → Rows → Bool → Bool → Rows → Int → (Bool → Option ρ) → Option ρ
def reevelaw12_StateSame_E (G : reevelaw12_StateSame_T) : EK := fun ρ args K => decL [.agg [.i .i64 none, .i .i64 none, .i .i64 none, .lst none none 5 none, .lst none none 13 none], .agg [.i .i64 none, .i .i64 none, .i .i64 none, .lst none none 5 none, .lst none none 13 none], .i .i64 none] args fun c => G ρ c.1.1 c.1.2.1 c.1.2.2.1 c.1.2.2.2.1.1 c.1.2.2.2.1.2.1 c.1.2.2.2.1.2.2 c.1.2.2.2.2.1.1 c.1.2.2.2.2.1.2.1 c.1.2.2.2.2.1.2.2 c.2.1.1 c.2.1.2.1 c.2.1.2.2.1 c.2.1.2.2.2.1.1 c.2.1.2.2.2.1.2.1 c.2.1.2.2.2.1.2.2 c.2.1.2.2.2.2.1.1 c.2.1.2.2.2.2.1.2.1 c.2.1.2.2.2.2.1.2.2 c.2.2.1 (fun w0 => K ⟨.b w0, [], []⟩)
structure reevelaw12_StateSame_G where
  mk ::
  reevelaw12_awake : reevelaw12_awake_T
  reevelaw12_heavy : reevelaw12_heavy_T
  state_Same : state_Same_T
  reevelaw12_ownOf : reevelaw12_ownOf_T
  reeveref11_Same : reeveref11_Same_T
  state_Clone : state_Clone_T
  state_Same_i1 : state_Same_i1_T
  state_Same_i2 : state_Same_i2_T
  state_Same_i3 : state_Same_i3_T
  state_Same_i4 : state_Same_i4_T
noncomputable def reevelaw12_StateSame_s (G : reevelaw12_StateSame_G) {ρ : Type} (_n : Nat) (a0 : Int) (a1 : Int) (a2 : Int) (a3 : Bool) (a4 : Bool) (a5 : Rows) (a6 : Bool) (a7 : Bool) (a8 : Rows) (a9 : Int) (a10 : Int) (a11 : Int) (a12 : Bool) (a13 : Bool) (a14 : Rows) (a15 : Bool) (a16 : Bool) (a17 : Rows) (a18 : Int) (k0 : (Bool → Option ρ)) : Option ρ :=
  G.reevelaw12_awake ρ (fun w0_0 =>
    bif w0_0 then
      G.reevelaw12_heavy ρ a0 a1 a2 a3 a4 a5 a6 a7 a8 (fun w1_0 =>
        bif w1_0 then
          k0 true
        else G.reevelaw12_heavy ρ a9 a10 a11 a12 a13 a14 a15 a16 a17 (fun w2_0 =>
          bif w2_0 then
            k0 true
          else G.state_Same ρ a0 a1 a2 a3 a4 a5 a6 a7 a8 a9 a10 a11 a12 a13 a14 a15 a16 a17 (fun w3_0 =>
            bif w3_0 then
              G.reevelaw12_ownOf ρ a0 a1 a2 a3 a4 a5 a6 a7 a8 (fun w4_0 w4_1 w4_2 w4_3 w4_4 w4_5 =>
                G.reevelaw12_ownOf ρ a9 a10 a11 a12 a13 a14 a15 a16 a17 (fun w5_0 w5_1 w5_2 w5_3 w5_4 w5_5 =>
                  G.reeveref11_Same ρ a0 a1 a2 w4_0 w4_1 w4_2 w4_3 w4_4 w4_5 a9 a10 a11 w5_0 w5_1 w5_2 w5_3 w5_4 w5_5 (fun w6_0 =>
                    bif w6_0 then
                      G.state_Clone ρ a0 a1 a2 a3 a4 a5 a6 a7 a8 (bif decide ((a18 : Int) < 0) then
                          G.state_Same_i1 ρ a0 a1 a2 true true true true a0 a1 a2 a3 a4 a5 a6 a7 a8 (fun w8_0 =>
                            bif w8_0 then
                              k0 true
                            else k0 false)
                        else bif decide ((a18 : Int) ≥ 0) then
                          G.state_Same_i1 ρ a0 a1 a2 true true true true a0 a1 a2 a3 a4 a5 a6 a7 a8 (fun w9_0 =>
                            bif w9_0 then
                              k0 true
                            else k0 false)
                        else bif decide ((a18 : Int) ≥ (((List.length (a5 : Rows)) : Nat) : Int)) then
                          G.state_Same_i1 ρ a0 a1 a2 true true true true a0 a1 a2 a3 a4 a5 a6 a7 a8 (fun w10_0 =>
                            bif w10_0 then
                              k0 true
                            else k0 false)
                        else rowT [.i .i64, .i .i64, .i .i64, .i .i64, .i .i64] a5 a18 fun _c11 =>
                        none) (fun w12_0 w12_1 w12_2 =>
                        bif decide ((a18 : Int) < 0) then
                          chk (((List.length (w12_2 : Rows)) : Nat) == w12_0) <|
                          G.state_Same_i2 ρ a0 a1 a2 true true false false (List.take w12_1 (List.drop 0 (w12_2 : Rows))) a0 a1 a2 a3 a4 a5 a6 a7 a8 (fun w13_0 =>
                            bif w13_0 then
                              k0 true
                            else k0 false)
                        else bif decide ((a18 : Int) ≥ 0) then
                          chk (((List.length (w12_2 : Rows)) : Nat) == w12_0) <|
                          G.state_Same_i2 ρ a0 a1 a2 true true false false (List.take w12_1 (List.drop 0 (w12_2 : Rows))) a0 a1 a2 a3 a4 a5 a6 a7 a8 (fun w14_0 =>
                            bif w14_0 then
                              k0 true
                            else k0 false)
                        else bif decide ((a18 : Int) ≥ (((List.length (a5 : Rows)) : Nat) : Int)) then
                          chk (((List.length (w12_2 : Rows)) : Nat) == w12_0) <|
                          G.state_Same_i2 ρ a0 a1 a2 true true false false (List.take w12_1 (List.drop 0 (w12_2 : Rows))) a0 a1 a2 a3 a4 a5 a6 a7 a8 (fun w15_0 =>
                            bif w15_0 then
                              k0 true
                            else k0 false)
                        else rowT [.i .i64, .i .i64, .i .i64, .i .i64, .i .i64] a5 a18 fun _c16 =>
                        none) (fun w17_0 w17_1 w17_2 =>
                        bif decide ((a18 : Int) < 0) then
                          chk (((List.length (w17_2 : Rows)) : Nat) == w17_0) <|
                          G.state_Same_i3 ρ a0 a1 a2 false false (List.take w17_1 (List.drop 0 (w17_2 : Rows))) true true a0 a1 a2 a3 a4 a5 a6 a7 a8 (fun w18_0 =>
                            bif w18_0 then
                              k0 true
                            else k0 false)
                        else bif decide ((a18 : Int) ≥ ((w17_1 : Nat) : Int)) then
                          chk (((List.length (w17_2 : Rows)) : Nat) == w17_0) <|
                          G.state_Same_i3 ρ a0 a1 a2 false false (List.take w17_1 (List.drop 0 (w17_2 : Rows))) true true a0 a1 a2 a3 a4 a5 a6 a7 a8 (fun w19_0 =>
                            bif w19_0 then
                              k0 true
                            else k0 false)
                        else bif decide ((a18 : Int) ≥ (((List.length (a5 : Rows)) : Nat) : Int)) then
                          chk (((List.length (w17_2 : Rows)) : Nat) == w17_0) <|
                          G.state_Same_i3 ρ a0 a1 a2 false false (List.take w17_1 (List.drop 0 (w17_2 : Rows))) true true a0 a1 a2 a3 a4 a5 a6 a7 a8 (fun w20_0 =>
                            bif w20_0 then
                              k0 true
                            else k0 false)
                        else rowT [.i .i64, .i .i64, .i .i64, .i .i64, .i .i64] a5 a18 fun c21 =>
                        chk (decide ((0 : Int) ≤ a18)) <|
                        chk (decide ((a18 : Int) < ((w17_1 : Nat) : Int))) <|
                        chk (((List.length (w17_2 : Rows)) : Nat) == w17_0) <|
                        rowN [.i .i64, .i .i64, .i .i64, .i .i64, .i .i64] w17_2 (0 + a18.toNat) fun c22 =>
                        chk (decide ((0 : Int) ≤ a18)) <|
                        chk (decide ((a18 : Int) < ((w17_1 : Nat) : Int))) <|
                        chk (((List.length (w17_2 : Rows)) : Nat) == w17_0) <|
                        rowN [.a, .a, .a, .a, .a] w17_2 (0 + a18.toNat) fun c23 =>
                        rowT [.i .i64, .i .i64, .i .i64, .i .i64, .i .i64] a5 a18 fun c24 =>
                        bif (((c24.1 : Int) == c21.1) && (((c24.2.1 : Int) == c21.2.1) && (((c24.2.2.1 : Int) == c21.2.2.1) && (((c24.2.2.2.1 : Int) == c21.2.2.2.1) && (((c24.2.2.2.2.1 : Int) == c21.2.2.2.2.1) && true))))) then
                          chk (((List.length ((List.set (w17_2 : Rows) (0 + a18.toNat) [c23.1, c23.2.1, c23.2.2.1, c23.2.2.2.1, .i .i64 (IntKind.wrap .i64 (c22.2.2.2.2.1 + 1))]) : Rows)) : Nat) == w17_0) <|
                          G.state_Same_i4 ρ a0 a1 a2 a3 a4 a5 a6 a7 a8 a0 a1 a2 false false (List.take w17_1 (List.drop 0 ((List.set (w17_2 : Rows) (0 + a18.toNat) [c23.1, c23.2.1, c23.2.2.1, c23.2.2.2.1, .i .i64 (IntKind.wrap .i64 (c22.2.2.2.2.1 + 1))]) : Rows))) true true (fun w25_0 =>
                            bif w25_0 then
                              k0 false
                            else k0 true)
                        else k0 false) (fun w26_0 w26_1 w26_2 w26_3 w26_4 w26_5 =>
                        bif decide ((a18 : Int) < 0) then
                          chk (((List.length (w26_4 : Rows)) : Nat) == w26_0) <|
                          chk (((List.length (w26_5 : Rows)) : Nat) == w26_2) <|
                          G.state_Same ρ a0 a1 a2 false false (List.take w26_1 (List.drop 0 (w26_4 : Rows))) false false (List.take w26_3 (List.drop 0 (w26_5 : Rows))) a0 a1 a2 a3 a4 a5 a6 a7 a8 (fun w27_0 =>
                            bif w27_0 then
                              k0 true
                            else k0 false)
                        else bif decide ((a18 : Int) ≥ ((w26_1 : Nat) : Int)) then
                          chk (((List.length (w26_4 : Rows)) : Nat) == w26_0) <|
                          chk (((List.length (w26_5 : Rows)) : Nat) == w26_2) <|
                          G.state_Same ρ a0 a1 a2 false false (List.take w26_1 (List.drop 0 (w26_4 : Rows))) false false (List.take w26_3 (List.drop 0 (w26_5 : Rows))) a0 a1 a2 a3 a4 a5 a6 a7 a8 (fun w28_0 =>
                            bif w28_0 then
                              k0 true
                            else k0 false)
                        else bif decide ((a18 : Int) ≥ (((List.length (a5 : Rows)) : Nat) : Int)) then
                          chk (((List.length (w26_4 : Rows)) : Nat) == w26_0) <|
                          chk (((List.length (w26_5 : Rows)) : Nat) == w26_2) <|
                          G.state_Same ρ a0 a1 a2 false false (List.take w26_1 (List.drop 0 (w26_4 : Rows))) false false (List.take w26_3 (List.drop 0 (w26_5 : Rows))) a0 a1 a2 a3 a4 a5 a6 a7 a8 (fun w29_0 =>
                            bif w29_0 then
                              k0 true
                            else k0 false)
                        else rowT [.i .i64, .i .i64, .i .i64, .i .i64, .i .i64] a5 a18 fun c30 =>
                        chk (decide ((0 : Int) ≤ a18)) <|
                        chk (decide ((a18 : Int) < ((w26_1 : Nat) : Int))) <|
                        chk (((List.length (w26_4 : Rows)) : Nat) == w26_0) <|
                        rowN [.i .i64, .i .i64, .i .i64, .i .i64, .i .i64] w26_4 (0 + a18.toNat) fun c31 =>
                        chk (decide ((0 : Int) ≤ a18)) <|
                        chk (decide ((a18 : Int) < ((w26_1 : Nat) : Int))) <|
                        chk (((List.length (w26_4 : Rows)) : Nat) == w26_0) <|
                        rowN [.a, .a, .a, .a, .a] w26_4 (0 + a18.toNat) fun c32 =>
                        rowT [.i .i64, .i .i64, .i .i64, .i .i64, .i .i64] a5 a18 fun c33 =>
                        bif (((c33.1 : Int) == c30.1) && (((c33.2.1 : Int) == c30.2.1) && (((c33.2.2.1 : Int) == c30.2.2.1) && (((c33.2.2.2.1 : Int) == c30.2.2.2.1) && (((c33.2.2.2.2.1 : Int) == c30.2.2.2.2.1) && true))))) then
                          chk (((List.length ((List.set (w26_4 : Rows) (0 + a18.toNat) [c32.1, c32.2.1, c32.2.2.1, c32.2.2.2.1, .i .i64 (IntKind.wrap .i64 (c31.2.2.2.2.1 + 1))]) : Rows)) : Nat) == w26_0) <|
                          chk (((List.length (w26_5 : Rows)) : Nat) == w26_2) <|
                          G.state_Same ρ a0 a1 a2 a3 a4 a5 a6 a7 a8 a0 a1 a2 false false (List.take w26_1 (List.drop 0 ((List.set (w26_4 : Rows) (0 + a18.toNat) [c32.1, c32.2.1, c32.2.2.1, c32.2.2.2.1, .i .i64 (IntKind.wrap .i64 (c31.2.2.2.2.1 + 1))]) : Rows))) false false (List.take w26_3 (List.drop 0 (w26_5 : Rows))) (fun w34_0 =>
                            bif w34_0 then
                              k0 false
                            else k0 true)
                        else k0 false)
                    else k0 false)))
            else G.reevelaw12_ownOf ρ a0 a1 a2 a3 a4 a5 a6 a7 a8 (fun w35_0 w35_1 w35_2 w35_3 w35_4 w35_5 =>
              G.reevelaw12_ownOf ρ a9 a10 a11 a12 a13 a14 a15 a16 a17 (fun w36_0 w36_1 w36_2 w36_3 w36_4 w36_5 =>
                G.reeveref11_Same ρ a0 a1 a2 w35_0 w35_1 w35_2 w35_3 w35_4 w35_5 a9 a10 a11 w36_0 w36_1 w36_2 w36_3 w36_4 w36_5 (fun w37_0 =>
                  bif w37_0 then
                    k0 false
                  else G.state_Clone ρ a0 a1 a2 a3 a4 a5 a6 a7 a8 (bif decide ((a18 : Int) < 0) then
                      G.state_Same_i1 ρ a0 a1 a2 true true true true a0 a1 a2 a3 a4 a5 a6 a7 a8 (fun w39_0 =>
                        bif w39_0 then
                          k0 true
                        else k0 false)
                    else bif decide ((a18 : Int) ≥ 0) then
                      G.state_Same_i1 ρ a0 a1 a2 true true true true a0 a1 a2 a3 a4 a5 a6 a7 a8 (fun w40_0 =>
                        bif w40_0 then
                          k0 true
                        else k0 false)
                    else bif decide ((a18 : Int) ≥ (((List.length (a5 : Rows)) : Nat) : Int)) then
                      G.state_Same_i1 ρ a0 a1 a2 true true true true a0 a1 a2 a3 a4 a5 a6 a7 a8 (fun w41_0 =>
                        bif w41_0 then
                          k0 true
                        else k0 false)
                    else rowT [.i .i64, .i .i64, .i .i64, .i .i64, .i .i64] a5 a18 fun _c42 =>
                    none) (fun w43_0 w43_1 w43_2 =>
                    bif decide ((a18 : Int) < 0) then
                      chk (((List.length (w43_2 : Rows)) : Nat) == w43_0) <|
                      G.state_Same_i2 ρ a0 a1 a2 true true false false (List.take w43_1 (List.drop 0 (w43_2 : Rows))) a0 a1 a2 a3 a4 a5 a6 a7 a8 (fun w44_0 =>
                        bif w44_0 then
                          k0 true
                        else k0 false)
                    else bif decide ((a18 : Int) ≥ 0) then
                      chk (((List.length (w43_2 : Rows)) : Nat) == w43_0) <|
                      G.state_Same_i2 ρ a0 a1 a2 true true false false (List.take w43_1 (List.drop 0 (w43_2 : Rows))) a0 a1 a2 a3 a4 a5 a6 a7 a8 (fun w45_0 =>
                        bif w45_0 then
                          k0 true
                        else k0 false)
                    else bif decide ((a18 : Int) ≥ (((List.length (a5 : Rows)) : Nat) : Int)) then
                      chk (((List.length (w43_2 : Rows)) : Nat) == w43_0) <|
                      G.state_Same_i2 ρ a0 a1 a2 true true false false (List.take w43_1 (List.drop 0 (w43_2 : Rows))) a0 a1 a2 a3 a4 a5 a6 a7 a8 (fun w46_0 =>
                        bif w46_0 then
                          k0 true
                        else k0 false)
                    else rowT [.i .i64, .i .i64, .i .i64, .i .i64, .i .i64] a5 a18 fun _c47 =>
                    none) (fun w48_0 w48_1 w48_2 =>
                    bif decide ((a18 : Int) < 0) then
                      chk (((List.length (w48_2 : Rows)) : Nat) == w48_0) <|
                      G.state_Same_i3 ρ a0 a1 a2 false false (List.take w48_1 (List.drop 0 (w48_2 : Rows))) true true a0 a1 a2 a3 a4 a5 a6 a7 a8 (fun w49_0 =>
                        bif w49_0 then
                          k0 true
                        else k0 false)
                    else bif decide ((a18 : Int) ≥ ((w48_1 : Nat) : Int)) then
                      chk (((List.length (w48_2 : Rows)) : Nat) == w48_0) <|
                      G.state_Same_i3 ρ a0 a1 a2 false false (List.take w48_1 (List.drop 0 (w48_2 : Rows))) true true a0 a1 a2 a3 a4 a5 a6 a7 a8 (fun w50_0 =>
                        bif w50_0 then
                          k0 true
                        else k0 false)
                    else bif decide ((a18 : Int) ≥ (((List.length (a5 : Rows)) : Nat) : Int)) then
                      chk (((List.length (w48_2 : Rows)) : Nat) == w48_0) <|
                      G.state_Same_i3 ρ a0 a1 a2 false false (List.take w48_1 (List.drop 0 (w48_2 : Rows))) true true a0 a1 a2 a3 a4 a5 a6 a7 a8 (fun w51_0 =>
                        bif w51_0 then
                          k0 true
                        else k0 false)
                    else rowT [.i .i64, .i .i64, .i .i64, .i .i64, .i .i64] a5 a18 fun c52 =>
                    chk (decide ((0 : Int) ≤ a18)) <|
                    chk (decide ((a18 : Int) < ((w48_1 : Nat) : Int))) <|
                    chk (((List.length (w48_2 : Rows)) : Nat) == w48_0) <|
                    rowN [.i .i64, .i .i64, .i .i64, .i .i64, .i .i64] w48_2 (0 + a18.toNat) fun c53 =>
                    chk (decide ((0 : Int) ≤ a18)) <|
                    chk (decide ((a18 : Int) < ((w48_1 : Nat) : Int))) <|
                    chk (((List.length (w48_2 : Rows)) : Nat) == w48_0) <|
                    rowN [.a, .a, .a, .a, .a] w48_2 (0 + a18.toNat) fun c54 =>
                    rowT [.i .i64, .i .i64, .i .i64, .i .i64, .i .i64] a5 a18 fun c55 =>
                    bif (((c55.1 : Int) == c52.1) && (((c55.2.1 : Int) == c52.2.1) && (((c55.2.2.1 : Int) == c52.2.2.1) && (((c55.2.2.2.1 : Int) == c52.2.2.2.1) && (((c55.2.2.2.2.1 : Int) == c52.2.2.2.2.1) && true))))) then
                      chk (((List.length ((List.set (w48_2 : Rows) (0 + a18.toNat) [c54.1, c54.2.1, c54.2.2.1, c54.2.2.2.1, .i .i64 (IntKind.wrap .i64 (c53.2.2.2.2.1 + 1))]) : Rows)) : Nat) == w48_0) <|
                      G.state_Same_i4 ρ a0 a1 a2 a3 a4 a5 a6 a7 a8 a0 a1 a2 false false (List.take w48_1 (List.drop 0 ((List.set (w48_2 : Rows) (0 + a18.toNat) [c54.1, c54.2.1, c54.2.2.1, c54.2.2.2.1, .i .i64 (IntKind.wrap .i64 (c53.2.2.2.2.1 + 1))]) : Rows))) true true (fun w56_0 =>
                        bif w56_0 then
                          k0 false
                        else k0 true)
                    else k0 false) (fun w57_0 w57_1 w57_2 w57_3 w57_4 w57_5 =>
                    bif decide ((a18 : Int) < 0) then
                      chk (((List.length (w57_4 : Rows)) : Nat) == w57_0) <|
                      chk (((List.length (w57_5 : Rows)) : Nat) == w57_2) <|
                      G.state_Same ρ a0 a1 a2 false false (List.take w57_1 (List.drop 0 (w57_4 : Rows))) false false (List.take w57_3 (List.drop 0 (w57_5 : Rows))) a0 a1 a2 a3 a4 a5 a6 a7 a8 (fun w58_0 =>
                        bif w58_0 then
                          k0 true
                        else k0 false)
                    else bif decide ((a18 : Int) ≥ ((w57_1 : Nat) : Int)) then
                      chk (((List.length (w57_4 : Rows)) : Nat) == w57_0) <|
                      chk (((List.length (w57_5 : Rows)) : Nat) == w57_2) <|
                      G.state_Same ρ a0 a1 a2 false false (List.take w57_1 (List.drop 0 (w57_4 : Rows))) false false (List.take w57_3 (List.drop 0 (w57_5 : Rows))) a0 a1 a2 a3 a4 a5 a6 a7 a8 (fun w59_0 =>
                        bif w59_0 then
                          k0 true
                        else k0 false)
                    else bif decide ((a18 : Int) ≥ (((List.length (a5 : Rows)) : Nat) : Int)) then
                      chk (((List.length (w57_4 : Rows)) : Nat) == w57_0) <|
                      chk (((List.length (w57_5 : Rows)) : Nat) == w57_2) <|
                      G.state_Same ρ a0 a1 a2 false false (List.take w57_1 (List.drop 0 (w57_4 : Rows))) false false (List.take w57_3 (List.drop 0 (w57_5 : Rows))) a0 a1 a2 a3 a4 a5 a6 a7 a8 (fun w60_0 =>
                        bif w60_0 then
                          k0 true
                        else k0 false)
                    else rowT [.i .i64, .i .i64, .i .i64, .i .i64, .i .i64] a5 a18 fun c61 =>
                    chk (decide ((0 : Int) ≤ a18)) <|
                    chk (decide ((a18 : Int) < ((w57_1 : Nat) : Int))) <|
                    chk (((List.length (w57_4 : Rows)) : Nat) == w57_0) <|
                    rowN [.i .i64, .i .i64, .i .i64, .i .i64, .i .i64] w57_4 (0 + a18.toNat) fun c62 =>
                    chk (decide ((0 : Int) ≤ a18)) <|
                    chk (decide ((a18 : Int) < ((w57_1 : Nat) : Int))) <|
                    chk (((List.length (w57_4 : Rows)) : Nat) == w57_0) <|
                    rowN [.a, .a, .a, .a, .a] w57_4 (0 + a18.toNat) fun c63 =>
                    rowT [.i .i64, .i .i64, .i .i64, .i .i64, .i .i64] a5 a18 fun c64 =>
                    bif (((c64.1 : Int) == c61.1) && (((c64.2.1 : Int) == c61.2.1) && (((c64.2.2.1 : Int) == c61.2.2.1) && (((c64.2.2.2.1 : Int) == c61.2.2.2.1) && (((c64.2.2.2.2.1 : Int) == c61.2.2.2.2.1) && true))))) then
                      chk (((List.length ((List.set (w57_4 : Rows) (0 + a18.toNat) [c63.1, c63.2.1, c63.2.2.1, c63.2.2.2.1, .i .i64 (IntKind.wrap .i64 (c62.2.2.2.2.1 + 1))]) : Rows)) : Nat) == w57_0) <|
                      chk (((List.length (w57_5 : Rows)) : Nat) == w57_2) <|
                      G.state_Same ρ a0 a1 a2 a3 a4 a5 a6 a7 a8 a0 a1 a2 false false (List.take w57_1 (List.drop 0 ((List.set (w57_4 : Rows) (0 + a18.toNat) [c63.1, c63.2.1, c63.2.2.1, c63.2.2.2.1, .i .i64 (IntKind.wrap .i64 (c62.2.2.2.2.1 + 1))]) : Rows))) false false (List.take w57_3 (List.drop 0 (w57_5 : Rows))) (fun w65_0 =>
                        bif w65_0 then
                          k0 false
                        else k0 true)
                    else k0 false)))))))
    else k0 false)
noncomputable def reevelaw12_StateSame_g (n : Nat) : reevelaw12_StateSame_G := ⟨reevelaw12_awake n, reevelaw12_heavy n, state_Same n, reevelaw12_ownOf n, reeveref11_Same n, state_Clone n, state_Same_i1 n, state_Same_i2 n, state_Same_i3 n, state_Same_i4 n⟩
noncomputable def reevelaw12_StateSame (n : Nat) : reevelaw12_StateSame_T := fun _ρ a0 a1 a2 a3 a4 a5 a6 a7 a8 a9 a10 a11 a12 a13 a14 a15 a16 a17 a18 k0 => reevelaw12_StateSame_s (reevelaw12_StateSame_g n) n a0 a1 a2 a3 a4 a5 a6 a7 a8 a9 a10 a11 a12 a13 a14 a15 a16 a17 a18 k0
noncomputable def reevelaw12_StateSame_e (n : Nat) : EK := reevelaw12_StateSame_E (reevelaw12_StateSame n)
def reevelaw12_StateSame_S (G : reevelaw12_StateSame_G) : CK := tabS [(9, reevelaw12_awake_E G.reevelaw12_awake), (10, reevelaw12_heavy_E G.reevelaw12_heavy), (20, altE [.agg [.i .i64 none, .i .i64 none, .i .i64 none, .lst none none 5 none, .lst none none 13 none], .agg [.i .i64 none, .i .i64 none, .i .i64 none, .lst none none 5 none, .lst none none 13 none]] (state_Same_E G.state_Same) (altE [.agg [.i .i64 none, .i .i64 none, .i .i64 none, .lst none none 0 (some []), .lst none none 0 (some [])], .agg [.i .i64 none, .i .i64 none, .i .i64 none, .lst none none 5 none, .lst none none 13 none]] (state_Same_i1_E G.state_Same_i1) (altE [.agg [.i .i64 none, .i .i64 none, .i .i64 none, .lst none none 0 (some []), .lst none none 13 none], .agg [.i .i64 none, .i .i64 none, .i .i64 none, .lst none none 5 none, .lst none none 13 none]] (state_Same_i2_E G.state_Same_i2) (altE [.agg [.i .i64 none, .i .i64 none, .i .i64 none, .lst none none 5 none, .lst none none 0 (some [])], .agg [.i .i64 none, .i .i64 none, .i .i64 none, .lst none none 5 none, .lst none none 13 none]] (state_Same_i3_E G.state_Same_i3) (state_Same_i4_E G.state_Same_i4))))), (22, reevelaw12_ownOf_E G.reevelaw12_ownOf), (21, reeveref11_Same_E G.reeveref11_Same), (23, state_Clone_E G.state_Clone)]
theorem reevelaw12_StateSame_Sok (n : Nat) : CK.OK (reevelaw12_StateSame_S (reevelaw12_StateSame_g n)) (L tab) := tabS_ok _ (List.forall_mem_cons.2 ⟨(reevelaw12_awake_ok n), List.forall_mem_cons.2 ⟨(reevelaw12_heavy_ok n), List.forall_mem_cons.2 ⟨altE_ok (state_Same_ok n) (altE_ok (state_Same_i1_ok n) (altE_ok (state_Same_i2_ok n) (altE_ok (state_Same_i3_ok n) ((state_Same_i4_ok n))))), List.forall_mem_cons.2 ⟨(reevelaw12_ownOf_ok n), List.forall_mem_cons.2 ⟨(reeveref11_Same_ok n), List.forall_mem_cons.2 ⟨(state_Clone_ok n), (fun _ h => nomatch h)⟩⟩⟩⟩⟩⟩)
def reevelaw12_StateSame_hs : HintC := hintL [(50, [.i .i64, .i .i64, .i .i64, .i .i64, .i .i64]), (60, [.i .i64, .i .i64, .i .i64, .i .i64, .i .i64]), (67, [.i .i64, .i .i64, .i .i64, .i .i64, .i .i64])]
noncomputable def reevelaw12_StateSame_lp (_G : reevelaw12_StateSame_G) (_n : Nat) : LK := tabL []
theorem reevelaw12_StateSame_k (G : reevelaw12_StateSame_G) {ρ : Type} (n : Nat) (a0 : Int) (a1 : Int) (a2 : Int) (a3 : Bool) (a4 : Bool) (a5 : Rows) (a6 : Bool) (a7 : Bool) (a8 : Rows) (a9 : Int) (a10 : Int) (a11 : Int) (a12 : Bool) (a13 : Bool) (a14 : Rows) (a15 : Bool) (a16 : Bool) (a17 : Rows) (a18 : Int) (K : Res → Option ρ) : runC (reevelaw12_StateSame_S G) reevelaw12_StateSame_hs (reevelaw12_StateSame_lp G n) m6 [.agg [.i .i64 a0, .i .i64 a1, .i .i64 a2, .lst a3 a4 5 a5, .lst a6 a7 13 a8], .agg [.i .i64 a9, .i .i64 a10, .i .i64 a11, .lst a12 a13 5 a14, .lst a15 a16 13 a17], .i .i64 a18] K = reevelaw12_StateSame_s G n a0 a1 a2 a3 a4 a5 a6 a7 a8 a9 a10 a11 a12 a13 a14 a15 a16 a17 a18 (fun w0 => K ⟨.b w0, [], []⟩) := by kernel_rfl
theorem reevelaw12_StateSame_ok (n : Nat) : EK.OK (reevelaw12_StateSame_e n) 6 (L tab) := EK.shp (fun _ _ _ => rfl) fun ρ K y c e => EK.run (reevelaw12_StateSame_Sok n) (by kernel_rfl) (MF.LKOK.of (LK.of (l := []) (by kernel_rfl) ((fun _ h => nomatch h)))) (reevelaw12_StateSame_k (reevelaw12_StateSame_g n) n _ _ _ _ _ _ _ _ _ _ _ _ _ _ _ _ _ _ _ K) (by kernel_rfl) e

end Go.Rv
