/- functions as programs of ours, and their ties, part 0 -/
import Derived.Test.YtomdbiaoaemkmaaGreatTab
import Derived.KernelRfl
namespace Go.Rv
/-! reeve/geo.Plain -/
abbrev geo_Plain_T : Type 1 := (ρ : Type) → (Option ρ) → Option ρ
def geo_Plain_E (G : geo_Plain_T) : EK := fun ρ args K => decL [] args fun _c => G ρ (K ⟨.agg [.i .i64 2, .i .i64 32, .i .i64 16], [], []⟩)
structure geo_Plain_G where
  mk ::
noncomputable def geo_Plain_s (_G : geo_Plain_G) {ρ : Type} (_n : Nat)  (k0 : (Option ρ)) : Option ρ :=
  k0
noncomputable def geo_Plain_g (_n : Nat) : geo_Plain_G := ⟨⟩
noncomputable def geo_Plain (n : Nat) : geo_Plain_T := fun _ρ k0 => geo_Plain_s (geo_Plain_g n) n k0
noncomputable def geo_Plain_e (n : Nat) : EK := geo_Plain_E (geo_Plain n)
def geo_Plain_S (_G : geo_Plain_G) : CK := tabS []
theorem geo_Plain_Sok (n : Nat) : CK.OK (geo_Plain_S (geo_Plain_g n)) (L tab) := tabS_ok _ ((fun _ h => nomatch h))
def geo_Plain_hs : HintC := hintL []
noncomputable def geo_Plain_lp (_G : geo_Plain_G) (_n : Nat) : LK := tabL []
theorem geo_Plain_k (G : geo_Plain_G) {ρ : Type} (n : Nat)  (K : Res → Option ρ) : runC (geo_Plain_S G) geo_Plain_hs (geo_Plain_lp G n) m45 [] K = geo_Plain_s G n  (K ⟨.agg [.i .i64 2, .i .i64 32, .i .i64 16], [], []⟩) := by kernel_rfl
theorem geo_Plain_ok (n : Nat) : EK.OK (geo_Plain_e n) 45 (L tab) := EK.shp (fun _ _ _ => rfl) fun ρ K y c e => EK.run (geo_Plain_Sok n) (by kernel_rfl) (MF.LKOK.of (LK.of (l := []) (by kernel_rfl) ((fun _ h => nomatch h)))) (geo_Plain_k (geo_Plain_g n) n  K) (by kernel_rfl) e

/-! reeve/thing.own -/
abbrev thing_own_T : Type 1 := (ρ : Type) → Int → Int → Int → Int → Int → Int → Int → Bool → Int → Int → Int → Int → Int → (Int → Int → Int → Int → Int → Int → Int → Bool → Int → Int → Int → Int → Int → Option ρ) → Option ρ
def thing_own_E (G : thing_own_T) : EK := fun ρ args K => decL [.agg [.i .i64 none, .i .i64 none, .i .i64 none, .i .i64 none, .i .i64 none, .i .i64 none, .i .i64 none, .b none, .i .u64 none, .i .u64 none, .i .u64 none, .i .u64 none, .i .u64 none]] args fun c => G ρ c.1.1 c.1.2.1 c.1.2.2.1 c.1.2.2.2.1 c.1.2.2.2.2.1 c.1.2.2.2.2.2.1 c.1.2.2.2.2.2.2.1 c.1.2.2.2.2.2.2.2.1 c.1.2.2.2.2.2.2.2.2.1 c.1.2.2.2.2.2.2.2.2.2.1 c.1.2.2.2.2.2.2.2.2.2.2.1 c.1.2.2.2.2.2.2.2.2.2.2.2.1 c.1.2.2.2.2.2.2.2.2.2.2.2.2.1 (fun w0 w1 w2 w3 w4 w5 w6 w7 w8 w9 w10 w11 w12 => K ⟨.agg [.i .i64 w0, .i .i64 w1, .i .i64 w2, .i .i64 w3, .i .i64 w4, .i .i64 w5, .i .i64 w6, .b w7, .i .u64 w8, .i .u64 w9, .i .u64 w10, .i .u64 w11, .i .u64 w12], [], []⟩)
structure thing_own_G where
  mk ::
noncomputable def thing_own_s (_G : thing_own_G) {ρ : Type} (_n : Nat) (a0 : Int) (a1 : Int) (a2 : Int) (a3 : Int) (a4 : Int) (a5 : Int) (a6 : Int) (a7 : Bool) (a8 : Int) (a9 : Int) (a10 : Int) (a11 : Int) (a12 : Int) (k0 : (Int → Int → Int → Int → Int → Int → Int → Bool → Int → Int → Int → Int → Int → Option ρ)) : Option ρ :=
  bif ((a0 : Int) == 1) then
    k0 a0 0 0 a3 a4 0 0 false 0 0 0 0 0
  else bif ((a0 : Int) == 2) then
    k0 a0 a1 a2 0 0 0 0 false 0 0 0 0 0
  else bif ((a0 : Int) == 3) then
    bif a7 then
      k0 a0 0 0 0 0 a5 a6 true a8 0 0 0 0
    else k0 a0 0 0 0 0 0 0 false 0 0 0 0 0
  else bif ((a0 : Int) == 4) then
    k0 a0 0 0 0 0 0 0 false a8 0 0 0 0
  else bif ((a0 : Int) == 5) then
    k0 a0 0 0 0 0 0 0 false 0 a9 a10 a11 a12
  else k0 0 0 0 0 0 0 0 false 0 0 0 0 0
noncomputable def thing_own_g (_n : Nat) : thing_own_G := ⟨⟩
noncomputable def thing_own (n : Nat) : thing_own_T := fun _ρ a0 a1 a2 a3 a4 a5 a6 a7 a8 a9 a10 a11 a12 k0 => thing_own_s (thing_own_g n) n a0 a1 a2 a3 a4 a5 a6 a7 a8 a9 a10 a11 a12 k0
noncomputable def thing_own_e (n : Nat) : EK := thing_own_E (thing_own n)
def thing_own_S (_G : thing_own_G) : CK := tabS []
theorem thing_own_Sok (n : Nat) : CK.OK (thing_own_S (thing_own_g n)) (L tab) := tabS_ok _ ((fun _ h => nomatch h))
def thing_own_hs : HintC := hintL []
noncomputable def thing_own_lp (_G : thing_own_G) (_n : Nat) : LK := tabL []
theorem thing_own_k (G : thing_own_G) {ρ : Type} (n : Nat) (a0 : Int) (a1 : Int) (a2 : Int) (a3 : Int) (a4 : Int) (a5 : Int) (a6 : Int) (a7 : Bool) (a8 : Int) (a9 : Int) (a10 : Int) (a11 : Int) (a12 : Int) (K : Res → Option ρ) : runC (thing_own_S G) thing_own_hs (thing_own_lp G n) m89 [.agg [.i .i64 a0, .i .i64 a1, .i .i64 a2, .i .i64 a3, .i .i64 a4, .i .i64 a5, .i .i64 a6, .b a7, .i .u64 a8, .i .u64 a9, .i .u64 a10, .i .u64 a11, .i .u64 a12]] K = thing_own_s G n a0 a1 a2 a3 a4 a5 a6 a7 a8 a9 a10 a11 a12 (fun w0 w1 w2 w3 w4 w5 w6 w7 w8 w9 w10 w11 w12 => K ⟨.agg [.i .i64 w0, .i .i64 w1, .i .i64 w2, .i .i64 w3, .i .i64 w4, .i .i64 w5, .i .i64 w6, .b w7, .i .u64 w8, .i .u64 w9, .i .u64 w10, .i .u64 w11, .i .u64 w12], [], []⟩) := by kernel_rfl
theorem thing_own_ok (n : Nat) : EK.OK (thing_own_e n) 89 (L tab) := EK.shp (fun _ _ _ => rfl) fun ρ K y c e => EK.run (thing_own_Sok n) (by kernel_rfl) (MF.LKOK.of (LK.of (l := []) (by kernel_rfl) ((fun _ h => nomatch h)))) (thing_own_k (thing_own_g n) n _ _ _ _ _ _ _ _ _ _ _ _ _ K) (by kernel_rfl) e

/-! reeve/thing.in -/
abbrev thing_in_T : Type 1 := (ρ : Type) → Int → Int → Int → (Bool → Option ρ) → Option ρ
def thing_in_E (G : thing_in_T) : EK := fun ρ args K => decL [.i .i64 none, .i .i64 none, .i .i64 none] args fun c => G ρ c.1 c.2.1 c.2.2.1 (fun w0 => K ⟨.b w0, [], []⟩)
structure thing_in_G where
  mk ::
noncomputable def thing_in_s (_G : thing_in_G) {ρ : Type} (_n : Nat) (a0 : Int) (a1 : Int) (a2 : Int) (k0 : (Bool → Option ρ)) : Option ρ :=
  bif decide ((a0 : Int) ≥ a1) then
    bif decide ((a0 : Int) ≤ a2) then
      k0 true
    else k0 false
  else k0 false
noncomputable def thing_in_g (_n : Nat) : thing_in_G := ⟨⟩
noncomputable def thing_in (n : Nat) : thing_in_T := fun _ρ a0 a1 a2 k0 => thing_in_s (thing_in_g n) n a0 a1 a2 k0
noncomputable def thing_in_e (n : Nat) : EK := thing_in_E (thing_in n)
def thing_in_S (_G : thing_in_G) : CK := tabS []
theorem thing_in_Sok (n : Nat) : CK.OK (thing_in_S (thing_in_g n)) (L tab) := tabS_ok _ ((fun _ h => nomatch h))
def thing_in_hs : HintC := hintL []
noncomputable def thing_in_lp (_G : thing_in_G) (_n : Nat) : LK := tabL []
theorem thing_in_k (G : thing_in_G) {ρ : Type} (n : Nat) (a0 : Int) (a1 : Int) (a2 : Int) (K : Res → Option ρ) : runC (thing_in_S G) thing_in_hs (thing_in_lp G n) m90 [.i .i64 a0, .i .i64 a1, .i .i64 a2] K = thing_in_s G n a0 a1 a2 (fun w0 => K ⟨.b w0, [], []⟩) := by kernel_rfl
theorem thing_in_ok (n : Nat) : EK.OK (thing_in_e n) 90 (L tab) := EK.shp (fun _ _ _ => rfl) fun ρ K y c e => EK.run (thing_in_Sok n) (by kernel_rfl) (MF.LKOK.of (LK.of (l := []) (by kernel_rfl) ((fun _ h => nomatch h)))) (thing_in_k (thing_in_g n) n _ _ _ K) (by kernel_rfl) e

/-! reeve/thing.Good -/
abbrev thing_Good_T : Type 1 := (ρ : Type) → Int → Int → Int → Int → Int → Int → Int → Bool → Int → Int → Int → Int → Int → (Bool → Option ρ) → Option ρ
def thing_Good_E (G : thing_Good_T) : EK := fun ρ args K => decL [.agg [.i .i64 none, .i .i64 none, .i .i64 none, .i .i64 none, .i .i64 none, .i .i64 none, .i .i64 none, .b none, .i .u64 none, .i .u64 none, .i .u64 none, .i .u64 none, .i .u64 none]] args fun c => G ρ c.1.1 c.1.2.1 c.1.2.2.1 c.1.2.2.2.1 c.1.2.2.2.2.1 c.1.2.2.2.2.2.1 c.1.2.2.2.2.2.2.1 c.1.2.2.2.2.2.2.2.1 c.1.2.2.2.2.2.2.2.2.1 c.1.2.2.2.2.2.2.2.2.2.1 c.1.2.2.2.2.2.2.2.2.2.2.1 c.1.2.2.2.2.2.2.2.2.2.2.2.1 c.1.2.2.2.2.2.2.2.2.2.2.2.2.1 (fun w0 => K ⟨.b w0, [], []⟩)
structure thing_Good_G where
  mk ::
  thing_own : thing_own_T
  thing_in : thing_in_T
noncomputable def thing_Good_s (G : thing_Good_G) {ρ : Type} (_n : Nat) (a0 : Int) (a1 : Int) (a2 : Int) (a3 : Int) (a4 : Int) (a5 : Int) (a6 : Int) (a7 : Bool) (a8 : Int) (a9 : Int) (a10 : Int) (a11 : Int) (a12 : Int) (k0 : (Bool → Option ρ)) : Option ρ :=
  G.thing_own ρ a0 a1 a2 a3 a4 a5 a6 a7 a8 a9 a10 a11 a12 (fun w0_0 w0_1 w0_2 w0_3 w0_4 w0_5 w0_6 w0_7 w0_8 w0_9 w0_10 w0_11 w0_12 =>
    bif (!(((w0_0 : Int) == a0) && (((w0_1 : Int) == a1) && (((w0_2 : Int) == a2) && (((w0_3 : Int) == a3) && (((w0_4 : Int) == a4) && (((w0_5 : Int) == a5) && (((w0_6 : Int) == a6) && (((w0_7 : Bool) == a7) && (((w0_8 : Int) == a8) && (((w0_9 : Int) == a9) && (((w0_10 : Int) == a10) && (((w0_11 : Int) == a11) && (((w0_12 : Int) == a12) && true)))))))))))))) then
      k0 false
    else bif ((a0 : Int) == 1) then
      G.thing_in ρ a3 1 4096 (fun w1_0 =>
        bif w1_0 then
          G.thing_in ρ a4 0 a3 (fun w2_0 =>
            bif w2_0 then
              k0 true
            else k0 false)
        else k0 false)
    else bif ((a0 : Int) == 2) then
      G.thing_in ρ a1 1 4 (fun w3_0 =>
        bif w3_0 then
          chk (decide (0 ≤ (a1 : Int))) <|
          G.thing_in ρ a2 0 (IntKind.wrap .i64 (96 - (IntKind.wrap .i64 ((1 : Int) * 2 ^ (min a1.toNat (IntKind.bits .i64)))))) (fun w4_0 =>
            bif w4_0 then
              k0 true
            else k0 false)
        else k0 false)
    else bif ((a0 : Int) == 3) then
      G.thing_in ρ a6 0 65535 (fun w5_0 =>
        bif w5_0 then
          G.thing_in ρ a5 0 96 (fun w6_0 =>
            bif w6_0 then
              k0 true
            else k0 false)
        else k0 false)
    else k0 true)
noncomputable def thing_Good_g (n : Nat) : thing_Good_G := ⟨thing_own n, thing_in n⟩
noncomputable def thing_Good (n : Nat) : thing_Good_T := fun _ρ a0 a1 a2 a3 a4 a5 a6 a7 a8 a9 a10 a11 a12 k0 => thing_Good_s (thing_Good_g n) n a0 a1 a2 a3 a4 a5 a6 a7 a8 a9 a10 a11 a12 k0
noncomputable def thing_Good_e (n : Nat) : EK := thing_Good_E (thing_Good n)
def thing_Good_S (G : thing_Good_G) : CK := tabS [(89, thing_own_E G.thing_own), (90, thing_in_E G.thing_in)]
theorem thing_Good_Sok (n : Nat) : CK.OK (thing_Good_S (thing_Good_g n)) (L tab) := tabS_ok _ (List.forall_mem_cons.2 ⟨(thing_own_ok n), List.forall_mem_cons.2 ⟨(thing_in_ok n), (fun _ h => nomatch h)⟩⟩)
def thing_Good_hs : HintC := hintL []
noncomputable def thing_Good_lp (_G : thing_Good_G) (_n : Nat) : LK := tabL []
theorem thing_Good_k (G : thing_Good_G) {ρ : Type} (n : Nat) (a0 : Int) (a1 : Int) (a2 : Int) (a3 : Int) (a4 : Int) (a5 : Int) (a6 : Int) (a7 : Bool) (a8 : Int) (a9 : Int) (a10 : Int) (a11 : Int) (a12 : Int) (K : Res → Option ρ) : runC (thing_Good_S G) thing_Good_hs (thing_Good_lp G n) m61 [.agg [.i .i64 a0, .i .i64 a1, .i .i64 a2, .i .i64 a3, .i .i64 a4, .i .i64 a5, .i .i64 a6, .b a7, .i .u64 a8, .i .u64 a9, .i .u64 a10, .i .u64 a11, .i .u64 a12]] K = thing_Good_s G n a0 a1 a2 a3 a4 a5 a6 a7 a8 a9 a10 a11 a12 (fun w0 => K ⟨.b w0, [], []⟩) := by kernel_rfl
theorem thing_Good_ok (n : Nat) : EK.OK (thing_Good_e n) 61 (L tab) := EK.shp (fun _ _ _ => rfl) fun ρ K y c e => EK.run (thing_Good_Sok n) (by kernel_rfl) (MF.LKOK.of (LK.of (l := []) (by kernel_rfl) ((fun _ h => nomatch h)))) (thing_Good_k (thing_Good_g n) n _ _ _ _ _ _ _ _ _ _ _ _ _ K) (by kernel_rfl) e

/-! reeve/thing.New -/
abbrev thing_New_T : Type 1 := (ρ : Type) → Int → Int → Int → (Int → Int → Int → Int → Bool → Option ρ) → Option ρ
def thing_New_E (G : thing_New_T) : EK := fun ρ args K => decL [.i .i64 none, .i .i64 none, .i .i64 none] args fun c => G ρ c.1 c.2.1 c.2.2.1 (fun w0 w1 w2 w3 w4 => K ⟨.tup [.agg [.i .i64 w0, .i .i64 w1, .i .i64 w2, .i .i64 w3, .i .i64 0, .i .i64 0, .i .i64 0, .b false, .i .u64 0, .i .u64 0, .i .u64 0, .i .u64 0, .i .u64 0], .b w4], [], []⟩)
structure thing_New_G where
  mk ::
  thing_Good : thing_Good_T
noncomputable def thing_New_s (G : thing_New_G) {ρ : Type} (_n : Nat) (a0 : Int) (a1 : Int) (a2 : Int) (k0 : (Int → Int → Int → Int → Bool → Option ρ)) : Option ρ :=
  bif ((a0 : Int) == 1) then
    G.thing_Good ρ a0 0 0 a1 0 0 0 false 0 0 0 0 0 (fun w0_0 =>
      bif w0_0 then
        k0 a0 0 0 a1 true
      else k0 0 0 0 0 false)
  else bif ((a0 : Int) == 2) then
    G.thing_Good ρ a0 a1 a2 0 0 0 0 false 0 0 0 0 0 (fun w1_0 =>
      bif w1_0 then
        k0 a0 a1 a2 0 true
      else k0 0 0 0 0 false)
  else bif ((a0 : Int) == 3) then
    G.thing_Good ρ a0 0 0 0 0 0 0 false 0 0 0 0 0 (fun w2_0 =>
      bif w2_0 then
        k0 a0 0 0 0 true
      else k0 0 0 0 0 false)
  else bif ((a0 : Int) == 4) then
    G.thing_Good ρ a0 0 0 0 0 0 0 false 0 0 0 0 0 (fun w3_0 =>
      bif w3_0 then
        k0 a0 0 0 0 true
      else k0 0 0 0 0 false)
  else bif ((a0 : Int) == 5) then
    G.thing_Good ρ a0 0 0 0 0 0 0 false 0 0 0 0 0 (fun w4_0 =>
      bif w4_0 then
        k0 a0 0 0 0 true
      else k0 0 0 0 0 false)
  else k0 0 0 0 0 false
noncomputable def thing_New_g (n : Nat) : thing_New_G := ⟨thing_Good n⟩
noncomputable def thing_New (n : Nat) : thing_New_T := fun _ρ a0 a1 a2 k0 => thing_New_s (thing_New_g n) n a0 a1 a2 k0
noncomputable def thing_New_e (n : Nat) : EK := thing_New_E (thing_New n)
def thing_New_S (G : thing_New_G) : CK := tabS [(61, thing_Good_E G.thing_Good)]
theorem thing_New_Sok (n : Nat) : CK.OK (thing_New_S (thing_New_g n)) (L tab) := tabS_ok _ (List.forall_mem_cons.2 ⟨(thing_Good_ok n), (fun _ h => nomatch h)⟩)
def thing_New_hs : HintC := hintL []
noncomputable def thing_New_lp (_G : thing_New_G) (_n : Nat) : LK := tabL []
theorem thing_New_k (G : thing_New_G) {ρ : Type} (n : Nat) (a0 : Int) (a1 : Int) (a2 : Int) (K : Res → Option ρ) : runC (thing_New_S G) thing_New_hs (thing_New_lp G n) m72 [.i .i64 a0, .i .i64 a1, .i .i64 a2] K = thing_New_s G n a0 a1 a2 (fun w0 w1 w2 w3 w4 => K ⟨.tup [.agg [.i .i64 w0, .i .i64 w1, .i .i64 w2, .i .i64 w3, .i .i64 0, .i .i64 0, .i .i64 0, .b false, .i .u64 0, .i .u64 0, .i .u64 0, .i .u64 0, .i .u64 0], .b w4], [], []⟩) := by kernel_rfl
theorem thing_New_ok (n : Nat) : EK.OK (thing_New_e n) 72 (L tab) := EK.shp (fun _ _ _ => rfl) fun ρ K y c e => EK.run (thing_New_Sok n) (by kernel_rfl) (MF.LKOK.of (LK.of (l := []) (by kernel_rfl) ((fun _ h => nomatch h)))) (thing_New_k (thing_New_g n) n _ _ _ K) (by kernel_rfl) e

/-! reeve/geo.in -/
abbrev geo_in_T : Type 1 := (ρ : Type) → Int → Int → Int → (Bool → Option ρ) → Option ρ
def geo_in_E (G : geo_in_T) : EK := fun ρ args K => decL [.i .i64 none, .i .i64 none, .i .i64 none] args fun c => G ρ c.1 c.2.1 c.2.2.1 (fun w0 => K ⟨.b w0, [], []⟩)
structure geo_in_G where
  mk ::
noncomputable def geo_in_s (_G : geo_in_G) {ρ : Type} (_n : Nat) (a0 : Int) (a1 : Int) (a2 : Int) (k0 : (Bool → Option ρ)) : Option ρ :=
  bif decide ((a0 : Int) ≥ a1) then
    bif decide ((a0 : Int) ≤ a2) then
      k0 true
    else k0 false
  else k0 false
noncomputable def geo_in_g (_n : Nat) : geo_in_G := ⟨⟩
noncomputable def geo_in (n : Nat) : geo_in_T := fun _ρ a0 a1 a2 k0 => geo_in_s (geo_in_g n) n a0 a1 a2 k0
noncomputable def geo_in_e (n : Nat) : EK := geo_in_E (geo_in n)
def geo_in_S (_G : geo_in_G) : CK := tabS []
theorem geo_in_Sok (n : Nat) : CK.OK (geo_in_S (geo_in_g n)) (L tab) := tabS_ok _ ((fun _ h => nomatch h))
def geo_in_hs : HintC := hintL []
noncomputable def geo_in_lp (_G : geo_in_G) (_n : Nat) : LK := tabL []
theorem geo_in_k (G : geo_in_G) {ρ : Type} (n : Nat) (a0 : Int) (a1 : Int) (a2 : Int) (K : Res → Option ρ) : runC (geo_in_S G) geo_in_hs (geo_in_lp G n) m59 [.i .i64 a0, .i .i64 a1, .i .i64 a2] K = geo_in_s G n a0 a1 a2 (fun w0 => K ⟨.b w0, [], []⟩) := by kernel_rfl
theorem geo_in_ok (n : Nat) : EK.OK (geo_in_e n) 59 (L tab) := EK.shp (fun _ _ _ => rfl) fun ρ K y c e => EK.run (geo_in_Sok n) (by kernel_rfl) (MF.LKOK.of (LK.of (l := []) (by kernel_rfl) ((fun _ h => nomatch h)))) (geo_in_k (geo_in_g n) n _ _ _ K) (by kernel_rfl) e

/-! reeve/geo.Good -/
abbrev geo_Good_T : Type 1 := (ρ : Type) → Int → Int → Int → (Bool → Option ρ) → Option ρ
def geo_Good_E (G : geo_Good_T) : EK := fun ρ args K => decL [.agg [.i .i64 none, .i .i64 none, .i .i64 none]] args fun c => G ρ c.1.1 c.1.2.1 c.1.2.2.1 (fun w0 => K ⟨.b w0, [], []⟩)
structure geo_Good_G where
  mk ::
  geo_in : geo_in_T
noncomputable def geo_Good_s (G : geo_Good_G) {ρ : Type} (_n : Nat) (a0 : Int) (a1 : Int) (a2 : Int) (k0 : (Bool → Option ρ)) : Option ρ :=
  G.geo_in ρ a0 1 4 (fun w0_0 =>
    bif w0_0 then
      G.geo_in ρ a1 (IntKind.wrap .i64 (8 * a0)) 96 (fun w1_0 =>
        bif w1_0 then
          bif ((((a1 : Int).tmod 8) : Int) == 0) then
            G.geo_in ρ a2 (IntKind.wrap .i64 (a0 + 2)) 48 (fun w2_0 =>
              bif w2_0 then
                k0 true
              else k0 false)
          else k0 false
        else k0 false)
    else k0 false)
noncomputable def geo_Good_g (n : Nat) : geo_Good_G := ⟨geo_in n⟩
noncomputable def geo_Good (n : Nat) : geo_Good_T := fun _ρ a0 a1 a2 k0 => geo_Good_s (geo_Good_g n) n a0 a1 a2 k0
noncomputable def geo_Good_e (n : Nat) : EK := geo_Good_E (geo_Good n)
def geo_Good_S (G : geo_Good_G) : CK := tabS [(59, geo_in_E G.geo_in)]
theorem geo_Good_Sok (n : Nat) : CK.OK (geo_Good_S (geo_Good_g n)) (L tab) := tabS_ok _ (List.forall_mem_cons.2 ⟨(geo_in_ok n), (fun _ h => nomatch h)⟩)
def geo_Good_hs : HintC := hintL []
noncomputable def geo_Good_lp (_G : geo_Good_G) (_n : Nat) : LK := tabL []
theorem geo_Good_k (G : geo_Good_G) {ρ : Type} (n : Nat) (a0 : Int) (a1 : Int) (a2 : Int) (K : Res → Option ρ) : runC (geo_Good_S G) geo_Good_hs (geo_Good_lp G n) m36 [.agg [.i .i64 a0, .i .i64 a1, .i .i64 a2]] K = geo_Good_s G n a0 a1 a2 (fun w0 => K ⟨.b w0, [], []⟩) := by kernel_rfl
theorem geo_Good_ok (n : Nat) : EK.OK (geo_Good_e n) 36 (L tab) := EK.shp (fun _ _ _ => rfl) fun ρ K y c e => EK.run (geo_Good_Sok n) (by kernel_rfl) (MF.LKOK.of (LK.of (l := []) (by kernel_rfl) ((fun _ h => nomatch h)))) (geo_Good_k (geo_Good_g n) n _ _ _ K) (by kernel_rfl) e

/-! reeve/geo.Root -/
abbrev geo_Root_T : Type 1 := (ρ : Type) → Int → Int → Int → Int → (Int → Option ρ) → Option ρ
def geo_Root_E (G : geo_Root_T) : EK := fun ρ args K => decL [.agg [.i .i64 none, .i .i64 none, .i .i64 none], .i .i64 none] args fun c => G ρ c.1.1 c.1.2.1 c.1.2.2.1 c.2.1 (fun w0 => K ⟨.i .i64 w0, [], []⟩)
structure geo_Root_G where
  mk ::
  geo_Good : geo_Good_T
  geo_in : geo_in_T
noncomputable def geo_Root_s (G : geo_Root_G) {ρ : Type} (_n : Nat) (a0 : Int) (a1 : Int) (a2 : Int) (a3 : Int) (k0 : (Int → Option ρ)) : Option ρ :=
  G.geo_Good ρ a0 a1 a2 (fun w0_0 =>
    bif w0_0 then
      G.geo_in ρ a3 0 (IntKind.wrap .i64 (a0 - 1)) (fun w1_0 =>
        bif w1_0 then
          k0 (IntKind.wrap .i64 (8 * a3))
        else k0 0)
    else k0 0)
noncomputable def geo_Root_g (n : Nat) : geo_Root_G := ⟨geo_Good n, geo_in n⟩
noncomputable def geo_Root (n : Nat) : geo_Root_T := fun _ρ a0 a1 a2 a3 k0 => geo_Root_s (geo_Root_g n) n a0 a1 a2 a3 k0
noncomputable def geo_Root_e (n : Nat) : EK := geo_Root_E (geo_Root n)
def geo_Root_S (G : geo_Root_G) : CK := tabS [(36, geo_Good_E G.geo_Good), (59, geo_in_E G.geo_in)]
theorem geo_Root_Sok (n : Nat) : CK.OK (geo_Root_S (geo_Root_g n)) (L tab) := tabS_ok _ (List.forall_mem_cons.2 ⟨(geo_Good_ok n), List.forall_mem_cons.2 ⟨(geo_in_ok n), (fun _ h => nomatch h)⟩⟩)
def geo_Root_hs : HintC := hintL []
noncomputable def geo_Root_lp (_G : geo_Root_G) (_n : Nat) : LK := tabL []
theorem geo_Root_k (G : geo_Root_G) {ρ : Type} (n : Nat) (a0 : Int) (a1 : Int) (a2 : Int) (a3 : Int) (K : Res → Option ρ) : runC (geo_Root_S G) geo_Root_hs (geo_Root_lp G n) m62 [.agg [.i .i64 a0, .i .i64 a1, .i .i64 a2], .i .i64 a3] K = geo_Root_s G n a0 a1 a2 a3 (fun w0 => K ⟨.i .i64 w0, [], []⟩) := by kernel_rfl
theorem geo_Root_ok (n : Nat) : EK.OK (geo_Root_e n) 62 (L tab) := EK.shp (fun _ _ _ => rfl) fun ρ K y c e => EK.run (geo_Root_Sok n) (by kernel_rfl) (MF.LKOK.of (LK.of (l := []) (by kernel_rfl) ((fun _ h => nomatch h)))) (geo_Root_k (geo_Root_g n) n _ _ _ _ K) (by kernel_rfl) e

/-! reeve/state.New -/
abbrev state_New_T : Type 1 := (ρ : Type) → Int → Int → Int → Int → (Int → Int → Int → Bool → Bool → Rows → Bool → Bool → Rows → Int → Option ρ) → Option ρ
def state_New_E (G : state_New_T) : EK := fun ρ args K => decL [.agg [.i .i64 none, .i .i64 none, .i .i64 none], .i .i64 none] args fun c => G ρ c.1.1 c.1.2.1 c.1.2.2.1 c.2.1 (fun w0 w1 w2 w3 w4 w5 w6 w7 w8 w9 => K ⟨.tup [.agg [.i .i64 w0, .i .i64 w1, .i .i64 w2, .lst w3 w4 5 w5, .lst w6 w7 13 w8], .i .i64 w9], [], []⟩)
structure state_New_G where
  mk ::
  thing_New : thing_New_T
  geo_Good : geo_Good_T
  geo_Root : geo_Root_T
abbrev state_New_l6_V : Type := Int × Rows
noncomputable def state_New_l6_s (_G : state_New_G) {ρ : Type} (_n : Nat) (p0 : Int) (_p1 : Int) (_p2 : Int) (_p3 : Int) (_p4 : Int) (_p5 : Int) (_p6 : Int) (_p7 : Int) (_p9 : Rows) (_p10 : Int) (_p11 : Int) (_p12 : Int) (p13 : Nat) (p14 : Nat) (_p15 : Nat) (_p16 : Nat) (k0 : (Rows → Option ρ)) (rec' : state_New_l6_V → Option ρ) : state_New_l6_V → Option ρ
  | v =>
  bif decide ((v.1 : Int) < p0) then
    chk (decide ((0 : Int) ≤ v.1)) <|
    chk (decide ((v.1 : Int) < ((p14 : Nat) : Int))) <|
    chk (((List.length (v.2 : Rows)) : Nat) == p13) <|
    rowN [.a, .a, .a, .a, .a] v.2 (0 + v.1.toNat) fun c0 =>
    rec' ((IntKind.wrap .i64 (v.1 + 1)), (List.set (v.2 : Rows) (0 + v.1.toNat) [c0.1, c0.2.1, c0.2.2.1, c0.2.2.2.1, .i .i64 (-1)]))
  else k0 v.2
noncomputable def state_New_l6 (G : state_New_G) {ρ : Type} (n : Nat) (p0 : Int) (p1 : Int) (p2 : Int) (p3 : Int) (p4 : Int) (p5 : Int) (p6 : Int) (p7 : Int) (p9 : Rows) (p10 : Int) (p11 : Int) (p12 : Int) (p13 : Nat) (p14 : Nat) (p15 : Nat) (p16 : Nat) (k0 : (Rows → Option ρ)) (v : state_New_l6_V) : Option ρ := fuelN (state_New_l6_s G n p0 p1 p2 p3 p4 p5 p6 p7 p9 p10 p11 p12 p13 p14 p15 p16 k0) n v
def state_New_l6_enc (p0 : Int) (p1 : Int) (p2 : Int) (p3 : Int) (p4 : Int) (p5 : Int) (p6 : Int) (p7 : Int) (p9 : Rows) (p10 : Int) (p11 : Int) (p12 : Int) (p13 : Nat) (p14 : Nat) (p15 : Nat) (p16 : Nat) : state_New_l6_V → St
  | v => ⟨[(2, .ptr 0 1 3 0 0), (4, .ptr 1 1 5 0 0), (6, .ptr 2 1 13 0 0), (8, .ptr 5 1 5 0 0), (36, .i .i64 p0), (37, .i .i64 v.1)], [.row 3 true false [[.i .i64 p1, .i .i64 p2, .i .i64 p3]], .row 5 true false [[.i .i64 0, .i .i64 0, .i .i64 0, .lst true true 0 [], .lst true true 0 []]], .row 13 true false [[.i .i64 p4, .i .i64 p5, .i .i64 p6, .i .i64 p7, .i .i64 0, .i .i64 0, .i .i64 0, .b false, .i .u64 0, .i .u64 0, .i .u64 0, .i .u64 0, .i .u64 0]], .row 5 true false v.2, .row 13 true false p9, .row 5 false false [[.i .i64 p10, .i .i64 p11, .i .i64 p12, .sl 3 p13 5 0 p14, .sl 4 p15 13 0 p16]]]⟩
abbrev state_New_l15_V : Type := Int × Rows × Rows
noncomputable def state_New_l15_s (G : state_New_G) {ρ : Type} (_n : Nat) (p0 : Int) (p1 : Int) (p2 : Int) (p3 : Int) (p4 : Int) (_p5 : Int) (_p6 : Int) (_p7 : Int) (_p8 : Int) (_p11 : Int) (_p12 : Int) (_p13 : Int) (p14 : Nat) (p15 : Nat) (p16 : Nat) (p17 : Nat) (k0 : (Rows → Rows → Option ρ)) (rec' : state_New_l15_V → Option ρ) : state_New_l15_V → Option ρ
  | v =>
  bif decide ((v.1 : Int) < p1) then
    G.geo_Root ρ p2 p3 p4 v.1 (fun w0_0 =>
      G.thing_New ρ 2 3 w0_0 (fun w1_0 w1_1 w1_2 w1_3 w1_4 =>
        bif w1_4 then
          chk (decide ((0 : Int) ≤ (IntKind.wrap .i64 (2 + v.1)))) <|
          chk (decide (((IntKind.wrap .i64 (2 + v.1)) : Int) < ((p17 : Nat) : Int))) <|
          chk (((List.length (v.2.2 : Rows)) : Nat) == p16) <|
          rowN [.a, .a, .a, .a, .a, .a, .a, .a, .a, .a, .a, .a, .a] v.2.2 (0 + (IntKind.wrap .i64 (2 + v.1)).toNat) fun _c2 =>
          chk (decide ((0 : Int) ≤ (IntKind.wrap .i64 (w0_0 + 1)))) <|
          chk (decide (((IntKind.wrap .i64 (w0_0 + 1)) : Int) < ((p15 : Nat) : Int))) <|
          chk (((List.length (v.2.1 : Rows)) : Nat) == p14) <|
          rowN [.a, .a, .a, .a, .a] v.2.1 (0 + (IntKind.wrap .i64 (w0_0 + 1)).toNat) fun _c3 =>
          rec' ((IntKind.wrap .i64 (v.1 + 1)), (List.set (v.2.1 : Rows) (0 + (IntKind.wrap .i64 (w0_0 + 1)).toNat) [.i .i64 3, .i .i64 1, .i .i64 7, .i .i64 0, .i .i64 (IntKind.wrap .i64 (p0 + 1))]), (List.set (v.2.2 : Rows) (0 + (IntKind.wrap .i64 (2 + v.1)).toNat) [.i .i64 w1_0, .i .i64 w1_1, .i .i64 w1_2, .i .i64 w1_3, .i .i64 0, .i .i64 0, .i .i64 0, .b false, .i .u64 0, .i .u64 0, .i .u64 0, .i .u64 0, .i .u64 0]))
        else chk (decide ((0 : Int) ≤ (IntKind.wrap .i64 (2 + v.1)))) <|
        chk (decide (((IntKind.wrap .i64 (2 + v.1)) : Int) < ((p17 : Nat) : Int))) <|
        chk (((List.length (v.2.2 : Rows)) : Nat) == p16) <|
        rowN [.a, .a, .a, .a, .a, .a, .a, .a, .a, .a, .a, .a, .a] v.2.2 (0 + (IntKind.wrap .i64 (2 + v.1)).toNat) fun _c4 =>
        chk (decide ((0 : Int) ≤ (IntKind.wrap .i64 (w0_0 + 1)))) <|
        chk (decide (((IntKind.wrap .i64 (w0_0 + 1)) : Int) < ((p15 : Nat) : Int))) <|
        chk (((List.length (v.2.1 : Rows)) : Nat) == p14) <|
        rowN [.a, .a, .a, .a, .a] v.2.1 (0 + (IntKind.wrap .i64 (w0_0 + 1)).toNat) fun _c5 =>
        rec' ((IntKind.wrap .i64 (v.1 + 1)), (List.set (v.2.1 : Rows) (0 + (IntKind.wrap .i64 (w0_0 + 1)).toNat) [.i .i64 3, .i .i64 1, .i .i64 7, .i .i64 0, .i .i64 (IntKind.wrap .i64 (p0 + 1))]), (List.set (v.2.2 : Rows) (0 + (IntKind.wrap .i64 (2 + v.1)).toNat) [.i .i64 w1_0, .i .i64 w1_1, .i .i64 w1_2, .i .i64 w1_3, .i .i64 0, .i .i64 0, .i .i64 0, .b false, .i .u64 0, .i .u64 0, .i .u64 0, .i .u64 0, .i .u64 0]))))
  else k0 v.2.1 v.2.2
noncomputable def state_New_l15 (G : state_New_G) {ρ : Type} (n : Nat) (p0 : Int) (p1 : Int) (p2 : Int) (p3 : Int) (p4 : Int) (p5 : Int) (p6 : Int) (p7 : Int) (p8 : Int) (p11 : Int) (p12 : Int) (p13 : Int) (p14 : Nat) (p15 : Nat) (p16 : Nat) (p17 : Nat) (k0 : (Rows → Rows → Option ρ)) (v : state_New_l15_V) : Option ρ := fuelN (state_New_l15_s G n p0 p1 p2 p3 p4 p5 p6 p7 p8 p11 p12 p13 p14 p15 p16 p17 k0) n v
def state_New_l15_enc (p0 : Int) (p1 : Int) (p2 : Int) (p3 : Int) (p4 : Int) (p5 : Int) (p6 : Int) (p7 : Int) (p8 : Int) (p11 : Int) (p12 : Int) (p13 : Int) (p14 : Nat) (p15 : Nat) (p16 : Nat) (p17 : Nat) : state_New_l15_V → St
  | v => ⟨[(2, .ptr 0 1 3 0 0), (4, .ptr 1 1 5 0 0), (8, .ptr 5 1 5 0 0), (10, .i .i64 p0), (66, .i .i64 p1), (67, .i .i64 v.1)], [.row 3 true false [[.i .i64 p2, .i .i64 p3, .i .i64 p4]], .row 5 true false [[.i .i64 0, .i .i64 0, .i .i64 0, .lst true true 0 [], .lst true true 0 []]], .row 13 true false [[.i .i64 p5, .i .i64 p6, .i .i64 p7, .i .i64 p8, .i .i64 0, .i .i64 0, .i .i64 0, .b false, .i .u64 0, .i .u64 0, .i .u64 0, .i .u64 0, .i .u64 0]], .row 5 true false v.2.1, .row 13 true false v.2.2, .row 5 false false [[.i .i64 p11, .i .i64 p12, .i .i64 p13, .sl 3 p14 5 0 p15, .sl 4 p16 13 0 p17]]]⟩
noncomputable def state_New_s (G : state_New_G) {ρ : Type} (n : Nat) (a0 : Int) (a1 : Int) (a2 : Int) (a3 : Int) (k0 : (Int → Int → Int → Bool → Bool → Rows → Bool → Bool → Rows → Int → Option ρ)) : Option ρ :=
  G.thing_New ρ 1 a3 0 (fun w0_0 w0_1 w0_2 w0_3 w0_4 =>
    bif w0_4 then
      G.geo_Good ρ a0 a1 a2 (fun w1_0 =>
        bif w1_0 then
          chk (decide ((0 : Int) ≤ a1)) <|
          chk (decide ((a1 : Int) ≤ a1)) <|
          chk (decide ((a1 : Int) ≤ most)) <|
          chk (decide ((0 : Int) ≤ a2)) <|
          chk (decide ((a2 : Int) ≤ a2)) <|
          chk (decide ((a2 : Int) ≤ most)) <|
          state_New_l6 G n ((a1.toNat : Nat) : Int) a0 a1 a2 w0_0 w0_1 w0_2 w0_3 (List.replicate a2.toNat ([.i .i64 0, .i .i64 0, .i .i64 0, .i .i64 0, .i .i64 0, .i .i64 0, .i .i64 0, .b false, .i .u64 0, .i .u64 0, .i .u64 0, .i .u64 0, .i .u64 0] : List AV)) a0 a1 a2 a1.toNat a1.toNat a2.toNat a2.toNat (fun w2_0 =>
            chk (decide ((0 : Int) < ((a2.toNat : Nat) : Int))) <|
            chk (((List.length ((List.replicate a2.toNat ([.i .i64 0, .i .i64 0, .i .i64 0, .i .i64 0, .i .i64 0, .i .i64 0, .i .i64 0, .b false, .i .u64 0, .i .u64 0, .i .u64 0, .i .u64 0, .i .u64 0] : List AV)) : Rows)) : Nat) == a2.toNat) <|
            rowN [.a, .a, .a, .a, .a, .a, .a, .a, .a, .a, .a, .a, .a] (List.replicate a2.toNat ([.i .i64 0, .i .i64 0, .i .i64 0, .i .i64 0, .i .i64 0, .i .i64 0, .i .i64 0, .b false, .i .u64 0, .i .u64 0, .i .u64 0, .i .u64 0, .i .u64 0] : List AV)) 0 fun _c3 =>
            G.thing_New ρ 3 0 0 (fun w4_0 w4_1 w4_2 w4_3 w4_4 =>
              bif w4_4 then
                chk (decide ((1 : Int) < ((a2.toNat : Nat) : Int))) <|
                chk (((List.length ((List.set ((List.replicate a2.toNat ([.i .i64 0, .i .i64 0, .i .i64 0, .i .i64 0, .i .i64 0, .i .i64 0, .i .i64 0, .b false, .i .u64 0, .i .u64 0, .i .u64 0, .i .u64 0, .i .u64 0] : List AV)) : Rows) 0 [.i .i64 w0_0, .i .i64 w0_1, .i .i64 w0_2, .i .i64 w0_3, .i .i64 0, .i .i64 0, .i .i64 0, .b false, .i .u64 0, .i .u64 0, .i .u64 0, .i .u64 0, .i .u64 0]) : Rows)) : Nat) == a2.toNat) <|
                rowN [.a, .a, .a, .a, .a, .a, .a, .a, .a, .a, .a, .a, .a] (List.set ((List.replicate a2.toNat ([.i .i64 0, .i .i64 0, .i .i64 0, .i .i64 0, .i .i64 0, .i .i64 0, .i .i64 0, .b false, .i .u64 0, .i .u64 0, .i .u64 0, .i .u64 0, .i .u64 0] : List AV)) : Rows) 0 [.i .i64 w0_0, .i .i64 w0_1, .i .i64 w0_2, .i .i64 w0_3, .i .i64 0, .i .i64 0, .i .i64 0, .b false, .i .u64 0, .i .u64 0, .i .u64 0, .i .u64 0, .i .u64 0]) 1 fun _c5 =>
                G.geo_Root ρ a0 a1 a2 0 (fun w6_0 =>
                  chk (decide ((0 : Int) ≤ w6_0)) <|
                  chk (decide ((w6_0 : Int) < ((a1.toNat : Nat) : Int))) <|
                  chk (((List.length (w2_0 : Rows)) : Nat) == a1.toNat) <|
                  rowN [.a, .a, .a, .a, .a] w2_0 (0 + w6_0.toNat) fun c7 =>
                  state_New_l15 G n w6_0 a0 a0 a1 a2 w0_0 w0_1 w0_2 w0_3 a0 a1 a2 a1.toNat a1.toNat a2.toNat a2.toNat (fun w8_0 w8_1 =>
                    chk (decide ((0 : Int) ≤ (IntKind.wrap .i64 (w6_0 + 1)))) <|
                    chk (decide (((IntKind.wrap .i64 (w6_0 + 1)) : Int) < ((a1.toNat : Nat) : Int))) <|
                    chk (((List.length (w8_0 : Rows)) : Nat) == a1.toNat) <|
                    rowN [.a, .a, .a, .a, .a] w8_0 (0 + (IntKind.wrap .i64 (w6_0 + 1)).toNat) fun c9 =>
                    chk (((List.length ((List.set (w8_0 : Rows) (0 + (IntKind.wrap .i64 (w6_0 + 1)).toNat) [c9.1, c9.2.1, c9.2.2.1, c9.2.2.2.1, .i .i64 (-1)]) : Rows)) : Nat) == a1.toNat) <|
                    chk (((List.length (w8_1 : Rows)) : Nat) == a2.toNat) <|
                    k0 a0 a1 a2 false false (List.take a1.toNat (List.drop 0 ((List.set (w8_0 : Rows) (0 + (IntKind.wrap .i64 (w6_0 + 1)).toNat) [c9.1, c9.2.1, c9.2.2.1, c9.2.2.2.1, .i .i64 (-1)]) : Rows))) false false (List.take a2.toNat (List.drop 0 (w8_1 : Rows))) 0) (0, (List.set (w2_0 : Rows) (0 + w6_0.toNat) [.i .i64 1, .i .i64 0, .i .i64 7, .i .i64 0, c7.2.2.2.2.1]), (List.set ((List.set ((List.replicate a2.toNat ([.i .i64 0, .i .i64 0, .i .i64 0, .i .i64 0, .i .i64 0, .i .i64 0, .i .i64 0, .b false, .i .u64 0, .i .u64 0, .i .u64 0, .i .u64 0, .i .u64 0] : List AV)) : Rows) 0 [.i .i64 w0_0, .i .i64 w0_1, .i .i64 w0_2, .i .i64 w0_3, .i .i64 0, .i .i64 0, .i .i64 0, .b false, .i .u64 0, .i .u64 0, .i .u64 0, .i .u64 0, .i .u64 0]) : Rows) 1 [.i .i64 w4_0, .i .i64 w4_1, .i .i64 w4_2, .i .i64 w4_3, .i .i64 0, .i .i64 0, .i .i64 0, .b false, .i .u64 0, .i .u64 0, .i .u64 0, .i .u64 0, .i .u64 0])))
              else chk (decide ((1 : Int) < ((a2.toNat : Nat) : Int))) <|
              chk (((List.length ((List.set ((List.replicate a2.toNat ([.i .i64 0, .i .i64 0, .i .i64 0, .i .i64 0, .i .i64 0, .i .i64 0, .i .i64 0, .b false, .i .u64 0, .i .u64 0, .i .u64 0, .i .u64 0, .i .u64 0] : List AV)) : Rows) 0 [.i .i64 w0_0, .i .i64 w0_1, .i .i64 w0_2, .i .i64 w0_3, .i .i64 0, .i .i64 0, .i .i64 0, .b false, .i .u64 0, .i .u64 0, .i .u64 0, .i .u64 0, .i .u64 0]) : Rows)) : Nat) == a2.toNat) <|
              rowN [.a, .a, .a, .a, .a, .a, .a, .a, .a, .a, .a, .a, .a] (List.set ((List.replicate a2.toNat ([.i .i64 0, .i .i64 0, .i .i64 0, .i .i64 0, .i .i64 0, .i .i64 0, .i .i64 0, .b false, .i .u64 0, .i .u64 0, .i .u64 0, .i .u64 0, .i .u64 0] : List AV)) : Rows) 0 [.i .i64 w0_0, .i .i64 w0_1, .i .i64 w0_2, .i .i64 w0_3, .i .i64 0, .i .i64 0, .i .i64 0, .b false, .i .u64 0, .i .u64 0, .i .u64 0, .i .u64 0, .i .u64 0]) 1 fun _c10 =>
              G.geo_Root ρ a0 a1 a2 0 (fun w11_0 =>
                chk (decide ((0 : Int) ≤ w11_0)) <|
                chk (decide ((w11_0 : Int) < ((a1.toNat : Nat) : Int))) <|
                chk (((List.length (w2_0 : Rows)) : Nat) == a1.toNat) <|
                rowN [.a, .a, .a, .a, .a] w2_0 (0 + w11_0.toNat) fun c12 =>
                state_New_l15 G n w11_0 a0 a0 a1 a2 w0_0 w0_1 w0_2 w0_3 a0 a1 a2 a1.toNat a1.toNat a2.toNat a2.toNat (fun w13_0 w13_1 =>
                  chk (decide ((0 : Int) ≤ (IntKind.wrap .i64 (w11_0 + 1)))) <|
                  chk (decide (((IntKind.wrap .i64 (w11_0 + 1)) : Int) < ((a1.toNat : Nat) : Int))) <|
                  chk (((List.length (w13_0 : Rows)) : Nat) == a1.toNat) <|
                  rowN [.a, .a, .a, .a, .a] w13_0 (0 + (IntKind.wrap .i64 (w11_0 + 1)).toNat) fun c14 =>
                  chk (((List.length ((List.set (w13_0 : Rows) (0 + (IntKind.wrap .i64 (w11_0 + 1)).toNat) [c14.1, c14.2.1, c14.2.2.1, c14.2.2.2.1, .i .i64 (-1)]) : Rows)) : Nat) == a1.toNat) <|
                  chk (((List.length (w13_1 : Rows)) : Nat) == a2.toNat) <|
                  k0 a0 a1 a2 false false (List.take a1.toNat (List.drop 0 ((List.set (w13_0 : Rows) (0 + (IntKind.wrap .i64 (w11_0 + 1)).toNat) [c14.1, c14.2.1, c14.2.2.1, c14.2.2.2.1, .i .i64 (-1)]) : Rows))) false false (List.take a2.toNat (List.drop 0 (w13_1 : Rows))) 0) (0, (List.set (w2_0 : Rows) (0 + w11_0.toNat) [.i .i64 1, .i .i64 0, .i .i64 7, .i .i64 0, c12.2.2.2.2.1]), (List.set ((List.set ((List.replicate a2.toNat ([.i .i64 0, .i .i64 0, .i .i64 0, .i .i64 0, .i .i64 0, .i .i64 0, .i .i64 0, .b false, .i .u64 0, .i .u64 0, .i .u64 0, .i .u64 0, .i .u64 0] : List AV)) : Rows) 0 [.i .i64 w0_0, .i .i64 w0_1, .i .i64 w0_2, .i .i64 w0_3, .i .i64 0, .i .i64 0, .i .i64 0, .b false, .i .u64 0, .i .u64 0, .i .u64 0, .i .u64 0, .i .u64 0]) : Rows) 1 [.i .i64 w4_0, .i .i64 w4_1, .i .i64 w4_2, .i .i64 w4_3, .i .i64 0, .i .i64 0, .i .i64 0, .b false, .i .u64 0, .i .u64 0, .i .u64 0, .i .u64 0, .i .u64 0]))))) (0, (List.replicate a1.toNat ([.i .i64 0, .i .i64 0, .i .i64 0, .i .i64 0, .i .i64 0] : List AV)))
        else k0 0 0 0 true true [] true true [] 1)
    else G.geo_Good ρ a0 a1 a2 (fun w15_0 =>
      bif w15_0 then
        k0 0 0 0 true true [] true true [] 1
      else k0 0 0 0 true true [] true true [] 1))
noncomputable def state_New_g (n : Nat) : state_New_G := ⟨thing_New n, geo_Good n, geo_Root n⟩
noncomputable def state_New (n : Nat) : state_New_T := fun _ρ a0 a1 a2 a3 k0 => state_New_s (state_New_g n) n a0 a1 a2 a3 k0
noncomputable def state_New_e (n : Nat) : EK := state_New_E (state_New n)
def state_New_S (G : state_New_G) : CK := tabS [(72, thing_New_E G.thing_New), (36, geo_Good_E G.geo_Good), (62, geo_Root_E G.geo_Root)]
theorem state_New_Sok (n : Nat) : CK.OK (state_New_S (state_New_g n)) (L tab) := tabS_ok _ (List.forall_mem_cons.2 ⟨(thing_New_ok n), List.forall_mem_cons.2 ⟨(geo_Good_ok n), List.forall_mem_cons.2 ⟨(geo_Root_ok n), (fun _ h => nomatch h)⟩⟩⟩)
def state_New_hs : HintC := hintL []
def state_New_c6 : Nat × List Nat × List Nat × MC := loopAt 6 m44
noncomputable def state_New_l6_d (G : state_New_G) (n : Nat) : Go.Rv.LE := fun _ρ h K => decSt [(2, .ptr 0 3 0 (some 1) (some 0)), (4, .ptr 1 5 0 (some 1) (some 0)), (6, .ptr 2 13 0 (some 1) (some 0)), (8, .ptr 5 5 0 (some 1) (some 0)), (36, .i .i64 none), (37, .i .i64 none)] [.row 3 true false (some [[.i .i64 none, .i .i64 none, .i .i64 none]]), .row 5 true false (some [[.i .i64 (some 0), .i .i64 (some 0), .i .i64 (some 0), .lst (some true) (some true) 0 (some []), .lst (some true) (some true) 0 (some [])]]), .row 13 true false (some [[.i .i64 none, .i .i64 none, .i .i64 none, .i .i64 none, .i .i64 (some 0), .i .i64 (some 0), .i .i64 (some 0), .b (some false), .i .u64 (some 0), .i .u64 (some 0), .i .u64 (some 0), .i .u64 (some 0), .i .u64 (some 0)]]), .row 5 true false none, .row 13 true false none, .row 5 false false (some [[.i .i64 none, .i .i64 none, .i .i64 none, .sl 3 5 none (some 0) none, .sl 4 13 none (some 0) none]])] h fun a b => state_New_l6 G n a.2.2.2.2.1 b.1.1.1 b.1.1.2.1 b.1.1.2.2.1 b.2.2.1.1.1 b.2.2.1.1.2.1 b.2.2.1.1.2.2.1 b.2.2.1.1.2.2.2.1 b.2.2.2.2.1 b.2.2.2.2.2.1.1.1 b.2.2.2.2.2.1.1.2.1 b.2.2.2.2.2.1.1.2.2.1 b.2.2.2.2.2.1.1.2.2.2.1.1 b.2.2.2.2.2.1.1.2.2.2.1.2.2 b.2.2.2.2.2.1.1.2.2.2.2.1.1 b.2.2.2.2.2.1.1.2.2.2.2.1.2.2 (fun w0 => K (.exit 0) ⟨[(2, .ptr 0 1 3 0 0), (4, .ptr 1 1 5 0 0), (6, .ptr 2 1 13 0 0), (8, .ptr 5 1 5 0 0)], [.row 3 true false [[.i .i64 b.1.1.1, .i .i64 b.1.1.2.1, .i .i64 b.1.1.2.2.1]], .row 5 true false [[.i .i64 0, .i .i64 0, .i .i64 0, .lst true true 0 [], .lst true true 0 []]], .row 13 true false [[.i .i64 b.2.2.1.1.1, .i .i64 b.2.2.1.1.2.1, .i .i64 b.2.2.1.1.2.2.1, .i .i64 b.2.2.1.1.2.2.2.1, .i .i64 0, .i .i64 0, .i .i64 0, .b false, .i .u64 0, .i .u64 0, .i .u64 0, .i .u64 0, .i .u64 0]], .row 5 true false w0, .row 13 true false b.2.2.2.2.1, .row 5 false false [[.i .i64 b.2.2.2.2.2.1.1.1, .i .i64 b.2.2.2.2.2.1.1.2.1, .i .i64 b.2.2.2.2.2.1.1.2.2.1, .sl 3 b.2.2.2.2.2.1.1.2.2.2.1.1 5 0 b.2.2.2.2.2.1.1.2.2.2.1.2.2, .sl 4 b.2.2.2.2.2.1.1.2.2.2.2.1.1 13 0 b.2.2.2.2.2.1.1.2.2.2.2.1.2.2]]]⟩) (a.2.2.2.2.2.1, b.2.2.2.1)
noncomputable def state_New_d6 (G : state_New_G) (n : Nat) : Go.Rv.LE := state_New_l6_d G n
def state_New_c15 : Nat × List Nat × List Nat × MC := loopAt 15 m44
noncomputable def state_New_l15_d (G : state_New_G) (n : Nat) : Go.Rv.LE := fun _ρ h K => decSt [(2, .ptr 0 3 0 (some 1) (some 0)), (4, .ptr 1 5 0 (some 1) (some 0)), (8, .ptr 5 5 0 (some 1) (some 0)), (10, .i .i64 none), (66, .i .i64 none), (67, .i .i64 none)] [.row 3 true false (some [[.i .i64 none, .i .i64 none, .i .i64 none]]), .row 5 true false (some [[.i .i64 (some 0), .i .i64 (some 0), .i .i64 (some 0), .lst (some true) (some true) 0 (some []), .lst (some true) (some true) 0 (some [])]]), .row 13 true false (some [[.i .i64 none, .i .i64 none, .i .i64 none, .i .i64 none, .i .i64 (some 0), .i .i64 (some 0), .i .i64 (some 0), .b (some false), .i .u64 (some 0), .i .u64 (some 0), .i .u64 (some 0), .i .u64 (some 0), .i .u64 (some 0)]]), .row 5 true false none, .row 13 true false none, .row 5 false false (some [[.i .i64 none, .i .i64 none, .i .i64 none, .sl 3 5 none (some 0) none, .sl 4 13 none (some 0) none]])] h fun a b => state_New_l15 G n a.2.2.2.1 a.2.2.2.2.1 b.1.1.1 b.1.1.2.1 b.1.1.2.2.1 b.2.2.1.1.1 b.2.2.1.1.2.1 b.2.2.1.1.2.2.1 b.2.2.1.1.2.2.2.1 b.2.2.2.2.2.1.1.1 b.2.2.2.2.2.1.1.2.1 b.2.2.2.2.2.1.1.2.2.1 b.2.2.2.2.2.1.1.2.2.2.1.1 b.2.2.2.2.2.1.1.2.2.2.1.2.2 b.2.2.2.2.2.1.1.2.2.2.2.1.1 b.2.2.2.2.2.1.1.2.2.2.2.1.2.2 (fun w0 w1 => K (.exit 2) ⟨[(4, .ptr 1 1 5 0 0), (8, .ptr 5 1 5 0 0), (10, .i .i64 a.2.2.2.1)], [.row 3 true false [[.i .i64 b.1.1.1, .i .i64 b.1.1.2.1, .i .i64 b.1.1.2.2.1]], .row 5 true false [[.i .i64 0, .i .i64 0, .i .i64 0, .lst true true 0 [], .lst true true 0 []]], .row 13 true false [[.i .i64 b.2.2.1.1.1, .i .i64 b.2.2.1.1.2.1, .i .i64 b.2.2.1.1.2.2.1, .i .i64 b.2.2.1.1.2.2.2.1, .i .i64 0, .i .i64 0, .i .i64 0, .b false, .i .u64 0, .i .u64 0, .i .u64 0, .i .u64 0, .i .u64 0]], .row 5 true false w0, .row 13 true false w1, .row 5 false false [[.i .i64 b.2.2.2.2.2.1.1.1, .i .i64 b.2.2.2.2.2.1.1.2.1, .i .i64 b.2.2.2.2.2.1.1.2.2.1, .sl 3 b.2.2.2.2.2.1.1.2.2.2.1.1 5 0 b.2.2.2.2.2.1.1.2.2.2.1.2.2, .sl 4 b.2.2.2.2.2.1.1.2.2.2.2.1.1 13 0 b.2.2.2.2.2.1.1.2.2.2.2.1.2.2]]]⟩) (a.2.2.2.2.2.1, b.2.2.2.1, b.2.2.2.2.1)
noncomputable def state_New_d15 (G : state_New_G) (n : Nat) : Go.Rv.LE := state_New_l15_d G n
noncomputable def state_New_lp (G : state_New_G) (n : Nat) : LK := tabL [(6, state_New_d6 G n), (15, state_New_d15 G n)]
theorem state_New_l6_k (G : state_New_G) {ρ : Type} (n : Nat) (p0 : Int) (p1 : Int) (p2 : Int) (p3 : Int) (p4 : Int) (p5 : Int) (p6 : Int) (p7 : Int) (p9 : Rows) (p10 : Int) (p11 : Int) (p12 : Int) (p13 : Nat) (p14 : Nat) (p15 : Nat) (p16 : Nat) (K : Ex → St → Option ρ) (N : St → Option ρ) : ∀ v, roundC (state_New_S G) state_New_hs (state_New_lp G n) state_New_c6 6 N K (state_New_l6_enc p0 p1 p2 p3 p4 p5 p6 p7 p9 p10 p11 p12 p13 p14 p15 p16 v) = state_New_l6_s G n p0 p1 p2 p3 p4 p5 p6 p7 p9 p10 p11 p12 p13 p14 p15 p16 (fun w0 => K (.exit 0) ⟨[(2, .ptr 0 1 3 0 0), (4, .ptr 1 1 5 0 0), (6, .ptr 2 1 13 0 0), (8, .ptr 5 1 5 0 0)], [.row 3 true false [[.i .i64 p1, .i .i64 p2, .i .i64 p3]], .row 5 true false [[.i .i64 0, .i .i64 0, .i .i64 0, .lst true true 0 [], .lst true true 0 []]], .row 13 true false [[.i .i64 p4, .i .i64 p5, .i .i64 p6, .i .i64 p7, .i .i64 0, .i .i64 0, .i .i64 0, .b false, .i .u64 0, .i .u64 0, .i .u64 0, .i .u64 0, .i .u64 0]], .row 5 true false w0, .row 13 true false p9, .row 5 false false [[.i .i64 p10, .i .i64 p11, .i .i64 p12, .sl 3 p13 5 0 p14, .sl 4 p15 13 0 p16]]]⟩) (fun v => N (state_New_l6_enc p0 p1 p2 p3 p4 p5 p6 p7 p9 p10 p11 p12 p13 p14 p15 p16 v)) v
  | v => by kernel_rfl
theorem state_New_l6_dok (n : Nat) : LE.OK (state_New_l6_d (state_New_g n) n) (L tab) state_New_c6 := LE.shp (fun _ _ _ => rfl) fun ρ K y a b e => LE.rounds (state_New_Sok n) (LK.of (l := []) (by kernel_rfl) ((fun _ h => nomatch h))) (state_New_l6_k (state_New_g n) n _ _ _ _ _ _ _ _ _ _ _ _ _ _ _ _ K) (by kernel_rfl) (by kernel_rfl) e
theorem state_New_d6_ok (n : Nat) : LE.OK (state_New_d6 (state_New_g n) n) (L tab) state_New_c6 := state_New_l6_dok n
theorem state_New_l15_k (G : state_New_G) {ρ : Type} (n : Nat) (p0 : Int) (p1 : Int) (p2 : Int) (p3 : Int) (p4 : Int) (p5 : Int) (p6 : Int) (p7 : Int) (p8 : Int) (p11 : Int) (p12 : Int) (p13 : Int) (p14 : Nat) (p15 : Nat) (p16 : Nat) (p17 : Nat) (K : Ex → St → Option ρ) (N : St → Option ρ) : ∀ v, roundC (state_New_S G) state_New_hs (state_New_lp G n) state_New_c15 6 N K (state_New_l15_enc p0 p1 p2 p3 p4 p5 p6 p7 p8 p11 p12 p13 p14 p15 p16 p17 v) = state_New_l15_s G n p0 p1 p2 p3 p4 p5 p6 p7 p8 p11 p12 p13 p14 p15 p16 p17 (fun w0 w1 => K (.exit 2) ⟨[(4, .ptr 1 1 5 0 0), (8, .ptr 5 1 5 0 0), (10, .i .i64 p0)], [.row 3 true false [[.i .i64 p2, .i .i64 p3, .i .i64 p4]], .row 5 true false [[.i .i64 0, .i .i64 0, .i .i64 0, .lst true true 0 [], .lst true true 0 []]], .row 13 true false [[.i .i64 p5, .i .i64 p6, .i .i64 p7, .i .i64 p8, .i .i64 0, .i .i64 0, .i .i64 0, .b false, .i .u64 0, .i .u64 0, .i .u64 0, .i .u64 0, .i .u64 0]], .row 5 true false w0, .row 13 true false w1, .row 5 false false [[.i .i64 p11, .i .i64 p12, .i .i64 p13, .sl 3 p14 5 0 p15, .sl 4 p16 13 0 p17]]]⟩) (fun v => N (state_New_l15_enc p0 p1 p2 p3 p4 p5 p6 p7 p8 p11 p12 p13 p14 p15 p16 p17 v)) v
  | v => by kernel_rfl
theorem state_New_l15_dok (n : Nat) : LE.OK (state_New_l15_d (state_New_g n) n) (L tab) state_New_c15 := LE.shp (fun _ _ _ => rfl) fun ρ K y a b e => LE.rounds (state_New_Sok n) (LK.of (l := []) (by kernel_rfl) ((fun _ h => nomatch h))) (state_New_l15_k (state_New_g n) n _ _ _ _ _ _ _ _ _ _ _ _ _ _ _ _ K) (by kernel_rfl) (by kernel_rfl) e
theorem state_New_d15_ok (n : Nat) : LE.OK (state_New_d15 (state_New_g n) n) (L tab) state_New_c15 := state_New_l15_dok n
theorem state_New_k (G : state_New_G) {ρ : Type} (n : Nat) (a0 : Int) (a1 : Int) (a2 : Int) (a3 : Int) (K : Res → Option ρ) : runC (state_New_S G) state_New_hs (state_New_lp G n) m44 [.agg [.i .i64 a0, .i .i64 a1, .i .i64 a2], .i .i64 a3] K = state_New_s G n a0 a1 a2 a3 (fun w0 w1 w2 w3 w4 w5 w6 w7 w8 w9 => K ⟨.tup [.agg [.i .i64 w0, .i .i64 w1, .i .i64 w2, .lst w3 w4 5 w5, .lst w6 w7 13 w8], .i .i64 w9], [], []⟩) := by kernel_rfl
theorem state_New_ok (n : Nat) : EK.OK (state_New_e n) 44 (L tab) := EK.shp (fun _ _ _ => rfl) fun ρ K y c e => EK.run (state_New_Sok n) (by kernel_rfl) (MF.LKOK.of (LK.of (l := [state_New_c6, state_New_c15]) (by kernel_rfl) (List.forall_mem_cons.2 ⟨LE.at (e := state_New_d6 (state_New_g n) n) (by kernel_rfl) (state_New_d6_ok n), List.forall_mem_cons.2 ⟨LE.at (e := state_New_d15 (state_New_g n) n) (by kernel_rfl) (state_New_d15_ok n), (fun _ h => nomatch h)⟩⟩))) (state_New_k (state_New_g n) n _ _ _ _ K) (by kernel_rfl) e

/-! reeve/reevelaw20.first -/
abbrev reevelaw20_first_T : Type 1 := (ρ : Type) → (Int → Int → Int → Bool → Bool → Rows → Bool → Bool → Rows → Option ρ) → Option ρ
def reevelaw20_first_E (G : reevelaw20_first_T) : EK := fun ρ args K => decL [] args fun _c => G ρ (fun w0 w1 w2 w3 w4 w5 w6 w7 w8 => K ⟨.agg [.i .i64 w0, .i .i64 w1, .i .i64 w2, .lst w3 w4 5 w5, .lst w6 w7 13 w8], [], []⟩)
structure reevelaw20_first_G where
  mk ::
  geo_Plain : geo_Plain_T
  state_New : state_New_T
noncomputable def reevelaw20_first_s (G : reevelaw20_first_G) {ρ : Type} (_n : Nat)  (k0 : (Int → Int → Int → Bool → Bool → Rows → Bool → Bool → Rows → Option ρ)) : Option ρ :=
  G.geo_Plain ρ (G.state_New ρ 2 32 16 64 (fun w1_0 w1_1 w1_2 w1_3 w1_4 w1_5 w1_6 w1_7 w1_8 _w1_9 =>
      k0 w1_0 w1_1 w1_2 w1_3 w1_4 w1_5 w1_6 w1_7 w1_8))
noncomputable def reevelaw20_first_g (n : Nat) : reevelaw20_first_G := ⟨geo_Plain n, state_New n⟩
noncomputable def reevelaw20_first (n : Nat) : reevelaw20_first_T := fun _ρ k0 => reevelaw20_first_s (reevelaw20_first_g n) n k0
noncomputable def reevelaw20_first_e (n : Nat) : EK := reevelaw20_first_E (reevelaw20_first n)
def reevelaw20_first_S (G : reevelaw20_first_G) : CK := tabS [(45, geo_Plain_E G.geo_Plain), (44, state_New_E G.state_New)]
theorem reevelaw20_first_Sok (n : Nat) : CK.OK (reevelaw20_first_S (reevelaw20_first_g n)) (L tab) := tabS_ok _ (List.forall_mem_cons.2 ⟨(geo_Plain_ok n), List.forall_mem_cons.2 ⟨(state_New_ok n), (fun _ h => nomatch h)⟩⟩)
def reevelaw20_first_hs : HintC := hintL []
noncomputable def reevelaw20_first_lp (_G : reevelaw20_first_G) (_n : Nat) : LK := tabL []
theorem reevelaw20_first_k (G : reevelaw20_first_G) {ρ : Type} (n : Nat)  (K : Res → Option ρ) : runC (reevelaw20_first_S G) reevelaw20_first_hs (reevelaw20_first_lp G n) m29 [] K = reevelaw20_first_s G n  (fun w0 w1 w2 w3 w4 w5 w6 w7 w8 => K ⟨.agg [.i .i64 w0, .i .i64 w1, .i .i64 w2, .lst w3 w4 5 w5, .lst w6 w7 13 w8], [], []⟩) := by kernel_rfl
theorem reevelaw20_first_ok (n : Nat) : EK.OK (reevelaw20_first_e n) 29 (L tab) := EK.shp (fun _ _ _ => rfl) fun ρ K y c e => EK.run (reevelaw20_first_Sok n) (by kernel_rfl) (MF.LKOK.of (LK.of (l := []) (by kernel_rfl) ((fun _ h => nomatch h)))) (reevelaw20_first_k (reevelaw20_first_g n) n  K) (by kernel_rfl) e

/-! reeve/reevelaw20.way -/
abbrev reevelaw20_way_T : Type 1 := (ρ : Type) → Bool → Bool → Rows → (Option ρ) → Option ρ
def reevelaw20_way_E (G : reevelaw20_way_T) : EK := fun ρ args K => decL [.lst none none 1 none] args fun c => G ρ c.1.1 c.1.2.1 c.1.2.2 (K ⟨.agg [.lst c.1.1 c.1.2.1 1 c.1.2.2], [], []⟩)
structure reevelaw20_way_G where
  mk ::
noncomputable def reevelaw20_way_s (_G : reevelaw20_way_G) {ρ : Type} (_n : Nat) (_a0 : Bool) (_a1 : Bool) (_a2 : Rows) (k0 : (Option ρ)) : Option ρ :=
  k0
noncomputable def reevelaw20_way_g (_n : Nat) : reevelaw20_way_G := ⟨⟩
noncomputable def reevelaw20_way (n : Nat) : reevelaw20_way_T := fun _ρ a0 a1 a2 k0 => reevelaw20_way_s (reevelaw20_way_g n) n a0 a1 a2 k0
noncomputable def reevelaw20_way_e (n : Nat) : EK := reevelaw20_way_E (reevelaw20_way n)
def reevelaw20_way_S (_G : reevelaw20_way_G) : CK := tabS []
theorem reevelaw20_way_Sok (n : Nat) : CK.OK (reevelaw20_way_S (reevelaw20_way_g n)) (L tab) := tabS_ok _ ((fun _ h => nomatch h))
def reevelaw20_way_hs : HintC := hintL []
noncomputable def reevelaw20_way_lp (_G : reevelaw20_way_G) (_n : Nat) : LK := tabL []
theorem reevelaw20_way_k (G : reevelaw20_way_G) {ρ : Type} (n : Nat) (a0 : Bool) (a1 : Bool) (a2 : Rows) (K : Res → Option ρ) : runC (reevelaw20_way_S G) reevelaw20_way_hs (reevelaw20_way_lp G n) m13 [.lst a0 a1 1 a2] K = reevelaw20_way_s G n a0 a1 a2 (K ⟨.agg [.lst a0 a1 1 a2], [], []⟩) := by kernel_rfl
theorem reevelaw20_way_ok (n : Nat) : EK.OK (reevelaw20_way_e n) 13 (L tab) := EK.shp (fun _ _ _ => rfl) fun ρ K y c e => EK.run (reevelaw20_way_Sok n) (by kernel_rfl) (MF.LKOK.of (LK.of (l := []) (by kernel_rfl) ((fun _ h => nomatch h)))) (reevelaw20_way_k (reevelaw20_way_g n) n _ _ _ K) (by kernel_rfl) e

/-! strings.Cut -/
abbrev strings_Cut_T : Type 1 := (ρ : Type) → Bys → Bys → (Bys → Bys → Bool → Option ρ) → Option ρ
def strings_Cut_E (G : strings_Cut_T) : EK := fun ρ args K => decL [.s none, .s none] args fun c => G ρ c.1 c.2.1 (fun w0 w1 w2 => K ⟨.tup [.s w0, .s w1, .b w2], [], []⟩)
structure strings_Cut_G where
  mk ::
noncomputable def strings_Cut_s (_G : strings_Cut_G) {ρ : Type} (_n : Nat) (a0 : Bys) (a1 : Bys) (k0 : (Bys → Bys → Bool → Option ρ)) : Option ρ :=
  match lawCut [.s a0, .s a1] with
  | some (.tup [.s r0, .s r1, .b r2]) => k0 r0 r1 r2
  | _ => none
noncomputable def strings_Cut_g (_n : Nat) : strings_Cut_G := ⟨⟩
noncomputable def strings_Cut (n : Nat) : strings_Cut_T := fun _ρ a0 a1 k0 => strings_Cut_s (strings_Cut_g n) n a0 a1 k0
noncomputable def strings_Cut_e (n : Nat) : EK := strings_Cut_E (strings_Cut n)
def strings_Cut_S (_G : strings_Cut_G) : CK := tabS []
theorem strings_Cut_Sok (n : Nat) : CK.OK (strings_Cut_S (strings_Cut_g n)) (L tab) := tabS_ok _ ((fun _ h => nomatch h))
def strings_Cut_hs : HintC := hintL []
noncomputable def strings_Cut_lp (_G : strings_Cut_G) (_n : Nat) : LK := tabL []
theorem strings_Cut_ok (n : Nat) : EK.OK (strings_Cut_e n) 78 (L tab) := EK.shp (fun _ _ _ => rfl) fun ρ K y c e => by
  simp only [strings_Cut, strings_Cut_s] at e
  split at e
  · rename_i h
    exact ⟨_, L_law (T := tab) (by kernel_rfl) h, e⟩
  · cases e

/-! reeve/call.fields -/
abbrev call_fields_T : Type 1 := (ρ : Type) → Int → (Bys → Bys → Option ρ) → Option ρ
def call_fields_E (G : call_fields_T) : EK := fun ρ args K => decL [.i .i64 none] args fun c => G ρ c.1 (fun w0 w1 => K ⟨.tup [.s w0, .s w1], [], []⟩)
structure call_fields_G where
  mk ::
  strings_Cut : strings_Cut_T
noncomputable def call_fields_s (G : call_fields_G) {ρ : Type} (_n : Nat) (a0 : Int) (k0 : (Bys → Bys → Option ρ)) : Option ρ :=
  bif decide ((a0 : Int) < 1) then
    k0 [] []
  else bif decide ((a0 : Int) > 13) then
    k0 [] []
  else chk (decide ((0 : Int) ≤ a0)) <|
  chk (decide ((a0 : Int) < 14)) <|
  rowN [.s] [[.s []], [.s ([109, 97, 107, 101, 32, 65, 66, 88, 89])], [.s ([99, 111, 112, 121, 32, 65, 66, 88])], [.s ([109, 105, 110, 116, 32, 65, 66, 88, 89])], [.s ([109, 111, 118, 101, 32, 65, 66])], [.s ([100, 101, 108, 101, 116, 101, 32, 65])], [.s ([114, 101, 118, 111, 107, 101, 32, 65])], [.s ([115, 101, 110, 100, 32, 65, 98, 87])], [.s ([114, 101, 99, 118, 32, 65, 98])], [.s ([114, 105, 110, 103, 32, 65])], [.s ([112, 111, 108, 108, 32, 65])], [.s ([119, 114, 105, 116, 101, 32, 65, 88, 87])], [.s ([114, 101, 97, 100, 32, 65, 88])], [.s ([116, 101, 108, 108, 32, 65])]] (0 + a0.toNat) fun c0 =>
  G.strings_Cut ρ c0.1 [32] (fun w1_0 w1_1 w1_2 =>
    bif w1_2 then
      k0 w1_0 w1_1
    else k0 w1_0 w1_1)
noncomputable def call_fields_g (n : Nat) : call_fields_G := ⟨strings_Cut n⟩
noncomputable def call_fields (n : Nat) : call_fields_T := fun _ρ a0 k0 => call_fields_s (call_fields_g n) n a0 k0
noncomputable def call_fields_e (n : Nat) : EK := call_fields_E (call_fields n)
def call_fields_S (G : call_fields_G) : CK := tabS [(78, strings_Cut_E G.strings_Cut)]
theorem call_fields_Sok (n : Nat) : CK.OK (call_fields_S (call_fields_g n)) (L tab) := tabS_ok _ (List.forall_mem_cons.2 ⟨(strings_Cut_ok n), (fun _ h => nomatch h)⟩)
def call_fields_hs : HintC := hintL [(16, [.s])]
noncomputable def call_fields_lp (_G : call_fields_G) (_n : Nat) : LK := tabL []
theorem call_fields_k (G : call_fields_G) {ρ : Type} (n : Nat) (a0 : Int) (K : Res → Option ρ) : runC (call_fields_S G) call_fields_hs (call_fields_lp G n) m47 [.i .i64 a0] K = call_fields_s G n a0 (fun w0 w1 => K ⟨.tup [.s w0, .s w1], [], []⟩) := by kernel_rfl
theorem call_fields_ok (n : Nat) : EK.OK (call_fields_e n) 47 (L tab) := EK.shp (fun _ _ _ => rfl) fun ρ K y c e => EK.run (call_fields_Sok n) (by kernel_rfl) (MF.LKOK.of (LK.of (l := []) (by kernel_rfl) ((fun _ h => nomatch h)))) (call_fields_k (call_fields_g n) n _ K) (by kernel_rfl) e

/-! strings.Contains -/
abbrev strings_Contains_T : Type 1 := (ρ : Type) → Bys → Bys → (Bool → Option ρ) → Option ρ
def strings_Contains_E (G : strings_Contains_T) : EK := fun ρ args K => decL [.s none, .s none] args fun c => G ρ c.1 c.2.1 (fun w0 => K ⟨.b w0, [], []⟩)
structure strings_Contains_G where
  mk ::
noncomputable def strings_Contains_s (_G : strings_Contains_G) {ρ : Type} (_n : Nat) (a0 : Bys) (a1 : Bys) (k0 : (Bool → Option ρ)) : Option ρ :=
  match lawContains [.s a0, .s a1] with
  | some (.b r0) => k0 r0
  | _ => none
noncomputable def strings_Contains_g (_n : Nat) : strings_Contains_G := ⟨⟩
noncomputable def strings_Contains (n : Nat) : strings_Contains_T := fun _ρ a0 a1 k0 => strings_Contains_s (strings_Contains_g n) n a0 a1 k0
noncomputable def strings_Contains_e (n : Nat) : EK := strings_Contains_E (strings_Contains n)
def strings_Contains_S (_G : strings_Contains_G) : CK := tabS []
theorem strings_Contains_Sok (n : Nat) : CK.OK (strings_Contains_S (strings_Contains_g n)) (L tab) := tabS_ok _ ((fun _ h => nomatch h))
def strings_Contains_hs : HintC := hintL []
noncomputable def strings_Contains_lp (_G : strings_Contains_G) (_n : Nat) : LK := tabL []
theorem strings_Contains_ok (n : Nat) : EK.OK (strings_Contains_e n) 48 (L tab) := EK.shp (fun _ _ _ => rfl) fun ρ K y c e => by
  simp only [strings_Contains, strings_Contains_s] at e
  split at e
  · rename_i h
    exact ⟨_, L_law (T := tab) (by kernel_rfl) h, e⟩
  · cases e

/-! reeve/path.Good$1 -/
abbrev path_Good_1_T : Type 1 := (ρ : Type) → Int → (Bool → Option ρ) → Option ρ
def path_Good_1_E (G : path_Good_1_T) : EK := fun ρ args K => decL [.i .i64 none] args fun c => G ρ c.1 (fun w0 => K ⟨.b w0, [], []⟩)
structure path_Good_1_G where
  mk ::
noncomputable def path_Good_1_s (_G : path_Good_1_G) {ρ : Type} (_n : Nat) (a0 : Int) (k0 : (Bool → Option ρ)) : Option ρ :=
  bif decide ((a0 : Int) < 0) then
    k0 true
  else bif decide ((a0 : Int) > 15) then
    k0 true
  else k0 false
noncomputable def path_Good_1_g (_n : Nat) : path_Good_1_G := ⟨⟩
noncomputable def path_Good_1 (n : Nat) : path_Good_1_T := fun _ρ a0 k0 => path_Good_1_s (path_Good_1_g n) n a0 k0
noncomputable def path_Good_1_e (n : Nat) : EK := path_Good_1_E (path_Good_1 n)
def path_Good_1_S (_G : path_Good_1_G) : CK := tabS []
theorem path_Good_1_Sok (n : Nat) : CK.OK (path_Good_1_S (path_Good_1_g n)) (L tab) := tabS_ok _ ((fun _ h => nomatch h))
def path_Good_1_hs : HintC := hintL []
noncomputable def path_Good_1_lp (_G : path_Good_1_G) (_n : Nat) : LK := tabL []
theorem path_Good_1_k (G : path_Good_1_G) {ρ : Type} (n : Nat) (a0 : Int) (K : Res → Option ρ) : runC (path_Good_1_S G) path_Good_1_hs (path_Good_1_lp G n) m80 [.i .i64 a0] K = path_Good_1_s G n a0 (fun w0 => K ⟨.b w0, [], []⟩) := by kernel_rfl
theorem path_Good_1_ok (n : Nat) : EK.OK (path_Good_1_e n) 80 (L tab) := EK.shp (fun _ _ _ => rfl) fun ρ K y c e => EK.run (path_Good_1_Sok n) (by kernel_rfl) (MF.LKOK.of (LK.of (l := []) (by kernel_rfl) ((fun _ h => nomatch h)))) (path_Good_1_k (path_Good_1_g n) n _ K) (by kernel_rfl) e

/-! slices.IndexFunc[[]int,int] -/
abbrev slices_IndexFunc_int_T : Type 1 := (ρ : Type) → Bool → Bool → Rows → (Int → Option ρ) → Option ρ
def slices_IndexFunc_int_E (G : slices_IndexFunc_int_T) : EK := fun ρ args K => decL [.lst none none 1 none, .fn 80 []] args fun c => G ρ c.1.1 c.1.2.1 c.1.2.2 (fun w0 => K ⟨.i .i64 w0, [], []⟩)
structure slices_IndexFunc_int_G where
  mk ::
  path_Good_1 : path_Good_1_T
abbrev slices_IndexFunc_int_l2_V : Type := Int
noncomputable def slices_IndexFunc_int_l2_s (G : slices_IndexFunc_int_G) {ρ : Type} (_n : Nat) (_p0 : Bool) (_p1 : Bool) (p2 : Rows) (p3 : Int) (k0 : (Int → Option ρ)) (k1 : (Option ρ)) (rec' : slices_IndexFunc_int_l2_V → Option ρ) : slices_IndexFunc_int_l2_V → Option ρ
  | v =>
  bif decide ((v : Int) < p3) then
    rowT [.i .i64] p2 v fun c0 =>
    G.path_Good_1 ρ c0.1 (fun w1_0 =>
      bif w1_0 then
        k0 v
      else rec' ((IntKind.wrap .i64 (v + 1))))
  else k1
noncomputable def slices_IndexFunc_int_l2 (G : slices_IndexFunc_int_G) {ρ : Type} (n : Nat) (p0 : Bool) (p1 : Bool) (p2 : Rows) (p3 : Int) (k0 : (Int → Option ρ)) (k1 : (Option ρ)) (v : slices_IndexFunc_int_l2_V) : Option ρ := fuelN (slices_IndexFunc_int_l2_s G n p0 p1 p2 p3 k0 k1) n v
def slices_IndexFunc_int_l2_enc (p0 : Bool) (p1 : Bool) (p2 : Rows) (p3 : Int) : slices_IndexFunc_int_l2_V → St
  | v => ⟨[(0, .lst p0 p1 1 p2), (1, .fn 80 []), (7, .i .i64 p3), (8, .i .i64 v)], []⟩
noncomputable def slices_IndexFunc_int_s (G : slices_IndexFunc_int_G) {ρ : Type} (n : Nat) (a0 : Bool) (a1 : Bool) (a2 : Rows) (k0 : (Int → Option ρ)) : Option ρ :=
  slices_IndexFunc_int_l2 G n a0 a1 a2 (((List.length (a2 : Rows)) : Nat) : Int) (fun w0_0 =>
    k0 w0_0) (k0 (-1)) (0)
noncomputable def slices_IndexFunc_int_g (n : Nat) : slices_IndexFunc_int_G := ⟨path_Good_1 n⟩
noncomputable def slices_IndexFunc_int (n : Nat) : slices_IndexFunc_int_T := fun _ρ a0 a1 a2 k0 => slices_IndexFunc_int_s (slices_IndexFunc_int_g n) n a0 a1 a2 k0
noncomputable def slices_IndexFunc_int_e (n : Nat) : EK := slices_IndexFunc_int_E (slices_IndexFunc_int n)
def slices_IndexFunc_int_S (G : slices_IndexFunc_int_G) : CK := tabS [(80, path_Good_1_E G.path_Good_1)]
theorem slices_IndexFunc_int_Sok (n : Nat) : CK.OK (slices_IndexFunc_int_S (slices_IndexFunc_int_g n)) (L tab) := tabS_ok _ (List.forall_mem_cons.2 ⟨(path_Good_1_ok n), (fun _ h => nomatch h)⟩)
def slices_IndexFunc_int_hs : HintC := hintL [(14, [.i .i64])]
def slices_IndexFunc_int_c2 : Nat × List Nat × List Nat × MC := loopAt 2 m102
noncomputable def slices_IndexFunc_int_l2_d (G : slices_IndexFunc_int_G) (n : Nat) : Go.Rv.LE := fun _ρ h K => decSt [(0, .lst none none 1 none), (1, .fn 80 []), (7, .i .i64 none), (8, .i .i64 none)] [] h fun a _b => slices_IndexFunc_int_l2 G n a.1.1 a.1.2.1 a.1.2.2 a.2.2.1 (fun w0 => K .ret ⟨[(4, .i .i64 w0)], []⟩) (K (.exit 0) ⟨[(4, .u)], []⟩) (a.2.2.2.1)
noncomputable def slices_IndexFunc_int_d2 (G : slices_IndexFunc_int_G) (n : Nat) : Go.Rv.LE := slices_IndexFunc_int_l2_d G n
noncomputable def slices_IndexFunc_int_lp (G : slices_IndexFunc_int_G) (n : Nat) : LK := tabL [(2, slices_IndexFunc_int_d2 G n)]
theorem slices_IndexFunc_int_l2_k (G : slices_IndexFunc_int_G) {ρ : Type} (n : Nat) (p0 : Bool) (p1 : Bool) (p2 : Rows) (p3 : Int) (K : Ex → St → Option ρ) (N : St → Option ρ) : ∀ v, roundC (slices_IndexFunc_int_S G) slices_IndexFunc_int_hs (slices_IndexFunc_int_lp G n) slices_IndexFunc_int_c2 0 N K (slices_IndexFunc_int_l2_enc p0 p1 p2 p3 v) = slices_IndexFunc_int_l2_s G n p0 p1 p2 p3 (fun w0 => K .ret ⟨[(4, .i .i64 w0)], []⟩) (K (.exit 0) ⟨[(4, .u)], []⟩) (fun v => N (slices_IndexFunc_int_l2_enc p0 p1 p2 p3 v)) v
  | v => by kernel_rfl
theorem slices_IndexFunc_int_l2_dok (n : Nat) : LE.OK (slices_IndexFunc_int_l2_d (slices_IndexFunc_int_g n) n) (L tab) slices_IndexFunc_int_c2 := LE.shp (fun _ _ _ => rfl) fun ρ K y a b e => LE.rounds (slices_IndexFunc_int_Sok n) (LK.of (l := []) (by kernel_rfl) ((fun _ h => nomatch h))) (slices_IndexFunc_int_l2_k (slices_IndexFunc_int_g n) n _ _ _ _ K) (by kernel_rfl) (by kernel_rfl) e
theorem slices_IndexFunc_int_d2_ok (n : Nat) : LE.OK (slices_IndexFunc_int_d2 (slices_IndexFunc_int_g n) n) (L tab) slices_IndexFunc_int_c2 := slices_IndexFunc_int_l2_dok n
theorem slices_IndexFunc_int_k (G : slices_IndexFunc_int_G) {ρ : Type} (n : Nat) (a0 : Bool) (a1 : Bool) (a2 : Rows) (K : Res → Option ρ) : runC (slices_IndexFunc_int_S G) slices_IndexFunc_int_hs (slices_IndexFunc_int_lp G n) m102 [.lst a0 a1 1 a2, .fn 80 []] K = slices_IndexFunc_int_s G n a0 a1 a2 (fun w0 => K ⟨.i .i64 w0, [], []⟩) := by kernel_rfl
theorem slices_IndexFunc_int_ok (n : Nat) : EK.OK (slices_IndexFunc_int_e n) 102 (L tab) := EK.shp (fun _ _ _ => rfl) fun ρ K y c e => EK.run (slices_IndexFunc_int_Sok n) (by kernel_rfl) (MF.LKOK.of (LK.of (l := [slices_IndexFunc_int_c2]) (by kernel_rfl) (List.forall_mem_cons.2 ⟨LE.at (e := slices_IndexFunc_int_d2 (slices_IndexFunc_int_g n) n) (by kernel_rfl) (slices_IndexFunc_int_d2_ok n), (fun _ h => nomatch h)⟩))) (slices_IndexFunc_int_k (slices_IndexFunc_int_g n) n _ _ _ K) (by kernel_rfl) e

/-! slices.ContainsFunc[[]int,int] -/
abbrev slices_ContainsFunc_int_T : Type 1 := (ρ : Type) → Bool → Bool → Rows → (Bool → Option ρ) → Option ρ
def slices_ContainsFunc_int_E (G : slices_ContainsFunc_int_T) : EK := fun ρ args K => decL [.lst none none 1 none, .fn 80 []] args fun c => G ρ c.1.1 c.1.2.1 c.1.2.2 (fun w0 => K ⟨.b w0, [], []⟩)
structure slices_ContainsFunc_int_G where
  mk ::
  slices_IndexFunc_int : slices_IndexFunc_int_T
noncomputable def slices_ContainsFunc_int_s (G : slices_ContainsFunc_int_G) {ρ : Type} (_n : Nat) (a0 : Bool) (a1 : Bool) (a2 : Rows) (k0 : (Bool → Option ρ)) : Option ρ :=
  G.slices_IndexFunc_int ρ a0 a1 a2 (fun w0_0 =>
    bif decide ((w0_0 : Int) ≥ 0) then
      k0 true
    else k0 false)
noncomputable def slices_ContainsFunc_int_g (n : Nat) : slices_ContainsFunc_int_G := ⟨slices_IndexFunc_int n⟩
noncomputable def slices_ContainsFunc_int (n : Nat) : slices_ContainsFunc_int_T := fun _ρ a0 a1 a2 k0 => slices_ContainsFunc_int_s (slices_ContainsFunc_int_g n) n a0 a1 a2 k0
noncomputable def slices_ContainsFunc_int_e (n : Nat) : EK := slices_ContainsFunc_int_E (slices_ContainsFunc_int n)
def slices_ContainsFunc_int_S (G : slices_ContainsFunc_int_G) : CK := tabS [(102, slices_IndexFunc_int_E G.slices_IndexFunc_int)]
theorem slices_ContainsFunc_int_Sok (n : Nat) : CK.OK (slices_ContainsFunc_int_S (slices_ContainsFunc_int_g n)) (L tab) := tabS_ok _ (List.forall_mem_cons.2 ⟨(slices_IndexFunc_int_ok n), (fun _ h => nomatch h)⟩)
def slices_ContainsFunc_int_hs : HintC := hintL []
noncomputable def slices_ContainsFunc_int_lp (_G : slices_ContainsFunc_int_G) (_n : Nat) : LK := tabL []
theorem slices_ContainsFunc_int_k (G : slices_ContainsFunc_int_G) {ρ : Type} (n : Nat) (a0 : Bool) (a1 : Bool) (a2 : Rows) (K : Res → Option ρ) : runC (slices_ContainsFunc_int_S G) slices_ContainsFunc_int_hs (slices_ContainsFunc_int_lp G n) m81 [.lst a0 a1 1 a2, .fn 80 []] K = slices_ContainsFunc_int_s G n a0 a1 a2 (fun w0 => K ⟨.b w0, [], []⟩) := by kernel_rfl
theorem slices_ContainsFunc_int_ok (n : Nat) : EK.OK (slices_ContainsFunc_int_e n) 81 (L tab) := EK.shp (fun _ _ _ => rfl) fun ρ K y c e => EK.run (slices_ContainsFunc_int_Sok n) (by kernel_rfl) (MF.LKOK.of (LK.of (l := []) (by kernel_rfl) ((fun _ h => nomatch h)))) (slices_ContainsFunc_int_k (slices_ContainsFunc_int_g n) n _ _ _ K) (by kernel_rfl) e

/-! reeve/path.Good -/
abbrev path_Good_T : Type 1 := (ρ : Type) → Bool → Bool → Rows → (Bool → Option ρ) → Option ρ
def path_Good_E (G : path_Good_T) : EK := fun ρ args K => decL [.agg [.lst none none 1 none]] args fun c => G ρ c.1.1.1 c.1.1.2.1 c.1.1.2.2 (fun w0 => K ⟨.b w0, [], []⟩)
structure path_Good_G where
  mk ::
  slices_ContainsFunc_int : slices_ContainsFunc_int_T
noncomputable def path_Good_s (G : path_Good_G) {ρ : Type} (_n : Nat) (a0 : Bool) (a1 : Bool) (a2 : Rows) (k0 : (Bool → Option ρ)) : Option ρ :=
  bif decide (((((List.length (a2 : Rows)) : Nat) : Int) : Int) ≥ 1) then
    bif decide (((((List.length (a2 : Rows)) : Nat) : Int) : Int) ≤ 3) then
      G.slices_ContainsFunc_int ρ a0 a1 a2 (fun w0_0 =>
        bif w0_0 then
          k0 false
        else k0 true)
    else k0 false
  else k0 false
noncomputable def path_Good_g (n : Nat) : path_Good_G := ⟨slices_ContainsFunc_int n⟩
noncomputable def path_Good (n : Nat) : path_Good_T := fun _ρ a0 a1 a2 k0 => path_Good_s (path_Good_g n) n a0 a1 a2 k0
noncomputable def path_Good_e (n : Nat) : EK := path_Good_E (path_Good n)
def path_Good_S (G : path_Good_G) : CK := tabS [(81, slices_ContainsFunc_int_E G.slices_ContainsFunc_int)]
theorem path_Good_Sok (n : Nat) : CK.OK (path_Good_S (path_Good_g n)) (L tab) := tabS_ok _ (List.forall_mem_cons.2 ⟨(slices_ContainsFunc_int_ok n), (fun _ h => nomatch h)⟩)
def path_Good_hs : HintC := hintL []
noncomputable def path_Good_lp (_G : path_Good_G) (_n : Nat) : LK := tabL []
theorem path_Good_k (G : path_Good_G) {ρ : Type} (n : Nat) (a0 : Bool) (a1 : Bool) (a2 : Rows) (K : Res → Option ρ) : runC (path_Good_S G) path_Good_hs (path_Good_lp G n) m49 [.agg [.lst a0 a1 1 a2]] K = path_Good_s G n a0 a1 a2 (fun w0 => K ⟨.b w0, [], []⟩) := by kernel_rfl
theorem path_Good_ok (n : Nat) : EK.OK (path_Good_e n) 49 (L tab) := EK.shp (fun _ _ _ => rfl) fun ρ K y c e => EK.run (path_Good_Sok n) (by kernel_rfl) (MF.LKOK.of (LK.of (l := []) (by kernel_rfl) ((fun _ h => nomatch h)))) (path_Good_k (path_Good_g n) n _ _ _ K) (by kernel_rfl) e

/-! strings.ContainsAny -/
abbrev strings_ContainsAny_T : Type 1 := (ρ : Type) → Bys → Bys → (Bool → Option ρ) → Option ρ
def strings_ContainsAny_E (G : strings_ContainsAny_T) : EK := fun ρ args K => decL [.s none, .s none] args fun c => G ρ c.1 c.2.1 (fun w0 => K ⟨.b w0, [], []⟩)
structure strings_ContainsAny_G where
  mk ::
noncomputable def strings_ContainsAny_s (_G : strings_ContainsAny_G) {ρ : Type} (_n : Nat) (a0 : Bys) (a1 : Bys) (k0 : (Bool → Option ρ)) : Option ρ :=
  match lawContainsAny [.s a0, .s a1] with
  | some (.b r0) => k0 r0
  | _ => none
noncomputable def strings_ContainsAny_g (_n : Nat) : strings_ContainsAny_G := ⟨⟩
noncomputable def strings_ContainsAny (n : Nat) : strings_ContainsAny_T := fun _ρ a0 a1 k0 => strings_ContainsAny_s (strings_ContainsAny_g n) n a0 a1 k0
noncomputable def strings_ContainsAny_e (n : Nat) : EK := strings_ContainsAny_E (strings_ContainsAny n)
def strings_ContainsAny_S (_G : strings_ContainsAny_G) : CK := tabS []
theorem strings_ContainsAny_Sok (n : Nat) : CK.OK (strings_ContainsAny_S (strings_ContainsAny_g n)) (L tab) := tabS_ok _ ((fun _ h => nomatch h))
def strings_ContainsAny_hs : HintC := hintL []
noncomputable def strings_ContainsAny_lp (_G : strings_ContainsAny_G) (_n : Nat) : LK := tabL []
theorem strings_ContainsAny_ok (n : Nat) : EK.OK (strings_ContainsAny_e n) 50 (L tab) := EK.shp (fun _ _ _ => rfl) fun ρ K y c e => by
  simp only [strings_ContainsAny, strings_ContainsAny_s] at e
  split at e
  · rename_i h
    exact ⟨_, L_law (T := tab) (by kernel_rfl) h, e⟩
  · cases e

/-! reeve/call.in -/
abbrev call_in_T : Type 1 := (ρ : Type) → Int → Int → Int → (Bool → Option ρ) → Option ρ
def call_in_E (G : call_in_T) : EK := fun ρ args K => decL [.i .i64 none, .i .i64 none, .i .i64 none] args fun c => G ρ c.1 c.2.1 c.2.2.1 (fun w0 => K ⟨.b w0, [], []⟩)
structure call_in_G where
  mk ::
noncomputable def call_in_s (_G : call_in_G) {ρ : Type} (_n : Nat) (a0 : Int) (a1 : Int) (a2 : Int) (k0 : (Bool → Option ρ)) : Option ρ :=
  bif decide ((a0 : Int) ≥ a1) then
    bif decide ((a0 : Int) ≤ a2) then
      k0 true
    else k0 false
  else k0 false
noncomputable def call_in_g (_n : Nat) : call_in_G := ⟨⟩
noncomputable def call_in (n : Nat) : call_in_T := fun _ρ a0 a1 a2 k0 => call_in_s (call_in_g n) n a0 a1 a2 k0
noncomputable def call_in_e (n : Nat) : EK := call_in_E (call_in n)
def call_in_S (_G : call_in_G) : CK := tabS []
theorem call_in_Sok (n : Nat) : CK.OK (call_in_S (call_in_g n)) (L tab) := tabS_ok _ ((fun _ h => nomatch h))
def call_in_hs : HintC := hintL []
noncomputable def call_in_lp (_G : call_in_G) (_n : Nat) : LK := tabL []
theorem call_in_k (G : call_in_G) {ρ : Type} (n : Nat) (a0 : Int) (a1 : Int) (a2 : Int) (K : Res → Option ρ) : runC (call_in_S G) call_in_hs (call_in_lp G n) m83 [.i .i64 a0, .i .i64 a1, .i .i64 a2] K = call_in_s G n a0 a1 a2 (fun w0 => K ⟨.b w0, [], []⟩) := by kernel_rfl
theorem call_in_ok (n : Nat) : EK.OK (call_in_e n) 83 (L tab) := EK.shp (fun _ _ _ => rfl) fun ρ K y c e => EK.run (call_in_Sok n) (by kernel_rfl) (MF.LKOK.of (LK.of (l := []) (by kernel_rfl) ((fun _ h => nomatch h)))) (call_in_k (call_in_g n) n _ _ _ K) (by kernel_rfl) e

/-! reeve/right.Good -/
abbrev right_Good_T : Type 1 := (ρ : Type) → Int → (Bool → Option ρ) → Option ρ
def right_Good_E (G : right_Good_T) : EK := fun ρ args K => decL [.i .i64 none] args fun c => G ρ c.1 (fun w0 => K ⟨.b w0, [], []⟩)
structure right_Good_G where
  mk ::
noncomputable def right_Good_s (_G : right_Good_G) {ρ : Type} (_n : Nat) (a0 : Int) (k0 : (Bool → Option ρ)) : Option ρ :=
  bif decide ((a0 : Int) ≥ 0) then
    bif decide ((a0 : Int) ≤ 7) then
      k0 true
    else k0 false
  else k0 false
noncomputable def right_Good_g (_n : Nat) : right_Good_G := ⟨⟩
noncomputable def right_Good (n : Nat) : right_Good_T := fun _ρ a0 k0 => right_Good_s (right_Good_g n) n a0 k0
noncomputable def right_Good_e (n : Nat) : EK := right_Good_E (right_Good n)
def right_Good_S (_G : right_Good_G) : CK := tabS []
theorem right_Good_Sok (n : Nat) : CK.OK (right_Good_S (right_Good_g n)) (L tab) := tabS_ok _ ((fun _ h => nomatch h))
def right_Good_hs : HintC := hintL []
noncomputable def right_Good_lp (_G : right_Good_G) (_n : Nat) : LK := tabL []
theorem right_Good_k (G : right_Good_G) {ρ : Type} (n : Nat) (a0 : Int) (K : Res → Option ρ) : runC (right_Good_S G) right_Good_hs (right_Good_lp G n) m26 [.i .i64 a0] K = right_Good_s G n a0 (fun w0 => K ⟨.b w0, [], []⟩) := by kernel_rfl
theorem right_Good_ok (n : Nat) : EK.OK (right_Good_e n) 26 (L tab) := EK.shp (fun _ _ _ => rfl) fun ρ K y c e => EK.run (right_Good_Sok n) (by kernel_rfl) (MF.LKOK.of (LK.of (l := []) (by kernel_rfl) ((fun _ h => nomatch h)))) (right_Good_k (right_Good_g n) n _ K) (by kernel_rfl) e

/-! reeve/call.numbers -/
abbrev call_numbers_T : Type 1 := (ρ : Type) → Int → Bool → Bool → Rows → Bool → Bool → Rows → Int → Int → Int → (Bool → Option ρ) → Option ρ
def call_numbers_E (G : call_numbers_T) : EK := fun ρ args K => decL [.agg [.i .i64 none, .lst none none 1 none, .lst none none 1 none, .i .i64 none, .i .i64 none, .i .u64 none]] args fun c => G ρ c.1.1 c.1.2.1.1 c.1.2.1.2.1 c.1.2.1.2.2 c.1.2.2.1.1 c.1.2.2.1.2.1 c.1.2.2.1.2.2 c.1.2.2.2.1 c.1.2.2.2.2.1 c.1.2.2.2.2.2.1 (fun w0 => K ⟨.b w0, [], []⟩)
structure call_numbers_G where
  mk ::
  call_in : call_in_T
  right_Good : right_Good_T
noncomputable def call_numbers_s (G : call_numbers_G) {ρ : Type} (_n : Nat) (a0 : Int) (_a1 : Bool) (_a2 : Bool) (_a3 : Rows) (_a4 : Bool) (_a5 : Bool) (_a6 : Rows) (a7 : Int) (a8 : Int) (_a9 : Int) (k0 : (Bool → Option ρ)) : Option ρ :=
  bif ((a0 : Int) == 1) then
    G.call_in ρ a7 1 5 (fun w0_0 =>
      bif w0_0 then
        G.call_in ρ a8 0 4096 (fun w1_0 =>
          bif w1_0 then
            k0 true
          else k0 false)
      else k0 false)
  else bif ((a0 : Int) == 2) then
    G.right_Good ρ a7 (fun w2_0 =>
      bif w2_0 then
        bif ((a8 : Int) == 0) then
          k0 true
        else k0 false
      else k0 false)
  else bif ((a0 : Int) == 3) then
    G.right_Good ρ a7 (fun w3_0 =>
      bif w3_0 then
        G.call_in ρ a8 1 65535 (fun w4_0 =>
          bif w4_0 then
            k0 true
          else k0 false)
      else k0 false)
  else bif ((a0 : Int) == 11) then
    G.call_in ρ a7 0 3 (fun w5_0 =>
      bif w5_0 then
        bif ((a8 : Int) == 0) then
          k0 true
        else k0 false
      else k0 false)
  else bif ((a0 : Int) == 12) then
    G.call_in ρ a7 0 3 (fun w6_0 =>
      bif w6_0 then
        bif ((a8 : Int) == 0) then
          k0 true
        else k0 false
      else k0 false)
  else bif ((a7 : Int) == 0) then
    bif ((a8 : Int) == 0) then
      k0 true
    else k0 false
  else k0 false
noncomputable def call_numbers_g (n : Nat) : call_numbers_G := ⟨call_in n, right_Good n⟩
noncomputable def call_numbers (n : Nat) : call_numbers_T := fun _ρ a0 a1 a2 a3 a4 a5 a6 a7 a8 a9 k0 => call_numbers_s (call_numbers_g n) n a0 a1 a2 a3 a4 a5 a6 a7 a8 a9 k0
noncomputable def call_numbers_e (n : Nat) : EK := call_numbers_E (call_numbers n)
def call_numbers_S (G : call_numbers_G) : CK := tabS [(83, call_in_E G.call_in), (26, right_Good_E G.right_Good)]
theorem call_numbers_Sok (n : Nat) : CK.OK (call_numbers_S (call_numbers_g n)) (L tab) := tabS_ok _ (List.forall_mem_cons.2 ⟨(call_in_ok n), List.forall_mem_cons.2 ⟨(right_Good_ok n), (fun _ h => nomatch h)⟩⟩)
def call_numbers_hs : HintC := hintL []
noncomputable def call_numbers_lp (_G : call_numbers_G) (_n : Nat) : LK := tabL []
theorem call_numbers_k (G : call_numbers_G) {ρ : Type} (n : Nat) (a0 : Int) (a1 : Bool) (a2 : Bool) (a3 : Rows) (a4 : Bool) (a5 : Bool) (a6 : Rows) (a7 : Int) (a8 : Int) (a9 : Int) (K : Res → Option ρ) : runC (call_numbers_S G) call_numbers_hs (call_numbers_lp G n) m51 [.agg [.i .i64 a0, .lst a1 a2 1 a3, .lst a4 a5 1 a6, .i .i64 a7, .i .i64 a8, .i .u64 a9]] K = call_numbers_s G n a0 a1 a2 a3 a4 a5 a6 a7 a8 a9 (fun w0 => K ⟨.b w0, [], []⟩) := by kernel_rfl
theorem call_numbers_ok (n : Nat) : EK.OK (call_numbers_e n) 51 (L tab) := EK.shp (fun _ _ _ => rfl) fun ρ K y c e => EK.run (call_numbers_Sok n) (by kernel_rfl) (MF.LKOK.of (LK.of (l := []) (by kernel_rfl) ((fun _ h => nomatch h)))) (call_numbers_k (call_numbers_g n) n _ _ _ _ _ _ _ _ _ _ K) (by kernel_rfl) e

/-! reeve/call.Good -/
abbrev call_Good_T : Type 1 := (ρ : Type) → Int → Bool → Bool → Rows → Bool → Bool → Rows → Int → Int → Int → (Bool → Option ρ) → Option ρ
def call_Good_E (G : call_Good_T) : EK := fun ρ args K => decL [.agg [.i .i64 none, .lst none none 1 none, .lst none none 1 none, .i .i64 none, .i .i64 none, .i .u64 none]] args fun c => G ρ c.1.1 c.1.2.1.1 c.1.2.1.2.1 c.1.2.1.2.2 c.1.2.2.1.1 c.1.2.2.1.2.1 c.1.2.2.1.2.2 c.1.2.2.2.1 c.1.2.2.2.2.1 c.1.2.2.2.2.2.1 (fun w0 => K ⟨.b w0, [], []⟩)
structure call_Good_G where
  mk ::
  call_fields : call_fields_T
  strings_Contains : strings_Contains_T
  path_Good : path_Good_T
  strings_ContainsAny : strings_ContainsAny_T
  call_numbers : call_numbers_T
noncomputable def call_Good_s (G : call_Good_G) {ρ : Type} (_n : Nat) (a0 : Int) (a1 : Bool) (a2 : Bool) (a3 : Rows) (a4 : Bool) (a5 : Bool) (a6 : Rows) (a7 : Int) (a8 : Int) (a9 : Int) (k0 : (Bool → Option ρ)) : Option ρ :=
  G.call_fields ρ a0 (fun _w0_0 w0_1 =>
    bif (((((List.length (a6 : Rows)) : Nat) : Int) : Int) == 0) then
      G.strings_Contains ρ w0_1 [66] (fun w1_0 =>
        bif w1_0 then
          G.path_Good ρ a4 a5 a6 (fun w2_0 =>
            bif w2_0 then
              G.strings_ContainsAny ρ w0_1 ([66, 98]) (fun w3_0 =>
                bif w3_0 then
                  bif ((w0_1 : Bys) != []) then
                    G.path_Good ρ a1 a2 a3 (fun w4_0 =>
                      bif w4_0 then
                        G.call_numbers ρ a0 a1 a2 a3 a4 a5 a6 a7 a8 a9 (fun w5_0 =>
                          bif w5_0 then
                            bif ((a9 : Int) == 0) then
                              k0 true
                            else G.strings_Contains ρ w0_1 [87] (fun w6_0 =>
                              bif w6_0 then
                                k0 true
                              else k0 false)
                          else k0 false)
                      else k0 false)
                  else k0 false
                else bif ((w0_1 : Bys) != []) then
                  G.path_Good ρ a1 a2 a3 (fun w7_0 =>
                    bif w7_0 then
                      k0 false
                    else k0 false)
                else k0 false)
            else bif ((w0_1 : Bys) != []) then
              G.path_Good ρ a1 a2 a3 (fun w8_0 =>
                bif w8_0 then
                  k0 false
                else k0 false)
            else k0 false)
        else bif ((w0_1 : Bys) != []) then
          G.path_Good ρ a1 a2 a3 (fun w9_0 =>
            bif w9_0 then
              G.call_numbers ρ a0 a1 a2 a3 a4 a5 a6 a7 a8 a9 (fun w10_0 =>
                bif w10_0 then
                  bif ((a9 : Int) == 0) then
                    k0 true
                  else G.strings_Contains ρ w0_1 [87] (fun w11_0 =>
                    bif w11_0 then
                      k0 true
                    else k0 false)
                else k0 false)
            else k0 false)
        else k0 false)
    else G.path_Good ρ a4 a5 a6 (fun w12_0 =>
      bif w12_0 then
        G.strings_ContainsAny ρ w0_1 ([66, 98]) (fun w13_0 =>
          bif w13_0 then
            bif ((w0_1 : Bys) != []) then
              G.path_Good ρ a1 a2 a3 (fun w14_0 =>
                bif w14_0 then
                  G.call_numbers ρ a0 a1 a2 a3 a4 a5 a6 a7 a8 a9 (fun w15_0 =>
                    bif w15_0 then
                      bif ((a9 : Int) == 0) then
                        k0 true
                      else G.strings_Contains ρ w0_1 [87] (fun w16_0 =>
                        bif w16_0 then
                          k0 true
                        else k0 false)
                    else k0 false)
                else k0 false)
            else k0 false
          else bif ((w0_1 : Bys) != []) then
            G.path_Good ρ a1 a2 a3 (fun w17_0 =>
              bif w17_0 then
                k0 false
              else k0 false)
          else k0 false)
      else bif ((w0_1 : Bys) != []) then
        G.path_Good ρ a1 a2 a3 (fun w18_0 =>
          bif w18_0 then
            k0 false
          else k0 false)
      else k0 false))
noncomputable def call_Good_g (n : Nat) : call_Good_G := ⟨call_fields n, strings_Contains n, path_Good n, strings_ContainsAny n, call_numbers n⟩
noncomputable def call_Good (n : Nat) : call_Good_T := fun _ρ a0 a1 a2 a3 a4 a5 a6 a7 a8 a9 k0 => call_Good_s (call_Good_g n) n a0 a1 a2 a3 a4 a5 a6 a7 a8 a9 k0
noncomputable def call_Good_e (n : Nat) : EK := call_Good_E (call_Good n)
def call_Good_S (G : call_Good_G) : CK := tabS [(47, call_fields_E G.call_fields), (48, strings_Contains_E G.strings_Contains), (49, path_Good_E G.path_Good), (50, strings_ContainsAny_E G.strings_ContainsAny), (51, call_numbers_E G.call_numbers)]
theorem call_Good_Sok (n : Nat) : CK.OK (call_Good_S (call_Good_g n)) (L tab) := tabS_ok _ (List.forall_mem_cons.2 ⟨(call_fields_ok n), List.forall_mem_cons.2 ⟨(strings_Contains_ok n), List.forall_mem_cons.2 ⟨(path_Good_ok n), List.forall_mem_cons.2 ⟨(strings_ContainsAny_ok n), List.forall_mem_cons.2 ⟨(call_numbers_ok n), (fun _ h => nomatch h)⟩⟩⟩⟩⟩)
def call_Good_hs : HintC := hintL []
noncomputable def call_Good_lp (_G : call_Good_G) (_n : Nat) : LK := tabL []
theorem call_Good_k (G : call_Good_G) {ρ : Type} (n : Nat) (a0 : Int) (a1 : Bool) (a2 : Bool) (a3 : Rows) (a4 : Bool) (a5 : Bool) (a6 : Rows) (a7 : Int) (a8 : Int) (a9 : Int) (K : Res → Option ρ) : runC (call_Good_S G) call_Good_hs (call_Good_lp G n) m20 [.agg [.i .i64 a0, .lst a1 a2 1 a3, .lst a4 a5 1 a6, .i .i64 a7, .i .i64 a8, .i .u64 a9]] K = call_Good_s G n a0 a1 a2 a3 a4 a5 a6 a7 a8 a9 (fun w0 => K ⟨.b w0, [], []⟩) := by kernel_rfl
theorem call_Good_ok (n : Nat) : EK.OK (call_Good_e n) 20 (L tab) := EK.shp (fun _ _ _ => rfl) fun ρ K y c e => EK.run (call_Good_Sok n) (by kernel_rfl) (MF.LKOK.of (LK.of (l := []) (by kernel_rfl) ((fun _ h => nomatch h)))) (call_Good_k (call_Good_g n) n _ _ _ _ _ _ _ _ _ _ K) (by kernel_rfl) e

/-! reeve/cap.None -/
abbrev cap_None_T : Type 1 := (ρ : Type) → Int → Int → Int → Int → (Bool → Option ρ) → Option ρ
def cap_None_E (G : cap_None_T) : EK := fun ρ args K => decL [.agg [.i .i64 none, .i .i64 none, .i .i64 none, .i .i64 none]] args fun c => G ρ c.1.1 c.1.2.1 c.1.2.2.1 c.1.2.2.2.1 (fun w0 => K ⟨.b w0, [], []⟩)
structure cap_None_G where
  mk ::
noncomputable def cap_None_s (_G : cap_None_G) {ρ : Type} (_n : Nat) (a0 : Int) (a1 : Int) (a2 : Int) (a3 : Int) (k0 : (Bool → Option ρ)) : Option ρ :=
  bif (((a0 : Int) == 0) && (((a1 : Int) == 0) && (((a2 : Int) == 0) && (((a3 : Int) == 0) && true)))) then
    k0 true
  else k0 false
noncomputable def cap_None_g (_n : Nat) : cap_None_G := ⟨⟩
noncomputable def cap_None (n : Nat) : cap_None_T := fun _ρ a0 a1 a2 a3 k0 => cap_None_s (cap_None_g n) n a0 a1 a2 a3 k0
noncomputable def cap_None_e (n : Nat) : EK := cap_None_E (cap_None n)
def cap_None_S (_G : cap_None_G) : CK := tabS []
theorem cap_None_Sok (n : Nat) : CK.OK (cap_None_S (cap_None_g n)) (L tab) := tabS_ok _ ((fun _ h => nomatch h))
def cap_None_hs : HintC := hintL []
noncomputable def cap_None_lp (_G : cap_None_G) (_n : Nat) : LK := tabL []
theorem cap_None_k (G : cap_None_G) {ρ : Type} (n : Nat) (a0 : Int) (a1 : Int) (a2 : Int) (a3 : Int) (K : Res → Option ρ) : runC (cap_None_S G) cap_None_hs (cap_None_lp G n) m24 [.agg [.i .i64 a0, .i .i64 a1, .i .i64 a2, .i .i64 a3]] K = cap_None_s G n a0 a1 a2 a3 (fun w0 => K ⟨.b w0, [], []⟩) := by kernel_rfl
theorem cap_None_ok (n : Nat) : EK.OK (cap_None_e n) 24 (L tab) := EK.shp (fun _ _ _ => rfl) fun ρ K y c e => EK.run (cap_None_Sok n) (by kernel_rfl) (MF.LKOK.of (LK.of (l := []) (by kernel_rfl) ((fun _ h => nomatch h)))) (cap_None_k (cap_None_g n) n _ _ _ _ K) (by kernel_rfl) e

/-! reeve/cap.in -/
abbrev cap_in_T : Type 1 := (ρ : Type) → Int → Int → Int → (Bool → Option ρ) → Option ρ
def cap_in_E (G : cap_in_T) : EK := fun ρ args K => decL [.i .i64 none, .i .i64 none, .i .i64 none] args fun c => G ρ c.1 c.2.1 c.2.2.1 (fun w0 => K ⟨.b w0, [], []⟩)
structure cap_in_G where
  mk ::
noncomputable def cap_in_s (_G : cap_in_G) {ρ : Type} (_n : Nat) (a0 : Int) (a1 : Int) (a2 : Int) (k0 : (Bool → Option ρ)) : Option ρ :=
  bif decide ((a0 : Int) ≥ a1) then
    bif decide ((a0 : Int) ≤ a2) then
      k0 true
    else k0 false
  else k0 false
noncomputable def cap_in_g (_n : Nat) : cap_in_G := ⟨⟩
noncomputable def cap_in (n : Nat) : cap_in_T := fun _ρ a0 a1 a2 k0 => cap_in_s (cap_in_g n) n a0 a1 a2 k0
noncomputable def cap_in_e (n : Nat) : EK := cap_in_E (cap_in n)
def cap_in_S (_G : cap_in_G) : CK := tabS []
theorem cap_in_Sok (n : Nat) : CK.OK (cap_in_S (cap_in_g n)) (L tab) := tabS_ok _ ((fun _ h => nomatch h))
def cap_in_hs : HintC := hintL []
noncomputable def cap_in_lp (_G : cap_in_G) (_n : Nat) : LK := tabL []
theorem cap_in_k (G : cap_in_G) {ρ : Type} (n : Nat) (a0 : Int) (a1 : Int) (a2 : Int) (K : Res → Option ρ) : runC (cap_in_S G) cap_in_hs (cap_in_lp G n) m25 [.i .i64 a0, .i .i64 a1, .i .i64 a2] K = cap_in_s G n a0 a1 a2 (fun w0 => K ⟨.b w0, [], []⟩) := by kernel_rfl
theorem cap_in_ok (n : Nat) : EK.OK (cap_in_e n) 25 (L tab) := EK.shp (fun _ _ _ => rfl) fun ρ K y c e => EK.run (cap_in_Sok n) (by kernel_rfl) (MF.LKOK.of (LK.of (l := []) (by kernel_rfl) ((fun _ h => nomatch h)))) (cap_in_k (cap_in_g n) n _ _ _ K) (by kernel_rfl) e

/-! reeve/right.Badge -/
abbrev right_Badge_T : Type 1 := (ρ : Type) → Int → (Bool → Option ρ) → Option ρ
def right_Badge_E (G : right_Badge_T) : EK := fun ρ args K => decL [.i .i64 none] args fun c => G ρ c.1 (fun w0 => K ⟨.b w0, [], []⟩)
structure right_Badge_G where
  mk ::
noncomputable def right_Badge_s (_G : right_Badge_G) {ρ : Type} (_n : Nat) (a0 : Int) (k0 : (Bool → Option ρ)) : Option ρ :=
  bif decide ((a0 : Int) ≥ 0) then
    bif decide ((a0 : Int) ≤ 65535) then
      k0 true
    else k0 false
  else k0 false
noncomputable def right_Badge_g (_n : Nat) : right_Badge_G := ⟨⟩
noncomputable def right_Badge (n : Nat) : right_Badge_T := fun _ρ a0 k0 => right_Badge_s (right_Badge_g n) n a0 k0
noncomputable def right_Badge_e (n : Nat) : EK := right_Badge_E (right_Badge n)
def right_Badge_S (_G : right_Badge_G) : CK := tabS []
theorem right_Badge_Sok (n : Nat) : CK.OK (right_Badge_S (right_Badge_g n)) (L tab) := tabS_ok _ ((fun _ h => nomatch h))
def right_Badge_hs : HintC := hintL []
noncomputable def right_Badge_lp (_G : right_Badge_G) (_n : Nat) : LK := tabL []
theorem right_Badge_k (G : right_Badge_G) {ρ : Type} (n : Nat) (a0 : Int) (K : Res → Option ρ) : runC (right_Badge_S G) right_Badge_hs (right_Badge_lp G n) m27 [.i .i64 a0] K = right_Badge_s G n a0 (fun w0 => K ⟨.b w0, [], []⟩) := by kernel_rfl
theorem right_Badge_ok (n : Nat) : EK.OK (right_Badge_e n) 27 (L tab) := EK.shp (fun _ _ _ => rfl) fun ρ K y c e => EK.run (right_Badge_Sok n) (by kernel_rfl) (MF.LKOK.of (LK.of (l := []) (by kernel_rfl) ((fun _ h => nomatch h)))) (right_Badge_k (right_Badge_g n) n _ K) (by kernel_rfl) e

/-! reeve/cap.badged -/
abbrev cap_badged_T : Type 1 := (ρ : Type) → Int → (Bool → Option ρ) → Option ρ
def cap_badged_E (G : cap_badged_T) : EK := fun ρ args K => decL [.i .i64 none] args fun c => G ρ c.1 (fun w0 => K ⟨.b w0, [], []⟩)
structure cap_badged_G where
  mk ::
noncomputable def cap_badged_s (_G : cap_badged_G) {ρ : Type} (_n : Nat) (a0 : Int) (k0 : (Bool → Option ρ)) : Option ρ :=
  bif ((a0 : Int) == 3) then
    k0 true
  else bif ((a0 : Int) == 4) then
    k0 true
  else k0 false
noncomputable def cap_badged_g (_n : Nat) : cap_badged_G := ⟨⟩
noncomputable def cap_badged (n : Nat) : cap_badged_T := fun _ρ a0 k0 => cap_badged_s (cap_badged_g n) n a0 k0
noncomputable def cap_badged_e (n : Nat) : EK := cap_badged_E (cap_badged n)
def cap_badged_S (_G : cap_badged_G) : CK := tabS []
theorem cap_badged_Sok (n : Nat) : CK.OK (cap_badged_S (cap_badged_g n)) (L tab) := tabS_ok _ ((fun _ h => nomatch h))
def cap_badged_hs : HintC := hintL []
noncomputable def cap_badged_lp (_G : cap_badged_G) (_n : Nat) : LK := tabL []
theorem cap_badged_k (G : cap_badged_G) {ρ : Type} (n : Nat) (a0 : Int) (K : Res → Option ρ) : runC (cap_badged_S G) cap_badged_hs (cap_badged_lp G n) m28 [.i .i64 a0] K = cap_badged_s G n a0 (fun w0 => K ⟨.b w0, [], []⟩) := by kernel_rfl
theorem cap_badged_ok (n : Nat) : EK.OK (cap_badged_e n) 28 (L tab) := EK.shp (fun _ _ _ => rfl) fun ρ K y c e => EK.run (cap_badged_Sok n) (by kernel_rfl) (MF.LKOK.of (LK.of (l := []) (by kernel_rfl) ((fun _ h => nomatch h)))) (cap_badged_k (cap_badged_g n) n _ K) (by kernel_rfl) e

/-! reeve/cap.Good -/
abbrev cap_Good_T : Type 1 := (ρ : Type) → Int → Int → Int → Int → (Bool → Option ρ) → Option ρ
def cap_Good_E (G : cap_Good_T) : EK := fun ρ args K => decL [.agg [.i .i64 none, .i .i64 none, .i .i64 none, .i .i64 none]] args fun c => G ρ c.1.1 c.1.2.1 c.1.2.2.1 c.1.2.2.2.1 (fun w0 => K ⟨.b w0, [], []⟩)
structure cap_Good_G where
  mk ::
  cap_None : cap_None_T
  cap_in : cap_in_T
  right_Good : right_Good_T
  right_Badge : right_Badge_T
  cap_badged : cap_badged_T
noncomputable def cap_Good_s (G : cap_Good_G) {ρ : Type} (_n : Nat) (a0 : Int) (a1 : Int) (a2 : Int) (a3 : Int) (k0 : (Bool → Option ρ)) : Option ρ :=
  G.cap_None ρ a0 a1 a2 a3 (fun w0_0 =>
    bif w0_0 then
      k0 true
    else G.cap_in ρ a0 1 5 (fun w1_0 =>
      bif w1_0 then
        G.cap_in ρ a1 0 47 (fun w2_0 =>
          bif w2_0 then
            G.right_Good ρ a2 (fun w3_0 =>
              bif w3_0 then
                G.right_Badge ρ a3 (fun w4_0 =>
                  bif w4_0 then
                    bif ((a3 : Int) == 0) then
                      k0 true
                    else G.cap_badged ρ a0 (fun w5_0 =>
                      bif w5_0 then
                        k0 true
                      else k0 false)
                  else k0 false)
              else k0 false)
          else k0 false)
      else k0 false))
noncomputable def cap_Good_g (n : Nat) : cap_Good_G := ⟨cap_None n, cap_in n, right_Good n, right_Badge n, cap_badged n⟩
noncomputable def cap_Good (n : Nat) : cap_Good_T := fun _ρ a0 a1 a2 a3 k0 => cap_Good_s (cap_Good_g n) n a0 a1 a2 a3 k0
noncomputable def cap_Good_e (n : Nat) : EK := cap_Good_E (cap_Good n)
def cap_Good_S (G : cap_Good_G) : CK := tabS [(24, cap_None_E G.cap_None), (25, cap_in_E G.cap_in), (26, right_Good_E G.right_Good), (27, right_Badge_E G.right_Badge), (28, cap_badged_E G.cap_badged)]
theorem cap_Good_Sok (n : Nat) : CK.OK (cap_Good_S (cap_Good_g n)) (L tab) := tabS_ok _ (List.forall_mem_cons.2 ⟨(cap_None_ok n), List.forall_mem_cons.2 ⟨(cap_in_ok n), List.forall_mem_cons.2 ⟨(right_Good_ok n), List.forall_mem_cons.2 ⟨(right_Badge_ok n), List.forall_mem_cons.2 ⟨(cap_badged_ok n), (fun _ h => nomatch h)⟩⟩⟩⟩⟩)
def cap_Good_hs : HintC := hintL []
noncomputable def cap_Good_lp (_G : cap_Good_G) (_n : Nat) : LK := tabL []
theorem cap_Good_k (G : cap_Good_G) {ρ : Type} (n : Nat) (a0 : Int) (a1 : Int) (a2 : Int) (a3 : Int) (K : Res → Option ρ) : runC (cap_Good_S G) cap_Good_hs (cap_Good_lp G n) m9 [.agg [.i .i64 a0, .i .i64 a1, .i .i64 a2, .i .i64 a3]] K = cap_Good_s G n a0 a1 a2 a3 (fun w0 => K ⟨.b w0, [], []⟩) := by kernel_rfl
theorem cap_Good_ok (n : Nat) : EK.OK (cap_Good_e n) 9 (L tab) := EK.shp (fun _ _ _ => rfl) fun ρ K y c e => EK.run (cap_Good_Sok n) (by kernel_rfl) (MF.LKOK.of (LK.of (l := []) (by kernel_rfl) ((fun _ h => nomatch h)))) (cap_Good_k (cap_Good_g n) n _ _ _ _ K) (by kernel_rfl) e

/-! (reeve/state.State).there -/
abbrev state_State_there_T : Type 1 := (ρ : Type) → Int → Int → Int → Bool → Bool → Rows → Bool → Bool → Rows → Int → (Bool → Option ρ) → Option ρ
def state_State_there_E (G : state_State_there_T) : EK := fun ρ args K => decL [.agg [.i .i64 none, .i .i64 none, .i .i64 none, .lst none none 5 none, .lst none none 13 none], .i .i64 none] args fun c => G ρ c.1.1 c.1.2.1 c.1.2.2.1 c.1.2.2.2.1.1 c.1.2.2.2.1.2.1 c.1.2.2.2.1.2.2 c.1.2.2.2.2.1.1 c.1.2.2.2.2.1.2.1 c.1.2.2.2.2.1.2.2 c.2.1 (fun w0 => K ⟨.b w0, [], []⟩)
structure state_State_there_G where
  mk ::
noncomputable def state_State_there_s (_G : state_State_there_G) {ρ : Type} (_n : Nat) (_a0 : Int) (_a1 : Int) (_a2 : Int) (_a3 : Bool) (_a4 : Bool) (_a5 : Rows) (_a6 : Bool) (_a7 : Bool) (a8 : Rows) (a9 : Int) (k0 : (Bool → Option ρ)) : Option ρ :=
  bif decide ((a9 : Int) ≥ 0) then
    bif decide ((a9 : Int) < (((List.length (a8 : Rows)) : Nat) : Int)) then
      rowT [.i .i64, .i .i64, .i .i64, .i .i64, .i .i64, .i .i64, .i .i64, .b, .i .u64, .i .u64, .i .u64, .i .u64, .i .u64] a8 a9 fun c0 =>
      bif ((c0.1 : Int) != 0) then
        k0 true
      else k0 false
    else k0 false
  else k0 false
noncomputable def state_State_there_g (_n : Nat) : state_State_there_G := ⟨⟩
noncomputable def state_State_there (n : Nat) : state_State_there_T := fun _ρ a0 a1 a2 a3 a4 a5 a6 a7 a8 a9 k0 => state_State_there_s (state_State_there_g n) n a0 a1 a2 a3 a4 a5 a6 a7 a8 a9 k0
noncomputable def state_State_there_e (n : Nat) : EK := state_State_there_E (state_State_there n)
def state_State_there_S (_G : state_State_there_G) : CK := tabS []
theorem state_State_there_Sok (n : Nat) : CK.OK (state_State_there_S (state_State_there_g n)) (L tab) := tabS_ok _ ((fun _ h => nomatch h))
def state_State_there_hs : HintC := hintL [(18, [.i .i64, .i .i64, .i .i64, .i .i64, .i .i64, .i .i64, .i .i64, .b, .i .u64, .i .u64, .i .u64, .i .u64, .i .u64])]
noncomputable def state_State_there_lp (_G : state_State_there_G) (_n : Nat) : LK := tabL []
theorem state_State_there_k (G : state_State_there_G) {ρ : Type} (n : Nat) (a0 : Int) (a1 : Int) (a2 : Int) (a3 : Bool) (a4 : Bool) (a5 : Rows) (a6 : Bool) (a7 : Bool) (a8 : Rows) (a9 : Int) (K : Res → Option ρ) : runC (state_State_there_S G) state_State_there_hs (state_State_there_lp G n) m60 [.agg [.i .i64 a0, .i .i64 a1, .i .i64 a2, .lst a3 a4 5 a5, .lst a6 a7 13 a8], .i .i64 a9] K = state_State_there_s G n a0 a1 a2 a3 a4 a5 a6 a7 a8 a9 (fun w0 => K ⟨.b w0, [], []⟩) := by kernel_rfl
theorem state_State_there_ok (n : Nat) : EK.OK (state_State_there_e n) 60 (L tab) := EK.shp (fun _ _ _ => rfl) fun ρ K y c e => EK.run (state_State_there_Sok n) (by kernel_rfl) (MF.LKOK.of (LK.of (l := []) (by kernel_rfl) ((fun _ h => nomatch h)))) (state_State_there_k (state_State_there_g n) n _ _ _ _ _ _ _ _ _ _ K) (by kernel_rfl) e

end Go.Rv
/- functions as programs of ours, and their ties, part 1 -/
namespace Go.Rv
/-! (reeve/state.State).caps -/
abbrev state_State_caps_T : Type 1 := (ρ : Type) → Int → Int → Int → Bool → Bool → Rows → Bool → Bool → Rows → (Bool → Option ρ) → Option ρ
def state_State_caps_E (G : state_State_caps_T) : EK := fun ρ args K => decL [.agg [.i .i64 none, .i .i64 none, .i .i64 none, .lst none none 5 none, .lst none none 13 none]] args fun c => G ρ c.1.1 c.1.2.1 c.1.2.2.1 c.1.2.2.2.1.1 c.1.2.2.2.1.2.1 c.1.2.2.2.1.2.2 c.1.2.2.2.2.1.1 c.1.2.2.2.2.1.2.1 c.1.2.2.2.2.1.2.2 (fun w0 => K ⟨.b w0, [], []⟩)
structure state_State_caps_G where
  mk ::
  cap_Good : cap_Good_T
  cap_None : cap_None_T
  state_State_there : state_State_there_T
abbrev state_State_caps_l2_V : Type := Int
noncomputable def state_State_caps_l2_s (G : state_State_caps_G) {ρ : Type} (_n : Nat) (_p0 : Bool) (_p1 : Bool) (p2 : Rows) (p3 : Int) (p4 : Int) (p5 : Int) (p6 : Int) (p7 : Bool) (p8 : Bool) (p9 : Rows) (p10 : Bool) (p11 : Bool) (p12 : Rows) (k0 : (Option ρ)) (k1 : (Option ρ)) (rec' : state_State_caps_l2_V → Option ρ) : state_State_caps_l2_V → Option ρ
  | v =>
  bif decide ((v : Int) < p3) then
    rowT [.i .i64, .i .i64, .i .i64, .i .i64, .i .i64] p2 v fun c0 =>
    G.cap_Good ρ c0.1 c0.2.1 c0.2.2.1 c0.2.2.2.1 (fun w1_0 =>
      bif w1_0 then
        G.cap_None ρ c0.1 c0.2.1 c0.2.2.1 c0.2.2.2.1 (fun w2_0 =>
          bif w2_0 then
            bif ((c0.2.2.2.2.1 : Int) != (-1)) then
              k0
            else G.cap_None ρ c0.1 c0.2.1 c0.2.2.1 c0.2.2.2.1 (fun w3_0 =>
              bif w3_0 then
                G.cap_None ρ c0.1 c0.2.1 c0.2.2.1 c0.2.2.2.1 (fun w4_0 =>
                  bif w4_0 then
                    rec' ((IntKind.wrap .i64 (v + 1)))
                  else G.state_State_there ρ p4 p5 p6 p7 p8 p9 p10 p11 p12 c0.2.1 (fun w5_0 =>
                    bif w5_0 then
                      rowT [.i .i64, .i .i64, .i .i64, .i .i64, .i .i64, .i .i64, .i .i64, .b, .i .u64, .i .u64, .i .u64, .i .u64, .i .u64] p12 c0.2.1 fun c6 =>
                      bif ((c6.1 : Int) != c0.1) then
                        k0
                      else rec' ((IntKind.wrap .i64 (v + 1)))
                    else k0))
              else bif decide ((c0.2.2.2.2.1 : Int) < (-1)) then
                k0
              else G.cap_None ρ c0.1 c0.2.1 c0.2.2.1 c0.2.2.2.1 (fun w7_0 =>
                bif w7_0 then
                  rec' ((IntKind.wrap .i64 (v + 1)))
                else G.state_State_there ρ p4 p5 p6 p7 p8 p9 p10 p11 p12 c0.2.1 (fun w8_0 =>
                  bif w8_0 then
                    rowT [.i .i64, .i .i64, .i .i64, .i .i64, .i .i64, .i .i64, .i .i64, .b, .i .u64, .i .u64, .i .u64, .i .u64, .i .u64] p12 c0.2.1 fun c9 =>
                    bif ((c9.1 : Int) != c0.1) then
                      k0
                    else rec' ((IntKind.wrap .i64 (v + 1)))
                  else k0)))
          else G.cap_None ρ c0.1 c0.2.1 c0.2.2.1 c0.2.2.2.1 (fun w10_0 =>
            bif w10_0 then
              G.cap_None ρ c0.1 c0.2.1 c0.2.2.1 c0.2.2.2.1 (fun w11_0 =>
                bif w11_0 then
                  rec' ((IntKind.wrap .i64 (v + 1)))
                else G.state_State_there ρ p4 p5 p6 p7 p8 p9 p10 p11 p12 c0.2.1 (fun w12_0 =>
                  bif w12_0 then
                    rowT [.i .i64, .i .i64, .i .i64, .i .i64, .i .i64, .i .i64, .i .i64, .b, .i .u64, .i .u64, .i .u64, .i .u64, .i .u64] p12 c0.2.1 fun c13 =>
                    bif ((c13.1 : Int) != c0.1) then
                      k0
                    else rec' ((IntKind.wrap .i64 (v + 1)))
                  else k0))
            else bif decide ((c0.2.2.2.2.1 : Int) < (-1)) then
              k0
            else G.cap_None ρ c0.1 c0.2.1 c0.2.2.1 c0.2.2.2.1 (fun w14_0 =>
              bif w14_0 then
                rec' ((IntKind.wrap .i64 (v + 1)))
              else G.state_State_there ρ p4 p5 p6 p7 p8 p9 p10 p11 p12 c0.2.1 (fun w15_0 =>
                bif w15_0 then
                  rowT [.i .i64, .i .i64, .i .i64, .i .i64, .i .i64, .i .i64, .i .i64, .b, .i .u64, .i .u64, .i .u64, .i .u64, .i .u64] p12 c0.2.1 fun c16 =>
                  bif ((c16.1 : Int) != c0.1) then
                    k0
                  else rec' ((IntKind.wrap .i64 (v + 1)))
                else k0))))
      else k0)
  else k1
noncomputable def state_State_caps_l2 (G : state_State_caps_G) {ρ : Type} (n : Nat) (p0 : Bool) (p1 : Bool) (p2 : Rows) (p3 : Int) (p4 : Int) (p5 : Int) (p6 : Int) (p7 : Bool) (p8 : Bool) (p9 : Rows) (p10 : Bool) (p11 : Bool) (p12 : Rows) (k0 : (Option ρ)) (k1 : (Option ρ)) (v : state_State_caps_l2_V) : Option ρ := fuelN (state_State_caps_l2_s G n p0 p1 p2 p3 p4 p5 p6 p7 p8 p9 p10 p11 p12 k0 k1) n v
def state_State_caps_l2_enc (p0 : Bool) (p1 : Bool) (p2 : Rows) (p3 : Int) (p4 : Int) (p5 : Int) (p6 : Int) (p7 : Bool) (p8 : Bool) (p9 : Rows) (p10 : Bool) (p11 : Bool) (p12 : Rows) : state_State_caps_l2_V → St
  | v => ⟨[(1, .ptr 0 1 5 0 0), (7, .lst p0 p1 5 p2), (8, .i .i64 p3), (9, .i .i64 v)], [.row 5 true false [[.i .i64 p4, .i .i64 p5, .i .i64 p6, .lst p7 p8 5 p9, .lst p10 p11 13 p12]]]⟩
noncomputable def state_State_caps_s (G : state_State_caps_G) {ρ : Type} (n : Nat) (a0 : Int) (a1 : Int) (a2 : Int) (a3 : Bool) (a4 : Bool) (a5 : Rows) (a6 : Bool) (a7 : Bool) (a8 : Rows) (k0 : (Bool → Option ρ)) : Option ρ :=
  state_State_caps_l2 G n a3 a4 a5 (((List.length (a5 : Rows)) : Nat) : Int) a0 a1 a2 a3 a4 a5 a6 a7 a8 (k0 false) (k0 true) (0)
noncomputable def state_State_caps_g (n : Nat) : state_State_caps_G := ⟨cap_Good n, cap_None n, state_State_there n⟩
noncomputable def state_State_caps (n : Nat) : state_State_caps_T := fun _ρ a0 a1 a2 a3 a4 a5 a6 a7 a8 k0 => state_State_caps_s (state_State_caps_g n) n a0 a1 a2 a3 a4 a5 a6 a7 a8 k0
noncomputable def state_State_caps_e (n : Nat) : EK := state_State_caps_E (state_State_caps n)
def state_State_caps_S (G : state_State_caps_G) : CK := tabS [(9, cap_Good_E G.cap_Good), (24, cap_None_E G.cap_None), (60, state_State_there_E G.state_State_there)]
theorem state_State_caps_Sok (n : Nat) : CK.OK (state_State_caps_S (state_State_caps_g n)) (L tab) := tabS_ok _ (List.forall_mem_cons.2 ⟨(cap_Good_ok n), List.forall_mem_cons.2 ⟨(cap_None_ok n), List.forall_mem_cons.2 ⟨(state_State_there_ok n), (fun _ h => nomatch h)⟩⟩⟩)
def state_State_caps_hs : HintC := hintL [(11, [.i .i64, .i .i64, .i .i64, .i .i64, .i .i64]), (50, [.i .i64, .i .i64, .i .i64, .i .i64, .i .i64, .i .i64, .i .i64, .b, .i .u64, .i .u64, .i .u64, .i .u64, .i .u64])]
def state_State_caps_c2 : Nat × List Nat × List Nat × MC := loopAt 2 m37
noncomputable def state_State_caps_l2_d (G : state_State_caps_G) (n : Nat) : Go.Rv.LE := fun _ρ h K => decSt [(1, .ptr 0 5 0 (some 1) (some 0)), (7, .lst none none 5 none), (8, .i .i64 none), (9, .i .i64 none)] [.row 5 true false (some [[.i .i64 none, .i .i64 none, .i .i64 none, .lst none none 5 none, .lst none none 13 none]])] h fun a b => state_State_caps_l2 G n a.2.1.1 a.2.1.2.1 a.2.1.2.2 a.2.2.1 b.1.1.1 b.1.1.2.1 b.1.1.2.2.1 b.1.1.2.2.2.1.1 b.1.1.2.2.2.1.2.1 b.1.1.2.2.2.1.2.2 b.1.1.2.2.2.2.1.1 b.1.1.2.2.2.2.1.2.1 b.1.1.2.2.2.2.1.2.2 (K .ret ⟨[(2, .b false)], [.row 5 true false [[.i .i64 b.1.1.1, .i .i64 b.1.1.2.1, .i .i64 b.1.1.2.2.1, .lst b.1.1.2.2.2.1.1 b.1.1.2.2.2.1.2.1 5 b.1.1.2.2.2.1.2.2, .lst b.1.1.2.2.2.2.1.1 b.1.1.2.2.2.2.1.2.1 13 b.1.1.2.2.2.2.1.2.2]]]⟩) (K (.exit 0) ⟨[(2, .u)], [.row 5 true false [[.i .i64 b.1.1.1, .i .i64 b.1.1.2.1, .i .i64 b.1.1.2.2.1, .lst b.1.1.2.2.2.1.1 b.1.1.2.2.2.1.2.1 5 b.1.1.2.2.2.1.2.2, .lst b.1.1.2.2.2.2.1.1 b.1.1.2.2.2.2.1.2.1 13 b.1.1.2.2.2.2.1.2.2]]]⟩) (a.2.2.2.1)
noncomputable def state_State_caps_d2 (G : state_State_caps_G) (n : Nat) : Go.Rv.LE := state_State_caps_l2_d G n
noncomputable def state_State_caps_lp (G : state_State_caps_G) (n : Nat) : LK := tabL [(2, state_State_caps_d2 G n)]
theorem state_State_caps_l2_k (G : state_State_caps_G) {ρ : Type} (n : Nat) (p0 : Bool) (p1 : Bool) (p2 : Rows) (p3 : Int) (p4 : Int) (p5 : Int) (p6 : Int) (p7 : Bool) (p8 : Bool) (p9 : Rows) (p10 : Bool) (p11 : Bool) (p12 : Rows) (K : Ex → St → Option ρ) (N : St → Option ρ) : ∀ v, roundC (state_State_caps_S G) state_State_caps_hs (state_State_caps_lp G n) state_State_caps_c2 1 N K (state_State_caps_l2_enc p0 p1 p2 p3 p4 p5 p6 p7 p8 p9 p10 p11 p12 v) = state_State_caps_l2_s G n p0 p1 p2 p3 p4 p5 p6 p7 p8 p9 p10 p11 p12 (K .ret ⟨[(2, .b false)], [.row 5 true false [[.i .i64 p4, .i .i64 p5, .i .i64 p6, .lst p7 p8 5 p9, .lst p10 p11 13 p12]]]⟩) (K (.exit 0) ⟨[(2, .u)], [.row 5 true false [[.i .i64 p4, .i .i64 p5, .i .i64 p6, .lst p7 p8 5 p9, .lst p10 p11 13 p12]]]⟩) (fun v => N (state_State_caps_l2_enc p0 p1 p2 p3 p4 p5 p6 p7 p8 p9 p10 p11 p12 v)) v
  | v => by kernel_rfl
theorem state_State_caps_l2_dok (n : Nat) : LE.OK (state_State_caps_l2_d (state_State_caps_g n) n) (L tab) state_State_caps_c2 := LE.shp (fun _ _ _ => rfl) fun ρ K y a b e => LE.rounds (state_State_caps_Sok n) (LK.of (l := []) (by kernel_rfl) ((fun _ h => nomatch h))) (state_State_caps_l2_k (state_State_caps_g n) n _ _ _ _ _ _ _ _ _ _ _ _ _ K) (by kernel_rfl) (by kernel_rfl) e
theorem state_State_caps_d2_ok (n : Nat) : LE.OK (state_State_caps_d2 (state_State_caps_g n) n) (L tab) state_State_caps_c2 := state_State_caps_l2_dok n
theorem state_State_caps_k (G : state_State_caps_G) {ρ : Type} (n : Nat) (a0 : Int) (a1 : Int) (a2 : Int) (a3 : Bool) (a4 : Bool) (a5 : Rows) (a6 : Bool) (a7 : Bool) (a8 : Rows) (K : Res → Option ρ) : runC (state_State_caps_S G) state_State_caps_hs (state_State_caps_lp G n) m37 [.agg [.i .i64 a0, .i .i64 a1, .i .i64 a2, .lst a3 a4 5 a5, .lst a6 a7 13 a8]] K = state_State_caps_s G n a0 a1 a2 a3 a4 a5 a6 a7 a8 (fun w0 => K ⟨.b w0, [], []⟩) := by kernel_rfl
theorem state_State_caps_ok (n : Nat) : EK.OK (state_State_caps_e n) 37 (L tab) := EK.shp (fun _ _ _ => rfl) fun ρ K y c e => EK.run (state_State_caps_Sok n) (by kernel_rfl) (MF.LKOK.of (LK.of (l := [state_State_caps_c2]) (by kernel_rfl) (List.forall_mem_cons.2 ⟨LE.at (e := state_State_caps_d2 (state_State_caps_g n) n) (by kernel_rfl) (state_State_caps_d2_ok n), (fun _ h => nomatch h)⟩))) (state_State_caps_k (state_State_caps_g n) n _ _ _ _ _ _ _ _ _ K) (by kernel_rfl) e

/-! (reeve/state.State).holders -/
abbrev state_State_holders_T : Type 1 := (ρ : Type) → Int → Int → Int → Bool → Bool → Rows → Bool → Bool → Rows → Int → (Bool → Bool → Rows → Option ρ) → Option ρ
def state_State_holders_E (G : state_State_holders_T) : EK := fun ρ args K => decL [.agg [.i .i64 none, .i .i64 none, .i .i64 none, .lst none none 5 none, .lst none none 13 none], .i .i64 none] args fun c => G ρ c.1.1 c.1.2.1 c.1.2.2.1 c.1.2.2.2.1.1 c.1.2.2.2.1.2.1 c.1.2.2.2.1.2.2 c.1.2.2.2.2.1.1 c.1.2.2.2.2.1.2.1 c.1.2.2.2.2.1.2.2 c.2.1 (fun w0 w1 w2 => K ⟨.lst w0 w1 1 w2, [], []⟩)
structure state_State_holders_G where
  mk ::
  cap_None : cap_None_T
abbrev state_State_holders_l3_V : Type := (Int) ⊕ (Nat × Nat × Int × Rows)
noncomputable def state_State_holders_l3_s (G : state_State_holders_G) {ρ : Type} (_n : Nat) (p0 : Int) (_p1 : Bool) (_p2 : Bool) (p3 : Rows) (p4 : Int) (_p5 : Int) (_p6 : Int) (_p7 : Int) (_p8 : Bool) (_p9 : Bool) (_p10 : Rows) (_p11 : Bool) (_p12 : Bool) (_p13 : Rows) (k0 : (Option ρ)) (k1 : (Nat → Nat → Rows → Option ρ)) (rec' : state_State_holders_l3_V → Option ρ) : state_State_holders_l3_V → Option ρ
  | (.inl v) =>
  bif decide ((v : Int) < p4) then
    rowT [.i .i64, .i .i64, .i .i64, .i .i64, .i .i64] p3 v fun c0 =>
    G.cap_None ρ c0.1 c0.2.1 c0.2.2.1 c0.2.2.2.1 (fun w1_0 =>
      bif w1_0 then
        rec' (.inl ((IntKind.wrap .i64 (v + 1))))
      else bif ((c0.2.1 : Int) == p0) then
        rec' (.inr (1, 1, (IntKind.wrap .i64 (v + 1)), [[.i .i64 v]]))
      else rec' (.inl ((IntKind.wrap .i64 (v + 1)))))
  else k0
  | (.inr v) =>
  bif decide ((v.2.2.1 : Int) < p4) then
    rowT [.i .i64, .i .i64, .i .i64, .i .i64, .i .i64] p3 v.2.2.1 fun c2 =>
    G.cap_None ρ c2.1 c2.2.1 c2.2.2.1 c2.2.2.2.1 (fun w3_0 =>
      bif w3_0 then
        rec' (.inr (v.1, v.2.1, (IntKind.wrap .i64 (v.2.2.1 + 1)), v.2.2.2))
      else bif ((c2.2.1 : Int) == p0) then
        chk (((List.length (v.2.2.2 : Rows)) : Nat) == v.1) <|
        chk ((v.2.1 : Nat) == v.1) <|
        chk (decide ((v.1 + 1) ≤ most)) <|
        rec' (.inr ((v.1 + 1), (v.1 + 1), (IntKind.wrap .i64 (v.2.2.1 + 1)), (v.2.2.2 ++ [[.i .i64 v.2.2.1]])))
      else rec' (.inr (v.1, v.2.1, (IntKind.wrap .i64 (v.2.2.1 + 1)), v.2.2.2)))
  else k1 v.1 v.2.1 v.2.2.2
noncomputable def state_State_holders_l3 (G : state_State_holders_G) {ρ : Type} (n : Nat) (p0 : Int) (p1 : Bool) (p2 : Bool) (p3 : Rows) (p4 : Int) (p5 : Int) (p6 : Int) (p7 : Int) (p8 : Bool) (p9 : Bool) (p10 : Rows) (p11 : Bool) (p12 : Bool) (p13 : Rows) (k0 : (Option ρ)) (k1 : (Nat → Nat → Rows → Option ρ)) (v : state_State_holders_l3_V) : Option ρ := fuelN (state_State_holders_l3_s G n p0 p1 p2 p3 p4 p5 p6 p7 p8 p9 p10 p11 p12 p13 k0 k1) n v
def state_State_holders_l3_enc (p0 : Int) (p1 : Bool) (p2 : Bool) (p3 : Rows) (p4 : Int) (p5 : Int) (p6 : Int) (p7 : Int) (p8 : Bool) (p9 : Bool) (p10 : Rows) (p11 : Bool) (p12 : Bool) (p13 : Rows) : state_State_holders_l3_V → St
  | (.inl v) => ⟨[(1, .i .i64 p0), (5, .lst true true 0 []), (9, .lst p1 p2 5 p3), (10, .i .i64 p4), (11, .i .i64 v)], [.row 5 true false [[.i .i64 p5, .i .i64 p6, .i .i64 p7, .lst p8 p9 5 p10, .lst p11 p12 13 p13]]]⟩
  | (.inr v) => ⟨[(1, .i .i64 p0), (5, .sl 1 v.1 1 0 v.2.1), (9, .lst p1 p2 5 p3), (10, .i .i64 p4), (11, .i .i64 v.2.2.1)], [.row 5 true false [[.i .i64 p5, .i .i64 p6, .i .i64 p7, .lst p8 p9 5 p10, .lst p11 p12 13 p13]], .row 1 true false v.2.2.2]⟩
noncomputable def state_State_holders_s (G : state_State_holders_G) {ρ : Type} (n : Nat) (a0 : Int) (a1 : Int) (a2 : Int) (a3 : Bool) (a4 : Bool) (a5 : Rows) (a6 : Bool) (a7 : Bool) (a8 : Rows) (a9 : Int) (k0 : (Bool → Bool → Rows → Option ρ)) : Option ρ :=
  state_State_holders_l3 G n a9 a3 a4 a5 (((List.length (a5 : Rows)) : Nat) : Int) a0 a1 a2 a3 a4 a5 a6 a7 a8 (k0 true true []) (fun w1_0 w1_1 w1_2 =>
    chk (((List.length (w1_2 : Rows)) : Nat) == w1_0) <|
    k0 false false (List.take w1_1 (List.drop 0 (w1_2 : Rows)))) (.inl (0))
noncomputable def state_State_holders_g (n : Nat) : state_State_holders_G := ⟨cap_None n⟩
noncomputable def state_State_holders (n : Nat) : state_State_holders_T := fun _ρ a0 a1 a2 a3 a4 a5 a6 a7 a8 a9 k0 => state_State_holders_s (state_State_holders_g n) n a0 a1 a2 a3 a4 a5 a6 a7 a8 a9 k0
noncomputable def state_State_holders_e (n : Nat) : EK := state_State_holders_E (state_State_holders n)
def state_State_holders_S (G : state_State_holders_G) : CK := tabS [(24, cap_None_E G.cap_None)]
theorem state_State_holders_Sok (n : Nat) : CK.OK (state_State_holders_S (state_State_holders_g n)) (L tab) := tabS_ok _ (List.forall_mem_cons.2 ⟨(cap_None_ok n), (fun _ h => nomatch h)⟩)
def state_State_holders_hs : HintC := hintL [(14, [.i .i64, .i .i64, .i .i64, .i .i64, .i .i64])]
def state_State_holders_c3 : Nat × List Nat × List Nat × MC := loopAt 3 m63
noncomputable def state_State_holders_l3_d (G : state_State_holders_G) (n : Nat) : Go.Rv.LE := fun _ρ h K => decSt [(1, .i .i64 none), (5, .lst (some true) (some true) 0 (some [])), (9, .lst none none 5 none), (10, .i .i64 none), (11, .i .i64 none)] [.row 5 true false (some [[.i .i64 none, .i .i64 none, .i .i64 none, .lst none none 5 none, .lst none none 13 none]])] h fun a b => state_State_holders_l3 G n a.1 a.2.2.1.1 a.2.2.1.2.1 a.2.2.1.2.2 a.2.2.2.1 b.1.1.1 b.1.1.2.1 b.1.1.2.2.1 b.1.1.2.2.2.1.1 b.1.1.2.2.2.1.2.1 b.1.1.2.2.2.1.2.2 b.1.1.2.2.2.2.1.1 b.1.1.2.2.2.2.1.2.1 b.1.1.2.2.2.2.1.2.2 (K (.exit 0) ⟨[(5, .lst true true 0 [])], [.row 5 true false [[.i .i64 b.1.1.1, .i .i64 b.1.1.2.1, .i .i64 b.1.1.2.2.1, .lst b.1.1.2.2.2.1.1 b.1.1.2.2.2.1.2.1 5 b.1.1.2.2.2.1.2.2, .lst b.1.1.2.2.2.2.1.1 b.1.1.2.2.2.2.1.2.1 13 b.1.1.2.2.2.2.1.2.2]]]⟩) (fun w0 w1 w2 => K (.exit 0) ⟨[(5, .sl 1 w0 1 0 w1)], [.row 5 true false [[.i .i64 b.1.1.1, .i .i64 b.1.1.2.1, .i .i64 b.1.1.2.2.1, .lst b.1.1.2.2.2.1.1 b.1.1.2.2.2.1.2.1 5 b.1.1.2.2.2.1.2.2, .lst b.1.1.2.2.2.2.1.1 b.1.1.2.2.2.2.1.2.1 13 b.1.1.2.2.2.2.1.2.2]], .row 1 true false w2]⟩) (.inl (a.2.2.2.2.1))
noncomputable def state_State_holders_d3 (G : state_State_holders_G) (n : Nat) : Go.Rv.LE := state_State_holders_l3_d G n
noncomputable def state_State_holders_lp (G : state_State_holders_G) (n : Nat) : LK := tabL [(3, state_State_holders_d3 G n)]
theorem state_State_holders_l3_k (G : state_State_holders_G) {ρ : Type} (n : Nat) (p0 : Int) (p1 : Bool) (p2 : Bool) (p3 : Rows) (p4 : Int) (p5 : Int) (p6 : Int) (p7 : Int) (p8 : Bool) (p9 : Bool) (p10 : Rows) (p11 : Bool) (p12 : Bool) (p13 : Rows) (K : Ex → St → Option ρ) (N : St → Option ρ) : ∀ v, roundC (state_State_holders_S G) state_State_holders_hs (state_State_holders_lp G n) state_State_holders_c3 1 N K (state_State_holders_l3_enc p0 p1 p2 p3 p4 p5 p6 p7 p8 p9 p10 p11 p12 p13 v) = state_State_holders_l3_s G n p0 p1 p2 p3 p4 p5 p6 p7 p8 p9 p10 p11 p12 p13 (K (.exit 0) ⟨[(5, .lst true true 0 [])], [.row 5 true false [[.i .i64 p5, .i .i64 p6, .i .i64 p7, .lst p8 p9 5 p10, .lst p11 p12 13 p13]]]⟩) (fun w0 w1 w2 => K (.exit 0) ⟨[(5, .sl 1 w0 1 0 w1)], [.row 5 true false [[.i .i64 p5, .i .i64 p6, .i .i64 p7, .lst p8 p9 5 p10, .lst p11 p12 13 p13]], .row 1 true false w2]⟩) (fun v => N (state_State_holders_l3_enc p0 p1 p2 p3 p4 p5 p6 p7 p8 p9 p10 p11 p12 p13 v)) v
  | (.inl v) => by kernel_rfl
  | (.inr v) => by kernel_rfl
theorem state_State_holders_l3_dok (n : Nat) : LE.OK (state_State_holders_l3_d (state_State_holders_g n) n) (L tab) state_State_holders_c3 := LE.shp (fun _ _ _ => rfl) fun ρ K y a b e => LE.rounds (state_State_holders_Sok n) (LK.of (l := []) (by kernel_rfl) ((fun _ h => nomatch h))) (state_State_holders_l3_k (state_State_holders_g n) n _ _ _ _ _ _ _ _ _ _ _ _ _ _ K) (by kernel_rfl) (by kernel_rfl) e
theorem state_State_holders_d3_ok (n : Nat) : LE.OK (state_State_holders_d3 (state_State_holders_g n) n) (L tab) state_State_holders_c3 := state_State_holders_l3_dok n
theorem state_State_holders_k (G : state_State_holders_G) {ρ : Type} (n : Nat) (a0 : Int) (a1 : Int) (a2 : Int) (a3 : Bool) (a4 : Bool) (a5 : Rows) (a6 : Bool) (a7 : Bool) (a8 : Rows) (a9 : Int) (K : Res → Option ρ) : runC (state_State_holders_S G) state_State_holders_hs (state_State_holders_lp G n) m63 [.agg [.i .i64 a0, .i .i64 a1, .i .i64 a2, .lst a3 a4 5 a5, .lst a6 a7 13 a8], .i .i64 a9] K = state_State_holders_s G n a0 a1 a2 a3 a4 a5 a6 a7 a8 a9 (fun w0 w1 w2 => K ⟨.lst w0 w1 1 w2, [], []⟩) := by kernel_rfl
theorem state_State_holders_ok (n : Nat) : EK.OK (state_State_holders_e n) 63 (L tab) := EK.shp (fun _ _ _ => rfl) fun ρ K y c e => EK.run (state_State_holders_Sok n) (by kernel_rfl) (MF.LKOK.of (LK.of (l := [state_State_holders_c3]) (by kernel_rfl) (List.forall_mem_cons.2 ⟨LE.at (e := state_State_holders_d3 (state_State_holders_g n) n) (by kernel_rfl) (state_State_holders_d3_ok n), (fun _ h => nomatch h)⟩))) (state_State_holders_k (state_State_holders_g n) n _ _ _ _ _ _ _ _ _ _ K) (by kernel_rfl) e

/-! (reeve/state.State).things -/
abbrev state_State_things_T : Type 1 := (ρ : Type) → Int → Int → Int → Bool → Bool → Rows → Bool → Bool → Rows → (Bool → Option ρ) → Option ρ
def state_State_things_E (G : state_State_things_T) : EK := fun ρ args K => decL [.agg [.i .i64 none, .i .i64 none, .i .i64 none, .lst none none 5 none, .lst none none 13 none]] args fun c => G ρ c.1.1 c.1.2.1 c.1.2.2.1 c.1.2.2.2.1.1 c.1.2.2.2.1.2.1 c.1.2.2.2.1.2.2 c.1.2.2.2.2.1.1 c.1.2.2.2.2.1.2.1 c.1.2.2.2.2.1.2.2 (fun w0 => K ⟨.b w0, [], []⟩)
structure state_State_things_G where
  mk ::
  thing_Good : thing_Good_T
  cap_None : cap_None_T
  state_State_holders : state_State_holders_T
  geo_Root : geo_Root_T
abbrev state_State_things_l2_V : Type := Int
noncomputable def state_State_things_l2_s (G : state_State_things_G) {ρ : Type} (_n : Nat) (_p0 : Bool) (_p1 : Bool) (p2 : Rows) (p3 : Int) (p4 : Int) (p5 : Int) (p6 : Int) (p7 : Bool) (p8 : Bool) (p9 : Rows) (p10 : Bool) (p11 : Bool) (p12 : Rows) (k0 : (Option ρ)) (k1 : (Option ρ)) (rec' : state_State_things_l2_V → Option ρ) : state_State_things_l2_V → Option ρ
  | v =>
  bif decide ((v : Int) < p3) then
    rowT [.i .i64, .i .i64, .i .i64, .i .i64, .i .i64, .i .i64, .i .i64, .b, .i .u64, .i .u64, .i .u64, .i .u64, .i .u64] p2 v fun c0 =>
    G.thing_Good ρ c0.1 c0.2.1 c0.2.2.1 c0.2.2.2.1 c0.2.2.2.2.1 c0.2.2.2.2.2.1 c0.2.2.2.2.2.2.1 c0.2.2.2.2.2.2.2.1 c0.2.2.2.2.2.2.2.2.1 c0.2.2.2.2.2.2.2.2.2.1 c0.2.2.2.2.2.2.2.2.2.2.1 c0.2.2.2.2.2.2.2.2.2.2.2.1 c0.2.2.2.2.2.2.2.2.2.2.2.2.1 (fun w1_0 =>
      bif w1_0 then
        bif decide ((c0.2.2.2.2.2.1 : Int) > 0) then
          bif decide ((c0.2.2.2.2.2.1 : Int) > (((List.length (p9 : Rows)) : Nat) : Int)) then
            k0
          else rowT [.i .i64, .i .i64, .i .i64, .i .i64, .i .i64] p9 (IntKind.wrap .i64 (c0.2.2.2.2.2.1 - 1)) fun c2 =>
          G.cap_None ρ c2.1 c2.2.1 c2.2.2.1 c2.2.2.2.1 (fun w3_0 =>
            bif w3_0 then
              k0
            else bif decide ((v : Int) ≥ 2) then
              bif decide ((v : Int) < (IntKind.wrap .i64 (2 + p4))) then
                G.geo_Root ρ p4 p5 p6 (IntKind.wrap .i64 (v - 2)) (fun w4_0 =>
                  bif (!(((c0.1 : Int) == 2) && (((c0.2.1 : Int) == 3) && (((c0.2.2.1 : Int) == w4_0) && (((c0.2.2.2.1 : Int) == 0) && (((c0.2.2.2.2.1 : Int) == 0) && (((c0.2.2.2.2.2.1 : Int) == 0) && (((c0.2.2.2.2.2.2.1 : Int) == 0) && (((c0.2.2.2.2.2.2.2.1 : Bool) == false) && (((c0.2.2.2.2.2.2.2.2.1 : Int) == 0) && (((c0.2.2.2.2.2.2.2.2.2.1 : Int) == 0) && (((c0.2.2.2.2.2.2.2.2.2.2.1 : Int) == 0) && (((c0.2.2.2.2.2.2.2.2.2.2.2.1 : Int) == 0) && (((c0.2.2.2.2.2.2.2.2.2.2.2.2.1 : Int) == 0) && true)))))))))))))) then
                    k0
                  else rec' ((IntKind.wrap .i64 (v + 1))))
              else bif ((c0.1 : Int) != 0) then
                G.state_State_holders ρ p4 p5 p6 p7 p8 p9 p10 p11 p12 v (fun _w5_0 _w5_1 w5_2 =>
                  bif (((((List.length (w5_2 : Rows)) : Nat) : Int) : Int) == 0) then
                    k0
                  else rec' ((IntKind.wrap .i64 (v + 1))))
              else rec' ((IntKind.wrap .i64 (v + 1)))
            else bif ((c0.1 : Int) != 0) then
              G.state_State_holders ρ p4 p5 p6 p7 p8 p9 p10 p11 p12 v (fun _w6_0 _w6_1 w6_2 =>
                bif (((((List.length (w6_2 : Rows)) : Nat) : Int) : Int) == 0) then
                  k0
                else rec' ((IntKind.wrap .i64 (v + 1))))
            else rec' ((IntKind.wrap .i64 (v + 1))))
        else bif decide ((v : Int) ≥ 2) then
          bif decide ((v : Int) < (IntKind.wrap .i64 (2 + p4))) then
            G.geo_Root ρ p4 p5 p6 (IntKind.wrap .i64 (v - 2)) (fun w7_0 =>
              bif (!(((c0.1 : Int) == 2) && (((c0.2.1 : Int) == 3) && (((c0.2.2.1 : Int) == w7_0) && (((c0.2.2.2.1 : Int) == 0) && (((c0.2.2.2.2.1 : Int) == 0) && (((c0.2.2.2.2.2.1 : Int) == 0) && (((c0.2.2.2.2.2.2.1 : Int) == 0) && (((c0.2.2.2.2.2.2.2.1 : Bool) == false) && (((c0.2.2.2.2.2.2.2.2.1 : Int) == 0) && (((c0.2.2.2.2.2.2.2.2.2.1 : Int) == 0) && (((c0.2.2.2.2.2.2.2.2.2.2.1 : Int) == 0) && (((c0.2.2.2.2.2.2.2.2.2.2.2.1 : Int) == 0) && (((c0.2.2.2.2.2.2.2.2.2.2.2.2.1 : Int) == 0) && true)))))))))))))) then
                k0
              else rec' ((IntKind.wrap .i64 (v + 1))))
          else bif ((c0.1 : Int) != 0) then
            G.state_State_holders ρ p4 p5 p6 p7 p8 p9 p10 p11 p12 v (fun _w8_0 _w8_1 w8_2 =>
              bif (((((List.length (w8_2 : Rows)) : Nat) : Int) : Int) == 0) then
                k0
              else rec' ((IntKind.wrap .i64 (v + 1))))
          else rec' ((IntKind.wrap .i64 (v + 1)))
        else bif ((c0.1 : Int) != 0) then
          G.state_State_holders ρ p4 p5 p6 p7 p8 p9 p10 p11 p12 v (fun _w9_0 _w9_1 w9_2 =>
            bif (((((List.length (w9_2 : Rows)) : Nat) : Int) : Int) == 0) then
              k0
            else rec' ((IntKind.wrap .i64 (v + 1))))
        else rec' ((IntKind.wrap .i64 (v + 1)))
      else k0)
  else k1
noncomputable def state_State_things_l2 (G : state_State_things_G) {ρ : Type} (n : Nat) (p0 : Bool) (p1 : Bool) (p2 : Rows) (p3 : Int) (p4 : Int) (p5 : Int) (p6 : Int) (p7 : Bool) (p8 : Bool) (p9 : Rows) (p10 : Bool) (p11 : Bool) (p12 : Rows) (k0 : (Option ρ)) (k1 : (Option ρ)) (v : state_State_things_l2_V) : Option ρ := fuelN (state_State_things_l2_s G n p0 p1 p2 p3 p4 p5 p6 p7 p8 p9 p10 p11 p12 k0 k1) n v
def state_State_things_l2_enc (p0 : Bool) (p1 : Bool) (p2 : Rows) (p3 : Int) (p4 : Int) (p5 : Int) (p6 : Int) (p7 : Bool) (p8 : Bool) (p9 : Rows) (p10 : Bool) (p11 : Bool) (p12 : Rows) : state_State_things_l2_V → St
  | v => ⟨[(1, .ptr 0 1 5 0 0), (7, .lst p0 p1 13 p2), (8, .i .i64 p3), (9, .i .i64 v)], [.row 5 true false [[.i .i64 p4, .i .i64 p5, .i .i64 p6, .lst p7 p8 5 p9, .lst p10 p11 13 p12]]]⟩
noncomputable def state_State_things_s (G : state_State_things_G) {ρ : Type} (n : Nat) (a0 : Int) (a1 : Int) (a2 : Int) (a3 : Bool) (a4 : Bool) (a5 : Rows) (a6 : Bool) (a7 : Bool) (a8 : Rows) (k0 : (Bool → Option ρ)) : Option ρ :=
  state_State_things_l2 G n a6 a7 a8 (((List.length (a8 : Rows)) : Nat) : Int) a0 a1 a2 a3 a4 a5 a6 a7 a8 (k0 false) (k0 true) (0)
noncomputable def state_State_things_g (n : Nat) : state_State_things_G := ⟨thing_Good n, cap_None n, state_State_holders n, geo_Root n⟩
noncomputable def state_State_things (n : Nat) : state_State_things_T := fun _ρ a0 a1 a2 a3 a4 a5 a6 a7 a8 k0 => state_State_things_s (state_State_things_g n) n a0 a1 a2 a3 a4 a5 a6 a7 a8 k0
noncomputable def state_State_things_e (n : Nat) : EK := state_State_things_E (state_State_things n)
def state_State_things_S (G : state_State_things_G) : CK := tabS [(61, thing_Good_E G.thing_Good), (24, cap_None_E G.cap_None), (63, state_State_holders_E G.state_State_holders), (62, geo_Root_E G.geo_Root)]
theorem state_State_things_Sok (n : Nat) : CK.OK (state_State_things_S (state_State_things_g n)) (L tab) := tabS_ok _ (List.forall_mem_cons.2 ⟨(thing_Good_ok n), List.forall_mem_cons.2 ⟨(cap_None_ok n), List.forall_mem_cons.2 ⟨(state_State_holders_ok n), List.forall_mem_cons.2 ⟨(geo_Root_ok n), (fun _ h => nomatch h)⟩⟩⟩⟩)
def state_State_things_hs : HintC := hintL [(12, [.i .i64, .i .i64, .i .i64, .i .i64, .i .i64, .i .i64, .i .i64, .b, .i .u64, .i .u64, .i .u64, .i .u64, .i .u64]), (33, [.i .i64, .i .i64, .i .i64, .i .i64, .i .i64])]
def state_State_things_c2 : Nat × List Nat × List Nat × MC := loopAt 2 m38
noncomputable def state_State_things_l2_d (G : state_State_things_G) (n : Nat) : Go.Rv.LE := fun _ρ h K => decSt [(1, .ptr 0 5 0 (some 1) (some 0)), (7, .lst none none 13 none), (8, .i .i64 none), (9, .i .i64 none)] [.row 5 true false (some [[.i .i64 none, .i .i64 none, .i .i64 none, .lst none none 5 none, .lst none none 13 none]])] h fun a b => state_State_things_l2 G n a.2.1.1 a.2.1.2.1 a.2.1.2.2 a.2.2.1 b.1.1.1 b.1.1.2.1 b.1.1.2.2.1 b.1.1.2.2.2.1.1 b.1.1.2.2.2.1.2.1 b.1.1.2.2.2.1.2.2 b.1.1.2.2.2.2.1.1 b.1.1.2.2.2.2.1.2.1 b.1.1.2.2.2.2.1.2.2 (K .ret ⟨[(2, .b false)], [.row 5 true false [[.i .i64 b.1.1.1, .i .i64 b.1.1.2.1, .i .i64 b.1.1.2.2.1, .lst b.1.1.2.2.2.1.1 b.1.1.2.2.2.1.2.1 5 b.1.1.2.2.2.1.2.2, .lst b.1.1.2.2.2.2.1.1 b.1.1.2.2.2.2.1.2.1 13 b.1.1.2.2.2.2.1.2.2]]]⟩) (K (.exit 0) ⟨[(2, .u)], [.row 5 true false [[.i .i64 b.1.1.1, .i .i64 b.1.1.2.1, .i .i64 b.1.1.2.2.1, .lst b.1.1.2.2.2.1.1 b.1.1.2.2.2.1.2.1 5 b.1.1.2.2.2.1.2.2, .lst b.1.1.2.2.2.2.1.1 b.1.1.2.2.2.2.1.2.1 13 b.1.1.2.2.2.2.1.2.2]]]⟩) (a.2.2.2.1)
noncomputable def state_State_things_d2 (G : state_State_things_G) (n : Nat) : Go.Rv.LE := state_State_things_l2_d G n
noncomputable def state_State_things_lp (G : state_State_things_G) (n : Nat) : LK := tabL [(2, state_State_things_d2 G n)]
theorem state_State_things_l2_k (G : state_State_things_G) {ρ : Type} (n : Nat) (p0 : Bool) (p1 : Bool) (p2 : Rows) (p3 : Int) (p4 : Int) (p5 : Int) (p6 : Int) (p7 : Bool) (p8 : Bool) (p9 : Rows) (p10 : Bool) (p11 : Bool) (p12 : Rows) (K : Ex → St → Option ρ) (N : St → Option ρ) : ∀ v, roundC (state_State_things_S G) state_State_things_hs (state_State_things_lp G n) state_State_things_c2 1 N K (state_State_things_l2_enc p0 p1 p2 p3 p4 p5 p6 p7 p8 p9 p10 p11 p12 v) = state_State_things_l2_s G n p0 p1 p2 p3 p4 p5 p6 p7 p8 p9 p10 p11 p12 (K .ret ⟨[(2, .b false)], [.row 5 true false [[.i .i64 p4, .i .i64 p5, .i .i64 p6, .lst p7 p8 5 p9, .lst p10 p11 13 p12]]]⟩) (K (.exit 0) ⟨[(2, .u)], [.row 5 true false [[.i .i64 p4, .i .i64 p5, .i .i64 p6, .lst p7 p8 5 p9, .lst p10 p11 13 p12]]]⟩) (fun v => N (state_State_things_l2_enc p0 p1 p2 p3 p4 p5 p6 p7 p8 p9 p10 p11 p12 v)) v
  | v => by kernel_rfl
theorem state_State_things_l2_dok (n : Nat) : LE.OK (state_State_things_l2_d (state_State_things_g n) n) (L tab) state_State_things_c2 := LE.shp (fun _ _ _ => rfl) fun ρ K y a b e => LE.rounds (state_State_things_Sok n) (LK.of (l := []) (by kernel_rfl) ((fun _ h => nomatch h))) (state_State_things_l2_k (state_State_things_g n) n _ _ _ _ _ _ _ _ _ _ _ _ _ K) (by kernel_rfl) (by kernel_rfl) e
theorem state_State_things_d2_ok (n : Nat) : LE.OK (state_State_things_d2 (state_State_things_g n) n) (L tab) state_State_things_c2 := state_State_things_l2_dok n
theorem state_State_things_k (G : state_State_things_G) {ρ : Type} (n : Nat) (a0 : Int) (a1 : Int) (a2 : Int) (a3 : Bool) (a4 : Bool) (a5 : Rows) (a6 : Bool) (a7 : Bool) (a8 : Rows) (K : Res → Option ρ) : runC (state_State_things_S G) state_State_things_hs (state_State_things_lp G n) m38 [.agg [.i .i64 a0, .i .i64 a1, .i .i64 a2, .lst a3 a4 5 a5, .lst a6 a7 13 a8]] K = state_State_things_s G n a0 a1 a2 a3 a4 a5 a6 a7 a8 (fun w0 => K ⟨.b w0, [], []⟩) := by kernel_rfl
theorem state_State_things_ok (n : Nat) : EK.OK (state_State_things_e n) 38 (L tab) := EK.shp (fun _ _ _ => rfl) fun ρ K y c e => EK.run (state_State_things_Sok n) (by kernel_rfl) (MF.LKOK.of (LK.of (l := [state_State_things_c2]) (by kernel_rfl) (List.forall_mem_cons.2 ⟨LE.at (e := state_State_things_d2 (state_State_things_g n) n) (by kernel_rfl) (state_State_things_d2_ok n), (fun _ h => nomatch h)⟩))) (state_State_things_k (state_State_things_g n) n _ _ _ _ _ _ _ _ _ K) (by kernel_rfl) e

/-! (reeve/state.State).nodes -/
abbrev state_State_nodes_T : Type 1 := (ρ : Type) → Int → Int → Int → Bool → Bool → Rows → Bool → Bool → Rows → (Bool → Option ρ) → Option ρ
def state_State_nodes_E (G : state_State_nodes_T) : EK := fun ρ args K => decL [.agg [.i .i64 none, .i .i64 none, .i .i64 none, .lst none none 5 none, .lst none none 13 none]] args fun c => G ρ c.1.1 c.1.2.1 c.1.2.2.1 c.1.2.2.2.1.1 c.1.2.2.2.1.2.1 c.1.2.2.2.1.2.2 c.1.2.2.2.2.1.1 c.1.2.2.2.2.1.2.1 c.1.2.2.2.2.1.2.2 (fun w0 => K ⟨.b w0, [], []⟩)
structure state_State_nodes_G where
  mk ::
  cap_None : cap_None_T
abbrev state_State_nodes_l7_V : Type := Int × Rows
noncomputable def state_State_nodes_l7_s (_G : state_State_nodes_G) {ρ : Type} (_n : Nat) (p0 : Nat) (p1 : Nat) (_p2 : Bool) (_p3 : Bool) (_p4 : Rows) (_p5 : Int) (_p6 : Int) (p7 : Int) (_p8 : Int) (_p9 : Int) (_p10 : Int) (_p11 : Bool) (_p12 : Bool) (_p13 : Rows) (_p14 : Bool) (_p15 : Bool) (_p16 : Rows) (_p18 : Int) (_p19 : Int) (p20 : Int) (_p21 : Int) (_p22 : Int) (_p23 : Int) (_p24 : Int) (_p25 : Bool) (_p26 : Int) (_p27 : Int) (_p28 : Int) (_p29 : Int) (_p30 : Int) (k0 : (Rows → Option ρ)) (k1 : (Rows → Option ρ)) (rec' : state_State_nodes_l7_V → Option ρ) : state_State_nodes_l7_V → Option ρ
  | v =>
  bif decide ((v.1 : Int) < p7) then
    bif decide (((IntKind.wrap .i64 (p20 + v.1)) : Int) ≥ ((p1 : Nat) : Int)) then
      k0 v.2
    else chk (decide ((0 : Int) ≤ (IntKind.wrap .i64 (p20 + v.1)))) <|
    chk (decide (((IntKind.wrap .i64 (p20 + v.1)) : Int) < ((p1 : Nat) : Int))) <|
    chk (((List.length (v.2 : Rows)) : Nat) == p0) <|
    rowN [.b] v.2 (0 + (IntKind.wrap .i64 (p20 + v.1)).toNat) fun c0 =>
    bif c0.1 then
      k0 v.2
    else chk (decide ((0 : Int) ≤ (IntKind.wrap .i64 (p20 + v.1)))) <|
    chk (decide (((IntKind.wrap .i64 (p20 + v.1)) : Int) < ((p1 : Nat) : Int))) <|
    chk (((List.length (v.2 : Rows)) : Nat) == p0) <|
    rowN [.a] v.2 (0 + (IntKind.wrap .i64 (p20 + v.1)).toNat) fun _c1 =>
    rec' ((IntKind.wrap .i64 (v.1 + 1)), (List.set (v.2 : Rows) (0 + (IntKind.wrap .i64 (p20 + v.1)).toNat) [.b true]))
  else k1 v.2
noncomputable def state_State_nodes_l7 (G : state_State_nodes_G) {ρ : Type} (n : Nat) (p0 : Nat) (p1 : Nat) (p2 : Bool) (p3 : Bool) (p4 : Rows) (p5 : Int) (p6 : Int) (p7 : Int) (p8 : Int) (p9 : Int) (p10 : Int) (p11 : Bool) (p12 : Bool) (p13 : Rows) (p14 : Bool) (p15 : Bool) (p16 : Rows) (p18 : Int) (p19 : Int) (p20 : Int) (p21 : Int) (p22 : Int) (p23 : Int) (p24 : Int) (p25 : Bool) (p26 : Int) (p27 : Int) (p28 : Int) (p29 : Int) (p30 : Int) (k0 : (Rows → Option ρ)) (k1 : (Rows → Option ρ)) (v : state_State_nodes_l7_V) : Option ρ := fuelN (state_State_nodes_l7_s G n p0 p1 p2 p3 p4 p5 p6 p7 p8 p9 p10 p11 p12 p13 p14 p15 p16 p18 p19 p20 p21 p22 p23 p24 p25 p26 p27 p28 p29 p30 k0 k1) n v
def state_State_nodes_l7_enc (p0 : Nat) (p1 : Nat) (p2 : Bool) (p3 : Bool) (p4 : Rows) (p5 : Int) (p6 : Int) (p7 : Int) (p8 : Int) (p9 : Int) (p10 : Int) (p11 : Bool) (p12 : Bool) (p13 : Rows) (p14 : Bool) (p15 : Bool) (p16 : Rows) (p18 : Int) (p19 : Int) (p20 : Int) (p21 : Int) (p22 : Int) (p23 : Int) (p24 : Int) (p25 : Bool) (p26 : Int) (p27 : Int) (p28 : Int) (p29 : Int) (p30 : Int) : state_State_nodes_l7_V → St
  | v => ⟨[(1, .ptr 0 1 5 0 0), (3, .sl 1 p0 1 0 p1), (5, .ptr 2 1 13 0 0), (15, .lst p2 p3 13 p4), (16, .i .i64 p5), (17, .i .i64 p6), (26, .i .i64 p7), (27, .i .i64 v.1)], [.row 5 true false [[.i .i64 p8, .i .i64 p9, .i .i64 p10, .lst p11 p12 5 p13, .lst p14 p15 13 p16]], .row 1 true false v.2, .row 13 true false [[.i .i64 p18, .i .i64 p19, .i .i64 p20, .i .i64 p21, .i .i64 p22, .i .i64 p23, .i .i64 p24, .b p25, .i .u64 p26, .i .u64 p27, .i .u64 p28, .i .u64 p29, .i .u64 p30]]]⟩
abbrev state_State_nodes_l3_V : Type := Int × Rows
noncomputable def state_State_nodes_l3_s (G : state_State_nodes_G) {ρ : Type} (n : Nat) (p0 : Nat) (p1 : Nat) (p2 : Bool) (p3 : Bool) (p4 : Rows) (p5 : Int) (p6 : Int) (p7 : Int) (p8 : Int) (p9 : Bool) (p10 : Bool) (p11 : Rows) (p12 : Bool) (p13 : Bool) (p14 : Rows) (k0 : (Rows → Option ρ)) (k1 : (Rows → Option ρ)) (rec' : state_State_nodes_l3_V → Option ρ) : state_State_nodes_l3_V → Option ρ
  | v =>
  bif decide ((v.1 : Int) < p5) then
    rowT [.i .i64, .i .i64, .i .i64, .i .i64, .i .i64, .i .i64, .i .i64, .b, .i .u64, .i .u64, .i .u64, .i .u64, .i .u64] p4 v.1 fun c0 =>
    bif ((c0.1 : Int) != 2) then
      rec' ((IntKind.wrap .i64 (v.1 + 1)), v.2)
    else chk (decide (0 ≤ (c0.2.1 : Int))) <|
    state_State_nodes_l7 G n p0 p1 p2 p3 p4 p5 v.1 (IntKind.wrap .i64 ((1 : Int) * 2 ^ (min c0.2.1.toNat (IntKind.bits .i64)))) p6 p7 p8 p9 p10 p11 p12 p13 p14 c0.1 c0.2.1 c0.2.2.1 c0.2.2.2.1 c0.2.2.2.2.1 c0.2.2.2.2.2.1 c0.2.2.2.2.2.2.1 c0.2.2.2.2.2.2.2.1 c0.2.2.2.2.2.2.2.2.1 c0.2.2.2.2.2.2.2.2.2.1 c0.2.2.2.2.2.2.2.2.2.2.1 c0.2.2.2.2.2.2.2.2.2.2.2.1 c0.2.2.2.2.2.2.2.2.2.2.2.2.1 (fun w1_0 =>
      k0 w1_0) (fun w2_0 =>
      rec' ((IntKind.wrap .i64 (v.1 + 1)), w2_0)) (0, v.2)
  else k1 v.2
noncomputable def state_State_nodes_l3 (G : state_State_nodes_G) {ρ : Type} (n : Nat) (p0 : Nat) (p1 : Nat) (p2 : Bool) (p3 : Bool) (p4 : Rows) (p5 : Int) (p6 : Int) (p7 : Int) (p8 : Int) (p9 : Bool) (p10 : Bool) (p11 : Rows) (p12 : Bool) (p13 : Bool) (p14 : Rows) (k0 : (Rows → Option ρ)) (k1 : (Rows → Option ρ)) (v : state_State_nodes_l3_V) : Option ρ := fuelN (state_State_nodes_l3_s G n p0 p1 p2 p3 p4 p5 p6 p7 p8 p9 p10 p11 p12 p13 p14 k0 k1) n v
def state_State_nodes_l3_enc (p0 : Nat) (p1 : Nat) (p2 : Bool) (p3 : Bool) (p4 : Rows) (p5 : Int) (p6 : Int) (p7 : Int) (p8 : Int) (p9 : Bool) (p10 : Bool) (p11 : Rows) (p12 : Bool) (p13 : Bool) (p14 : Rows) : state_State_nodes_l3_V → St
  | v => ⟨[(1, .ptr 0 1 5 0 0), (3, .sl 1 p0 1 0 p1), (15, .lst p2 p3 13 p4), (16, .i .i64 p5), (17, .i .i64 v.1)], [.row 5 true false [[.i .i64 p6, .i .i64 p7, .i .i64 p8, .lst p9 p10 5 p11, .lst p12 p13 13 p14]], .row 1 true false v.2]⟩
abbrev state_State_nodes_l16_V : Type := Int
noncomputable def state_State_nodes_l16_s (G : state_State_nodes_G) {ρ : Type} (_n : Nat) (p0 : Nat) (p1 : Nat) (_p2 : Bool) (_p3 : Bool) (p4 : Rows) (p5 : Int) (_p6 : Int) (_p7 : Int) (_p8 : Int) (_p9 : Bool) (_p10 : Bool) (_p11 : Rows) (_p12 : Bool) (_p13 : Bool) (_p14 : Rows) (p15 : Rows) (k0 : (Option ρ)) (k1 : (Option ρ)) (rec' : state_State_nodes_l16_V → Option ρ) : state_State_nodes_l16_V → Option ρ
  | v =>
  bif decide ((v : Int) < p5) then
    rowT [.i .i64, .i .i64, .i .i64, .i .i64, .i .i64] p4 v fun c0 =>
    chk (decide ((0 : Int) ≤ v)) <|
    chk (decide ((v : Int) < ((p1 : Nat) : Int))) <|
    chk (((List.length (p15 : Rows)) : Nat) == p0) <|
    rowN [.b] p15 (0 + v.toNat) fun c1 =>
    bif c1.1 then
      rec' ((IntKind.wrap .i64 (v + 1)))
    else G.cap_None ρ c0.1 c0.2.1 c0.2.2.1 c0.2.2.2.1 (fun w2_0 =>
      bif w2_0 then
        rec' ((IntKind.wrap .i64 (v + 1)))
      else k0)
  else k1
noncomputable def state_State_nodes_l16 (G : state_State_nodes_G) {ρ : Type} (n : Nat) (p0 : Nat) (p1 : Nat) (p2 : Bool) (p3 : Bool) (p4 : Rows) (p5 : Int) (p6 : Int) (p7 : Int) (p8 : Int) (p9 : Bool) (p10 : Bool) (p11 : Rows) (p12 : Bool) (p13 : Bool) (p14 : Rows) (p15 : Rows) (k0 : (Option ρ)) (k1 : (Option ρ)) (v : state_State_nodes_l16_V) : Option ρ := fuelN (state_State_nodes_l16_s G n p0 p1 p2 p3 p4 p5 p6 p7 p8 p9 p10 p11 p12 p13 p14 p15 k0 k1) n v
def state_State_nodes_l16_enc (p0 : Nat) (p1 : Nat) (p2 : Bool) (p3 : Bool) (p4 : Rows) (p5 : Int) (p6 : Int) (p7 : Int) (p8 : Int) (p9 : Bool) (p10 : Bool) (p11 : Rows) (p12 : Bool) (p13 : Bool) (p14 : Rows) (p15 : Rows) : state_State_nodes_l16_V → St
  | v => ⟨[(3, .sl 1 p0 1 0 p1), (50, .lst p2 p3 5 p4), (51, .i .i64 p5), (52, .i .i64 v)], [.row 5 true false [[.i .i64 p6, .i .i64 p7, .i .i64 p8, .lst p9 p10 5 p11, .lst p12 p13 13 p14]], .row 1 true false p15]⟩
noncomputable def state_State_nodes_s (G : state_State_nodes_G) {ρ : Type} (n : Nat) (a0 : Int) (a1 : Int) (a2 : Int) (a3 : Bool) (a4 : Bool) (a5 : Rows) (a6 : Bool) (a7 : Bool) (a8 : Rows) (k0 : (Bool → Option ρ)) : Option ρ :=
  chk (decide ((0 : Int) ≤ (((List.length (a5 : Rows)) : Nat) : Int))) <|
  chk (decide (((((List.length (a5 : Rows)) : Nat) : Int) : Int) ≤ (((List.length (a5 : Rows)) : Nat) : Int))) <|
  chk (decide (((((List.length (a5 : Rows)) : Nat) : Int) : Int) ≤ most)) <|
  state_State_nodes_l3 G n ((((List.length (a5 : Rows)) : Nat) : Int).toNat) ((((List.length (a5 : Rows)) : Nat) : Int).toNat) a6 a7 a8 (((List.length (a8 : Rows)) : Nat) : Int) a0 a1 a2 a3 a4 a5 a6 a7 a8 (fun _w0_0 =>
    k0 false) (fun w1_0 =>
    state_State_nodes_l16 G n ((((List.length (a5 : Rows)) : Nat) : Int).toNat) ((((List.length (a5 : Rows)) : Nat) : Int).toNat) a3 a4 a5 (((List.length (a5 : Rows)) : Nat) : Int) a0 a1 a2 a3 a4 a5 a6 a7 a8 w1_0 (k0 false) (k0 true) (0)) (0, (List.replicate ((((List.length (a5 : Rows)) : Nat) : Int).toNat) ([.b false] : List AV)))
noncomputable def state_State_nodes_g (n : Nat) : state_State_nodes_G := ⟨cap_None n⟩
noncomputable def state_State_nodes (n : Nat) : state_State_nodes_T := fun _ρ a0 a1 a2 a3 a4 a5 a6 a7 a8 k0 => state_State_nodes_s (state_State_nodes_g n) n a0 a1 a2 a3 a4 a5 a6 a7 a8 k0
noncomputable def state_State_nodes_e (n : Nat) : EK := state_State_nodes_E (state_State_nodes n)
def state_State_nodes_S (G : state_State_nodes_G) : CK := tabS [(24, cap_None_E G.cap_None)]
theorem state_State_nodes_Sok (n : Nat) : CK.OK (state_State_nodes_S (state_State_nodes_g n)) (L tab) := tabS_ok _ (List.forall_mem_cons.2 ⟨(cap_None_ok n), (fun _ h => nomatch h)⟩)
def state_State_nodes_hs : HintC := hintL [(19, [.i .i64, .i .i64, .i .i64, .i .i64, .i .i64, .i .i64, .i .i64, .b, .i .u64, .i .u64, .i .u64, .i .u64, .i .u64]), (42, [.b]), (55, [.i .i64, .i .i64, .i .i64, .i .i64, .i .i64]), (60, [.b])]
def state_State_nodes_c7 : Nat × List Nat × List Nat × MC := loopAt 7 m39
noncomputable def state_State_nodes_l7_d (G : state_State_nodes_G) (n : Nat) : Go.Rv.LE := fun _ρ h K => decSt [(1, .ptr 0 5 0 (some 1) (some 0)), (3, .sl 1 1 none (some 0) none), (5, .ptr 2 13 0 (some 1) (some 0)), (15, .lst none none 13 none), (16, .i .i64 none), (17, .i .i64 none), (26, .i .i64 none), (27, .i .i64 none)] [.row 5 true false (some [[.i .i64 none, .i .i64 none, .i .i64 none, .lst none none 5 none, .lst none none 13 none]]), .row 1 true false none, .row 13 true false (some [[.i .i64 none, .i .i64 none, .i .i64 none, .i .i64 none, .i .i64 none, .i .i64 none, .i .i64 none, .b none, .i .u64 none, .i .u64 none, .i .u64 none, .i .u64 none, .i .u64 none]])] h fun a b => state_State_nodes_l7 G n a.2.1.1 a.2.1.2.2 a.2.2.2.1.1 a.2.2.2.1.2.1 a.2.2.2.1.2.2 a.2.2.2.2.1 a.2.2.2.2.2.1 a.2.2.2.2.2.2.1 b.1.1.1 b.1.1.2.1 b.1.1.2.2.1 b.1.1.2.2.2.1.1 b.1.1.2.2.2.1.2.1 b.1.1.2.2.2.1.2.2 b.1.1.2.2.2.2.1.1 b.1.1.2.2.2.2.1.2.1 b.1.1.2.2.2.2.1.2.2 b.2.2.1.1.1 b.2.2.1.1.2.1 b.2.2.1.1.2.2.1 b.2.2.1.1.2.2.2.1 b.2.2.1.1.2.2.2.2.1 b.2.2.1.1.2.2.2.2.2.1 b.2.2.1.1.2.2.2.2.2.2.1 b.2.2.1.1.2.2.2.2.2.2.2.1 b.2.2.1.1.2.2.2.2.2.2.2.2.1 b.2.2.1.1.2.2.2.2.2.2.2.2.2.1 b.2.2.1.1.2.2.2.2.2.2.2.2.2.2.1 b.2.2.1.1.2.2.2.2.2.2.2.2.2.2.2.1 b.2.2.1.1.2.2.2.2.2.2.2.2.2.2.2.2.1 (fun w0 => K .ret ⟨[(1, .ptr 0 1 5 0 0), (2, .b false), (3, .sl 1 a.2.1.1 1 0 a.2.1.2.2), (15, .lst a.2.2.2.1.1 a.2.2.2.1.2.1 13 a.2.2.2.1.2.2), (16, .i .i64 a.2.2.2.2.1), (17, .i .i64 a.2.2.2.2.2.1)], [.row 5 true false [[.i .i64 b.1.1.1, .i .i64 b.1.1.2.1, .i .i64 b.1.1.2.2.1, .lst b.1.1.2.2.2.1.1 b.1.1.2.2.2.1.2.1 5 b.1.1.2.2.2.1.2.2, .lst b.1.1.2.2.2.2.1.1 b.1.1.2.2.2.2.1.2.1 13 b.1.1.2.2.2.2.1.2.2]], .row 1 true false w0, .row 13 true false [[.i .i64 b.2.2.1.1.1, .i .i64 b.2.2.1.1.2.1, .i .i64 b.2.2.1.1.2.2.1, .i .i64 b.2.2.1.1.2.2.2.1, .i .i64 b.2.2.1.1.2.2.2.2.1, .i .i64 b.2.2.1.1.2.2.2.2.2.1, .i .i64 b.2.2.1.1.2.2.2.2.2.2.1, .b b.2.2.1.1.2.2.2.2.2.2.2.1, .i .u64 b.2.2.1.1.2.2.2.2.2.2.2.2.1, .i .u64 b.2.2.1.1.2.2.2.2.2.2.2.2.2.1, .i .u64 b.2.2.1.1.2.2.2.2.2.2.2.2.2.2.1, .i .u64 b.2.2.1.1.2.2.2.2.2.2.2.2.2.2.2.1, .i .u64 b.2.2.1.1.2.2.2.2.2.2.2.2.2.2.2.2.1]]]⟩) (fun w0 => K (.exit 2) ⟨[(1, .ptr 0 1 5 0 0), (2, .u), (3, .sl 1 a.2.1.1 1 0 a.2.1.2.2), (15, .lst a.2.2.2.1.1 a.2.2.2.1.2.1 13 a.2.2.2.1.2.2), (16, .i .i64 a.2.2.2.2.1), (17, .i .i64 a.2.2.2.2.2.1)], [.row 5 true false [[.i .i64 b.1.1.1, .i .i64 b.1.1.2.1, .i .i64 b.1.1.2.2.1, .lst b.1.1.2.2.2.1.1 b.1.1.2.2.2.1.2.1 5 b.1.1.2.2.2.1.2.2, .lst b.1.1.2.2.2.2.1.1 b.1.1.2.2.2.2.1.2.1 13 b.1.1.2.2.2.2.1.2.2]], .row 1 true false w0, .row 13 true false [[.i .i64 b.2.2.1.1.1, .i .i64 b.2.2.1.1.2.1, .i .i64 b.2.2.1.1.2.2.1, .i .i64 b.2.2.1.1.2.2.2.1, .i .i64 b.2.2.1.1.2.2.2.2.1, .i .i64 b.2.2.1.1.2.2.2.2.2.1, .i .i64 b.2.2.1.1.2.2.2.2.2.2.1, .b b.2.2.1.1.2.2.2.2.2.2.2.1, .i .u64 b.2.2.1.1.2.2.2.2.2.2.2.2.1, .i .u64 b.2.2.1.1.2.2.2.2.2.2.2.2.2.1, .i .u64 b.2.2.1.1.2.2.2.2.2.2.2.2.2.2.1, .i .u64 b.2.2.1.1.2.2.2.2.2.2.2.2.2.2.2.1, .i .u64 b.2.2.1.1.2.2.2.2.2.2.2.2.2.2.2.2.1]]]⟩) (a.2.2.2.2.2.2.2.1, b.2.1)
noncomputable def state_State_nodes_d7 (G : state_State_nodes_G) (n : Nat) : Go.Rv.LE := state_State_nodes_l7_d G n
def state_State_nodes_c3 : Nat × List Nat × List Nat × MC := loopAt 3 m39
noncomputable def state_State_nodes_l3_d (G : state_State_nodes_G) (n : Nat) : Go.Rv.LE := fun _ρ h K => decSt [(1, .ptr 0 5 0 (some 1) (some 0)), (3, .sl 1 1 none (some 0) none), (15, .lst none none 13 none), (16, .i .i64 none), (17, .i .i64 none)] [.row 5 true false (some [[.i .i64 none, .i .i64 none, .i .i64 none, .lst none none 5 none, .lst none none 13 none]]), .row 1 true false none] h fun a b => state_State_nodes_l3 G n a.2.1.1 a.2.1.2.2 a.2.2.1.1 a.2.2.1.2.1 a.2.2.1.2.2 a.2.2.2.1 b.1.1.1 b.1.1.2.1 b.1.1.2.2.1 b.1.1.2.2.2.1.1 b.1.1.2.2.2.1.2.1 b.1.1.2.2.2.1.2.2 b.1.1.2.2.2.2.1.1 b.1.1.2.2.2.2.1.2.1 b.1.1.2.2.2.2.1.2.2 (fun w0 => K .ret ⟨[(1, .ptr 0 1 5 0 0), (2, .b false), (3, .sl 1 a.2.1.1 1 0 a.2.1.2.2)], [.row 5 true false [[.i .i64 b.1.1.1, .i .i64 b.1.1.2.1, .i .i64 b.1.1.2.2.1, .lst b.1.1.2.2.2.1.1 b.1.1.2.2.2.1.2.1 5 b.1.1.2.2.2.1.2.2, .lst b.1.1.2.2.2.2.1.1 b.1.1.2.2.2.2.1.2.1 13 b.1.1.2.2.2.2.1.2.2]], .row 1 true false w0]⟩) (fun w0 => K (.exit 0) ⟨[(1, .ptr 0 1 5 0 0), (2, .u), (3, .sl 1 a.2.1.1 1 0 a.2.1.2.2)], [.row 5 true false [[.i .i64 b.1.1.1, .i .i64 b.1.1.2.1, .i .i64 b.1.1.2.2.1, .lst b.1.1.2.2.2.1.1 b.1.1.2.2.2.1.2.1 5 b.1.1.2.2.2.1.2.2, .lst b.1.1.2.2.2.2.1.1 b.1.1.2.2.2.2.1.2.1 13 b.1.1.2.2.2.2.1.2.2]], .row 1 true false w0]⟩) (a.2.2.2.2.1, b.2.1)
noncomputable def state_State_nodes_d3 (G : state_State_nodes_G) (n : Nat) : Go.Rv.LE := state_State_nodes_l3_d G n
def state_State_nodes_c16 : Nat × List Nat × List Nat × MC := loopAt 16 m39
noncomputable def state_State_nodes_l16_d (G : state_State_nodes_G) (n : Nat) : Go.Rv.LE := fun _ρ h K => decSt [(3, .sl 1 1 none (some 0) none), (50, .lst none none 5 none), (51, .i .i64 none), (52, .i .i64 none)] [.row 5 true false (some [[.i .i64 none, .i .i64 none, .i .i64 none, .lst none none 5 none, .lst none none 13 none]]), .row 1 true false none] h fun a b => state_State_nodes_l16 G n a.1.1 a.1.2.2 a.2.1.1 a.2.1.2.1 a.2.1.2.2 a.2.2.1 b.1.1.1 b.1.1.2.1 b.1.1.2.2.1 b.1.1.2.2.2.1.1 b.1.1.2.2.2.1.2.1 b.1.1.2.2.2.1.2.2 b.1.1.2.2.2.2.1.1 b.1.1.2.2.2.2.1.2.1 b.1.1.2.2.2.2.1.2.2 b.2.1 (K .ret ⟨[(2, .b false)], [.row 5 true false [[.i .i64 b.1.1.1, .i .i64 b.1.1.2.1, .i .i64 b.1.1.2.2.1, .lst b.1.1.2.2.2.1.1 b.1.1.2.2.2.1.2.1 5 b.1.1.2.2.2.1.2.2, .lst b.1.1.2.2.2.2.1.1 b.1.1.2.2.2.2.1.2.1 13 b.1.1.2.2.2.2.1.2.2]], .row 1 true false b.2.1]⟩) (K (.exit 4) ⟨[(2, .u)], [.row 5 true false [[.i .i64 b.1.1.1, .i .i64 b.1.1.2.1, .i .i64 b.1.1.2.2.1, .lst b.1.1.2.2.2.1.1 b.1.1.2.2.2.1.2.1 5 b.1.1.2.2.2.1.2.2, .lst b.1.1.2.2.2.2.1.1 b.1.1.2.2.2.2.1.2.1 13 b.1.1.2.2.2.2.1.2.2]], .row 1 true false b.2.1]⟩) (a.2.2.2.1)
noncomputable def state_State_nodes_d16 (G : state_State_nodes_G) (n : Nat) : Go.Rv.LE := state_State_nodes_l16_d G n
noncomputable def state_State_nodes_lp (G : state_State_nodes_G) (n : Nat) : LK := tabL [(7, state_State_nodes_d7 G n), (3, state_State_nodes_d3 G n), (16, state_State_nodes_d16 G n)]
theorem state_State_nodes_l7_k (G : state_State_nodes_G) {ρ : Type} (n : Nat) (p0 : Nat) (p1 : Nat) (p2 : Bool) (p3 : Bool) (p4 : Rows) (p5 : Int) (p6 : Int) (p7 : Int) (p8 : Int) (p9 : Int) (p10 : Int) (p11 : Bool) (p12 : Bool) (p13 : Rows) (p14 : Bool) (p15 : Bool) (p16 : Rows) (p18 : Int) (p19 : Int) (p20 : Int) (p21 : Int) (p22 : Int) (p23 : Int) (p24 : Int) (p25 : Bool) (p26 : Int) (p27 : Int) (p28 : Int) (p29 : Int) (p30 : Int) (K : Ex → St → Option ρ) (N : St → Option ρ) : ∀ v, roundC (state_State_nodes_S G) state_State_nodes_hs (state_State_nodes_lp G n) state_State_nodes_c7 3 N K (state_State_nodes_l7_enc p0 p1 p2 p3 p4 p5 p6 p7 p8 p9 p10 p11 p12 p13 p14 p15 p16 p18 p19 p20 p21 p22 p23 p24 p25 p26 p27 p28 p29 p30 v) = state_State_nodes_l7_s G n p0 p1 p2 p3 p4 p5 p6 p7 p8 p9 p10 p11 p12 p13 p14 p15 p16 p18 p19 p20 p21 p22 p23 p24 p25 p26 p27 p28 p29 p30 (fun w0 => K .ret ⟨[(1, .ptr 0 1 5 0 0), (2, .b false), (3, .sl 1 p0 1 0 p1), (15, .lst p2 p3 13 p4), (16, .i .i64 p5), (17, .i .i64 p6)], [.row 5 true false [[.i .i64 p8, .i .i64 p9, .i .i64 p10, .lst p11 p12 5 p13, .lst p14 p15 13 p16]], .row 1 true false w0, .row 13 true false [[.i .i64 p18, .i .i64 p19, .i .i64 p20, .i .i64 p21, .i .i64 p22, .i .i64 p23, .i .i64 p24, .b p25, .i .u64 p26, .i .u64 p27, .i .u64 p28, .i .u64 p29, .i .u64 p30]]]⟩) (fun w0 => K (.exit 2) ⟨[(1, .ptr 0 1 5 0 0), (2, .u), (3, .sl 1 p0 1 0 p1), (15, .lst p2 p3 13 p4), (16, .i .i64 p5), (17, .i .i64 p6)], [.row 5 true false [[.i .i64 p8, .i .i64 p9, .i .i64 p10, .lst p11 p12 5 p13, .lst p14 p15 13 p16]], .row 1 true false w0, .row 13 true false [[.i .i64 p18, .i .i64 p19, .i .i64 p20, .i .i64 p21, .i .i64 p22, .i .i64 p23, .i .i64 p24, .b p25, .i .u64 p26, .i .u64 p27, .i .u64 p28, .i .u64 p29, .i .u64 p30]]]⟩) (fun v => N (state_State_nodes_l7_enc p0 p1 p2 p3 p4 p5 p6 p7 p8 p9 p10 p11 p12 p13 p14 p15 p16 p18 p19 p20 p21 p22 p23 p24 p25 p26 p27 p28 p29 p30 v)) v
  | v => by kernel_rfl
theorem state_State_nodes_l7_dok (n : Nat) : LE.OK (state_State_nodes_l7_d (state_State_nodes_g n) n) (L tab) state_State_nodes_c7 := LE.shp (fun _ _ _ => rfl) fun ρ K y a b e => LE.rounds (state_State_nodes_Sok n) (LK.of (l := []) (by kernel_rfl) ((fun _ h => nomatch h))) (state_State_nodes_l7_k (state_State_nodes_g n) n _ _ _ _ _ _ _ _ _ _ _ _ _ _ _ _ _ _ _ _ _ _ _ _ _ _ _ _ _ _ K) (by kernel_rfl) (by kernel_rfl) e
theorem state_State_nodes_d7_ok (n : Nat) : LE.OK (state_State_nodes_d7 (state_State_nodes_g n) n) (L tab) state_State_nodes_c7 := state_State_nodes_l7_dok n
theorem state_State_nodes_l3_k (G : state_State_nodes_G) {ρ : Type} (n : Nat) (p0 : Nat) (p1 : Nat) (p2 : Bool) (p3 : Bool) (p4 : Rows) (p5 : Int) (p6 : Int) (p7 : Int) (p8 : Int) (p9 : Bool) (p10 : Bool) (p11 : Rows) (p12 : Bool) (p13 : Bool) (p14 : Rows) (K : Ex → St → Option ρ) (N : St → Option ρ) : ∀ v, roundC (state_State_nodes_S G) state_State_nodes_hs (state_State_nodes_lp G n) state_State_nodes_c3 2 N K (state_State_nodes_l3_enc p0 p1 p2 p3 p4 p5 p6 p7 p8 p9 p10 p11 p12 p13 p14 v) = state_State_nodes_l3_s G n p0 p1 p2 p3 p4 p5 p6 p7 p8 p9 p10 p11 p12 p13 p14 (fun w0 => K .ret ⟨[(1, .ptr 0 1 5 0 0), (2, .b false), (3, .sl 1 p0 1 0 p1)], [.row 5 true false [[.i .i64 p6, .i .i64 p7, .i .i64 p8, .lst p9 p10 5 p11, .lst p12 p13 13 p14]], .row 1 true false w0]⟩) (fun w0 => K (.exit 0) ⟨[(1, .ptr 0 1 5 0 0), (2, .u), (3, .sl 1 p0 1 0 p1)], [.row 5 true false [[.i .i64 p6, .i .i64 p7, .i .i64 p8, .lst p9 p10 5 p11, .lst p12 p13 13 p14]], .row 1 true false w0]⟩) (fun v => N (state_State_nodes_l3_enc p0 p1 p2 p3 p4 p5 p6 p7 p8 p9 p10 p11 p12 p13 p14 v)) v
  | v => by kernel_rfl
theorem state_State_nodes_l3_dok (n : Nat) : LE.OK (state_State_nodes_l3_d (state_State_nodes_g n) n) (L tab) state_State_nodes_c3 := LE.shp (fun _ _ _ => rfl) fun ρ K y a b e => LE.rounds (state_State_nodes_Sok n) (LK.of (l := [state_State_nodes_c7]) (by kernel_rfl) (List.forall_mem_cons.2 ⟨LE.at (e := state_State_nodes_d7 (state_State_nodes_g n) n) (by kernel_rfl) (state_State_nodes_d7_ok n), (fun _ h => nomatch h)⟩)) (state_State_nodes_l3_k (state_State_nodes_g n) n _ _ _ _ _ _ _ _ _ _ _ _ _ _ _ K) (by kernel_rfl) (by kernel_rfl) e
theorem state_State_nodes_d3_ok (n : Nat) : LE.OK (state_State_nodes_d3 (state_State_nodes_g n) n) (L tab) state_State_nodes_c3 := state_State_nodes_l3_dok n
theorem state_State_nodes_l16_k (G : state_State_nodes_G) {ρ : Type} (n : Nat) (p0 : Nat) (p1 : Nat) (p2 : Bool) (p3 : Bool) (p4 : Rows) (p5 : Int) (p6 : Int) (p7 : Int) (p8 : Int) (p9 : Bool) (p10 : Bool) (p11 : Rows) (p12 : Bool) (p13 : Bool) (p14 : Rows) (p15 : Rows) (K : Ex → St → Option ρ) (N : St → Option ρ) : ∀ v, roundC (state_State_nodes_S G) state_State_nodes_hs (state_State_nodes_lp G n) state_State_nodes_c16 2 N K (state_State_nodes_l16_enc p0 p1 p2 p3 p4 p5 p6 p7 p8 p9 p10 p11 p12 p13 p14 p15 v) = state_State_nodes_l16_s G n p0 p1 p2 p3 p4 p5 p6 p7 p8 p9 p10 p11 p12 p13 p14 p15 (K .ret ⟨[(2, .b false)], [.row 5 true false [[.i .i64 p6, .i .i64 p7, .i .i64 p8, .lst p9 p10 5 p11, .lst p12 p13 13 p14]], .row 1 true false p15]⟩) (K (.exit 4) ⟨[(2, .u)], [.row 5 true false [[.i .i64 p6, .i .i64 p7, .i .i64 p8, .lst p9 p10 5 p11, .lst p12 p13 13 p14]], .row 1 true false p15]⟩) (fun v => N (state_State_nodes_l16_enc p0 p1 p2 p3 p4 p5 p6 p7 p8 p9 p10 p11 p12 p13 p14 p15 v)) v
  | v => by kernel_rfl
theorem state_State_nodes_l16_dok (n : Nat) : LE.OK (state_State_nodes_l16_d (state_State_nodes_g n) n) (L tab) state_State_nodes_c16 := LE.shp (fun _ _ _ => rfl) fun ρ K y a b e => LE.rounds (state_State_nodes_Sok n) (LK.of (l := []) (by kernel_rfl) ((fun _ h => nomatch h))) (state_State_nodes_l16_k (state_State_nodes_g n) n _ _ _ _ _ _ _ _ _ _ _ _ _ _ _ _ K) (by kernel_rfl) (by kernel_rfl) e
theorem state_State_nodes_d16_ok (n : Nat) : LE.OK (state_State_nodes_d16 (state_State_nodes_g n) n) (L tab) state_State_nodes_c16 := state_State_nodes_l16_dok n
theorem state_State_nodes_k (G : state_State_nodes_G) {ρ : Type} (n : Nat) (a0 : Int) (a1 : Int) (a2 : Int) (a3 : Bool) (a4 : Bool) (a5 : Rows) (a6 : Bool) (a7 : Bool) (a8 : Rows) (K : Res → Option ρ) : runC (state_State_nodes_S G) state_State_nodes_hs (state_State_nodes_lp G n) m39 [.agg [.i .i64 a0, .i .i64 a1, .i .i64 a2, .lst a3 a4 5 a5, .lst a6 a7 13 a8]] K = state_State_nodes_s G n a0 a1 a2 a3 a4 a5 a6 a7 a8 (fun w0 => K ⟨.b w0, [], []⟩) := by kernel_rfl
theorem state_State_nodes_ok (n : Nat) : EK.OK (state_State_nodes_e n) 39 (L tab) := EK.shp (fun _ _ _ => rfl) fun ρ K y c e => EK.run (state_State_nodes_Sok n) (by kernel_rfl) (MF.LKOK.of (LK.of (l := [state_State_nodes_c3, state_State_nodes_c16]) (by kernel_rfl) (List.forall_mem_cons.2 ⟨LE.at (e := state_State_nodes_d3 (state_State_nodes_g n) n) (by kernel_rfl) (state_State_nodes_d3_ok n), List.forall_mem_cons.2 ⟨LE.at (e := state_State_nodes_d16 (state_State_nodes_g n) n) (by kernel_rfl) (state_State_nodes_d16_ok n), (fun _ h => nomatch h)⟩⟩))) (state_State_nodes_k (state_State_nodes_g n) n _ _ _ _ _ _ _ _ _ K) (by kernel_rfl) e

/-! reeve/state.has -/
abbrev state_has_T : Type 1 := (ρ : Type) → Int → Int → Int → Int → Int → Int → Int → Bool → Int → Int → Int → Int → Int → Int → (Bool → Option ρ) → Option ρ
def state_has_E (G : state_has_T) : EK := fun ρ args K => decL [.agg [.i .i64 none, .i .i64 none, .i .i64 none, .i .i64 none, .i .i64 none, .i .i64 none, .i .i64 none, .b none, .i .u64 none, .i .u64 none, .i .u64 none, .i .u64 none, .i .u64 none], .i .i64 none] args fun c => G ρ c.1.1 c.1.2.1 c.1.2.2.1 c.1.2.2.2.1 c.1.2.2.2.2.1 c.1.2.2.2.2.2.1 c.1.2.2.2.2.2.2.1 c.1.2.2.2.2.2.2.2.1 c.1.2.2.2.2.2.2.2.2.1 c.1.2.2.2.2.2.2.2.2.2.1 c.1.2.2.2.2.2.2.2.2.2.2.1 c.1.2.2.2.2.2.2.2.2.2.2.2.1 c.1.2.2.2.2.2.2.2.2.2.2.2.2.1 c.2.1 (fun w0 => K ⟨.b w0, [], []⟩)
structure state_has_G where
  mk ::
noncomputable def state_has_s (_G : state_has_G) {ρ : Type} (_n : Nat) (a0 : Int) (a1 : Int) (a2 : Int) (_a3 : Int) (_a4 : Int) (_a5 : Int) (_a6 : Int) (_a7 : Bool) (_a8 : Int) (_a9 : Int) (_a10 : Int) (_a11 : Int) (_a12 : Int) (a13 : Int) (k0 : (Bool → Option ρ)) : Option ρ :=
  bif ((a0 : Int) == 2) then
    bif decide ((a13 : Int) ≥ a2) then
      chk (decide (0 ≤ (a1 : Int))) <|
      bif decide ((a13 : Int) < (IntKind.wrap .i64 (a2 + (IntKind.wrap .i64 ((1 : Int) * 2 ^ (min a1.toNat (IntKind.bits .i64))))))) then
        k0 true
      else k0 false
    else k0 false
  else k0 false
noncomputable def state_has_g (_n : Nat) : state_has_G := ⟨⟩
noncomputable def state_has (n : Nat) : state_has_T := fun _ρ a0 a1 a2 a3 a4 a5 a6 a7 a8 a9 a10 a11 a12 a13 k0 => state_has_s (state_has_g n) n a0 a1 a2 a3 a4 a5 a6 a7 a8 a9 a10 a11 a12 a13 k0
noncomputable def state_has_e (n : Nat) : EK := state_has_E (state_has n)
def state_has_S (_G : state_has_G) : CK := tabS []
theorem state_has_Sok (n : Nat) : CK.OK (state_has_S (state_has_g n)) (L tab) := tabS_ok _ ((fun _ h => nomatch h))
def state_has_hs : HintC := hintL []
noncomputable def state_has_lp (_G : state_has_G) (_n : Nat) : LK := tabL []
theorem state_has_k (G : state_has_G) {ρ : Type} (n : Nat) (a0 : Int) (a1 : Int) (a2 : Int) (a3 : Int) (a4 : Int) (a5 : Int) (a6 : Int) (a7 : Bool) (a8 : Int) (a9 : Int) (a10 : Int) (a11 : Int) (a12 : Int) (a13 : Int) (K : Res → Option ρ) : runC (state_has_S G) state_has_hs (state_has_lp G n) m107 [.agg [.i .i64 a0, .i .i64 a1, .i .i64 a2, .i .i64 a3, .i .i64 a4, .i .i64 a5, .i .i64 a6, .b a7, .i .u64 a8, .i .u64 a9, .i .u64 a10, .i .u64 a11, .i .u64 a12], .i .i64 a13] K = state_has_s G n a0 a1 a2 a3 a4 a5 a6 a7 a8 a9 a10 a11 a12 a13 (fun w0 => K ⟨.b w0, [], []⟩) := by kernel_rfl
theorem state_has_ok (n : Nat) : EK.OK (state_has_e n) 107 (L tab) := EK.shp (fun _ _ _ => rfl) fun ρ K y c e => EK.run (state_has_Sok n) (by kernel_rfl) (MF.LKOK.of (LK.of (l := []) (by kernel_rfl) ((fun _ h => nomatch h)))) (state_has_k (state_has_g n) n _ _ _ _ _ _ _ _ _ _ _ _ _ _ K) (by kernel_rfl) e

/-! reeve/state.within -/
abbrev state_within_T : Type 1 := (ρ : Type) → Int → Int → Int → Bool → Bool → Rows → Bool → Bool → Rows → Int → Mp → (Mp → Option ρ) → Option ρ
def state_within_E (G : state_within_T) : EK := fun ρ args K => decL [.agg [.i .i64 none, .i .i64 none, .i .i64 none, .lst none none 5 none, .lst none none 13 none], .i .i64 none, .mv] args fun c => G ρ c.1.1 c.1.2.1 c.1.2.2.1 c.1.2.2.2.1.1 c.1.2.2.2.1.2.1 c.1.2.2.2.1.2.2 c.1.2.2.2.2.1.1 c.1.2.2.2.2.1.2.1 c.1.2.2.2.2.1.2.2 c.2.1 c.2.2.1 (fun w0 => K ⟨.tup [], [], [w0]⟩)
structure state_within_G where
  mk ::
  state_has : state_has_T
  state_State_there : state_State_there_T
  state_within : state_within_T
abbrev state_within_l4_V : Type := Int × Mp
noncomputable def state_within_l4_s (G : state_within_G) {ρ : Type} (_n : Nat) (p0 : Int) (_p1 : Bool) (_p2 : Bool) (p3 : Rows) (p4 : Int) (p6 : Int) (p7 : Int) (p8 : Int) (p9 : Bool) (p10 : Bool) (p11 : Rows) (p12 : Bool) (p13 : Bool) (p14 : Rows) (k0 : (Mp → Option ρ)) (rec' : state_within_l4_V → Option ρ) : state_within_l4_V → Option ρ
  | v =>
  bif decide ((v.1 : Int) < p4) then
    rowT [.i .i64, .i .i64, .i .i64, .i .i64, .i .i64] p3 v.1 fun c0 =>
    bif ((c0.1 : Int) == 2) then
      rowT [.i .i64, .i .i64, .i .i64, .i .i64, .i .i64, .i .i64, .i .i64, .b, .i .u64, .i .u64, .i .u64, .i .u64, .i .u64] p14 p0 fun c1 =>
      G.state_has ρ c1.1 c1.2.1 c1.2.2.1 c1.2.2.2.1 c1.2.2.2.2.1 c1.2.2.2.2.2.1 c1.2.2.2.2.2.2.1 c1.2.2.2.2.2.2.2.1 c1.2.2.2.2.2.2.2.2.1 c1.2.2.2.2.2.2.2.2.2.1 c1.2.2.2.2.2.2.2.2.2.2.1 c1.2.2.2.2.2.2.2.2.2.2.2.1 c1.2.2.2.2.2.2.2.2.2.2.2.2.1 v.1 (fun w2_0 =>
        bif w2_0 then
          G.state_State_there ρ p6 p7 p8 p9 p10 p11 p12 p13 p14 c0.2.1 (fun w3_0 =>
            bif w3_0 then
              G.state_within ρ p6 p7 p8 p9 p10 p11 p12 p13 p14 c0.2.1 v.2 (fun w4_0 =>
                rec' ((IntKind.wrap .i64 (v.1 + 1)), w4_0))
            else rec' ((IntKind.wrap .i64 (v.1 + 1)), v.2))
        else rec' ((IntKind.wrap .i64 (v.1 + 1)), v.2))
    else rec' ((IntKind.wrap .i64 (v.1 + 1)), v.2)
  else k0 v.2
noncomputable def state_within_l4 (G : state_within_G) {ρ : Type} (n : Nat) (p0 : Int) (p1 : Bool) (p2 : Bool) (p3 : Rows) (p4 : Int) (p6 : Int) (p7 : Int) (p8 : Int) (p9 : Bool) (p10 : Bool) (p11 : Rows) (p12 : Bool) (p13 : Bool) (p14 : Rows) (k0 : (Mp → Option ρ)) (v : state_within_l4_V) : Option ρ := fuelN (state_within_l4_s G n p0 p1 p2 p3 p4 p6 p7 p8 p9 p10 p11 p12 p13 p14 k0) n v
def state_within_l4_enc (p0 : Int) (p1 : Bool) (p2 : Bool) (p3 : Rows) (p4 : Int) (p6 : Int) (p7 : Int) (p8 : Int) (p9 : Bool) (p10 : Bool) (p11 : Rows) (p12 : Bool) (p13 : Bool) (p14 : Rows) : state_within_l4_V → St
  | v => ⟨[(1, .i .i64 p0), (2, .mp 0), (3, .ptr 1 1 5 0 0), (14, .lst p1 p2 5 p3), (15, .i .i64 p4), (16, .i .i64 v.1)], [.map v.2, .row 5 true false [[.i .i64 p6, .i .i64 p7, .i .i64 p8, .lst p9 p10 5 p11, .lst p12 p13 13 p14]]]⟩
noncomputable def state_within_s (G : state_within_G) {ρ : Type} (n : Nat) (a0 : Int) (a1 : Int) (a2 : Int) (a3 : Bool) (a4 : Bool) (a5 : Rows) (a6 : Bool) (a7 : Bool) (a8 : Rows) (a9 : Int) (a10 : Mp) (k0 : (Mp → Option ρ)) : Option ρ :=
  mapB false (.i .i64 a9) a10 fun q0 =>
    bif q0 then
      k0 a10
    else mapU a9 .i64 true a10 fun q1 =>
    state_within_l4 G n a9 a3 a4 a5 (((List.length (a5 : Rows)) : Nat) : Int) a0 a1 a2 a3 a4 a5 a6 a7 a8 (fun w2_0 =>
      k0 w2_0) (0, q1)
noncomputable def state_within (n m : Nat) : state_within_T := Nat.rec (motive := fun _ => state_within_T) (fun _ _ _ _ _ _ _ _ _ _ _ _ _ => none) (fun _ r _ρ a0 a1 a2 a3 a4 a5 a6 a7 a8 a9 a10 k0 => state_within_s ⟨state_has n, state_State_there n, r⟩ n a0 a1 a2 a3 a4 a5 a6 a7 a8 a9 a10 k0) m
noncomputable def state_within_g (n m : Nat) : state_within_G := ⟨state_has n, state_State_there n, state_within n m⟩
noncomputable def state_within_e (n : Nat) (m : Nat) : EK := state_within_E (state_within n m)
def state_within_S (G : state_within_G) : CK := tabS [(107, state_has_E G.state_has), (60, state_State_there_E G.state_State_there), (91, state_within_E G.state_within)]
theorem state_within_Sok (n : Nat) (m : Nat) (hrec : EK.OK (state_within_e n m) 91 (L tab)) : CK.OK (state_within_S (state_within_g n m)) (L tab) := tabS_ok _ (List.forall_mem_cons.2 ⟨(state_has_ok n), List.forall_mem_cons.2 ⟨(state_State_there_ok n), List.forall_mem_cons.2 ⟨hrec, (fun _ h => nomatch h)⟩⟩⟩)
def state_within_hs : HintC := hintL [(19, [.i .i64, .i .i64, .i .i64, .i .i64, .i .i64]), (29, [.i .i64, .i .i64, .i .i64, .i .i64, .i .i64, .i .i64, .i .i64, .b, .i .u64, .i .u64, .i .u64, .i .u64, .i .u64])]
def state_within_c4 : Nat × List Nat × List Nat × MC := loopAt 4 m91
noncomputable def state_within_l4_d (G : state_within_G) (n : Nat) : Go.Rv.LE := fun _ρ h K => decSt [(1, .i .i64 none), (2, .mp 0), (3, .ptr 1 5 0 (some 1) (some 0)), (14, .lst none none 5 none), (15, .i .i64 none), (16, .i .i64 none)] [.map, .row 5 true false (some [[.i .i64 none, .i .i64 none, .i .i64 none, .lst none none 5 none, .lst none none 13 none]])] h fun a b => state_within_l4 G n a.1 a.2.2.2.1.1 a.2.2.2.1.2.1 a.2.2.2.1.2.2 a.2.2.2.2.1 b.2.1.1.1 b.2.1.1.2.1 b.2.1.1.2.2.1 b.2.1.1.2.2.2.1.1 b.2.1.1.2.2.2.1.2.1 b.2.1.1.2.2.2.1.2.2 b.2.1.1.2.2.2.2.1.1 b.2.1.1.2.2.2.2.1.2.1 b.2.1.1.2.2.2.2.1.2.2 (fun w0 => K (.exit 0) ⟨[], [.map w0, .row 5 true false [[.i .i64 b.2.1.1.1, .i .i64 b.2.1.1.2.1, .i .i64 b.2.1.1.2.2.1, .lst b.2.1.1.2.2.2.1.1 b.2.1.1.2.2.2.1.2.1 5 b.2.1.1.2.2.2.1.2.2, .lst b.2.1.1.2.2.2.2.1.1 b.2.1.1.2.2.2.2.1.2.1 13 b.2.1.1.2.2.2.2.1.2.2]]]⟩) (a.2.2.2.2.2.1, b.1)
noncomputable def state_within_d4 (G : state_within_G) (n : Nat) : Go.Rv.LE := state_within_l4_d G n
noncomputable def state_within_lp (G : state_within_G) (n : Nat) : LK := tabL [(4, state_within_d4 G n)]
theorem state_within_l4_k (G : state_within_G) {ρ : Type} (n : Nat) (p0 : Int) (p1 : Bool) (p2 : Bool) (p3 : Rows) (p4 : Int) (p6 : Int) (p7 : Int) (p8 : Int) (p9 : Bool) (p10 : Bool) (p11 : Rows) (p12 : Bool) (p13 : Bool) (p14 : Rows) (K : Ex → St → Option ρ) (N : St → Option ρ) : ∀ v, roundC (state_within_S G) state_within_hs (state_within_lp G n) state_within_c4 2 N K (state_within_l4_enc p0 p1 p2 p3 p4 p6 p7 p8 p9 p10 p11 p12 p13 p14 v) = state_within_l4_s G n p0 p1 p2 p3 p4 p6 p7 p8 p9 p10 p11 p12 p13 p14 (fun w0 => K (.exit 0) ⟨[], [.map w0, .row 5 true false [[.i .i64 p6, .i .i64 p7, .i .i64 p8, .lst p9 p10 5 p11, .lst p12 p13 13 p14]]]⟩) (fun v => N (state_within_l4_enc p0 p1 p2 p3 p4 p6 p7 p8 p9 p10 p11 p12 p13 p14 v)) v
  | v => by kernel_rfl
theorem state_within_l4_dok (n : Nat) (m : Nat) (hrec : EK.OK (state_within_e n m) 91 (L tab)) : LE.OK (state_within_l4_d (state_within_g n m) n) (L tab) state_within_c4 := LE.shp (fun _ _ _ => rfl) fun ρ K y a b e => LE.rounds (state_within_Sok n m hrec) (LK.of (l := []) (by kernel_rfl) ((fun _ h => nomatch h))) (state_within_l4_k (state_within_g n m) n _ _ _ _ _ _ _ _ _ _ _ _ _ _ K) (by kernel_rfl) (by kernel_rfl) e
theorem state_within_d4_ok (n : Nat) (m : Nat) (hrec : EK.OK (state_within_e n m) 91 (L tab)) : LE.OK (state_within_d4 (state_within_g n m) n) (L tab) state_within_c4 := state_within_l4_dok n m hrec
theorem state_within_k (G : state_within_G) {ρ : Type} (n : Nat) (a0 : Int) (a1 : Int) (a2 : Int) (a3 : Bool) (a4 : Bool) (a5 : Rows) (a6 : Bool) (a7 : Bool) (a8 : Rows) (a9 : Int) (a10 : Mp) (K : Res → Option ρ) : runC (state_within_S G) state_within_hs (state_within_lp G n) m91 [.agg [.i .i64 a0, .i .i64 a1, .i .i64 a2, .lst a3 a4 5 a5, .lst a6 a7 13 a8], .i .i64 a9, .mv a10] K = state_within_s G n a0 a1 a2 a3 a4 a5 a6 a7 a8 a9 a10 (fun w0 => K ⟨.tup [], [], [w0]⟩) := by kernel_rfl
theorem state_within_ok (n : Nat) : ∀ m, EK.OK (state_within_e n m) 91 (L tab)
  | 0 => EK.shp (fun _ _ _ => rfl) fun ρ K y c e => nomatch (show (none : Option ρ) = some y from e)
  | m + 1 => have hrec := state_within_ok n m
    EK.shp (fun _ _ _ => rfl) fun ρ K y c e => EK.run (state_within_Sok n m hrec) (by kernel_rfl) (MF.LKOK.of (LK.of (l := [state_within_c4]) (by kernel_rfl) (List.forall_mem_cons.2 ⟨LE.at (e := state_within_d4 (state_within_g n m) n) (by kernel_rfl) (state_within_d4_ok n m hrec), (fun _ h => nomatch h)⟩))) (state_within_k (state_within_g n m) n _ _ _ _ _ _ _ _ _ _ _ K) (by kernel_rfl) e

/-! (reeve/state.State).owner$1 -/
abbrev state_State_owner_1_T : Type 1 := (ρ : Type) → Int → Int → Int → Int → Int → Int → Int → Bool → Int → Int → Int → Int → Int → Int → (Bool → Option ρ) → Option ρ
def state_State_owner_1_E (G : state_State_owner_1_T) : EK := fun ρ args K => decL [.agg [.i .i64 none, .i .i64 none, .i .i64 none, .i .i64 none, .i .i64 none, .i .i64 none, .i .i64 none, .b none, .i .u64 none, .i .u64 none, .i .u64 none, .i .u64 none, .i .u64 none], .ref [.i .i64 none] 0] args fun c => G ρ c.1.1 c.1.2.1 c.1.2.2.1 c.1.2.2.2.1 c.1.2.2.2.2.1 c.1.2.2.2.2.2.1 c.1.2.2.2.2.2.2.1 c.1.2.2.2.2.2.2.2.1 c.1.2.2.2.2.2.2.2.2.1 c.1.2.2.2.2.2.2.2.2.2.1 c.1.2.2.2.2.2.2.2.2.2.2.1 c.1.2.2.2.2.2.2.2.2.2.2.2.1 c.1.2.2.2.2.2.2.2.2.2.2.2.2.1 c.2.1.1 (fun w0 => K ⟨.b w0, [], []⟩)
structure state_State_owner_1_G where
  mk ::
  state_has : state_has_T
noncomputable def state_State_owner_1_s (G : state_State_owner_1_G) {ρ : Type} (_n : Nat) (a0 : Int) (a1 : Int) (a2 : Int) (a3 : Int) (a4 : Int) (a5 : Int) (a6 : Int) (a7 : Bool) (a8 : Int) (a9 : Int) (a10 : Int) (a11 : Int) (a12 : Int) (a13 : Int) (k0 : (Bool → Option ρ)) : Option ρ :=
  G.state_has ρ a0 a1 a2 a3 a4 a5 a6 a7 a8 a9 a10 a11 a12 a13 (fun w0_0 =>
    bif w0_0 then
      k0 true
    else k0 false)
noncomputable def state_State_owner_1_g (n : Nat) : state_State_owner_1_G := ⟨state_has n⟩
noncomputable def state_State_owner_1 (n : Nat) : state_State_owner_1_T := fun _ρ a0 a1 a2 a3 a4 a5 a6 a7 a8 a9 a10 a11 a12 a13 k0 => state_State_owner_1_s (state_State_owner_1_g n) n a0 a1 a2 a3 a4 a5 a6 a7 a8 a9 a10 a11 a12 a13 k0
noncomputable def state_State_owner_1_e (n : Nat) : EK := state_State_owner_1_E (state_State_owner_1 n)
def state_State_owner_1_S (G : state_State_owner_1_G) : CK := tabS [(107, state_has_E G.state_has)]
theorem state_State_owner_1_Sok (n : Nat) : CK.OK (state_State_owner_1_S (state_State_owner_1_g n)) (L tab) := tabS_ok _ (List.forall_mem_cons.2 ⟨(state_has_ok n), (fun _ h => nomatch h)⟩)
def state_State_owner_1_hs : HintC := hintL []
noncomputable def state_State_owner_1_lp (_G : state_State_owner_1_G) (_n : Nat) : LK := tabL []
theorem state_State_owner_1_k (G : state_State_owner_1_G) {ρ : Type} (n : Nat) (a0 : Int) (a1 : Int) (a2 : Int) (a3 : Int) (a4 : Int) (a5 : Int) (a6 : Int) (a7 : Bool) (a8 : Int) (a9 : Int) (a10 : Int) (a11 : Int) (a12 : Int) (a13 : Int) (K : Res → Option ρ) : runC (state_State_owner_1_S G) state_State_owner_1_hs (state_State_owner_1_lp G n) m108 [.agg [.i .i64 a0, .i .i64 a1, .i .i64 a2, .i .i64 a3, .i .i64 a4, .i .i64 a5, .i .i64 a6, .b a7, .i .u64 a8, .i .u64 a9, .i .u64 a10, .i .u64 a11, .i .u64 a12], .ref [.i .i64 a13] 0] K = state_State_owner_1_s G n a0 a1 a2 a3 a4 a5 a6 a7 a8 a9 a10 a11 a12 a13 (fun w0 => K ⟨.b w0, [], []⟩) := by kernel_rfl
theorem state_State_owner_1_ok (n : Nat) : EK.OK (state_State_owner_1_e n) 108 (L tab) := EK.shp (fun _ _ _ => rfl) fun ρ K y c e => EK.run (state_State_owner_1_Sok n) (by kernel_rfl) (MF.LKOK.of (LK.of (l := []) (by kernel_rfl) ((fun _ h => nomatch h)))) (state_State_owner_1_k (state_State_owner_1_g n) n _ _ _ _ _ _ _ _ _ _ _ _ _ _ K) (by kernel_rfl) e

/-! slices.IndexFunc[[]reeve/thing.Thing,reeve/thing.Thing] -/
abbrev slices_IndexFunc_Thing_T : Type 1 := (ρ : Type) → Bool → Bool → Rows → Int → (Int → Option ρ) → Option ρ
def slices_IndexFunc_Thing_E (G : slices_IndexFunc_Thing_T) : EK := fun ρ args K => decL [.lst none none 13 none, .fn 108 [.ref [.i .i64 none] 0]] args fun c => G ρ c.1.1 c.1.2.1 c.1.2.2 c.2.1.1.1 (fun w0 => K ⟨.i .i64 w0, [], []⟩)
structure slices_IndexFunc_Thing_G where
  mk ::
  state_State_owner_1 : state_State_owner_1_T
abbrev slices_IndexFunc_Thing_l2_V : Type := Int
noncomputable def slices_IndexFunc_Thing_l2_s (G : slices_IndexFunc_Thing_G) {ρ : Type} (_n : Nat) (_p0 : Bool) (_p1 : Bool) (p2 : Rows) (p3 : Int) (p4 : Int) (k0 : (Int → Option ρ)) (k1 : (Option ρ)) (rec' : slices_IndexFunc_Thing_l2_V → Option ρ) : slices_IndexFunc_Thing_l2_V → Option ρ
  | v =>
  bif decide ((v : Int) < p4) then
    rowT [.i .i64, .i .i64, .i .i64, .i .i64, .i .i64, .i .i64, .i .i64, .b, .i .u64, .i .u64, .i .u64, .i .u64, .i .u64] p2 v fun c0 =>
    G.state_State_owner_1 ρ c0.1 c0.2.1 c0.2.2.1 c0.2.2.2.1 c0.2.2.2.2.1 c0.2.2.2.2.2.1 c0.2.2.2.2.2.2.1 c0.2.2.2.2.2.2.2.1 c0.2.2.2.2.2.2.2.2.1 c0.2.2.2.2.2.2.2.2.2.1 c0.2.2.2.2.2.2.2.2.2.2.1 c0.2.2.2.2.2.2.2.2.2.2.2.1 c0.2.2.2.2.2.2.2.2.2.2.2.2.1 p3 (fun w1_0 =>
      bif w1_0 then
        k0 v
      else rec' ((IntKind.wrap .i64 (v + 1))))
  else k1
noncomputable def slices_IndexFunc_Thing_l2 (G : slices_IndexFunc_Thing_G) {ρ : Type} (n : Nat) (p0 : Bool) (p1 : Bool) (p2 : Rows) (p3 : Int) (p4 : Int) (k0 : (Int → Option ρ)) (k1 : (Option ρ)) (v : slices_IndexFunc_Thing_l2_V) : Option ρ := fuelN (slices_IndexFunc_Thing_l2_s G n p0 p1 p2 p3 p4 k0 k1) n v
def slices_IndexFunc_Thing_l2_enc (p0 : Bool) (p1 : Bool) (p2 : Rows) (p3 : Int) (p4 : Int) : slices_IndexFunc_Thing_l2_V → St
  | v => ⟨[(0, .lst p0 p1 13 p2), (1, .fn 108 [.ref [.i .i64 p3] 0]), (7, .i .i64 p4), (8, .i .i64 v)], []⟩
noncomputable def slices_IndexFunc_Thing_s (G : slices_IndexFunc_Thing_G) {ρ : Type} (n : Nat) (a0 : Bool) (a1 : Bool) (a2 : Rows) (a3 : Int) (k0 : (Int → Option ρ)) : Option ρ :=
  slices_IndexFunc_Thing_l2 G n a0 a1 a2 a3 (((List.length (a2 : Rows)) : Nat) : Int) (fun w0_0 =>
    k0 w0_0) (k0 (-1)) (0)
noncomputable def slices_IndexFunc_Thing_g (n : Nat) : slices_IndexFunc_Thing_G := ⟨state_State_owner_1 n⟩
noncomputable def slices_IndexFunc_Thing (n : Nat) : slices_IndexFunc_Thing_T := fun _ρ a0 a1 a2 a3 k0 => slices_IndexFunc_Thing_s (slices_IndexFunc_Thing_g n) n a0 a1 a2 a3 k0
noncomputable def slices_IndexFunc_Thing_e (n : Nat) : EK := slices_IndexFunc_Thing_E (slices_IndexFunc_Thing n)
def slices_IndexFunc_Thing_S (G : slices_IndexFunc_Thing_G) : CK := tabS [(108, state_State_owner_1_E G.state_State_owner_1)]
theorem slices_IndexFunc_Thing_Sok (n : Nat) : CK.OK (slices_IndexFunc_Thing_S (slices_IndexFunc_Thing_g n)) (L tab) := tabS_ok _ (List.forall_mem_cons.2 ⟨(state_State_owner_1_ok n), (fun _ h => nomatch h)⟩)
def slices_IndexFunc_Thing_hs : HintC := hintL [(14, [.i .i64, .i .i64, .i .i64, .i .i64, .i .i64, .i .i64, .i .i64, .b, .i .u64, .i .u64, .i .u64, .i .u64, .i .u64])]
def slices_IndexFunc_Thing_c2 : Nat × List Nat × List Nat × MC := loopAt 2 m94
noncomputable def slices_IndexFunc_Thing_l2_d (G : slices_IndexFunc_Thing_G) (n : Nat) : Go.Rv.LE := fun _ρ h K => decSt [(0, .lst none none 13 none), (1, .fn 108 [.ref [.i .i64 none] 0]), (7, .i .i64 none), (8, .i .i64 none)] [] h fun a _b => slices_IndexFunc_Thing_l2 G n a.1.1 a.1.2.1 a.1.2.2 a.2.1.1.1 a.2.2.1 (fun w0 => K .ret ⟨[(4, .i .i64 w0)], []⟩) (K (.exit 0) ⟨[(4, .u)], []⟩) (a.2.2.2.1)
noncomputable def slices_IndexFunc_Thing_d2 (G : slices_IndexFunc_Thing_G) (n : Nat) : Go.Rv.LE := slices_IndexFunc_Thing_l2_d G n
noncomputable def slices_IndexFunc_Thing_lp (G : slices_IndexFunc_Thing_G) (n : Nat) : LK := tabL [(2, slices_IndexFunc_Thing_d2 G n)]
theorem slices_IndexFunc_Thing_l2_k (G : slices_IndexFunc_Thing_G) {ρ : Type} (n : Nat) (p0 : Bool) (p1 : Bool) (p2 : Rows) (p3 : Int) (p4 : Int) (K : Ex → St → Option ρ) (N : St → Option ρ) : ∀ v, roundC (slices_IndexFunc_Thing_S G) slices_IndexFunc_Thing_hs (slices_IndexFunc_Thing_lp G n) slices_IndexFunc_Thing_c2 0 N K (slices_IndexFunc_Thing_l2_enc p0 p1 p2 p3 p4 v) = slices_IndexFunc_Thing_l2_s G n p0 p1 p2 p3 p4 (fun w0 => K .ret ⟨[(4, .i .i64 w0)], []⟩) (K (.exit 0) ⟨[(4, .u)], []⟩) (fun v => N (slices_IndexFunc_Thing_l2_enc p0 p1 p2 p3 p4 v)) v
  | v => by kernel_rfl
theorem slices_IndexFunc_Thing_l2_dok (n : Nat) : LE.OK (slices_IndexFunc_Thing_l2_d (slices_IndexFunc_Thing_g n) n) (L tab) slices_IndexFunc_Thing_c2 := LE.shp (fun _ _ _ => rfl) fun ρ K y a b e => LE.rounds (slices_IndexFunc_Thing_Sok n) (LK.of (l := []) (by kernel_rfl) ((fun _ h => nomatch h))) (slices_IndexFunc_Thing_l2_k (slices_IndexFunc_Thing_g n) n _ _ _ _ _ K) (by kernel_rfl) (by kernel_rfl) e
theorem slices_IndexFunc_Thing_d2_ok (n : Nat) : LE.OK (slices_IndexFunc_Thing_d2 (slices_IndexFunc_Thing_g n) n) (L tab) slices_IndexFunc_Thing_c2 := slices_IndexFunc_Thing_l2_dok n
theorem slices_IndexFunc_Thing_k (G : slices_IndexFunc_Thing_G) {ρ : Type} (n : Nat) (a0 : Bool) (a1 : Bool) (a2 : Rows) (a3 : Int) (K : Res → Option ρ) : runC (slices_IndexFunc_Thing_S G) slices_IndexFunc_Thing_hs (slices_IndexFunc_Thing_lp G n) m94 [.lst a0 a1 13 a2, .fn 108 [.ref [.i .i64 a3] 0]] K = slices_IndexFunc_Thing_s G n a0 a1 a2 a3 (fun w0 => K ⟨.i .i64 w0, [], []⟩) := by kernel_rfl
theorem slices_IndexFunc_Thing_ok (n : Nat) : EK.OK (slices_IndexFunc_Thing_e n) 94 (L tab) := EK.shp (fun _ _ _ => rfl) fun ρ K y c e => EK.run (slices_IndexFunc_Thing_Sok n) (by kernel_rfl) (MF.LKOK.of (LK.of (l := [slices_IndexFunc_Thing_c2]) (by kernel_rfl) (List.forall_mem_cons.2 ⟨LE.at (e := slices_IndexFunc_Thing_d2 (slices_IndexFunc_Thing_g n) n) (by kernel_rfl) (slices_IndexFunc_Thing_d2_ok n), (fun _ h => nomatch h)⟩))) (slices_IndexFunc_Thing_k (slices_IndexFunc_Thing_g n) n _ _ _ _ K) (by kernel_rfl) e

/-! (reeve/state.State).owner -/
abbrev state_State_owner_T : Type 1 := (ρ : Type) → Int → Int → Int → Bool → Bool → Rows → Bool → Bool → Rows → Int → (Int → Option ρ) → Option ρ
def state_State_owner_E (G : state_State_owner_T) : EK := fun ρ args K => decL [.agg [.i .i64 none, .i .i64 none, .i .i64 none, .lst none none 5 none, .lst none none 13 none], .i .i64 none] args fun c => G ρ c.1.1 c.1.2.1 c.1.2.2.1 c.1.2.2.2.1.1 c.1.2.2.2.1.2.1 c.1.2.2.2.1.2.2 c.1.2.2.2.2.1.1 c.1.2.2.2.2.1.2.1 c.1.2.2.2.2.1.2.2 c.2.1 (fun w0 => K ⟨.i .i64 w0, [], []⟩)
structure state_State_owner_G where
  mk ::
  slices_IndexFunc_Thing : slices_IndexFunc_Thing_T
noncomputable def state_State_owner_s (G : state_State_owner_G) {ρ : Type} (_n : Nat) (_a0 : Int) (_a1 : Int) (_a2 : Int) (_a3 : Bool) (_a4 : Bool) (_a5 : Rows) (a6 : Bool) (a7 : Bool) (a8 : Rows) (a9 : Int) (k0 : (Int → Option ρ)) : Option ρ :=
  G.slices_IndexFunc_Thing ρ a6 a7 a8 a9 (fun w0_0 =>
    k0 w0_0)
noncomputable def state_State_owner_g (n : Nat) : state_State_owner_G := ⟨slices_IndexFunc_Thing n⟩
noncomputable def state_State_owner (n : Nat) : state_State_owner_T := fun _ρ a0 a1 a2 a3 a4 a5 a6 a7 a8 a9 k0 => state_State_owner_s (state_State_owner_g n) n a0 a1 a2 a3 a4 a5 a6 a7 a8 a9 k0
noncomputable def state_State_owner_e (n : Nat) : EK := state_State_owner_E (state_State_owner n)
def state_State_owner_S (G : state_State_owner_G) : CK := tabS [(94, slices_IndexFunc_Thing_E G.slices_IndexFunc_Thing)]
theorem state_State_owner_Sok (n : Nat) : CK.OK (state_State_owner_S (state_State_owner_g n)) (L tab) := tabS_ok _ (List.forall_mem_cons.2 ⟨(slices_IndexFunc_Thing_ok n), (fun _ h => nomatch h)⟩)
def state_State_owner_hs : HintC := hintL []
noncomputable def state_State_owner_lp (_G : state_State_owner_G) (_n : Nat) : LK := tabL []
theorem state_State_owner_k (G : state_State_owner_G) {ρ : Type} (n : Nat) (a0 : Int) (a1 : Int) (a2 : Int) (a3 : Bool) (a4 : Bool) (a5 : Rows) (a6 : Bool) (a7 : Bool) (a8 : Rows) (a9 : Int) (K : Res → Option ρ) : runC (state_State_owner_S G) state_State_owner_hs (state_State_owner_lp G n) m92 [.agg [.i .i64 a0, .i .i64 a1, .i .i64 a2, .lst a3 a4 5 a5, .lst a6 a7 13 a8], .i .i64 a9] K = state_State_owner_s G n a0 a1 a2 a3 a4 a5 a6 a7 a8 a9 (fun w0 => K ⟨.i .i64 w0, [], []⟩) := by kernel_rfl
theorem state_State_owner_ok (n : Nat) : EK.OK (state_State_owner_e n) 92 (L tab) := EK.shp (fun _ _ _ => rfl) fun ρ K y c e => EK.run (state_State_owner_Sok n) (by kernel_rfl) (MF.LKOK.of (LK.of (l := []) (by kernel_rfl) ((fun _ h => nomatch h)))) (state_State_owner_k (state_State_owner_g n) n _ _ _ _ _ _ _ _ _ _ K) (by kernel_rfl) e

/-! (reeve/state.State).inside -/
abbrev state_State_inside_T : Type 1 := (ρ : Type) → Int → Int → Int → Bool → Bool → Rows → Bool → Bool → Rows → Int → Int → (Bool → Option ρ) → Option ρ
def state_State_inside_E (G : state_State_inside_T) : EK := fun ρ args K => decL [.agg [.i .i64 none, .i .i64 none, .i .i64 none, .lst none none 5 none, .lst none none 13 none], .i .i64 none, .i .i64 none] args fun c => G ρ c.1.1 c.1.2.1 c.1.2.2.1 c.1.2.2.2.1.1 c.1.2.2.2.1.2.1 c.1.2.2.2.1.2.2 c.1.2.2.2.2.1.1 c.1.2.2.2.2.1.2.1 c.1.2.2.2.2.1.2.2 c.2.1 c.2.2.1 (fun w0 => K ⟨.b w0, [], []⟩)
structure state_State_inside_G where
  mk ::
  state_State_there : state_State_there_T
  state_within : state_within_T
  state_State_owner : state_State_owner_T
noncomputable def state_State_inside_s (G : state_State_inside_G) {ρ : Type} (_n : Nat) (a0 : Int) (a1 : Int) (a2 : Int) (a3 : Bool) (a4 : Bool) (a5 : Rows) (a6 : Bool) (a7 : Bool) (a8 : Rows) (a9 : Int) (a10 : Int) (k0 : (Bool → Option ρ)) : Option ρ :=
  G.state_State_there ρ a0 a1 a2 a3 a4 a5 a6 a7 a8 a9 (fun w0_0 =>
    bif w0_0 then
      rowT [.i .i64, .i .i64, .i .i64, .i .i64, .i .i64, .i .i64, .i .i64, .b, .i .u64, .i .u64, .i .u64, .i .u64, .i .u64] a8 a9 fun c1 =>
      bif ((c1.1 : Int) != 2) then
        k0 false
      else G.state_within ρ a0 a1 a2 a3 a4 a5 a6 a7 a8 a9 [] (fun w2_0 =>
        G.state_State_owner ρ a0 a1 a2 a3 a4 a5 a6 a7 a8 a10 (fun w3_0 =>
          mapB false (.i .i64 w3_0) w2_0 fun q4 =>
            bif q4 then
              k0 true
            else k0 false))
    else k0 false)
noncomputable def state_State_inside_g (n : Nat) : state_State_inside_G := ⟨state_State_there n, state_within n n, state_State_owner n⟩
noncomputable def state_State_inside (n : Nat) : state_State_inside_T := fun _ρ a0 a1 a2 a3 a4 a5 a6 a7 a8 a9 a10 k0 => state_State_inside_s (state_State_inside_g n) n a0 a1 a2 a3 a4 a5 a6 a7 a8 a9 a10 k0
noncomputable def state_State_inside_e (n : Nat) : EK := state_State_inside_E (state_State_inside n)
def state_State_inside_S (G : state_State_inside_G) : CK := tabS [(60, state_State_there_E G.state_State_there), (91, state_within_E G.state_within), (92, state_State_owner_E G.state_State_owner)]
theorem state_State_inside_Sok (n : Nat) : CK.OK (state_State_inside_S (state_State_inside_g n)) (L tab) := tabS_ok _ (List.forall_mem_cons.2 ⟨(state_State_there_ok n), List.forall_mem_cons.2 ⟨(state_within_ok n n), List.forall_mem_cons.2 ⟨(state_State_owner_ok n), (fun _ h => nomatch h)⟩⟩⟩)
def state_State_inside_hs : HintC := hintL [(16, [.i .i64, .i .i64, .i .i64, .i .i64, .i .i64, .i .i64, .i .i64, .b, .i .u64, .i .u64, .i .u64, .i .u64, .i .u64])]
noncomputable def state_State_inside_lp (_G : state_State_inside_G) (_n : Nat) : LK := tabL []
theorem state_State_inside_k (G : state_State_inside_G) {ρ : Type} (n : Nat) (a0 : Int) (a1 : Int) (a2 : Int) (a3 : Bool) (a4 : Bool) (a5 : Rows) (a6 : Bool) (a7 : Bool) (a8 : Rows) (a9 : Int) (a10 : Int) (K : Res → Option ρ) : runC (state_State_inside_S G) state_State_inside_hs (state_State_inside_lp G n) m64 [.agg [.i .i64 a0, .i .i64 a1, .i .i64 a2, .lst a3 a4 5 a5, .lst a6 a7 13 a8], .i .i64 a9, .i .i64 a10] K = state_State_inside_s G n a0 a1 a2 a3 a4 a5 a6 a7 a8 a9 a10 (fun w0 => K ⟨.b w0, [], []⟩) := by kernel_rfl
theorem state_State_inside_ok (n : Nat) : EK.OK (state_State_inside_e n) 64 (L tab) := EK.shp (fun _ _ _ => rfl) fun ρ K y c e => EK.run (state_State_inside_Sok n) (by kernel_rfl) (MF.LKOK.of (LK.of (l := []) (by kernel_rfl) ((fun _ h => nomatch h)))) (state_State_inside_k (state_State_inside_g n) n _ _ _ _ _ _ _ _ _ _ _ K) (by kernel_rfl) e

/-! (reeve/state.State).ring -/
abbrev state_State_ring_T : Type 1 := (ρ : Type) → Int → Int → Int → Bool → Bool → Rows → Bool → Bool → Rows → (Bool → Option ρ) → Option ρ
def state_State_ring_E (G : state_State_ring_T) : EK := fun ρ args K => decL [.agg [.i .i64 none, .i .i64 none, .i .i64 none, .lst none none 5 none, .lst none none 13 none]] args fun c => G ρ c.1.1 c.1.2.1 c.1.2.2.1 c.1.2.2.2.1.1 c.1.2.2.2.1.2.1 c.1.2.2.2.1.2.2 c.1.2.2.2.2.1.1 c.1.2.2.2.2.1.2.1 c.1.2.2.2.2.1.2.2 (fun w0 => K ⟨.b w0, [], []⟩)
structure state_State_ring_G where
  mk ::
  state_State_inside : state_State_inside_T
abbrev state_State_ring_l2_V : Type := Int
noncomputable def state_State_ring_l2_s (G : state_State_ring_G) {ρ : Type} (_n : Nat) (_p0 : Bool) (_p1 : Bool) (p2 : Rows) (p3 : Int) (p4 : Int) (p5 : Int) (p6 : Int) (p7 : Bool) (p8 : Bool) (p9 : Rows) (p10 : Bool) (p11 : Bool) (p12 : Rows) (k0 : (Option ρ)) (k1 : (Option ρ)) (rec' : state_State_ring_l2_V → Option ρ) : state_State_ring_l2_V → Option ρ
  | v =>
  bif decide ((v : Int) < p3) then
    rowT [.i .i64, .i .i64, .i .i64, .i .i64, .i .i64] p2 v fun c0 =>
    bif ((c0.1 : Int) == 2) then
      G.state_State_inside ρ p4 p5 p6 p7 p8 p9 p10 p11 p12 c0.2.1 v (fun w1_0 =>
        bif w1_0 then
          k0
        else rec' ((IntKind.wrap .i64 (v + 1))))
    else rec' ((IntKind.wrap .i64 (v + 1)))
  else k1
noncomputable def state_State_ring_l2 (G : state_State_ring_G) {ρ : Type} (n : Nat) (p0 : Bool) (p1 : Bool) (p2 : Rows) (p3 : Int) (p4 : Int) (p5 : Int) (p6 : Int) (p7 : Bool) (p8 : Bool) (p9 : Rows) (p10 : Bool) (p11 : Bool) (p12 : Rows) (k0 : (Option ρ)) (k1 : (Option ρ)) (v : state_State_ring_l2_V) : Option ρ := fuelN (state_State_ring_l2_s G n p0 p1 p2 p3 p4 p5 p6 p7 p8 p9 p10 p11 p12 k0 k1) n v
def state_State_ring_l2_enc (p0 : Bool) (p1 : Bool) (p2 : Rows) (p3 : Int) (p4 : Int) (p5 : Int) (p6 : Int) (p7 : Bool) (p8 : Bool) (p9 : Rows) (p10 : Bool) (p11 : Bool) (p12 : Rows) : state_State_ring_l2_V → St
  | v => ⟨[(1, .ptr 0 1 5 0 0), (6, .lst p0 p1 5 p2), (7, .i .i64 p3), (8, .i .i64 v)], [.row 5 true false [[.i .i64 p4, .i .i64 p5, .i .i64 p6, .lst p7 p8 5 p9, .lst p10 p11 13 p12]]]⟩
noncomputable def state_State_ring_s (G : state_State_ring_G) {ρ : Type} (n : Nat) (a0 : Int) (a1 : Int) (a2 : Int) (a3 : Bool) (a4 : Bool) (a5 : Rows) (a6 : Bool) (a7 : Bool) (a8 : Rows) (k0 : (Bool → Option ρ)) : Option ρ :=
  state_State_ring_l2 G n a3 a4 a5 (((List.length (a5 : Rows)) : Nat) : Int) a0 a1 a2 a3 a4 a5 a6 a7 a8 (k0 true) (k0 false) (0)
noncomputable def state_State_ring_g (n : Nat) : state_State_ring_G := ⟨state_State_inside n⟩
noncomputable def state_State_ring (n : Nat) : state_State_ring_T := fun _ρ a0 a1 a2 a3 a4 a5 a6 a7 a8 k0 => state_State_ring_s (state_State_ring_g n) n a0 a1 a2 a3 a4 a5 a6 a7 a8 k0
noncomputable def state_State_ring_e (n : Nat) : EK := state_State_ring_E (state_State_ring n)
def state_State_ring_S (G : state_State_ring_G) : CK := tabS [(64, state_State_inside_E G.state_State_inside)]
theorem state_State_ring_Sok (n : Nat) : CK.OK (state_State_ring_S (state_State_ring_g n)) (L tab) := tabS_ok _ (List.forall_mem_cons.2 ⟨(state_State_inside_ok n), (fun _ h => nomatch h)⟩)
def state_State_ring_hs : HintC := hintL [(11, [.i .i64, .i .i64, .i .i64, .i .i64, .i .i64])]
def state_State_ring_c2 : Nat × List Nat × List Nat × MC := loopAt 2 m40
noncomputable def state_State_ring_l2_d (G : state_State_ring_G) (n : Nat) : Go.Rv.LE := fun _ρ h K => decSt [(1, .ptr 0 5 0 (some 1) (some 0)), (6, .lst none none 5 none), (7, .i .i64 none), (8, .i .i64 none)] [.row 5 true false (some [[.i .i64 none, .i .i64 none, .i .i64 none, .lst none none 5 none, .lst none none 13 none]])] h fun a b => state_State_ring_l2 G n a.2.1.1 a.2.1.2.1 a.2.1.2.2 a.2.2.1 b.1.1.1 b.1.1.2.1 b.1.1.2.2.1 b.1.1.2.2.2.1.1 b.1.1.2.2.2.1.2.1 b.1.1.2.2.2.1.2.2 b.1.1.2.2.2.2.1.1 b.1.1.2.2.2.2.1.2.1 b.1.1.2.2.2.2.1.2.2 (K .ret ⟨[(2, .b true)], [.row 5 true false [[.i .i64 b.1.1.1, .i .i64 b.1.1.2.1, .i .i64 b.1.1.2.2.1, .lst b.1.1.2.2.2.1.1 b.1.1.2.2.2.1.2.1 5 b.1.1.2.2.2.1.2.2, .lst b.1.1.2.2.2.2.1.1 b.1.1.2.2.2.2.1.2.1 13 b.1.1.2.2.2.2.1.2.2]]]⟩) (K (.exit 0) ⟨[(2, .u)], [.row 5 true false [[.i .i64 b.1.1.1, .i .i64 b.1.1.2.1, .i .i64 b.1.1.2.2.1, .lst b.1.1.2.2.2.1.1 b.1.1.2.2.2.1.2.1 5 b.1.1.2.2.2.1.2.2, .lst b.1.1.2.2.2.2.1.1 b.1.1.2.2.2.2.1.2.1 13 b.1.1.2.2.2.2.1.2.2]]]⟩) (a.2.2.2.1)
noncomputable def state_State_ring_d2 (G : state_State_ring_G) (n : Nat) : Go.Rv.LE := state_State_ring_l2_d G n
noncomputable def state_State_ring_lp (G : state_State_ring_G) (n : Nat) : LK := tabL [(2, state_State_ring_d2 G n)]
theorem state_State_ring_l2_k (G : state_State_ring_G) {ρ : Type} (n : Nat) (p0 : Bool) (p1 : Bool) (p2 : Rows) (p3 : Int) (p4 : Int) (p5 : Int) (p6 : Int) (p7 : Bool) (p8 : Bool) (p9 : Rows) (p10 : Bool) (p11 : Bool) (p12 : Rows) (K : Ex → St → Option ρ) (N : St → Option ρ) : ∀ v, roundC (state_State_ring_S G) state_State_ring_hs (state_State_ring_lp G n) state_State_ring_c2 1 N K (state_State_ring_l2_enc p0 p1 p2 p3 p4 p5 p6 p7 p8 p9 p10 p11 p12 v) = state_State_ring_l2_s G n p0 p1 p2 p3 p4 p5 p6 p7 p8 p9 p10 p11 p12 (K .ret ⟨[(2, .b true)], [.row 5 true false [[.i .i64 p4, .i .i64 p5, .i .i64 p6, .lst p7 p8 5 p9, .lst p10 p11 13 p12]]]⟩) (K (.exit 0) ⟨[(2, .u)], [.row 5 true false [[.i .i64 p4, .i .i64 p5, .i .i64 p6, .lst p7 p8 5 p9, .lst p10 p11 13 p12]]]⟩) (fun v => N (state_State_ring_l2_enc p0 p1 p2 p3 p4 p5 p6 p7 p8 p9 p10 p11 p12 v)) v
  | v => by kernel_rfl
theorem state_State_ring_l2_dok (n : Nat) : LE.OK (state_State_ring_l2_d (state_State_ring_g n) n) (L tab) state_State_ring_c2 := LE.shp (fun _ _ _ => rfl) fun ρ K y a b e => LE.rounds (state_State_ring_Sok n) (LK.of (l := []) (by kernel_rfl) ((fun _ h => nomatch h))) (state_State_ring_l2_k (state_State_ring_g n) n _ _ _ _ _ _ _ _ _ _ _ _ _ K) (by kernel_rfl) (by kernel_rfl) e
theorem state_State_ring_d2_ok (n : Nat) : LE.OK (state_State_ring_d2 (state_State_ring_g n) n) (L tab) state_State_ring_c2 := state_State_ring_l2_dok n
theorem state_State_ring_k (G : state_State_ring_G) {ρ : Type} (n : Nat) (a0 : Int) (a1 : Int) (a2 : Int) (a3 : Bool) (a4 : Bool) (a5 : Rows) (a6 : Bool) (a7 : Bool) (a8 : Rows) (K : Res → Option ρ) : runC (state_State_ring_S G) state_State_ring_hs (state_State_ring_lp G n) m40 [.agg [.i .i64 a0, .i .i64 a1, .i .i64 a2, .lst a3 a4 5 a5, .lst a6 a7 13 a8]] K = state_State_ring_s G n a0 a1 a2 a3 a4 a5 a6 a7 a8 (fun w0 => K ⟨.b w0, [], []⟩) := by kernel_rfl
theorem state_State_ring_ok (n : Nat) : EK.OK (state_State_ring_e n) 40 (L tab) := EK.shp (fun _ _ _ => rfl) fun ρ K y c e => EK.run (state_State_ring_Sok n) (by kernel_rfl) (MF.LKOK.of (LK.of (l := [state_State_ring_c2]) (by kernel_rfl) (List.forall_mem_cons.2 ⟨LE.at (e := state_State_ring_d2 (state_State_ring_g n) n) (by kernel_rfl) (state_State_ring_d2_ok n), (fun _ h => nomatch h)⟩))) (state_State_ring_k (state_State_ring_g n) n _ _ _ _ _ _ _ _ _ K) (by kernel_rfl) e

/-! reeve/state.Forest -/
abbrev state_Forest_T : Type 1 := (ρ : Type) → Int → Int → Int → Bool → Bool → Rows → Bool → Bool → Rows → (Bool → Bool → Rows → Option ρ) → Option ρ
def state_Forest_E (G : state_Forest_T) : EK := fun ρ args K => decL [.agg [.i .i64 none, .i .i64 none, .i .i64 none, .lst none none 5 none, .lst none none 13 none]] args fun c => G ρ c.1.1 c.1.2.1 c.1.2.2.1 c.1.2.2.2.1.1 c.1.2.2.2.1.2.1 c.1.2.2.2.1.2.2 c.1.2.2.2.2.1.1 c.1.2.2.2.2.1.2.1 c.1.2.2.2.2.1.2.2 (fun w0 w1 w2 => K ⟨.agg [.lst w0 w1 1 w2], [], []⟩)
structure state_Forest_G where
  mk ::
  cap_None : cap_None_T
abbrev state_Forest_l3_V : Type := (Unit) ⊕ (Int × Nat × Nat × Rows)
noncomputable def state_Forest_l3_s (G : state_Forest_G) {ρ : Type} (_n : Nat) (_p0 : Bool) (_p1 : Bool) (p2 : Rows) (p3 : Int) (_p4 : Int) (_p5 : Int) (_p6 : Int) (_p7 : Bool) (_p8 : Bool) (_p9 : Rows) (_p10 : Bool) (_p11 : Bool) (_p12 : Rows) (k0 : (Option ρ)) (k1 : (Nat → Nat → Rows → Option ρ)) (rec' : state_Forest_l3_V → Option ρ) : state_Forest_l3_V → Option ρ
  | (.inl _v) =>
  bif decide ((0 : Int) < p3) then
    rowT [.i .i64, .i .i64, .i .i64, .i .i64, .i .i64] p2 0 fun c0 =>
    G.cap_None ρ c0.1 c0.2.1 c0.2.2.1 c0.2.2.2.1 (fun w1_0 =>
      bif w1_0 then
        rec' (.inr (1, 1, 1, [[.i .i64 (-2)]]))
      else rec' (.inr (1, 1, 1, [[.i .i64 c0.2.2.2.2.1]])))
  else k0
  | (.inr v) =>
  bif decide ((v.1 : Int) < p3) then
    rowT [.i .i64, .i .i64, .i .i64, .i .i64, .i .i64] p2 v.1 fun c2 =>
    G.cap_None ρ c2.1 c2.2.1 c2.2.2.1 c2.2.2.2.1 (fun w3_0 =>
      bif w3_0 then
        chk (((List.length (v.2.2.2 : Rows)) : Nat) == v.2.1) <|
        chk ((v.2.2.1 : Nat) == v.2.1) <|
        chk (decide ((v.2.1 + 1) ≤ most)) <|
        rec' (.inr ((IntKind.wrap .i64 (v.1 + 1)), (v.2.1 + 1), (v.2.1 + 1), (v.2.2.2 ++ [[.i .i64 (-2)]])))
      else chk (((List.length (v.2.2.2 : Rows)) : Nat) == v.2.1) <|
      chk ((v.2.2.1 : Nat) == v.2.1) <|
      chk (decide ((v.2.1 + 1) ≤ most)) <|
      rec' (.inr ((IntKind.wrap .i64 (v.1 + 1)), (v.2.1 + 1), (v.2.1 + 1), (v.2.2.2 ++ [[.i .i64 c2.2.2.2.2.1]]))))
  else k1 v.2.1 v.2.2.1 v.2.2.2
noncomputable def state_Forest_l3 (G : state_Forest_G) {ρ : Type} (n : Nat) (p0 : Bool) (p1 : Bool) (p2 : Rows) (p3 : Int) (p4 : Int) (p5 : Int) (p6 : Int) (p7 : Bool) (p8 : Bool) (p9 : Rows) (p10 : Bool) (p11 : Bool) (p12 : Rows) (k0 : (Option ρ)) (k1 : (Nat → Nat → Rows → Option ρ)) (v : state_Forest_l3_V) : Option ρ := fuelN (state_Forest_l3_s G n p0 p1 p2 p3 p4 p5 p6 p7 p8 p9 p10 p11 p12 k0 k1) n v
def state_Forest_l3_enc (p0 : Bool) (p1 : Bool) (p2 : Rows) (p3 : Int) (p4 : Int) (p5 : Int) (p6 : Int) (p7 : Bool) (p8 : Bool) (p9 : Rows) (p10 : Bool) (p11 : Bool) (p12 : Rows) : state_Forest_l3_V → St
  | (.inl _v) => ⟨[(2, .ptr 1 1 1 0 0), (3, .ptr 2 1 1 0 0), (7, .lst p0 p1 5 p2), (8, .i .i64 p3), (9, .i .i64 0)], [.row 5 true false [[.i .i64 p4, .i .i64 p5, .i .i64 p6, .lst p7 p8 5 p9, .lst p10 p11 13 p12]], .row 1 true false [[.lst true true 0 []]], .row 1 true false [[.lst true true 0 []]]]⟩
  | (.inr v) => ⟨[(2, .ptr 1 1 1 0 0), (3, .ptr 2 1 1 0 0), (7, .lst p0 p1 5 p2), (8, .i .i64 p3), (9, .i .i64 v.1)], [.row 5 true false [[.i .i64 p4, .i .i64 p5, .i .i64 p6, .lst p7 p8 5 p9, .lst p10 p11 13 p12]], .row 1 true false [[.lst true true 0 []]], .row 1 false false [[.sl 3 v.2.1 1 0 v.2.2.1]], .row 1 true false v.2.2.2]⟩
noncomputable def state_Forest_s (G : state_Forest_G) {ρ : Type} (n : Nat) (a0 : Int) (a1 : Int) (a2 : Int) (a3 : Bool) (a4 : Bool) (a5 : Rows) (a6 : Bool) (a7 : Bool) (a8 : Rows) (k0 : (Bool → Bool → Rows → Option ρ)) : Option ρ :=
  state_Forest_l3 G n a3 a4 a5 (((List.length (a5 : Rows)) : Nat) : Int) a0 a1 a2 a3 a4 a5 a6 a7 a8 (k0 true true []) (fun w1_0 w1_1 w1_2 =>
    chk (((List.length (w1_2 : Rows)) : Nat) == w1_0) <|
    k0 false false (List.take w1_1 (List.drop 0 (w1_2 : Rows)))) (.inl ())
noncomputable def state_Forest_g (n : Nat) : state_Forest_G := ⟨cap_None n⟩
noncomputable def state_Forest (n : Nat) : state_Forest_T := fun _ρ a0 a1 a2 a3 a4 a5 a6 a7 a8 k0 => state_Forest_s (state_Forest_g n) n a0 a1 a2 a3 a4 a5 a6 a7 a8 k0
noncomputable def state_Forest_e (n : Nat) : EK := state_Forest_E (state_Forest n)
def state_Forest_S (G : state_Forest_G) : CK := tabS [(24, cap_None_E G.cap_None)]
theorem state_Forest_Sok (n : Nat) : CK.OK (state_Forest_S (state_Forest_g n)) (L tab) := tabS_ok _ (List.forall_mem_cons.2 ⟨(cap_None_ok n), (fun _ h => nomatch h)⟩)
def state_Forest_hs : HintC := hintL [(11, [.i .i64, .i .i64, .i .i64, .i .i64, .i .i64])]
def state_Forest_c3 : Nat × List Nat × List Nat × MC := loopAt 3 m31
noncomputable def state_Forest_l3_d (G : state_Forest_G) (n : Nat) : Go.Rv.LE := fun _ρ h K => decSt [(2, .ptr 1 1 0 (some 1) (some 0)), (3, .ptr 2 1 0 (some 1) (some 0)), (7, .lst none none 5 none), (8, .i .i64 none), (9, .i .i64 (some 0))] [.row 5 true false (some [[.i .i64 none, .i .i64 none, .i .i64 none, .lst none none 5 none, .lst none none 13 none]]), .row 1 true false (some [[.lst (some true) (some true) 0 (some [])]]), .row 1 true false (some [[.lst (some true) (some true) 0 (some [])]])] h fun a b => state_Forest_l3 G n a.2.2.1.1 a.2.2.1.2.1 a.2.2.1.2.2 a.2.2.2.1 b.1.1.1 b.1.1.2.1 b.1.1.2.2.1 b.1.1.2.2.2.1.1 b.1.1.2.2.2.1.2.1 b.1.1.2.2.2.1.2.2 b.1.1.2.2.2.2.1.1 b.1.1.2.2.2.2.1.2.1 b.1.1.2.2.2.2.1.2.2 (K (.exit 0) ⟨[(2, .ptr 1 1 1 0 0), (3, .ptr 2 1 1 0 0)], [.row 5 true false [[.i .i64 b.1.1.1, .i .i64 b.1.1.2.1, .i .i64 b.1.1.2.2.1, .lst b.1.1.2.2.2.1.1 b.1.1.2.2.2.1.2.1 5 b.1.1.2.2.2.1.2.2, .lst b.1.1.2.2.2.2.1.1 b.1.1.2.2.2.2.1.2.1 13 b.1.1.2.2.2.2.1.2.2]], .row 1 true false [[.lst true true 0 []]], .row 1 true false [[.lst true true 0 []]]]⟩) (fun w0 w1 w2 => K (.exit 0) ⟨[(2, .ptr 1 1 1 0 0), (3, .ptr 2 1 1 0 0)], [.row 5 true false [[.i .i64 b.1.1.1, .i .i64 b.1.1.2.1, .i .i64 b.1.1.2.2.1, .lst b.1.1.2.2.2.1.1 b.1.1.2.2.2.1.2.1 5 b.1.1.2.2.2.1.2.2, .lst b.1.1.2.2.2.2.1.1 b.1.1.2.2.2.2.1.2.1 13 b.1.1.2.2.2.2.1.2.2]], .row 1 true false [[.lst true true 0 []]], .row 1 false false [[.sl 3 w0 1 0 w1]], .row 1 true false w2]⟩) (.inl ())
noncomputable def state_Forest_d3 (G : state_Forest_G) (n : Nat) : Go.Rv.LE := state_Forest_l3_d G n
noncomputable def state_Forest_lp (G : state_Forest_G) (n : Nat) : LK := tabL [(3, state_Forest_d3 G n)]
theorem state_Forest_l3_k (G : state_Forest_G) {ρ : Type} (n : Nat) (p0 : Bool) (p1 : Bool) (p2 : Rows) (p3 : Int) (p4 : Int) (p5 : Int) (p6 : Int) (p7 : Bool) (p8 : Bool) (p9 : Rows) (p10 : Bool) (p11 : Bool) (p12 : Rows) (K : Ex → St → Option ρ) (N : St → Option ρ) : ∀ v, roundC (state_Forest_S G) state_Forest_hs (state_Forest_lp G n) state_Forest_c3 3 N K (state_Forest_l3_enc p0 p1 p2 p3 p4 p5 p6 p7 p8 p9 p10 p11 p12 v) = state_Forest_l3_s G n p0 p1 p2 p3 p4 p5 p6 p7 p8 p9 p10 p11 p12 (K (.exit 0) ⟨[(2, .ptr 1 1 1 0 0), (3, .ptr 2 1 1 0 0)], [.row 5 true false [[.i .i64 p4, .i .i64 p5, .i .i64 p6, .lst p7 p8 5 p9, .lst p10 p11 13 p12]], .row 1 true false [[.lst true true 0 []]], .row 1 true false [[.lst true true 0 []]]]⟩) (fun w0 w1 w2 => K (.exit 0) ⟨[(2, .ptr 1 1 1 0 0), (3, .ptr 2 1 1 0 0)], [.row 5 true false [[.i .i64 p4, .i .i64 p5, .i .i64 p6, .lst p7 p8 5 p9, .lst p10 p11 13 p12]], .row 1 true false [[.lst true true 0 []]], .row 1 false false [[.sl 3 w0 1 0 w1]], .row 1 true false w2]⟩) (fun v => N (state_Forest_l3_enc p0 p1 p2 p3 p4 p5 p6 p7 p8 p9 p10 p11 p12 v)) v
  | (.inl v) => by kernel_rfl
  | (.inr v) => by kernel_rfl
theorem state_Forest_l3_dok (n : Nat) : LE.OK (state_Forest_l3_d (state_Forest_g n) n) (L tab) state_Forest_c3 := LE.shp (fun _ _ _ => rfl) fun ρ K y a b e => LE.rounds (state_Forest_Sok n) (LK.of (l := []) (by kernel_rfl) ((fun _ h => nomatch h))) (state_Forest_l3_k (state_Forest_g n) n _ _ _ _ _ _ _ _ _ _ _ _ _ K) (by kernel_rfl) (by kernel_rfl) e
theorem state_Forest_d3_ok (n : Nat) : LE.OK (state_Forest_d3 (state_Forest_g n) n) (L tab) state_Forest_c3 := state_Forest_l3_dok n
theorem state_Forest_k (G : state_Forest_G) {ρ : Type} (n : Nat) (a0 : Int) (a1 : Int) (a2 : Int) (a3 : Bool) (a4 : Bool) (a5 : Rows) (a6 : Bool) (a7 : Bool) (a8 : Rows) (K : Res → Option ρ) : runC (state_Forest_S G) state_Forest_hs (state_Forest_lp G n) m31 [.agg [.i .i64 a0, .i .i64 a1, .i .i64 a2, .lst a3 a4 5 a5, .lst a6 a7 13 a8]] K = state_Forest_s G n a0 a1 a2 a3 a4 a5 a6 a7 a8 (fun w0 w1 w2 => K ⟨.agg [.lst w0 w1 1 w2], [], []⟩) := by kernel_rfl
theorem state_Forest_ok (n : Nat) : EK.OK (state_Forest_e n) 31 (L tab) := EK.shp (fun _ _ _ => rfl) fun ρ K y c e => EK.run (state_Forest_Sok n) (by kernel_rfl) (MF.LKOK.of (LK.of (l := [state_Forest_c3]) (by kernel_rfl) (List.forall_mem_cons.2 ⟨LE.at (e := state_Forest_d3 (state_Forest_g n) n) (by kernel_rfl) (state_Forest_d3_ok n), (fun _ h => nomatch h)⟩))) (state_Forest_k (state_Forest_g n) n _ _ _ _ _ _ _ _ _ K) (by kernel_rfl) e

/-! (reeve/forest.Forest).is -/
abbrev forest_Forest_is_T : Type 1 := (ρ : Type) → Bool → Bool → Rows → Int → (Bool → Option ρ) → Option ρ
def forest_Forest_is_E (G : forest_Forest_is_T) : EK := fun ρ args K => decL [.agg [.lst none none 1 none], .i .i64 none] args fun c => G ρ c.1.1.1 c.1.1.2.1 c.1.1.2.2 c.2.1 (fun w0 => K ⟨.b w0, [], []⟩)
structure forest_Forest_is_G where
  mk ::
noncomputable def forest_Forest_is_s (_G : forest_Forest_is_G) {ρ : Type} (_n : Nat) (_a0 : Bool) (_a1 : Bool) (a2 : Rows) (a3 : Int) (k0 : (Bool → Option ρ)) : Option ρ :=
  bif decide ((a3 : Int) ≥ 0) then
    bif decide ((a3 : Int) < (((List.length (a2 : Rows)) : Nat) : Int)) then
      rowT [.i .i64] a2 a3 fun c0 =>
      bif ((c0.1 : Int) != (-2)) then
        k0 true
      else k0 false
    else k0 false
  else k0 false
noncomputable def forest_Forest_is_g (_n : Nat) : forest_Forest_is_G := ⟨⟩
noncomputable def forest_Forest_is (n : Nat) : forest_Forest_is_T := fun _ρ a0 a1 a2 a3 k0 => forest_Forest_is_s (forest_Forest_is_g n) n a0 a1 a2 a3 k0
noncomputable def forest_Forest_is_e (n : Nat) : EK := forest_Forest_is_E (forest_Forest_is n)
def forest_Forest_is_S (_G : forest_Forest_is_G) : CK := tabS []
theorem forest_Forest_is_Sok (n : Nat) : CK.OK (forest_Forest_is_S (forest_Forest_is_g n)) (L tab) := tabS_ok _ ((fun _ h => nomatch h))
def forest_Forest_is_hs : HintC := hintL [(18, [.i .i64])]
noncomputable def forest_Forest_is_lp (_G : forest_Forest_is_G) (_n : Nat) : LK := tabL []
theorem forest_Forest_is_k (G : forest_Forest_is_G) {ρ : Type} (n : Nat) (a0 : Bool) (a1 : Bool) (a2 : Rows) (a3 : Int) (K : Res → Option ρ) : runC (forest_Forest_is_S G) forest_Forest_is_hs (forest_Forest_is_lp G n) m65 [.agg [.lst a0 a1 1 a2], .i .i64 a3] K = forest_Forest_is_s G n a0 a1 a2 a3 (fun w0 => K ⟨.b w0, [], []⟩) := by kernel_rfl
theorem forest_Forest_is_ok (n : Nat) : EK.OK (forest_Forest_is_e n) 65 (L tab) := EK.shp (fun _ _ _ => rfl) fun ρ K y c e => EK.run (forest_Forest_is_Sok n) (by kernel_rfl) (MF.LKOK.of (LK.of (l := []) (by kernel_rfl) ((fun _ h => nomatch h)))) (forest_Forest_is_k (forest_Forest_is_g n) n _ _ _ _ K) (by kernel_rfl) e

end Go.Rv
