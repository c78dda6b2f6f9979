/-
The law of the gaps.
-/
import Derived.Test.YtcjpmmbenlbndaaHMa
namespace Go.Rv
theorem ownerF_cases (T : List Thing) (s : Int) : ∀ (d i : Nat), ownerF T s i d = -1 ∨ 0 ≤ ownerF T s i d
  | 0, _ => .inl rfl
  | d + 1, i => by
    simp only [ownerF]
    split
    · cases hasM _ s
      · exact ownerF_cases T s d (i + 1)
      · exact .inr (by simp)
    · exact .inl rfl

/-- where so many have no owner -/
def gapF (T : List Thing) (cnt : Int) : Nat → Nat → Int → Option Int
  | 0, _, _ => none
  | d + 1, i, many => bif ownerM T (i : Int) != -1 then gapF T cnt d (i + 1) 0 else bif many + 1 == cnt then some ((i : Int) + 1 - (many + 1)) else gapF T cnt d (i + 1) (many + 1)

section
variable (n : Nat) (a b c : Int) (x y z w : Bool) (S : List Slot) (T : List Thing)
theorem shl_u {k : Int} (h : 1 ≤ k ∧ k ≤ 4) : IntKind.wrap .i64 ((1 : Int) * 2 ^ (min (IntKind.wrap .u64 k).toNat (IntKind.bits .i64))) = 2 ^ k.toNat := by
  have : IntKind.wrap .u64 k = k := by
    simp [IntKind.wrap, IntKind.signed, IntKind.bits]; omega
  rw [this]; exact shl_id h

theorem gap_loop {ρ : Type} (G : state_Gap_G) (hG : G.state_State_owner = state_State_owner n) (hg : allGood T = true) (hT : T.length < 1000000) (hn : T.length < n) (bits : Int) (hb : 1 ≤ bits ∧ bits ≤ 4) (hS : S.length ≤ 100) (k0 : Int → Option ρ) (k1 : Option ρ) :
    ∀ (d i m : Nat) (many : Int), i + d = S.length → d < m → 0 ≤ many → many ≤ i →
      fuelN (state_Gap_l5_s G n bits ((S.length : Nat) : Int) a b c x y (encS S) z w (encT T) k0 k1) m (many, (i : Int)) = match gapF T (2 ^ bits.toNat) d i many with | some v => k0 v | none => k1 := by
  intro d
  induction d with
  | zero =>
    intro i m many h hm h0 h1
    obtain ⟨m, rfl⟩ : ∃ k, m = k + 1 := ⟨m - 1, by omega⟩
    rw [fuelN_succ]
    generalize fuelN _ m = rec
    unfold state_Gap_l5_s
    simp only
    rw [show decide ((i : Int) < ((S.length : Nat) : Int)) = false by simp; omega]
    rfl
  | succ d ih =>
    intro i m many h hm h0 h1
    obtain ⟨m, rfl⟩ : ∃ k, m = k + 1 := ⟨m - 1, by omega⟩
    have ih1 := fun many' => ih (i + 1) m many' (by omega) (by omega)
    rw [fuelN_succ]
    generalize fuelN _ m = rec at ih1 ⊢
    unfold state_Gap_l5_s gapF
    simp only
    have hp : (2 : Int) ^ bits.toNat ≠ 0 := by rcases two_pow hb with e | e | e | e <;> rw [e] <;> omega
    have e1 : IntKind.wrap .i64 ((i : Int) + 1) = ((i + 1 : Nat) : Int) := by rw [wrap_id (by omega) (by omega)]; omega
    have e2 : IntKind.wrap .i64 (many + 1) = many + 1 := wrap_id (by omega) (by omega)
    have e3 : IntKind.wrap .i64 (((i + 1 : Nat) : Int) - (many + 1)) = (i : Int) + 1 - (many + 1) := by rw [wrap_id (by omega) (by omega)]; omega
    simp only [show decide ((i : Int) < ((S.length : Nat) : Int)) = true by simp; omega, bif_t, hG, owner_eq n a b c x y z w (encS S) T hT hg hn, shl_id hb, e1, e2, e3, show (0 : Int) ≤ bits by omega, decide_true, chk_t]
    cases ho : ownerM T (i : Int) != -1
    · simp only [cond_false]
      cases hm' : many + 1 == 2 ^ bits.toNat
      · simp only [cond_false]
        exact ih1 (many + 1) (by omega) (by omega)
      · rfl
    · have e4 : ((0 : Int) == 2 ^ bits.toNat) = false := by simp; exact fun h => hp h.symm
      simp only [cond_true, e4, bif_f]
      exact ih1 0 (by omega) (by omega)

theorem StateGaps_true (hn : 200 ≤ n) (haw : ∀ (ρ : Type) (K : Bool → Option ρ), reevelaw12_awake n ρ K = K true) (bits : Int) (ρ : Type) (K : Bool → Option ρ) : reevelaw12_StateGaps n ρ a b c x y (encS S) z w (encT T) bits K = K true := by
  show reevelaw12_StateGaps_s (reevelaw12_StateGaps_g n) n a b c x y (encS S) z w (encT T) bits K = _
  unfold reevelaw12_StateGaps_s
  simp only [reevelaw12_StateGaps_g, haw, heavy_eq, bif_t]
  cases hh : decide ((S.length : Int) > 100) || decide ((T.length : Int) > 50)
  case true => rfl
  simp only [Bool.or_eq_false_iff, decide_eq_false_iff_not] at hh
  obtain ⟨g, hg1, hg2⟩ := good_ex n a b c x y z w S T (by omega) (by omega) hn
  simp only [hg1, bif_f]
  cases g
  case false => rfl
  have good := hg2 rfl
  have hg := allGood_of good.thingsOK
  simp only [bif_t]
  -- what Gap tells
  have hgap : ∀ (K : Int → Bool → Option ρ), state_Gap n ρ a b c x y (encS S) z w (encT T) bits K =
      bif decide (bits < 1) then K 0 false else bif decide (bits > 4) then K 0 false else match gapF T (2 ^ bits.toNat) S.length 0 0 with | some v => K v true | none => K 0 false := by
    intro K
    show state_Gap_s (state_Gap_g n) n a b c x y (encS S) z w (encT T) bits K = _
    unfold state_Gap_s
    simp only [state_Gap_g, hg1, bif_t, encS_len]
    by_cases h1 : bits < 1
    · simp [h1]
    · by_cases h2 : bits > 4
      · simp [h2]
      · simp only [h1, h2, decide_false, cond_false]
        unfold state_Gap_l5
        have := gap_loop n a b c x y z w S T ⟨state_Good n, state_State_owner n⟩ rfl hg (by omega) (by omega) bits (by omega) (by omega) (fun w1_0 => K w1_0 true) (K 0 false) S.length 0 n 0 (by omega) (by omega) (by omega) (by omega)
        simp only [Int.natCast_zero] at this
        exact this
  have hown : ∀ (i : Nat) (_ : i < S.length) (K : Int → Option ρ), state_Owner n ρ a b c x y (encS S) z w (encT T) (i : Int) K = K (ownerM T (i : Int)) := by
    intro i hi K
    show state_Owner_s (state_Owner_g n) n a b c x y (encS S) z w (encT T) (i : Int) K = _
    unfold state_Owner_s
    simp only [state_Owner_g, hg1, bif_t, encS_len, owner_eq n a b c x y z w (encS S) T (show T.length < 1000000 by omega) hg (show T.length < n by omega)]
    rw [show decide ((i : Int) < 0) = false by simp, show decide ((i : Int) ≥ ((S.length : Nat) : Int)) = false by simp; omega]
    rfl
  rw [hgap]
  by_cases h1 : bits < 1
  · simp [h1]
  by_cases h2 : bits > 4
  · simp [h2]
  have hb : 1 ≤ bits ∧ bits ≤ 4 := by omega
  simp only [h1, h2, decide_false, cond_false]
  have hu : IntKind.wrap .u64 bits = bits := by simp [IntKind.wrap, IntKind.signed, IntKind.bits]; omega
  have hu0 : decide ((0 : Int) ≤ IntKind.wrap .u64 bits) = true := by rw [hu]; simp; omega
  have hpos : (1 : Int) ≤ 2 ^ bits.toNat ∧ (2 : Int) ^ bits.toNat ≤ 16 := by rcases two_pow hb with e | e | e | e <;> rw [e] <;> omega
  cases hgf : gapF T (2 ^ bits.toNat) S.length 0 0 with
  | none =>
    simp only [hu0, chk_t, shl_u hb]
    unfold reevelaw12_StateGaps_l11_1
    have main : ∀ (d i m : Nat) (many : Int), i + d = S.length → d < m → 0 ≤ many → many ≤ i → gapF T (2 ^ bits.toNat) d i many = none →
        fuelN (reevelaw12_StateGaps_l11_1_s ⟨reevelaw12_awake n, reevelaw12_heavy n, state_Good n, state_Gap n, state_Owner n⟩ n 0 (2 ^ bits.toNat) a b c x y (encS S) z w (encT T) (K false) (K true)) m (many, (i : Int)) = K true := by
      intro d
      induction d with
      | zero =>
        intro i m many h hm h0 h1 _
        obtain ⟨m, rfl⟩ : ∃ k, m = k + 1 := ⟨m - 1, by omega⟩
        rw [fuelN_succ]
        generalize fuelN _ m = rec
        unfold reevelaw12_StateGaps_l11_1_s
        simp only [encS_len]
        rw [show decide ((i : Int) < ((S.length : Nat) : Int)) = false by simp; omega]
        rfl
      | succ d ih =>
        intro i m many h hm h0 h1 hgn
        obtain ⟨m, rfl⟩ : ∃ k, m = k + 1 := ⟨m - 1, by omega⟩
        have ih1 := fun many' => ih (i + 1) m many' (by omega) (by omega)
        rw [fuelN_succ]
        generalize fuelN _ m = rec at ih1 ⊢
        unfold reevelaw12_StateGaps_l11_1_s
        unfold gapF at hgn
        have e1 : IntKind.wrap .i64 ((i : Int) + 1) = ((i + 1 : Nat) : Int) := by rw [wrap_id (by omega) (by omega)]; omega
        have e2 : IntKind.wrap .i64 (many + 1) = many + 1 := wrap_id (by omega) (by omega)
        simp only [encS_len, show decide ((i : Int) < ((S.length : Nat) : Int)) = true by simp; omega, bif_t, hown i (by omega), e1, e2]
        rcases ownerF_cases T (i : Int) T.length 0 with ho | ho
        · have ho' : ownerM T (i : Int) = -1 := ho
          rw [ho'] at hgn ⊢
          simp only [show decide ((-1 : Int) ≥ 0) = false by decide, bif_f]
          simp only [bne_self_eq_false, cond_false] at hgn
          cases hm' : many + 1 == 2 ^ bits.toNat
          · rw [hm'] at hgn
            simp only [bif_f]
            exact ih1 (many + 1) (by omega) (by omega) hgn
          · rw [hm'] at hgn; cases hgn
        · have ho' : 0 ≤ ownerM T (i : Int) := ho
          have hne : (ownerM T (i : Int) != -1) = true := by simp; omega
          rw [hne] at hgn
          simp only [show decide (ownerM T (i : Int) ≥ 0) = true by simp; omega, bif_t]
          exact ih1 0 (by omega) (by omega) hgn
    have := main S.length 0 n 0 (by omega) (by omega) (by omega) (by omega) hgf
    simp only [Int.natCast_zero] at this
    exact this
  | some base =>
    simp only [bif_t, hu0, chk_t, shl_u hb]
    unfold reevelaw12_StateGaps_l11_0
    have main : ∀ (d i m : Nat) (many : Int), i + d = S.length → d < m → 0 ≤ many → many ≤ i → gapF T (2 ^ bits.toNat) d i many = some base →
        fuelN (reevelaw12_StateGaps_l11_0_s ⟨reevelaw12_awake n, reevelaw12_heavy n, state_Good n, state_Gap n, state_Owner n⟩ n base (2 ^ bits.toNat) a b c x y (encS S) z w (encT T) (fun w4_0 => K w4_0) (K false)) m (many, (i : Int)) = K true := by
      intro d
      induction d with
      | zero => intro i m many h hm h0 h1 hgn; cases hgn
      | succ d ih =>
        intro i m many h hm h0 h1 hgn
        obtain ⟨m, rfl⟩ : ∃ k, m = k + 1 := ⟨m - 1, by omega⟩
        have ih1 := fun many' => ih (i + 1) m many' (by omega) (by omega)
        rw [fuelN_succ]
        generalize fuelN _ m = rec at ih1 ⊢
        unfold reevelaw12_StateGaps_l11_0_s
        unfold gapF at hgn
        have e1 : IntKind.wrap .i64 ((i : Int) + 1) = ((i + 1 : Nat) : Int) := by rw [wrap_id (by omega) (by omega)]; omega
        have e2 : IntKind.wrap .i64 (many + 1) = many + 1 := wrap_id (by omega) (by omega)
        have e3 : IntKind.wrap .i64 (IntKind.wrap .i64 ((i : Int) - 2 ^ bits.toNat) + 1) = (i : Int) - 2 ^ bits.toNat + 1 := by rw [wrap_id (n := (i : Int) - 2 ^ bits.toNat) (by omega) (by omega), wrap_id (by omega) (by omega)]
        simp only [encS_len, show decide ((i : Int) < ((S.length : Nat) : Int)) = true by simp; omega, bif_t, hown i (by omega), e1, e2, e3]
        rcases ownerF_cases T (i : Int) T.length 0 with ho | ho
        · have ho' : ownerM T (i : Int) = -1 := ho
          rw [ho'] at hgn ⊢
          simp only [show decide ((-1 : Int) ≥ 0) = false by decide, bif_f]
          simp only [bne_self_eq_false, cond_false] at hgn
          cases hm' : many + 1 == 2 ^ bits.toNat
          · rw [hm'] at hgn
            simp only [bif_f]
            exact ih1 (many + 1) (by omega) (by omega) hgn
          · rw [hm'] at hgn
            simp only [cond_true, Option.some.injEq] at hgn
            simp only [beq_iff_eq] at hm'
            have : (base == (i : Int) - 2 ^ bits.toNat + 1) = true := by simp; omega
            rw [this]; rfl
        · have ho' : 0 ≤ ownerM T (i : Int) := ho
          have hne : (ownerM T (i : Int) != -1) = true := by simp; omega
          rw [hne] at hgn
          simp only [show decide (ownerM T (i : Int) ≥ 0) = true by simp; omega, bif_t]
          exact ih1 0 (by omega) (by omega) hgn
    have := main S.length 0 n 0 (by omega) (by omega) (by omega) (by omega) hgf
    simp only [Int.natCast_zero] at this
    exact this
end

theorem gaps_L (a b c : Int) (x y z w : Bool) (S : List Slot) (T : List Thing) (bits : Int) : L tab 5 [stateAV a b c x y z w S T, .i .i64 bits] = some ⟨.b true, [], []⟩ := by
  obtain ⟨r, h1, h2⟩ := reevelaw12_StateGaps_ok 200 Res [stateAV a b c x y z w S T, .i .i64 bits] some ⟨.b true, [], []⟩ (StateGaps_true 200 a b c x y z w S T (Nat.le_refl _) awake200 bits Res (fun w0 => some ⟨.b w0, [], []⟩))
  simp at h2; subst h2; exact h1
end Go.Rv
/-
The first state, as typed lists.
-/
namespace Go.Rv
section
variable {ρ : Type} (n : Nat)

def zT : Thing := ⟨0, 0, 0, 0, 0, 0, 0, false, 0, 0, 0, 0, 0⟩
def roomT (room : Int) : Thing := ⟨1, 0, 0, room, 0, 0, 0, false, 0, 0, 0, 0, 0⟩
def mailT : Thing := ⟨3, 0, 0, 0, 0, 0, 0, false, 0, 0, 0, 0, 0⟩
def nodeT (base : Int) : Thing := ⟨2, 3, base, 0, 0, 0, 0, false, 0, 0, 0, 0, 0⟩

theorem good_room (room : Int) : thingGood (roomT room) = inM room 1 4096 := by
  have h : inM 0 0 room = decide (0 ≤ room) := by simp [inM]
  show (eqT (ownM (roomT room)) (roomT room) && (inM room 1 4096 && inM 0 0 room)) = _
  have e : eqT (ownM (roomT room)) (roomT room) = true := by simp [eqT, ownM, roomT]
  rw [e, h, Bool.true_and]
  cases h1 : inM room 1 4096
  · rfl
  · rw [inM_iff] at h1
    simp; omega
theorem good_mail : thingGood mailT = true := by decide
theorem good_node {base : Int} (h : 0 ≤ base ∧ base ≤ 88) : thingGood (nodeT base) = true := by
  have e : eqT (ownM (nodeT base)) (nodeT base) = true := by simp [eqT, ownM, nodeT]
  show (eqT (ownM (nodeT base)) (nodeT base) && (inM 3 1 4 && inM base 0 (96 - 2 ^ (3 : Int).toNat))) = true
  rw [e]
  have : inM base 0 (96 - 2 ^ (3 : Int).toNat) = true := inM_iff.2 ⟨h.1, by
    show base ≤ 96 - 2 ^ 3
    omega⟩
  rw [this]; rfl

theorem New_room (room b : Int) (K : Int → Int → Int → Int → Bool → Option ρ) : thing_New n ρ 1 room b K = bif inM room 1 4096 then K 1 0 0 room true else K 0 0 0 0 false := by
  show thing_New_s (thing_New_g n) n 1 room b K = _
  have := thing_Good_eq n (roomT room) (fun w0 => bif w0 then K 1 0 0 room true else K 0 0 0 0 false)
  rw [good_room] at this
  exact this
theorem New_mail (a b : Int) (K : Int → Int → Int → Int → Bool → Option ρ) : thing_New n ρ 3 a b K = K 3 0 0 0 true := by
  show thing_New_s (thing_New_g n) n 3 a b K = _
  have := thing_Good_eq n mailT (fun w0 => bif w0 then K 3 0 0 0 true else K 0 0 0 0 false)
  rw [good_mail] at this
  exact this
theorem New_node {base : Int} (h : 0 ≤ base ∧ base ≤ 88) (K : Int → Int → Int → Int → Bool → Option ρ) : thing_New n ρ 2 3 base K = K 2 3 base 0 true := by
  show thing_New_s (thing_New_g n) n 2 3 base K = _
  have := thing_Good_eq n (nodeT base) (fun w0 => bif w0 then K 2 3 base 0 true else K 0 0 0 0 false)
  rw [good_node h] at this
  exact this

/-! rows that are written -/
theorem rowN_Sa {l : List Slot} {i : Nat} (h : i < l.length) (K : CT [.a, .a, .a, .a, .a] → Option ρ) : rowN [.a, .a, .a, .a, .a] (encS l) i K = K (.i .i64 l[i].ty, .i .i64 l[i].th, .i .i64 l[i].ri, .i .i64 l[i].ba, .i .i64 l[i].up, ()) := by
  unfold rowN encS
  simp only [List.getElem?_map, List.getElem?_eq_getElem h, Option.map_some]
  rfl
theorem rowN_S {l : List Slot} {i : Nat} (h : i < l.length) (K : CT i5 → Option ρ) : rowN i5 (encS l) i K = K (l[i].c) := by
  unfold rowN encS
  simp only [List.getElem?_map, List.getElem?_eq_getElem h, Option.map_some]
  rfl
theorem rowN_Ta {l : List Thing} {i : Nat} (h : i < l.length) {K : CT [.a, .a, .a, .a, .a, .a, .a, .a, .a, .a, .a, .a, .a] → Option ρ} {X : Option ρ} (hK : ∀ c, K c = X) : rowN [.a, .a, .a, .a, .a, .a, .a, .a, .a, .a, .a, .a, .a] (encT l) i K = X := by
  unfold rowN encT
  simp only [List.getElem?_map, List.getElem?_eq_getElem h, Option.map_some]
  exact hK _
theorem encS_set (l : List Slot) (i : Nat) (s : Slot) : (encS l).set i s.row = encS (l.set i s) := by simp [encS, List.map_set]
theorem encT_set (l : List Thing) (i : Nat) (s : Thing) : (encT l).set i s.row = encT (l.set i s) := by simp [encT, List.map_set]

def slotF (t : Nat) (i : Nat) : Slot := if i = 0 then ⟨1, 0, 7, 0, -1⟩ else if i % 8 = 1 ∧ i / 8 < t then ⟨3, 1, 7, 0, 1⟩ else ⟨0, 0, 0, 0, -1⟩
def slotN (t : Nat) (i : Nat) : Slot := if i = 0 then ⟨1, 0, 7, 0, -1⟩ else if i % 8 = 1 ∧ i / 8 < t then ⟨3, 1, 7, 0, if i = 1 then -1 else 1⟩ else ⟨0, 0, 0, 0, -1⟩
def thingN (t : Nat) (room : Int) (i : Nat) : Thing := if i = 0 then roomT room else if i = 1 then mailT else if i < 2 + t then nodeT (8 * ((i : Int) - 2)) else zT
def newS (A B : Nat) : List Slot := (List.range B).map (slotN A)
def newT (A C : Nat) (room : Int) : List Thing := (List.range C).map (thingN A room)

theorem map_range_set {α : Type} {f g : Nat → α} {N k : Nat} {v : α} (hv : g k = v) (h : ∀ i, i < N → i ≠ k → f i = g i) : ((List.range N).map f).set k v = (List.range N).map g := by
  refine List.ext_getElem (by simp) fun i h1 h2 => ?_
  rw [List.getElem_set]
  simp only [List.length_set, List.length_map, List.length_range] at h1
  by_cases e : k = i
  · subst e; simp [hv]
  · simp [e, h i h1 (fun h => e h.symm)]

/-- all slots empty, but that the first d came of nothing already -/
theorem New_l6 (G : state_New_G) (B : Nat) (hB : B < 1000000) (q1 q2 q3 q4 q5 q6 q7 : Int) (q9 : Rows) (q10 q11 q12 : Int) (q15 q16 : Nat) (k0 : Rows → Option ρ) : ∀ (d i m : Nat), i + d = B → d < m →
    fuelN (state_New_l6_s G n (B : Int) q1 q2 q3 q4 q5 q6 q7 q9 q10 q11 q12 B B q15 q16 k0) m ((i : Int), encS ((List.range B).map fun j => if j < i then ⟨0, 0, 0, 0, -1⟩ else ⟨0, 0, 0, 0, 0⟩)) =
      k0 (encS ((List.range B).map fun _ => ⟨0, 0, 0, 0, -1⟩)) := by
  intro d
  induction d with
  | zero =>
    intro i m h hm
    obtain ⟨m, rfl⟩ : ∃ k, m = k + 1 := ⟨m - 1, by omega⟩
    rw [fuelN_succ]
    generalize fuelN _ m = rec
    unfold state_New_l6_s
    simp only
    rw [show decide ((i : Int) < (B : Int)) = false by simp; omega, bif_f]
    congr 2
    refine List.map_congr_left fun j hj => ?_
    have := List.mem_range.1 hj
    rw [if_pos (by omega)]
  | succ d ih =>
    intro i m h hm
    obtain ⟨m, rfl⟩ : ∃ k, m = k + 1 := ⟨m - 1, by omega⟩
    have ih1 := ih (i + 1) m (by omega) (by omega)
    rw [fuelN_succ]
    generalize fuelN _ m = rec at ih1 ⊢
    unfold state_New_l6_s
    simp only
    have hl : ((List.range B).map fun j => if j < i then (⟨0, 0, 0, 0, -1⟩ : Slot) else ⟨0, 0, 0, 0, 0⟩).length = B := by simp
    rw [show decide ((i : Int) < (B : Int)) = true by simp; omega, show decide ((0 : Int) ≤ (i : Int)) = true by simp, encS_len, hl, wrap_id (by omega) (by omega), show ((i : Int) + 1) = ((i + 1 : Nat) : Int) by omega, Nat.zero_add, Int.toNat_natCast]
    simp only [bif_t, chk_t, beq_self_eq_true]
    rw [rowN_Sa (by rw [hl]; omega)]
    simp only [List.getElem_map, List.getElem_range, if_neg (Nat.lt_irrefl i)]
    rw [← ih1]
    have := encS_set ((List.range B).map fun j => if j < i then (⟨0, 0, 0, 0, -1⟩ : Slot) else ⟨0, 0, 0, 0, 0⟩) i ⟨0, 0, 0, 0, -1⟩
    rw [map_range_set (g := fun j => if j < i + 1 then (⟨0, 0, 0, 0, -1⟩ : Slot) else ⟨0, 0, 0, 0, 0⟩) (by simp) (fun j _ hj => by
      by_cases h1 : j < i
      · simp [h1, show j < i + 1 by omega]
      · simp [h1, show ¬ j < i + 1 by omega])] at this
    rw [← this]
    rfl

theorem New_l15 (A B C : Nat) (hg : geoGood A B C = true) (room : Int) (q5 q6 q7 q8 q11 q12 q13 : Int) (k0 : Rows → Rows → Option ρ) : ∀ (d t m : Nat), t + d = A → d < m →
    fuelN (state_New_l15_s (state_New_g n) n 0 (A : Int) (A : Int) (B : Int) (C : Int) q5 q6 q7 q8 q11 q12 q13 B B C C k0) m ((t : Int), encS ((List.range B).map (slotF t)), encT ((List.range C).map (thingN t room))) =
      k0 (encS ((List.range B).map (slotF A))) (encT ((List.range C).map (thingN A room))) := by
  obtain ⟨⟨ha1, ha2⟩, ⟨hb1, hb2⟩, -, hc1, hc2⟩ := geoGood_thr hg
  intro d
  induction d with
  | zero =>
    intro t m h hm
    obtain ⟨m, rfl⟩ : ∃ k, m = k + 1 := ⟨m - 1, by omega⟩
    rw [fuelN_succ]
    generalize fuelN _ m = rec
    unfold state_New_l15_s
    simp only
    rw [show decide ((t : Int) < (A : Int)) = false by simp; omega, show t = A by omega]
    rfl
  | succ d ih =>
    intro t m h hm
    obtain ⟨m, rfl⟩ : ∃ k, m = k + 1 := ⟨m - 1, by omega⟩
    have ih1 := ih (t + 1) m (by omega) (by omega)
    rw [fuelN_succ]
    generalize fuelN _ m = rec at ih1 ⊢
    unfold state_New_l15_s
    simp only
    have hin : inM (t : Int) 0 ((A : Int) - 1) = true := inM_iff.2 ⟨by omega, by omega⟩
    have e1 : IntKind.wrap .i64 (2 + (t : Int)) = ((2 + t : Nat) : Int) := by rw [wrap_id (by omega) (by omega)]; omega
    have e2 : IntKind.wrap .i64 (8 * (t : Int) + 1) = ((8 * t + 1 : Nat) : Int) := by rw [wrap_id (by omega) (by omega)]; omega
    have e3 : IntKind.wrap .i64 ((t : Int) + 1) = ((t + 1 : Nat) : Int) := by rw [wrap_id (by omega) (by omega)]; omega
    have e4 : IntKind.wrap .i64 (0 + 1) = 1 := by rw [wrap_id (by omega) (by omega)]; rfl
    have hlS : ((List.range B).map (slotF t)).length = B := by simp
    have hlT : ((List.range C).map (thingN t room)).length = C := by simp
    simp only [show decide ((t : Int) < (A : Int)) = true by simp; omega, state_New_g, geo_Root_eq, hg, hin, Bool.and_self, cond_true, New_node n (ρ := ρ) (show 0 ≤ 8 * (t : Int) ∧ 8 * (t : Int) ≤ 88 by omega), e1, e2, e3, e4]
    rw [show decide ((0 : Int) ≤ ((2 + t : Nat) : Int)) = true by simp; omega, show decide (((2 + t : Nat) : Int) < (C : Int)) = true by simp; omega, show decide ((0 : Int) ≤ ((8 * t + 1 : Nat) : Int)) = true by simp; omega, show decide (((8 * t + 1 : Nat) : Int) < (B : Int)) = true by simp; omega, encT_len, encS_len, hlS, hlT, Nat.zero_add, Nat.zero_add, Int.toNat_natCast, Int.toNat_natCast]
    simp only [chk_t, beq_self_eq_true]
    refine rowN_Ta (by rw [hlT]; omega) fun c => ?_
    rw [rowN_Sa (by rw [hlS]; omega)]
    rw [← ih1]
    have h1 := encS_set ((List.range B).map (slotF t)) (8 * t + 1) ⟨3, 1, 7, 0, 1⟩
    rw [map_range_set (g := slotF (t + 1)) (by simp [slotF]; omega) (fun j _ hj => by
      unfold slotF
      by_cases h1 : j = 0
      · simp [h1]
      · by_cases h2 : j % 8 = 1 ∧ j / 8 < t
        · have : j % 8 = 1 ∧ j / 8 < t + 1 := ⟨h2.1, by omega⟩
          simp [h1, h2, this]
        · have : ¬ (j % 8 = 1 ∧ j / 8 < t + 1) := fun h3 => h2 ⟨h3.1, by omega⟩
          simp [h1, h2, this])] at h1
    have h2 := encT_set ((List.range C).map (thingN t room)) (2 + t) (nodeT (8 * (t : Int)))
    rw [map_range_set (g := thingN (t + 1) room) (by
      unfold thingN
      rw [if_neg (by omega), if_neg (by omega), if_pos (by omega)]
      exact congrArg (fun q => nodeT (8 * q)) (by omega)) (fun j _ hj => by
      unfold thingN
      by_cases h1 : j = 0
      · simp [h1]
      · by_cases h2 : j = 1
        · simp [h2]
        · by_cases h3 : j < 2 + t
          · simp [h1, h2, h3, show j < 2 + (t + 1) by omega]
          · simp [h1, h2, h3, show ¬ j < 2 + (t + 1) by omega])] at h2
    rw [← h1, ← h2]
    rfl
end
end Go.Rv
/-
The first state may be.
-/
namespace Go.Rv
section
variable {ρ : Type} (n : Nat)

theorem New_eq (A B C : Nat) (room : Int) (hn : 200 ≤ n) (k0 : Nat → Nat → Nat → Nat → Rows → Rows → Option ρ) (k1 : Option ρ) (hg : geoGood A B C = true) (hr : inM room 1 4096 = true) :
    state_New n ρ (A : Int) (B : Int) (C : Int) room k0 k1 = k0 B B C C (encS (newS A B)) (encT (newT A C room)) := by
  obtain ⟨⟨ha1, ha2⟩, ⟨hb1, hb2⟩, -, hc1, hc2⟩ := geoGood_thr hg
  show state_New_s (state_New_g n) n (A : Int) (B : Int) (C : Int) room k0 k1 = _
  unfold state_New_s
  simp only [show ∀ (K : Int → Int → Int → Int → Bool → Option ρ), (state_New_g n).thing_New ρ 1 room 0 K = thing_New n ρ 1 room 0 K from fun _ => rfl, New_room, hr, cond_true]
  simp only [show ∀ (K : Bool → Option ρ), (state_New_g n).geo_Good ρ (A : Int) (B : Int) (C : Int) K = geo_Good n ρ (A : Int) (B : Int) (C : Int) K from fun _ => rfl, geo_Good_eq, hg, bif_t]
  have hm : (most : Int) = 16777216 := rfl
  have d1 : decide ((0 : Int) ≤ (B : Int)) = true := by simp
  have d2 : decide ((B : Int) ≤ (B : Int)) = true := by simp
  have d3 : decide ((B : Int) ≤ (most : Int)) = true := by simp only [decide_eq_true_eq]; omega
  have d4 : decide ((0 : Int) ≤ (C : Int)) = true := by simp
  have d5 : decide ((C : Int) ≤ (C : Int)) = true := by simp
  have d6 : decide ((C : Int) ≤ (most : Int)) = true := by simp only [decide_eq_true_eq]; omega
  simp only [d1, d2, d3, d4, d5, d6, chk_t, Int.toNat_natCast]
  have s0 : List.replicate B [AV.i .i64 0, AV.i .i64 0, AV.i .i64 0, AV.i .i64 0, AV.i .i64 0] = encS ((List.range B).map fun j => if j < 0 then (⟨0, 0, 0, 0, -1⟩ : Slot) else ⟨0, 0, 0, 0, 0⟩) := by
    simp [encS, Slot.row, List.map_const']
  have t0 : List.replicate C [AV.i .i64 0, AV.i .i64 0, AV.i .i64 0, AV.i .i64 0, AV.i .i64 0, AV.i .i64 0, AV.i .i64 0, AV.b false, AV.i .u64 0, AV.i .u64 0, AV.i .u64 0, AV.i .u64 0, AV.i .u64 0] = encT ((List.range C).map fun _ => zT) := by
    simp [encT, Thing.row, zT, List.map_const']
  rw [s0, t0]
  unfold state_New_l6
  have h6 := New_l6 n (ρ := ρ) (state_New_g n) B (by omega)
  have z0 : ((0 : Nat) : Int) = 0 := rfl
  have := fun q1 q2 q3 q4 q5 q6 q7 q9 q10 q11 q12 q15 q16 k0 => h6 q1 q2 q3 q4 q5 q6 q7 q9 q10 q11 q12 q15 q16 k0 B 0 n (by omega) (by omega)
  simp only [z0] at this
  rw [this]
  -- the first two things
  have hlz : ((List.range C).map fun _ => zT).length = C := by simp
  rw [encT_len, hlz, show decide ((0 : Int) < (C : Int)) = true by simp; omega]
  simp only [chk_t, beq_self_eq_true]
  refine rowN_Ta (by rw [hlz]; omega) fun c => ?_
  simp only [show ∀ (K : Int → Int → Int → Int → Bool → Option ρ), (state_New_g n).thing_New ρ 3 0 0 K = thing_New n ρ 3 0 0 K from fun _ => rfl, New_mail, bif_t]
  have hT1 := encT_set ((List.range C).map fun _ => zT) 0 (roomT room)
  rw [map_range_set (g := fun i => if i = 0 then roomT room else zT) (by simp) (fun i _ hi => by simp [hi])] at hT1
  have hT1' : List.set (encT ((List.range C).map fun _ => zT)) 0 [AV.i .i64 1, AV.i .i64 0, AV.i .i64 0, AV.i .i64 room, AV.i .i64 0, AV.i .i64 0, AV.i .i64 0, AV.b false, AV.i .u64 0, AV.i .u64 0, AV.i .u64 0, AV.i .u64 0, AV.i .u64 0] = encT ((List.range C).map fun i => if i = 0 then roomT room else zT) := hT1
  have hT2 := encT_set ((List.range C).map fun i => if i = 0 then roomT room else zT) 1 mailT
  rw [map_range_set (g := thingN 0 room) (by simp [thingN]) (fun i _ hi => by
    unfold thingN
    by_cases h0 : i = 0
    · simp [h0]
    · simp [h0, hi, show ¬ i < 2 by omega])] at hT2
  have hT2' : List.set (encT ((List.range C).map fun i => if i = 0 then roomT room else zT)) 1 [AV.i .i64 3, AV.i .i64 0, AV.i .i64 0, AV.i .i64 0, AV.i .i64 0, AV.i .i64 0, AV.i .i64 0, AV.b false, AV.i .u64 0, AV.i .u64 0, AV.i .u64 0, AV.i .u64 0, AV.i .u64 0] = encT ((List.range C).map (thingN 0 room)) := hT2
  have hlT : ((List.range C).map fun i => if i = 0 then roomT room else zT).length = C := by simp
  rw [hT1', encT_len, hlT, show decide ((1 : Int) < (C : Int)) = true by simp; omega]
  simp only [chk_t, beq_self_eq_true]
  refine rowN_Ta (by rw [hlT]; omega) fun c => ?_
  rw [hT2']
  -- the first slot
  have hin : inM 0 0 ((A : Int) - 1) = true := inM_iff.2 ⟨by omega, by omega⟩
  simp only [show ∀ (K : Int → Option ρ), (state_New_g n).geo_Root ρ (A : Int) (B : Int) (C : Int) 0 K = geo_Root n ρ (A : Int) (B : Int) (C : Int) 0 K from fun _ => rfl, geo_Root_eq, hg, hin, Bool.and_self, cond_true, Int.mul_zero]
  have hlS : ((List.range B).map fun _ => (⟨0, 0, 0, 0, -1⟩ : Slot)).length = B := by simp
  rw [show decide ((0 : Int) ≤ 0) = true by simp, show decide ((0 : Int) < (B : Int)) = true by simp; omega, encS_len, hlS]
  simp only [chk_t, beq_self_eq_true]
  have hz : 0 + (0 : Int).toNat = 0 := rfl
  rw [hz, rowN_Sa (by rw [hlS]; omega)]
  simp only [List.getElem_map]
  have hS1 := encS_set ((List.range B).map fun _ => (⟨0, 0, 0, 0, -1⟩ : Slot)) 0 ⟨1, 0, 7, 0, -1⟩
  rw [map_range_set (g := slotF 0) (by simp [slotF]) (fun i _ hi => by simp [slotF, hi])] at hS1
  have hS1' : List.set (encS ((List.range B).map fun _ => (⟨0, 0, 0, 0, -1⟩ : Slot))) 0 [AV.i .i64 1, AV.i .i64 0, AV.i .i64 7, AV.i .i64 0, AV.i .i64 (-1)] = encS ((List.range B).map (slotF 0)) := hS1
  rw [hS1']
  unfold state_New_l15
  have h15 := fun q5 q6 q7 q8 q11 q12 q13 k0 => New_l15 n (ρ := ρ) A B C hg room q5 q6 q7 q8 q11 q12 q13 k0 A 0 n (by omega) (by omega)
  simp only [z0] at h15
  rw [h15]
  -- the box's first capability came of nothing
  have e4 : IntKind.wrap .i64 (0 + 1) = 1 := by rw [wrap_id (by omega) (by omega)]; rfl
  have hlS2 : ((List.range B).map (slotF A)).length = B := by simp
  rw [e4, show decide ((0 : Int) ≤ 1) = true by decide, show decide ((1 : Int) < (B : Int)) = true by simp; omega, encS_len, hlS2]
  simp only [chk_t, beq_self_eq_true]
  have hz1 : 0 + (1 : Int).toNat = 1 := rfl
  rw [hz1, rowN_Sa (by rw [hlS2]; omega)]
  have hs1 : slotF A 1 = ⟨3, 1, 7, 0, 1⟩ := by simp [slotF]; omega
  simp only [List.getElem_map, List.getElem_range, hs1]
  have hS2 := encS_set ((List.range B).map (slotF A)) 1 ⟨3, 1, 7, 0, -1⟩
  rw [map_range_set (g := slotN A) (by simp [slotN]; omega) (fun i _ hi => by simp [slotF, slotN, hi])] at hS2
  have hS2' : List.set (encS ((List.range B).map (slotF A))) 1 [AV.i .i64 3, AV.i .i64 1, AV.i .i64 7, AV.i .i64 0, AV.i .i64 (-1)] = encS (newS A B) := hS2
  rw [hS2']
  rfl

/-! it may be -/
variable (A B C : Nat) (room : Int)
theorem newS_len : (newS A B).length = B := by simp [newS]
theorem newT_len : (newT A C room).length = C := by simp [newT]
theorem newS_get {i : Nat} (h : i < B) : (newS A B)[i]? = some (slotN A i) := by simp [newS, h]
theorem newT_get {i : Nat} (h : i < C) : (newT A C room)[i]? = some (thingN A room i) := by simp [newT, h]
theorem slotN_cases (A i : Nat) : (i = 0 ∧ slotN A i = ⟨1, 0, 7, 0, -1⟩) ∨ (i = 1 ∧ 0 < A ∧ slotN A i = ⟨3, 1, 7, 0, -1⟩) ∨ (i ≠ 0 ∧ i ≠ 1 ∧ i % 8 = 1 ∧ i / 8 < A ∧ slotN A i = ⟨3, 1, 7, 0, 1⟩) ∨ (¬ (i = 0) ∧ ¬ (i % 8 = 1 ∧ i / 8 < A) ∧ slotN A i = ⟨0, 0, 0, 0, -1⟩) := by
  unfold slotN
  by_cases h0 : i = 0
  · simp [h0]
  · by_cases h1 : i % 8 = 1 ∧ i / 8 < A
    · by_cases h2 : i = 1
      · subst h2
        have : 0 < A := by omega
        simp [this]
      · simp [h0, h1, h2]
    · simp [h0, h1]

theorem new_caps (hC : 2 ≤ C) : (newS A B).all (capOK (newT A C room)) = true := by
  refine List.all_eq_true.2 fun s hs => ?_
  obtain ⟨i, hi, rfl⟩ := List.mem_map.1 hs
  have t0 : (newT A C room)[(0 : Int).toNat]? = some (roomT room) := newT_get A C room (by omega)
  have t1 : (newT A C room)[(1 : Int).toNat]? = some mailT := newT_get A C room (i := 1) (by omega)
  have l0 : ((newT A C room).length : Int) = C := by rw [newT_len]
  have h0 : thereM (newT A C room) 0 = true := by
    unfold thereM; rw [t0, l0]; simp [roomT]; omega
  have h1 : thereM (newT A C room) 1 = true := by
    unfold thereM; rw [t1, l0]; simp [mailT]; omega
  rcases slotN_cases A i with ⟨_, e⟩ | ⟨_, _, e⟩ | ⟨_, _, _, _, e⟩ | ⟨_, _, e⟩ <;> rw [e] <;> unfold capOK <;> simp only [h0, h1, t0, t1] <;> first | decide | rfl
end
end Go.Rv
/-
The first state may be: things, nodes, what came of what.
-/
namespace Go.Rv
section
variable (A B C : Nat) (room : Int)

theorem full_none {A i : Nat} : capNone (slotN A i).ty (slotN A i).th (slotN A i).ri (slotN A i).ba = !(decide (i = 0) || decide (i % 8 = 1 ∧ i / 8 < A)) := by
  rcases slotN_cases A i with ⟨h, e⟩ | ⟨h, h2, e⟩ | ⟨h, h2, h3, h4, e⟩ | ⟨h, h2, e⟩ <;> rw [e]
  · subst h; simp [capNone]
  · subst h; simp [capNone]; omega
  · simp [capNone, h3, h4]
  · simp only [capNone, h, decide_false, Bool.false_or]
    simp only [decide_eq_false h2]; rfl

theorem holds_new (t : Int) (i : Nat) (hi : i < B) : holds (newS A B) t i = ((decide (i = 0) && (0 == t)) || (!decide (i = 0) && decide (i % 8 = 1 ∧ i / 8 < A) && (1 == t))) := by
  unfold holds
  rw [newS_get A B hi]
  simp only [full_none, Bool.not_not]
  rcases slotN_cases A i with ⟨h, e⟩ | ⟨h, h2, e⟩ | ⟨h, h2, h3, h4, e⟩ | ⟨h, h2, e⟩ <;> rw [e]
  · subst h; simp
  · subst h
    have : 1 % 8 = 1 ∧ 1 / 8 < A := ⟨rfl, by omega⟩
    simp [this] <;> omega
  · simp [h, h3, h4]
  · simp [h, decide_eq_false h2]

theorem holders_ne {S : List Slot} {t : Int} {i : Nat} (hi : i < S.length) (h : holds S t i = true) : (holdersM S t).isEmpty = false := by
  unfold holdersM holdersF
  rw [List.isEmpty_eq_false_iff]
  intro h2
  have : (i : Int) ∈ ((List.range' 0 S.length).filter (holds S t)).map fun (k : Nat) => (k : Int) := List.mem_map.2 ⟨i, List.mem_filter.2 ⟨by rw [List.mem_range'_1]; omega, h⟩, rfl⟩
  rw [h2] at this; cases this

theorem new_things (hA : 1 ≤ A ∧ A ≤ 4) (hB : 8 * A ≤ B) (hr : inM room 1 4096 = true) : thingsM A (newS A B) (newT A C room) = true := by
  unfold thingsM
  rw [newT_len]
  refine List.all_eq_true.2 fun i hi => ?_
  have hi' := List.mem_range.1 hi
  rw [newT_get A C room hi']
  simp only
  unfold thingOK thingN
  by_cases h0 : i = 0
  · subst h0
    have hh : (holdersM (newS A B) ((0 : Nat) : Int)).isEmpty = false := holders_ne (i := 0) (by rw [newS_len]; omega) (by rw [holds_new A B _ _ (by omega)]; simp)
    rw [if_pos rfl, good_room, hr, hh]
    rfl
  · by_cases h1 : i = 1
    · subst h1
      have hh : (holdersM (newS A B) ((1 : Nat) : Int)).isEmpty = false := holders_ne (i := 1) (by rw [newS_len]; omega) (by
        rw [holds_new A B _ _ (by omega)]
        have : 1 % 8 = 1 ∧ 1 / 8 < A := ⟨rfl, by omega⟩
        simp [this] <;> omega)
      rw [if_neg (by omega), if_pos rfl, good_mail, hh]
      rfl
    · by_cases h2 : i < 2 + A
      · rw [if_neg h0, if_neg h1, if_pos h2, good_node ⟨by omega, by omega⟩]
        have e : (decide ((i : Int) ≥ 2) && decide ((i : Int) < 2 + (A : Int))) = true := by simp; omega
        rw [e]
        simp [nodeT, rootEq]
      · rw [if_neg h0, if_neg h1, if_neg h2]
        have e : (decide ((i : Int) ≥ 2) && decide ((i : Int) < 2 + (A : Int))) = false := by simp; omega
        rw [e]
        rfl

theorem mark_new (base : Nat) : ∀ (d j : Nat), base + j + d ≤ B → markM (base : Int) ((List.range B).map fun i => decide (i < base + j)) j d = some ((List.range B).map fun i => decide (i < base + j + d))
  | 0, j, _ => by simp [markM]
  | d + 1, j, h => by
    unfold markM
    have e : (((base : Int) + (j : Int)).toNat) = base + j := by omega
    rw [e]
    have hg : ((List.range B).map fun i => decide (i < base + j))[base + j]? = some false := by
      simp [show base + j < B by omega]
    rw [hg]
    simp only
    rw [map_range_set (g := fun i => decide (i < base + (j + 1))) (by simp <;> omega) (fun i _ hi => by
      by_cases h1 : i < base + j
      · simp [h1]; omega
      · simp [h1]; omega)]
    rw [mark_new base d (j + 1) (by omega)]
    rw [show base + (j + 1) + d = base + j + (d + 1) by omega]

theorem nodes_new (hB : 8 * A ≤ B) (hC : A + 2 ≤ C) : ∀ (d i : Nat), i + d = C → 2 ≤ i → nodesF (newT A C room) ((List.range B).map fun k => decide (k < 8 * (min (i - 2) A))) i d = some ((List.range B).map fun k => decide (k < 8 * A))
  | 0, i, h, h2 => by
    unfold nodesF
    rw [show min (i - 2) A = A by omega]
  | d + 1, i, h, h2 => by
    unfold nodesF
    rw [newT_get A C room (by omega)]
    simp only
    have ih := nodes_new hB hC d (i + 1) (by omega) (by omega)
    by_cases h3 : i < 2 + A
    · have e : thingN A room i = nodeT (8 * ((i : Int) - 2)) := by
        unfold thingN
        rw [if_neg (by omega), if_neg (by omega), if_pos h3]
      rw [e]
      have e2 : (nodeT (8 * ((i : Int) - 2))).base = ((8 * (i - 2) : Nat) : Int) := by
        show 8 * ((i : Int) - 2) = _
        omega
      have e3 : (2 ^ (nodeT (8 * ((i : Int) - 2))).bits.toNat) = 8 := rfl
      rw [e2, e3, show min (i - 2) A = i - 2 by omega]
      have := mark_new B (8 * (i - 2)) 8 0 (by omega)
      simp only [Nat.add_zero] at this
      rw [this]
      rw [show min (i + 1 - 2) A = i - 1 by omega] at ih
      rw [show 8 * (i - 2) + 8 = 8 * (i - 1) by omega]
      exact ih
    · have e : thingN A room i = zT := by
        unfold thingN
        rw [if_neg (by omega), if_neg (by omega), if_neg h3]
      rw [e]
      rw [show min (i - 2) A = A by omega]
      rw [show min (i + 1 - 2) A = A by omega] at ih
      exact ih

theorem new_nodes (hA : 1 ≤ A ∧ A ≤ 4) (hB : 8 * A ≤ B) (hC : A + 2 ≤ C) : nodesM (newS A B) (newT A C room) = true := by
  unfold nodesM
  rw [newS_len, newT_len]
  obtain ⟨c, rfl⟩ : ∃ c, C = c + 2 := ⟨C - 2, by omega⟩
  have h0 : List.replicate B false = (List.range B).map fun k => decide (k < 8 * (min (2 - 2) A)) := by
    simp [List.map_const']
  have h1 : nodesF (newT A (c + 2) room) (List.replicate B false) 0 (c + 2) = nodesF (newT A (c + 2) room) (List.replicate B false) 2 c := by
    rw [nodesF, newT_get A (c + 2) room (by omega)]
    show nodesF (newT A (c + 2) room) (List.replicate B false) 1 (c + 1) = _
    rw [nodesF, newT_get A (c + 2) room (by omega)]
    rfl
  rw [h1, h0, nodes_new A B (c + 2) room hB hC c 2 (by omega) (by omega)]
  refine List.all_eq_true.2 fun i hi => ?_
  have hi' := List.mem_range.1 hi
  rw [newS_get A B hi']
  simp only [List.getElem?_map, List.getElem?_range hi', Option.map_some, full_none]
  by_cases h2 : i < 8 * A
  · simp [h2]
  · have : ¬ (i % 8 = 1 ∧ i / 8 < A) := by omega
    have h3 : ¬ i = 0 := by omega
    simp [h2, decide_eq_false this, h3]

theorem ring_no {ρ : Type} (n : Nat) (a b c : Int) (x y z w : Bool) (S : List Slot) (T : List Thing) (hS : S.length < 1000000) (hn : S.length < n) (h : ∀ s ∈ S, s.ty ≠ 2) (K : Bool → Option ρ) : state_State_ring n ρ a b c x y (encS S) z w (encT T) K = K false := by
  show state_State_ring_s (state_State_ring_g n) n a b c x y (encS S) z w (encT T) K = _
  unfold state_State_ring_s state_State_ring_l2
  rw [encS_len, up_loop0 (len := S.length) (k0 := K true) (k1 := K false) (fun _ => true)]
  · have : (List.range S.length).all (fun _ => true) = true := by simp
    rw [this]; rfl
  · intro rec
    unfold state_State_ring_l2_s
    simp only
    rw [show decide (((S.length : Nat) : Int) < ((S.length : Nat) : Int)) = false by simp]
    rfl
  · intro rec i hi
    unfold state_State_ring_l2_s
    simp only
    rw [show decide ((i : Int) < ((S.length : Nat) : Int)) = true by simpa using hi, bif_t, rowT_S hi, wrap_id (by omega) (by omega), show ((i : Int) + 1) = ((i + 1 : Nat) : Int) by omega]
    have : (S[i].ty == 2) = false := by simpa using h _ (List.getElem_mem hi)
    simp only [Slot.c, this, bif_f, bif_t]
  · exact hn

theorem new_ups : (newS A B).map upM = (List.range B).map fun i => if i = 0 then -1 else if i % 8 = 1 ∧ i / 8 < A then (if i = 1 then -1 else 1) else -2 := by
  unfold newS
  rw [List.map_map]
  refine List.map_congr_left fun i _ => ?_
  simp only [Function.comp, upM, full_none]
  rcases slotN_cases A i with ⟨h, e⟩ | ⟨h, h2, e⟩ | ⟨h, h2, h3, h4, e⟩ | ⟨h, h2, e⟩ <;> rw [e]
  · simp [h]
  · subst h
    have : 1 % 8 = 1 ∧ 1 / 8 < A := ⟨rfl, by omega⟩
    simp [this] <;> omega
  · simp [h, h2, h3, h4]
  · simp [h, decide_eq_false h2, if_neg h2]
end
end Go.Rv
/-
The law of the first state.
-/
namespace Go.Rv
section
variable (A B C : Nat) (room : Int)

theorem chain_m1 (U : List Int) (f : Nat) (s : Int) : chainF U f s (-1) = true := by
  cases f with
  | zero => rfl
  | succ f => unfold chainF; rfl

theorem new_forest (hA : 1 ≤ A) (hB : 8 * A ≤ B) (hB2 : B ≤ 96) : forestGood ((newS A B).map upM) = true := by
  rw [new_ups]
  have hu1 : ((List.range B).map fun i => if i = 0 then (-1 : Int) else if i % 8 = 1 ∧ i / 8 < A then (if i = 1 then -1 else 1) else -2)[1]? = some (-1) := by
    have : 1 % 8 = 1 ∧ 1 / 8 < A := ⟨rfl, by omega⟩
    simp [this, show 1 < B by omega]
    try omega
  have hget : ∀ i, i < B → ((List.range B).map fun i => if i = 0 then (-1 : Int) else if i % 8 = 1 ∧ i / 8 < A then (if i = 1 then -1 else 1) else -2)[i]? = some (if i = 0 then (-1 : Int) else if i % 8 = 1 ∧ i / 8 < A then (if i = 1 then -1 else 1) else -2) := by
    intro i hi; simp [hi]
  have hlen : ((List.range B).map fun i => if i = 0 then (-1 : Int) else if i % 8 = 1 ∧ i / 8 < A then (if i = 1 then -1 else 1) else -2).length = B := by simp
  have hmem : ∀ u ∈ ((List.range B).map fun i => if i = 0 then (-1 : Int) else if i % 8 = 1 ∧ i / 8 < A then (if i = 1 then -1 else 1) else -2), u = -1 ∨ u = 1 ∨ u = -2 := by
    intro u hu
    obtain ⟨i, _, rfl⟩ := List.mem_map.1 hu
    split
    · exact .inl rfl
    · split
      · split
        · exact .inl rfl
        · exact .inr (.inl rfl)
      · exact .inr (.inr rfl)
  generalize ((List.range B).map fun i => if i = 0 then (-1 : Int) else if i % 8 = 1 ∧ i / 8 < A then (if i = 1 then -1 else 1) else -2) = U at *
  have his : isM U 1 = true := by
    unfold isM
    rw [show (1 : Int).toNat = 1 from rfl, hu1, hlen]
    simp; omega
  unfold forestGood
  rw [hlen, show decide ((B : Int) > 96) = false by simp; omega]
  simp only [cond_false, Bool.and_eq_true]
  refine ⟨List.all_eq_true.2 fun u hu => ?_, List.all_eq_true.2 fun i hi => ?_⟩
  · rcases hmem u hu with rfl | rfl | rfl
    · rfl
    · unfold upOK; rw [his]; rfl
    · rfl
  · have hi' := List.mem_range.1 hi
    unfold chainF
    cases h1 : isM U (i : Int)
    · rfl
    · obtain ⟨v, hv⟩ : ∃ v, U[i]? = some v := ⟨_, hget i hi'⟩
      have hvm := hmem v (List.mem_of_getElem? hv)
      rw [hlen, show decide ((0 : Int) > (B : Int)) = false by simp, Int.toNat_natCast, hv]
      simp only [cond_true, cond_false]
      rcases hvm with rfl | rfl | rfl
      · exact chain_m1 U _ _
      · unfold chainF
        rw [his, hlen, show decide ((0 : Int) + 1 > (B : Int)) = false by simp; omega, show (1 : Int).toNat = 1 from rfl, hu1]
        simp only [cond_true, cond_false]
        exact chain_m1 U _ _
      · unfold chainF
        rfl

theorem allow_m1 (S : List Slot) (s : Slot) (d : Nat) : allowF S s d (-1) = true := by
  cases d with
  | zero => rfl
  | succ d => unfold allowF; rfl

theorem new_allowed (hA : 1 ≤ A) (hB : 8 * A ≤ B) : allowedM (newS A B) = true := by
  unfold allowedM
  refine List.all_eq_true.2 fun s hs => ?_
  obtain ⟨i, hi, rfl⟩ := List.mem_map.1 hs
  have h1 : slotN A 1 = ⟨3, 1, 7, 0, -1⟩ := by simp [slotN]; omega
  rcases slotN_cases A i with ⟨h, e⟩ | ⟨h, h2, e⟩ | ⟨h, h2, h3, h4, e⟩ | ⟨h, h2, e⟩ <;> rw [e]
  · exact allow_m1 _ _ _
  · exact allow_m1 _ _ _
  · rw [newS_len]
    obtain ⟨b, rfl⟩ : ∃ b, B = b + 1 := ⟨B - 1, by omega⟩
    unfold allowF
    rw [show (1 : Int).toNat = 1 from rfl, newS_get A (b + 1) (by omega), h1]
    have : stepOK ⟨3, 1, 7, 0, 1⟩ ⟨3, 1, 7, 0, -1⟩ = true := by decide
    show (bif stepOK ⟨3, 1, 7, 0, 1⟩ ⟨3, 1, 7, 0, -1⟩ then allowF (newS A (b + 1)) ⟨3, 1, 7, 0, 1⟩ b (-1) else false) = true
    rw [this]
    exact allow_m1 _ _ _
  · exact allow_m1 _ _ _

theorem new_good {ρ : Type} (n : Nat) (hn : 200 ≤ n) (x y z w : Bool) (hg : geoGood A B C = true) (hr : inM room 1 4096 = true) (K : Bool → Option ρ) :
    state_Good n ρ (A : Int) (B : Int) (C : Int) x y (encS (newS A B)) z w (encT (newT A C room)) K = K true := by
  obtain ⟨⟨ha1, ha2⟩, ⟨hb1, hb2⟩, -, hc1, hc2⟩ := geoGood_thr hg
  have hlS := newS_len A B
  have hlT := newT_len A C room
  have hth := new_things A B C room ⟨by omega, by omega⟩ (by omega) hr
  have hag := allGood_of hth
  have hcaps := new_caps A B C room (by omega)
  have hfor := new_forest A B (by omega) (by omega) (by omega)
  have hup := ups_of hcaps hfor (by omega)
  show state_Good_s (state_Good_g n) n (A : Int) (B : Int) (C : Int) x y (encS (newS A B)) z w (encT (newT A C room)) K = _
  have e0 : (((B : Nat) : Int) != (B : Int)) = false := by simp
  have e1 : (((C : Nat) : Int) != (C : Int)) = false := by simp
  have hne : ∀ s ∈ newS A B, s.ty ≠ 2 := by
    intro s hs
    obtain ⟨i, hi, rfl⟩ := List.mem_map.1 hs
    rcases slotN_cases A i with ⟨_, e⟩ | ⟨_, _, e⟩ | ⟨_, _, _, _, e⟩ | ⟨_, _, e⟩ <;> rw [e] <;> decide
  simp only [state_Good_s, state_Good_g, geo_Good_eq, hg, encS_len, encT_len, hlS, hlT, e0, e1, bif_t, bif_f, caps_eq n (A : Int) (B : Int) (C : Int) x y z w (newS A B) (newT A C room) (by omega) (by omega), hcaps,
    things_eq n (A : Int) (B : Int) (C : Int) x y z w (newS A B) (newT A C room) hg (by omega) (by omega) (by omega) (by omega), hth, nodes_eq n (A : Int) (B : Int) (C : Int) x y z w (newS A B) (newT A C room) hag (by omega) (by omega) (by omega) (by omega) (by omega), new_nodes A B C room ⟨by omega, by omega⟩ (by omega) (by omega),
    ring_no n (A : Int) (B : Int) (C : Int) x y z w (newS A B) (newT A C room) (by omega) (by omega) hne, forest_eq n (A : Int) (B : Int) (C : Int) x y z w (newS A B) (encT (newT A C room)) _ _ (by omega) (by omega)]
  obtain ⟨q, l, hl⟩ : ∃ q l, (newS A B).map upM = q :: l := by
    cases hm : (newS A B).map upM with
    | nil => simp at hm; rw [hm] at hlS; simp at hlS; omega
    | cons q l => exact ⟨q, l, rfl⟩
  have hlen : (q :: l).length = B := by rw [← hl]; simp [hlS]
  rw [hl] at hfor ⊢
  simp only
  have e5 : ((List.length (encI (q :: l))) == (q :: l).length) = true := by rw [encI_len]; simp
  have e6 : List.take (q :: l).length (List.drop 0 (encI (q :: l))) = encI (q :: l) := by
    rw [List.drop_zero, List.take_of_length_le (by rw [encI_len]; exact Nat.le_refl _)]
  rw [e5, e6, chk_t, forestGood_eq n false false (q :: l) (by omega), hfor, bif_t, allowed_eq n (A : Int) (B : Int) (C : Int) x y z w (newS A B) (encT (newT A C room)) (by omega) (by omega) hup, new_allowed A B (by omega) (by omega)]
  rfl

theorem new_owner (t : Nat) (ht : t < A) (hC : A + 2 ≤ C) : ∀ (d i : Nat), i + d = C → i ≤ 2 + t → ownerF (newT A C room) (8 * (t : Int) + 7) i d = 2 + t
  | 0, i, h, hi => by omega
  | d + 1, i, h, hi => by
    unfold ownerF
    rw [newT_get A C room (by omega)]
    simp only
    by_cases h2 : i = 2 + t
    · have e : thingN A room i = nodeT (8 * ((i : Int) - 2)) := by
        unfold thingN
        rw [if_neg (by omega), if_neg (by omega), if_pos (by omega)]
      have : hasM (nodeT (8 * ((i : Int) - 2))) (8 * (t : Int) + 7) = true := by
        show ((2 : Int) == 2 && (decide (8 * (t : Int) + 7 ≥ 8 * ((i : Int) - 2)) && decide (8 * (t : Int) + 7 < 8 * ((i : Int) - 2) + 2 ^ 3))) = true
        simp; omega
      rw [e, this, cond_true]; omega
    · have ih := new_owner t ht hC d (i + 1) (by omega) (by omega)
      have : hasM (thingN A room i) (8 * (t : Int) + 7) = false := by
        unfold thingN
        by_cases h0 : i = 0
        · rw [if_pos h0]; rfl
        · rw [if_neg h0]
          by_cases h1 : i = 1
          · rw [if_pos h1]; rfl
          · rw [if_neg h1, if_pos (by omega)]
            show ((2 : Int) == 2 && (decide (8 * (t : Int) + 7 ≥ 8 * ((i : Int) - 2)) && decide (8 * (t : Int) + 7 < 8 * ((i : Int) - 2) + 2 ^ 3))) = false
            simp; omega
      rw [this, cond_false, ih]

theorem countP_one (k : Nat) : ∀ B, k < B → (List.range B).countP (fun i => i == k) = 1
  | 0, h => by omega
  | B + 1, h => by
    rw [List.range_succ, List.countP_append]
    by_cases h1 : k = B
    · subst h1
      have : (List.range k).countP (fun i => i == k) = 0 := by
        rw [List.countP_eq_zero]
        intro i hi
        have := List.mem_range.1 hi
        simp; omega
      rw [this]; simp
    · rw [countP_one k B (by omega)]
      have : (B == k) = false := by simp; omega
      simp [this]
theorem count_boxes : ∀ (A : Nat), 8 * A ≤ B → (List.range B).countP (fun i => decide (i % 8 = 1 ∧ i / 8 < A)) = A
  | 0, _ => by
    rw [List.countP_eq_zero]
    intro i _; simp
  | A + 1, h => by
    rw [countP_split (q := fun i => decide (i % 8 = 1 ∧ i / 8 < A)) (r := fun i => i == 8 * A + 1), count_boxes A (by omega), countP_one _ _ (by omega)]
    intro i _
    constructor
    · rw [Bool.eq_iff_iff]; simp; omega
    · by_cases h1 : i = 8 * A + 1
      · subst h1; simp; omega
      · simp [h1]
theorem new_holders (hB : 8 * A ≤ B) : (holdersM (newS A B) 1).length = A := by
  rw [holdersM_len, newS_len]
  rw [show (List.range B).countP (holds (newS A B) 1) = (List.range B).countP (fun i => decide (i % 8 = 1 ∧ i / 8 < A)) from List.countP_congr fun i hi => by
    rw [holds_new A B _ _ (List.mem_range.1 hi)]
    by_cases h0 : i = 0
    · subst h0; simp
    · simp [h0]]
  exact count_boxes B A hB
end
end Go.Rv
/-
The law of the first state, as the evaluator answers it.
-/
namespace Go.Rv
section
variable {ρ : Type} (n : Nat)

/-- the first that is not there -/
def freeF (T : List Thing) (i : Nat) : Nat → Int
  | 0 => -1
  | d + 1 => match T[i]? with
    | some t => bif t.ty == 0 then (i : Int) else freeF T (i + 1) d
    | none => -1
theorem index1_eq (x y : Bool) (T : List Thing) (hT : T.length < 1000000) (hn : T.length < n) (K : Int → Option ρ) : slices_IndexFunc_Thing_i1 n ρ x y (encT T) K = K (freeF T 0 T.length) := by
  show slices_IndexFunc_Thing_i1_s _ n x y (encT T) K = _
  unfold slices_IndexFunc_Thing_i1_s slices_IndexFunc_Thing_i1_l2
  rw [encT_len]
  have key : ∀ (d i m : Nat), i + d = T.length → d < m → fuelN (slices_IndexFunc_Thing_i1_l2_s (slices_IndexFunc_Thing_i1_g n) n x y (encT T) ((T.length : Nat) : Int) (fun w0_0 => K w0_0) (K (-1))) m (i : Int) = K (freeF T i d) := by
    intro d
    induction d with
    | zero =>
      intro i m h hm
      obtain ⟨m, rfl⟩ : ∃ k, m = k + 1 := ⟨m - 1, by omega⟩
      rw [fuelN_succ]
      generalize fuelN _ m = rec
      unfold slices_IndexFunc_Thing_i1_l2_s
      simp only
      rw [show decide ((i : Int) < ((T.length : Nat) : Int)) = false by simp; omega]
      rfl
    | succ d ih =>
      intro i m h hm
      obtain ⟨m, rfl⟩ : ∃ k, m = k + 1 := ⟨m - 1, by omega⟩
      have hi : i < T.length := by omega
      have ih1 := ih (i + 1) m (by omega) (by omega)
      rw [fuelN_succ]
      generalize fuelN _ m = rec at ih1 ⊢
      unfold slices_IndexFunc_Thing_i1_l2_s
      simp only
      rw [show decide ((i : Int) < ((T.length : Nat) : Int)) = true by simp; omega, bif_t, rowT_T hi, wrap_id (by omega) (by omega), show ((i : Int) + 1) = ((i + 1 : Nat) : Int) by omega]
      have h1 : ∀ (q : Bool → Option ρ), state_Free_1 n ρ T[i].ty T[i].bits T[i].base T[i].size T[i].used T[i].fr T[i].badge T[i].full T[i].word T[i].d0 T[i].d1 T[i].d2 T[i].d3 q = q (T[i].ty == 0) := by
        intro q
        show state_Free_1_s (state_Free_1_g n) n T[i].ty T[i].bits T[i].base T[i].size T[i].used T[i].fr T[i].badge T[i].full T[i].word T[i].d0 T[i].d1 T[i].d2 T[i].d3 q = _
        unfold state_Free_1_s
        cases T[i].ty == 0 <;> rfl
      simp only [slices_IndexFunc_Thing_i1_g, Thing.c, freeF, List.getElem?_eq_getElem hi]
      rw [h1, ih1]
      cases T[i].ty == 0 <;> rfl
  exact key T.length 0 n (by omega) hn

theorem new_free (A C : Nat) (room : Int) (hC : A + 2 ≤ C) : ∀ (d i : Nat), i + d = C → i ≤ 2 + A → freeF (newT A C room) i d = if 2 + A < C then ((2 + A : Nat) : Int) else -1
  | 0, i, h, hi => by
    rw [if_neg (by omega)]; rfl
  | d + 1, i, h, hi => by
    unfold freeF
    rw [newT_get A C room (by omega)]
    simp only
    by_cases h2 : i = 2 + A
    · have e : thingN A room i = zT := by
        unfold thingN
        rw [if_neg (by omega), if_neg (by omega), if_neg (by omega)]
      rw [e, if_pos (by omega), h2]; rfl
    · have ih := new_free A C room hC d (i + 1) (by omega) (by omega)
      have : ((thingN A room i).ty == 0) = false := by
        unfold thingN
        by_cases h0 : i = 0
        · rw [if_pos h0]; rfl
        · rw [if_neg h0]
          by_cases h1 : i = 1
          · rw [if_pos h1]; rfl
          · rw [if_neg h1, if_pos (by omega)]; rfl
      rw [this, cond_false, ih]

theorem New_bad (a b c room : Int) (k0 : Nat → Nat → Nat → Nat → Rows → Rows → Option ρ) (k1 : Option ρ) (h : (geoGood a b c && inM room 1 4096) = false) : state_New n ρ a b c room k0 k1 = k1 := by
  show state_New_s (state_New_g n) n a b c room k0 k1 = _
  unfold state_New_s
  simp only [show ∀ (K : Int → Int → Int → Int → Bool → Option ρ), (state_New_g n).thing_New ρ 1 room 0 K = thing_New n ρ 1 room 0 K from fun _ => rfl, New_room]
  simp only [show ∀ (K : Bool → Option ρ), (state_New_g n).geo_Good ρ a b c K = geo_Good n ρ a b c K from fun _ => rfl, geo_Good_eq]
  cases h1 : inM room 1 4096
  · simp only [cond_false]
    cases geoGood a b c <;> rfl
  · rw [h1, Bool.and_true] at h
    simp only [cond_true, h, bif_f]

section
variable (A B C : Nat) (room : Int) (hn : 200 ≤ n) (hg : geoGood A B C = true) (hr : inM room 1 4096 = true)
include hn hg hr
theorem nw_free (K : Int → Option ρ) : state_Free n ρ (A : Int) (B : Int) (C : Int) false false (encS (newS A B)) false false (encT (newT A C room)) K = K (if 2 + A < C then ((2 + A : Nat) : Int) else -1) := by
  obtain ⟨⟨ha1, ha2⟩, ⟨hb1, hb2⟩, -, hc1, hc2⟩ := geoGood_thr hg
  have hlT := newT_len A C room
  have good := fun K => new_good (ρ := ρ) A B C room n hn false false false false hg hr K
  show state_Free_s (state_Free_g n) n (A : Int) (B : Int) (C : Int) false false (encS (newS A B)) false false (encT (newT A C room)) K = _
  simp only [state_Free_s, state_Free_g, good, bif_t, index1_eq n false false (newT A C room) (show (newT A C room).length < 1000000 by omega) (show (newT A C room).length < n by omega)]
  rw [hlT, new_free A C room (by omega) C 0 (by omega) (by omega)]
theorem nw_owner (t : Nat) (ht : t < A) (K : Int → Option ρ) : state_Owner n ρ (A : Int) (B : Int) (C : Int) false false (encS (newS A B)) false false (encT (newT A C room)) (8 * (t : Int) + 7) K = K (2 + t) := by
  obtain ⟨⟨ha1, ha2⟩, ⟨hb1, hb2⟩, -, hc1, hc2⟩ := geoGood_thr hg
  have hlS := newS_len A B
  have hlT := newT_len A C room
  have hag := allGood_of (new_things A B C room ⟨by omega, by omega⟩ (by omega) hr)
  have good := fun K => new_good (ρ := ρ) A B C room n hn false false false false hg hr K
  show state_Owner_s (state_Owner_g n) n (A : Int) (B : Int) (C : Int) false false (encS (newS A B)) false false (encT (newT A C room)) (8 * (t : Int) + 7) K = _
  have d1 : decide (8 * (t : Int) + 7 < 0) = false := by simp; omega
  have d2 : decide (8 * (t : Int) + 7 ≥ ((B : Nat) : Int)) = false := by simp; omega
  simp only [state_Owner_s, state_Owner_g, good, bif_t, encS_len, hlS, d1, d2, bif_f, owner_eq n (A : Int) (B : Int) (C : Int) false false false false (encS (newS A B)) (newT A C room) (show (newT A C room).length < 1000000 by omega) hag (show (newT A C room).length < n by omega)]
  have := new_owner A C room t ht (by omega) C 0 (by omega) (by omega)
  unfold ownerM
  rw [hlT, this]
theorem nw_holders (k0 : Option ρ) (k1 : Nat → Nat → Rows → Option ρ) : ∃ l : List Int, l.length = A ∧ 0 < A ∧ state_Holders n ρ (A : Int) (B : Int) (C : Int) false false (encS (newS A B)) false false (encT (newT A C room)) 1 k0 k1 = k1 l.length l.length (encI l) := by
  obtain ⟨⟨ha1, ha2⟩, ⟨hb1, hb2⟩, -, hc1, hc2⟩ := geoGood_thr hg
  have hlS := newS_len A B
  have good := fun K => new_good (ρ := ρ) A B C room n hn false false false false hg hr K
  have hcount := new_holders A B (by omega)
  refine ⟨holdersM (newS A B) 1, hcount, by omega, ?_⟩
  show state_Holders_s (state_Holders_g n) n (A : Int) (B : Int) (C : Int) false false (encS (newS A B)) false false (encT (newT A C room)) 1 k0 k1 = _
  simp only [state_Holders_s, state_Holders_g, good, bif_t, holders_eq n (A : Int) (B : Int) (C : Int) false false false false (newS A B) _ _ _ _ (show (newS A B).length < 1000000 by omega) (show (newS A B).length < n by omega)]
  cases hm : holdersM (newS A B) 1 with
  | nil => rw [hm] at hcount; simp at hcount; omega
  | cons q l => rfl
theorem nw_loop (k0 k1 : Option ρ) : reevelaw12_StateNew_l9 ⟨reevelaw12_awake n, state_New n, state_Good n, geo_Root n, state_Owner n, state_Holders n, state_Free n, geo_Good n⟩ n (A : Int) (B : Int) (C : Int) (encS (newS A B)) (encT (newT A C room)) (A : Int) (B : Int) (C : Int) B B C C k0 k1 0 = k1 := by
  obtain ⟨⟨ha1, ha2⟩, ⟨hb1, hb2⟩, -, hc1, hc2⟩ := geoGood_thr hg
  have hlS := newS_len A B
  have hlT := newT_len A C room
  have eS : ((encS (newS A B)).length == B) = true := by rw [encS_len, hlS]; simp
  have eT : ((encT (newT A C room)).length == C) = true := by rw [encT_len, hlT]; simp
  have tS : List.take B (List.drop 0 (encS (newS A B))) = encS (newS A B) := by
    rw [List.drop_zero, List.take_of_length_le (by rw [encS_len, hlS]; exact Nat.le_refl _)]
  have tT : List.take C (List.drop 0 (encT (newT A C room))) = encT (newT A C room) := by
    rw [List.drop_zero, List.take_of_length_le (by rw [encT_len, hlT]; exact Nat.le_refl _)]
  have hroot : ∀ (t : Nat), t < A → ∀ (K : Int → Option ρ), geo_Root n ρ (A : Int) (B : Int) (C : Int) (t : Int) K = K (8 * (t : Int)) := by
    intro t ht K
    have hin : inM (t : Int) 0 ((A : Int) - 1) = true := inM_iff.2 ⟨by omega, by omega⟩
    rw [geo_Root_eq, hg, hin]; rfl
  unfold reevelaw12_StateNew_l9
  rw [up_loop0 (len := A) (k0 := k0) (k1 := k1) (fun _ => true)]
  · have : (List.range A).all (fun _ => true) = true := by simp
    rw [this]; rfl
  · intro rec
    unfold reevelaw12_StateNew_l9_s
    simp only
    rw [show decide ((A : Int) < (A : Int)) = false by simp]
    rfl
  · intro rec t ht
    unfold reevelaw12_StateNew_l9_s
    simp only
    have e3 : IntKind.wrap .i64 (8 * (t : Int) + 1) = ((8 * t + 1 : Nat) : Int) := by rw [wrap_id (by omega) (by omega)]; omega
    have e4 : IntKind.wrap .i64 ((t : Int) + 1) = ((t + 1 : Nat) : Int) := by rw [wrap_id (by omega) (by omega)]; omega
    have e5 : IntKind.wrap .i64 (8 * (t : Int) + 7) = 8 * (t : Int) + 7 := by rw [wrap_id (by omega) (by omega)]
    have e6 : IntKind.wrap .i64 (2 + (t : Int)) = 2 + (t : Int) := by rw [wrap_id (by omega) (by omega)]
    have hsl : (slotN A (8 * t + 1)).ty = 3 ∧ (slotN A (8 * t + 1)).th = 1 ∧ (slotN A (8 * t + 1)).ri = 7 ∧ (slotN A (8 * t + 1)).ba = 0 := by
      rcases slotN_cases A (8 * t + 1) with ⟨h, e⟩ | ⟨h, h2, e⟩ | ⟨h, h2, h3, h4, e⟩ | ⟨h, h2, e⟩
      · omega
      · rw [e]; simp
      · rw [e]; simp
      · exfalso; exact h2 ⟨by omega, by omega⟩
    have hget : (newS A B)[8 * t + 1]'(by rw [hlS]; omega) = slotN A (8 * t + 1) := by simp [newS]
    have hown := nw_owner (ρ := ρ) n A B C room hn hg hr t ht
    simp only [show decide ((t : Int) < (A : Int)) = true by simp; omega, bif_t, hroot t ht, e3, e4, e5, e6]
    rw [show decide ((0 : Int) ≤ ((8 * t + 1 : Nat) : Int)) = true by simp; omega, show decide (((8 * t + 1 : Nat) : Int) < (B : Int)) = true by simp; omega]
    simp only [eS, eT, tS, tT, chk_t, Nat.zero_add, Int.toNat_natCast]
    rw [rowN_S (by rw [hlS]; omega), hget]
    simp only [Slot.c, hsl, hown]
    simp
  · omega
theorem nw_fin (K : Bool → Option ρ) : state_Free n ρ (A : Int) (B : Int) (C : Int) false false (encS (newS A B)) false false (encT (newT A C room)) (fun w6_0 =>
    bif (w6_0 == IntKind.wrap .i64 (2 + (A : Int))) then (bif decide ((C : Int) > IntKind.wrap .i64 (2 + (A : Int))) then K true else K false) else bif decide ((C : Int) > IntKind.wrap .i64 (2 + (A : Int))) then K false else K true) = K true := by
  obtain ⟨⟨ha1, ha2⟩, ⟨hb1, hb2⟩, -, hc1, hc2⟩ := geoGood_thr hg
  have e2 : IntKind.wrap .i64 (2 + (A : Int)) = ((2 + A : Nat) : Int) := by rw [wrap_id (by omega) (by omega)]; omega
  rw [nw_free n A B C room hn hg hr, e2]
  by_cases h : 2 + A < C
  · have h1 : decide ((C : Int) > ((2 + A : Nat) : Int)) = true := by simp; omega
    rw [if_pos h, h1]; simp
  · have h1 : decide ((C : Int) > ((2 + A : Nat) : Int)) = false := by simp; omega
    have h2 : ((-1 : Int) == ((2 + A : Nat) : Int)) = false := by simp; omega
    rw [if_neg h, h1, h2]; rfl
end

theorem StateNew_true (hn : 200 ≤ n) (haw : ∀ (ρ : Type) (K : Bool → Option ρ), reevelaw12_awake n ρ K = K true) (a b c room : Int) (K : Bool → Option ρ) : reevelaw12_StateNew n ρ a b c room K = K true := by
  show reevelaw12_StateNew_s ⟨reevelaw12_awake n, state_New n, state_Good n, geo_Root n, state_Owner n, state_Holders n, state_Free n, geo_Good n⟩ n a b c room K = _
  unfold reevelaw12_StateNew_s
  dsimp only
  rw [haw, bif_t]
  cases hok : geoGood a b c && inM room 1 4096
  · rw [New_bad n a b c room _ _ hok, geo_Good_eq]
    cases hg : geoGood a b c
    · rfl
    · rw [hg, Bool.true_and] at hok
      by_cases h1 : room < 1
      · simp [h1]
      · by_cases h2 : room > 4096
        · simp [h1, h2]
        · have := inM_iff.2 ⟨(by omega : (1 : Int) ≤ room), (by omega : room ≤ 4096)⟩
          rw [this] at hok; cases hok
  · simp only [Bool.and_eq_true] at hok
    obtain ⟨hg, hr⟩ := hok
    have hgb := geoGood_thr hg
    obtain ⟨A, rfl⟩ : ∃ A : Nat, a = A := ⟨a.toNat, by omega⟩
    obtain ⟨B, rfl⟩ : ∃ B : Nat, b = B := ⟨b.toNat, by omega⟩
    obtain ⟨C, rfl⟩ : ∃ C : Nat, c = C := ⟨c.toNat, by omega⟩
    rw [New_eq n A B C room hn _ _ hg hr]
    have hlS := newS_len A B
    have hlT := newT_len A C room
    have eS : ((encS (newS A B)).length == B) = true := by rw [encS_len, hlS]; simp
    have eT : ((encT (newT A C room)).length == C) = true := by rw [encT_len, hlT]; simp
    have tS : List.take B (List.drop 0 (encS (newS A B))) = encS (newS A B) := by
      rw [List.drop_zero, List.take_of_length_le (by rw [encS_len, hlS]; exact Nat.le_refl _)]
    have tT : List.take C (List.drop 0 (encT (newT A C room))) = encT (newT A C room) := by
      rw [List.drop_zero, List.take_of_length_le (by rw [encT_len, hlT]; exact Nat.le_refl _)]
    have e0 : (((B : Nat) : Int) != (B : Int)) = false := by simp
    have e1 : (((C : Nat) : Int) != (C : Int)) = false := by simp
    rw [eS, eT, tS, tT, chk_t, chk_t, new_good A B C room n hn false false false false hg hr, bif_t, e0, e1, bif_f, bif_f, nw_loop n A B C room hn hg hr, chk_t, chk_t]
    obtain ⟨l, h1, h2, h3⟩ := nw_holders (ρ := ρ) n A B C room hn hg hr (bif ((0 : Int) == (A : Int)) then
                  state_Free n ρ (A : Int) (B : Int) (C : Int) false false (encS (newS A B)) false false (encT (newT A C room)) (fun w6_0 =>
                    bif (w6_0 == IntKind.wrap .i64 (2 + (A : Int))) then (bif decide ((C : Int) > IntKind.wrap .i64 (2 + (A : Int))) then K true else K false) else bif decide ((C : Int) > IntKind.wrap .i64 (2 + (A : Int))) then K false else K true)
                else K false) (fun w7_0 w7_1 w7_2 => bif stayR ⟨.sl 0 w7_0 1 0 w7_1, [.row 1 true false w7_2], []⟩ then
                  (bif (((w7_1 : Nat) : Int) == (A : Int)) then K true else K false) else (bif (((w7_1 : Nat) : Int) == (A : Int)) then K true else K false))
    have hfin := nw_fin (ρ := ρ) n A B C room hn hg hr K
    simp only [chk_t, hfin] at h3 ⊢
    rw [h3, h1, show (((A : Nat) : Int) == (A : Int)) = true by simp]
    generalize stayR _ = st
    cases st <;> rfl
end
theorem new_L (a b c room : Int) : L tab 4 [.agg [.i .i64 a, .i .i64 b, .i .i64 c], .i .i64 room] = some ⟨.b true, [], []⟩ := by
  have h := StateNew_true 200 (Nat.le_refl _) awake200 a b c room (fun w0 => (some ⟨.b w0, [], []⟩ : Option Res))
  have e : reevelaw12_StateNew_e 200 Res [.agg [.i .i64 a, .i .i64 b, .i .i64 c], .i .i64 room] some = reevelaw12_StateNew 200 Res a b c room (fun w0 => some ⟨.b w0, [], []⟩) := by kernel_rfl
  rw [h] at e
  obtain ⟨r, h1, h2⟩ := reevelaw12_StateNew_ok 200 Res _ some _ e
  simp at h2; subst h2; exact h1
end Go.Rv
