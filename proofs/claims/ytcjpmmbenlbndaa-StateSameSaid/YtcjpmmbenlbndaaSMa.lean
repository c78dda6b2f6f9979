/-
The plain mathematics of states: what the programs of ours tell of typed lists.
-/
import Derived.Test.YtcjpmmbenlbndaaQNb
import Derived.Test.YtcjpmmbenlbndaaArg
namespace Go.Rv

theorem fuelN_succ {ρ V : Type} (step : (V → Option ρ) → V → Option ρ) (n : Nat) (v : V) : fuelN step (n + 1) v = step (fuelN step n) v := rfl
theorem chk_t {ρ : Type} (K : Option ρ) : chk true K = K := rfl
theorem bif_t {ρ : Type} (a b : Option ρ) : (bif true then a else b) = a := rfl
theorem bif_f {ρ : Type} (a b : Option ρ) : (bif false then a else b) = b := rfl
theorem wrap_id {n : Int} (h1 : -9223372036854775808 ≤ n) (h2 : n < 9223372036854775808) : IntKind.wrap .i64 n = n := by
  simp [IntKind.wrap, IntKind.signed, IntKind.bits]; omega

structure Slot where
  (ty th ri ba up : Int)
  deriving DecidableEq
structure Thing where
  (ty bits base size used fr badge : Int)
  full : Bool
  (word d0 d1 d2 d3 : Int)
  deriving DecidableEq
abbrev i5 : List Ce := [.i .i64, .i .i64, .i .i64, .i .i64, .i .i64]
abbrev i13 : List Ce := [.i .i64, .i .i64, .i .i64, .i .i64, .i .i64, .i .i64, .i .i64, .b, .i .u64, .i .u64, .i .u64, .i .u64, .i .u64]
def Slot.row (s : Slot) : List AV := [.i .i64 s.ty, .i .i64 s.th, .i .i64 s.ri, .i .i64 s.ba, .i .i64 s.up]
def Slot.c (s : Slot) : CT i5 := (s.ty, s.th, s.ri, s.ba, s.up, ())
def Thing.row (t : Thing) : List AV := [.i .i64 t.ty, .i .i64 t.bits, .i .i64 t.base, .i .i64 t.size, .i .i64 t.used, .i .i64 t.fr, .i .i64 t.badge, .b t.full, .i .u64 t.word, .i .u64 t.d0, .i .u64 t.d1, .i .u64 t.d2, .i .u64 t.d3]
def Thing.c (t : Thing) : CT i13 := (t.ty, t.bits, t.base, t.size, t.used, t.fr, t.badge, t.full, t.word, t.d0, t.d1, t.d2, t.d3, ())
def encS (l : List Slot) : Rows := l.map Slot.row
def encT (l : List Thing) : Rows := l.map Thing.row
def encI (l : List Int) : Rows := l.map fun x => [.i .i64 x]
theorem encS_len (l : List Slot) : (encS l).length = l.length := by simp [encS]
theorem encT_len (l : List Thing) : (encT l).length = l.length := by simp [encT]
theorem encI_len (l : List Int) : (encI l).length = l.length := by simp [encI]

section
variable {ρ : Type}
theorem rowT_S {l : List Slot} {i : Nat} (h : i < l.length) (K : CT i5 → Option ρ) : rowT i5 (encS l) (i : Int) K = K (l[i].c) := by
  unfold rowT rowN encS
  have : decide ((0 : Int) ≤ (i : Int)) = true := by simp
  rw [this]
  simp only [Int.toNat_natCast, List.getElem?_map, List.getElem?_eq_getElem h, Option.map_some]
  rfl
theorem rowT_T {l : List Thing} {i : Nat} (h : i < l.length) (K : CT i13 → Option ρ) : rowT i13 (encT l) (i : Int) K = K (l[i].c) := by
  unfold rowT rowN encT
  have : decide ((0 : Int) ≤ (i : Int)) = true := by simp
  rw [this]
  simp only [Int.toNat_natCast, List.getElem?_map, List.getElem?_eq_getElem h, Option.map_some]
  rfl
theorem rowN_I {l : List Int} {i : Nat} (h : i < l.length) (K : CT [.i .i64] → Option ρ) : rowN [.i .i64] (encI l) i K = K (l[i], ()) := by
  unfold rowN encI
  simp only [List.getElem?_map, List.getElem?_eq_getElem h, Option.map_some]
  rfl
theorem rowT_I {l : List Int} {i : Nat} (h : i < l.length) (K : CT [.i .i64] → Option ρ) : rowT [.i .i64] (encI l) (i : Int) K = K (l[i], ()) := by
  unfold rowT
  have : decide ((0 : Int) ≤ (i : Int)) = true := by simp
  rw [this]
  simp only [Int.toNat_natCast]
  exact rowN_I h K

/-! small ones -/
def inM (n l h : Int) : Bool := decide (n ≥ l) && decide (n ≤ h)
def capNone (a b c d : Int) : Bool := a == 0 && (b == 0 && (c == 0 && (d == 0 && true)))
def capGood (a b c d : Int) : Bool := capNone a b c d || (inM a 1 5 && inM b 0 47 && inM c 0 7 && inM d 0 65535 && (d == 0 || (a == 3 || a == 4)))
variable (n : Nat)
theorem cap_None_eq (a b c d : Int) (K : Bool → Option ρ) : cap_None n ρ a b c d K = K (capNone a b c d) := by
  show cap_None_s _ n a b c d K = _
  unfold cap_None_s capNone
  generalize (a == 0 && (b == 0 && (c == 0 && (d == 0 && true)))) = x
  cases x <;> rfl
theorem cap_in_eq (a l h : Int) (K : Bool → Option ρ) : cap_in n ρ a l h K = K (inM a l h) := by
  show cap_in_s _ n a l h K = _
  unfold cap_in_s inM
  generalize decide (a ≥ l) = x
  generalize decide (a ≤ h) = y
  cases x <;> cases y <;> rfl
theorem right_Good_eq (a : Int) (K : Bool → Option ρ) : right_Good n ρ a K = K (inM a 0 7) := by
  show right_Good_s _ n a K = _
  unfold right_Good_s inM
  generalize decide (a ≥ 0) = x
  generalize decide (a ≤ 7) = y
  cases x <;> cases y <;> rfl
theorem right_Badge_eq (a : Int) (K : Bool → Option ρ) : right_Badge n ρ a K = K (inM a 0 65535) := by
  show right_Badge_s _ n a K = _
  unfold right_Badge_s inM
  generalize decide (a ≥ 0) = x
  generalize decide (a ≤ 65535) = y
  cases x <;> cases y <;> rfl
theorem cap_badged_eq (a : Int) (K : Bool → Option ρ) : cap_badged n ρ a K = K (a == 3 || a == 4) := by
  show cap_badged_s _ n a K = _
  unfold cap_badged_s
  generalize (a == 3) = x
  generalize (a == 4) = y
  cases x <;> cases y <;> rfl
theorem cap_Good_eq (a b c d : Int) (K : Bool → Option ρ) : cap_Good n ρ a b c d K = K (capGood a b c d) := by
  show cap_Good_s (cap_Good_g n) n a b c d K = _
  simp only [cap_Good_s, cap_Good_g, cap_None_eq, cap_in_eq, right_Good_eq, right_Badge_eq, cap_badged_eq, capGood]
  generalize capNone a b c d = x1
  generalize inM a 1 5 = x2
  generalize inM b 0 47 = x3
  generalize inM c 0 7 = x4
  generalize inM d 0 65535 = x5
  generalize (a == 3 || a == 4) = x7
  generalize (d == 0) = x6
  cases x1 <;> cases x2 <;> cases x3 <;> cases x4 <;> cases x5 <;> cases x6 <;> cases x7 <;> rfl
end
end Go.Rv
/-
The plain mathematics of states: loops, capabilities, holders.
-/
namespace Go.Rv
section
variable {ρ : Type}

/-- a loop that counts up, and may end early -/
theorem up_loop {step : (Int → Option ρ) → Int → Option ρ} {len : Nat} {k0 k1 : Option ρ} (p : Nat → Bool)
    (hend : ∀ rec, step rec (len : Int) = k1)
    (hstep : ∀ rec (i : Nat), i < len → step rec (i : Int) = bif p i then rec ((i + 1 : Nat) : Int) else k0) :
    ∀ (d i n : Nat), i + d = len → d < n → fuelN step n (i : Int) = bif (List.range' i d).all p then k1 else k0
  | 0, i, n, h, hn => by
    obtain ⟨m, rfl⟩ : ∃ m, n = m + 1 := ⟨n - 1, by omega⟩
    rw [fuelN_succ, show i = len by omega, hend]; rfl
  | d + 1, i, n, h, hn => by
    obtain ⟨m, rfl⟩ : ∃ m, n = m + 1 := ⟨n - 1, by omega⟩
    rw [fuelN_succ, hstep _ i (by omega), up_loop p hend hstep d (i + 1) m (by omega) (by omega), List.range'_succ, List.all_cons]
    cases p i <;> rfl

theorem up_loop0 {step : (Int → Option ρ) → Int → Option ρ} {len : Nat} {k0 k1 : Option ρ} (p : Nat → Bool)
    (hend : ∀ rec, step rec (len : Int) = k1)
    (hstep : ∀ rec (i : Nat), i < len → step rec (i : Int) = bif p i then rec ((i + 1 : Nat) : Int) else k0) {n : Nat} (hn : len < n) :
    fuelN step n 0 = bif (List.range len).all p then k1 else k0 := by
  have := up_loop p hend hstep len 0 n (by omega) hn
  rw [List.range_eq_range']; exact this

/-- a loop that counts up with something to hand on -/
theorem acc_loop {A V : Type} {step : (V → Option ρ) → V → Option ρ} {len : Nat} {fin : A → Option ρ} (mk : Nat → A → V) (next : Nat → A → A) (inv : Nat → A → Prop)
    (hend : ∀ rec a, inv len a → step rec (mk len a) = fin a)
    (hstep : ∀ rec i a, i < len → inv i a → inv (i + 1) (next i a) ∧ step rec (mk i a) = rec (mk (i + 1) (next i a))) :
    ∀ (d i n : Nat) (a : A), i + d = len → d < n → inv i a → fuelN step n (mk i a) = fin ((List.range' i d).foldl (fun a i => next i a) a) ∧ inv len ((List.range' i d).foldl (fun a i => next i a) a)
  | 0, i, n, a, h, hn, hi => by
    obtain ⟨m, rfl⟩ : ∃ m, n = m + 1 := ⟨n - 1, by omega⟩
    have : i = len := by omega
    subst this
    rw [fuelN_succ, hend _ a hi]; exact ⟨rfl, hi⟩
  | d + 1, i, n, a, h, hn, hi => by
    obtain ⟨m, rfl⟩ : ∃ m, n = m + 1 := ⟨n - 1, by omega⟩
    obtain ⟨h1, h2⟩ := hstep (fuelN step m) i a (by omega) hi
    rw [fuelN_succ, h2, List.range'_succ, List.foldl_cons]
    exact acc_loop mk next inv hend hstep d (i + 1) m (next i a) (by omega) (by omega) h1

variable (n : Nat)

/-! geo -/
def geoGood (a b c : Int) : Bool := inM a 1 4 && inM b (8 * a) 96 && b.tmod 8 == 0 && inM c (a + 2) 48

/-! caps -/
def thereM (T : List Thing) (t : Int) : Bool := decide (t ≥ 0) && (decide (t < T.length) && (match T[t.toNat]? with | some x => x.ty != 0 | none => false))
theorem there_eq (a b c : Int) (x y z w : Bool) (R : Rows) (T : List Thing) (t : Int) (K : Bool → Option ρ) : state_State_there n ρ a b c x y R z w (encT T) t K = K (thereM T t) := by
  show state_State_there_s _ n a b c x y R z w (encT T) t K = _
  unfold state_State_there_s thereM
  by_cases h0 : t ≥ 0
  · by_cases h1 : t < T.length
    · obtain ⟨k, rfl⟩ : ∃ k : Nat, t = k := ⟨t.toNat, by omega⟩
      have hk : k < T.length := by omega
      rw [rowT_T hk]
      simp only [encT_len, h0, h1, decide_true, cond_true, Int.toNat_natCast, List.getElem?_eq_getElem hk, Thing.c, Bool.true_and]
      cases hx : (T[k].ty != 0) <;> rfl
    · simp only [encT_len, h0, h1, decide_true, decide_false, cond_true, cond_false, Bool.false_and, Bool.and_false]
  · simp only [h0, decide_false, cond_false, Bool.false_and]

def capOK (T : List Thing) (s : Slot) : Bool :=
  capGood s.ty s.th s.ri s.ba && (bif capNone s.ty s.th s.ri s.ba then s.up == -1 else decide (s.up ≥ -1) && (thereM T s.th && (match T[s.th.toNat]? with | some x => x.ty == s.ty | none => false)))

theorem caps_eq (a b c : Int) (x y z w : Bool) (S : List Slot) (T : List Thing) (hS : S.length < 1000000) (hn : S.length < n) (K : Bool → Option ρ) :
    state_State_caps n ρ a b c x y (encS S) z w (encT T) K = K (S.all (capOK T)) := by
  show state_State_caps_s _ n a b c x y (encS S) z w (encT T) K = _
  unfold state_State_caps_s state_State_caps_l2
  rw [up_loop0 (len := S.length) (k0 := K false) (k1 := K true) (fun i => match S[i]? with | some s => capOK T s | none => true)]
  · have : (List.range S.length).all (fun i => match S[i]? with | some s => capOK T s | none => true) = S.all (capOK T) := by
      rw [Bool.eq_iff_iff]
      simp only [List.all_eq_true, List.mem_range]
      constructor
      · intro h s hs
        obtain ⟨i, hi, rfl⟩ := List.mem_iff_getElem.1 hs
        have := h i hi
        simpa [List.getElem?_eq_getElem hi] using this
      · intro h i hi
        simp only [List.getElem?_eq_getElem hi]
        exact h _ (List.getElem_mem hi)
    rw [this]
    cases S.all (capOK T) <;> rfl
  · intro rec
    unfold state_State_caps_l2_s
    simp only [encS_len]
    rw [show decide (((S.length : Nat) : Int) < ((S.length : Nat) : Int)) = false by simp]
    rfl
  · intro rec i hi
    unfold state_State_caps_l2_s
    simp only [encS_len]
    rw [show decide (((i : Nat) : Int) < ((S.length : Nat) : Int)) = true by simpa using hi]
    rw [bif_t, rowT_S hi]
    simp only [state_State_caps_g, cap_Good_eq, cap_None_eq, there_eq, List.getElem?_eq_getElem hi, Slot.c, capOK]
    rw [wrap_id (by omega) (by omega)]
    cases h1 : capGood S[i].ty S[i].th S[i].ri S[i].ba
    · rfl
    · cases h2 : capNone S[i].ty S[i].th S[i].ri S[i].ba
      · simp only [bif_t, bif_f, Bool.true_and]
        by_cases h3 : S[i].up < -1
        · have h4 : decide (S[i].up ≥ -1) = false := by simp; omega
          simp [h3, h4]
        · have h4 : decide (S[i].up ≥ -1) = true := by simp; omega
          simp only [h3, h4, decide_false, bif_f, Bool.true_and]
          cases h5 : thereM T S[i].th
          · rfl
          · simp only [bif_t, Bool.true_and]
            unfold thereM at h5
            simp only [Bool.and_eq_true, decide_eq_true_eq] at h5
            obtain ⟨k, hk⟩ : ∃ k : Nat, S[i].th = k := ⟨S[i].th.toNat, by omega⟩
            rw [hk] at h5 ⊢
            have hk' : k < T.length := by omega
            rw [rowT_T hk']
            simp only [Int.toNat_natCast, List.getElem?_eq_getElem hk', Thing.c]
            cases h6 : T[k].ty == S[i].ty
            · simp [bne, h6]
            · simp [bne, h6]
      · simp only [bif_t, Bool.true_and]
        cases h3 : S[i].up == -1
        · simp [bne, h3]
        · simp [bne, h3]
  · exact hn
end
end Go.Rv
/-
The plain mathematics of states: places, things, holders, nodes.
-/
namespace Go.Rv
section
variable {ρ : Type} (n : Nat)

theorem geo_in_eq (a l h : Int) (K : Bool → Option ρ) : geo_in n ρ a l h K = K (inM a l h) := by
  show geo_in_s _ n a l h K = _
  unfold geo_in_s inM
  generalize decide (a ≥ l) = x
  generalize decide (a ≤ h) = y
  cases x <;> cases y <;> rfl
theorem thing_in_eq (a l h : Int) (K : Bool → Option ρ) : thing_in n ρ a l h K = K (inM a l h) := by
  show thing_in_s _ n a l h K = _
  unfold thing_in_s inM
  generalize decide (a ≥ l) = x
  generalize decide (a ≤ h) = y
  cases x <;> cases y <;> rfl
theorem inM_iff {a l h : Int} : inM a l h = true ↔ l ≤ a ∧ a ≤ h := by simp [inM]
theorem geo_Good_eq (a b c : Int) (K : Bool → Option ρ) : geo_Good n ρ a b c K = K (geoGood a b c) := by
  show geo_Good_s (geo_Good_g n) n a b c K = _
  simp only [geo_Good_s, geo_Good_g, geo_in_eq, geoGood]
  cases h1 : inM a 1 4
  · rfl
  · rw [inM_iff] at h1
    rw [wrap_id (by omega) (by omega), wrap_id (by omega) (by omega)]
    generalize inM b (8 * a) 96 = x2
    generalize (b.tmod 8 == 0) = x3
    generalize inM c (a + 2) 48 = x4
    cases x2 <;> cases x3 <;> cases x4 <;> rfl
theorem geo_Root_eq (a b c t : Int) (K : Int → Option ρ) : geo_Root n ρ a b c t K = K (bif geoGood a b c && inM t 0 (a - 1) then 8 * t else 0) := by
  show geo_Root_s (geo_Root_g n) n a b c t K = _
  simp only [geo_Root_s, geo_Root_g, geo_in_eq, geo_Good_eq]
  cases h0 : geoGood a b c
  · rfl
  · have h1 : 1 ≤ a ∧ a ≤ 4 := by
      simp only [geoGood, Bool.and_eq_true, inM_iff] at h0; omega
    rw [wrap_id (by omega) (by omega)]
    cases h2 : inM t 0 (a - 1)
    · rfl
    · rw [inM_iff] at h2
      simp only [bif_t, Bool.true_and]
      rw [wrap_id (by omega) (by omega)]; rfl

/-! things -/
def ownM (t : Thing) : Thing :=
  bif t.ty == 1 then ⟨t.ty, 0, 0, t.size, t.used, 0, 0, false, 0, 0, 0, 0, 0⟩
  else bif t.ty == 2 then ⟨t.ty, t.bits, t.base, 0, 0, 0, 0, false, 0, 0, 0, 0, 0⟩
  else bif t.ty == 3 then (bif t.full then ⟨t.ty, 0, 0, 0, 0, t.fr, t.badge, true, t.word, 0, 0, 0, 0⟩ else ⟨t.ty, 0, 0, 0, 0, 0, 0, false, 0, 0, 0, 0, 0⟩)
  else bif t.ty == 4 then ⟨t.ty, 0, 0, 0, 0, 0, 0, false, t.word, 0, 0, 0, 0⟩
  else bif t.ty == 5 then ⟨t.ty, 0, 0, 0, 0, 0, 0, false, 0, t.d0, t.d1, t.d2, t.d3⟩
  else ⟨0, 0, 0, 0, 0, 0, 0, false, 0, 0, 0, 0, 0⟩
def eqT (a b : Thing) : Bool := (a.ty == b.ty) && ((a.bits == b.bits) && ((a.base == b.base) && ((a.size == b.size) && ((a.used == b.used) && ((a.fr == b.fr) && ((a.badge == b.badge) && ((a.full == b.full) && ((a.word == b.word) && ((a.d0 == b.d0) && ((a.d1 == b.d1) && ((a.d2 == b.d2) && ((a.d3 == b.d3) && true))))))))))))
def thingGood (t : Thing) : Bool :=
  eqT (ownM t) t && (bif t.ty == 1 then inM t.size 1 4096 && inM t.used 0 t.size
    else bif t.ty == 2 then inM t.bits 1 4 && inM t.base 0 (96 - 2 ^ t.bits.toNat)
    else bif t.ty == 3 then inM t.badge 0 65535 && inM t.fr 0 96 else true)

theorem two_pow {b : Int} (h : 1 ≤ b ∧ b ≤ 4) : (2 : Int) ^ b.toNat = 2 ∨ (2 : Int) ^ b.toNat = 4 ∨ (2 : Int) ^ b.toNat = 8 ∨ (2 : Int) ^ b.toNat = 16 := by
  have : b = 1 ∨ b = 2 ∨ b = 3 ∨ b = 4 := by omega
  rcases this with rfl | rfl | rfl | rfl
  · exact .inl rfl
  · exact .inr (.inl rfl)
  · exact .inr (.inr (.inl rfl))
  · exact .inr (.inr (.inr rfl))
theorem shl_id {b : Int} (h : 1 ≤ b ∧ b ≤ 4) : IntKind.wrap .i64 ((1 : Int) * 2 ^ (min b.toNat (IntKind.bits .i64))) = 2 ^ b.toNat := by
  have h1 : min b.toNat (IntKind.bits .i64) = b.toNat := by
    show min b.toNat 64 = _
    omega
  rw [h1, Int.one_mul]
  rcases two_pow h with e | e | e | e <;> rw [e] <;> exact wrap_id (by omega) (by omega)

theorem thing_own_eq (t : Thing) (K : Int → Int → Int → Int → Int → Int → Int → Bool → Int → Int → Int → Int → Int → Option ρ) :
    thing_own n ρ t.ty t.bits t.base t.size t.used t.fr t.badge t.full t.word t.d0 t.d1 t.d2 t.d3 K =
      K (ownM t).ty (ownM t).bits (ownM t).base (ownM t).size (ownM t).used (ownM t).fr (ownM t).badge (ownM t).full (ownM t).word (ownM t).d0 (ownM t).d1 (ownM t).d2 (ownM t).d3 := by
  show thing_own_s _ n t.ty t.bits t.base t.size t.used t.fr t.badge t.full t.word t.d0 t.d1 t.d2 t.d3 K = _
  unfold thing_own_s ownM
  cases t.ty == 1 <;> cases t.ty == 2 <;> cases t.ty == 3 <;> cases t.ty == 4 <;> cases t.ty == 5 <;> cases t.full <;> rfl

theorem thing_Good_eq (t : Thing) (K : Bool → Option ρ) : thing_Good n ρ t.ty t.bits t.base t.size t.used t.fr t.badge t.full t.word t.d0 t.d1 t.d2 t.d3 K = K (thingGood t) := by
  show thing_Good_s (thing_Good_g n) n t.ty t.bits t.base t.size t.used t.fr t.badge t.full t.word t.d0 t.d1 t.d2 t.d3 K = _
  simp only [thing_Good_s, thing_Good_g, thing_own_eq, thing_in_eq]
  unfold thingGood
  change (bif (!(eqT (ownM t) t)) then K false else _) = _
  cases h0 : eqT (ownM t) t
  · rfl
  · simp only [Bool.not_true, bif_f, Bool.true_and]
    cases h1 : t.ty == 1
    · cases h2 : t.ty == 2
      · cases h3 : t.ty == 3
        · rfl
        · simp only [cond_true, cond_false]
          cases inM t.badge 0 65535 <;> cases inM t.fr 0 96 <;> rfl
      · simp only [cond_true, cond_false]
        cases h3 : inM t.bits 1 4
        · rfl
        · rw [inM_iff] at h3
          rw [show decide (0 ≤ t.bits) = true by simp; omega, shl_id h3]
          have hw : IntKind.wrap .i64 (96 - 2 ^ t.bits.toNat) = 96 - 2 ^ t.bits.toNat := by
            rcases two_pow h3 with e | e | e | e <;> rw [e] <;> exact wrap_id (by omega) (by omega)
          rw [hw]
          simp only [bif_t, chk_t, Bool.true_and]
          cases inM t.base 0 (96 - 2 ^ t.bits.toNat) <;> rfl
    · simp only [cond_true]
      cases inM t.size 1 4096 <;> cases inM t.used 0 t.size <;> rfl

theorem thingGood_node {t : Thing} (h : thingGood t = true) (h2 : t.ty = 2) : (1 ≤ t.bits ∧ t.bits ≤ 4) ∧ 0 ≤ t.base ∧ t.base ≤ 96 - 2 ^ t.bits.toNat := by
  unfold thingGood at h
  rw [show (t.ty == 1) = false by simp [h2], show (t.ty == 2) = true by simp [h2]] at h
  simp only [cond_true, cond_false, Bool.and_eq_true, inM_iff] at h
  exact ⟨h.2.1, h.2.2⟩
theorem thingGood_fr {t : Thing} (h : thingGood t = true) : t.fr ≤ 96 := by
  unfold thingGood at h
  simp only [Bool.and_eq_true] at h
  obtain ⟨h0, h1⟩ := h
  simp only [eqT, Bool.and_eq_true, beq_iff_eq] at h0
  cases h3 : t.ty == 3
  · have hf := h0.2.2.2.2.2.1
    unfold ownM at hf
    rw [h3] at hf
    cases e1 : t.ty == 1 <;> cases e2 : t.ty == 2 <;> cases e4 : t.ty == 4 <;> cases e5 : t.ty == 5 <;> simp [e1, e2, e4, e5] at hf <;> omega
  · have e1 : (t.ty == 1) = false := by simp at h3 ⊢; omega
    have e2 : (t.ty == 2) = false := by simp at h3 ⊢; omega
    rw [h3, e1, e2] at h1
    simp only [cond_true, cond_false, Bool.and_eq_true, inM_iff] at h1
    exact h1.2.2

/-! holders -/
def holds (S : List Slot) (t : Int) (i : Nat) : Bool := match S[i]? with
  | some s => !capNone s.ty s.th s.ri s.ba && s.th == t
  | none => false
def holdersF (S : List Slot) (t : Int) (i d : Nat) : List Int := ((List.range' i d).filter (holds S t)).map fun (k : Nat) => (k : Int)
def holdersM (S : List Slot) (t : Int) : List Int := holdersF S t 0 S.length

theorem holdersF_succ (S : List Slot) (t : Int) (i d : Nat) : holdersF S t i (d + 1) = (bif holds S t i then [(i : Int)] else []) ++ holdersF S t (i + 1) d := by
  unfold holdersF
  rw [List.range'_succ, List.filter_cons]
  cases holds S t i <;> simp
theorem holdersF_len (S : List Slot) (t : Int) (i d : Nat) : (holdersF S t i d).length ≤ d := by
  unfold holdersF
  have := List.length_filter_le (holds S t) (List.range' i d)
  simpa using this

section
variable (a b c : Int) (x y z w : Bool) (S : List Slot) (R : Rows) (t : Int) (k0 : Option ρ) (k1 : Nat → Nat → Rows → Option ρ) (hS : S.length < 1000000)
include hS
theorem holders_end (rec : state_State_holders_l3_V → Option ρ) (acc : List Int) :
    state_State_holders_l3_s (state_State_holders_g n) n t x y (encS S) ((S.length : Nat) : Int) a b c x y (encS S) z w R k0 k1 rec (.inr (acc.length, acc.length, ((S.length : Nat) : Int), encI acc)) = k1 acc.length acc.length (encI acc) := by
  have _ := hS
  unfold state_State_holders_l3_s
  simp only
  rw [show decide (((S.length : Nat) : Int) < ((S.length : Nat) : Int)) = false by simp]
  rfl
theorem holders_sr (rec : state_State_holders_l3_V → Option ρ) (acc : List Int) (i : Nat) (hi : i < S.length) (ha : acc.length ≤ i) :
    state_State_holders_l3_s (state_State_holders_g n) n t x y (encS S) ((S.length : Nat) : Int) a b c x y (encS S) z w R k0 k1 rec (.inr (acc.length, acc.length, (i : Int), encI acc)) =
      rec (.inr ((acc ++ bif holds S t i then [(i : Int)] else []).length, (acc ++ bif holds S t i then [(i : Int)] else []).length, ((i + 1 : Nat) : Int), encI (acc ++ bif holds S t i then [(i : Int)] else []))) := by
  unfold state_State_holders_l3_s
  simp only
  rw [show decide ((i : Int) < ((S.length : Nat) : Int)) = true by simp; omega, bif_t, rowT_S hi, wrap_id (by omega) (by omega), show ((i : Int) + 1) = ((i + 1 : Nat) : Int) by omega]
  simp only [state_State_holders_g, cap_None_eq, Slot.c, holds, List.getElem?_eq_getElem hi]
  cases h1 : capNone S[i].ty S[i].th S[i].ri S[i].ba
  · cases h2 : S[i].th == t
    · simp
    · have e1 : ((encI acc).length == acc.length) = true := by simp [encI]
      have e2 : (acc.length == acc.length) = true := by simp
      have e3 : decide (acc.length + 1 ≤ most) = true := by simp [most]; omega
      have e4 : encI acc ++ [[AV.i .i64 (i : Int)]] = encI (acc ++ [(i : Int)]) := by simp [encI]
      simp only [bif_f, Bool.not_false, Bool.true_and, cond_true]
      rw [e1, e2, e3, chk_t, chk_t, chk_t, e4]
      simp
  · simp

theorem holders_r : ∀ (d i m : Nat) (acc : List Int), i + d = S.length → d < m → acc.length ≤ i →
    fuelN (state_State_holders_l3_s (state_State_holders_g n) n t x y (encS S) ((S.length : Nat) : Int) a b c x y (encS S) z w R k0 k1) m (.inr (acc.length, acc.length, (i : Int), encI acc)) =
      k1 (acc ++ holdersF S t i d).length (acc ++ holdersF S t i d).length (encI (acc ++ holdersF S t i d))
  | 0, i, m, acc, h, hm, _ => by
    obtain ⟨m, rfl⟩ : ∃ k, m = k + 1 := ⟨m - 1, by omega⟩
    rw [fuelN_succ, show i = S.length by omega, holders_end n a b c x y z w S R t k0 k1 hS]
    simp [holdersF]
  | d + 1, i, m, acc, h, hm, ha => by
    obtain ⟨m, rfl⟩ : ∃ k, m = k + 1 := ⟨m - 1, by omega⟩
    rw [fuelN_succ, holders_sr n a b c x y z w S R t k0 k1 hS _ acc i (by omega) ha, holders_r d (i + 1) m _ (by omega) (by omega), holdersF_succ, List.append_assoc]
    cases holds S t i <;> simp <;> omega

theorem holders_endl (rec : state_State_holders_l3_V → Option ρ) :
    state_State_holders_l3_s (state_State_holders_g n) n t x y (encS S) ((S.length : Nat) : Int) a b c x y (encS S) z w R k0 k1 rec (.inl ((S.length : Nat) : Int)) = k0 := by
  have _ := hS
  unfold state_State_holders_l3_s
  simp only
  rw [show decide (((S.length : Nat) : Int) < ((S.length : Nat) : Int)) = false by simp]
  rfl
theorem holders_sl (rec : state_State_holders_l3_V → Option ρ) (i : Nat) (hi : i < S.length) :
    state_State_holders_l3_s (state_State_holders_g n) n t x y (encS S) ((S.length : Nat) : Int) a b c x y (encS S) z w R k0 k1 rec (.inl (i : Int)) =
      bif holds S t i then rec (.inr (1, 1, ((i + 1 : Nat) : Int), encI [(i : Int)])) else rec (.inl ((i + 1 : Nat) : Int)) := by
  unfold state_State_holders_l3_s
  simp only
  rw [show decide ((i : Int) < ((S.length : Nat) : Int)) = true by simp; omega, bif_t, rowT_S hi, wrap_id (by omega) (by omega), show ((i : Int) + 1) = ((i + 1 : Nat) : Int) by omega]
  simp only [state_State_holders_g, cap_None_eq, Slot.c, holds, List.getElem?_eq_getElem hi]
  cases h1 : capNone S[i].ty S[i].th S[i].ri S[i].ba
  · cases h2 : S[i].th == t <;> simp [encI]
  · simp

theorem holders_l : ∀ (d i m : Nat), i + d = S.length → d < m →
    fuelN (state_State_holders_l3_s (state_State_holders_g n) n t x y (encS S) ((S.length : Nat) : Int) a b c x y (encS S) z w R k0 k1) m (.inl (i : Int)) =
      (match holdersF S t i d with | [] => k0 | l => k1 l.length l.length (encI l))
  | 0, i, m, h, hm => by
    obtain ⟨m, rfl⟩ : ∃ k, m = k + 1 := ⟨m - 1, by omega⟩
    rw [fuelN_succ, show i = S.length by omega, holders_endl n a b c x y z w S R t k0 k1 hS]
    simp [holdersF]
  | d + 1, i, m, h, hm => by
    obtain ⟨m, rfl⟩ : ∃ k, m = k + 1 := ⟨m - 1, by omega⟩
    rw [fuelN_succ, holders_sl n a b c x y z w S R t k0 k1 hS _ i (by omega), holdersF_succ]
    cases holds S t i
    · simp only [cond_false, List.nil_append]
      exact holders_l d (i + 1) m (by omega) (by omega)
    · simp only [cond_true]
      have := holders_r n a b c x y z w S R t k0 k1 hS d (i + 1) m [(i : Int)] (by omega) (by omega) (by simp)
      simp only [List.length_singleton] at this
      rw [this]
      rfl

theorem holders_eq (hn : S.length < n) : state_State_holders n ρ a b c x y (encS S) z w R t k0 k1 = (match holdersM S t with | [] => k0 | l => k1 l.length l.length (encI l)) := by
  show state_State_holders_s _ n a b c x y (encS S) z w R t k0 k1 = _
  unfold state_State_holders_s state_State_holders_l3
  rw [encS_len]
  exact holders_l n a b c x y z w S R t k0 k1 hS S.length 0 n (by omega) hn
end
end
end Go.Rv
/-
The plain mathematics of what is alike.
-/
namespace Go.Rv
section
variable {ρ : Type} (n : Nat)

def eqSl (s u : Slot) : Bool := (s.ty == u.ty) && ((s.th == u.th) && ((s.ri == u.ri) && ((s.ba == u.ba) && ((s.up == u.up) && true))))
def eqAt {α : Type} (e : α → α → Bool) (l m : List α) (i : Nat) : Bool := match l[i]?, m[i]? with | some s, some u => e s u | _, _ => true
def eqLs {α : Type} (e : α → α → Bool) (l m : List α) : Bool := decide (l.length = m.length) && (List.range l.length).all (eqAt e l m)
theorem eqSl_refl (s : Slot) : eqSl s s = true := by simp [eqSl]
theorem eqT_refl (s : Thing) : eqT s s = true := by simp [eqT]
theorem eqLs_refl {α : Type} {e : α → α → Bool} (h : ∀ s, e s s = true) (l : List α) : eqLs e l l = true := by
  unfold eqLs
  simp only [decide_true, Bool.true_and, List.all_eq_true]
  intro i hi
  have := List.mem_range.1 hi
  simp only [eqAt, List.getElem?_eq_getElem this, h]

section
variable (x y z w : Bool) (S U : List Slot) (hS : S.length < 1000000) (hn : S.length < n)
include hS hn
theorem equalS_eq (K : Bool → Option ρ) : slices_Equal_Slot n ρ x y (encS S) z w (encS U) K = K (eqLs eqSl S U) := by
  show slices_Equal_Slot_s _ n x y (encS S) z w (encS U) K = _
  unfold slices_Equal_Slot_s eqLs
  rw [encS_len, encS_len]
  by_cases hl : S.length = U.length
  · have : (((S.length : Nat) : Int) != ((U.length : Nat) : Int)) = false := by simp [hl]
    rw [this, bif_f, decide_eq_true hl, Bool.true_and]
    unfold slices_Equal_Slot_l4
    rw [up_loop0 (len := S.length) (k0 := K false) (k1 := K true) (eqAt eqSl S U)]
    · cases (List.range S.length).all _ <;> rfl
    · intro rec
      unfold slices_Equal_Slot_l4_s
      simp only
      rw [show decide (((S.length : Nat) : Int) < ((S.length : Nat) : Int)) = false by simp]
      rfl
    · intro rec i hi
      have hu : i < U.length := by omega
      unfold slices_Equal_Slot_l4_s
      simp only
      rw [show decide ((i : Int) < ((S.length : Nat) : Int)) = true by simpa using hi, bif_t, rowT_S hi, rowT_S hu, wrap_id (by omega) (by omega), show ((i : Int) + 1) = ((i + 1 : Nat) : Int) by omega]
      simp only [eqAt, List.getElem?_eq_getElem hi, List.getElem?_eq_getElem hu]
      change (bif (!(eqSl S[i] U[i])) then K false else rec ((i + 1 : Nat) : Int)) = _
      cases eqSl S[i] U[i] <;> rfl
    · exact hn
  · have : (((S.length : Nat) : Int) != ((U.length : Nat) : Int)) = true := by simp; omega
    rw [this, bif_t, decide_eq_false hl]; rfl
end
section
variable (x y z w : Bool) (S U : List Thing) (hS : S.length < 1000000) (hn : S.length < n)
include hS hn
theorem equalT_eq (K : Bool → Option ρ) : slices_Equal_Thing n ρ x y (encT S) z w (encT U) K = K (eqLs eqT S U) := by
  show slices_Equal_Thing_s _ n x y (encT S) z w (encT U) K = _
  unfold slices_Equal_Thing_s eqLs
  rw [encT_len, encT_len]
  by_cases hl : S.length = U.length
  · have : (((S.length : Nat) : Int) != ((U.length : Nat) : Int)) = false := by simp [hl]
    rw [this, bif_f, decide_eq_true hl, Bool.true_and]
    unfold slices_Equal_Thing_l4
    rw [up_loop0 (len := S.length) (k0 := K false) (k1 := K true) (eqAt eqT S U)]
    · cases (List.range S.length).all _ <;> rfl
    · intro rec
      unfold slices_Equal_Thing_l4_s
      simp only
      rw [show decide (((S.length : Nat) : Int) < ((S.length : Nat) : Int)) = false by simp]
      rfl
    · intro rec i hi
      have hu : i < U.length := by omega
      unfold slices_Equal_Thing_l4_s
      simp only
      rw [show decide ((i : Int) < ((S.length : Nat) : Int)) = true by simpa using hi, bif_t, rowT_T hi, rowT_T hu, wrap_id (by omega) (by omega), show ((i : Int) + 1) = ((i + 1 : Nat) : Int) by omega]
      simp only [eqAt, List.getElem?_eq_getElem hi, List.getElem?_eq_getElem hu]
      change (bif (!(eqT S[i] U[i])) then K false else rec ((i + 1 : Nat) : Int)) = _
      cases eqT S[i] U[i] <;> rfl
    · exact hn
  · have : (((S.length : Nat) : Int) != ((U.length : Nat) : Int)) = true := by simp; omega
    rw [this, bif_t, decide_eq_false hl]; rfl
end

def eqG (a b c a' b' c' : Int) : Bool := (a == a') && ((b == b') && ((c == c') && true))
section
variable (a b c a' b' c' : Int) (x y z w x' y' z' w' : Bool) (S S' : List Slot) (T T' : List Thing) (hS : S.length < 1000000) (hn : S.length < n) (hT : T.length < 1000000) (hn2 : T.length < n)
include hS hn hT hn2
theorem same_eq (K : Bool → Option ρ) : state_Same n ρ a b c x y (encS S) z w (encT T) a' b' c' x' y' (encS S') z' w' (encT T') K = K (eqG a b c a' b' c' && (eqLs eqSl S S' && eqLs eqT T T')) := by
  show state_Same_s (state_Same_g n) n a b c x y (encS S) z w (encT T) a' b' c' x' y' (encS S') z' w' (encT T') K = _
  simp only [state_Same_s, state_Same_g, equalS_eq n x y x' y' S S' hS hn, equalT_eq n z w z' w' T T' hT hn2]
  change (bif eqG a b c a' b' c' then _ else _) = _
  cases eqG a b c a' b' c' <;> cases eqLs eqSl S S' <;> cases eqLs eqT T T' <;> rfl
theorem refSame_eq (K : Bool → Option ρ) : reeveref11_Same n ρ a b c x y (encS S) z w (encT T) a' b' c' x' y' (encS S') z' w' (encT T') K = K (eqG a b c a' b' c' && (eqLs eqSl S S' && eqLs eqT T T')) := by
  show reeveref11_Same_s (reeveref11_Same_g n) n a b c x y (encS S) z w (encT T) a' b' c' x' y' (encS S') z' w' (encT T') K = _
  unfold reeveref11_Same_s
  change (bif (!eqG a b c a' b' c') then K false else _) = _
  cases eqG a b c a' b' c'
  · rfl
  · simp only [Bool.not_true, bif_f, Bool.true_and, encS_len, encT_len]
    unfold eqLs
    by_cases hl : S.length = S'.length
    · have e : (((S.length : Nat) : Int) != ((S'.length : Nat) : Int)) = false := by simp [hl]
      rw [e, bif_f, decide_eq_true hl, Bool.true_and]
      by_cases hl2 : T.length = T'.length
      · have e2 : (((T.length : Nat) : Int) != ((T'.length : Nat) : Int)) = false := by simp [hl2]
        rw [e2, bif_f, decide_eq_true hl2, Bool.true_and]
        unfold reeveref11_Same_l4
        rw [up_loop0 (len := S.length) (k0 := K false) (k1 := reeveref11_Same_l9 (reeveref11_Same_g n) n a b c x y (encS S) z w (encT T) a' b' c' x' y' (encS S') z' w' (encT T') (K false) (K true) 0) (eqAt eqSl S S')]
        · cases (List.range S.length).all (eqAt eqSl S S')
          · rfl
          · rw [bif_t, Bool.true_and]
            unfold reeveref11_Same_l9
            rw [up_loop0 (len := T.length) (k0 := K false) (k1 := K true) (eqAt eqT T T')]
            · cases (List.range T.length).all _ <;> rfl
            · intro rec
              unfold reeveref11_Same_l9_s
              simp only [encT_len]
              rw [show decide (((T.length : Nat) : Int) < ((T.length : Nat) : Int)) = false by simp]
              rfl
            · intro rec i hi
              have hu : i < T'.length := by omega
              unfold reeveref11_Same_l9_s
              simp only [encT_len]
              rw [show decide ((i : Int) < ((T.length : Nat) : Int)) = true by simpa using hi, bif_t, rowT_T hi, rowT_T hu, wrap_id (by omega) (by omega), show ((i : Int) + 1) = ((i + 1 : Nat) : Int) by omega]
              simp only [eqAt, List.getElem?_eq_getElem hi, List.getElem?_eq_getElem hu]
              change (bif (!(eqT T[i] T'[i])) then K false else rec ((i + 1 : Nat) : Int)) = _
              cases eqT T[i] T'[i] <;> rfl
            · exact hn2
        · intro rec
          unfold reeveref11_Same_l4_s
          simp only [encS_len]
          rw [show decide (((S.length : Nat) : Int) < ((S.length : Nat) : Int)) = false by simp]
          rfl
        · intro rec i hi
          have hu : i < S'.length := by omega
          unfold reeveref11_Same_l4_s
          simp only [encS_len]
          rw [show decide ((i : Int) < ((S.length : Nat) : Int)) = true by simpa using hi, bif_t, rowT_S hi, rowT_S hu, wrap_id (by omega) (by omega), show ((i : Int) + 1) = ((i + 1 : Nat) : Int) by omega]
          simp only [eqAt, List.getElem?_eq_getElem hi, List.getElem?_eq_getElem hu]
          change (bif (!(eqSl S[i] S'[i])) then K false else rec ((i + 1 : Nat) : Int)) = _
          cases eqSl S[i] S'[i] <;> rfl
        · exact hn
      · have e2 : (((T.length : Nat) : Int) != ((T'.length : Nat) : Int)) = true := by simp; omega
        rw [e2, bif_t, decide_eq_false hl2]; simp
    · have e : (((S.length : Nat) : Int) != ((S'.length : Nat) : Int)) = true := by simp; omega
      rw [e, bif_t, decide_eq_false hl]; rfl
end
end
end Go.Rv
/-
The plain mathematics of what is alike: a state as the document's own; another one.
-/
namespace Go.Rv
section
variable {ρ : Type} (n : Nat)

theorem thingOf_eq (a1 a2 a3 a4 a5 a6 a7 : Int) (f : Bool) (b1 b2 b3 b4 b5 : Int) (K : Bool → Option ρ) : reevelaw12_thingOf n ρ a1 a2 a3 a4 a5 a6 a7 f b1 b2 b3 b4 b5 K = K f := by
  show reevelaw12_thingOf_s _ n a1 a2 a3 a4 a5 a6 a7 f b1 b2 b3 b4 b5 K = _
  unfold reevelaw12_thingOf_s
  cases f <;> rfl

section
variable (G : reevelaw12_ownOf_G) (hG : G.reevelaw12_thingOf = reevelaw12_thingOf n) (a b c : Int) (x y z w : Bool) (S : List Slot) (T : List Thing) (q1 q2 q3 : Int) (k0 : Option ρ) (k1 : Nat → Nat → Rows → Option ρ)
theorem own_s (hS : S.length < 1000000) : ∀ (d i m : Nat) (acc : List Slot), i + d = S.length → d < m → acc.length = i →
    fuelN (reevelaw12_ownOf_l3_s G n a b c x y (encS S) z w (encT T) q1 q2 q3 k0 k1) m (.inr ((i : Int), acc.length, acc.length, encS acc)) =
      k1 (acc ++ S.drop i).length (acc ++ S.drop i).length (encS (acc ++ S.drop i)) := by
  intro d
  induction d with
  | zero =>
    intro i m acc h hm ha
    obtain ⟨m, rfl⟩ : ∃ k, m = k + 1 := ⟨m - 1, by omega⟩
    rw [fuelN_succ]
    generalize fuelN _ m = rec
    unfold reevelaw12_ownOf_l3_s
    simp only [encS_len]
    rw [show decide ((i : Int) < ((S.length : Nat) : Int)) = false by simp; omega, List.drop_eq_nil_of_le (by omega)]
    simp
  | succ d ih =>
    intro i m acc h hm ha
    obtain ⟨m, rfl⟩ : ∃ k, m = k + 1 := ⟨m - 1, by omega⟩
    have hi : i < S.length := by omega
    have ih1 := ih (i + 1) m (acc ++ [S[i]]) (by omega) (by omega) (by simp [ha])
    rw [fuelN_succ]
    generalize fuelN _ m = rec at ih1 ⊢
    unfold reevelaw12_ownOf_l3_s
    have hl : (encS acc).length = acc.length := encS_len acc
    simp only [encS_len]
    rw [show decide ((i : Int) < ((S.length : Nat) : Int)) = true by simpa using hi, bif_t, rowT_S hi, rowT_S hi, wrap_id (by omega) (by omega), show ((i : Int) + 1) = ((i + 1 : Nat) : Int) by omega]
    have e2 : (acc.length == acc.length) = true := by simp
    have e3 : decide (acc.length + 1 ≤ most) = true := by
      have : most = 16777216 := rfl
      simp only [decide_eq_true_eq]; omega
    simp only [e2, e3, chk_t, Slot.c]
    have e4 : encS acc ++ [[AV.i .i64 S[i].ty, AV.i .i64 S[i].th, AV.i .i64 S[i].ri, AV.i .i64 S[i].ba, AV.i .i64 S[i].up]] = encS (acc ++ [S[i]]) := by simp [encS, Slot.row]
    have e5 : acc ++ [S[i]] ++ S.drop (i + 1) = acc ++ S.drop i := by
      rw [List.drop_eq_getElem_cons hi]; simp only [List.append_assoc, List.singleton_append]
    rw [e5] at ih1
    rw [e4, ← ih1]
    simp
theorem own_s0 (hS : S.length < 1000000) (hn : S.length < n) : reevelaw12_ownOf_l3 G n a b c x y (encS S) z w (encT T) q1 q2 q3 k0 k1 (.inl ()) = (match S with | [] => k0 | l => k1 l.length l.length (encS l)) := by
  unfold reevelaw12_ownOf_l3
  obtain ⟨m, rfl⟩ : ∃ k, n = k + 1 := ⟨n - 1, by omega⟩
  rw [fuelN_succ]
  cases S with
  | nil =>
    generalize fuelN _ m = rec
    unfold reevelaw12_ownOf_l3_s
    rfl
  | cons s r =>
    have := own_s (m + 1) G a b c x y z w (s :: r) T q1 q2 q3 k0 k1 hS r.length 1 m [s] (by simp only [List.length_cons]; omega) (by simp only [List.length_cons] at hn; omega) rfl
    generalize fuelN _ m = rec at this ⊢
    unfold reevelaw12_ownOf_l3_s
    simp only [encS_len]
    have h0 : decide ((0 : Int) < (((s :: r).length : Nat) : Int)) = true := by
      simp only [List.length_cons, decide_eq_true_eq]; omega
    have hr := fun K => rowT_S (ρ := ρ) (l := s :: r) (i := 0) (by simp) K
    simp only [Int.natCast_zero] at hr
    rw [h0, bif_t, hr, hr]
    simp only [Slot.c, List.getElem_cons_zero]
    simp only [List.length_singleton, List.drop_succ_cons, List.drop_zero, List.singleton_append] at this
    rw [← this]
    rfl
end
section
variable (G : reevelaw12_ownOf_G) (hG : G.reevelaw12_thingOf = reevelaw12_thingOf n) (a b c : Int) (x y z w : Bool) (R : Rows) (T : List Thing) (q1 q2 q3 : Int) (k0 : Option ρ) (k1 : Nat → Nat → Rows → Option ρ)
include hG
theorem own_t (hT : T.length < 1000000) : ∀ (d i m : Nat) (acc : List Thing), i + d = T.length → d < m → acc.length = i →
    fuelN (reevelaw12_ownOf_l8_0_s G n a b c x y R z w (encT T) q1 q2 q3 k0 k1) m (.inr ((i : Int), acc.length, acc.length, encT acc)) =
      k1 (acc ++ T.drop i).length (acc ++ T.drop i).length (encT (acc ++ T.drop i)) := by
  intro d
  induction d with
  | zero =>
    intro i m acc h hm ha
    obtain ⟨m, rfl⟩ : ∃ k, m = k + 1 := ⟨m - 1, by omega⟩
    rw [fuelN_succ]
    generalize fuelN _ m = rec
    unfold reevelaw12_ownOf_l8_0_s
    simp only [encT_len]
    rw [show decide ((i : Int) < ((T.length : Nat) : Int)) = false by simp; omega, List.drop_eq_nil_of_le (by omega)]
    simp
  | succ d ih =>
    intro i m acc h hm ha
    obtain ⟨m, rfl⟩ : ∃ k, m = k + 1 := ⟨m - 1, by omega⟩
    have hi : i < T.length := by omega
    have ih1 := ih (i + 1) m (acc ++ [T[i]]) (by omega) (by omega) (by simp [ha])
    rw [fuelN_succ]
    generalize fuelN _ m = rec at ih1 ⊢
    unfold reevelaw12_ownOf_l8_0_s
    simp only [encT_len]
    rw [show decide ((i : Int) < ((T.length : Nat) : Int)) = true by simpa using hi, bif_t, rowT_T hi, wrap_id (by omega) (by omega), show ((i : Int) + 1) = ((i + 1 : Nat) : Int) by omega]
    have e2 : (acc.length == acc.length) = true := by simp
    have e3 : decide (acc.length + 1 ≤ most) = true := by
      have : most = 16777216 := rfl
      simp only [decide_eq_true_eq]; omega
    simp only [hG, thingOf_eq, e2, e3, chk_t, Thing.c]
    have e4 : encT acc ++ [[AV.i .i64 T[i].ty, AV.i .i64 T[i].bits, AV.i .i64 T[i].base, AV.i .i64 T[i].size, AV.i .i64 T[i].used, AV.i .i64 T[i].fr, AV.i .i64 T[i].badge, AV.b T[i].full, AV.i .u64 T[i].word, AV.i .u64 T[i].d0, AV.i .u64 T[i].d1, AV.i .u64 T[i].d2, AV.i .u64 T[i].d3]] = encT (acc ++ [T[i]]) := by simp [encT, Thing.row]
    have e5 : acc ++ [T[i]] ++ T.drop (i + 1) = acc ++ T.drop i := by
      rw [List.drop_eq_getElem_cons hi]; simp only [List.append_assoc, List.singleton_append]
    rw [e5] at ih1
    rw [e4, ← ih1]
    simp
theorem own_t0 (hT : T.length < 1000000) (hn : T.length < n) : reevelaw12_ownOf_l8_0 G n a b c x y R z w (encT T) q1 q2 q3 k0 k1 (.inl ()) = (match T with | [] => k0 | l => k1 l.length l.length (encT l)) := by
  unfold reevelaw12_ownOf_l8_0
  obtain ⟨m, rfl⟩ : ∃ k, n = k + 1 := ⟨n - 1, by omega⟩
  rw [fuelN_succ]
  cases T with
  | nil =>
    generalize fuelN _ m = rec
    unfold reevelaw12_ownOf_l8_0_s
    rfl
  | cons s r =>
    have := own_t (m + 1) G hG a b c x y z w R (s :: r) q1 q2 q3 k0 k1 hT r.length 1 m [s] (by simp only [List.length_cons]; omega) (by simp only [List.length_cons] at hn; omega) rfl
    generalize fuelN _ m = rec at this ⊢
    unfold reevelaw12_ownOf_l8_0_s
    simp only [encT_len]
    have h0 : decide ((0 : Int) < (((s :: r).length : Nat) : Int)) = true := by
      simp only [List.length_cons, decide_eq_true_eq]; omega
    have hr := fun K => rowT_T (ρ := ρ) (l := s :: r) (i := 0) (by simp) K
    simp only [Int.natCast_zero] at hr
    rw [h0, bif_t, hr]
    simp only [hG, thingOf_eq, Thing.c, List.getElem_cons_zero]
    simp only [List.length_singleton, List.drop_succ_cons, List.drop_zero, List.singleton_append] at this
    rw [← this]
    rfl
variable (p12 p13 : Nat) (p14 : Rows)
theorem own_u (hT : T.length < 1000000) : ∀ (d i m : Nat) (acc : List Thing), i + d = T.length → d < m → acc.length = i →
    fuelN (reevelaw12_ownOf_l8_1_s G n a b c x y R z w (encT T) q1 q2 q3 p12 p13 p14 k0 k1) m (.inr ((i : Int), acc.length, acc.length, encT acc)) =
      k1 (acc ++ T.drop i).length (acc ++ T.drop i).length (encT (acc ++ T.drop i)) := own_t n G hG a b c x y z w R T q1 q2 q3 k0 k1 hT
theorem own_u0 (hT : T.length < 1000000) (hn : T.length < n) : reevelaw12_ownOf_l8_1 G n a b c x y R z w (encT T) q1 q2 q3 p12 p13 p14 k0 k1 (.inl ()) = (match T with | [] => k0 | l => k1 l.length l.length (encT l)) := own_t0 n G hG a b c x y z w R T q1 q2 q3 k0 k1 hT hn
end

theorem take_all {l : Rows} {k : Nat} (h : l.length = k) : List.take k (List.drop 0 l) = l := by
  rw [List.drop_zero, List.take_of_length_le (by omega)]

theorem ownOf_eq (a b c : Int) (x y z w : Bool) (S : List Slot) (T : List Thing) (hS : S.length < 1000000) (hn : S.length < n) (hT : T.length < 1000000) (hn2 : T.length < n) (K : Bool → Bool → Rows → Bool → Bool → Rows → Option ρ) :
    reevelaw12_ownOf n ρ a b c x y (encS S) z w (encT T) K = K S.isEmpty S.isEmpty (encS S) T.isEmpty T.isEmpty (encT T) := by
  show reevelaw12_ownOf_s (reevelaw12_ownOf_g n) n a b c x y (encS S) z w (encT T) K = _
  unfold reevelaw12_ownOf_s
  rw [own_s0 n (reevelaw12_ownOf_g n) a b c x y z w S T _ _ _ _ _ hS hn]
  cases S with
  | nil =>
    simp only
    rw [own_t0 n (reevelaw12_ownOf_g n) rfl a b c x y z w _ T _ _ _ _ _ hT hn2]
    cases T with
    | nil => rfl
    | cons t r =>
      simp only
      rw [show ((encT (t :: r)).length == (t :: r).length) = true by rw [encT_len]; simp, chk_t, take_all (encT_len _)]
      rfl
  | cons s q =>
    simp only
    rw [own_u0 n (reevelaw12_ownOf_g n) rfl a b c x y z w _ T _ _ _ _ _ _ _ _ hT hn2]
    have e1 : ((encS (s :: q)).length == (s :: q).length) = true := by rw [encS_len]; simp
    cases T with
    | nil =>
      simp only
      rw [e1, chk_t, take_all (encS_len _)]
      rfl
    | cons t r =>
      simp only
      rw [e1, show ((encT (t :: r)).length == (t :: r).length) = true by rw [encT_len]; simp, chk_t, chk_t, take_all (encS_len _), take_all (encT_len _)]
      rfl
end
end Go.Rv
/-
The plain mathematics of what is alike: another one.
-/
namespace Go.Rv
section
variable {ρ : Type} (n : Nat)
theorem heavy_eq (a b c : Int) (x y z w : Bool) (S : List Slot) (T : List Thing) (K : Bool → Option ρ) : reevelaw12_heavy n ρ a b c x y (encS S) z w (encT T) K = K (decide ((S.length : Int) > 100) || decide ((T.length : Int) > 50)) := by
  show reevelaw12_heavy_s _ n a b c x y (encS S) z w (encT T) K = _
  unfold reevelaw12_heavy_s
  rw [encS_len, encT_len]
  cases decide ((S.length : Int) > 100) <;> cases decide ((T.length : Int) > 50) <;> rfl
theorem wrap_ne (u : Int) : IntKind.wrap .i64 (u + 1) ≠ u := by
  simp [IntKind.wrap, IntKind.signed, IntKind.bits]
  split <;> omega
theorem encS_all (S : List Slot) : (List.all (encS S) fun e => e.length == 5) = true ∧ (List.all (encS S) fun e => !ownL e) = true := by
  constructor <;> simp [encS, Slot.row, ownL, AV.own]
theorem encT_all (S : List Thing) : (List.all (encT S) fun e => e.length == 13) = true ∧ (List.all (encT S) fun e => !ownL e) = true := by
  constructor <;> simp [encT, Thing.row, ownL, AV.own]
theorem cloneS_eq (x y : Bool) (S : List Slot) (hS : S.length < 1000000) (k0 : Option ρ) (k1 : Nat → Nat → Rows → Option ρ) : slices_Clone_Slot n ρ x y (encS S) k0 k1 = bif x then k0 else k1 S.length S.length (encS S) := by
  show slices_Clone_Slot_s _ n x y (encS S) k0 k1 = _
  unfold slices_Clone_Slot_s
  have e3 : decide (0 + (encS S).length ≤ most) = true := by
    have : most = 16777216 := rfl
    rw [encS_len]; simp only [decide_eq_true_eq]; omega
  rw [(encS_all S).1, (encS_all S).2, e3, chk_t, chk_t, chk_t, encS_len, Nat.zero_add, List.nil_append]
theorem cloneT_eq (x y : Bool) (S : List Thing) (hS : S.length < 1000000) (k0 : Option ρ) (k1 : Nat → Nat → Rows → Option ρ) : slices_Clone_Thing n ρ x y (encT S) k0 k1 = bif x then k0 else k1 S.length S.length (encT S) := by
  show slices_Clone_Thing_s _ n x y (encT S) k0 k1 = _
  unfold slices_Clone_Thing_s
  have e3 : decide (0 + (encT S).length ≤ most) = true := by
    have : most = 16777216 := rfl
    rw [encT_len]; simp only [decide_eq_true_eq]; omega
  rw [(encT_all S).1, (encT_all S).2, e3, chk_t, chk_t, chk_t, encT_len, Nat.zero_add, List.nil_append]
section
variable (a b c : Int) (x y z w : Bool) (S : List Slot) (T : List Thing) (hS : S.length < 1000000) (hT : T.length < 1000000)
include hS hT
theorem clone_eq (k0 : Option ρ) (k1 k2 : Nat → Nat → Rows → Option ρ) (k3 : Nat → Nat → Nat → Nat → Rows → Rows → Option ρ) : state_Clone n ρ a b c x y (encS S) z w (encT T) k0 k1 k2 k3 =
    bif x then (bif z then k0 else k1 T.length T.length (encT T)) else (bif z then k2 S.length S.length (encS S) else k3 S.length S.length T.length T.length (encS S) (encT T)) := by
  show state_Clone_s (state_Clone_g n) n a b c x y (encS S) z w (encT T) k0 k1 k2 k3 = _
  simp only [state_Clone_s, state_Clone_g, cloneS_eq n x y S hS, cloneT_eq n z w T hT]
end
theorem eqG_refl (a b c : Int) : eqG a b c a b c = true := by simp [eqG]
theorem equalS1 (hn : 0 < n) (p q x y : Bool) (K : Bool → Option ρ) : slices_Equal_Slot_i1 n ρ p q x y (encS []) K = K true := by
  show slices_Equal_Slot_i1_s _ n p q x y (encS []) K = _
  unfold slices_Equal_Slot_i1_s slices_Equal_Slot_i1_l4
  obtain ⟨m, rfl⟩ : ∃ k, n = k + 1 := ⟨n - 1, by omega⟩
  rw [fuelN_succ]
  rfl
theorem equalT1 (hn : 0 < n) (p q x y : Bool) (K : Bool → Option ρ) : slices_Equal_Thing_i1 n ρ p q x y (encT []) K = K true := by
  show slices_Equal_Thing_i1_s _ n p q x y (encT []) K = _
  unfold slices_Equal_Thing_i1_s slices_Equal_Thing_i1_l4
  obtain ⟨m, rfl⟩ : ∃ k, n = k + 1 := ⟨n - 1, by omega⟩
  rw [fuelN_succ]
  rfl
theorem equalT2 (hn : 0 < n) (p q x y : Bool) (K : Bool → Option ρ) : slices_Equal_Thing_i2 n ρ p q (encT []) x y K = K true := by
  show slices_Equal_Thing_i2_s _ n p q (encT []) x y K = _
  unfold slices_Equal_Thing_i2_s slices_Equal_Thing_i2_l4
  obtain ⟨m, rfl⟩ : ∃ k, n = k + 1 := ⟨n - 1, by omega⟩
  rw [fuelN_succ]
  rfl
section
variable (a b c : Int) (p1 p2 p3 p4 x y z w : Bool) (S U : List Slot) (T : List Thing) (hS : S.length < 1000000) (hn : S.length < n) (hT : T.length < 1000000) (hn2 : T.length < n) (hn0 : 0 < n)
include hn0
theorem sameI1 (K : Bool → Option ρ) : state_Same_i1 n ρ a b c p1 p2 p3 p4 a b c x y (encS []) z w (encT []) K = K true := by
  show state_Same_i1_s (state_Same_i1_g n) n a b c p1 p2 p3 p4 a b c x y (encS []) z w (encT []) K = _
  simp only [state_Same_i1_s, state_Same_i1_g, equalS1 n hn0, equalT1 n hn0]
  change (bif eqG a b c a b c then _ else _) = _
  rw [eqG_refl]; rfl
include hS hn hT hn2
theorem sameI2 (K : Bool → Option ρ) : state_Same_i2 n ρ a b c p1 p2 p3 p4 (encT T) a b c x y (encS []) z w (encT T) K = K true := by
  have _ := hS
  have _ := hn
  show state_Same_i2_s (state_Same_i2_g n) n a b c p1 p2 p3 p4 (encT T) a b c x y (encS []) z w (encT T) K = _
  simp only [state_Same_i2_s, state_Same_i2_g, equalS1 n hn0, equalT_eq n p3 p4 z w T T hT hn2, eqLs_refl eqT_refl]
  change (bif eqG a b c a b c then _ else _) = _
  rw [eqG_refl]; rfl
theorem sameI3 (K : Bool → Option ρ) : state_Same_i3 n ρ a b c p1 p2 (encS S) p3 p4 a b c x y (encS S) z w (encT []) K = K true := by
  have _ := hT
  have _ := hn2
  show state_Same_i3_s (state_Same_i3_g n) n a b c p1 p2 (encS S) p3 p4 a b c x y (encS S) z w (encT []) K = _
  simp only [state_Same_i3_s, state_Same_i3_g, equalT1 n hn0, equalS_eq n p1 p2 x y S S hS hn, eqLs_refl eqSl_refl]
  change (bif eqG a b c a b c then _ else _) = _
  rw [eqG_refl]; rfl
theorem sameI4 (K : Bool → Option ρ) : state_Same_i4 n ρ a b c x y (encS S) z w (encT []) a b c p1 p2 (encS U) p3 p4 K = K (eqLs eqSl S U) := by
  have _ := hT
  have _ := hn2
  show state_Same_i4_s (state_Same_i4_g n) n a b c x y (encS S) z w (encT []) a b c p1 p2 (encS U) p3 p4 K = _
  simp only [state_Same_i4_s, state_Same_i4_g, equalT2 n hn0, equalS_eq n x y p1 p2 S U hS hn]
  change (bif eqG a b c a b c then _ else _) = _
  rw [eqG_refl]
  cases eqLs eqSl S U <;> rfl
end
theorem rowN_Sa {l : List Slot} {i : Nat} (h : i < l.length) (K : CT [.a, .a, .a, .a, .a] → Option ρ) : rowN [.a, .a, .a, .a, .a] (encS l) i K = K (.i .i64 l[i].ty, .i .i64 l[i].th, .i .i64 l[i].ri, .i .i64 l[i].ba, .i .i64 l[i].up, ()) := by
  unfold rowN encS
  simp only [List.getElem?_map, List.getElem?_eq_getElem h, Option.map_some]
  rfl
theorem rowN_S {l : List Slot} {i : Nat} (h : i < l.length) (K : CT i5 → Option ρ) : rowN i5 (encS l) i K = K (l[i].c) := by
  unfold rowN encS
  simp only [List.getElem?_map, List.getElem?_eq_getElem h, Option.map_some]
  rfl
theorem encS_set (l : List Slot) (i : Nat) (s : Slot) : (encS l).set i s.row = encS (l.set i s) := by simp [encS, List.map_set]
def turned (s : Slot) : Slot := ⟨s.ty, s.th, s.ri, s.ba, IntKind.wrap .i64 (s.up + 1)⟩
theorem eq_turned {S : List Slot} {i : Nat} (h : i < S.length) : eqLs eqSl S (S.set i (turned S[i])) = false := by
  unfold eqLs
  rw [Bool.and_eq_false_iff]
  right
  rw [List.all_eq_false]
  refine ⟨i, List.mem_range.2 h, ?_⟩
  have hne := wrap_ne S[i].up
  have : (S[i].up == IntKind.wrap .i64 (S[i].up + 1)) = false := by simp; exact fun e => hne e.symm
  have hs : (S.set i (turned S[i]))[i]? = some (turned S[i]) := by simp [h]
  unfold eqAt
  rw [List.getElem?_eq_getElem h, hs]
  simp [eqSl, turned, this]
end
theorem awake200 (ρ : Type) (K : Bool → Option ρ) : reevelaw12_awake 200 ρ K = K true := by kernel_rfl
end Go.Rv
/-
The law of what is alike.
-/
namespace Go.Rv
section
variable {ρ : Type} (n : Nat)
theorem StateSame_true (hn : 200 ≤ n) (haw : ∀ (ρ : Type) (K : Bool → Option ρ), reevelaw12_awake n ρ K = K true) (a b c : Int) (x y z w : Bool) (S : List Slot) (T : List Thing) (hx : x = true → S = []) (hz : z = true → T = [])
    (a' b' c' : Int) (x' y' z' w' : Bool) (S' : List Slot) (T' : List Thing) (i : Int) (K : Bool → Option ρ) :
    reevelaw12_StateSame n ρ a b c x y (encS S) z w (encT T) a' b' c' x' y' (encS S') z' w' (encT T') i K = K true := by
  show reevelaw12_StateSame_s ⟨reevelaw12_awake n, reevelaw12_heavy n, state_Same n, reevelaw12_ownOf n, reeveref11_Same n, state_Clone n, state_Same_i1 n, state_Same_i2 n, state_Same_i3 n, state_Same_i4 n⟩ n a b c x y (encS S) z w (encT T) a' b' c' x' y' (encS S') z' w' (encT T') i K = _
  unfold reevelaw12_StateSame_s
  dsimp only
  rw [haw, bif_t, heavy_eq]
  cases hh : decide ((S.length : Int) > 100) || decide ((T.length : Int) > 50)
  case true => rfl
  simp only [Bool.or_eq_false_iff, decide_eq_false_iff_not] at hh
  rw [bif_f, heavy_eq]
  cases hh2 : decide ((S'.length : Int) > 100) || decide ((T'.length : Int) > 50)
  case true => rfl
  simp only [Bool.or_eq_false_iff, decide_eq_false_iff_not] at hh2
  have hS : S.length < 1000000 := by omega
  have hT : T.length < 1000000 := by omega
  have hSn : S.length < n := by omega
  have hTn : T.length < n := by omega
  have hS' : S'.length < 1000000 := by omega
  have hT' : T'.length < 1000000 := by omega
  have hSn' : S'.length < n := by omega
  have hTn' : T'.length < n := by omega
  have hn0 : 0 < n := by omega
  rw [bif_f, same_eq n a b c a' b' c' x y z w x' y' z' w' S S' T T' hS hSn hT hTn]
  -- another one, alike; turned, it is not
  have lenS : ((encS S).length == S.length) = true := by rw [encS_len]; simp
  have lenT : ((encT T).length == T.length) = true := by rw [encT_len]; simp
  have tS := take_all (encS_len S)
  have tT := take_all (encT_len T)
  cases hr : eqG a b c a' b' c' && (eqLs eqSl S S' && eqLs eqT T T')
  all_goals
    simp only [bif_t, bif_f]
    rw [ownOf_eq n a b c x y z w S T hS hSn hT hTn, ownOf_eq n a' b' c' x' y' z' w' S' T' hS' hSn' hT' hTn', refSame_eq n a b c a' b' c' _ _ _ _ _ _ _ _ S S' T T' hS hSn hT hTn, hr]
    simp only [bif_t, bif_f]
    rw [clone_eq n a b c x y z w S T hS hT]
    have hrefl := fun (p1 p2 p3 p4 : Bool) (K : Bool → Option ρ) => same_eq n a b c a b c p1 p2 p3 p4 x y z w S S T T hS hSn hT hTn K
    cases x
    · cases z
      · -- both are there
        simp only [cond_false, lenS, lenT, chk_t, tS, tT, hrefl, eqG_refl, eqLs_refl eqSl_refl, eqLs_refl eqT_refl, Bool.and_self, bif_t, encS_len]
        by_cases h1 : i < 0
        · simp [h1, chk]
        · by_cases h2 : i ≥ ((S.length : Nat) : Int)
          · simp [h1, h2, chk]
          · obtain ⟨k, rfl⟩ : ∃ k : Nat, i = k := ⟨i.toNat, by omega⟩
            have hk : k < S.length := by omega
            have hset := encS_set S k (turned S[k])
            have hlen2 : (encS (S.set k (turned S[k]))).length = S.length := by rw [encS_len]; simp
            have e0 : decide ((0 : Int) ≤ (k : Int)) = true := by simp
            have e1 : decide ((k : Int) < ((S.length : Nat) : Int)) = true := by simpa using hk
            simp only [h1, h2, decide_false, bif_f, rowT_S hk, e0, e1, chk_t, Nat.zero_add, Int.toNat_natCast, rowN_S hk, rowN_Sa hk, Slot.c]
            have e3 : List.set (encS S) k [AV.i .i64 S[k].ty, AV.i .i64 S[k].th, AV.i .i64 S[k].ri, AV.i .i64 S[k].ba, AV.i .i64 (IntKind.wrap .i64 (S[k].up + 1))] = encS (S.set k (turned S[k])) := hset
            have e4 := take_all hlen2
            have e5 : ((encS (S.set k (turned S[k]))).length == S.length) = true := by rw [hlen2]; simp
            rw [e3, e4, e5, chk_t, same_eq n a b c a b c false y false w false false false false S (S.set k (turned S[k])) T T hS hSn hT hTn, eq_turned hk]
            simp [chk]
      · -- things are none
        obtain rfl := hz rfl
        simp only [cond_false, cond_true, lenS, chk_t, tS, sameI3 n a b c _ _ _ _ _ _ _ _ S [] hS hSn hT hTn hn0, bif_t, encS_len]
        by_cases h1 : i < 0
        · simp [h1, chk]
        · by_cases h2 : i ≥ ((S.length : Nat) : Int)
          · simp [h1, h2, chk]
          · obtain ⟨k, rfl⟩ : ∃ k : Nat, i = k := ⟨i.toNat, by omega⟩
            have hk : k < S.length := by omega
            have hset := encS_set S k (turned S[k])
            have hlen2 : (encS (S.set k (turned S[k]))).length = S.length := by rw [encS_len]; simp
            have e0 : decide ((0 : Int) ≤ (k : Int)) = true := by simp
            have e1 : decide ((k : Int) < ((S.length : Nat) : Int)) = true := by simpa using hk
            simp only [h1, h2, decide_false, bif_f, rowT_S hk, e0, e1, chk_t, Nat.zero_add, Int.toNat_natCast, rowN_S hk, rowN_Sa hk, Slot.c]
            have e3 : List.set (encS S) k [AV.i .i64 S[k].ty, AV.i .i64 S[k].th, AV.i .i64 S[k].ri, AV.i .i64 S[k].ba, AV.i .i64 (IntKind.wrap .i64 (S[k].up + 1))] = encS (S.set k (turned S[k])) := hset
            have e4 := take_all hlen2
            have e5 : ((encS (S.set k (turned S[k]))).length == S.length) = true := by rw [hlen2]; simp
            rw [e3, e4, e5, chk_t, sameI4 n a b c _ _ _ _ _ _ _ _ S (S.set k (turned S[k])) [] hS hSn hT hTn hn0, eq_turned hk]
            simp [chk]
    · obtain rfl := hx rfl
      cases z
      · simp only [cond_false, cond_true, lenT, chk_t, tT, sameI2 n a b c _ _ _ _ _ _ _ _ [] T hS hSn hT hTn hn0, bif_t]
        by_cases h1 : i < 0
        · simp [h1, chk]
        · have h2 : i ≥ 0 := by omega
          simp [h1, h2, chk]
      · obtain rfl := hz rfl
        simp only [cond_true, sameI1 n a b c _ _ _ _ _ _ _ _ hn0, bif_t]
        by_cases h1 : i < 0
        · simp [h1, chk]
        · have h2 : i ≥ 0 := by omega
          simp [h1, h2, chk]
end
end Go.Rv
/-
The arguments of the laws of states, as typed lists.
-/
namespace Go.Rv

theorem Al.uncons_i {k : IntKind} {s : List Ce} {l : List AV} (h : Al (.i k :: s) l) : ∃ n r, l = .i k n :: r ∧ Al s r := by
  cases l with
  | nil => exact h.elim
  | cons v r => obtain ⟨⟨n, rfl, _⟩, h2⟩ := h; exact ⟨n, r, rfl, h2⟩
theorem Al.uncons_b {s : List Ce} {l : List AV} (h : Al (.b :: s) l) : ∃ x r, l = .b x :: r ∧ Al s r := by
  cases l with
  | nil => exact h.elim
  | cons v r => obtain ⟨⟨n, rfl⟩, h2⟩ := h; exact ⟨n, r, rfl, h2⟩
theorem Al.none {l : List AV} (h : Al [] l) : l = [] := by
  cases l with
  | nil => rfl
  | cons v r => exact h.elim

theorem rowS {l : List AV} (h : Al i5 l) : ∃ s : Slot, l = s.row := by
  obtain ⟨a, _, rfl, g1⟩ := h.uncons_i
  obtain ⟨b, _, rfl, g2⟩ := g1.uncons_i
  obtain ⟨c, _, rfl, g3⟩ := g2.uncons_i
  obtain ⟨d, _, rfl, g4⟩ := g3.uncons_i
  obtain ⟨e, _, rfl, g5⟩ := g4.uncons_i
  obtain rfl := g5.none
  exact ⟨⟨a, b, c, d, e⟩, rfl⟩
theorem rowT' {l : List AV} (h : Al i13 l) : ∃ t : Thing, l = t.row := by
  obtain ⟨a1, _, rfl, g1⟩ := h.uncons_i
  obtain ⟨a2, _, rfl, g2⟩ := g1.uncons_i
  obtain ⟨a3, _, rfl, g3⟩ := g2.uncons_i
  obtain ⟨a4, _, rfl, g4⟩ := g3.uncons_i
  obtain ⟨a5, _, rfl, g5⟩ := g4.uncons_i
  obtain ⟨a6, _, rfl, g6⟩ := g5.uncons_i
  obtain ⟨a7, _, rfl, g7⟩ := g6.uncons_i
  obtain ⟨a8, _, rfl, g8⟩ := g7.uncons_b
  obtain ⟨a9, _, rfl, g9⟩ := g8.uncons_i
  obtain ⟨b1, _, rfl, g10⟩ := g9.uncons_i
  obtain ⟨b2, _, rfl, g11⟩ := g10.uncons_i
  obtain ⟨b3, _, rfl, g12⟩ := g11.uncons_i
  obtain ⟨b4, _, rfl, g13⟩ := g12.uncons_i
  obtain rfl := g13.none
  exact ⟨⟨a1, a2, a3, a4, a5, a6, a7, a8, a9, b1, b2, b3, b4⟩, rfl⟩
theorem rows_of {α : Type} (row : α → List AV) {ks : List Ce} (h : ∀ l, Al ks l → ∃ a, l = row a) : ∀ (xs : Rows), (∀ x ∈ xs, Al ks x) → ∃ l : List α, xs = l.map row
  | [], _ => ⟨[], rfl⟩
  | x :: xs, hx => by
    obtain ⟨a, rfl⟩ := h x (hx x (List.mem_cons_self ..))
    obtain ⟨l, rfl⟩ := rows_of row h xs fun y hy => hx y (List.mem_cons_of_mem _ hy)
    exact ⟨a :: l, rfl⟩

/-- a state, as the evaluator sees it -/
def stateAV (a b c : Int) (x y z w : Bool) (S : List Slot) (T : List Thing) : AV := .agg [.i .i64 a, .i .i64 b, .i .i64 c, .lst x y 5 (encS S), .lst z w 13 (encT T)]
def stateTy : List Ty1 := [.c (.i .i64), .c (.i .i64), .c (.i .i64), .l 5 i5, .l 13 i13]
theorem state_of {P : Program} {n : Nat} {t : TypeId} {v : AV} (h : TyArg P n t v) (ha : (match P.underlying t with | some (.struct _) | some (.array _ _) => true | _ => false) = true) (hf : flat1 P n t = some stateTy) :
    ∃ (a b c : Int) (x y z w : Bool) (S : List Slot) (T : List Thing), v = stateAV a b c x y z w S T ∧ (Lit.int .i64 a).wf = true ∧ (Lit.int .i64 b).wf = true ∧ (Lit.int .i64 c).wf = true ∧ (x = true → S = []) ∧ (z = true → T = []) := by
  obtain ⟨l, rfl, hl⟩ := TyArg_agg h ha hf
  obtain ⟨a, b, c, x, y, z, w, xs, ys, rfl, wa, wb, wc, _, _, h1, h2, h3, h4⟩ := AlT_state hl
  obtain ⟨S, rfl⟩ := rows_of Slot.row (fun _ => rowS) xs h1
  obtain ⟨T, rfl⟩ := rows_of Thing.row (fun _ => rowT') ys h2
  exact ⟨a, b, c, x, y, z, w, S, T, rfl, wa, wb, wc, fun h => by simpa using h3 h, fun h => by simpa using h4 h⟩


theorem same_L (a b c : Int) (x y z w : Bool) (S : List Slot) (T : List Thing) (hx : x = true → S = []) (hz : z = true → T = []) (a' b' c' : Int) (x' y' z' w' : Bool) (S' : List Slot) (T' : List Thing) (i : Int) :
    L tab 6 [stateAV a b c x y z w S T, stateAV a' b' c' x' y' z' w' S' T', .i .i64 i] = some ⟨.b true, [], []⟩ := by
  have h := StateSame_true 200 (Nat.le_refl _) awake200 a b c x y z w S T hx hz a' b' c' x' y' z' w' S' T' i (fun w0 => (some ⟨.b w0, [], []⟩ : Option Res))
  have e : reevelaw12_StateSame_e 200 Res [stateAV a b c x y z w S T, stateAV a' b' c' x' y' z' w' S' T', .i .i64 i] some = reevelaw12_StateSame 200 Res a b c x y (encS S) z w (encT T) a' b' c' x' y' (encS S') z' w' (encT T') i (fun w0 => some ⟨.b w0, [], []⟩) := by kernel_rfl
  rw [h] at e
  obtain ⟨r, h1, h2⟩ := reevelaw12_StateSame_ok 200 Res _ some _ e
  simp at h2; subst h2; exact h1
end Go.Rv
