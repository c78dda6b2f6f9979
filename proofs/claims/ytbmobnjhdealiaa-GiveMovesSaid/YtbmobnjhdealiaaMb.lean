/-
The law of what is moved there and back.
-/
import Derived.Test.YtbmobnjhdealiaaMa
namespace Go.Rv
section
variable {ρ : Type} (n : Nat)
theorem fields4 (K : Bys → Bys → Option ρ) : Q0c n ρ 4 K = K [109, 111, 118, 101] [65, 66] := by kernel_rfl
theorem contAB_B (K : Bool → Option ρ) : strings_Contains n ρ [65, 66] [66] K = K true := by kernel_rfl
theorem anyAB (K : Bool → Option ρ) : strings_ContainsAny n ρ [65, 66] [66, 98] K = K true := by kernel_rfl
theorem num4 (x y : Bool) (A : Rows) (p q : Bool) (B : Rows) (K : Bool → Option ρ) : Q09 n ρ 4 x y A p q B 0 0 0 K = K true := by kernel_rfl
theorem callGood4 (hn : 100 ≤ n) (x y p q : Bool) (A B : List Int) (hA : A.length < 1000000) (hB : B.length < 1000000) (K : Bool → Option ρ) :
    Qx n ρ 4 x y (encI A) p q (encI B) 0 0 0 K = K (pathGood B && pathGood A) := by
  show Qx_s (Qx_g n) n 4 x y (encI A) p q (encI B) 0 0 0 K = _
  unfold Qx_s
  simp only [Qx_g, fields4, contAB_B, anyAB, Q9_eq n x y A hA hn, Q9_eq n p q B hB hn, num4 n]
  cases pathGood A <;> cases pathGood B <;> cases (((List.length (encI B) : Nat) : Int) == 0) <;> rfl
theorem done4 (G : Qo_G) (a0 a1 a2 : Int) (a3 a4 : Bool) (a5 : Rows) (a6 a7 : Bool) (a8 : Rows) (a9 : Int) (a11 a12 : Bool) (a13 : Rows) (a14 a15 : Bool) (a16 : Rows) (a17 a18 a19 : Int) (k0 : Bool → Bool → Rows → Bool → Bool → Rows → Int → Option ρ) (k1 : Nat → Nat → Rows → Option ρ) (k2 : Nat → Nat → Nat → Nat → Rows → Rows → Option ρ) :
    Qo_s G n a0 a1 a2 a3 a4 a5 a6 a7 a8 a9 4 a11 a12 a13 a14 a15 a16 a17 a18 a19 k0 k1 k2 = G.Qx ρ 4 a11 a12 a13 a14 a15 a16 a17 a18 a19 (fun w0 => bif w0 then G.Qt ρ a0 a1 a2 a3 a4 a5 a6 a7 a8 a9 a11 a12 a13 (fun w1 w2 w3 w4 w5 w6 => bif w6 != 0 then k0 a3 a4 a5 a6 a7 a8 w6 else G.Qk ρ a0 a1 a2 a3 a4 a5 a6 a7 a8 a9 a14 a15 a16 (fun d0 d1 => bif d1 != 0 then k0 a3 a4 a5 a6 a7 a8 d1 else G.Qi ρ a0 a1 a2 a3 a4 a5 a6 a7 a8 w2 w3 w4 w5 d0 (fun r => bif r then k0 a3 a4 a5 a6 a7 a8 1 else G.Q0 ρ a0 a1 a2 a3 a4 a5 a6 a7 a8 w1 d0 k1 k2))) else k0 a3 a4 a5 a6 a7 a8 1) := by kernel_rfl
variable (a b c : Int) (y w : Bool) (S : List Slot) (T : List Thing)
theorem Empty_then (hn : 200 ≤ n) (th : Int) (p q : Bool) (L : List Int) (hL : L.length < 1000000) (K : Int → Int → Option ρ) (R : Option ρ) (h0 : ∀ e, e ≠ 0 → K 0 e = R) (h1 : ∀ (j : Nat) (u : Slot), slotR a b c S T th L = ((j : Int), 0) → S[j]? = some u → capNone u.ty u.th u.ri u.ba = true → K (j : Int) 0 = R) :
    Qk n ρ a b c false y (encS S) false w (encT T) th p q (encI L) K = R := by
  show Qk_s (Qk_g n) n a b c false y (encS S) false w (encT T) th p q (encI L) K = _
  unfold Qk_s
  rw [show (Qk_g n).Q8 = Q8 n from rfl, Q8_eq n a b c false y false w S T hn th p q L hL]
  by_cases h : (slotR a b c S T th L).2 = 0
  · obtain ⟨_, _, _, g1, g2, _⟩ := slotR_in h
    have e : ((slotR a b c S T th L).2 != 0) = false := by simp [h]
    have e3 : slotR a b c S T th L = ((slotR a b c S T th L).1, 0) := Prod.ext rfl h
    rw [e, bif_f]
    generalize (slotR a b c S T th L).1 = v at g1 g2 e3 ⊢
    obtain ⟨i, rfl⟩ : ∃ i : Nat, v = i := ⟨_, (Int.toNat_of_nonneg g1).symm⟩
    have hi : i < S.length := by omega
    rw [rowT_S hi, show (Qk_g n).cap_None = cap_None n from rfl]
    simp only [cap_None_eq, Slot.c]
    cases hc : capNone S[i].ty S[i].th S[i].ri S[i].ba
    · exact h0 5 (by decide)
    · exact h1 i S[i] e3 (List.getElem?_eq_getElem hi) hc
  · have e : ((slotR a b c S T th L).2 != 0) = true := by simpa using h
    rw [e, bif_t]
    exact h0 _ h
theorem give4_then (hn : 200 ≤ n) (good : GoodS a b c S T) (th : Int) (p q p' q' : Bool) (A B : List Int) (hA : A.length < 1000000) (hB : B.length < 1000000) (K : Bool → Bool → Rows → Bool → Bool → Rows → Int → Option ρ) (R : Option ρ)
    (herr : ∀ e, e ≠ 0 → K false y (encS S) false w (encT T) e = R)
    (hok : ∀ (i j : Nat) (s u : Slot), MoveOK S T i j s u → pathGood A = true → pathGood B = true → slotR a b c S T th A = ((i : Int), 0) → slotR a b c S T th B = ((j : Int), 0) → K false false (encS (moveS S i j s)) false false (encT (moveT T i j)) 0 = R) :
    Qm n ρ a b c false y (encS S) false w (encT T) th 4 p q (encI A) p' q' (encI B) 0 0 0 K = R := by
  have hlen := good.len
  have err : ∀ e : Int, e ≠ 0 → (bif e != 0 then K false y (encS S) false w (encT T) e else K false y (encS S) false w (encT T) 0) = R := by
    intro e he
    have : (e != 0) = true := by simpa using he
    rw [this]
    exact herr e he
  show Qm_s (Qm_g n) n a b c false y (encS S) false w (encT T) th 4 p q (encI A) p' q' (encI B) 0 0 0 K = _
  unfold Qm_s
  have hd : ∀ k0 k1 k2, (Qm_g n).Qo ρ a b c false y (encS S) false w (encT T) th 4 p q (encI A) p' q' (encI B) 0 0 0 k0 k1 k2 = Qo_s (Qo_g n) n a b c false y (encS S) false w (encT T) th 4 p q (encI A) p' q' (encI B) 0 0 0 k0 k1 k2 := fun _ _ _ => rfl
  rw [hd, done4, show (Qo_g n).Qx = Qx n from rfl, callGood4 n (by omega) p q p' q' A B hA hB]
  cases hc : (pathGood B && pathGood A)
  · rw [bif_f]; exact err 1 (by decide)
  simp only [Bool.and_eq_true] at hc
  rw [bif_t, show (Qo_g n).Qt = Qt n from rfl, Qt_eq n a b c false y false w S T hn th p q A hA]
  by_cases he : (findR a b c S T th A).2.2 = 0
  rotate_left
  · have e : ((findR a b c S T th A).2.2 != 0) = true := by simpa using he
    rw [e, bif_t, bif_t]; exact herr _ he
  obtain ⟨_, _, _, i, s, hf, hs, hnn, hsl⟩ := findR_in he
  rw [hf, show ((0 : Int) != 0) = false from rfl, bif_f, show (Qo_g n).Qk = Qk n from rfl]
  refine Empty_then n a b c y w S T hn th p' q' B hB _ R (fun e h0 => ?_) (fun j u hjs hj hu => ?_)
  · have : (e != 0) = true := by simpa using h0
    rw [this, bif_t, bif_t]; exact herr e h0
  have hjl := (List.getElem?_eq_some_iff.1 hj).1
  rw [show ((0 : Int) != 0) = false from rfl, bif_f, show (Qo_g n).Qi = Qi n from rfl, ring_eq' n a b c false y false w S T hn good hjl]
  cases hr : (s.ty == 2 && insideB S T s.th (j : Int))
  rotate_left
  · rw [bif_t]; exact err 1 (by decide)
  rw [bif_f]
  have own : 0 ≤ ownerM T (j : Int) := by
    have h2 : (slotR a b c S T th B).2 = 0 := by rw [hjs]
    obtain ⟨_, _, _, _, _, t, ht, hh⟩ := slotR_in h2
    rw [hjs] at hh
    rcases ownerM_spec T (j : Int) with ⟨_, h⟩ | ⟨k, _, h, _⟩
    · have := h t ht
      rw [this] at hh; cases hh
    · omega
  have ok : MoveOK S T i j s u := ⟨hs, hj, hnn, hu, own, fun hty hin => by
    rw [hty, (insideB_iff S T).2 hin] at hr
    simp at hr⟩
  rw [show (Qo_g n).Q0 = Q0 n from rfl]
  refine moved_then n a b c y w S T hn good ok _ _ R ?_
  have e1 : ((encS (moveS S i j s)).length == S.length) = true := by rw [encS_len, mv_len]; simp
  have hml : (moveT T i j).length = T.length := by simp [moveT]
  have e2 : ((encT (moveT T i j)).length == T.length) = true := by rw [encT_len, hml]; simp
  rw [e1, chk_t, e2, chk_t, List.drop_zero, List.drop_zero, List.take_of_length_le (by rw [encS_len, mv_len]; exact Nat.le_refl _), List.take_of_length_le (by rw [encT_len, hml]; exact Nat.le_refl _)]
  exact hok i j s u ok hc.2 hc.1 hsl hjs
theorem give4_ok (hn : 200 ≤ n) (good : GoodS a b c S T) (th : Int) (p q p' q' : Bool) (A B : List Int) (hA : A.length < 1000000) (hB : B.length < 1000000) (K : Bool → Bool → Rows → Bool → Bool → Rows → Int → Option ρ) {i j : Nat} {s u : Slot}
    (ok : MoveOK S T i j s u) (pA : pathGood A = true) (pB : pathGood B = true) (sA : slotR a b c S T th A = ((i : Int), 0)) (sB : slotR a b c S T th B = ((j : Int), 0)) :
    Qm n ρ a b c false y (encS S) false w (encT T) th 4 p q (encI A) p' q' (encI B) 0 0 0 K = K false false (encS (moveS S i j s)) false false (encT (moveT T i j)) 0 := by
  have hlen := good.len
  obtain ⟨hjl, hj2⟩ := List.getElem?_eq_some_iff.1 ok.to
  have hfind : findR a b c S T th A = ((i : Int), s, 0) := by
    unfold findR
    rw [sA]
    simp only [show ((0 : Int) != 0) = false from rfl, cond_false, Int.toNat_natCast, ok.from', ok.full]
  show Qm_s (Qm_g n) n a b c false y (encS S) false w (encT T) th 4 p q (encI A) p' q' (encI B) 0 0 0 K = _
  unfold Qm_s
  have hd : ∀ k0 k1 k2, (Qm_g n).Qo ρ a b c false y (encS S) false w (encT T) th 4 p q (encI A) p' q' (encI B) 0 0 0 k0 k1 k2 = Qo_s (Qo_g n) n a b c false y (encS S) false w (encT T) th 4 p q (encI A) p' q' (encI B) 0 0 0 k0 k1 k2 := fun _ _ _ => rfl
  have hE : ∀ K : Int → Int → Option ρ, Qk n ρ a b c false y (encS S) false w (encT T) th p' q' (encI B) K = K (j : Int) 0 := by
    intro K
    show Qk_s (Qk_g n) n a b c false y (encS S) false w (encT T) th p' q' (encI B) K = _
    unfold Qk_s
    simp only [Qk_g, Q8_eq n a b c false y false w S T hn th p' q' B hB, sB, show ((0 : Int) != 0) = false from rfl, bif_f, cap_None_eq, rowT_S hjl, Slot.c, hj2, ok.none, bif_t]
  have hr : (s.ty == 2 && insideB S T s.th (j : Int)) = false := by
    cases h : s.ty == 2
    · rfl
    · have hty : s.ty = 2 := by simpa using h
      cases hi : insideB S T s.th (j : Int)
      · rfl
      · exact absurd ((insideB_iff S T).1 hi) (ok.ring hty)
  rw [hd, done4, show (Qo_g n).Qx = Qx n from rfl, callGood4 n (by omega) p q p' q' A B hA hB, pA, pB, Bool.and_self, bif_t, show (Qo_g n).Qt = Qt n from rfl, Qt_eq n a b c false y false w S T hn th p q A hA, hfind, show ((0 : Int) != 0) = false from rfl, bif_f, show (Qo_g n).Qk = Qk n from rfl, hE, show ((0 : Int) != 0) = false from rfl, bif_f, show (Qo_g n).Qi = Qi n from rfl, ring_eq' n a b c false y false w S T hn good hjl,
    show (((i : Int), s, (0 : Int)).2.1.ty == 2 && insideB S T ((i : Int), s, (0 : Int)).2.1.th (j : Int)) = false from hr, bif_f]
  rw [show (Qo_g n).Q0 = Q0 n from rfl]
  refine moved_then n a b c y w S T hn good ok _ _ _ ?_
  have e1 : ((encS (moveS S i j s)).length == S.length) = true := by rw [encS_len, mv_len]; simp
  have hml : (moveT T i j).length = T.length := by simp [moveT]
  have e2 : ((encT (moveT T i j)).length == T.length) = true := by rw [encT_len, hml]; simp
  rw [e1, chk_t, e2, chk_t, List.drop_zero, List.drop_zero, List.take_of_length_le (by rw [encS_len, mv_len]; exact Nat.le_refl _), List.take_of_length_le (by rw [encT_len, hml]; exact Nat.le_refl _)]
theorem GiveMoves_true (hn : 200 ≤ n) (haw : ∀ (ρ : Type) (K : Bool → Option ρ), Q07 n ρ K = K true) (x z : Bool) (hx : x = true → S = []) (hz : z = true → T = []) (th : Int) (p q p' q' : Bool) (A B : List Int) (ρ : Type) (K : Bool → Option ρ) :
    Q06 n ρ a b c x y (encS S) z w (encT T) th p q (encI A) p' q' (encI B) K = K true := by
  show Q06_s (Q06_g n) n a b c x y (encS S) z w (encT T) th p q (encI A) p' q' (encI B) K = _
  unfold Q06_s
  have way : ∀ (p q : Bool) (A : Rows) (K : Option ρ), (Q06_g n).reevelaw16_way ρ p q A K = K := fun _ _ _ _ => rfl
  have heavy : ∀ (K : Bool → Option ρ), reevelaw16_heavy n ρ a b c x y (encS S) z w (encT T) 4 p q (encI A) p' q' (encI B) 0 0 0 K = K (decide ((S.length : Int) > 100) || (decide ((T.length : Int) > 50) || (decide ((A.length : Int) > 10) || decide ((B.length : Int) > 10)))) := by
    intro K
    show reevelaw16_heavy_s _ n a b c x y (encS S) z w (encT T) 4 p q (encI A) p' q' (encI B) 0 0 0 K = _
    unfold reevelaw16_heavy_s
    rw [encS_len, encT_len, encI_len, encI_len]
    cases decide ((S.length : Int) > 100) <;> cases decide ((T.length : Int) > 50) <;> cases decide ((A.length : Int) > 10) <;> cases decide ((B.length : Int) > 10) <;> rfl
  rw [show (Q06_g n).Q07 = Q07 n from rfl, haw, bif_t, way, way, show (Q06_g n).reevelaw16_heavy = reevelaw16_heavy n from rfl, heavy]
  cases hh : (decide ((S.length : Int) > 100) || (decide ((T.length : Int) > 50) || (decide ((A.length : Int) > 10) || decide ((B.length : Int) > 10))))
  case true => rw [bif_t]
  simp only [Bool.or_eq_false_iff, decide_eq_false_iff_not] at hh
  rw [bif_f, show (Q06_g n).Qh = Qh n from rfl, good_eq n a b c x y z w S T hn]
  cases hg : goodB a b c S T
  · rw [bif_f]
  have good := goodB_iff.1 hg
  have hlen := good.len
  rw [bif_t, encI_len, encI_len]
  by_cases hA : A.length = 1
  rotate_left
  · rw [show (((A.length : Nat) : Int) != 1) = true by simp; omega, bif_t]
  rw [show (((A.length : Nat) : Int) != 1) = false by simp [hA], bif_f]
  by_cases hB : B.length = 1
  rotate_left
  · rw [show (((B.length : Nat) : Int) != 1) = true by simp; omega, bif_t]
  rw [show (((B.length : Nat) : Int) != 1) = false by simp [hB], bif_f]
  have hx' : x = false := by
    cases x with
    | false => rfl
    | true => have := hx rfl; subst this; simp at hlen; omega
  have hz' : z = false := by
    cases z with
    | false => rfl
    | true => have := hz rfl; subst this; simp at hlen; omega
  subst hx'; subst hz'
  have same : ∀ (y1 w1 y2 w2 : Bool) (K : Bool → Option ρ), (Q06_g n).Qy ρ a b c false y1 (encS S) false w1 (encT T) a b c false y2 (encS S) false w2 (encT T) K = K true := by
    intro y1 w1 y2 w2 K
    show Qy n ρ a b c false y1 (encS S) false w1 (encT T) a b c false y2 (encS S) false w2 (encT T) K = K true
    rw [same_eq n a b c a b c false y1 false w1 false y2 false w2 S S T T (by omega) (by omega) (by omega) (by omega), eqG_refl, eqLsS_refl, eqLsT_refl]; rfl
  rw [show (Q06_g n).Qm = Qm n from rfl]
  refine give4_then n a b c y w S T hn good th p q p' q' A B (by omega) (by omega) _ (K true) (fun e he => ?_) (fun i j s u ok pA pB sA sB => ?_)
  · rw [show (e != 0) = true by simpa using he, bif_t, same, bif_t]
  match A, hA, B, hB with
  | [a1], _, [b1], _ =>
    rw [show ((0 : Int) != 0) = false from rfl, bif_f, way, way, give4_ok n a b c false false (moveS S i j s) (moveT T i j) hn (good.moved ok) th p' q' p q [b1] [a1] (by simp) (by simp) _ (mv_ok good ok) pB pA (mv_slot good ok sB) (mv_slot good ok sA), show ((0 : Int) == 0) = true from rfl, bif_t, moveS_back good ok, moveT_back (mv_fr good ok), same, bif_t]
end
set_option maxRecDepth 100000 in
theorem awake16 (ρ : Type) (K : Bool → Option ρ) : Q07 200 ρ K = K true := by kernel_rfl
theorem moves_L (a b c : Int) (x y z w : Bool) (S : List Slot) (T : List Thing) (hx : x = true → S = []) (hz : z = true → T = []) (th : Int) (p q : Bool) (A : List Int) (p' q' : Bool) (B : List Int) :
    L tab 5 [stateAV a b c x y z w S T, .i .i64 th, .lst p q 1 (encI A), .lst p' q' 1 (encI B)] = some ⟨.b true, [], []⟩ := by
  obtain ⟨r, h1, h2⟩ := Q06_ok 200 Res [stateAV a b c x y z w S T, .i .i64 th, .lst p q 1 (encI A), .lst p' q' 1 (encI B)] some ⟨.b true, [], []⟩
    (GiveMoves_true 200 a b c y w S T (Nat.le_refl _) awake16 x z hx hz th p q p' q' A B Res (fun w0 => some ⟨.b w0, [], []⟩))
  simp at h2; subst h2; exact h1
end Go.Rv
