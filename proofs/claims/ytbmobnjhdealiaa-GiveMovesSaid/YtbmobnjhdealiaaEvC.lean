/-
What a statement's input reads as, told in the evaluator's values.
-/
import Derived.Test.YtbmobnjhdealiaaEvB
import Derived.ProofKit
import Derived.OpenShut
import Derived.Below
namespace Go.Rv
def plainFs (P : Program) (pl : TypeId → Bool) : List Field → Nat → Option Nat
  | [], o => some o
  | f :: r, o => if f.offset = o ∧ pl f.type = true then plainFs P pl r (o + P.cellsOf f.type) else none
def plainT (P : Program) : Nat → Bool → TypeId → Bool
  | 0, _, _ => false
  | n + 1, sl, t => match P.underlying t with
    | some .bool => true
    | some (.int _) => true
    | some .string => true
    | some (.slice e) => sl && plainT P n false e && decide (0 < P.cellsOf e)
    | some (.struct fs) => plainFs P (plainT P n sl) fs.toList 0 == some (P.cellsOf t)
    | some (.array m e) => plainT P n sl e && m * P.cellsOf e == P.cellsOf t
    | _ => false
def TyFs (P : Program) (ty : TypeId → List AV → Prop) : List Field → List AV → Prop
  | [], l => l = []
  | f :: r, l => ∃ a b, l = a ++ b ∧ ty f.type a ∧ TyFs P ty r b
def TyEs (ty : List AV → Prop) : Nat → List AV → Prop
  | 0, l => l = []
  | n + 1, l => ∃ a b, l = a ++ b ∧ ty a ∧ TyEs ty n b
def TyAV (P : Program) : Nat → TypeId → List AV → Prop
  | 0, _, _ => False
  | n + 1, t, l => match P.underlying t with
    | some .bool => ∃ x, l = [.b x]
    | some (.int k) => ∃ m, l = [.i k m] ∧ (Lit.int k m).wf = true
    | some .string => ∃ s : List UInt8, l = [.s s]
    | some (.slice e) => ∃ nl ti xs, l = [.lst nl ti (P.cellsOf e) xs] ∧ (nl = true → xs = []) ∧ xs.length ≤ maxLen ∧ ∀ x ∈ xs, TyAV P n e x
    | some (.struct fs) => TyFs P (TyAV P n) fs.toList l
    | some (.array m e) => TyEs (TyAV P n e) m l
    | _ => False
def RL (σ : Num) (im : Nat → Prop) (h : Array Obj) (l : List AV) (cs : List Value) : Prop :=
  l.length = cs.length ∧ ∀ (j : Nat) (c : AV) (v : Value), l[j]? = some c → cs[j]? = some v → VI σ im h c v ∧ v.oneCell' = true
theorem RL.one {σ : Num} {im : Nat → Prop} {h : Array Obj} {c : AV} {v : Value} (r : VI σ im h c v) (h1 : v.oneCell' = true) : RL σ im h [c] [v] :=
  ⟨rfl, fun j c' v' hj hv => by
    cases j with
    | zero => simp at hj hv; subst hj hv; exact ⟨r, h1⟩
    | succ j => simp at hj⟩
theorem RL.nil {σ : Num} {im : Nat → Prop} {h : Array Obj} : RL σ im h [] [] := ⟨rfl, fun j c v hj => by simp at hj⟩
theorem RL.app {σ : Num} {im : Nat → Prop} {h : Array Obj} {a b : List AV} {c d : List Value} (r : RL σ im h a c) (s : RL σ im h b d) : RL σ im h (a ++ b) (c ++ d) := by
  refine ⟨by simp [r.1, s.1], fun j x v hj hv => ?_⟩
  by_cases hlt : j < a.length
  · rw [List.getElem?_append_left hlt] at hj
    rw [List.getElem?_append_left (by rw [← r.1]; exact hlt)] at hv
    exact r.2 j x v hj hv
  · rw [List.getElem?_append_right (by omega)] at hj
    rw [List.getElem?_append_right (by rw [← r.1]; omega), ← r.1] at hv
    exact s.2 _ x v hj hv
theorem choose_list {α : Type} {p : Nat → α → Prop} : ∀ n : Nat, (∀ i, i < n → ∃ y, p i y) → ∃ l : List α, l.length = n ∧ ∀ i y, l[i]? = some y → p i y
  | 0, _ => ⟨[], rfl, fun i y h => by simp at h⟩
  | n + 1, h => by
    obtain ⟨l, h1, h2⟩ := choose_list n fun i hi => h i (by omega)
    obtain ⟨y, hy⟩ := h n (by omega)
    refine ⟨l ++ [y], by simp [h1], fun i z hz => ?_⟩
    by_cases hlt : i < n
    · rw [List.getElem?_append_left (by omega)] at hz; exact h2 i z hz
    · have : i = n := by
        have := (List.getElem?_eq_some_iff.1 hz).1
        simp [h1] at this; omega
      subst this
      rw [List.getElem?_append_right (by omega)] at hz
      simp [h1] at hz; subst hz; exact hy
section
variable {H : Type} {enc : TypeId × Value → H} {P : Program} {w : World} {base : Nat} {spare : Nat → Bool} {held : Bool} {σ : Num}
theorem cells?_get {a : Addr} {n : Nat} {cs : List Value} (h : w.cells? base a n = some cs) : cs.length = n ∧ ∀ j, j < n → w.cell? (a.add j) = cs[j]? := by
  unfold World.cells? at h
  split at h
  case isFalse => cases h
  exact ⟨by simpa using mapM_some_length h, fun j hj => mapM_some_get h j j (by simp [hj])⟩
theorem read_ok : ∀ (n : Nat) (sl : Bool) (t : TypeId), plainT P n sl t = true → ∀ (fuel : Nat) (cs : List Value) (x : DataW H × List MemPlace), DataW.trod enc P w base spare held fuel t cs = some x →
    (sl = true → ∀ v ∈ cs, ∀ a l c, v = .slice (some a) l c → a.spot = none) → ∃ l, RL σ (· < w.heap.size) w.heap l cs ∧ TyAV P n t l
  | 0, _, _, h, _, _, _, _, _ => by cases h
  | n + 1, sl, t, hp, fuel, cs, x, h, hs => by
    simp only [plainT] at hp
    simp only [TyAV]
    split at hp
    · rename_i ht
      obtain ⟨b, rfl, _⟩ := DataW.trod_bool ht h
      exact ⟨[.b b], RL.one .b rfl, b, rfl⟩
    · rename_i k ht
      obtain ⟨m, rfl, _, hw⟩ := DataW.trod_int ht h
      exact ⟨[.i k m], RL.one .i rfl, m, rfl, hw⟩
    · rename_i ht
      obtain ⟨s, rfl, _⟩ := DataW.trod_string ht h
      exact ⟨[.s s.data.toList], RL.one (.s rfl) rfl, _, rfl⟩
    · rename_i e ht
      simp only [Bool.and_eq_true, decide_eq_true_eq] at hp
      obtain ⟨⟨rfl, hpe⟩, h0⟩ := hp
      rcases DataW.trod_slice ht h with ⟨rfl, _⟩ | ⟨a, len, cap, elems, rest, m, _, rfl, _, hb, hlc, hcm, hel, hget, _⟩
      · exact ⟨[.lst true true (P.cellsOf e) []], RL.one .nil rfl, true, true, [], rfl, fun _ => rfl, by simp, by simp⟩
      · have hsp := hs rfl _ (List.mem_singleton.2 rfl) a len cap rfl
        obtain ⟨b, off, sp⟩ := a
        simp only at hsp; subst hsp
        obtain ⟨xs, hxl, hxs⟩ := choose_list (p := fun i y => ∃ cs, w.cells? base ((⟨b, off, none⟩ : Addr).add (i * P.cellsOf e)) (P.cellsOf e) = some cs ∧ RL σ (· < w.heap.size) w.heap y cs ∧ TyAV P n e y) len (fun i hi => by
          have hg := hget i hi
          rw [List.getElem?_eq_getElem (by omega), Option.bind_eq_some_iff] at hg
          obtain ⟨ci, h1, h2⟩ := hg
          obtain ⟨y, h3, h4⟩ := read_ok n false e hpe m ci _ h2 (fun h => by cases h)
          exact ⟨y, ci, h1, h3, h4⟩)
        have hcell : ∀ (x : Nat) (el : List AV) (o : Nat), xs[x]? = some el → o < P.cellsOf e → ∃ v, hcell w.heap b (off + (x * P.cellsOf e + o)) = some v ∧ v.oneCell' = true ∧ ∀ c, el[o]? = some c → VI σ (· < w.heap.size) w.heap c v := by
          intro x el o hx ho
          obtain ⟨ci, h1, h2, _⟩ := hxs x el hx
          obtain ⟨h3, h4⟩ := cells?_get h1
          have h5 := h4 o ho
          rw [addr_add, addr_add, cell?_eq, List.getElem?_eq_getElem (by omega)] at h5
          have hlo : o < el.length := by rw [h2.1, h3]; exact ho
          have hci : o < ci.length := by rw [h3]; exact ho
          refine ⟨ci[o], by rw [← Nat.add_assoc]; exact h5, (h2.2 o _ _ (List.getElem?_eq_getElem hlo) (List.getElem?_eq_getElem hci)).2, fun c hc => ?_⟩
          exact (h2.2 o c _ hc (List.getElem?_eq_getElem hci)).1
        have hlen : ∀ (x : Nat) (el : List AV), xs[x]? = some el → el.length = P.cellsOf e := by
          intro x el hx
          obtain ⟨ci, h1, h2, _⟩ := hxs x el hx
          exact h2.1.trans (cells?_get h1).1
        have hvi : VI σ (· < w.heap.size) w.heap (.lst false false (P.cellsOf e) xs) (.slice (some ⟨b, off, none⟩) xs.length cap) := by
          refine VI.lst ?_ hlen ?_ ?_ (by omega) (by intro h; cases h)
          · intro hne
            obtain ⟨el, r, rfl⟩ : ∃ el r, xs = el :: r := by
              cases xs with
              | nil => exact absurd rfl hne
              | cons el r => exact ⟨el, r, rfl⟩
            obtain ⟨v, hv, _⟩ := hcell 0 el 0 rfl h0
            unfold Rv.hcell at hv
            split at hv
            · rename_i hq; exact (Array.getElem?_eq_some_iff.1 hq).1
            · cases hv
          · intro x o hx ho
            obtain ⟨v, h1, h2, _⟩ := hcell x _ o (List.getElem?_eq_getElem hx) ho
            exact ⟨v, h1, h2⟩
          · intro x el o c v hx hc hv
            have ho : o < P.cellsOf e := by rw [← hlen x el hx]; exact (List.getElem?_eq_some_iff.1 hc).1
            obtain ⟨v', h1, _, h3⟩ := hcell x el o hx ho
            rw [h1] at hv; cases hv
            exact h3 c hc
        rw [hxl] at hvi
        refine ⟨[.lst false false (P.cellsOf e) xs], RL.one hvi rfl, false, false, xs, rfl, (by intro h; cases h), by omega, fun y hy => ?_⟩
        · obtain ⟨i, hi⟩ := List.mem_iff_getElem?.1 hy
          obtain ⟨_, _, _, h⟩ := hxs i y hi
          exact h
    · rename_i fs ht
      obtain ⟨xs, m, _, _, hl, hxl, hf⟩ := DataW.trod_struct ht h
      simp only [beq_iff_eq] at hp
      have key : ∀ (r : List Field) (o e : Nat), plainFs P (plainT P n sl) r o = some e → (∀ f ∈ r, ∃ y, DataW.trod enc P w base spare held m f.type ((cs.drop f.offset).take (P.cellsOf f.type)) = some y) → e ≤ cs.length →
          o ≤ e ∧ ∃ l, RL σ (· < w.heap.size) w.heap l ((cs.drop o).take (e - o)) ∧ TyFs P (TyAV P n) r l := by
        intro r
        induction r with
        | nil =>
          intro o e h1 _ _
          simp [plainFs] at h1; subst h1
          refine ⟨Nat.le_refl _, [], ?_, rfl⟩
          simp; exact RL.nil
        | cons f r ih =>
          intro o e h1 h2 h3
          simp only [plainFs] at h1
          split at h1
          case isFalse => cases h1
          rename_i hfo
          obtain ⟨hoff, hpf⟩ := hfo
          obtain ⟨hle, l2, q1, q2⟩ := ih _ _ h1 (fun g hg => h2 g (by simp [hg])) h3
          obtain ⟨y, hy⟩ := h2 f (by simp)
          obtain ⟨l1, p1, p2⟩ := read_ok n sl f.type hpf m _ _ hy (fun hsl v hv => hs hsl v (List.mem_of_mem_drop (List.mem_of_mem_take hv)))
          refine ⟨by omega, l1 ++ l2, ?_, l1, l2, rfl, p2, q2⟩
          have : (cs.drop o).take (e - o) = (cs.drop f.offset).take (P.cellsOf f.type) ++ (cs.drop (o + P.cellsOf f.type)).take (e - (o + P.cellsOf f.type)) := by
            rw [hoff, show e - o = P.cellsOf f.type + (e - (o + P.cellsOf f.type)) by omega, List.take_add, List.drop_drop]
          rw [this]; exact p1.app q1
      obtain ⟨_, l, h1, h2⟩ := key fs.toList 0 _ hp (fun f hm => by
        obtain ⟨i, hi⟩ := List.mem_iff_getElem?.1 hm
        have hi' : fs[i]? = some f := by simpa using hi
        have := hf i f hi'
        rw [List.getElem?_eq_getElem (by rw [hxl]; exact (Array.getElem?_eq_some_iff.1 hi').1)] at this
        exact ⟨_, this⟩) (by omega)
      refine ⟨l, ?_, h2⟩
      rw [← hl] at h1
      simpa using h1
    · rename_i k e ht
      simp only [Bool.and_eq_true, beq_iff_eq] at hp
      obtain ⟨hpe, hsz⟩ := hp
      obtain ⟨xs, m, _, _, hl, hxl, hf⟩ := DataW.trod_array ht h
      have key : ∀ (j : Nat), j ≤ k → ∃ l, RL σ (· < w.heap.size) w.heap l (cs.drop ((k - j) * P.cellsOf e)) ∧ TyEs (TyAV P n e) j l := by
        intro j
        induction j with
        | zero =>
          intro _
          refine ⟨[], ?_, rfl⟩
          rw [List.drop_eq_nil_of_le (by rw [hl, ← hsz]; simp)]; exact RL.nil
        | succ j ih =>
          intro hj
          obtain ⟨l2, q1, q2⟩ := ih (by omega)
          have hg := hf (k - (j + 1)) (by omega)
          rw [List.getElem?_eq_getElem (by omega)] at hg
          obtain ⟨l1, p1, p2⟩ := read_ok n sl e hpe m _ _ hg (fun hsl v hv => hs hsl v (List.mem_of_mem_drop (List.mem_of_mem_take hv)))
          refine ⟨l1 ++ l2, ?_, l1, l2, rfl, p2, q2⟩
          have : cs.drop ((k - (j + 1)) * P.cellsOf e) = (cs.drop ((k - (j + 1)) * P.cellsOf e)).take (P.cellsOf e) ++ cs.drop ((k - j) * P.cellsOf e) := by
            rw [show (k - j) * P.cellsOf e = (k - (j + 1)) * P.cellsOf e + P.cellsOf e by rw [show k - j = (k - (j + 1)) + 1 by omega, Nat.add_mul, Nat.one_mul]]
            rw [← List.drop_drop, List.take_append_drop]
          rw [this]; exact p1.app q1
      obtain ⟨l, h1, h2⟩ := key k (Nat.le_refl _)
      refine ⟨l, ?_, h2⟩
      simpa using h1
    · cases hp
end
end Go.Rv
namespace Go.Rv
open Go.RowKit
section
variable {P : Program} {σ : Num}
theorem lentB_vi {im : Nat → Prop} {h : Array Obj} : ∀ (args : List AV) (cargs : List Value), (∀ (j : Nat) (x : AV) (v : Value), args[j]? = some x → cargs[j]? = some v → VI σ im h x v) → lentB args cargs = []
  | [], cs, _ => by cases cs <;> rfl
  | x :: r, [], _ => by cases x <;> rfl
  | x :: r, v :: s, hr => by
    rw [lentB_ne ((hr 0 x v rfl rfl).not_mv)]
    exact lentB_vi r s fun j y u a b => hr (j + 1) y u (by simpa using a) (by simpa using b)
theorem law_walk (hm : P.follows .mixedOrders = true) (hσ : SigOK P σ) {T : Tab} (hT : TabOK P σ T) {n k g : Nat} (hk : σ k = some g) {args : List AV} {r : Res} (he : evF T n g args = some r) (hv : r.v = .b true)
    {w : World} {cargs : List Value} (hl : args.length = cargs.length) (hr : ∀ (j : Nat) (x : AV) (v : Value), args[j]? = some x → cargs[j]? = some v → VI σ (· < w.heap.size) w.heap x v) :
    Calls P k cargs.toArray w fun e w' => e = .returned (.bool true) ∧ Below w.heap.size w w' := by
  have h := fun_ok hm hσ hT n k g args r hk he (· < w.heap.size) w cargs hl (fun j x v a b => .vi (hr j x v a b)) (fun _ h => h) (by rw [lentB_vi args cargs hr]; exact List.nodup_nil)
  refine h.mono ?_
  rintro e w' ⟨cv, im', own', rfl, _, _, _, hk, _, _, _, hvr, _, _⟩
  rw [hv] at hvr
  rw [hvr.b_inv]
  exact ⟨rfl, hk.os, hk.tape, hk.output, hk.size, fun i hi => hk.block i hi (by rw [lentB_vi args cargs hr]; simp)⟩
def TyArg (P : Program) (n : Nat) (t : TypeId) (x : AV) : Prop :=
  match P.underlying t with
  | some (.struct _) | some (.array _ _) => ∃ l, x = .agg l ∧ TyAV P n t l
  | _ => TyAV P n t [x]
theorem spot_of {w : World} {r : Reach} {b0 : Nat} {u : TypeId} {a : Addr} {l c : Nat} (h : Cell.okWide P w r b0 u (.slice (some a) l c)) : a.spot = none := by
  unfold Cell.okWide at h
  split at h
  all_goals first
    | (rename_i heq; cases heq; done)
    | (unfold Cell.ok at h; split at h <;> first | (rename_i heq; cases heq; done) | (rename_i heq; cases heq; exact h.2.2.2.1) | exact h.elim)
theorem arg_ok {H : Type} {enc : TypeId × Value → H} {w : World} {base b0 : Nat} {spare : Nat → Bool} {held : Bool} {r : Reach} {n : Nat} {t : TypeId} (hp : plainT P n true t = true) {v : Value} {d : DataW H} {ps : List MemPlace}
    (hval : Value.okWide P w r b0 t v) (hd : DataW.Trod enc P w base spare held t v d ps) : ∃ x, VI σ (· < w.heap.size) w.heap x v ∧ TyArg P n t x := by
  obtain ⟨fuel, hf⟩ := hd
  unfold Value.okWide at hval
  unfold TyArg
  split at hval
  · rename_i fs ht
    obtain ⟨cs, rfl, hsz, ts, _, _, hc⟩ := hval
    obtain ⟨l, h1, h2⟩ := read_ok (σ := σ) n true t hp fuel _ _ hf (fun _ u hu a l c e => by
      subst e
      obtain ⟨i, hi⟩ := List.mem_iff_getElem?.1 hu
      obtain ⟨u', _, h⟩ := hc i _ (by simpa [Value.cells] using hi)
      exact spot_of h)
    rw [ht]
    refine ⟨.agg l, .agg (by simpa [Value.cells] using h1.1) (fun j u hu => ?_) (fun j c u hc' hu => (h1.2 j c u hc' (by simpa [Value.cells] using hu)).1), l, rfl, h2⟩
    have hjl : j < l.length := by rw [h1.1]; simpa [Value.cells] using (Array.getElem?_eq_some_iff.1 hu).1
    exact (h1.2 j _ u (List.getElem?_eq_getElem hjl) (by simpa [Value.cells] using hu)).2
  · rename_i k e ht
    obtain ⟨cs, rfl, hsz, ts, _, _, hc⟩ := hval
    obtain ⟨l, h1, h2⟩ := read_ok (σ := σ) n true t hp fuel _ _ hf (fun _ u hu a l c e => by
      subst e
      obtain ⟨i, hi⟩ := List.mem_iff_getElem?.1 hu
      obtain ⟨u', _, h⟩ := hc i _ (by simpa [Value.cells] using hi)
      exact spot_of h)
    rw [ht]
    refine ⟨.agg l, .agg (by simpa [Value.cells] using h1.1) (fun j u hu => ?_) (fun j c u hc' hu => (h1.2 j c u hc' (by simpa [Value.cells] using hu)).1), l, rfl, h2⟩
    have hjl : j < l.length := by rw [h1.1]; simpa [Value.cells] using (Array.getElem?_eq_some_iff.1 hu).1
    exact (h1.2 j _ u (List.getElem?_eq_getElem hjl) (by simpa [Value.cells] using hu)).2
  · rename_i h1 h2
    have hcells : v.cells = #[v] := by
      cases v <;> first | rfl | (exfalso; unfold Cell.okWide at hval; split at hval <;> first | (rename_i heq; cases heq; done) | (unfold Cell.ok at hval; split at hval <;> first | (rename_i heq; cases heq; done) | exact hval.elim))
    rw [hcells] at hf
    obtain ⟨l, h3, h4⟩ := read_ok (σ := σ) n true t hp fuel [v] _ hf (fun _ u hu a l c e => by
      simp at hu; subst hu; subst e
      exact spot_of hval)
    obtain ⟨x, rfl⟩ : ∃ x, l = [x] := by
      have := h3.1
      cases l with
      | nil => simp at this
      | cons x r => cases r with
        | nil => exact ⟨x, rfl⟩
        | cons => simp at this
    refine ⟨x, (h3.2 0 x v rfl rfl).1, ?_⟩
    split
    · rename_i fs ht; exact absurd ht (h1 fs)
    · rename_i k e ht; exact absurd ht (h2 k e)
    · exact h4
end
end Go.Rv
namespace Go.Rv
open Classical in
noncomputable def limO {α : Type} (f : Nat → Option α) : Option α := if h : ∃ r, ∃ n, f n = some r then some h.choose else none
theorem limO_some {α : Type} {f : Nat → Option α} (hm : ∀ n m r, n ≤ m → f n = some r → f m = some r) {n : Nat} {r : α} (h : f n = some r) : limO f = some r := by
  unfold limO
  have hex : ∃ r, ∃ n, f n = some r := ⟨r, n, h⟩
  rw [dif_pos hex]
  obtain ⟨m, hm'⟩ := hex.choose_spec
  have h1 := hm n (max n m) r (Nat.le_max_left _ _) h
  have h2 := hm m (max n m) _ (Nat.le_max_right _ _) hm'
  rw [h1] at h2; exact h2.symm
theorem limO_inv {α : Type} {f : Nat → Option α} {r : α} (h : limO f = some r) : ∃ n, f n = some r := by
  unfold limO at h
  split at h
  · rename_i hex
    simp at h; subst h
    exact hex.choose_spec
  · cases h
noncomputable def L (T : Tab) : CallF := fun f args => limO fun n => evF T n f args
theorem L_of {T : Tab} {n f : Nat} {args : List AV} {r : Res} (h : evF T n f args = some r) : L T f args = some r :=
  limO_some (fun _ _ _ hnm h => evF_le T hnm _ _ _ h) h
theorem L_inv {T : Tab} {f : Nat} {args : List AV} {r : Res} (h : L T f args = some r) : ∃ n, evF T n f args = some r := limO_inv h
inductive Rounds (step : St → Option (Ex × St)) (pre : St → St) : St → Ex × St → Prop
  | stop {st : St} {ex : Ex} {st' : St} : step (pre st) = some (ex, st') → ex ≠ .nrm → Rounds step pre st (ex, st')
  | more {st st1 : St} {y : Ex × St} : step (pre st) = some (.nrm, st1) → Rounds step pre st1 y → Rounds step pre st y
open Classical in
noncomputable def iterL (step : St → Option (Ex × St)) (pre : St → St) (st : St) : Option (Ex × St) :=
  if h : ∃ y, Rounds step pre st y then some h.choose else none
theorem Rounds.unique {step : St → Option (Ex × St)} {pre : St → St} {st : St} {y z : Ex × St} (a : Rounds step pre st y) (b : Rounds step pre st z) : y = z := by
  induction a generalizing z with
  | stop h hn =>
    cases b with
    | stop h' _ => rw [h] at h'; simpa using h'
    | more h' _ => rw [h] at h'; simp at h'; exact absurd h'.1 hn
  | more h _ ih =>
    cases b with
    | stop h' hn => rw [h] at h'; simp at h'; exact absurd h'.1.symm hn
    | more h' r => rw [h] at h'; simp at h'; subst h'; exact ih r
theorem iterL_of {step : St → Option (Ex × St)} {pre : St → St} {st : St} {y : Ex × St} (h : Rounds step pre st y) : iterL step pre st = some y := by
  unfold iterL
  have hex : ∃ y, Rounds step pre st y := ⟨y, h⟩
  rw [dif_pos hex, hex.choose_spec.unique h]
theorem iterL_inv {step : St → Option (Ex × St)} {pre : St → St} {st : St} {y : Ex × St} (h : iterL step pre st = some y) : Rounds step pre st y := by
  unfold iterL at h
  split at h
  · rename_i hex
    simp at h; subst h
    exact hex.choose_spec
  · cases h
noncomputable def evL (call : CallF) : MC → St → Option (Ex × St)
  | .skip, st => some (.nrm, st)
  | .reg ops draw kill, st => match (if draw then evDraw call ops st else evOps call ops st) with
    | some st => some (.nrm, ⟨st.fr.drop kill, st.loc⟩)
    | none => none
  | .seq a b, st => match evL call a st with
    | some (.nrm, st) => evL call b st
    | r => r
  | .cond c a b, st => match ev1 st.fr c with
    | .b t => if t then evL call a st else evL call b st
    | _ => none
  | .block id c, st => match evL call c st with
    | some (.exit j, st) => if j = id then some (.nrm, st) else some (.exit j, st)
    | r => r
  | .loop _ live out c, st => match iterL (evL call c) (compact st.loc.length live) st with
    | some (ex, st') => some (ex, compact st.loc.length out st')
    | none => none
  | .exit id, st => some (.exit id, st)
  | .ret, st => some (.ret, st)
  | .bad, _ => none
section
variable {T : Tab} {fr : Fr} {loc : Loc}
theorem doCall_lim {f : Nat} {args : List AV} {x : AV × Loc} (e : doCall (L T) loc f args = some x) : ∃ n, doCall (evF T n) loc f args = some x := by
  unfold doCall at e
  split at e
  case h_1 => cases e
  rename_i fargs hf
  split at e
  case h_1 => cases e
  rename_i r hr
  obtain ⟨n, hn⟩ := L_inv hr
  refine ⟨n, ?_⟩
  unfold doCall
  simp only [hf, hn]
  exact e
theorem evOp_lim (i : I) {x : AV × Loc} (e : evOp (L T) fr loc i = some x) : ∃ n, evOp (evF T n) fr loc i = some x := by
  cases i
  case call f l => exact doCall_lim e
  case callv f l =>
    simp only [evOp] at e ⊢
    split at e
    · rename_i g caps hg
      exact doCall_lim e
    · cases e
  all_goals exact ⟨0, e⟩
theorem evF_le_L (T : Tab) (n : Nat) : (evF T n).le (L T) := fun _ _ _ h => L_of h
theorem evMO_lim {o : MO} {st st' : St} (e : evMO (L T) o st = some st') : ∃ n, evMO (evF T n) o st = some st' := by
  unfold evMO at e
  split at e
  · rename_i hg
    split at e
    case h_2 => cases e
    rename_i v l hv
    obtain ⟨n, hn⟩ := evOp_lim _ hv
    refine ⟨n, ?_⟩
    unfold evMO
    simp only [hg, hn]; exact e
  · rename_i g want hg
    split at e
    · rename_i t ht
      split at e
      · rename_i htw
        split at e
        case h_2 => cases e
        rename_i v l hv
        obtain ⟨n, hn⟩ := evOp_lim _ hv
        refine ⟨n, ?_⟩
        unfold evMO
        simp only [hg, ht, htw, if_true, hn]; exact e
      · rename_i htw
        refine ⟨0, ?_⟩
        unfold evMO
        simp only [hg, ht, htw, if_false]; exact e
    · rename_i ht
      refine ⟨0, ?_⟩
      unfold evMO
      simp only [hg, ht]; exact e
    · cases e
theorem evOps_lim : ∀ (l : List MO) {st st' : St}, evOps (L T) l st = some st' → ∃ n, evOps (evF T n) l st = some st'
  | [], _, _, e => ⟨0, e⟩
  | o :: r, st, st', e => by
    simp only [evOps] at e
    split at e
    case h_2 => cases e
    rename_i st1 h1
    obtain ⟨n, hn⟩ := evMO_lim h1
    obtain ⟨m, hm⟩ := evOps_lim r e
    refine ⟨max n m, ?_⟩
    simp only [evOps]
    rw [(evMO_mono (evF_le T (Nat.le_max_left n m)) hn).1]
    exact evOps_mono (evF_le T (Nat.le_max_right n m)) r hm
theorem evFeet_lim : ∀ (l : List MO) {st : St} {x : St × List Foot}, evFeet (L T) l st = some x → ∃ n, evFeet (evF T n) l st = some x
  | [], _, _, e => ⟨0, e⟩
  | o :: r, st, x, e => by
    simp only [evFeet] at e
    split at e
    case h_2 => cases e
    rename_i st1 h1
    split at e
    case h_2 => cases e
    rename_i st2 fs h2
    obtain ⟨n, hn⟩ := evMO_lim h1
    obtain ⟨m, hm⟩ := evFeet_lim r h2
    refine ⟨max n m, ?_⟩
    simp only [evFeet]
    obtain ⟨k1, _⟩ := evMO_mono (evF_le T (Nat.le_max_left n m)) hn
    obtain ⟨_, k2⟩ := evMO_mono (evF_le_L T n) hn
    obtain ⟨_, k3⟩ := evMO_mono (evF_le T (Nat.le_max_left n m)) hn
    simp only [k1, evFeet_mono (evF_le T (Nat.le_max_right n m)) r hm]
    rw [k3, ← k2]; exact e
theorem evDraw_lim {l : List MO} {st st' : St} (e : evDraw (L T) l st = some st') : ∃ n, evDraw (evF T n) l st = some st' := by
  unfold evDraw at e
  split at e
  case h_2 => cases e
  rename_i st1 fs h1
  obtain ⟨n, hn⟩ := evFeet_lim l h1
  refine ⟨n, ?_⟩
  unfold evDraw
  rw [hn]; exact e
theorem rounds_lim {s : St → Option (Ex × St)} {t : Nat → St → Option (Ex × St)} (hmono : ∀ n m st x, n ≤ m → t n st = some x → t m st = some x) (h : ∀ st x, s st = some x → ∃ n, t n st = some x) (pre : St → St) {st : St} {y : Ex × St}
    (r : Rounds s pre st y) : ∃ n, ∀ m, n ≤ m → iter (t m) pre m st = some y := by
  induction r with
  | stop h1 hn =>
    obtain ⟨n, hn'⟩ := h _ _ h1
    refine ⟨n + 1, fun m hm => ?_⟩
    obtain ⟨k, rfl⟩ : ∃ k, m = k + 1 := ⟨m - 1, by omega⟩
    simp only [iter]
    rw [hmono n (k + 1) _ _ (by omega) hn']
    split
    · rename_i st1 heq
      simp at heq; exact absurd heq.1 hn
    · rfl
  | more h1 _ ih =>
    obtain ⟨n, hn'⟩ := h _ _ h1
    obtain ⟨k, hk⟩ := ih
    refine ⟨max n k + 1, fun m hm => ?_⟩
    obtain ⟨j, rfl⟩ : ∃ j, m = j + 1 := ⟨m - 1, by omega⟩
    simp only [iter]
    rw [hmono n (j + 1) _ _ (by omega) hn']
    have := hk j (by omega)
    simp only
    exact iter_mono (fun st x hx => hmono j (j + 1) st x (by omega) hx) pre j j (Nat.le_refl _) this
theorem evL_lim : ∀ (x : MC) {st : St} {y : Ex × St}, evL (L T) x st = some y → ∃ n, ∀ m, n ≤ m → evC (evF T m) m x st = some y
  | .skip, _, _, e => ⟨0, fun _ _ => e⟩
  | .ret, _, _, e => ⟨0, fun _ _ => e⟩
  | .exit _, _, _, e => ⟨0, fun _ _ => e⟩
  | .bad, _, _, e => by cases e
  | .reg ops draw kill, st, y, e => by
    simp only [evL] at e
    cases draw with
    | true =>
      simp only [if_true] at e
      split at e
      case h_2 => cases e
      rename_i st1 h1
      obtain ⟨n, hn⟩ := evDraw_lim h1
      refine ⟨n, fun m hm => ?_⟩
      simp only [evC, if_true]
      rw [evDraw_mono (evF_le T hm) hn]; exact e
    | false =>
      simp only [Bool.false_eq_true, if_false] at e
      split at e
      case h_2 => cases e
      rename_i st1 h1
      obtain ⟨n, hn⟩ := evOps_lim _ h1
      refine ⟨n, fun m hm => ?_⟩
      simp only [evC, Bool.false_eq_true, if_false]
      rw [evOps_mono (evF_le T hm) _ hn]; exact e
  | .seq a b, st, y, e => by
    simp only [evL] at e
    split at e
    · rename_i st1 h1
      obtain ⟨n, hn⟩ := evL_lim a h1
      obtain ⟨k, hk⟩ := evL_lim b e
      refine ⟨max n k, fun m hm => ?_⟩
      simp only [evC]
      rw [hn m (by omega)]
      exact hk m (by omega)
    · rename_i hne
      obtain ⟨n, hn⟩ := evL_lim a e
      refine ⟨n, fun m hm => ?_⟩
      simp only [evC]
      rw [hn m hm]
      split
      · rename_i st1 heq
        exact absurd (e.trans heq) (hne st1)
      · rfl
  | .cond a x z, st, y, e => by
    simp only [evL] at e
    split at e
    case h_2 => cases e
    rename_i t ht
    split at e
    · rename_i htt
      obtain ⟨n, hn⟩ := evL_lim x e
      exact ⟨n, fun m hm => by simp only [evC, ht, htt, if_true]; exact hn m hm⟩
    · rename_i htt
      obtain ⟨n, hn⟩ := evL_lim z e
      refine ⟨n, fun m hm => ?_⟩
      simp only [Bool.not_eq_true] at htt
      simp only [evC, ht, htt]; exact hn m hm
  | .block id x, st, y, e => by
    simp only [evL] at e
    split at e
    · rename_i j st1 h1
      obtain ⟨n, hn⟩ := evL_lim x h1
      exact ⟨n, fun m hm => by simp only [evC]; rw [hn m hm]; exact e⟩
    · rename_i hne
      obtain ⟨n, hn⟩ := evL_lim x e
      refine ⟨n, fun m hm => ?_⟩
      simp only [evC]
      rw [hn m hm]
      split
      · rename_i j st1 heq
        exact absurd (e.trans heq) (hne j st1)
      · rfl
  | .loop key live out x, st, y, e => by
    simp only [evL] at e
    split at e
    case h_2 => cases e
    rename_i ex1 st1 h1
    obtain ⟨n, hn⟩ := rounds_lim (t := fun m => evC (evF T m) m x) (fun n m st z hnm hz => evC_mono (evF_le T hnm) hnm x hz) (fun st z hz => by
      obtain ⟨n, hn⟩ := evL_lim x hz
      exact ⟨n, hn n (Nat.le_refl _)⟩) (compact st.loc.length live) (iterL_inv h1)
    exact ⟨n, fun m hm => by simp only [evC]; rw [hn m hm]; exact e⟩
noncomputable def runB (call : CallF) (np : Nat) (body : MC) (rs : List RV) (args : List AV) : Option Res :=
  if args.length = np then
    match evL call body ⟨(enter args 0 0).1, (enter args 0 0).2⟩ with
    | some (.exit _, _) => none
    | some (_, st) => leave (enter args 0 0).2.length st rs
    | none => none
  else none
theorem L_run {f np : Nat} {body : MC} {rs : List RV} (hT : T f = some (.code np body rs)) {args : List AV} {r : Res} (h : runB (L T) np body rs args = some r) : L T f args = some r := by
  unfold runB at h
  split at h
  case isFalse => cases h
  rename_i hl
  split at h
  · cases h
  · rename_i ex st hne hev
    obtain ⟨n, hn⟩ := evL_lim body hev
    refine L_of (n := n + 1) ?_
    simp only [evF, hT, hl, if_true]
    rw [hn n (Nat.le_refl _)]
    split
    · rename_i j st1 heq
      simp at heq; exact absurd heq.1 (hne j)
    · rename_i ex' st1 _ heq
      simp at heq; rw [← heq.2]; exact h
    · rename_i heq; cases heq
  · cases h
theorem L_law {f : Nat} {g : List AV → Option AV} (hT : T f = some (.law g)) {args : List AV} {v : AV} (h : g args = some v) : L T f args = some ⟨v, [], []⟩ := by
  refine L_of (n := 1) ?_
  simp only [evF, hT, h]
end
end Go.Rv
namespace Go.Rv
inductive Sh where
  | b
  | i (k : IntKind)
  deriving DecidableEq, Inhabited
section
variable {ρ : Type}
def splitB (v : AV) (K : AV → Option ρ) : Option ρ :=
  match v with
  | .b x => bif x then K (.b true) else K (.b false)
  | v => K v
theorem splitB_eq (v : AV) (K : AV → Option ρ) : splitB v K = K v := by
  cases v <;> try rfl
  rename_i x; cases x <;> rfl
def asI (k : IntKind) (v : AV) (K : Int → Option ρ) : Option ρ :=
  match v with
  | .i k' n => match k == k' with | true => K n | false => none
  | _ => none
def asB (v : AV) (K : Bool → Option ρ) : Option ρ :=
  match v with
  | .b x => K x
  | _ => none
def cellsK : List Sh → List AV → (List AV → Option ρ) → Option ρ
  | [], [], K => K []
  | .b :: s, v :: r, K => asB v fun x => cellsK s r fun l => K (.b x :: l)
  | .i k :: s, v :: r, K => asI k v fun n => cellsK s r fun l => K (.i k n :: l)
  | _, _, _ => none
theorem cellsK_le : ∀ (s : List Sh) (l : List AV) (K : List AV → Option ρ) {y : ρ}, cellsK s l K = some y → K l = some y
  | [], [], K, y, h => h
  | [], _ :: _, K, y, h => by cases h
  | .b :: s, [], K, y, h => by cases h
  | .i _ :: s, [], K, y, h => by cases h
  | .b :: s, v :: r, K, y, h => by
    simp only [cellsK, asB] at h
    split at h
    · exact cellsK_le s r (fun l => K (_ :: l)) h
    · cases h
  | .i k :: s, v :: r, K, y, h => by
    simp only [cellsK, asI] at h
    split at h
    · split at h
      · rename_i hk
        simp at hk; subst hk
        exact cellsK_le s r (fun l => K (_ :: l)) h
      · cases h
    · cases h
def hintK (h : Option (List Sh)) (e : List AV) (K : List AV → Option ρ) : Option ρ :=
  match h with
  | some s => cellsK s e K
  | none => K e
theorem hintK_le (h : Option (List Sh)) (e : List AV) (K : List AV → Option ρ) {y : ρ} (he : hintK h e K = some y) : K e = some y := by
  cases h with
  | none => exact he
  | some s => exact cellsK_le s e K he
def rowK (xs : List (List AV)) (ix : Int) (h : Option (List Sh)) (K : List AV → Option ρ) : Option ρ :=
  match decide (0 ≤ ix) with
  | true => match xs[ix.toNat]? with
    | some e => hintK h e K
    | none => none
  | false => none
def chk (t : Bool) (K : Option ρ) : Option ρ := match t with | true => K | false => none
theorem chk_le {t : Bool} {K : Option ρ} {y : ρ} (h : chk t K = some y) : t = true ∧ K = some y := by
  cases t with
  | true => exact ⟨rfl, h⟩
  | false => cases h
def evOpK (call : CallF) (h : Option (List Sh)) (fr : Fr) (loc : Loc) (i : I) (K : AV → Loc → Option ρ) : Option ρ :=
  match i with
  | .iaddr z x ix => match ev1 fr ix with
    | .i _ n => match ev1 fr x with
      | .lst _ _ z' xs => chk (z' == z) (rowK xs n h fun e => K (.ref e 0) loc)
      | .sl id m z' lo len => chk (z' == z && decide (0 ≤ n) && decide (n < len)) (K (.ptr id m z' (lo + n.toNat) 0) loc)
      | _ => none
    | _ => none
  | .load ag m a => match ev1 fr a with
    | .ptr id n _ x o => match loc[id]? with
      | some (.row _ _ _ xs) => chk (xs.length == n) (match xs[x]? with
        | some e => hintK h e fun e => chk (decide (o + m ≤ e.length)) (match pack ag ((e.drop o).take m) with | some v => K v loc | none => none)
        | none => none)
      | _ => none
    | .ref cs o => chk (decide (o + m ≤ cs.length)) (match pack ag ((cs.drop o).take m) with | some v => K v loc | none => none)
    | _ => none
  | i => match evOp call fr loc i with
    | some (v, loc) => K v loc
    | none => none
theorem evOpK_le {call : CallF} {h : Option (List Sh)} {fr : Fr} {loc : Loc} {i : I} {K : AV → Loc → Option ρ} {y : ρ} (e : evOpK call h fr loc i K = some y) :
    ∃ v loc', evOp call fr loc i = some (v, loc') ∧ K v loc' = some y := by
  unfold evOpK at e
  split at e
  · rename_i z x ix
    split at e
    case h_2 => cases e
    rename_i k n hn
    split at e
    · rename_i nl ti z' xs hx
      obtain ⟨hz, e⟩ := chk_le e
      unfold rowK at e
      split at e
      case h_2 => cases e
      rename_i h0
      split at e
      case h_2 => cases e
      rename_i el hel
      refine ⟨_, _, ?_, hintK_le _ _ _ e⟩
      simp only [evOp, hn, hx, iaddrV]
      rw [if_pos ⟨by simpa using hz, by simpa using h0⟩, hel]
    · rename_i id m z' lo len hx
      obtain ⟨hz, e⟩ := chk_le e
      simp only [Bool.and_eq_true, beq_iff_eq, decide_eq_true_eq] at hz
      refine ⟨_, _, ?_, e⟩
      simp only [evOp, hn, hx, iaddrV]
      rw [if_pos ⟨hz.1.1, hz.1.2, hz.2⟩]
    · cases e
  · rename_i ag m a
    split at e
    · rename_i id n z x o ha
      split at e
      case h_2 => cases e
      rename_i z2 p im xs hid
      obtain ⟨hl, e⟩ := chk_le e
      split at e
      case h_2 => cases e
      rename_i el hel
      have e := hintK_le _ _ _ e
      obtain ⟨hf, e⟩ := chk_le e
      split at e
      case h_2 => cases e
      rename_i v hv
      refine ⟨v, loc, ?_, e⟩
      simp only [evOp, ha, ldCells, hid]
      rw [if_pos (by simpa using hl), hel]
      simp only
      rw [if_pos (by simpa using hf)]
      simp only [hv]
    · rename_i cs o ha
      obtain ⟨hf, e⟩ := chk_le e
      split at e
      case h_2 => cases e
      rename_i v hv
      refine ⟨v, loc, ?_, e⟩
      simp only [evOp, ha, ldCells]
      rw [if_pos (by simpa using hf)]
      simp only [hv]
    · cases e
  · split at e
    case h_2 => cases e
    rename_i v loc' hv
    exact ⟨v, loc', hv, e⟩
abbrev Hints := Nat → Option (List Sh)
def evMOK (call : CallF) (hs : Hints) (o : MO) (st : St) (K : St → Option ρ) : Option ρ :=
  match o.guard with
  | none => evOpK call (o.dst.bind hs) st.fr st.loc o.op fun v loc => splitB v fun v => K ⟨putD st.fr o.dst v, loc⟩
  | some (g, want) => match st.fr.get g with
    | .b t => bif t == want then evOpK call (o.dst.bind hs) st.fr st.loc o.op fun v loc => splitB v fun v => K ⟨putD st.fr o.dst v, loc⟩
      else K ⟨putD st.fr o.dst (.tup []), st.loc⟩
    | .tup [] => K ⟨putD st.fr o.dst (.tup []), st.loc⟩
    | _ => none
theorem evMOK_le {call : CallF} {hs : Hints} {o : MO} {st : St} {K : St → Option ρ} {y : ρ} (e : evMOK call hs o st K = some y) : ∃ st', evMO call o st = some st' ∧ K st' = some y := by
  unfold evMOK at e
  unfold evMO
  split at e
  · rename_i hg
    obtain ⟨v, loc', h1, h2⟩ := evOpK_le e
    rw [splitB_eq] at h2
    simp only [hg, h1]
    exact ⟨_, rfl, h2⟩
  · rename_i g want hg
    simp only [hg]
    split at e
    · rename_i t ht
      simp only [ht]
      cases htw : t == want with
      | true =>
        rw [htw] at e
        simp only [cond_true] at e
        obtain ⟨v, loc', h1, h2⟩ := evOpK_le e
        rw [splitB_eq] at h2
        rw [if_pos (by simpa using htw), h1]
        exact ⟨_, rfl, h2⟩
      | false =>
        rw [htw] at e
        simp only [cond_false] at e
        rw [if_neg (by simpa using htw)]
        exact ⟨_, rfl, e⟩
    · rename_i ht
      simp only [ht]
      exact ⟨_, rfl, e⟩
    · cases e
def evOpsK (call : CallF) (hs : Hints) : List MO → St → (St → Option ρ) → Option ρ
  | [], st, K => K st
  | o :: r, st, K => evMOK call hs o st fun st => evOpsK call hs r st K
theorem evOpsK_le {call : CallF} {hs : Hints} : ∀ (l : List MO) {st : St} {K : St → Option ρ} {y : ρ}, evOpsK call hs l st K = some y → ∃ st', evOps call l st = some st' ∧ K st' = some y
  | [], st, K, y, e => ⟨st, rfl, e⟩
  | o :: r, st, K, y, e => by
    obtain ⟨st1, h1, h2⟩ := evMOK_le e
    obtain ⟨st2, h3, h4⟩ := evOpsK_le r h2
    exact ⟨st2, by simp only [evOps, h1]; exact h3, h4⟩
def evFeetK (call : CallF) (hs : Hints) : List MO → St → (St → List Foot → Option ρ) → Option ρ
  | [], st, K => K st []
  | o :: r, st, K => evMOK call hs o st fun st' => evFeetK call hs r st' fun st'' fs => K st'' (footMO call o st st' :: fs)
theorem evFeetK_le {call : CallF} {hs : Hints} : ∀ (l : List MO) {st : St} {K : St → List Foot → Option ρ} {y : ρ}, evFeetK call hs l st K = some y → ∃ st' fs, evFeet call l st = some (st', fs) ∧ K st' fs = some y
  | [], st, K, y, e => ⟨st, [], rfl, e⟩
  | o :: r, st, K, y, e => by
    obtain ⟨st1, h1, h2⟩ := evMOK_le e
    obtain ⟨st2, fs, h3, h4⟩ := evFeetK_le r h2
    exact ⟨st2, _, by simp only [evFeet, h1, h3], h4⟩
def evDrawK (call : CallF) (hs : Hints) (l : List MO) (st : St) (K : St → Option ρ) : Option ρ :=
  evFeetK call hs l st fun st' fs => chk (apartFeet l fs) (K st')
theorem evDrawK_le {call : CallF} {hs : Hints} {l : List MO} {st : St} {K : St → Option ρ} {y : ρ} (e : evDrawK call hs l st K = some y) : ∃ st', evDraw call l st = some st' ∧ K st' = some y := by
  obtain ⟨st', fs, h1, h2⟩ := evFeetK_le l e
  obtain ⟨h3, h4⟩ := chk_le h2
  exact ⟨st', by simp only [evDraw, h1, h3, if_true], h4⟩
def headOf (live : List Nat) (st : St) : St := ⟨live.map fun t => (t, st.fr.get t), st.loc⟩
theorem compact_self (live : List Nat) (st : St) : compact st.loc.length live st = headOf live st := by
  unfold compact headOf
  dsimp only
  rw [if_pos]
  unfold keep
  rw [List.filter_eq_self.2 fun j hj => by simp at hj; simp [hj]]
  simp
inductive LR (call : CallF) (live out : List Nat) (c : MC) (l0 : Nat) : St → Ex × St → Prop
  | stop {h st : St} {ex : Ex} : evL call c h = some (ex, st) → ex ≠ .nrm → LR call live out c l0 h (ex, compact l0 out st)
  | more {h st : St} {y : Ex × St} : evL call c h = some (.nrm, st) → LR call live out c l0 (compact l0 live st) y → LR call live out c l0 h y
theorem LR.rounds {call : CallF} {live out : List Nat} {c : MC} {l0 : Nat} {h : St} {y : Ex × St} (r : LR call live out c l0 h y) : ∀ st, compact l0 live st = h → ∃ st', Rounds (evL call c) (compact l0 live) st (y.1, st') ∧ y.2 = compact l0 out st' := by
  induction r with
  | stop h1 hn => exact fun st e => ⟨_, .stop (e ▸ h1) hn, rfl⟩
  | more h1 _ ih =>
    intro st e
    obtain ⟨st', h2, h3⟩ := ih _ rfl
    exact ⟨st', .more (e ▸ h1) h2, h3⟩
theorem LR.evL {call : CallF} {key : Nat} {live out : List Nat} {c : MC} {st : St} {y : Ex × St} (r : LR call live out c st.loc.length (headOf live st) y) : evL call (.loop key live out c) st = some y := by
  obtain ⟨st', h1, h2⟩ := r.rounds st (compact_self live st)
  simp only [Rv.evL]
  rw [iterL_of h1]
  simp only
  rw [← h2]
abbrev Loops := Nat → St → Option (Ex × St)
def loopsOf : MC → List (Nat × List Nat × List Nat × MC)
  | .seq a b => loopsOf a ++ loopsOf b
  | .cond _ a b => loopsOf a ++ loopsOf b
  | .block _ c => loopsOf c
  | .loop key live out c => [(key, live, out, c)]
  | _ => []
def LoopsOK (call : CallF) (lp : Loops) (c : MC) : Prop :=
  ∀ p ∈ loopsOf c, ∀ (h : St) (y : Ex × St), lp p.1 h = some y → LR call p.2.1 p.2.2.1 p.2.2.2 h.loc.length h y
def evK (call : CallF) (hs : Hints) (lp : Loops) : MC → St → (Ex → St → Option ρ) → Option ρ
  | .skip, st, K => K .nrm st
  | .reg ops draw kill, st, K => match draw with
    | true => evDrawK call hs ops st fun st => K .nrm ⟨st.fr.drop kill, st.loc⟩
    | false => evOpsK call hs ops st fun st => K .nrm ⟨st.fr.drop kill, st.loc⟩
  | .seq a b, st, K => evK call hs lp a st fun ex st => match ex with
    | .nrm => evK call hs lp b st K
    | .exit id => K (.exit id) st
    | .ret => K .ret st
  | .cond c a b, st, K => match ev1 st.fr c with
    | .b t => bif t then evK call hs lp a st K else evK call hs lp b st K
    | _ => none
  | .block id c, st, K => evK call hs lp c st fun ex st => match ex with
    | .nrm => K .nrm st
    | .exit j => bif j == id then K .nrm st else K (.exit j) st
    | .ret => K .ret st
  | .loop key live _ _, st, K => match lp key (headOf live st) with
    | some (ex, st) => K ex st
    | none => none
  | .exit id, st, K => K (.exit id) st
  | .ret, st, K => K .ret st
  | .bad, _, _ => none
theorem evK_le {call : CallF} {hs : Hints} {lp : Loops} : ∀ (c : MC), LoopsOK call lp c → ∀ {st : St} {K : Ex → St → Option ρ} {y : ρ}, evK call hs lp c st K = some y → ∃ ex st', evL call c st = some (ex, st') ∧ K ex st' = some y
  | .skip, _, st, K, y, e => ⟨_, _, rfl, e⟩
  | .ret, _, st, K, y, e => ⟨_, _, rfl, e⟩
  | .exit _, _, st, K, y, e => ⟨_, _, rfl, e⟩
  | .bad, _, _, _, _, e => by cases e
  | .reg ops draw kill, _, st, K, y, e => by
    simp only [evK] at e
    cases draw with
    | true =>
      obtain ⟨st1, h1, h2⟩ := evDrawK_le e
      exact ⟨_, _, by simp only [evL, if_true, h1], h2⟩
    | false =>
      obtain ⟨st1, h1, h2⟩ := evOpsK_le ops e
      exact ⟨_, _, by simp only [evL, Bool.false_eq_true, if_false, h1], h2⟩
  | .seq a b, hl, st, K, y, e => by
    obtain ⟨ex, st1, h1, h2⟩ := evK_le a (fun p hp => hl p (List.mem_append_left _ hp)) e
    cases ex with
    | nrm =>
      obtain ⟨ex2, st2, h3, h4⟩ := evK_le b (fun p hp => hl p (List.mem_append_right _ hp)) h2
      exact ⟨ex2, st2, by simp only [evL, h1]; exact h3, h4⟩
    | exit id => exact ⟨_, _, by simp only [evL, h1], h2⟩
    | ret => exact ⟨_, _, by simp only [evL, h1], h2⟩
  | .cond c a b, hl, st, K, y, e => by
    simp only [evK] at e
    split at e
    case h_2 => cases e
    rename_i t ht
    cases t with
    | true =>
      obtain ⟨ex, st1, h1, h2⟩ := evK_le a (fun p hp => hl p (List.mem_append_left _ hp)) e
      exact ⟨ex, st1, by simp only [evL, ht, if_true]; exact h1, h2⟩
    | false =>
      obtain ⟨ex, st1, h1, h2⟩ := evK_le b (fun p hp => hl p (List.mem_append_right _ hp)) e
      exact ⟨ex, st1, by simp only [evL, ht, Bool.false_eq_true, if_false]; exact h1, h2⟩
  | .block id c, hl, st, K, y, e => by
    obtain ⟨ex, st1, h1, h2⟩ := evK_le c hl e
    cases ex with
    | nrm => exact ⟨_, _, by simp only [evL, h1], h2⟩
    | exit j =>
      cases hj : j == id with
      | true =>
        simp only [hj, cond_true] at h2
        exact ⟨_, _, by simp only [evL, h1]; rw [if_pos (by simpa using hj)], h2⟩
      | false =>
        simp only [hj, cond_false] at h2
        exact ⟨_, _, by simp only [evL, h1]; rw [if_neg (by simpa using hj)], h2⟩
    | ret => exact ⟨_, _, by simp only [evL, h1], h2⟩
  | .loop key live out c, hl, st, K, y, e => by
    simp only [evK] at e
    split at e
    case h_2 => cases e
    rename_i ex st1 h1
    exact ⟨ex, st1, (hl _ (List.mem_singleton.2 rfl) _ _ h1).evL, e⟩
def roundK (call : CallF) (hs : Hints) (lp : Loops) (live out : List Nat) (c : MC) (l0 : Nat) (h : St) : Option (Ex × St) :=
  evK call hs lp c h fun ex st => match ex with
    | .nrm => some (.nrm, compact l0 live st)
    | .exit j => some (.exit j, compact l0 out st)
    | .ret => some (.ret, compact l0 out st)
theorem LR.next {call : CallF} {hs : Hints} {lp : Loops} {live out : List Nat} {c : MC} {l0 : Nat} {h h' : St} {y : Ex × St} (hl : LoopsOK call lp c) (e : roundK call hs lp live out c l0 h = some (.nrm, h'))
    (r : LR call live out c l0 h' y) : LR call live out c l0 h y := by
  obtain ⟨ex, st, h1, h2⟩ := evK_le c hl e
  cases ex with
  | nrm => simp at h2; subst h2; exact .more h1 r
  | exit j => simp at h2
  | ret => simp at h2
theorem LR.last {call : CallF} {hs : Hints} {lp : Loops} {live out : List Nat} {c : MC} {l0 : Nat} {h h' : St} {ex : Ex} (hl : LoopsOK call lp c) (e : roundK call hs lp live out c l0 h = some (ex, h'))
    (hx : ex ≠ .nrm) : LR call live out c l0 h (ex, h') := by
  obtain ⟨ex, st, h1, h2⟩ := evK_le c hl e
  cases ex with
  | nrm => simp at h2; exact absurd h2.1.symm hx
  | exit j => simp at h2; obtain ⟨rfl, rfl⟩ := h2; exact .stop h1 hx
  | ret => simp at h2; obtain ⟨rfl, rfl⟩ := h2; exact .stop h1 hx
def MF.LoopsOK (call : CallF) (lp : Loops) : MF → Prop
  | .code _ body _ => Rv.LoopsOK call lp body
  | .law _ => True
end
end Go.Rv
namespace Go.Rv
theorem Rounds.mono {s t : St → Option (Ex × St)} (h : ∀ st x, s st = some x → t st = some x) {pre : St → St} {st : St} {y : Ex × St} (r : Rounds s pre st y) : Rounds t pre st y := by
  induction r with
  | stop h1 hn => exact .stop (h _ _ h1) hn
  | more h1 _ ih => exact .more (h _ _ h1) ih
theorem evL_mono {c d : CallF} (h : c.le d) : ∀ (x : MC) {st : St} {y : Ex × St}, evL c x st = some y → evL d x st = some y
  | .skip, _, _, e => e
  | .ret, _, _, e => e
  | .exit _, _, _, e => e
  | .bad, _, _, e => by cases e
  | .reg ops draw kill, st, y, e => by
    simp only [evL] at e ⊢
    cases draw with
    | true =>
      simp only [if_true] at e ⊢
      split at e
      case h_2 => cases e
      rename_i st1 h1
      rw [evDraw_mono h h1]; exact e
    | false =>
      simp only [Bool.false_eq_true, if_false] at e ⊢
      split at e
      case h_2 => cases e
      rename_i st1 h1
      rw [evOps_mono h _ h1]; exact e
  | .seq a b, st, y, e => by
    simp only [evL] at e ⊢
    split at e
    · rename_i st1 h1
      rw [evL_mono h a h1]
      exact evL_mono h b e
    · rename_i hne
      rw [evL_mono h a e]
      split
      · rename_i st1 heq
        exact absurd (e.trans heq) (hne st1)
      · rfl
  | .cond a x z, st, y, e => by
    simp only [evL] at e ⊢
    split at e
    · rename_i t ht
      split at e
      · rename_i htt; simp only [htt, if_true]; exact evL_mono h x e
      · rename_i htt; simp only [htt]; exact evL_mono h z e
    · cases e
  | .block id x, st, y, e => by
    simp only [evL] at e ⊢
    split at e
    · rename_i j st1 h1
      rw [evL_mono h x h1]; exact e
    · rename_i hne
      rw [evL_mono h x e]
      split
      · rename_i j st1 heq
        exact absurd (e.trans heq) (hne j st1)
      · rfl
  | .loop key live out x, st, y, e => by
    simp only [evL] at e ⊢
    split at e
    case h_2 => cases e
    rename_i ex1 st1 h1
    rw [iterL_of ((iterL_inv h1).mono fun st z hz => evL_mono h x hz)]
    exact e
theorem LR.mono {c d : CallF} (h : c.le d) {live out : List Nat} {x : MC} {l0 : Nat} {st : St} {y : Ex × St} (r : LR c live out x l0 st y) : LR d live out x l0 st y := by
  induction r with
  | stop h1 hn => exact .stop (evL_mono h _ h1) hn
  | more h1 _ ih => exact .more (evL_mono h _ h1) ih
end Go.Rv
namespace Go.Rv
abbrev Rows := List (List AV)
abbrev Mp := List (AV × AV)
abbrev Bys := List UInt8
inductive Ce where
  | b
  | i (k : IntKind)
  | s
  | a
  deriving DecidableEq, Inhabited
def CT : List Ce → Type
  | [] => Unit
  | .b :: s => Bool × CT s
  | .i _ :: s => Int × CT s
  | .s :: s => List UInt8 × CT s
  | .a :: s => AV × CT s
def CT.av : (s : List Ce) → CT s → List AV
  | [], _ => []
  | .b :: s, c => .b c.1 :: CT.av s c.2
  | .i k :: s, c => .i k c.1 :: CT.av s c.2
  | .s :: s, c => .s c.1 :: CT.av s c.2
  | .a :: s, c => c.1 :: CT.av s c.2
section
variable {ρ : Type}
def cellT : (s : List Ce) → List AV → (CT s → Option ρ) → Option ρ
  | [], [], K => K ()
  | .b :: s, v :: r, K => match v with
    | .b x => cellT s r fun c => K (x, c)
    | _ => none
  | .i k :: s, v :: r, K => match v with
    | .i k' n => (match k == k' with | true => cellT s r fun c => K (n, c) | false => none)
    | _ => none
  | .s :: s, v :: r, K => match v with
    | .s x => cellT s r fun c => K (x, c)
    | _ => none
  | .a :: s, v :: r, K => cellT s r fun c => K (v, c)
  | _, _, _ => none
theorem cellT_le : ∀ (s : List Ce) (l : List AV) {K : CT s → Option ρ} {y : ρ}, cellT s l K = some y → ∃ c, l = CT.av s c ∧ K c = some y
  | [], [], K, y, h => ⟨(), rfl, h⟩
  | [], _ :: _, K, y, h => by cases h
  | .b :: s, [], K, y, h => by cases h
  | .i _ :: s, [], K, y, h => by cases h
  | .s :: s, [], K, y, h => by cases h
  | .a :: s, [], K, y, h => by cases h
  | .b :: s, v :: r, K, y, h => by
    simp only [cellT] at h
    split at h
    · obtain ⟨c, rfl, h'⟩ := cellT_le s r h
      exact ⟨(_, c), rfl, h'⟩
    · cases h
  | .i k :: s, v :: r, K, y, h => by
    simp only [cellT] at h
    split at h
    · split at h
      · rename_i hk
        simp at hk; subst hk
        obtain ⟨c, rfl, h'⟩ := cellT_le s r h
        exact ⟨(_, c), rfl, h'⟩
      · cases h
    · cases h
  | .s :: s, v :: r, K, y, h => by
    simp only [cellT] at h
    split at h
    · obtain ⟨c, rfl, h'⟩ := cellT_le s r h
      exact ⟨(_, c), rfl, h'⟩
    · cases h
  | .a :: s, v :: r, K, y, h => by
    simp only [cellT] at h
    obtain ⟨c, rfl, h'⟩ := cellT_le s r h
    exact ⟨(v, c), rfl, h'⟩
def rowN (s : List Ce) (xs : List (List AV)) (j : Nat) (K : CT s → Option ρ) : Option ρ :=
  match xs[j]? with
  | some e => cellT s e K
  | none => none
def rowT (s : List Ce) (xs : List (List AV)) (ix : Int) (K : CT s → Option ρ) : Option ρ :=
  match decide (0 ≤ ix) with
  | true => rowN s xs ix.toNat K
  | false => none
theorem rowN_le {s : List Ce} {xs : List (List AV)} {j : Nat} {K : CT s → Option ρ} {y : ρ} (h : rowN s xs j K = some y) : ∃ c, xs[j]? = some (CT.av s c) ∧ K c = some y := by
  unfold rowN at h
  split at h
  · rename_i e he
    obtain ⟨c, rfl, h'⟩ := cellT_le s e h
    exact ⟨c, he, h'⟩
  · cases h
theorem rowT_le {s : List Ce} {xs : List (List AV)} {ix : Int} {K : CT s → Option ρ} {y : ρ} (h : rowT s xs ix K = some y) : 0 ≤ ix ∧ ∃ c, xs[ix.toNat]? = some (CT.av s c) ∧ K c = some y := by
  unfold rowT at h
  split at h
  · rename_i h0
    exact ⟨by simpa using h0, rowN_le h⟩
  · cases h
def mapB (d : Bool) (k : AV) (es : List (AV × AV)) (K : Bool → Option ρ) : Option ρ :=
  match mapFind k es with
  | some (some (.b x)) => K x
  | some none => K d
  | _ => none
def mapU (k : Int) (kk : IntKind) (x : Bool) (es : List (AV × AV)) (K : List (AV × AV) → Option ρ) : Option ρ :=
  match mapSet (.i kk k) (.b x) es with
  | some es => K es
  | none => none
end
def tabOf : List (Nat × MF) → Tab
  | [], _ => none
  | p :: l, f => match p.1 == f with
    | true => some p.2
    | false => tabOf l f
abbrev CK := (ρ : Type) → Nat → List AV → (Res → Option ρ) → Option ρ
def CK.OK (S : CK) (call : CallF) : Prop := ∀ (ρ : Type) (f : Nat) (args : List AV) (K : Res → Option ρ) (y : ρ), S ρ f args K = some y → ∃ r, call f args = some r ∧ K r = some y
abbrev EK := (ρ : Type) → List AV → (Res → Option ρ) → Option ρ
def EK.OK (e : EK) (f : Nat) (call : CallF) : Prop := ∀ (ρ : Type) (args : List AV) (K : Res → Option ρ) (y : ρ), e ρ args K = some y → ∃ r, call f args = some r ∧ K r = some y
def tabS : List (Nat × EK) → CK
  | [], _, _, _, _ => none
  | p :: l, ρ, f, args, K => match p.1 == f with
    | true => p.2 ρ args K
    | false => tabS l ρ f args K
theorem tabS_ok {call : CallF} : ∀ (l : List (Nat × EK)), (∀ p ∈ l, EK.OK p.2 p.1 call) → CK.OK (tabS l) call
  | [], _, _, _, _, _, _, e => by cases e
  | p :: l, h, ρ, f, args, K, y, e => by
    simp only [tabS] at e
    split at e
    · rename_i hf
      simp at hf; subst hf
      exact h p (List.mem_cons_self ..) ρ args K y e
    · exact tabS_ok l (fun q hq => h q (List.mem_cons_of_mem _ hq)) ρ f args K y e
section
variable {ρ : Type}
mutual
def AV.frzC (loc : Loc) : AV → (AV → Option ρ) → Option ρ
  | .ptr id n _ x o, K => match loc[id]? with
    | some (.row _ p _ xs) => chk (xs.length == n) (chk p (match xs[x]? with | some e => K (.ref e o) | none => none))
    | _ => none
  | .sl id n z lo len, K => match loc[id]? with
    | some (.row _ p _ xs) => chk (xs.length == n) (chk p (K (.lst false false z ((xs.drop lo).take len))))
    | _ => none
  | .as .., _ | .mp _, _ | .mv _, _ => none
  | .agg cs, K => frzNC loc cs fun cs => K (.agg cs)
  | .tup cs, K => frzNC loc cs fun cs => K (.tup cs)
  | .fn f cs, K => frzNC loc cs fun cs => K (.fn f cs)
  | v, K => K v
def frzNC (loc : Loc) : List AV → (List AV → Option ρ) → Option ρ
  | [], K => K []
  | v :: r, K => v.frzC loc fun v => frzNC loc r fun r => K (v :: r)
end
mutual
theorem frzC_le {loc : Loc} : ∀ (v : AV) {K : AV → Option ρ} {y : ρ}, v.frzC loc K = some y → ∃ w, v.frz loc = some w ∧ K w = some y
  | .ptr id n _ x o, K, y, h => by
    simp only [AV.frzC] at h
    split at h
    · rename_i z p im xs hid
      obtain ⟨h1, h⟩ := chk_le h
      obtain ⟨h2, h⟩ := chk_le h
      split at h
      · rename_i e he
        refine ⟨_, ?_, h⟩
        simp only [AV.frz, hid]
        rw [if_pos ⟨by simpa using h1, h2⟩, he]
      · cases h
    · cases h
  | .sl id n z lo len, K, y, h => by
    simp only [AV.frzC] at h
    split at h
    · rename_i z p im xs hid
      obtain ⟨h1, h⟩ := chk_le h
      obtain ⟨h2, h⟩ := chk_le h
      refine ⟨_, ?_, h⟩
      simp only [AV.frz, hid]
      rw [if_pos ⟨by simpa using h1, h2⟩]
    · cases h
  | .as .., _, _, h => by simp only [AV.frzC] at h; cases h
  | .mp _, _, _, h => by simp only [AV.frzC] at h; cases h
  | .mv _, _, _, h => by simp only [AV.frzC] at h; cases h
  | .agg cs, K, y, h => by
    simp only [AV.frzC] at h
    obtain ⟨w, h1, h2⟩ := frzNC_le cs h
    exact ⟨_, by simp only [AV.frz, h1], h2⟩
  | .tup cs, K, y, h => by
    simp only [AV.frzC] at h
    obtain ⟨w, h1, h2⟩ := frzNC_le cs h
    exact ⟨_, by simp only [AV.frz, h1], h2⟩
  | .fn f cs, K, y, h => by
    simp only [AV.frzC] at h
    obtain ⟨w, h1, h2⟩ := frzNC_le cs h
    exact ⟨_, by simp only [AV.frz, h1], h2⟩
  | .u, K, y, h => ⟨_, rfl, h⟩
  | .b _, K, y, h => ⟨_, rfl, h⟩
  | .i _ _, K, y, h => ⟨_, rfl, h⟩
  | .s _, K, y, h => ⟨_, rfl, h⟩
  | .cx _ _, K, y, h => ⟨_, rfl, h⟩
  | .np, K, y, h => ⟨_, rfl, h⟩
  | .ref _ _, K, y, h => ⟨_, rfl, h⟩
  | .lst _ _ _ _, K, y, h => ⟨_, rfl, h⟩
theorem frzNC_le {loc : Loc} : ∀ (l : List AV) {K : List AV → Option ρ} {y : ρ}, frzNC loc l K = some y → ∃ w, frzN loc l = some w ∧ K w = some y
  | [], K, y, h => ⟨_, rfl, h⟩
  | v :: r, K, y, h => by
    simp only [frzNC] at h
    obtain ⟨w, h1, h2⟩ := frzC_le v h
    obtain ⟨u, h3, h4⟩ := frzNC_le r h2
    exact ⟨_, by simp only [frzN, h1, h3], h4⟩
end
def frzAC (loc : Loc) (v : AV) (K : AV → Option ρ) : Option ρ :=
  match v with
  | .mp id => match loc[id]? with
    | some (.map es) => K (.mv es)
    | _ => none
  | v => v.frzC loc K
theorem frzAC_le {loc : Loc} {v : AV} {K : AV → Option ρ} {y : ρ} (h : frzAC loc v K = some y) : ∃ w, frzA loc v = some w ∧ K w = some y := by
  unfold frzAC at h
  split at h
  · split at h
    · rename_i hid
      exact ⟨_, by simp only [frzA, hid], h⟩
    · cases h
  · rename_i hne
    obtain ⟨w, h1, h2⟩ := frzC_le v h
    refine ⟨w, ?_, h2⟩
    unfold frzA
    split
    · exact absurd rfl (hne _)
    · exact h1
def frzLC (loc : Loc) : List AV → (List AV → Option ρ) → Option ρ
  | [], K => K []
  | v :: r, K => frzAC loc v fun v => frzLC loc r fun r => K (v :: r)
theorem frzLC_le {loc : Loc} : ∀ (l : List AV) {K : List AV → Option ρ} {y : ρ}, frzLC loc l K = some y → ∃ w, frzL loc l = some w ∧ K w = some y
  | [], K, y, h => ⟨_, rfl, h⟩
  | v :: r, K, y, h => by
    simp only [frzLC] at h
    obtain ⟨w, h1, h2⟩ := frzAC_le h
    obtain ⟨u, h3, h4⟩ := frzLC_le r h2
    exact ⟨_, by simp only [frzL, h1, h3], h4⟩
theorem mids_sub : ∀ (l : List AV), idsL l = [] → mids l = []
  | [], _ => rfl
  | v :: r, h => by
    simp only [idsL, List.append_eq_nil_iff] at h
    have hr := mids_sub r h.2
    unfold mids at hr ⊢
    rw [List.filterMap_cons]
    cases v <;> simp_all [AV.ids]
def finC (stay : Bool) (loc : Loc) (args : List AV) (r : Res) (K : AV → Loc → List Nat × List Nat → Option ρ) : Option ρ :=
  match stay with
  | true => K (r.v.ren (fun j => some ((markIm (putMaps loc (mids args) r.outs) (idsL args)).length + j))) (markIm (putMaps loc (mids args) r.outs) (idsL args) ++ r.new) (idsL args, idsL args)
  | false => K (r.v.ren (fun j => some ((putMaps loc (mids args) r.outs).length + j))) (putMaps loc (mids args) r.outs ++ r.new) (idsL args, mids args)
def settleC (loc : Loc) (args : List AV) (r : Res) (K : AV → Loc → List Nat × List Nat → Option ρ) : Option ρ :=
  chk (decide ((mids args).length = r.outs.length ∧ (mids args).Nodup)) (match idsL args with
    | [] => finC false loc args r K
    | _ :: _ => bif stayR r then finC true loc args r K else finC false loc args r K)
theorem settleC_le {loc : Loc} {args : List AV} {r : Res} {K : AV → Loc → List Nat × List Nat → Option ρ} {y : ρ} (h : settleC loc args r K = some y) :
    ∃ v loc', settle loc args r = some (v, loc') ∧ K v loc' (idsL args, if stayR r then idsL args else mids args) = some y := by
  unfold settleC at h
  obtain ⟨h1, h⟩ := chk_le h
  simp only [decide_eq_true_eq] at h1
  have key : ∀ stay, stay = stayR r → finC stay loc args r K = some y → ∃ v loc', settle loc args r = some (v, loc') ∧ K v loc' (idsL args, if stayR r then idsL args else mids args) = some y := by
    rintro stay rfl h
    unfold finC at h
    unfold settle
    rw [if_pos h1]
    split at h
    · rename_i hs; simp only [hs, if_true]; exact ⟨_, _, rfl, h⟩
    · rename_i hs; simp only [hs]; exact ⟨_, _, rfl, h⟩
  split at h
  · rename_i hi
    cases hs : stayR r with
    | false => have := key false hs.symm h; rwa [hs] at this
    | true =>
      unfold finC at h
      unfold settle
      rw [if_pos h1]
      simp only [hs, if_true, hi, markIm]
      simp only [hi, mids_sub _ hi] at h ⊢
      exact ⟨_, _, rfl, h⟩
  · cases hs : stayR r with
    | true => rw [hs] at h; have := key true hs.symm h; rwa [hs] at this
    | false => rw [hs] at h; have := key false hs.symm h; rwa [hs] at this
def callC (S : CK) (loc : Loc) (f : Nat) (args : List AV) (K : AV → Loc → List Nat × List Nat → Option ρ) : Option ρ :=
  frzLC loc args fun fargs => S ρ f fargs fun r => settleC loc args r K
theorem callC_le {S : CK} {call : CallF} (hS : CK.OK S call) {loc : Loc} {f : Nat} {args : List AV} {K : AV → Loc → List Nat × List Nat → Option ρ} {y : ρ} (h : callC S loc f args K = some y) :
    ∃ v loc', doCall call loc f args = some (v, loc') ∧ K v loc' (footCall call loc f args) = some y := by
  unfold callC at h
  obtain ⟨fa, h1, h⟩ := frzLC_le args h
  obtain ⟨r, h2, h⟩ := hS _ _ _ _ _ h
  obtain ⟨v, loc', h3, h4⟩ := settleC_le h
  refine ⟨v, loc', by simp only [doCall, h1, h2]; exact h3, ?_⟩
  simp only [footCall, h1, h2]
  exact h4
def rdC (loc : Loc) (v : AV) (K : List (List AV) → Option ρ) : Option ρ :=
  match v with
  | .lst _ _ _ xs => K xs
  | .sl id n _ lo len => match loc[id]? with
    | some (.row _ _ _ xs) => chk (xs.length == n) (K ((xs.drop lo).take len))
    | _ => none
  | v => match rd loc v with
    | some ys => K ys
    | none => none
theorem rdC_le {loc : Loc} {v : AV} {K : List (List AV) → Option ρ} {y : ρ} (h : rdC loc v K = some y) : ∃ ys, rd loc v = some ys ∧ K ys = some y := by
  unfold rdC at h
  split at h
  · exact ⟨_, rfl, h⟩
  · split at h
    · rename_i hid
      obtain ⟨h1, h⟩ := chk_le h
      refine ⟨_, ?_, h⟩
      simp only [rd, hid]
      rw [if_pos (by simpa using h1)]
    · cases h
  · split at h
    · rename_i hv
      exact ⟨_, hv, h⟩
    · cases h
def appendC (loc : Loc) (z : Nat) (x : AV) (ys : List (List AV)) (K : AV → Loc → Option ρ) : Option ρ :=
  chk (ys.all fun e => e.length == z) (match x with
    | .lst nl ti z' xs => chk ti (bif ys.length == 0 then K (.lst nl true z' xs) loc else
      chk (decide (xs.length + ys.length ≤ most)) (chk (xs.all fun e => e.length == z) (chk (ys.all fun e => !ownL e)
        (K (.sl loc.length (xs.length + ys.length) z 0 (xs.length + ys.length)) (loc ++ [.row z true false (xs ++ ys)])))))
    | .sl id n z' lo len => match loc[id]? with
      | some (.row z'' p im xs) => chk (!im) (chk (z' == z) (chk (xs.length == n) (chk (lo == 0) (chk (len == n) (chk (decide (n + ys.length ≤ most)) (chk (ys.all fun e => !ownL e)
          (K (.sl id (n + ys.length) z 0 (n + ys.length)) (loc.set id (.row z'' p im (xs ++ ys))))))))))
      | _ => none
    | _ => none)
theorem appendC_le {loc : Loc} {z : Nat} {x : AV} {ys : List (List AV)} {K : AV → Loc → Option ρ} {y : ρ} (h : appendC loc z x ys K = some y) : ∃ v loc', appendV loc z x ys = some (v, loc') ∧ K v loc' = some y := by
  unfold appendC at h
  obtain ⟨h1, h⟩ := chk_le h
  split at h
  · rename_i nl ti z' xs
    obtain ⟨ht, ha⟩ := chk_le h
    subst ht
    cases h0 : ys.length == 0 with
    | true =>
      rw [h0] at ha
      simp only [cond_true] at ha
      refine ⟨_, _, ?_, ha⟩
      simp only [appendV]
      rw [if_pos h1, if_pos (by simpa using h0)]
    | false =>
      rw [h0] at ha
      simp only [cond_false] at ha
      obtain ⟨h2, hb⟩ := chk_le ha
      obtain ⟨h3, hc⟩ := chk_le hb
      obtain ⟨h4, hd⟩ := chk_le hc
      refine ⟨_, _, ?_, hd⟩
      simp only [appendV]
      rw [if_pos h1, if_neg (by simpa using h0), if_pos ⟨by simpa using h2, h3⟩, h4]
  · rename_i id n z' lo len
    split at h
    · rename_i z'' p im xs hid
      obtain ⟨h3, h⟩ := chk_le h
      obtain ⟨h6, h⟩ := chk_le h
      obtain ⟨h2, h⟩ := chk_le h
      obtain ⟨h4, h⟩ := chk_le h
      obtain ⟨h5, h⟩ := chk_le h
      obtain ⟨h7, h⟩ := chk_le h
      obtain ⟨h8, h⟩ := chk_le h
      refine ⟨_, _, ?_, h⟩
      simp only [appendV, hid]
      rw [if_pos h1, if_pos ⟨by simpa using h2, by simpa using h3, by simpa using h4, by simpa using h5, by simpa using h6, by simpa using h7⟩, h8, Bool.and_true]
    · cases h
  · cases h
def storeC (loc : Loc) (a : AV) (cs : List AV) (K : Loc → Option ρ) : Option ρ :=
  match a with
  | .ptr id n zz x o => match loc[id]? with
    | some (.row z p im xs) => chk (!im) (chk (xs.length == n) (rowN (List.replicate zz .a) xs x fun e =>
        chk (decide (o + cs.length ≤ (CT.av (List.replicate zz .a) e).length))
          (K (loc.set id (.row z (p && !ownL cs) im (xs.set x (setCells (CT.av (List.replicate zz .a) e) o cs)))))))
    | _ => none
  | _ => none
theorem storeC_le {loc : Loc} {a : AV} {cs : List AV} {K : Loc → Option ρ} {y : ρ} (h : storeC loc a cs K = some y) : ∃ loc', stCells loc a cs = some loc' ∧ K loc' = some y := by
  unfold storeC at h
  split at h
  · split at h
    · rename_i z p im xs hid
      obtain ⟨h2, h⟩ := chk_le h
      obtain ⟨h1, h⟩ := chk_le h
      obtain ⟨e, he, h⟩ := rowN_le h
      obtain ⟨h3, h⟩ := chk_le h
      refine ⟨_, ?_, h⟩
      simp only [stCells, hid]
      rw [if_pos ⟨by simpa using h1, by simpa using h2⟩, he]
      simp only
      rw [if_pos (by simpa using h3)]
    · cases h
  · cases h
def slcC (z : Nat) (x : AV) (lo hi mx : Option Int) (K : AV → Option ρ) : Option ρ :=
  match x with
  | .lst nl ti z' xs => match mx with
    | none => chk (z' == z) (chk (decide (0 ≤ lo.getD 0)) (chk (decide (lo.getD 0 ≤ hi.getD xs.length)) (chk (decide (hi.getD xs.length ≤ xs.length))
      (K (.lst nl (ti && hi.getD xs.length == xs.length) z ((xs.drop (lo.getD 0).toNat).take (hi.getD xs.length - lo.getD 0).toNat))))))
    | some m => chk (z' == z) (chk (decide (0 ≤ lo.getD 0)) (chk (decide (lo.getD 0 ≤ hi.getD xs.length)) (chk (decide (hi.getD xs.length ≤ xs.length)) (chk (m == hi.getD xs.length)
      (K (.lst nl true z ((xs.drop (lo.getD 0).toNat).take (hi.getD xs.length - lo.getD 0).toNat)))))))
  | .sl id n z' lo0 len => match mx with
    | none => chk (z' == z) (chk (decide (0 ≤ lo.getD 0)) (chk (decide (lo.getD 0 ≤ hi.getD len)) (chk (decide (hi.getD len ≤ len)) (chk (decide (lo.getD 0 < len) || decide (lo.getD 0 = 0))
      (K (.sl id n z (lo0 + (lo.getD 0).toNat) (hi.getD len - lo.getD 0).toNat))))))
    | some _ => none
  | _ => none
theorem slcC_le {z : Nat} {x : AV} {lo hi mx : Option Int} {K : AV → Option ρ} {y : ρ} (h : slcC z x lo hi mx K = some y) : ∃ v, slcV z x lo hi mx = some v ∧ K v = some y := by
  unfold slcC at h
  split at h
  · split at h
    · obtain ⟨h1, h⟩ := chk_le h
      obtain ⟨h2, h⟩ := chk_le h
      obtain ⟨h3, h⟩ := chk_le h
      obtain ⟨h4, h⟩ := chk_le h
      refine ⟨_, ?_, h⟩
      simp only [slcV]
      rw [if_pos ⟨by simpa using h1, by simpa using h2, by simpa using h3, by simpa using h4⟩]
    · obtain ⟨h1, h⟩ := chk_le h
      obtain ⟨h2, h⟩ := chk_le h
      obtain ⟨h3, h⟩ := chk_le h
      obtain ⟨h4, h⟩ := chk_le h
      obtain ⟨h5, h⟩ := chk_le h
      refine ⟨_, ?_, h⟩
      simp only [slcV]
      rw [if_pos ⟨by simpa using h1, by simpa using h2, by simpa using h3, by simpa using h4⟩, if_pos (by simpa using h5)]
  · split at h
    · obtain ⟨h1, h⟩ := chk_le h
      obtain ⟨h2, h⟩ := chk_le h
      obtain ⟨h3, h⟩ := chk_le h
      obtain ⟨h4, h⟩ := chk_le h
      obtain ⟨h5, h⟩ := chk_le h
      refine ⟨_, ?_, h⟩
      simp only [slcV]
      rw [if_pos ⟨by simpa using h1, by simpa using h2, by simpa using h3, by simpa using h4, trivial, by simpa using h5⟩]
    · cases h
  · cases h
def binC (op : BinOp) (x y : AV) (K : AV → Option ρ) : Option ρ :=
  match x, y with
  | .i k a, .i k' b => match op with
    | .shl => chk (decide (0 ≤ b)) (K (.i k (k.wrap (a * 2 ^ (min b.toNat k.bits)))))
    | .shr => chk (decide (0 ≤ b)) (K (.i k (a.fdiv (2 ^ (min b.toNat k.bits)))))
    | .quo => chk (k == k') (chk (b != 0) (K (.i k (k.wrap (a.tdiv b)))))
    | .rem => chk (k == k') (chk (b != 0) (K (.i k (a.tmod b))))
    | op => match binV op (.i k a) (.i k' b) with | some v => K v | none => none
  | x, y => match binV op x y with | some v => K v | none => none
theorem binC_le {op : BinOp} {x y : AV} {K : AV → Option ρ} {r : ρ} (h : binC op x y K = some r) : ∃ v, binV op x y = some v ∧ K v = some r := by
  unfold binC at h
  split at h
  · rename_i k a k' b
    split at h
    · obtain ⟨h1, h⟩ := chk_le h
      refine ⟨_, ?_, h⟩
      simp only [decide_eq_true_eq] at h1
      simp only [binV, shiftBin]
      rw [if_neg (by omega)]
    · obtain ⟨h1, h⟩ := chk_le h
      refine ⟨_, ?_, h⟩
      simp only [decide_eq_true_eq] at h1
      simp only [binV, shiftBin]
      rw [if_neg (by omega)]
    · obtain ⟨h1, h⟩ := chk_le h
      obtain ⟨h2, h⟩ := chk_le h
      refine ⟨_, ?_, h⟩
      simp only [bne_iff_ne, ne_eq] at h2
      simp only [binV]
      rw [if_pos (by simpa using h1)]
      simp only [intBin]
      rw [if_neg h2]
    · obtain ⟨h1, h⟩ := chk_le h
      obtain ⟨h2, h⟩ := chk_le h
      refine ⟨_, ?_, h⟩
      simp only [bne_iff_ne, ne_eq] at h2
      simp only [binV]
      rw [if_pos (by simpa using h1)]
      simp only [intBin]
      rw [if_neg h2]
    · split at h
      · rename_i hv; exact ⟨_, hv, h⟩
      · cases h
  · split at h
    · rename_i hv; exact ⟨_, hv, h⟩
    · cases h
def noCall : CallF := fun _ _ => none
def pickC (n : Int) (K : Nat → Option ρ) : Nat → Nat → Option ρ
  | 0, _ => none
  | d + 1, k => bif n == (k : Int) then K k else pickC n K d (k + 1)
theorem pickC_le {n : Int} {K : Nat → Option ρ} {y : ρ} : ∀ {d k : Nat}, pickC n K d k = some y → ∃ j : Nat, n = j ∧ k ≤ j ∧ j < k + d ∧ K j = some y
  | 0, _, h => by cases h
  | d + 1, k, h => by
    unfold pickC at h
    cases e : n == (k : Int)
    · rw [e] at h
      obtain ⟨j, h1, h2, h3, h4⟩ := pickC_le h
      exact ⟨j, h1, by omega, by omega, h4⟩
    · rw [e] at h
      exact ⟨k, by simpa using e, Nat.le_refl _, by omega, h⟩
def evOpC (S : CK) (h : Option (List Ce)) (fr : Fr) (loc : Loc) (i : I) (K : AV → Loc → List Nat × List Nat → Option ρ) : Option ρ :=
  match i with
  | .iaddr z x ix => match ev1 fr ix with
    | .i _ n => match ev1 fr x with
      | .lst _ _ z' xs => chk (z' == z) (match h with
        | some s => rowT s xs n fun c => K (.ref (CT.av s c) 0) loc ([], [])
        | none => match xs with | [] => none | _ :: _ => match iaddrV z (ev1 fr x) n with | some v => K v loc ([], []) | none => none)
      | .sl id m z' lo len => chk (z' == z) (chk (decide (0 ≤ n)) (chk (decide (n < len)) (K (.ptr id m z' (lo + n.toNat) 0) loc ([], []))))
      | _ => none
    | _ => none
  | .iaddrA len z x ix => match ev1 fr ix with
    | .i _ n => match ev1 fr x with
      | .ptr id m zz x o => pickC n (fun j => K (.ptr id m zz x (o + j * z)) loc ([], [])) len 0
      | .ref cs o => pickC n (fun j => K (.ref cs (o + j * z)) loc ([], [])) len 0
      | _ => none
    | _ => none
  | .load ag m a => match ev1 fr a with
    | .ptr id n _ x o => match loc[id]? with
      | some (.row _ _ _ xs) => chk (xs.length == n) (match h with
        | some s => rowN s xs x fun c => chk (decide (o + m ≤ (CT.av s c).length)) (match pack ag (((CT.av s c).drop o).take m) with | some v => K v loc ([id], []) | none => none)
        | none => match xs[x]? with
          | some e => chk (decide (o + m ≤ e.length)) (match pack ag ((e.drop o).take m) with | some v => K v loc ([id], []) | none => none)
          | none => none)
      | _ => none
    | .ref cs o => chk (decide (o + m ≤ cs.length)) (match pack ag ((cs.drop o).take m) with | some v => K v loc ([], []) | none => none)
    | _ => none
  | .store n a x => match (ev1 fr x).cells? with
    | some cs => chk (cs.length == n) (storeC loc (ev1 fr a) cs fun loc' => K (.tup []) loc' ([], (ev1 fr a).ids))
    | none => none
  | .mkrow zero l c => match ev1 fr l, ev1 fr c with
    | .i _ n, .i _ m => chk (decide (0 ≤ n)) (chk (decide (n ≤ m)) (chk (decide (m ≤ most))
        (K (.sl loc.length n.toNat zero.length 0 n.toNat) (loc ++ [.row zero.length (!ownL zero) false (List.replicate n.toNat zero)]) ([], []))))
    | _, _ => none
  | .slc z x lo hi mx => match numV fr lo, numV fr hi, numV fr mx with
    | some lo, some hi, some mx => slcC z (ev1 fr x) lo hi mx fun v => K v loc ([], [])
    | _, _, _ => none
  | .append z x y => rdC loc (ev1 fr y) fun ys => appendC loc z (ev1 fr x) ys fun v loc' => K v loc' ((ev1 fr y).ids, (ev1 fr x).ids)
  | .bin op x y => binC op (ev1 fr x) (ev1 fr y) fun v => K v loc ([], [])
  | .call f args => callC S loc f (args.map (ev1 fr)) K
  | .callv f args => match ev1 fr f with
    | .fn g caps => callC S loc g (args.map (ev1 fr) ++ caps) K
    | _ => none
  | .look (.b d) false m k => match ev1 fr m with
    | .mp id => match loc[id]? with
      | some (.map es) => mapB d (ev1 fr k) es fun x => K (.b x) loc ([id], [])
      | _ => none
    | _ => none
  | .mset m k x => match ev1 fr m, ev1 fr k, ev1 fr x with
    | .mp id, .i kk n, .b t => match loc[id]? with
      | some (.map es) => mapU n kk t es fun es' => K (.tup []) (loc.set id (.map es')) ([], [id])
      | _ => none
    | _, _, _ => none
  | i => match evOp noCall fr loc i with
    | some (v, loc') => K v loc' (foot noCall fr loc i)
    | none => none
theorem evOpC_le {S : CK} {call : CallF} (hS : CK.OK S call) {h : Option (List Ce)} {fr : Fr} {loc : Loc} {i : I} {K : AV → Loc → List Nat × List Nat → Option ρ} {y : ρ} (e : evOpC S h fr loc i K = some y) :
    ∃ v loc', evOp call fr loc i = some (v, loc') ∧ K v loc' (foot call fr loc i) = some y := by
  unfold evOpC at e
  split at e
  · -- iaddr
    rename_i z x ix
    split at e
    case h_2 => cases e
    rename_i k n hn
    split at e
    · rename_i nl ti z' xs hx
      obtain ⟨hz, e⟩ := chk_le e
      split at e
      · obtain ⟨h0, c, hc, e⟩ := rowT_le e
        refine ⟨_, _, ?_, e⟩
        simp only [evOp, hn, hx, iaddrV]
        rw [if_pos ⟨by simpa using hz, h0⟩, hc]
      · split at e
        · cases e
        · split at e
          · rename_i v hv
            refine ⟨_, _, ?_, e⟩
            simp only [evOp, hn, hv]
          · cases e
    · rename_i id m z' lo len hx
      obtain ⟨hz, e⟩ := chk_le e
      obtain ⟨h1, e⟩ := chk_le e
      obtain ⟨h2, e⟩ := chk_le e
      refine ⟨_, _, ?_, e⟩
      simp only [evOp, hn, hx, iaddrV]
      rw [if_pos ⟨by simpa using hz, by simpa using h1, by simpa using h2⟩]
    · cases e
  · -- iaddrA
    rename_i len z x ix
    split at e
    case h_2 => cases e
    rename_i k n hn
    split at e
    · rename_i id m zz x' o hx
      obtain ⟨j, rfl, _, hj, e⟩ := pickC_le e
      refine ⟨_, _, ?_, e⟩
      simp only [evOp, hn, hx, iaddrAV]
      rw [if_pos ⟨by omega, by omega⟩, Int.toNat_natCast]
    · rename_i cs o hx
      obtain ⟨j, rfl, _, hj, e⟩ := pickC_le e
      refine ⟨_, _, ?_, e⟩
      simp only [evOp, hn, hx, iaddrAV]
      rw [if_pos ⟨by omega, by omega⟩, Int.toNat_natCast]
    · cases e
  · -- load
    rename_i ag m a
    split at e
    · rename_i id n z x o ha
      split at e
      case h_2 => cases e
      rename_i z2 p im xs hid
      obtain ⟨hl, e⟩ := chk_le e
      split at e
      · rename_i s
        obtain ⟨c, hc, e⟩ := rowN_le e
        obtain ⟨hf, e⟩ := chk_le e
        split at e
        case h_2 => cases e
        rename_i v hv
        refine ⟨v, loc, ?_, by simpa only [foot, ha, AV.ids] using e⟩
        simp only [evOp, ha, ldCells, hid]
        rw [if_pos (by simpa using hl), hc]
        simp only
        rw [if_pos (by simpa using hf)]
        simp only [hv]
      · split at e
        case h_2 => cases e
        rename_i el hel
        obtain ⟨hf, e⟩ := chk_le e
        split at e
        case h_2 => cases e
        rename_i v hv
        refine ⟨v, loc, ?_, by simpa only [foot, ha, AV.ids] using e⟩
        simp only [evOp, ha, ldCells, hid]
        rw [if_pos (by simpa using hl), hel]
        simp only
        rw [if_pos (by simpa using hf)]
        simp only [hv]
    · rename_i cs o ha
      obtain ⟨hf, e⟩ := chk_le e
      split at e
      case h_2 => cases e
      rename_i v hv
      refine ⟨v, loc, ?_, by simpa only [foot, ha, AV.ids] using e⟩
      simp only [evOp, ha, ldCells]
      rw [if_pos (by simpa using hf)]
      simp only [hv]
    · cases e
  · -- store
    rename_i n a x
    split at e
    case h_2 => cases e
    rename_i cs hcs
    obtain ⟨hl, e⟩ := chk_le e
    obtain ⟨loc', h1, e⟩ := storeC_le e
    refine ⟨_, _, ?_, e⟩
    simp only [evOp, hcs]
    rw [if_pos (by simpa using hl)]
    simp only [h1]
  · -- mkrow
    rename_i zero l c
    split at e
    · rename_i k n k' m h1 h2
      obtain ⟨a1, e⟩ := chk_le e
      obtain ⟨a2, e⟩ := chk_le e
      obtain ⟨a3, e⟩ := chk_le e
      refine ⟨_, _, ?_, e⟩
      simp only [evOp, h1, h2]
      rw [if_pos ⟨by simpa using a1, by simpa using a2, by simpa using a3⟩]
    · cases e
  · -- slc
    rename_i z x lo hi mx
    split at e
    · rename_i l1 l2 l3 h1 h2 h3
      obtain ⟨v, hv, e⟩ := slcC_le e
      refine ⟨_, _, ?_, e⟩
      simp only [evOp, h1, h2, h3, hv]
    · cases e
  · -- append
    rename_i z x w
    obtain ⟨ys, h1, e⟩ := rdC_le e
    obtain ⟨v, loc', h2, e⟩ := appendC_le e
    exact ⟨_, _, by simp only [evOp, h1]; exact h2, e⟩
  · -- bin
    obtain ⟨v, h1, e⟩ := binC_le e
    exact ⟨v, loc, by simp only [evOp, h1], e⟩
  · exact callC_le hS e
  · rename_i f args
    split at e
    · rename_i g caps hg
      obtain ⟨v, loc', h1, h2⟩ := callC_le hS e
      exact ⟨v, loc', by simp only [evOp, hg]; exact h1, by simp only [foot, hg]; exact h2⟩
    · cases e
  · -- look
    rename_i d m k
    split at e
    · rename_i id hm
      split at e
      · rename_i es hid
        unfold mapB at e
        split at e
        · rename_i x hf
          exact ⟨.b x, loc, by simp only [evOp, hm, hid, hf]; rfl, by simpa only [foot, hm, AV.ids] using e⟩
        · rename_i hf
          exact ⟨.b d, loc, by simp only [evOp, hm, hid, hf]; rfl, by simpa only [foot, hm, AV.ids] using e⟩
        · cases e
      · cases e
    · cases e
  · -- mset
    rename_i m k x
    split at e
    · rename_i id kk n t hm hk hx
      split at e
      · rename_i es hid
        unfold mapU at e
        split at e
        · rename_i es' hs
          exact ⟨.tup [], loc.set id (.map es'), by simp only [evOp, hm, hk, hx, hid, hs], by simpa only [foot, hm, AV.ids] using e⟩
        · cases e
      · cases e
    · cases e
  · rename_i h1 h2 h3 h4 h5 h6 hb h7 h8 h9 h10
    split at e
    case h_2 => cases e
    rename_i v loc' hv
    refine ⟨v, loc', ?_, ?_⟩
    · cases i <;> first | exact hv | (exfalso; first | exact h7 _ _ rfl | exact h8 _ _ rfl)
    · cases i <;> first | exact e | (exfalso; first | exact h7 _ _ rfl | exact h8 _ _ rfl)
abbrev HintC := Nat → Option (List Ce)
def hintL : List (Nat × List Ce) → HintC
  | [], _ => none
  | p :: l, t => match p.1 == t with
    | true => some p.2
    | false => hintL l t
def footR (st st' : St) (f : List Nat × List Nat) : Foot := ⟨f.1, f.2 ++ (if st.loc.length < st'.loc.length then (List.range st'.loc.length).drop st.loc.length else [])⟩
def evMOC (S : CK) (hs : HintC) (o : MO) (st : St) (K : St → Foot → Option ρ) : Option ρ :=
  match o.guard with
  | none => evOpC S (o.dst.bind hs) st.fr st.loc o.op fun v loc f => splitB v fun v => K ⟨putD st.fr o.dst v, loc⟩ (footR st ⟨putD st.fr o.dst v, loc⟩ f)
  | some (g, want) => match st.fr.get g with
    | .b t => bif t == want then evOpC S (o.dst.bind hs) st.fr st.loc o.op fun v loc f => splitB v fun v => K ⟨putD st.fr o.dst v, loc⟩ (footR st ⟨putD st.fr o.dst v, loc⟩ f)
      else K ⟨putD st.fr o.dst (.tup []), st.loc⟩ ⟨[], []⟩
    | .tup [] => K ⟨putD st.fr o.dst (.tup []), st.loc⟩ ⟨[], []⟩
    | _ => none
theorem evMOC_le {S : CK} {call : CallF} (hS : CK.OK S call) {hs : HintC} {o : MO} {st : St} {K : St → Foot → Option ρ} {y : ρ} (e : evMOC S hs o st K = some y) :
    ∃ st', evMO call o st = some st' ∧ K st' (footMO call o st st') = some y := by
  unfold evMOC at e
  unfold evMO footMO
  split at e
  · rename_i hg
    obtain ⟨v, loc', h1, h2⟩ := evOpC_le hS e
    rw [splitB_eq] at h2
    simp only [hg, h1]
    exact ⟨_, rfl, h2⟩
  · rename_i g want hg
    simp only [hg]
    split at e
    · rename_i t ht
      simp only [ht]
      cases htw : t == want with
      | true =>
        rw [htw] at e
        simp only [cond_true] at e
        obtain ⟨v, loc', h1, h2⟩ := evOpC_le hS e
        rw [splitB_eq] at h2
        rw [if_pos (by simpa using htw), h1]
        exact ⟨_, rfl, h2⟩
      | false =>
        rw [htw] at e
        simp only [cond_false] at e
        rw [if_neg (by simpa using htw)]
        exact ⟨_, rfl, e⟩
    · rename_i ht
      simp only [ht]
      exact ⟨_, rfl, e⟩
    · cases e
def evFeetC (S : CK) (hs : HintC) : List MO → St → (St → List Foot → Option ρ) → Option ρ
  | [], st, K => K st []
  | o :: r, st, K => evMOC S hs o st fun st' f => evFeetC S hs r st' fun st'' fs => K st'' (f :: fs)
theorem evFeetC_le {S : CK} {call : CallF} (hS : CK.OK S call) {hs : HintC} : ∀ (l : List MO) {st : St} {K : St → List Foot → Option ρ} {y : ρ}, evFeetC S hs l st K = some y → ∃ st' fs, evFeet call l st = some (st', fs) ∧ K st' fs = some y
  | [], st, K, y, e => ⟨st, [], rfl, e⟩
  | o :: r, st, K, y, e => by
    obtain ⟨st1, h1, h2⟩ := evMOC_le hS e
    obtain ⟨st2, fs, h3, h4⟩ := evFeetC_le hS r h2
    exact ⟨st2, _, by simp only [evFeet, h1, h3], h4⟩
def evOpsC (S : CK) (hs : HintC) : List MO → St → (St → Option ρ) → Option ρ
  | [], st, K => K st
  | o :: r, st, K => evMOC S hs o st fun st _ => evOpsC S hs r st K
theorem evOpsC_le {S : CK} {call : CallF} (hS : CK.OK S call) {hs : HintC} : ∀ (l : List MO) {st : St} {K : St → Option ρ} {y : ρ}, evOpsC S hs l st K = some y → ∃ st', evOps call l st = some st' ∧ K st' = some y
  | [], st, K, y, e => ⟨st, rfl, e⟩
  | o :: r, st, K, y, e => by
    obtain ⟨st1, h1, h2⟩ := evMOC_le hS e
    obtain ⟨st2, h3, h4⟩ := evOpsC_le hS r h2
    exact ⟨st2, by simp only [evOps, h1]; exact h3, h4⟩
abbrev LK := (ρ : Type) → Nat → St → (Ex → St → Option ρ) → Option ρ
abbrev LE := (ρ : Type) → St → (Ex → St → Option ρ) → Option ρ
def LE.OK (e : LE) (call : CallF) (p : Nat × List Nat × List Nat × MC) : Prop :=
  ∀ (ρ : Type) (h : St) (K : Ex → St → Option ρ) (y : ρ), e ρ h K = some y → ∃ ex st', LR call p.2.1 p.2.2.1 p.2.2.2 h.loc.length h (ex, st') ∧ K ex st' = some y
def LK.OK (lp : LK) (call : CallF) (c : MC) : Prop := ∀ p ∈ loopsOf c, LE.OK (fun ρ => lp ρ p.1) call p
def tabL : List (Nat × LE) → LK
  | [], _, _, _, _ => none
  | p :: l, ρ, k, h, K => match p.1 == k with
    | true => p.2 ρ h K
    | false => tabL l ρ k h K
theorem LK.of {lp : LK} {call : CallF} {c : MC} {l : List (Nat × List Nat × List Nat × MC)} (h : loopsOf c = l) (h2 : ∀ p ∈ l, LE.OK (fun ρ => lp ρ p.1) call p) : LK.OK lp call c := fun p hp => h2 p (h ▸ hp)
theorem LE.at {lp : LK} {e : LE} {call : CallF} {p : Nat × List Nat × List Nat × MC} (h : (fun ρ => lp ρ p.1) = e) (ok : LE.OK e call p) : LE.OK (fun ρ => lp ρ p.1) call p := by rw [h]; exact ok
def findLs : MC → List (Nat × List Nat × List Nat × MC)
  | .seq a b => findLs a ++ findLs b
  | .cond _ a b => findLs a ++ findLs b
  | .block _ c => findLs c
  | .loop key live out c => (key, live, out, c) :: findLs c
  | _ => []
def bodyOf : MF → MC
  | .code _ body _ => body
  | .law _ => .skip
def pickL (k : Nat) : List (Nat × List Nat × List Nat × MC) → Nat × List Nat × List Nat × MC
  | [] => (0, [], [], .skip)
  | p :: l => match p.1 == k with
    | true => p
    | false => pickL k l
def loopAt (k : Nat) (m : MF) : Nat × List Nat × List Nat × MC := pickL k (findLs (bodyOf m))
def evCC (S : CK) (hs : HintC) (lp : LK) : MC → St → (Ex → St → Option ρ) → Option ρ
  | .skip, st, K => K .nrm st
  | .reg ops draw kill, st, K => match draw with
    | true => evFeetC S hs ops st fun st fs => chk (apartFeet ops fs) (K .nrm ⟨st.fr.drop kill, st.loc⟩)
    | false => evOpsC S hs ops st fun st => K .nrm ⟨st.fr.drop kill, st.loc⟩
  | .seq a b, st, K => evCC S hs lp a st fun ex st => match ex with
    | .nrm => evCC S hs lp b st K
    | .exit id => K (.exit id) st
    | .ret => K .ret st
  | .cond c a b, st, K => match ev1 st.fr c with
    | .b t => bif t then evCC S hs lp a st K else evCC S hs lp b st K
    | _ => none
  | .block id c, st, K => evCC S hs lp c st fun ex st => match ex with
    | .nrm => K .nrm st
    | .exit j => bif j == id then K .nrm st else K (.exit j) st
    | .ret => K .ret st
  | .loop key live _ _, st, K => lp ρ key (headOf live st) K
  | .exit id, st, K => K (.exit id) st
  | .ret, st, K => K .ret st
  | .bad, _, _ => none
theorem evCC_le {S : CK} {call : CallF} (hS : CK.OK S call) {hs : HintC} {lp : LK} : ∀ (c : MC), LK.OK lp call c → ∀ {st : St} {K : Ex → St → Option ρ} {y : ρ}, evCC S hs lp c st K = some y → ∃ ex st', evL call c st = some (ex, st') ∧ K ex st' = some y
  | .skip, _, st, K, y, e => ⟨_, _, rfl, e⟩
  | .ret, _, st, K, y, e => ⟨_, _, rfl, e⟩
  | .exit _, _, st, K, y, e => ⟨_, _, rfl, e⟩
  | .bad, _, _, _, _, e => by cases e
  | .reg ops draw kill, _, st, K, y, e => by
    simp only [evCC] at e
    cases draw with
    | true =>
      obtain ⟨st1, fs, h1, h2⟩ := evFeetC_le hS ops e
      obtain ⟨h3, h4⟩ := chk_le h2
      exact ⟨_, _, by simp only [evL, if_true, evDraw, h1, h3], h4⟩
    | false =>
      obtain ⟨st1, h1, h2⟩ := evOpsC_le hS ops e
      exact ⟨_, _, by simp only [evL, Bool.false_eq_true, if_false, h1], h2⟩
  | .seq a b, hl, st, K, y, e => by
    obtain ⟨ex, st1, h1, h2⟩ := evCC_le hS a (fun p hp => hl p (List.mem_append_left _ hp)) e
    cases ex with
    | nrm =>
      obtain ⟨ex2, st2, h3, h4⟩ := evCC_le hS b (fun p hp => hl p (List.mem_append_right _ hp)) h2
      exact ⟨ex2, st2, by simp only [evL, h1]; exact h3, h4⟩
    | exit id => exact ⟨_, _, by simp only [evL, h1], h2⟩
    | ret => exact ⟨_, _, by simp only [evL, h1], h2⟩
  | .cond c a b, hl, st, K, y, e => by
    simp only [evCC] at e
    split at e
    case h_2 => cases e
    rename_i t ht
    cases t with
    | true =>
      obtain ⟨ex, st1, h1, h2⟩ := evCC_le hS a (fun p hp => hl p (List.mem_append_left _ hp)) e
      exact ⟨ex, st1, by simp only [evL, ht, if_true]; exact h1, h2⟩
    | false =>
      obtain ⟨ex, st1, h1, h2⟩ := evCC_le hS b (fun p hp => hl p (List.mem_append_right _ hp)) e
      exact ⟨ex, st1, by simp only [evL, ht, Bool.false_eq_true, if_false]; exact h1, h2⟩
  | .block id c, hl, st, K, y, e => by
    obtain ⟨ex, st1, h1, h2⟩ := evCC_le hS c hl e
    cases ex with
    | nrm => exact ⟨_, _, by simp only [evL, h1], h2⟩
    | exit j =>
      cases hj : j == id with
      | true =>
        simp only [hj, cond_true] at h2
        exact ⟨_, _, by simp only [evL, h1]; rw [if_pos (by simpa using hj)], h2⟩
      | false =>
        simp only [hj, cond_false] at h2
        exact ⟨_, _, by simp only [evL, h1]; rw [if_neg (by simpa using hj)], h2⟩
    | ret => exact ⟨_, _, by simp only [evL, h1], h2⟩
  | .loop key live out c, hl, st, K, y, e => by
    simp only [evCC] at e
    obtain ⟨ex, st1, h1, h2⟩ := hl _ (List.mem_singleton.2 rfl) _ _ _ _ e
    exact ⟨ex, st1, h1.evL, h2⟩
def roundC (S : CK) (hs : HintC) (lp : LK) (p : Nat × List Nat × List Nat × MC) (l0 : Nat) (N : St → Option ρ) (K : Ex → St → Option ρ) (h : St) : Option ρ :=
  evCC S hs lp p.2.2.2 h fun ex st => match ex with
    | .nrm => N (compact l0 p.2.1 st)
    | .exit j => K (.exit j) (compact l0 p.2.2.1 st)
    | .ret => K .ret (compact l0 p.2.2.1 st)
noncomputable def fuelN {V : Type} (step : (V → Option ρ) → V → Option ρ) (n : Nat) : V → Option ρ := Nat.rec (fun _ => none) (fun _ rec => step rec) n
theorem fuelN_enc {V W : Type} (enc : V → W) {step : (V → Option ρ) → V → Option ρ} {round : (W → Option ρ) → W → Option ρ} (h : ∀ N v, round N (enc v) = step (fun v => N (enc v)) v) : ∀ (n : Nat) (v : V), fuelN step n v = fuelN round n (enc v)
  | 0, _ => rfl
  | n + 1, v => by
    show step (fuelN step n) v = round (fuelN round n) (enc v)
    rw [h, show fuelN step n = fun v => fuelN round n (enc v) from funext (fuelN_enc enc h n)]
theorem fuelN_LR {S : CK} {call : CallF} (hS : CK.OK S call) {hs : HintC} {lp : LK} {p : Nat × List Nat × List Nat × MC} (hl : LK.OK lp call p.2.2.2) {l0 : Nat} {K : Ex → St → Option ρ} {y : ρ} : ∀ (n : Nat) {h : St},
    fuelN (fun N h => roundC S hs lp p l0 N K h) n h = some y → ∃ ex st', LR call p.2.1 p.2.2.1 p.2.2.2 l0 h (ex, st') ∧ K ex st' = some y
  | 0, _, e => by cases e
  | n + 1, h, e => by
    change roundC S hs lp p l0 (fuelN (fun N h => roundC S hs lp p l0 N K h) n) K h = some y at e
    unfold roundC at e
    obtain ⟨ex, st, h1, h2⟩ := evCC_le hS _ hl e
    cases ex with
    | nrm =>
      obtain ⟨ex, st', h3, h4⟩ := fuelN_LR hS hl n h2
      exact ⟨ex, st', .more h1 h3, h4⟩
    | exit j => exact ⟨_, _, .stop h1 (by simp), h2⟩
    | ret => exact ⟨_, _, .stop h1 (by simp), h2⟩
def leaveC (lent : Nat) (st : St) (rs : List RV) (K : Res → Option ρ) : Option ρ :=
  match rs with
  | .fz zss :: rs => (match resL st rs with
    | none => none
    | some vs => (one vs).frzC st.loc fun v =>
      chk (((st.loc.take lent).filterMap fun | .map es => some es | _ => none).length == lent) (K ⟨zfix zss v, [], (st.loc.take lent).filterMap fun | .map es => some es | _ => none⟩))
  | rs => (match leaveO lent st rs with
    | some r => K r
    | none => none)
theorem leaveC_le {lent : Nat} {st : St} {rs : List RV} {K : Res → Option ρ} {y : ρ} (h : leaveC lent st rs K = some y) : ∃ r, leave lent st rs = some r ∧ K r = some y := by
  unfold leaveC at h
  split at h
  · rename_i zss rs
    split at h
    · cases h
    · rename_i vs hvs
      obtain ⟨v, h1, h2⟩ := frzC_le _ h
      obtain ⟨h3, h4⟩ := chk_le h2
      refine ⟨_, ?_, h4⟩
      simp only [leave, leaveF, hvs, h1]
      exact if_pos (eq_of_beq h3)
  · rename_i hne
    split at h
    · rename_i r hr
      refine ⟨r, ?_, h⟩
      unfold leave
      split
      · exact absurd rfl (hne _ _)
      · exact hr
    · cases h
def runC (S : CK) (hs : HintC) (lp : LK) : MF → List AV → (Res → Option ρ) → Option ρ
  | .code np body rs, args, K => chk (args.length == np) (evCC S hs lp body ⟨(enter args 0 0).1, (enter args 0 0).2⟩ fun ex st => match ex with
    | .exit _ => none
    | .nrm => leaveC (enter args 0 0).2.length st rs K
    | .ret => leaveC (enter args 0 0).2.length st rs K)
  | .law g, args, K => match g args with | some v => K ⟨v, [], []⟩ | none => none
def MF.LKOK (call : CallF) (lp : LK) : MF → Prop
  | .code _ body _ => LK.OK lp call body
  | .law _ => True
theorem MF.LKOK.of {call : CallF} {lp : LK} {m : MF} (h : LK.OK lp call (bodyOf m)) : m.LKOK call lp := by
  cases m with
  | code => exact h
  | law => trivial
theorem runC_le {T : Tab} {S : CK} (hS : CK.OK S (L T)) {hs : HintC} {lp : LK} {f : Nat} {m : MF} (hT : T f = some m) (hl : m.LKOK (L T) lp) {args : List AV} {K : Res → Option ρ} {y : ρ} (e : runC S hs lp m args K = some y) :
    ∃ r, L T f args = some r ∧ K r = some y := by
  cases m with
  | law g =>
    simp only [runC] at e
    split at e
    case h_2 => cases e
    rename_i v hv
    exact ⟨_, L_law hT hv, e⟩
  | code np body rs =>
    simp only [runC] at e
    obtain ⟨hn, e⟩ := chk_le e
    obtain ⟨ex, st, h1, h2⟩ := evCC_le hS body hl e
    have fin : leaveC (enter args 0 0).2.length st rs K = some y → ∀ ex', evL (L T) body ⟨(enter args 0 0).1, (enter args 0 0).2⟩ = some (ex', st) → (∀ j, ex' ≠ .exit j) → ∃ r, L T f args = some r ∧ K r = some y := by
      intro h2 ex' h1 hne
      obtain ⟨r, hr, h2⟩ := leaveC_le h2
      refine ⟨r, L_run hT ?_, h2⟩
      unfold runB
      rw [if_pos (by simpa using hn), h1]
      cases ex' with
      | nrm => exact hr
      | exit id => exact absurd rfl (hne id)
      | ret => exact hr
    cases ex with
    | nrm => exact fin h2 _ h1 (by simp)
    | exit id => cases h2
    | ret => exact fin h2 _ h1 (by simp)
end
end Go.Rv
namespace Go.Rv
inductive Shp where
  | u | np
  | b (x : Option Bool)
  | i (k : IntKind) (n : Option Int)
  | s (x : Option Bys)
  | cx
  | ptr (id z o : Nat) (n x : Option Nat)
  | ref (cs : List Shp) (o : Nat)
  | lst (nl ti : Option Bool) (z : Nat) (xs : Option (List (List Shp)))
  | sl (id z : Nat) (n lo len : Option Nat)
  | agg (cs : List Shp) | tup (cs : List Shp) | fn (g : Nat) (cs : List Shp) | mp (id : Nat) | mv
def OT (α : Type) : Option α → Type
  | none => α
  | some _ => Unit
def OT.v {α : Type} : (o : Option α) → OT α o → α
  | none, x => x
  | some a, _ => a
def decO {α ρ : Type} [BEq α] (o : Option α) (x : α) (K : OT α o → Option ρ) : Option ρ := match o, K with
  | none, K => K x
  | some a, K => (match a == x with | true => K () | false => none)
theorem decO_le {α ρ : Type} [BEq α] [LawfulBEq α] {o : Option α} {x : α} {K : OT α o → Option ρ} {y : ρ} (h : decO o x K = some y) : ∃ c, x = OT.v o c ∧ K c = some y := by
  cases o with
  | none => exact ⟨x, rfl, h⟩
  | some a =>
    simp only [decO] at h
    split at h
    · rename_i ha; exact ⟨(), (by simpa using ha : a = x).symm, h⟩
    · cases h
mutual
def ShT : Shp → Type
  | .u => Unit | .np => Unit | .mp _ => Unit
  | .b x => OT Bool x
  | .i _ n => OT Int n
  | .s x => OT Bys x
  | .cx => Int × Int
  | .ptr _ _ _ n x => OT Nat n × OT Nat x
  | .ref cs _ => ShTL cs
  | .lst nl ti _ xs => OT Bool nl × OT Bool ti × ShTO xs
  | .sl _ _ n lo len => OT Nat n × OT Nat lo × OT Nat len
  | .agg cs => ShTL cs | .tup cs => ShTL cs | .fn _ cs => ShTL cs
  | .mv => Mp
def ShTL : List Shp → Type
  | [] => Unit
  | s :: r => ShT s × ShTL r
def ShTR : List (List Shp) → Type
  | [] => Unit
  | s :: r => ShTL s × ShTR r
def ShTO : Option (List (List Shp)) → Type
  | none => Rows
  | some l => ShTR l
end
mutual
def Shp.av : (s : Shp) → ShT s → AV
  | .u, _ => .u | .np, _ => .np | .mp id, _ => .mp id
  | .b x, c => .b (OT.v x c)
  | .i k n, c => .i k (OT.v n c)
  | .s x, c => .s (OT.v x c)
  | .cx, c => .cx c.1 c.2
  | .ptr id z o n x, c => .ptr id (OT.v n c.1) z (OT.v x c.2) o
  | .ref cs o, c => .ref (avL cs c) o
  | .lst nl ti z xs, c => .lst (OT.v nl c.1) (OT.v ti c.2.1) z (avO xs c.2.2)
  | .sl id z n lo len, c => .sl id (OT.v n c.1) z (OT.v lo c.2.1) (OT.v len c.2.2)
  | .agg cs, c => .agg (avL cs c) | .tup cs, c => .tup (avL cs c) | .fn g cs, c => .fn g (avL cs c)
  | .mv, c => .mv c
def avL : (l : List Shp) → ShTL l → List AV
  | [], _ => []
  | s :: r, c => s.av c.1 :: avL r c.2
def avR : (l : List (List Shp)) → ShTR l → Rows
  | [], _ => []
  | s :: r, c => avL s c.1 :: avR r c.2
def avO : (o : Option (List (List Shp))) → ShTO o → Rows
  | none, xs => xs
  | some l, c => avR l c
end
section
variable {ρ : Type}
mutual
def decV : (s : Shp) → AV → (ShT s → Option ρ) → Option ρ
  | .u, v, K => match v with | .u => K () | _ => none
  | .np, v, K => match v with | .np => K () | _ => none
  | .mp id, v, K => match v with | .mp id' => (match id == id' with | true => K () | false => none) | _ => none
  | .b x, v, K => match v with | .b y => decO x y K | _ => none
  | .i k n, v, K => match v with | .i k' m => (match k == k' with | true => decO n m K | false => none) | _ => none
  | .s x, v, K => match v with | .s y => decO x y K | _ => none
  | .cx, v, K => match v with | .cx a b => K (a, b) | _ => none
  | .ptr id z o n x, v, K => match v with
    | .ptr id' n' z' x' o' => (match id == id' && z == z' && o == o' with | true => decO n n' fun a => decO x x' fun b => K (a, b) | false => none)
    | _ => none
  | .ref cs o, v, K => match v with
    | .ref cs' o' => (match o == o' with | true => decL cs cs' K | false => none)
    | _ => none
  | .lst nl ti z xs, v, K => match v with
    | .lst nl' ti' z' xs' => (match z == z' with | true => decO nl nl' fun a => decO ti ti' fun b => decX xs xs' fun c => K (a, b, c) | false => none)
    | _ => none
  | .sl id z n lo len, v, K => match v with
    | .sl id' n' z' lo' len' => (match id == id' && z == z' with | true => decO n n' fun a => decO lo lo' fun b => decO len len' fun c => K (a, b, c) | false => none)
    | _ => none
  | .agg cs, v, K => match v with | .agg cs' => decL cs cs' K | _ => none
  | .tup cs, v, K => match v with | .tup cs' => decL cs cs' K | _ => none
  | .fn g cs, v, K => match v with | .fn g' cs' => (match g == g' with | true => decL cs cs' K | false => none) | _ => none
  | .mv, v, K => match v with | .mv es => K es | _ => none
def decL : (l : List Shp) → List AV → (ShTL l → Option ρ) → Option ρ
  | [], l, K => match l with | [] => K () | _ => none
  | s :: r, l, K => match l with | v :: w => decV s v fun a => decL r w fun b => K (a, b) | _ => none
def decR : (l : List (List Shp)) → Rows → (ShTR l → Option ρ) → Option ρ
  | [], l, K => match l with | [] => K () | _ => none
  | s :: r, l, K => match l with | v :: w => decL s v fun a => decR r w fun b => K (a, b) | _ => none
def decX : (o : Option (List (List Shp))) → Rows → (ShTO o → Option ρ) → Option ρ
  | none, xs, K => K xs
  | some l, xs, K => decR l xs K
end
mutual
theorem decV_le : ∀ (s : Shp) (v : AV) {K : ShT s → Option ρ} {y : ρ}, decV s v K = some y → ∃ c, v = s.av c ∧ K c = some y
  | .u, v, K, y, h => by cases v <;> first | exact ⟨(), rfl, h⟩ | cases h
  | .np, v, K, y, h => by cases v <;> first | exact ⟨(), rfl, h⟩ | cases h
  | .mp id, v, K, y, h => by
    cases v <;> try cases h
    simp only [decV] at h
    split at h
    · rename_i he; simp at he; subst he; exact ⟨(), rfl, h⟩
    · cases h
  | .b x, v, K, y, h => by
    cases v <;> try cases h
    obtain ⟨c, rfl, h'⟩ := decO_le h
    exact ⟨c, rfl, h'⟩
  | .i k n, v, K, y, h => by
    cases v <;> try cases h
    simp only [decV] at h
    split at h
    · rename_i he; simp at he; subst he
      obtain ⟨c, rfl, h'⟩ := decO_le h
      exact ⟨c, rfl, h'⟩
    · cases h
  | .s x, v, K, y, h => by
    cases v <;> try cases h
    obtain ⟨c, rfl, h'⟩ := decO_le h
    exact ⟨c, rfl, h'⟩
  | .cx, v, K, y, h => by cases v <;> first | exact ⟨(_, _), rfl, h⟩ | cases h
  | .ptr id z o n x, v, K, y, h => by
    cases v <;> try cases h
    simp only [decV] at h
    split at h
    · rename_i he; simp at he; obtain ⟨⟨rfl, rfl⟩, rfl⟩ := he
      obtain ⟨a, rfl, h1⟩ := decO_le h
      obtain ⟨b, rfl, h2⟩ := decO_le h1
      exact ⟨(a, b), rfl, h2⟩
    · cases h
  | .ref cs o, v, K, y, h => by
    cases v <;> try cases h
    simp only [decV] at h
    split at h
    · rename_i he; simp at he; subst he
      obtain ⟨c, rfl, h'⟩ := decL_le cs _ h
      exact ⟨c, rfl, h'⟩
    · cases h
  | .lst nl ti z xs, v, K, y, h => by
    cases v <;> try cases h
    simp only [decV] at h
    split at h
    · rename_i he; simp at he; subst he
      obtain ⟨a, rfl, h1⟩ := decO_le h
      obtain ⟨b, rfl, h2⟩ := decO_le h1
      obtain ⟨c, rfl, h3⟩ := decX_le xs _ h2
      exact ⟨(a, b, c), rfl, h3⟩
    · cases h
  | .sl id z n lo len, v, K, y, h => by
    cases v <;> try cases h
    simp only [decV] at h
    split at h
    · rename_i he; simp at he; obtain ⟨rfl, rfl⟩ := he
      obtain ⟨a, rfl, h1⟩ := decO_le h
      obtain ⟨b, rfl, h2⟩ := decO_le h1
      obtain ⟨c, rfl, h3⟩ := decO_le h2
      exact ⟨(a, b, c), rfl, h3⟩
    · cases h
  | .agg cs, v, K, y, h => by
    cases v <;> try cases h
    obtain ⟨c, rfl, h'⟩ := decL_le cs _ h
    exact ⟨c, rfl, h'⟩
  | .tup cs, v, K, y, h => by
    cases v <;> try cases h
    obtain ⟨c, rfl, h'⟩ := decL_le cs _ h
    exact ⟨c, rfl, h'⟩
  | .fn g cs, v, K, y, h => by
    cases v <;> try cases h
    simp only [decV] at h
    split at h
    · rename_i he; simp at he; subst he
      obtain ⟨c, rfl, h'⟩ := decL_le cs _ h
      exact ⟨c, rfl, h'⟩
    · cases h
  | .mv, v, K, y, h => by cases v <;> first | exact ⟨_, rfl, h⟩ | cases h
theorem decL_le : ∀ (s : List Shp) (v : List AV) {K : ShTL s → Option ρ} {y : ρ}, decL s v K = some y → ∃ c, v = avL s c ∧ K c = some y
  | [], v, K, y, h => by cases v <;> first | exact ⟨(), rfl, h⟩ | cases h
  | s :: r, v, K, y, h => by
    cases v <;> try cases h
    simp only [decL] at h
    obtain ⟨a, rfl, h1⟩ := decV_le s _ h
    obtain ⟨b, rfl, h2⟩ := decL_le r _ h1
    exact ⟨(a, b), rfl, h2⟩
theorem decR_le : ∀ (s : List (List Shp)) (v : Rows) {K : ShTR s → Option ρ} {y : ρ}, decR s v K = some y → ∃ c, v = avR s c ∧ K c = some y
  | [], v, K, y, h => by cases v <;> first | exact ⟨(), rfl, h⟩ | cases h
  | s :: r, v, K, y, h => by
    cases v <;> try cases h
    simp only [decR] at h
    obtain ⟨a, rfl, h1⟩ := decL_le s _ h
    obtain ⟨b, rfl, h2⟩ := decR_le r _ h1
    exact ⟨(a, b), rfl, h2⟩
theorem decX_le : ∀ (s : Option (List (List Shp))) (v : Rows) {K : ShTO s → Option ρ} {y : ρ}, decX s v K = some y → ∃ c, v = avO s c ∧ K c = some y
  | none, v, K, y, h => ⟨v, rfl, h⟩
  | some l, v, K, y, h => by
    obtain ⟨c, rfl, h'⟩ := decR_le l v h
    exact ⟨c, rfl, h'⟩
end
inductive BShp where
  | row (z : Nat) (p im : Bool) (xs : Option (List (List Shp)))
  | map
def BShT : BShp → Type
  | .row _ _ _ xs => ShTO xs
  | .map => Mp
def BShp.bk : (s : BShp) → BShT s → Blk
  | .row z p im xs, c => .row z p im (avO xs c)
  | .map, c => .map c
def decB : (s : BShp) → Blk → (BShT s → Option ρ) → Option ρ
  | .row z p im xs, v, K => match v with
    | .row z' p' im' xs' => (match z == z' && p == p' && im == im' with | true => decX xs xs' K | false => none)
    | _ => none
  | .map, v, K => match v with | .map es => K es | _ => none
theorem decB_le (s : BShp) (v : Blk) {K : BShT s → Option ρ} {y : ρ} (h : decB s v K = some y) : ∃ c, v = s.bk c ∧ K c = some y := by
  cases s with
  | row z p im xs =>
    cases v <;> try cases h
    simp only [decB] at h
    split at h
    · rename_i he; simp at he; obtain ⟨⟨rfl, rfl⟩, rfl⟩ := he
      obtain ⟨c, rfl, h'⟩ := decX_le xs _ h
      exact ⟨c, rfl, h'⟩
    · cases h
  | map => cases v <;> first | exact ⟨_, rfl, h⟩ | cases h
def FShT : List (Nat × Shp) → Type
  | [] => Unit
  | p :: r => ShT p.2 × FShT r
def frOf : (l : List (Nat × Shp)) → FShT l → Fr
  | [], _ => []
  | p :: r, c => (p.1, p.2.av c.1) :: frOf r c.2
def decFr : (l : List (Nat × Shp)) → Fr → (FShT l → Option ρ) → Option ρ
  | [], l, K => match l with | [] => K () | _ => none
  | p :: r, l, K => match l with
    | q :: w => (match p.1 == q.1 with | true => decV p.2 q.2 fun a => decFr r w fun b => K (a, b) | false => none)
    | _ => none
theorem decFr_le : ∀ (l : List (Nat × Shp)) (fr : Fr) {K : FShT l → Option ρ} {y : ρ}, decFr l fr K = some y → ∃ c, fr = frOf l c ∧ K c = some y
  | [], v, K, y, h => by cases v <;> first | exact ⟨(), rfl, h⟩ | cases h
  | p :: r, v, K, y, h => by
    cases v with
    | nil => cases h
    | cons q w =>
      obtain ⟨k, v⟩ := q
      simp only [decFr] at h
      split at h
      · rename_i he; simp at he; subst he
        obtain ⟨a, rfl, h1⟩ := decV_le _ _ h
        obtain ⟨b, rfl, h2⟩ := decFr_le r _ h1
        exact ⟨(a, b), rfl, h2⟩
      · cases h
def LShT : List BShp → Type
  | [] => Unit
  | p :: r => BShT p × LShT r
def locOf : (l : List BShp) → LShT l → Loc
  | [], _ => []
  | p :: r, c => p.bk c.1 :: locOf r c.2
def decLoc : (l : List BShp) → Loc → (LShT l → Option ρ) → Option ρ
  | [], l, K => match l with | [] => K () | _ => none
  | p :: r, l, K => match l with
    | q :: w => decB p q fun a => decLoc r w fun b => K (a, b)
    | _ => none
theorem decLoc_le : ∀ (l : List BShp) (loc : Loc) {K : LShT l → Option ρ} {y : ρ}, decLoc l loc K = some y → ∃ c, loc = locOf l c ∧ K c = some y
  | [], v, K, y, h => by cases v <;> first | exact ⟨(), rfl, h⟩ | cases h
  | p :: r, v, K, y, h => by
    cases v with
    | nil => cases h
    | cons q w =>
      simp only [decLoc] at h
      obtain ⟨a, rfl, h1⟩ := decB_le _ _ h
      obtain ⟨b, rfl, h2⟩ := decLoc_le r _ h1
      exact ⟨(a, b), rfl, h2⟩
def decSt (f : List (Nat × Shp)) (l : List BShp) (st : St) (K : FShT f → LShT l → Option ρ) : Option ρ := decFr f st.fr fun a => decLoc l st.loc fun b => K a b
theorem decSt_le {f : List (Nat × Shp)} {l : List BShp} {st : St} {K : FShT f → LShT l → Option ρ} {y : ρ} (h : decSt f l st K = some y) : ∃ a b, st = ⟨frOf f a, locOf l b⟩ ∧ K a b = some y := by
  obtain ⟨fr, loc⟩ := st
  unfold decSt at h
  obtain ⟨a, h0, h1⟩ := decFr_le _ _ h
  obtain ⟨b, h2, h3⟩ := decLoc_le _ _ h1
  simp only at h0 h2
  subst h0 h2
  exact ⟨a, b, rfl, h3⟩
end
theorem LE.shp {f : List (Nat × Shp)} {l : List BShp} {e : LE} {call : CallF} {p : Nat × List Nat × List Nat × MC}
    {B : (ρ : Type) → (Ex → St → Option ρ) → FShT f → LShT l → Option ρ}
    (he : ∀ ρ h K, e ρ h K = decSt f l h (B ρ K))
    (hb : ∀ ρ K y a b, B ρ K a b = some y → ∃ ex st', LR call p.2.1 p.2.2.1 p.2.2.2 (locOf l b).length ⟨frOf f a, locOf l b⟩ (ex, st') ∧ K ex st' = some y) : LE.OK e call p := by
  intro ρ h K y h1
  rw [he] at h1
  obtain ⟨a, b, rfl, h2⟩ := decSt_le h1
  exact hb ρ K y a b h2
theorem LE.rounds {f : List (Nat × Shp)} {l : List BShp} {call : CallF} {p : Nat × List Nat × List Nat × MC} {S : CK} (hS : CK.OK S call) {hs : HintC} {lp : LK} (hl : LK.OK lp call p.2.2.2) {V : Type} {l0 : Nat}
    {ρ : Type} {K : Ex → St → Option ρ} {y : ρ} {a : FShT f} {b : LShT l} {enc : V → St} {step : (V → Option ρ) → V → Option ρ} {n : Nat} {v : V}
    (hk : ∀ N w, roundC S hs lp p l0 N K (enc w) = step (fun w => N (enc w)) w) (h0 : (locOf l b).length = l0) (h1 : (⟨frOf f a, locOf l b⟩ : St) = enc v) (e : fuelN step n v = some y) :
    ∃ ex st', LR call p.2.1 p.2.2.1 p.2.2.2 (locOf l b).length ⟨frOf f a, locOf l b⟩ (ex, st') ∧ K ex st' = some y := by
  rw [h0, h1]
  exact fuelN_LR hS hl n ((fuelN_enc enc (round := fun N h => roundC S hs lp p l0 N K h) hk n v).symm.trans e)
theorem EK.shp {s : List Shp} {e : EK} {call : CallF} {f : Nat} {B : (ρ : Type) → (Res → Option ρ) → ShTL s → Option ρ}
    (he : ∀ ρ args K, e ρ args K = decL s args (B ρ K)) (hb : ∀ ρ K y c, B ρ K c = some y → ∃ r, call f (avL s c) = some r ∧ K r = some y) : EK.OK e f call := by
  intro ρ args K y h1
  rw [he] at h1
  obtain ⟨c, rfl, h2⟩ := decL_le _ _ h1
  exact hb ρ K y c h2
end Go.Rv
namespace Go.Rv
theorem EK.run {T : Tab} {S : CK} (hS : CK.OK S (L T)) {hs : HintC} {lp : LK} {f : Nat} {m : MF} (hT : T f = some m) (hl : m.LKOK (L T) lp) {s : List Shp} {c : ShTL s} {args : List AV} {ρ : Type} {K : Res → Option ρ} {y : ρ} {rhs : Option ρ}
    (hk : runC S hs lp m args K = rhs) (ha : avL s c = args) (e : rhs = some y) : ∃ r, L T f (avL s c) = some r ∧ K r = some y := by
  rw [ha]; exact runC_le hS hT hl (hk.trans e)
def bs {ρ : Type} (b : Bool) (a : Option ρ) : Option ρ := bif b then a else a
def altE (s : List Shp) (a b : EK) : EK := fun ρ args K => match (decL s args (fun _ => some ())).isSome with
  | true => a ρ args K
  | false => b ρ args K
theorem altE_ok {s : List Shp} {a b : EK} {f : Nat} {call : CallF} (ha : EK.OK a f call) (hb : EK.OK b f call) : EK.OK (altE s a b) f call := by
  intro ρ args K y h
  unfold altE at h
  split at h
  · exact ha ρ args K y h
  · exact hb ρ args K y h
def altL (f : List (Nat × Shp)) (l : List BShp) (a b : Go.Rv.LE) : Go.Rv.LE := fun ρ h K => match (decSt f l h (fun _ _ => some ())).isSome with
  | true => a ρ h K
  | false => b ρ h K
theorem altL_ok {f : List (Nat × Shp)} {l : List BShp} {a b : Go.Rv.LE} {call : CallF} {p : Nat × List Nat × List Nat × MC} (ha : LE.OK a call p) (hb : LE.OK b call p) : LE.OK (altL f l a b) call p := by
  intro ρ h K y e
  unfold altL at e
  split at e
  · exact ha ρ h K y e
  · exact hb ρ h K y e
end Go.Rv
namespace Go.Rv
def sigOf : List (Nat × Nat) → Num
  | [], _ => none
  | p :: l, k => match p.1 == k with
    | true => some p.2
    | false => sigOf l k
theorem sigOf_mem : ∀ (l : List (Nat × Nat)) {k g : Nat}, sigOf l k = some g → (k, g) ∈ l
  | [], _, _, e => by cases e
  | p :: l, k, g, e => by
    simp only [sigOf] at e
    split at e
    · rename_i hp; simp at hp e; subst hp; subst e; exact List.mem_cons_self ..
    · exact List.mem_cons_of_mem _ (sigOf_mem l e)
def Tied (P : Program) (σ : Num) (T : Tab) (p : Nat × Nat) : Prop :=
  ∃ fn, P.funcs[p.1]? = some fn ∧ fn.body.isSome = true ∧ (fn.name == "runtime.NumGoroutine") = false ∧ ∃ kill uno live fz m, trF σ P kill uno live fz fn = some m ∧ T p.2 = some m
def Tied2 (P : Program) (σ : Num) (T : Tab) (p : Nat × Nat) : Prop :=
  Tied P σ T p ∨ ((∃ fn, P.funcs[p.1]? = some fn ∧ fn.body.isSome = true ∧ (fn.name == "runtime.NumGoroutine") = false) ∧ ∃ l, T p.2 = some (.law l) ∧ LawOK P σ p.1 l)
theorem sigOK_of {P : Program} {T : Tab} {l : List (Nat × Nat)} (h : ∀ p ∈ l, Tied2 P (sigOf l) T p) : SigOK P (sigOf l) := by
  intro k g e
  rcases h _ (sigOf_mem l e) with ⟨fn, h1, h2, h3, _⟩ | ⟨⟨fn, h1, h2, h3⟩, _⟩
  · exact ⟨fn, h1, h2, h3⟩
  · exact ⟨fn, h1, h2, h3⟩
theorem tabOK_of {P : Program} {T : Tab} {l : List (Nat × Nat)} (h : ∀ p ∈ l, Tied2 P (sigOf l) T p) : TabOK P (sigOf l) T := by
  intro k g mf e e2
  rcases h _ (sigOf_mem l e) with ⟨fn, h1, _, _, kill, uno, live, fz, m, h4, h5⟩ | ⟨_, m, h5, h6⟩
  · simp only at h4 h5
    rw [e2] at h5; simp at h5; subst h5
    exact .inr ⟨fn, kill, uno, live, fz, h1, h4⟩
  · simp only at h5 h6
    rw [e2] at h5; simp at h5; subst h5
    exact .inl ⟨m, rfl, h6⟩
theorem lawOK_of {P : Program} {σ : Num} {k : FuncId} {g : List AV → Option AV}
    (h : ∀ (args : List AV) (v : AV), g args = some v → ∀ (im : Nat → Prop) (w : World) (cargs : List Value), args.length = cargs.length →
      (∀ (j : Nat) (x : AV) (v : Value), args[j]? = some x → cargs[j]? = some v → ArgR σ im w.heap x v) →
      ∃ cv, (∀ h, VI σ im h v cv) ∧ lentB args cargs = [] ∧ Calls P k cargs.toArray w fun e w' => e = .returned cv ∧ Go.RowKit.Below w.heap.size w w') : LawOK P σ k g := by
  intro args v hv im w cargs hl hr him
  obtain ⟨cv, h1, h2, h3⟩ := h args v hv im w cargs hl hr
  refine h3.mono ?_
  rintro e w' ⟨rfl, hb⟩
  refine ⟨cv, im, fun _ => none, rfl, fun _ h => h, fun _ h => .inl h, fun b hb' => Nat.lt_of_lt_of_le (him b hb') hb.size, ⟨hb.os, hb.tape, hb.output, hb.size, fun k hk _ => hb.block k hk⟩, fun _ _ => rfl, fun id b hb => by simp at hb, fun i j a b ha => by simp at ha, .imm (h1 _), by rw [h2]; rfl, fun j b es hj => by rw [h2] at hj; simp at hj⟩
theorem args_ss {σ : Num} {im : Nat → Prop} {h : Array Obj} {a b : List UInt8} {cargs : List Value} (hl : [AV.s a, AV.s b].length = cargs.length)
    (hr : ∀ (j : Nat) (x : AV) (v : Value), [AV.s a, AV.s b][j]? = some x → cargs[j]? = some v → ArgR σ im h x v) : ∃ x y : ByteArray, a = x.data.toList ∧ b = y.data.toList ∧ cargs = [.string x, .string y] := by
  match cargs, hl with
  | [u, v], _ =>
    have h0 := hr 0 _ u rfl rfl
    have h1 := hr 1 _ v rfl rfl
    cases h0 with | vi h0 => cases h1 with | vi h1 => cases h0 with | s e => cases h1 with | s e' => exact ⟨_, _, e, e', rfl⟩
def byK : List (Nat × List Nat) → Nat → List Nat
  | [], _ => []
  | p :: l, k => match p.1 == k with
    | true => p.2
    | false => byK l k
def byKK : List (Nat × List (Nat × List Nat)) → Nat → Nat → List Nat
  | [], _, _ => []
  | p :: l, k, j => match p.1 == k with
    | true => byK p.2 j
    | false => byKK l k j
def byP : List (Nat × (List Nat × List Nat)) → Nat → List Nat × List Nat
  | [], _ => ([], [])
  | p :: l, k => match p.1 == k with
    | true => p.2
    | false => byP l k
end Go.Rv
namespace Go.Rv
open Go.ChangeShapes Go.WideShapes Go.ChangeAt Go.RowKit
section
variable {H : Type} {enc : TypeId × Value → H} {P : Program} {σ : Num}
theorem trodAll_stays (hl : laidOutB P = true) {W W' : World} (hb : Below W.heap.size W W') {sp : Nat → Bool} :
    ∀ (ts : List TypeId), (∀ t ∈ ts, P.readableRec t = true ∧ t < P.types.size) → ∀ {vs : List Value} {ds : List (DataW H)} {ps : List MemPlace}, DataW.TrodAll enc P W 0 (fun _ => true) true ts vs ds ps →
      (∀ x ∈ ps, x.block < W.heap.size) → (∀ x ∈ ps, sp x.block = true) → DataW.TrodAll enc P W' 0 sp true ts vs ds ps
  | [], _, vs, ds, ps, h, _, _ => by
    obtain ⟨rfl, rfl, rfl⟩ := trodAll_nil h
    exact trodAll_mk0
  | t :: ts, ht, vs, ds, ps, h, h1, h2 => by
    obtain ⟨v, vs', d, ds', p, q, rfl, rfl, rfl, hd, hr⟩ := trodAll_cons h
    obtain ⟨ha, hc⟩ := ht t (List.mem_cons_self ..)
    exact trodAll_cons_mk (WideElems.Trod_stays hl ha hc hd (fun x hx => hb.same (h1 x (List.mem_append_left _ hx))) (fun x hx => h2 x (List.mem_append_left _ hx)))
      (trodAll_stays hl hb ts (fun u hu => ht u (List.mem_cons_of_mem _ hu)) hr (fun x hx => h1 x (List.mem_append_right _ hx)) (fun x hx => h2 x (List.mem_append_right _ hx)))
def TyArgs (P : Program) (n : Nat) : List TypeId → List AV → Prop
  | [], [] => True
  | t :: ts, x :: xs => TyArg P n t x ∧ TyArgs P n ts xs
  | _, _ => False
theorem args_ok {w : World} {base b0 : Nat} {spare : Nat → Bool} {held : Bool} {r : Reach} {n : Nat} :
    ∀ (ts : List TypeId), (∀ t ∈ ts, plainT P n true t = true) → ∀ {vs : List Value} {ds : List (DataW H)} {ps : List MemPlace}, (∀ (j : Nat) t v, ts[j]? = some t → vs[j]? = some v → Value.okWide P w r b0 t v) →
      DataW.TrodAll enc P w base spare held ts vs ds ps →
      ∃ xs : List AV, xs.length = vs.length ∧ TyArgs P n ts xs ∧ ∀ (j : Nat) (x : AV) (v : Value), xs[j]? = some x → vs[j]? = some v → VI σ (· < w.heap.size) w.heap x v
  | [], _, vs, ds, ps, _, h => by
    obtain ⟨rfl, rfl, rfl⟩ := trodAll_nil h
    exact ⟨[], rfl, trivial, fun j x v hx => by simp at hx⟩
  | t :: ts, hp, vs, ds, ps, hv, h => by
    obtain ⟨v, vs', d, ds', p, q, rfl, rfl, rfl, hd, hr⟩ := trodAll_cons h
    obtain ⟨x, h1, h2⟩ := arg_ok (σ := σ) (hp t (List.mem_cons_self ..)) (hv 0 t v rfl rfl) hd
    obtain ⟨xs, h3, h4, h5⟩ := args_ok ts (fun u hu => hp u (List.mem_cons_of_mem _ hu)) (fun j u w hu hw => hv (j + 1) u w (by simpa using hu) (by simpa using hw)) hr
    refine ⟨x :: xs, by simp [h3], ⟨h2, h4⟩, fun j y u hy hu => ?_⟩
    cases j with
    | zero => simp at hy hu; subst hy; subst hu; exact h1
    | succ j => exact h5 j y u (by simpa using hy) (by simpa using hu)
theorem post_of_below {f : Func} {s : ChangeSpec} {apart fresh handsOn again : Bool} {W W' : World} {args : Array Value} {v : Value} {ds gs : List (DataW H)} {before pa pv : List MemPlace}
    (hW : DataW.Whole enc P f.params.toList s.vars apart W args.toList ds gs before) (hb : Below W.heap.size W W')
    (hres : ∀ (b : Nat) (sp : Nat → Bool) (hd : Bool), DataW.TrodAll enc P W' b sp hd f.resultTypes.toList (v.resultList f.resultTypes.size) (s.fn H (ds ++ gs)).results [])
    (hargs : ∀ sp : Nat → Bool, (∀ p ∈ before, sp p.block = true) → DataW.TrodAll enc P W' 0 sp true f.params.toList args.toList (s.fn H (ds ++ gs)).args pa)
    (hvars : ∀ sp : Nat → Bool, (∀ p ∈ before, sp p.block = true) → DataW.TrodVars enc P W' sp s.vars (s.fn H (ds ++ gs)).vars pv)
    (hps : before = pa ++ pv)
    (hok : ∀ (j : Nat) (t : TypeId) (r : Value), f.resultTypes[j]? = some t → (v.resultList f.resultTypes.size)[j]? = some r → Value.okWide P W' .any 0 t r) :
    s.post enc P f apart fresh handsOn again W args v W' := by
  have hlt : ∀ p ∈ before, p.block < W.heap.size := fun p hp => hW.lt p hp
  have hold : ∀ p ∈ before, (fun b => decide (b < W.heap.size)) p.block = true := fun p hp => by simpa using hlt p hp
  refine ⟨ds, gs, before, [], pa, pv, hW, hres _ _ _, hargs _ hold, hvars _ hold, World.keptBut_mono (fun p hp => ⟨hp, ?_⟩) (hb.frame _), fun _ => ?_⟩
  · rw [hps, List.mem_append] at hp
    exact Or.inr hp
  · obtain ⟨_, _, _, _, _, hz, hn⟩ := hW
    refine ⟨hok, _, _, ([] ++ pa) ++ pv, ⟨[] ++ pa, pv, trodAll_append (hargs _ (fun _ _ => rfl)) (hres _ _ _), hvars _ (fun _ _ => rfl), rfl, ?_, ?_⟩, ?_⟩
    · intro b off hp
      have hm : MemPlace.cell b off ∈ before := by rw [hps]; simpa using hp
      rw [hb.frozen (hlt _ hm)]
      exact hz b off hm
    · intro ha
      have := hn ha
      rw [hps] at this
      simpa using this
    · intro p hp _
      rw [hps]
      simpa using hp
theorem law_contract (hm : P.follows .mixedOrders = true) (hl : laidOutB P = true) (hσ : SigOK P σ) {T : Tab} (hT : TabOK P σ T) {k g n : Nat} (hk : σ k = some g) {fn : Func} {s : ChangeSpec}
    (hplain : ∀ t ∈ fn.params.toList, plainT P n true t = true ∧ P.readableRec t = true ∧ t < P.types.size) {tb : TypeId} (hres : fn.resultTypes = #[tb]) (htb : P.underlying tb = some .bool) (hvars : s.vars = [])
    (hspec : ∀ (H : Type) (ds : List (DataW H)), ds.length = fn.params.size → s.fn H ds = { results := [.lit (.bool true)], args := ds })
    (main : ∀ xs, TyArgs P n fn.params.toList xs → ∃ r, L T g xs = some r ∧ r.v = .b true) {apart fresh handsOn again : Bool}
    (W : World) (base : Nat) (args : Array Value) (ds gs : List (DataW H)) (before : List MemPlace)
    (hval : ∀ (j : Nat) t v, fn.params[j]? = some t → args[j]? = some v → Value.okWide P W .any base t v)
    (hW : DataW.Whole enc P fn.params.toList s.vars apart W args.toList ds gs before) :
    Calls P k args W fun e W' => ∃ v, e = .returned v ∧ s.post enc P fn apart fresh handsOn again W args v W' := by
  have hW' := hW
  obtain ⟨p, q, hA, hV, rfl, hfz, hnd⟩ := hW
  rw [hvars] at hV
  obtain ⟨rfl, rfl⟩ := trodVars_none hV
  obtain ⟨xs, h1, h2, h3⟩ := args_ok (σ := σ) fn.params.toList (fun t ht => (hplain t ht).1) (fun j t v ht hv => hval j t v (by simpa using ht) (by simpa using hv)) hA
  obtain ⟨r, hr, hv⟩ := main xs h2
  obtain ⟨m, hm'⟩ := L_inv hr
  have hlen : ds.length = fn.params.size := by
    have : ∀ (ts : List TypeId) {vs : List Value} {ds : List (DataW H)} {ps : List MemPlace}, DataW.TrodAll enc P W 0 (fun _ => true) true ts vs ds ps → ds.length = ts.length := by
      intro ts
      induction ts with
      | nil => intro vs ds ps h; obtain ⟨_, rfl, _⟩ := trodAll_nil h; rfl
      | cons t ts ih => intro vs ds ps h; obtain ⟨_, _, _, _, _, _, _, rfl, _, _, hr⟩ := trodAll_cons h; simp [ih hr]
    simpa using this _ hA
  have hcalls := law_walk hm hσ hT hk hm' hv (w := W) (cargs := args.toList) (by rw [h1]) h3
  have hto : args.toList.toArray = args := by simp
  rw [hto] at hcalls
  refine hcalls.mono fun e W' ⟨he, hw⟩ => ?_
  subst he
  have hlt : ∀ x ∈ p ++ [], x.block < W.heap.size := fun x hx => hW'.lt x hx
  refine ⟨_, rfl, post_of_below (pa := p) (pv := []) hW' hw (fun b sp hd => ?_) (fun sp hsp => ?_) (fun sp hsp => ?_) rfl ?_⟩
  · rw [List.append_nil, hspec H ds hlen, hres]
    exact trodAll_mk1 (shut_bool htb true)
  · rw [List.append_nil, hspec H ds hlen]
    exact trodAll_stays hl hw _ (fun t ht => (hplain t ht).2) hA (fun x hx => hlt x (by simpa using hx)) (fun x hx => hsp x (by simpa using hx))
  · rw [hvars, List.append_nil, hspec H ds hlen]
    rfl
  · exact ok_one hres rfl (okWide_bool_mk htb true)
end
end Go.Rv
namespace Go.Rv
def Al : List Ce → List AV → Prop
  | [], [] => True
  | .b :: s, v :: r => (∃ x, v = .b x) ∧ Al s r
  | .i k :: s, v :: r => (∃ n, v = .i k n ∧ (Lit.int k n).wf = true) ∧ Al s r
  | .s :: s, v :: r => (∃ x, v = .s x) ∧ Al s r
  | .a :: s, _ :: r => Al s r
  | _, _ => False
theorem Al.app : ∀ {s t : List Ce} {l m : List AV}, Al s l → Al t m → Al (s ++ t) (l ++ m)
  | [], t, [], m, _, h => h
  | [], _, _ :: _, _, h, _ => by cases h
  | .b :: s, t, v :: r, m, ⟨h1, h2⟩, h => ⟨h1, Al.app h2 h⟩
  | .i _ :: s, t, v :: r, m, ⟨h1, h2⟩, h => ⟨h1, Al.app h2 h⟩
  | .s :: s, t, v :: r, m, ⟨h1, h2⟩, h => ⟨h1, Al.app h2 h⟩
  | .a :: s, t, v :: r, m, h1, h => Al.app (s := s) h1 h
  | .b :: _, _, [], _, h, _ => by cases h
  | .i _ :: _, _, [], _, h, _ => by cases h
  | .s :: _, _, [], _, h, _ => by cases h
  | .a :: _, _, [], _, h, _ => by cases h
inductive Ty1 where
  | c (k : Ce)
  | l (z : Nat) (ks : List Ce)
def Ty1.ok : Ty1 → AV → Prop
  | .c k, v => Al [k] [v]
  | .l z ks, v => ∃ nl ti xs, v = .lst nl ti z xs ∧ (nl = true → xs = []) ∧ xs.length ≤ maxLen ∧ ∀ x ∈ xs, Al ks x
def AlT : List Ty1 → List AV → Prop
  | [], [] => True
  | t :: s, v :: r => t.ok v ∧ AlT s r
  | _, _ => False
theorem AlT.app : ∀ {s t : List Ty1} {l m : List AV}, AlT s l → AlT t m → AlT (s ++ t) (l ++ m)
  | [], _, [], _, _, h => h
  | [], _, _ :: _, _, h, _ => by cases h
  | _ :: _, _, [], _, h, _ => by cases h
  | _ :: _, _, _ :: _, _, ⟨h1, h2⟩, h => ⟨h1, AlT.app h2 h⟩
def ceOf : Ty1 → Option Ce
  | .c k => some k
  | .l .. => none
def cesOf : List Ty1 → Option (List Ce)
  | [] => some []
  | t :: s => match ceOf t, cesOf s with
    | some k, some l => some (k :: l)
    | _, _ => none
theorem cesOf_al : ∀ {s : List Ty1} {ks : List Ce} {l : List AV}, cesOf s = some ks → AlT s l → Al ks l
  | [], ks, [], h, _ => by simp [cesOf] at h; subst h; trivial
  | [], _, _ :: _, _, h => by cases h
  | _ :: _, _, [], _, h => by cases h
  | .l .. :: s, ks, v :: r, h, _ => by simp [cesOf, ceOf] at h
  | .c k :: s, ks, v :: r, h, ⟨h1, h2⟩ => by
    simp only [cesOf, ceOf] at h
    split at h
    · rename_i k' l' e1 e2
      simp at e1 h; subst e1; subst h
      have := cesOf_al e2 h2
      cases k <;> simp only [Ty1.ok, Al] at h1 ⊢ <;> first | exact ⟨h1.1, this⟩ | exact this
    · cases h
def flatFs (fl : TypeId → Option (List Ty1)) : List Field → Option (List Ty1)
  | [] => some []
  | f :: r => match fl f.type, flatFs fl r with
    | some a, some b => some (a ++ b)
    | _, _ => none
def flat1 (P : Program) : Nat → TypeId → Option (List Ty1)
  | 0, _ => none
  | n + 1, t => match P.underlying t with
    | some .bool => some [.c .b]
    | some (.int k) => some [.c (.i k)]
    | some .string => some [.c .s]
    | some (.slice e) => match flat1 P n e with
      | some l => (cesOf l).map fun ks => [.l (P.cellsOf e) ks]
      | none => none
    | some (.struct fs) => flatFs (flat1 P n) fs.toList
    | some (.array m e) => (flat1 P n e).map fun l => (List.replicate m l).flatten
    | _ => none
theorem flatFs_ok {P : Program} {ty : TypeId → List AV → Prop} {fl : TypeId → Option (List Ty1)} (h : ∀ t l ts, ty t l → fl t = some ts → AlT ts l) : ∀ (fs : List Field) {l : List AV} {ts : List Ty1}, TyFs P ty fs l → flatFs fl fs = some ts → AlT ts l
  | [], l, ts, h1, h2 => by simp [flatFs] at h2; subst h2; simp [TyFs] at h1; subst h1; trivial
  | f :: r, l, ts, ⟨p, q, e, h3, h4⟩, h2 => by
    simp only [flatFs] at h2
    split at h2
    · rename_i x y e1 e2
      simp at h2; subst h2; subst e
      exact AlT.app (h _ _ _ h3 e1) (flatFs_ok h r h4 e2)
    · cases h2
theorem flatEs_ok {ty : List AV → Prop} {ts : List Ty1} (h : ∀ l, ty l → AlT ts l) : ∀ (m : Nat) {l : List AV}, TyEs ty m l → AlT (List.replicate m ts).flatten l
  | 0, l, h1 => by simp [TyEs] at h1; subst h1; trivial
  | m + 1, l, ⟨p, q, e, h3, h4⟩ => by
    subst e
    rw [List.replicate_succ, List.flatten_cons]
    exact AlT.app (h _ h3) (flatEs_ok h m h4)
theorem flat1_ok {P : Program} : ∀ (n : Nat) (t : TypeId) (l : List AV) (ts : List Ty1), TyAV P n t l → flat1 P n t = some ts → AlT ts l
  | 0, _, _, _, h, _ => h.elim
  | n + 1, t, l, ts, h, h2 => by
    simp only [TyAV] at h
    simp only [flat1] at h2
    split at h2
    · rename_i ht
      rw [ht] at h
      simp at h2; subst h2
      obtain ⟨x, rfl⟩ := h
      exact ⟨⟨⟨x, rfl⟩, trivial⟩, trivial⟩
    · rename_i k ht
      rw [ht] at h
      simp at h2; subst h2
      obtain ⟨x, rfl, hw⟩ := h
      exact ⟨⟨⟨x, rfl, hw⟩, trivial⟩, trivial⟩
    · rename_i ht
      rw [ht] at h
      simp at h2; subst h2
      obtain ⟨x, rfl⟩ := h
      exact ⟨⟨⟨x, rfl⟩, trivial⟩, trivial⟩
    · rename_i e ht
      rw [ht] at h
      split at h2
      · rename_i tl he
        rw [Option.map_eq_some_iff] at h2
        obtain ⟨ks, hk, rfl⟩ := h2
        obtain ⟨nl, ti, xs, rfl, h3, h4, h5⟩ := h
        exact ⟨⟨nl, ti, xs, rfl, h3, h4, fun x hx => cesOf_al hk (flat1_ok n e x tl (h5 x hx) he)⟩, trivial⟩
      · cases h2
    · rename_i fs ht
      rw [ht] at h
      exact flatFs_ok (P := P) (fun t l ts => flat1_ok n t l ts) fs.toList h h2
    · rename_i m e ht
      rw [ht] at h
      rw [Option.map_eq_some_iff] at h2
      obtain ⟨tl, he, rfl⟩ := h2
      exact flatEs_ok (fun l hl => flat1_ok n e l tl hl he) m h
    · cases h2
theorem TyArg_agg {P : Program} {n : Nat} {t : TypeId} {x : AV} {ts : List Ty1} (h : TyArg P n t x) (ha : (match P.underlying t with | some (.struct _) | some (.array _ _) => true | _ => false) = true) (hf : flat1 P n t = some ts) : ∃ l, x = .agg l ∧ AlT ts l := by
  unfold TyArg at h
  split at h
  · obtain ⟨l, rfl, h⟩ := h; exact ⟨l, rfl, flat1_ok n t l ts h hf⟩
  · obtain ⟨l, rfl, h⟩ := h; exact ⟨l, rfl, flat1_ok n t l ts h hf⟩
  · rename_i h1 h2
    exfalso
    split at ha
    · rename_i fs ht; exact h1 _ ht
    · rename_i k e ht; exact h2 _ _ ht
    · cases ha
theorem TyArg_one {P : Program} {n : Nat} {t : TypeId} {x : AV} {ts : List Ty1} (h : TyArg P n t x) (ha : (match P.underlying t with | some (.struct _) | some (.array _ _) => true | _ => false) = false) (hf : flat1 P n t = some ts) : AlT ts [x] := by
  unfold TyArg at h
  split at h
  · rename_i fs ht; rw [ht] at ha; cases ha
  · rename_i k e ht; rw [ht] at ha; cases ha
  · exact flat1_ok n t [x] ts h hf
theorem AlT.uncons {t : Ty1} {s : List Ty1} {l : List AV} (h : AlT (t :: s) l) : ∃ v r, l = v :: r ∧ t.ok v ∧ AlT s r := by
  cases l with
  | nil => exact h.elim
  | cons v r => exact ⟨v, r, rfl, h.1, h.2⟩
theorem AlT.none {l : List AV} (h : AlT [] l) : l = [] := by
  cases l with
  | nil => rfl
  | cons v r => exact h.elim
theorem Ty1.ok_int {k : IntKind} {v : AV} (h : Ty1.ok (.c (.i k)) v) : ∃ n, v = .i k n ∧ (Lit.int k n).wf = true := h.1
theorem AlT_state {l : List AV} {z1 z2 : Nat} {k1 k2 : List Ce} (h : AlT [.c (.i .i64), .c (.i .i64), .c (.i .i64), .l z1 k1, .l z2 k2] l) :
    ∃ (a b c : Int) (x y z w : Bool) (xs ys : Rows), l = [.i .i64 a, .i .i64 b, .i .i64 c, .lst x y z1 xs, .lst z w z2 ys] ∧ (Lit.int .i64 a).wf = true ∧ (Lit.int .i64 b).wf = true ∧ (Lit.int .i64 c).wf = true ∧
      xs.length ≤ maxLen ∧ ys.length ≤ maxLen ∧ (∀ x ∈ xs, Al k1 x) ∧ (∀ x ∈ ys, Al k2 x) ∧ (x = true → xs = []) ∧ (z = true → ys = []) := by
  obtain ⟨v1, r1, rfl, h1, g1⟩ := h.uncons
  obtain ⟨v2, r2, rfl, h2, g2⟩ := g1.uncons
  obtain ⟨v3, r3, rfl, h3, g3⟩ := g2.uncons
  obtain ⟨v4, r4, rfl, h4, g4⟩ := g3.uncons
  obtain ⟨v5, r5, rfl, h5, g5⟩ := g4.uncons
  obtain rfl := g5.none
  obtain ⟨a, rfl, wa⟩ := Ty1.ok_int h1
  obtain ⟨b, rfl, wb⟩ := Ty1.ok_int h2
  obtain ⟨c, rfl, wc⟩ := Ty1.ok_int h3
  obtain ⟨x, y, xs, rfl, e1, e2, e3⟩ := h4
  obtain ⟨z, w, ys, rfl, e4, e5, e6⟩ := h5
  exact ⟨a, b, c, x, y, z, w, xs, ys, rfl, wa, wb, wc, e2, e5, e3, e6, e1, e4⟩
theorem AlT_int {v : AV} {k : IntKind} (h : AlT [.c (.i k)] [v]) : ∃ n, v = .i k n ∧ (Lit.int k n).wf = true := by
  obtain ⟨v1, r1, e, h1, _⟩ := h.uncons
  cases e
  exact Ty1.ok_int h1
end Go.Rv
