/-
What a slice holds; append.
-/
import Derived.Test.YtbmobnjhdealiaaEvA
import Derived.Tactics
import Derived.LoopN
namespace Go.Rv
section
variable {P : Program} {σ : Num} {im lm : Nat → Prop} {B : Nat} {w0 w : World} {own : Own} {bs : Nat → Option Blk} {o : Oper} {a : Act} {fr : Fr} {loc : Loc} {h : Array Obj}
def SR (σ : Num) (im : Nat → Prop) (h : Array Obj) (own : Own) (z : Nat) (ys : List (List AV)) (v : Value) : Prop :=
  ∃ (ya : Option Addr) (c : Nat) (news : List Value), v = .slice ya ys.length c ∧ (ya = none → ys = [] ∧ c = 0) ∧
    (∀ ad, ya = some ad → ∃ b off, ad = ⟨b, off, none⟩ ∧ ∀ (j : Nat) (u : Value), news[j]? = some u → hcell h b (off + j) = some u) ∧
    news.length = ys.length * z ∧ (∀ u ∈ news, u.oneCell' = true) ∧
    ∀ (x : Nat) (e : List AV) (o : Nat) (c : AV) (u : Value), ys[x]? = some e → e[o]? = some c → news[x * z + o]? = some u → VR σ im h own c u
theorem SR.mk {z : Nat} {ys : List (List AV)} {b off c : Nat} (hc : ∀ j, j < ys.length * z → ∃ u, hcell h b (off + j) = some u ∧ u.oneCell' = true)
    (hr : ∀ (x : Nat) (e : List AV) (o : Nat) (c : AV) (u : Value), ys[x]? = some e → e[o]? = some c → hcell h b (off + (x * z + o)) = some u → VR σ im h own c u) :
    SR σ im h own z ys (.slice (some ⟨b, off, none⟩) ys.length c) := by
  have hvs : ∀ (j : Nat) (u : Value), ((List.range (ys.length * z)).map fun j => (hcell h b (off + j)).getD undef)[j]? = some u → hcell h b (off + j) = some u ∧ u.oneCell' = true := by
    intro j u hu
    simp only [List.getElem?_map] at hu
    by_cases hj : j < ys.length * z
    · obtain ⟨u', h1, h2⟩ := hc j hj
      simp [hj, h1] at hu
      subst hu; exact ⟨h1, h2⟩
    · simp [hj] at hu
  refine ⟨_, c, (List.range (ys.length * z)).map fun j => (hcell h b (off + j)).getD undef, rfl, by simp, fun ad had => ⟨b, off, by simpa using had.symm, fun j u hu => (hvs j u hu).1⟩, by simp, fun u hu => ?_, fun x e o c u he ho hu => hr x e o c u he ho (hvs _ u hu).1⟩
  obtain ⟨j, hj⟩ := List.mem_iff_getElem?.1 hu
  exact (hvs j u hj).2
theorem rd_ok (g : GS σ im lm B w0 own bs w) {x : AV} {v : Value} (r : VR σ im w.heap own x v) (hid : ∀ id ∈ x.ids, bs id = loc[id]?) {z : Nat} {ys : List (List AV)} (h0 : 0 < z) (e : rd loc x = some ys) (hz : ∀ e ∈ ys, e.length = z) :
    SR σ im w.heap own z ys v := by
  cases x <;> simp only [rd] at e <;> try (cases e; done)
  · rename_i nl ti z' xs
    simp at e; subst e
    cases r.lst_inv with
    | nil => exact ⟨none, 0, [], rfl, fun _ => ⟨rfl, rfl⟩, by simp, by simp, by simp, by simp⟩
    | lst hb he hcell hrel hcap hti =>
      rename_i b off cap
      cases xs with
      | nil => exact SR.mk (by simp) (by simp)
      | cons e0 xs =>
        have hzz : z' = z := by rw [← he 0 e0 rfl]; exact hz e0 (by simp)
        subst hzz
        refine SR.mk (fun j hj => ?_) (fun x e o c u hx ho hu => .imm (hrel x e o c u hx ho hu))
        have hd := Nat.div_add_mod j z'
        have hm := Nat.mod_lt j h0
        have hdl : j / z' < (e0 :: xs).length := by rw [Nat.div_lt_iff_lt_mul h0]; exact hj
        have := hcell (j / z') (j % z') hdl hm
        rw [Nat.mul_comm, hd] at this
        exact this
  · rename_i id n z' lo len
    split at e
    case h_2 => cases e
    rename_i z'' p imf xs hb
    split at e
    case isFalse => cases e
    rename_i hm
    simp at e; subst e
    obtain ⟨ob, b, cap, g1, g2, g3, g4, g5, g6, g7, rfl⟩ := r.sl_inv
    have hbs : bs id = some (.row z'' p imf xs) := by rw [hid id (by simp [AV.ids])]; exact hb
    obtain ⟨ob', q1, q2⟩ := g.some_ _ _ hbs
    rw [g1] at q1; cases q1
    obtain ⟨p1, p2, p3, p4, p5, p6, cells, ty, p7, p8, p9, p10, p11⟩ := q2
    obtain ⟨hbb, hcap⟩ := g7 (by omega)
    subst hbb
    have hzz : z' = z'' := by omega
    subst hzz
    have hlen : ((xs.drop lo).take len).length = len := by simp; omega
    have hel : ∀ (x : Nat) (e : List AV), ((xs.drop lo).take len)[x]? = some e → x < len ∧ xs[lo + x]? = some e := by
      intro x e hx
      simp only [List.getElem?_take, List.getElem?_drop] at hx
      split at hx
      · rename_i hl; exact ⟨hl, hx⟩
      · cases hx
    by_cases hl0 : len = 0
    · subst hl0
      have : (xs.drop lo).take 0 = [] := by simp
      rw [this]
      exact SR.mk (ys := []) (by simp) (by simp)
    have hzz : z' = z := by
      have : lo < xs.length := by omega
      have h1 : ((xs.drop lo).take len)[0]? = some xs[lo] := by simp [List.getElem?_take, List.getElem?_drop]; omega
      rw [← hz _ (List.mem_of_getElem? h1)]
      exact (p4 lo xs[lo] (by simp)).symm
    subst hzz
    have := SR.mk (σ := σ) (im := im) (h := w.heap) (own := own) (z := z') (ys := (xs.drop lo).take len) (b := ob.b) (off := lo * z') (c := cap) (fun j hj => ?_) (fun x e o c u hx ho hu => ?_)
    · rwa [hlen] at this
    · rw [hlen] at hj
      have h1 : (lo + len) * z' ≤ xs.length * z' := Nat.mul_le_mul_right _ (by omega)
      rw [Nat.add_mul] at h1
      have hlt : lo * z' + j < cells.size := by omega
      exact ⟨cells[lo * z' + j], by simp [hcell, p7, hlt], p10 (lo * z' + j) _ (by omega) (by simp [hlt])⟩
    · obtain ⟨_, hx⟩ := hel x e hx
      refine p11 (lo + x) e o c u hx ho ?_
      simp only [hcell, p7] at hu
      rw [← hu, Nat.add_mul]; congr 1; omega
  · rename_i id n z' x oo k len
    split at e
    case h_2 => cases e
    rename_i z'' p imf xs hb
    split at e
    case isFalse => cases e
    rename_i hm
    split at e
    case h_2 => cases e
    rename_i el hel
    simp at e; subst e
    obtain ⟨ob, b, cap, g1, g2, g3, g4, g5, g6, g7, rfl⟩ := r.as_inv
    have hbs : bs id = some (.row z'' p imf xs) := by rw [hid id (by simp [AV.ids])]; exact hb
    obtain ⟨ob', q1, q2⟩ := g.some_ _ _ hbs
    rw [g1] at q1; cases q1
    obtain ⟨p1, p2, p3, p4, p5, p6, cells, ty, p7, p8, p9, p10, p11⟩ := q2
    have hbb := g7 (by omega)
    subst hbb
    have hzz : z' = z'' := by omega
    subst hzz
    have hell := p4 _ _ hel
    have hxl : x < xs.length := (List.getElem?_eq_some_iff.1 hel).1
    have hle : x * z' + z' ≤ xs.length * z' := by
      have : x * z' + z' = (x + 1) * z' := by rw [Nat.add_mul, Nat.one_mul]
      rw [this]; exact Nat.mul_le_mul_right _ hxl
    by_cases hl0 : len = 0
    · subst hl0
      exact SR.mk (ys := []) (by simp) (by simp)
    have hkk : k = z := by
      have h1 : (chunks k len (el.drop oo))[0]? = some ((el.drop oo).take k) := by rw [getElem?_chunks, if_pos (by omega)]; simp
      rw [← hz _ (List.mem_of_getElem? h1)]
      simp
      have : 1 * k ≤ len * k := Nat.mul_le_mul_right _ (by omega)
      omega
    subst hkk
    have := SR.mk (σ := σ) (im := im) (h := w.heap) (own := own) (z := k) (ys := chunks k len (el.drop oo)) (b := ob.b) (off := x * z' + oo) (c := cap) (fun j hj => ?_) (fun y e o c u hy ho hu => ?_)
    · rwa [length_chunks] at this
    · rw [length_chunks] at hj
      have hlt : x * z' + oo + j < cells.size := by omega
      exact ⟨cells[x * z' + oo + j], by simp [hcell, p7, hlt], p10 (x * z' + oo + j) _ (by omega) (by simp [hlt])⟩
    · rw [getElem?_chunks] at hy
      split at hy
      · rename_i hyl
        simp at hy; subst hy
        simp only [List.getElem?_take, List.getElem?_drop] at ho
        split at ho
        · refine p11 x el (oo + y * k + o) c u hel ho ?_
          simp only [hcell, p7] at hu
          rw [← hu]; congr 1; omega
        · cases ho
      · cases hy
end
end Go.Rv
namespace Go.Rv
section
variable {P : Program} {σ : Num} {im lm : Nat → Prop} {B : Nat} {w0 w : World} {own : Own} {bs : Nat → Option Blk} {o : Oper} {a : Act} {fr : Fr} {loc : Loc} {h : Array Obj}
theorem run_room (w : World) (t ty e : TypeId) (i : TypeInfo) (ht : P.underlying t = some (.slice e)) (hi : P.info? e = some i)
    (g sLen sCap : Nat) (cur : Array Value) (e' : TypeId) (hg : w.heap[g]? = some (.cells cur e' (0, 0)))
    (a : Addr) (m c : Nat) (news : List Value) (hl : news.length = m * i.size) (hnews : ∀ j u, news[j]? = some u → w.cell? (a.add j) = some u) (h1 : ∀ u ∈ news, u.oneCell' = true)
    (hroom : sLen + m ≤ sCap) (hfit : sLen * i.size + news.length ≤ cur.size) :
    (Builtin.append_ #[t, t] ty #[.slice (some ⟨g, 0, none⟩) sLen sCap, .slice (some a) m c]).run P w =
      .ok (.slice (some ⟨g, 0, none⟩) (sLen + m) sCap) (w.setRow g (cur.toList.take (sLen * i.size) ++ news ++ cur.toList.drop (sLen * i.size + news.length)).toArray) := by
  have hf := run_firstCells_some (P := P) w i.size m a m c news hl hnews
  have hst := run_storeCells_at P g (sLen * i.size) e' news 0 cur w hg (by simpa using hfit) h1
  simp only [Nat.add_zero] at hst
  simp [Builtin.append_, run_und ht, sizeOf, run_ti hi, Builtin.lenOf, hroom, hf, addr_add, hst]
theorem run_app0 (w : World) (t ty e : TypeId) (i : TypeInfo) (ht : P.underlying t = some (.slice e)) (hi : P.info? e = some i) (b ya : Option Addr) (sLen sCap c : Nat) (hc : sLen ≤ sCap) :
    (Builtin.append_ #[t, t] ty #[.slice b sLen sCap, .slice ya 0 c]).run P w = .ok (.slice b sLen sCap) w := by
  have hf : (Builtin.firstCells i.size 0 (.slice ya 0 c)).run P w = .ok #[] w := by
    cases ya with
    | none => simp [Builtin.firstCells]
    | some ad => simp [Builtin.firstCells, loadCells, loadCellsFrom]
  cases b <;> simp [Builtin.append_, run_und ht, sizeOf, run_ti hi, Builtin.lenOf, hc, hf, storeCells]
theorem RC.app {z : Nat} {xs ys : List (List AV)} {old arr : Array Value} {news : List Value} (hx : ∀ (x : Nat) (e : List AV), xs[x]? = some e → e.length = z) (hy : ∀ e ∈ ys, e.length = z)
    (hone : ∀ (j : Nat) (v : Value), j < xs.length * z → old[j]? = some v → v.oneCell' = true)
    (hrel : ∀ (x : Nat) (e : List AV) (o : Nat) (c : AV) (v : Value), xs[x]? = some e → e[o]? = some c → old[x * z + o]? = some v → VR σ im h own c v)
    (_hn : news.length = ys.length * z) (hnone : ∀ u ∈ news, u.oneCell' = true)
    (hnrel : ∀ (x : Nat) (e : List AV) (o : Nat) (c : AV) (u : Value), ys[x]? = some e → e[o]? = some c → news[x * z + o]? = some u → VR σ im h own c u)
    (h1 : ∀ k, k < xs.length * z → arr[k]? = old[k]?) (h2 : ∀ k, k < ys.length * z → arr[xs.length * z + k]? = news[k]?) (h3 : (xs.length + ys.length) * z ≤ arr.size) :
    RC σ im h own z (xs ++ ys) arr := by
  refine ⟨by simpa using h3, fun x e he => ?_, fun j v hj hv => ?_, fun x e o c v he ho hv => ?_⟩
  · rw [List.getElem?_append] at he
    split at he
    · exact hx x e he
    · exact hy e (List.mem_of_getElem? he)
  · simp only [List.length_append, Nat.add_mul] at hj
    by_cases hlt : j < xs.length * z
    · rw [h1 j hlt] at hv; exact hone j v hlt hv
    · have : j = xs.length * z + (j - xs.length * z) := by omega
      rw [this, h2 _ (by omega)] at hv
      exact hnone v (List.mem_of_getElem? hv)
  · rw [List.getElem?_append] at he
    split at he
    · rename_i hl
      have hol : o < z := by have := hx x e he; have := (List.getElem?_eq_some_iff.1 ho).1; omega
      rw [h1 _ (idx_lt hl hol)] at hv
      exact hrel x e o c v he ho hv
    · rename_i hl
      have hol : o < z := by have := hy e (List.mem_of_getElem? he); have := (List.getElem?_eq_some_iff.1 ho).1; omega
      have hxl : x - xs.length < ys.length := (List.getElem?_eq_some_iff.1 he).1
      have : x * z + o = xs.length * z + ((x - xs.length) * z + o) := by
        have : x = xs.length + (x - xs.length) := by omega
        rw [this, Nat.add_mul]; simp; omega
      rw [this, h2 _ (idx_lt hxl hol)] at hv
      exact hnrel _ e o c v he ho hv
theorem grown_get (olds news : List Value) (rest : Array Value) : (∀ k, k < olds.length → (olds.toArray ++ news.toArray ++ rest)[k]? = olds[k]?) ∧
    (∀ k, k < news.length → (olds.toArray ++ news.toArray ++ rest)[olds.length + k]? = news[k]?) := by
  constructor
  · intro k hk
    rw [Array.getElem?_append_left (by simp; omega), Array.getElem?_append_left (by simpa using hk)]; simp
  · intro k hk
    rw [Array.getElem?_append_left (by simp; omega), Array.getElem?_append_right (by simp)]; simp
theorem ownL_false : ∀ {l : List AV}, (∀ c ∈ l, c.own = false) → ownL l = false
  | [], _ => rfl
  | c :: r, h => by simp [ownL]; exact ⟨h c (by simp), ownL_false fun d hd => h d (by simp [hd])⟩
theorem ownL_mem : ∀ {l : List AV}, ownL l = false → ∀ c ∈ l, c.own = false
  | c :: r, h, d, hd => by
    simp [ownL] at h
    rcases List.mem_cons.1 hd with rfl | hd
    · exact h.1
    · exact ownL_mem h.2 d hd
theorem VI.noown {c : AV} {v : Value} (r : VI σ im h c v) : c.own = false := by
  induction r with
  | agg hl h1 hc ih =>
    refine ownL_false fun c hc => ?_
    obtain ⟨j, hj⟩ := List.mem_iff_getElem?.1 hc
    have hlt := (List.getElem?_eq_some_iff.1 hj).1
    exact ih j c _ hj (Array.getElem?_eq_getElem (by omega))
  | tup hl hc ih =>
    refine ownL_false fun c hc => ?_
    obtain ⟨j, hj⟩ := List.mem_iff_getElem?.1 hc
    have hlt := (List.getElem?_eq_some_iff.1 hj).1
    exact ih j c _ hj (Array.getElem?_eq_getElem (by omega))
  | fn hf hl hc ih =>
    refine ownL_false fun c hc => ?_
    obtain ⟨j, hj⟩ := List.mem_iff_getElem?.1 hc
    have hlt := (List.getElem?_eq_some_iff.1 hj).1
    exact ih j c _ hj (Array.getElem?_eq_getElem (by omega))
  | _ => rfl
theorem VI.lst_own {nl ti : Bool} {z : Nat} {xs : List (List AV)} {v : Value} (r : VI σ im h (.lst nl ti z xs) v) : ∀ e ∈ xs, ownL e = false := by
  intro e he
  cases r with
  | nil => simp at he
  | lst hb hel hcell hrel hcap hti =>
    obtain ⟨x, hx⟩ := List.mem_iff_getElem?.1 he
    refine ownL_false fun c hc => ?_
    obtain ⟨j, hj⟩ := List.mem_iff_getElem?.1 hc
    have hxl := (List.getElem?_eq_some_iff.1 hx).1
    have hjl := (List.getElem?_eq_some_iff.1 hj).1
    obtain ⟨u, hu, _⟩ := hcell x j hxl (by rw [← hel x e hx]; exact hjl)
    exact (hrel x e j c u hx hj hu).noown
theorem VR.toVI {c : AV} {v : Value} (r : VR σ im h own c v) (ho : c.own = false) : VI σ im h c v := by
  induction r with
  | imm r => exact r
  | agg hl h1 hc ih => exact .agg hl h1 fun j c v hj hv => ih j c v hj hv (ownL_mem ho c (List.mem_of_getElem? hj))
  | tup hl hc ih => exact .tup hl fun j c v hj hv => ih j c v hj hv (ownL_mem ho c (List.mem_of_getElem? hj))
  | fn hf hl hc ih => exact .fn hf hl fun j c v hj hv => ih j c v hj hv (ownL_mem ho c (List.mem_of_getElem? hj))
  | _ => simp [AV.own] at ho
theorem m_append (g : GS σ im lm B w0 own bs w) (hf : FR σ im w.heap own fr a.tmps) {t e : TypeId} {x y : Operand} {r q : Ar} {c : Call} (ho : o.op = .call c) (hcal : c.callee = .builtin .append) (hargs : c.args.toList = [x, y]) (htys : c.argTypes.toList = [t, t])
    (he : elemTy P t = some e) (hsm : smallBytes P e = true) {zz : List AV} (hz : zeroOf P e = some zz) (ex : trAr σ x = some r) (ey : trAr σ y = some q)
    (hid : ∀ id ∈ (ev1 fr r).ids ++ (ev1 fr q).ids, bs id = loc[id]?) {ys : List (List AV)} (hrd : rd loc (ev1 fr q) = some ys) {v : AV} {loc' : Loc} (h1 : appendV loc (P.cellsOf e) (ev1 fr r) ys = some (v, loc')) (hnew : loc.length < loc'.length → bs loc.length = none) :
    (loc' = loc ∧ OpR P σ im lm B w0 own w o a v bs) ∨
    (∃ b', loc' = loc ++ [b'] ∧ OpR P σ im lm B w0 own w o a v (upd bs loc.length b')) ∨
    (∃ id b', (ev1 fr r).ids = [id] ∧ id < loc.length ∧ loc' = loc.set id b' ∧ OpR P σ im lm B w0 own w o a v (upd bs id b')) := by
  obtain ⟨zv, z1, z2, z3, z4⟩ := zero_run (σ := σ) (im := im) (h := w.heap) (own := own) hz
  have hu : P.underlying t = some (.slice e) := by
    unfold elemTy at he
    split at he
    · rename_i hu; simp at he; subst he; exact hu
    · cases he
  obtain ⟨i, hi, hisz⟩ := info_of_cells z4
  have hzi : i.zero = some zv := by
    have := z1 w
    cases hzz : i.zero with
    | none => simp [zeroValue, run_ti hi, hzz] at this
    | some u => simp [zeroValue, run_ti hi, hzz] at this; rw [this]
  have hb : i.bytes ≤ 65536 := by
    simp [smallBytes, Program.bytesOf, hi] at hsm; exact hsm.2
  have ha : c.args = #[x, y] := by apply Array.toList_inj.1; simpa using hargs
  have ht2 : c.argTypes = #[t, t] := by apply Array.toList_inj.1; simpa using htys
  have hexec : ∀ w, (execOp a.eval o).run P w = ((Builtin.append_ #[t, t] o.type #[a.eval x, a.eval y]).run P w).andThen fun v w' => .ok (.value v) w' := by
    intro w
    simp [execOp, ho, resolve, hcal, invoke, builtin, ha, ht2]
  have hall : (ys.all fun e_1 => e_1.length == P.cellsOf e) = true := by
    unfold appendV at h1
    split at h1
    · assumption
    · cases h1
  unfold appendV at h1
  rw [if_pos hall] at h1
  have hyz : ∀ e' ∈ ys, e'.length = P.cellsOf e := fun e' he' => by
    have := List.all_eq_true.1 hall e' he'; simpa using this
  have hy := rd_ok g (ar_ok hf ey) (fun id hm => hid id (by simp [hm])) z4 hrd hyz
  obtain ⟨ya, yc, news, hye, hynone, hysome, hyl, hyone, hyrel⟩ := hy
  have hr := ar_ok hf ex
  have hbm : ∀ n : Nat, n ≤ most → n * i.bytes ≤ 140737488355328 := by
    intro n hn
    have : n * i.bytes ≤ 16777216 * 65536 := Nat.mul_le_mul hn hb
    omega
  have hzvs : zv.cells.size = P.cellsOf e := by rw [← z3]; exact z2.len.symm
  have app0 : ∀ (b : Option Addr) (l cp : Nat), ys.length = 0 → a.eval x = .slice b l cp → l ≤ cp → (execOp a.eval o).run P w = .ok (.value (a.eval x)) w := by
    intro b l cp h0 hx hle
    rw [hexec, hye, hx, h0, run_app0 w t o.type e i hu hi b ya l cp yc hle]; rfl
  generalize hrv : ev1 fr r = rv at *
  cases rv <;> try (cases h1; done)
  · rename_i nl ti z' xs
    cases ti with
    | false => cases h1
    | true =>
    dsimp only at h1
    split at h1
    · rename_i hy0
      simp at h1; obtain ⟨rfl, rfl⟩ := h1
      left
      refine ⟨rfl, own, w, _, a.eval x, ?_, .inl rfl, own.le_refl, fun _ _ => rfl, g, hr⟩
      obtain ⟨xv, hx⟩ : ∃ xv, a.eval x = xv := ⟨_, rfl⟩
      rw [hx] at hr
      cases hr.lst_inv with
      | nil => exact app0 _ _ _ hy0 hx (Nat.le_refl _)
      | lst hb he' hcell hrel hcap hti => exact app0 _ _ _ hy0 hx hcap
    · rename_i hy0
      split at h1
      case isFalse => cases h1
      rename_i hc
      obtain ⟨hmost, hxall⟩ := hc
      simp at h1; obtain ⟨rfl, rfl⟩ := h1
      have hnew := hnew (by simp)
      have hxz : ∀ e' ∈ xs, e'.length = P.cellsOf e := fun e' he' => by
        have := List.all_eq_true.1 hxall e' he'; simpa using this
      have hxs := rd_ok (loc := loc) g hr (by simp [AV.ids]) z4 (by simp [rd]) hxz
      obtain ⟨xa, xc, olds, hxe, hxnone, hxsome, hxl, hxone, hxrel⟩ := hxs
      right; left
      refine ⟨_, rfl, ?_⟩
      obtain ⟨yad, hya⟩ : ∃ ad, ya = some ad := by
        cases ya with
        | none => have := (hynone rfl).1; subst this; simp at hy0
        | some ad => exact ⟨ad, rfl⟩
      obtain ⟨yb, yoff, hyad, hynews⟩ := hysome yad hya
      subst hyad hya
      have hnewsrd : ∀ w' : World, w'.heap = w.heap → ∀ j u, news[j]? = some u → w'.cell? ((⟨yb, yoff, none⟩ : Addr).add j) = some u := fun w' hw j u hu' => by
        rw [addr_add, cell?_eq, hw]; exact hynews j u hu'
      have gd := g.drew
      have key : ∃ cap rest, (execOp a.eval o).run P w = .ok (.value (.slice (some ⟨w.heap.size, 0, none⟩) (xs.length + ys.length) cap)) (w.drew.alloc (.cells (olds.toArray ++ news.toArray ++ rest) e)) ∧
          xs.length + ys.length ≤ cap ∧ (olds.toArray ++ news.toArray ++ rest).size = cap * P.cellsOf e := by
        have hxcap : xc = xs.length ∧ (xa = none → xs = []) := by
          rw [hxe] at hr
          cases xa with
          | none => have := hxnone rfl; rw [this.1]; exact ⟨this.2, fun _ => rfl⟩
          | some ad =>
            have hr' := hr.lst_inv
            generalize hL : xs.length = L at hr'
            cases hr' with
            | lst hb he' hcell hrel hcap hti => exact ⟨by rw [← hL]; exact hti rfl, by simp⟩
        cases xa with
        | none =>
          have hx0 := (hxnone rfl).1
          subst hx0
          have hxc := (hxnone rfl).2
          have ho0 : olds = [] := by simpa using hxl
          subst ho0 hxc
          have := run_append_nil (P := P) w t o.type e i zv hu hi hzi ⟨yb, yoff, none⟩ ys.length yc news (by rw [hyl, hisz]) (hnewsrd w rfl) (by omega) (by simp [most] at hmost; omega) (by have := hbm ys.length (by simpa using hmost); omega)
          refine ⟨grownCap w ys.length 0 e, Builtin.zeroCells zv.cells (grownCap w ys.length 0 e - ys.length), ?_, ?_, ?_⟩
          · rw [hexec, hye, hxe]
            simp only [List.length_nil, Nat.zero_add]
            rw [this]; simp
          · simpa using grownCap_ge w ys.length 0 e
          · have := grownCap_ge w ys.length 0 e
            simp [size_zeroCells, hyl, hzvs]
            rw [← Nat.add_mul]; congr 1; omega
        | some ad =>
          obtain ⟨xb, xoff, hxad, hxolds⟩ := hxsome ad rfl
          subst hxad
          have hg : xs.length < xs.length + ys.length := by omega
          have := run_append_grow (P := P) w t o.type e i zv hu hi hzi ⟨xb, xoff, none⟩ xs.length xc olds (by rw [hxl, hisz]) (fun j u hu' => by rw [addr_add, cell?_eq]; exact hxolds j u hu')
            ⟨yb, yoff, none⟩ ys.length yc news (by rw [hyl, hisz]) (hnewsrd w rfl) (by omega) (by simp [most] at hmost; omega) (growslice_fits (by omega) (hbm _ hmost))
          refine ⟨grownCap w (xs.length + ys.length) xc e, Builtin.zeroCells zv.cells (grownCap w (xs.length + ys.length) xc e - (xs.length + ys.length)), ?_, grownCap_ge _ _ _ _, ?_⟩
          · rw [hexec, hye, hxe, this]; rfl
          · have := grownCap_ge w (xs.length + ys.length) xc e
            simp [size_zeroCells, hxl, hyl, hzvs]
            rw [← Nat.add_mul, ← Nat.add_mul]; congr 1; omega
      obtain ⟨cap, rest, hrun, hcap, hsz⟩ := key
      obtain ⟨gg1, gg2⟩ := grown_get olds news rest
      generalize olds.toArray ++ news.toArray ++ rest = N at *
      have hrc : RC σ im w.heap own (P.cellsOf e) (xs ++ ys) N :=
        RC.app (old := olds.toArray) (news := news) (fun k e' he' => hxz e' (List.mem_of_getElem? he')) hyz (fun j u _ hu' => hxone u (List.mem_of_getElem? (by simpa using hu'))) (fun k e' m c' u hk hm hu' => hxrel k e' m c' u hk hm (by simpa using hu'))
          hyl hyone hyrel (fun k hk => by rw [gg1 k (by omega)]; simp) (fun k hk => by rw [← hxl]; exact gg2 k (by omega)) (by rw [hsz]; exact Nat.mul_le_mul_right _ hcap)
      obtain ⟨k1, k2, k3⟩ := gd.newRow (id := loc.length) (ty := e) hnew (xs := xs ++ ys) (z := P.cellsOf e) (p := ys.all fun e => !ownL e) (cells := N) z4 hrc.el (fun hp e' he' => by
        rcases List.mem_append.1 he' with hm | hm
        · exact hr.lst_inv.lst_own e' hm
        · simp at hp; exact hp e' hm) hrc.len hrc.one hrc.rel
      refine ⟨_, _, _, _, hrun, .inl rfl, k1, k2, k3, ?_⟩
      have := @VR.sl σ im (w.drew.alloc (.cells N e)).heap (upd own loc.length ⟨w.heap.size, (xs ++ ys).length, N.size, P.cellsOf e⟩) loc.length (xs ++ ys).length (P.cellsOf e) 0 (xs ++ ys).length w.heap.size cap ⟨w.heap.size, (xs ++ ys).length, N.size, P.cellsOf e⟩
        (upd_same _ _ _) rfl z4 (Nat.le_refl _) (by omega) (by simpa using hcap) (fun _ => ⟨rfl, by rw [Nat.zero_add, hsz]; exact Nat.le_refl _⟩)
      rw [Nat.zero_mul] at this
      simp only [List.length_append] at this ⊢
      exact this
  · rename_i id n z' lo len
    dsimp only at h1
    split at h1
    case h_2 => cases h1
    rename_i z'' p imf xs hb
    split at h1
    case isFalse => cases h1
    rename_i hc
    obtain ⟨hm, himf, hlo, hlen, hzz, hmost⟩ := hc
    subst himf hlo hlen
    simp at h1; obtain ⟨rfl, rfl⟩ := h1
    obtain ⟨ob, b, cap, g1, g2, g3, g4, g5, g6, g7, hx⟩ := hr.sl_inv
    have hbs : bs id = some (.row z'' p false xs) := by rw [hid id (by simp [AV.ids])]; exact hb
    obtain ⟨ob', q1, q2⟩ := g.some_ _ _ hbs
    rw [g1] at q1; cases q1
    obtain ⟨p1, p2, p3, p4, p5, p6, cells, ty, p7, p8, p9, p10, p11⟩ := q2
    have hz2 : z' = z'' := by omega
    subst hz2
    subst hzz
    obtain ⟨hbb, hcap⟩ := g7 (by omega)
    subst hbb
    simp only [Nat.zero_mul, Nat.zero_add] at hx hcap
    right; right
    refine ⟨id, _, rfl, (List.getElem?_eq_some_iff.1 hb).1, rfl, ?_⟩
    have him : ¬ im ob.b := fun h => by have := p6.1 h; cases this
    by_cases hy0 : ys.length = 0
    · have hy0' : ys = [] := by simpa using hy0
      subst hy0'
      have e1 : upd bs id (.row (P.cellsOf e) (p && ([] : List (List AV)).all fun e => !ownL e) false (xs ++ [])) = bs := by
        simp only [List.all_nil, Bool.and_true, List.append_nil]; exact upd_self hbs
      rw [e1]
      refine ⟨own, w, _, a.eval x, app0 _ _ _ rfl hx g6, .inl rfl, own.le_refl, fun _ _ => rfl, g, ?_⟩
      simpa using hr
    · obtain ⟨yad, hya⟩ : ∃ ad, ya = some ad := by
        cases ya with
        | none => have := (hynone rfl).1; subst this; simp at hy0
        | some ad => exact ⟨ad, rfl⟩
      obtain ⟨yb, yoff, hyad, hynews⟩ := hysome yad hya
      subst hyad hya
      have hnewsrd : ∀ j u, news[j]? = some u → w.cell? ((⟨yb, yoff, none⟩ : Addr).add j) = some u := fun j u hu' => by
        rw [addr_add, cell?_eq]; exact hynews j u hu'
      have hpp : (p && ys.all fun e => !ownL e) = true → ∀ e' ∈ xs ++ ys, ownL e' = false := by
        intro hp e' he'
        simp at hp
        rcases List.mem_append.1 he' with h | h
        · exact p5 hp.1 e' h
        · exact hp.2 e' h
      by_cases hroom : len + ys.length ≤ cap
      · -- where it lies
        have hfit : len * P.cellsOf e + news.length ≤ cells.size := by
          rw [hyl, ← Nat.add_mul, p8]
          exact Nat.le_trans (Nat.mul_le_mul_right _ hroom) hcap
        have hrun := run_room (P := P) w t o.type e i hu hi ob.b len cap cells ty p7 ⟨yb, yoff, none⟩ ys.length yc news (by rw [hyl, hisz]) hnewsrd hyone hroom (by rw [hisz]; exact hfit)
        rw [hisz] at hrun
        obtain ⟨N, hN, hNl, hget⟩ : ∃ N : List Value, cells.toList.take (len * P.cellsOf e) ++ news ++ cells.toList.drop (len * P.cellsOf e + news.length) = N ∧ N.length = cells.size ∧
            ∀ k, N[k]? = if len * P.cellsOf e ≤ k ∧ k < len * P.cellsOf e + news.length then news[k - len * P.cellsOf e]? else cells[k]? :=
          ⟨_, rfl, by rw [seg_len _ _ _ (by simpa using hfit)]; simp, fun k => by rw [seg_get _ _ _ (by simpa using hfit)]; simp only [Array.getElem?_toList]⟩
        rw [hN] at hrun
        have hrc : RC σ im w.heap own (P.cellsOf e) (xs ++ ys) N.toArray :=
          RC.app (old := cells) (news := news) p4 hyz p10 p11 hyl hyone hyrel
            (fun k hk => by rw [List.getElem?_toArray, hget, if_neg (by rw [hm] at hk; omega)])
            (fun k hk => by rw [List.getElem?_toArray, hget, hm, if_pos (by omega)]; congr 1; omega)
            (by rw [List.size_toArray, hNl, p8, hm]; exact Nat.le_trans (Nat.mul_le_mul_right _ hroom) hcap)
        have himh : ∀ b, im b → (w.setRow ob.b N.toArray).heap[b]? = w.heap[b]? := fun b hb => setRow_other w ob.b b N.toArray (fun e => him (e ▸ hb))
        have hle : own.le (upd own id ⟨ob.b, len + ys.length, ob.s, ob.z⟩) := Own.le_grow g1 rfl (by omega) (by show ob.m < len + ys.length; omega)
        have gs := g.set1 (w' := w.setRow ob.b N.toArray) (id := id) (ob' := ⟨ob.b, len + ys.length, ob.s, ob.z⟩) (b' := .row (P.cellsOf e) (p && ys.all fun e => !ownL e) false (xs ++ ys)) (by simp) (by simpa using g.lt _ _ g1)
          (fun b _ hne => setRow_other w ob.b b N.toArray hne) (.inr ⟨ob, _, g1, rfl, hbs, rfl⟩) hle him
          ⟨by simp; omega, p2, p3, hrc.el, hpp, ⟨fun h => absurd h him, fun h => by cases h⟩, N.toArray, ty, setRow_heap w ob.b cells N.toArray ty (0, 0) p7, by simp [hNl, p8],
            Nat.le_trans hrc.len (by simp [hNl, p8]), hrc.one, fun k e' m c v he hm hv => (hrc.rel k e' m c v he hm hv).mono (fun _ x => x) himh hle⟩ rfl rfl rfl
        refine ⟨_, _, _, _, by rw [hexec, hye, hx, hrun]; rfl, .inl rfl, hle, himh, gs, ?_⟩
        have := @VR.sl σ im (w.setRow ob.b N.toArray).heap (upd own id ⟨ob.b, len + ys.length, ob.s, ob.z⟩) id (len + ys.length) (P.cellsOf e) 0 (len + ys.length) ob.b cap ⟨ob.b, len + ys.length, ob.s, ob.z⟩ (upd_same _ _ _) g2 g3 (Nat.le_refl _) (by omega) hroom (fun _ => ⟨rfl, by rw [Nat.zero_add]; exact hcap⟩)
        rw [Nat.zero_mul] at this
        exact this
      · -- at a new place
        have hgrow : cap < len + ys.length := by omega
        obtain ⟨olds, hol, holds, holdc⟩ : ∃ olds : List Value, olds.length = len * P.cellsOf e ∧ (∀ j u, olds[j]? = some u → w.cell? ((⟨ob.b, 0, none⟩ : Addr).add j) = some u) ∧ (∀ j u, olds[j]? = some u → cells[j]? = some u) := by
          have hle : len * P.cellsOf e ≤ cells.size := by rw [← hm, p8]; exact p9
          refine ⟨cells.toList.take (len * P.cellsOf e), by simp; omega, fun j u hj => ?_, fun j u hj => ?_⟩
          · rw [List.getElem?_take] at hj
            split at hj
            · rw [addr_add, cell?_eq]; simp only [hcell, p7, Nat.zero_add]; simpa using hj
            · cases hj
          · rw [List.getElem?_take] at hj
            split at hj
            · simpa using hj
            · cases hj
        have hrun := run_append_grow (P := P) w t o.type e i zv hu hi hzi ⟨ob.b, 0, none⟩ len cap olds (by rw [hol, hisz]) holds
            ⟨yb, yoff, none⟩ ys.length yc news (by rw [hyl, hisz]) hnewsrd hgrow (by simp [most] at hmost; omega) (growslice_fits hgrow (hbm _ hmost))
        have hcp := grownCap_ge w (len + ys.length) cap e
        generalize grownCap w (len + ys.length) cap e = ncap at *
        have hsz : (olds.toArray ++ news.toArray ++ Builtin.zeroCells zv.cells (ncap - (len + ys.length))).size = ncap * P.cellsOf e := by
          simp [size_zeroCells, hol, hyl, hzvs]
          rw [← Nat.add_mul, ← Nat.add_mul]; congr 1; omega
        obtain ⟨gg1, gg2⟩ := grown_get olds news (Builtin.zeroCells zv.cells (ncap - (len + ys.length)))
        generalize olds.toArray ++ news.toArray ++ Builtin.zeroCells zv.cells (ncap - (len + ys.length)) = N at *
        have hrc : RC σ im w.heap own (P.cellsOf e) (xs ++ ys) N :=
          RC.app (old := cells) (news := news) p4 hyz p10 p11 hyl hyone hyrel
            (fun k hk => by
              rw [gg1 k (by rw [hol, ← hm]; exact hk)]
              have hk' : k < olds.length := by rw [hol, ← hm]; exact hk
              rw [holdc k olds[k] (by simp [hk'])]; simp [hk'])
            (fun k hk => by have := gg2 k (by omega); rw [hol] at this; rw [hm]; exact this)
            (by rw [hsz, hm]; exact Nat.mul_le_mul_right _ hcp)
        have gd := g.drew
        have himh : ∀ b, im b → (w.drew.alloc (.cells N e)).heap[b]? = w.heap[b]? := g.im_push _
        have hle : own.le (upd own id ⟨w.heap.size, len + ys.length, N.size, ob.z⟩) := Own.le_grow g1 rfl (by omega) (by show ob.m < len + ys.length; omega)
        have hnim : ¬ im w.heap.size := fun h => Nat.lt_irrefl _ (g.imlt _ h)
        have gs := gd.set1 (w' := w.drew.alloc (.cells N e)) (id := id) (ob' := ⟨w.heap.size, len + ys.length, N.size, ob.z⟩) (b' := .row (P.cellsOf e) (p && ys.all fun e => !ownL e) false (xs ++ ys)) (by show w.heap.size ≤ (w.heap.push _).size; simp) (by show w.heap.size < (w.heap.push _).size; simp)
          (fun b hb hne => by show (w.heap.push _)[b]? = w.heap[b]?; rw [Array.getElem?_push, if_neg (Nat.ne_of_lt hb)]) (.inl (Nat.le_refl _)) hle hnim
          ⟨by simp; omega, p2, p3, hrc.el, hpp, ⟨fun h => absurd h hnim, fun h => by cases h⟩, N, e, by show (w.heap.push _)[w.heap.size]? = _; simp, rfl,
            hrc.len, hrc.one, fun k e' m c v he hm hv => (hrc.rel k e' m c v he hm hv).mono (fun _ x => x) himh hle⟩ rfl rfl rfl
        refine ⟨_, _, _, _, by rw [hexec, hye, hx, hrun]; rfl, .inl rfl, hle, himh, gs, ?_⟩
        have := @VR.sl σ im (w.drew.alloc (.cells N e)).heap (upd own id ⟨w.heap.size, len + ys.length, N.size, ob.z⟩) id (len + ys.length) (P.cellsOf e) 0 (len + ys.length) w.heap.size ncap ⟨w.heap.size, len + ys.length, N.size, ob.z⟩ (upd_same _ _ _) g2 g3 (Nat.le_refl _) (by omega) hcp (fun _ => ⟨rfl, by rw [Nat.zero_add]; show _ ≤ N.size; rw [hsz]; exact Nat.le_refl _⟩)
        rw [Nat.zero_mul] at this
        exact this
end
end Go.Rv
namespace Go.Rv
section
variable {P : Program} {σ : Num} {im lm : Nat → Prop} {B : Nat} {w0 w : World} {own : Own} {bs : Nat → Option Blk} {o : Oper} {a : Act} {fr : Fr} {loc : Loc} {h : Array Obj}
theorem seg_get' {α : Type} (L cs : List α) (off n : Nat) (hn : cs.length = n) (h : off + n ≤ L.length) (k : Nat) :
    (L.take off ++ cs ++ L.drop (off + n))[k]? = if off ≤ k ∧ k < off + n then cs[k - off]? else L[k]? := by
  subst hn
  have ht : (L.take off).length = off := by simp; omega
  by_cases h1 : k < off
  · rw [if_neg (by omega), List.append_assoc, List.getElem?_append_left (by omega), List.getElem?_take, if_pos h1]
  · by_cases h2 : k < off + cs.length
    · rw [if_pos ⟨by omega, h2⟩, List.append_assoc, List.getElem?_append_right (by omega), ht, List.getElem?_append_left (by omega)]
    · rw [if_neg (by omega), List.append_assoc, List.getElem?_append_right (by omega), ht, List.getElem?_append_right (by omega), List.getElem?_drop]
      congr 1; omega
theorem run_copy (w : World) (dT sT ty e : TypeId) (hu : P.underlying dT = some (.slice e)) (h0 : 0 < P.cellsOf e) (b off dLen dCap : Nat) (ya : Option Addr) (yl yc : Nat) (cells : Array Value) (t : TypeId) (news : List Value)
    (hb : w.heap[b]? = some (.cells cells t (0, 0))) (hnone : ya = none → yl = 0) (hsome : ∀ ad, ya = some ad → ∃ b off, ad = ⟨b, off, none⟩ ∧ ∀ (j : Nat) (u : Value), news[j]? = some u → hcell w.heap b (off + j) = some u)
    (hl : news.length = yl * P.cellsOf e) (hone : ∀ u ∈ news, u.oneCell' = true) (hfit : off + min yl dLen * P.cellsOf e ≤ cells.size) :
    (Builtin.copy_ #[dT, sT] ty #[.slice (some ⟨b, off, none⟩) dLen dCap, .slice ya yl yc]).run P w =
      .ok (goInt (min yl dLen : Nat)) (w.setRow b (cells.toList.take off ++ news.take (min yl dLen * P.cellsOf e) ++ cells.toList.drop (off + min yl dLen * P.cellsOf e)).toArray) := by
  have hlen : (news.take (min yl dLen * P.cellsOf e)).length = min yl dLen * P.cellsOf e := by
    rw [List.length_take, hl]
    exact Nat.min_eq_left (Nat.mul_le_mul_right _ (Nat.min_le_left _ _))
  have hf : (Builtin.firstCells (P.cellsOf e) (Nat.min yl dLen) (.slice ya yl yc)).run P w = .ok (news.take (min yl dLen * P.cellsOf e)).toArray w := by
    cases ya with
    | none =>
      have := hnone rfl
      subst this
      have : news = [] := by simpa using hl
      subst this
      simp [Builtin.firstCells]
    | some ad =>
      obtain ⟨yb, yoff, had, hnews⟩ := hsome ad rfl
      subst had
      exact run_firstCells_some w _ _ _ _ _ _ hlen (fun j u hu' => by
        rw [List.getElem?_take] at hu'
        split at hu'
        · rw [addr_add, cell?_eq]; exact hnews j u hu'
        · cases hu')
  have hst := run_storeCells_at P b off t (news.take (min yl dLen * P.cellsOf e)) 0 cells w hb (by simpa [hlen] using hfit) (fun u hu' => hone u (List.mem_of_mem_take hu'))
  simp only [Nat.add_zero, hlen] at hst
  simp [Builtin.copy_, run_und hu, Builtin.lenOf, run_size h0, hf, hst]
theorem getElem?_flatten_take : ∀ (ys : List (List AV)) (z m : Nat), (∀ e ∈ ys, e.length = z) → m ≤ ys.length → ((ys.take m).flatten).length = m * z ∧
    ∀ (k : Nat) (c : AV), ((ys.take m).flatten)[k]? = some c → ∃ x e o, k = x * z + o ∧ ys[x]? = some e ∧ e[o]? = some c ∧ x < m
  | [], z, m, _, hm => by
    have : m = 0 := by simpa using hm
    subst this; simp
  | y :: ys, z, 0, _, _ => by simp
  | y :: ys, z, m + 1, hz, hm => by
    obtain ⟨h1, h2⟩ := getElem?_flatten_take ys z m (fun e he => hz e (by simp [he])) (by simpa using hm)
    have hy := hz y (by simp)
    refine ⟨by simp [h1, hy, Nat.add_mul]; omega, fun k c hk => ?_⟩
    simp only [List.take_succ_cons, List.flatten_cons] at hk
    by_cases hlt : k < y.length
    · rw [List.getElem?_append_left hlt] at hk
      exact ⟨0, y, k, by simp, rfl, hk, by omega⟩
    · rw [List.getElem?_append_right (by omega)] at hk
      obtain ⟨x, e, o, g1, g2, g3, g4⟩ := h2 _ c hk
      exact ⟨x + 1, e, o, by rw [Nat.add_mul, Nat.one_mul]; omega, by simpa using g2, g3, by omega⟩
theorem m_copy (g : GS σ im lm B w0 own bs w) (hf : FR σ im w.heap own fr a.tmps) {t u e : TypeId} {x y : Operand} {r q : Ar} {c : Call} (ho : o.op = .call c) (hcal : c.callee = .builtin .copy) (hargs : c.args.toList = [x, y]) (htys : c.argTypes.toList = [t, u])
    (he : elemTy P t = some e) (h0 : 0 < P.cellsOf e) (ex : trAr σ x = some r) (ey : trAr σ y = some q)
    (hid : ∀ id ∈ (ev1 fr r).ids ++ (ev1 fr q).ids, bs id = loc[id]?) {ys : List (List AV)} (hrd : rd loc (ev1 fr q) = some ys) {v : AV} {loc' : Loc} (h1 : copyV loc (P.cellsOf e) (ev1 fr r) ys = some (v, loc')) :
    ∃ id b', (ev1 fr r).ids = [id] ∧ id < loc.length ∧ loc' = loc.set id b' ∧ OpR P σ im lm B w0 own w o a v (upd bs id b') := by
  have hu : P.underlying t = some (.slice e) := by
    unfold elemTy at he
    split at he
    · rename_i hu; simp at he; subst he; exact hu
    · cases he
  have ha : c.args = #[x, y] := by apply Array.toList_inj.1; simpa using hargs
  have ht2 : c.argTypes = #[t, u] := by apply Array.toList_inj.1; simpa using htys
  have hexec : ∀ w, (execOp a.eval o).run P w = ((Builtin.copy_ #[t, u] o.type #[a.eval x, a.eval y]).run P w).andThen fun v w' => .ok (.value v) w' := by
    intro w
    simp [execOp, ho, resolve, hcal, invoke, builtin, ha, ht2]
  have hall : (ys.all fun e_1 => e_1.length == P.cellsOf e) = true := by
    unfold copyV at h1
    split at h1
    · assumption
    · cases h1
  unfold copyV at h1
  rw [if_pos hall] at h1
  have hyz : ∀ e' ∈ ys, e'.length = P.cellsOf e := fun e' he' => by
    have := List.all_eq_true.1 hall e' he'; simpa using this
  have hy := rd_ok g (ar_ok hf ey) (fun id hm => hid id (by simp [hm])) h0 hrd hyz
  obtain ⟨ya, yc, news, hye, hynone, hysome, hyl, hyone, hyrel⟩ := hy
  have hr := ar_ok hf ex
  generalize hrv : ev1 fr r = rv at *
  cases rv <;> try (cases h1; done)
  · rename_i id n z' lo len
    dsimp only at h1
    split at h1
    case h_2 => cases h1
    rename_i z'' p imf xs hb
    split at h1
    case isFalse => cases h1
    rename_i hc
    obtain ⟨hm, himf, hzz⟩ := hc
    subst himf
    simp only [Option.some.injEq, Prod.mk.injEq] at h1; obtain ⟨rfl, rfl⟩ := h1
    obtain ⟨ob, b, cap, g1, g2, g3, g4, g5, g6, g7, hx⟩ := hr.sl_inv
    have hbs : bs id = some (.row z'' p false xs) := by rw [hid id (by simp [AV.ids])]; exact hb
    obtain ⟨ob', q1, q2⟩ := g.some_ _ _ hbs
    rw [g1] at q1; cases q1
    obtain ⟨p1, p2, p3, p4, p5, p6, cells, ty, p7, p8, p9, p10, p11⟩ := q2
    have hz2 : z' = z'' := by omega
    subst hz2
    subst hzz
    obtain ⟨hbb, hcap⟩ := g7 (by omega)
    subst hbb
    refine ⟨id, _, rfl, (List.getElem?_eq_some_iff.1 hb).1, rfl, ?_⟩
    have hk : lo + min ys.length len ≤ xs.length := by have := Nat.min_le_right ys.length len; omega
    have hkz : lo * P.cellsOf e + min ys.length len * P.cellsOf e ≤ xs.length * P.cellsOf e := by rw [← Nat.add_mul]; exact Nat.mul_le_mul_right _ hk
    have hrun := run_copy (P := P) w t u o.type e hu h0 ob.b (lo * P.cellsOf e) len cap ya ys.length yc cells ty news p7 (fun hh => by have := (hynone hh).1; simp [this]) hysome hyl hyone (by omega)
    have hnl : (news.take (min ys.length len * P.cellsOf e)).length = min ys.length len * P.cellsOf e := by
      rw [List.length_take, hyl]; exact Nat.min_eq_left (Nat.mul_le_mul_right _ (Nat.min_le_left _ _))
    obtain ⟨N, hN, hNl, hget⟩ : ∃ N : List Value, cells.toList.take (lo * P.cellsOf e) ++ news.take (min ys.length len * P.cellsOf e) ++ cells.toList.drop (lo * P.cellsOf e + min ys.length len * P.cellsOf e) = N ∧ N.length = cells.size ∧
        ∀ k, N[k]? = if lo * P.cellsOf e ≤ k ∧ k < lo * P.cellsOf e + min ys.length len * P.cellsOf e then (news.take (min ys.length len * P.cellsOf e))[k - lo * P.cellsOf e]? else cells[k]? :=
      ⟨_, rfl, by simp [hnl]; omega, fun k => by rw [seg_get' _ _ _ _ hnl (by simp; omega)]; simp only [Array.getElem?_toList]⟩
    rw [hN] at hrun
    have hxs := fun k => seg_get' xs (ys.take (min ys.length len)) lo (min ys.length len) (by simp <;> omega) hk k
    obtain ⟨X, hX, hXl⟩ : ∃ X, xs.take lo ++ ys.take (min ys.length len) ++ xs.drop (lo + min ys.length len) = X ∧ X.length = xs.length := ⟨_, rfl, by simp; omega⟩
    rw [hX] at hxs ⊢
    have hpp : (p && ys.all fun e => !ownL e) = true → ∀ e' ∈ X, ownL e' = false := by
      intro hp e' he'
      simp at hp
      rw [← hX] at he'
      simp only [List.mem_append] at he'
      rcases he' with (h | h) | h
      · exact p5 hp.1 e' (List.mem_of_mem_take h)
      · exact hp.2 e' (List.mem_of_mem_take h)
      · exact p5 hp.1 e' (List.mem_of_mem_drop h)
    have hel : ∀ (k : Nat) (e' : List AV), X[k]? = some e' → e'.length = P.cellsOf e := by
      intro k e' hk'
      rw [hxs] at hk'
      split at hk'
      · exact hyz e' (List.mem_of_mem_take (List.mem_of_getElem? hk'))
      · exact p4 k e' hk'
    obtain ⟨k1, k2⟩ := g.write (p' := p && ys.all fun e => !ownL e) (xs' := X) (cells' := N.toArray) g1 hbs p7 (by rw [List.size_toArray, hNl]; exact p8) hXl hel hpp
      (fun j u hj hu' => by
        simp only [List.getElem?_toArray, hget] at hu'
        split at hu'
        · exact hyone u (List.mem_of_mem_take (List.mem_of_getElem? hu'))
        · exact p10 j u hj hu')
      (fun k e' m c' u hk' hm' hu' => by
        have hml : m < P.cellsOf e := by have := hel k e' hk'; have := (List.getElem?_eq_some_iff.1 hm').1; omega
        simp only [List.getElem?_toArray, hget] at hu'
        rw [hxs] at hk'
        by_cases hin : lo ≤ k ∧ k < lo + min ys.length len
        · rw [if_pos hin] at hk'
          have h2 : (k - lo) * P.cellsOf e + m < min ys.length len * P.cellsOf e := idx_lt (by omega) hml
          have h3 : k * P.cellsOf e = lo * P.cellsOf e + (k - lo) * P.cellsOf e := by rw [← Nat.add_mul]; congr 1; omega
          rw [if_pos (by omega), List.getElem?_take, if_pos (by omega)] at hu'
          rw [List.getElem?_take, if_pos (by omega)] at hk'
          exact hyrel (k - lo) e' m c' u hk' hm' (by rw [← hu']; congr 1; omega)
        · rw [if_neg hin] at hk'
          rw [if_neg] at hu'
          · exact p11 k e' m c' u hk' hm' hu'
          · intro hh
            rcases Nat.lt_or_ge k lo with hlt | hge
            · have := idx_lt (z := P.cellsOf e) hlt hml; omega
            · have : (lo + min ys.length len) * P.cellsOf e ≤ k * P.cellsOf e := Nat.mul_le_mul_right _ (by omega)
              rw [Nat.add_mul] at this; omega)
    exact ⟨own, _, _, _, by rw [hexec, hye, hx, hrun]; rfl, .inl rfl, own.le_refl, k1, k2, .imm .i⟩
  · rename_i id n z' x' oo k len
    dsimp only at h1
    split at h1
    case h_2 => cases h1
    rename_i z'' p imf xs hb
    split at h1
    case isFalse => cases h1
    rename_i hc
    obtain ⟨hm, himf, hzz⟩ := hc
    subst himf
    split at h1
    case h_2 => cases h1
    rename_i el hel
    split at h1
    case isFalse => cases h1
    rename_i hfit
    simp only [Option.some.injEq, Prod.mk.injEq] at h1; obtain ⟨rfl, rfl⟩ := h1
    obtain ⟨ob, b, cap, g1, g2, g3, g4, g5, g6, g7, hx⟩ := hr.as_inv
    have hbs : bs id = some (.row z'' p false xs) := by rw [hid id (by simp [AV.ids])]; exact hb
    obtain ⟨ob', q1, q2⟩ := g.some_ _ _ hbs
    rw [g1] at q1; cases q1
    obtain ⟨p1, p2, p3, p4, p5, p6, cells, ty, p7, p8, p9, p10, p11⟩ := q2
    have hz2 : z' = z'' := by omega
    subst hz2
    subst hzz
    have hbb := g7 (by omega)
    subst hbb
    refine ⟨id, _, rfl, (List.getElem?_eq_some_iff.1 hb).1, rfl, ?_⟩
    have hell := p4 _ _ hel
    have hxl : x' < xs.length := (List.getElem?_eq_some_iff.1 hel).1
    have hle : x' * z' + z' ≤ xs.length * z' := by
      have : x' * z' + z' = (x' + 1) * z' := by rw [Nat.add_mul, Nat.one_mul]
      rw [this]; exact Nat.mul_le_mul_right _ hxl
    have hrun := run_copy (P := P) w t u o.type e hu h0 ob.b (x' * z' + oo) len cap ya ys.length yc cells ty news p7 (fun hh => by have := (hynone hh).1; simp [this]) hysome hyl hyone (by omega)
    have hnl : (news.take (min ys.length len * P.cellsOf e)).length = min ys.length len * P.cellsOf e := by
      rw [List.length_take, hyl]; exact Nat.min_eq_left (Nat.mul_le_mul_right _ (Nat.min_le_left _ _))
    obtain ⟨N, hN, hNl, hget⟩ : ∃ N : List Value, cells.toList.take (x' * z' + oo) ++ news.take (min ys.length len * P.cellsOf e) ++ cells.toList.drop (x' * z' + oo + min ys.length len * P.cellsOf e) = N ∧ N.length = cells.size ∧
        ∀ k, N[k]? = if x' * z' + oo ≤ k ∧ k < x' * z' + oo + min ys.length len * P.cellsOf e then (news.take (min ys.length len * P.cellsOf e))[k - (x' * z' + oo)]? else cells[k]? :=
      ⟨_, rfl, by simp [hnl]; omega, fun k => by rw [seg_get' _ _ _ _ hnl (by simp; omega)]; simp only [Array.getElem?_toList]⟩
    rw [hN] at hrun
    obtain ⟨hfl, hfr⟩ := getElem?_flatten_take ys (P.cellsOf e) (min ys.length len) hyz (Nat.min_le_left _ _)
    generalize hF : (ys.take (min ys.length len)).flatten = F at *
    have hset := fun k => getElem?_setCells F el oo k (by omega)
    obtain ⟨k1, k2⟩ := g.write (p' := p && ys.all fun e => !ownL e) (xs' := xs.set x' (setCells el oo F)) (cells' := N.toArray) g1 hbs p7 (by rw [List.size_toArray, hNl]; exact p8) (by simp)
      (fun k e' hk' => by
        rw [List.getElem?_set] at hk'
        by_cases hkk : x' = k
        · subst hkk; simp [hxl] at hk'; subst hk'; rw [length_setCells]; exact hell
        · rw [if_neg hkk] at hk'; exact p4 k e' hk')
      (fun hp e' he' => by
        simp at hp
        rcases List.mem_or_eq_of_mem_set he' with he' | he'
        · exact p5 hp.1 e' he'
        · subst he'
          refine ownL_setCells (p5 hp.1 el (List.mem_of_getElem? hel)) (ownL_false fun c' hc' => ?_)
          obtain ⟨j, hj⟩ := List.mem_iff_getElem?.1 hc'
          obtain ⟨x2, e2, o2, _, g8, g9, _⟩ := hfr j c' hj
          exact ownL_mem (hp.2 e2 (List.mem_of_getElem? g8)) c' (List.mem_of_getElem? g9))
      (fun j u hj hu' => by
        simp only [List.getElem?_toArray, hget] at hu'
        split at hu'
        · exact hyone u (List.mem_of_mem_take (List.mem_of_getElem? hu'))
        · exact p10 j u hj hu')
      (fun k e' m c' u hk' hm' hu' => by
        simp only [List.getElem?_toArray, hget] at hu'
        rw [List.getElem?_set] at hk'
        by_cases hkk : x' = k
        · subst hkk
          simp [hxl] at hk'
          subst hk'
          rw [hset] at hm'
          by_cases hin : oo ≤ m ∧ m < oo + F.length
          · rw [if_pos hin] at hm'
            obtain ⟨x2, e2, o2, g8, g9, g10, g11⟩ := hfr _ c' hm'
            rw [if_pos (by omega), List.getElem?_take, if_pos (by omega)] at hu'
            exact hyrel x2 e2 o2 c' u g9 g10 (by rw [← hu']; congr 1; omega)
          · rw [if_neg hin] at hm'
            rw [if_neg (by omega)] at hu'
            exact p11 x' el m c' u hel hm' hu'
        · rw [if_neg hkk] at hk'
          have hml : m < z' := by have := p4 k e' hk'; have := (List.getElem?_eq_some_iff.1 hm').1; omega
          rw [if_neg] at hu'
          · exact p11 k e' m c' u hk' hm' hu'
          · intro hh
            rcases Nat.lt_or_gt_of_ne hkk with hlt | hlt
            · have : (x' + 1) * z' ≤ k * z' := Nat.mul_le_mul_right _ hlt
              rw [Nat.add_mul, Nat.one_mul] at this; omega
            · have : (k + 1) * z' ≤ x' * z' := Nat.mul_le_mul_right _ hlt
              rw [Nat.add_mul, Nat.one_mul] at this; omega)
    exact ⟨own, _, _, _, by rw [hexec, hye, hx, hrun]; rfl, .inl rfl, own.le_refl, k1, k2, .imm .i⟩
end
end Go.Rv
namespace Go.Rv
section
variable {P : Program} {σ : Num} {im lm : Nat → Prop} {B : Nat} {w0 w : World} {own : Own} {bs : Nat → Option Blk} {o : Oper} {a : Act} {fr : Fr} {loc : Loc} {h : Array Obj}
theorem m_mkmap (g : GS σ im lm B w0 own bs w) {t : TypeId} (ho : o.op = .makeMap t none) {id : Nat} (hid : bs id = none) : OpR P σ im lm B w0 own w o a (.mp id) (upd bs id (.map [])) := by
  have hle : own.le (upd own id ⟨w.heap.size, 0, 0, 0⟩) := Own.le_new (g.none_ id hid)
  have gs := g.new (o := .map #[] 0) (s := 0) (b' := .map []) hid ⟨rfl, rfl, fun hi => Nat.lt_irrefl _ (g.imlt _ hi), #[], 0, by simp, rfl, by simp⟩
  refine ⟨_, _, .value (.map (some w.heap.size)), _, ?_, .inl rfl, hle, g.im_push _, gs, ?_⟩
  · simp [execOp, ho, Instr.makeMap]
  · exact @VR.mp σ im (w.alloc (.map #[] 0)).heap (upd own id ⟨w.heap.size, 0, 0, 0⟩) id ⟨w.heap.size, 0, 0, 0⟩ (upd_same _ _ _) rfl
def MR (es : List (AV × AV)) (ents : List MapEntry) : Prop :=
  es.length = ents.length ∧ ∀ (j : Nat) (k v : AV) (e : MapEntry), es[j]? = some (k, v) → ents[j]? = some e → PR k e.key ∧ PR v e.val
theorem MR.tail {k v : AV} {es : List (AV × AV)} {e : MapEntry} {ents : List MapEntry} (r : MR ((k, v) :: es) (e :: ents)) : PR k e.key ∧ PR v e.val ∧ MR es ents :=
  ⟨(r.2 0 k v e rfl rfl).1, (r.2 0 k v e rfl rfl).2, by have := r.1; simpa using this, fun j k' v' e' hj he => r.2 (j + 1) k' v' e' (by simpa using hj) (by simpa using he)⟩
theorem find_rel (kk : IntKind) (k : IntKind) (n : Int) : ∀ (es : List (AV × AV)) (ents : List MapEntry), MR es ents → ∀ (r : Option AV), mapFind (.i k n) es = some r → ∀ i0,
    match r with
    | none => Instr.findNow (.int kk) (.int k n) ents i0 = some none
    | some v => ∃ i cv, Instr.findNow (.int kk) (.int k n) ents i0 = some (some (i, cv)) ∧ PR v cv
  | [], ents, mr, r, e, i0 => by
    simp [mapFind] at e; subst e
    have : ents = [] := by simpa using mr.1.symm
    subst this; simp [Instr.findNow]
  | (k1, v1) :: es, [], mr, r, e, i0 => by have := mr.1; simp at this
  | (k1, v1) :: es, e1 :: ents, mr, r, e, i0 => by
    obtain ⟨h1, h2, h3⟩ := mr.tail
    simp only [mapFind] at e
    cases k1 <;> simp only [eq1] at e <;> try (cases e; done)
    rename_i k' n'
    by_cases hk : k = k'
    · subst hk
      simp only [if_true] at e
      generalize hkey : e1.key = ky at h1
      cases h1
      by_cases hn : n = n'
      · subst hn
        simp at e; subst e
        exact ⟨i0, e1.val, by simp [Instr.findNow, hkey, Instr.sameNow], h2⟩
      · have hn' : (n == n') = false := by simpa using hn
        simp [hn'] at e
        have ih := find_rel kk k n es ents h3 r e (i0 + 1)
        have hs : Instr.findNow (.int kk) (.int k n) (e1 :: ents) i0 = Instr.findNow (.int kk) (.int k n) ents (i0 + 1) := by
          simp [Instr.findNow, hkey, Instr.sameNow, hn']
        cases r <;> simp only [hs] <;> exact ih
    · rw [if_neg hk] at e; cases e
theorem set_rel (kk : IntKind) (k : IntKind) (n : Int) (x : AV) : ∀ (es es' : List (AV × AV)) (ents : List MapEntry), MR es ents → mapSet (.i k n) x es = some es' → ∀ i0,
    (Instr.findNow (.int kk) (.int k n) ents i0 = some none ∧ es' = es ++ [(.i k n, x)]) ∨
    ∃ i cv e, Instr.findNow (.int kk) (.int k n) ents i0 = some (some (i0 + i, cv)) ∧ ents[i]? = some e ∧ e.key = .int k n ∧ i < es.length ∧ es' = es.set i (.i k n, x)
  | [], es', ents, mr, e, i0 => by
    simp [mapSet] at e; subst e
    have : ents = [] := by simpa using mr.1.symm
    subst this; left; simp [Instr.findNow]
  | (k1, v1) :: es, es', [], mr, e, i0 => by have := mr.1; simp at this
  | (k1, v1) :: es, es', e1 :: ents, mr, e, i0 => by
    obtain ⟨h1, h2, h3⟩ := mr.tail
    simp only [mapSet] at e
    cases k1 <;> simp only [eq1] at e <;> try (cases e; done)
    rename_i k' n'
    by_cases hk : k = k'
    case neg => rw [if_neg hk] at e; cases e
    subst hk
    simp only [if_true] at e
    generalize hkey : e1.key = ky at h1
    cases h1
    by_cases hn : n = n'
    · subst hn
      simp at e; subst e
      right
      exact ⟨0, e1.val, e1, by simp [Instr.findNow, hkey, Instr.sameNow], rfl, hkey, by simp, by simp⟩
    · have hn' : (n == n') = false := by simpa using hn
      simp only [hn'] at e
      split at e
      case h_2 => cases e
      rename_i es2 he2
      simp at e; subst e
      have hs : Instr.findNow (.int kk) (.int k n) (e1 :: ents) i0 = Instr.findNow (.int kk) (.int k n) ents (i0 + 1) := by
        simp [Instr.findNow, hkey, Instr.sameNow, hn']
      rcases set_rel kk k n x es es2 ents h3 he2 (i0 + 1) with ⟨q1, q2⟩ | ⟨i, cv, e', q1, q2, q3, q4, q5⟩
      · left; exact ⟨by rw [hs]; exact q1, by simp [q2]⟩
      · right
        exact ⟨i + 1, cv, e', by rw [hs, q1]; congr 3; omega, by simpa using q2, q3, by simp; omega, by simp [q5]⟩
theorem run_key {kt : TypeId} {k : IntKind} (hu : P.underlying kt = some (.int k)) (b : Bool) (v : Value) (w : World) : (Instr.checkKey b 10000 kt v).run P w = .ok () w := by
  show (Instr.checkKey b (9999 + 1) kt v).run P w = _
  unfold Instr.checkKey
  rw [Sem.run_bind, run_und hu]
  rfl
theorem run_findKey {kt : TypeId} {k : IntKind} (hu : P.underlying kt = some (.int k)) {v : Value} {es : List MapEntry} {r : Option (Nat × Value)} (hr : Instr.findNow (.int k) v es 0 = some r) (w : World) : (Instr.findKey kt v es).run P w = .ok r w := by
  unfold Instr.findKey
  rw [Sem.run_bind, run_und hu]
  simp [hr]
theorem m_look (g : GS σ im lm B w0 own bs w) (hf : FR σ im w.heap own fr a.tmps) {t kt e : TypeId} {kk : IntKind} {x y : Operand} {r q : Ar} {ok : Bool} {z : AV} (ho : o.op = .lookup t x y ok) (hu : P.underlying t = some (.map kt e))
    (hk : P.underlying kt = some (.int kk)) (hz : ((P.info? e).bind (·.zero)).bind (ofVal valDepth) = some z) (ex : trAr σ x = some r) (ey : trAr σ y = some q) {id : Nat} (hm : ev1 fr r = .mp id) (hid : bs id = loc[id]?)
    {es : List (AV × AV)} (hl : loc[id]? = some (.map es)) {res : Option AV} (h1 : mapFind (ev1 fr q) es = some res) :
    OpR P σ im lm B w0 own w o a (if ok then .tup [res.getD z, .b res.isSome] else res.getD z) bs := by
  obtain ⟨ob, g1, g2, hx⟩ := (hm ▸ ar_ok hf ex).mp_inv
  obtain ⟨ob', q1, q2⟩ := g.some_ _ _ (hid.trans hl)
  rw [g1] at q1; cases q1
  obtain ⟨p1, p2, p3, ents, clk, p4, p5, p6⟩ := q2
  have hq := ar_ok hf ey
  have hmr : MR es ents.toList := ⟨by simpa using p5, fun j k v e hj he => p6 j k v e hj (by simpa using he)⟩
  obtain ⟨zv, hzv, hzr⟩ : ∃ zv, (∀ w, (zeroValue e).run P w = .ok zv w) ∧ VI σ im w.heap z zv := by
    cases hi : P.info? e with
    | none => simp [hi] at hz
    | some i =>
      cases hzz : i.zero with
      | none => simp [hi, hzz] at hz
      | some u => simp [hi, hzz] at hz; exact ⟨u, fun w => by simp [zeroValue, run_ti hi, hzz], ofVal_ok _ _ _ hz⟩
  have hget : (getObj ob.b).run P w = .ok (.map ents clk) w := by
    unfold getObj
    simp [Sem.run, p4]
  have pr : ∀ {v : AV} {cv : Value}, PR v cv → VR σ im w.heap own v cv := fun h => by cases h <;> constructor <;> constructor
  generalize ev1 fr q = qv at *
  cases es with
  | nil =>
    have hen : ents.toList = [] := by simpa using hmr.1.symm
    simp [mapFind] at h1; subst h1
    have hfk : (Instr.findKey kt (a.eval y) ents.toList).run P w = .ok none w := by rw [hen]; exact run_findKey hk rfl w
    refine ⟨own, w, .value (if ok then .tuple #[zv, .bool false] else zv), _, ?_, .inl rfl, own.le_refl, fun _ _ => rfl, g, ?_⟩
    · simp [execOp, ho, hx, Instr.lookup, run_und hu, hget, run_key hk, hfk, hzv]
    · cases ok
      · exact .imm hzr
      · refine .tup rfl fun j c v hj hv => ?_
        match j with
        | 0 => simp at hj hv; subst hj hv; exact .imm hzr
        | 1 => simp at hj hv; subst hj hv; exact .imm .b
        | j + 2 => simp at hj
  | cons e0 es =>
    obtain ⟨k, n, rfl⟩ : ∃ k n, qv = .i k n := by
      obtain ⟨k0, v0⟩ := e0
      cases qv <;> cases k0 <;> simp [mapFind, eq1] at h1
      exact ⟨_, _, rfl⟩
    have hy := hq.i_inv
    have := find_rel kk k n (e0 :: es) ents.toList hmr res h1 0
    cases res with
    | none =>
      simp only at this
      have hfk := run_findKey hk this w
      refine ⟨own, w, .value (if ok then .tuple #[zv, .bool false] else zv), _, ?_, .inl rfl, own.le_refl, fun _ _ => rfl, g, ?_⟩
      · simp [execOp, ho, hx, hy, Instr.lookup, run_und hu, hget, run_key hk, hfk, hzv]
      · cases ok
        · exact .imm hzr
        · refine .tup rfl fun j c v hj hv => ?_
          match j with
          | 0 => simp at hj hv; subst hj hv; exact .imm hzr
          | 1 => simp at hj hv; subst hj hv; exact .imm .b
          | j + 2 => simp at hj
    | some v =>
      obtain ⟨i, cv, h2, h3⟩ := this
      have hfk := run_findKey hk h2 w
      refine ⟨own, w, .value (if ok then .tuple #[cv, .bool true] else cv), _, ?_, .inl rfl, own.le_refl, fun _ _ => rfl, g, ?_⟩
      · simp [execOp, ho, hx, hy, Instr.lookup, run_und hu, hget, run_key hk, hfk]
      · cases ok
        · exact pr h3
        · refine .tup rfl fun j c v hj hv => ?_
          match j with
          | 0 => simp at hj hv; subst hj hv; exact pr h3
          | 1 => simp at hj hv; subst hj hv; exact .imm .b
          | j + 2 => simp at hj
theorem m_mset (g : GS σ im lm B w0 own bs w) (hf : FR σ im w.heap own fr a.tmps) {t kt e : TypeId} {kk : IntKind} {x y u : Operand} {r q s : Ar} (ho : o.op = .mapUpdate t x y u) (hu : P.underlying t = some (.map kt e))
    (hk : P.underlying kt = some (.int kk)) (ex : trAr σ x = some r) (ey : trAr σ y = some q) (eu : trAr σ u = some s) {id : Nat} (hm : ev1 fr r = .mp id) (hid : bs id = loc[id]?)
    {es es' : List (AV × AV)} (hl : loc[id]? = some (.map es)) {k : IntKind} {n : Int} {b : Bool} (hy : ev1 fr q = .i k n) (hb : ev1 fr s = .b b) (h1 : mapSet (.i k n) (.b b) es = some es') :
    OpR P σ im lm B w0 own w o a (.tup []) (upd bs id (.map es')) := by
  obtain ⟨ob, g1, g2, hx⟩ := (hm ▸ ar_ok hf ex).mp_inv
  have hbs := hid.trans hl
  obtain ⟨ob', q1, q2⟩ := g.some_ _ _ hbs
  rw [g1] at q1; cases q1
  obtain ⟨p1, p2, p3, ents, clk, p4, p5, p6⟩ := q2
  have hyv := (hy ▸ ar_ok hf ey).i_inv
  have hbv := (hb ▸ ar_ok hf eu).b_inv
  have hmr : MR es ents.toList := ⟨by simpa using p5, fun j k v e hj he => p6 j k v e hj (by simpa using he)⟩
  have hget : (getObj ob.b).run P w = .ok (.map ents clk) w := by
    unfold getObj
    simp [Sem.run, p4]
  have hlt := g.lt _ _ g1
  have hset : ∀ ob' : Obj, (setObj ob.b ob').run P w = .ok () { w with heap := w.heap.setIfInBounds ob.b ob' } := by
    intro ob'
    unfold setObj
    simp [Sem.run, p4]
  have fin : ∀ (ents' : Array MapEntry) (clk' : Nat), es'.length = ents'.size → (∀ (j : Nat) (k v : AV) (e : MapEntry), es'[j]? = some (k, v) → ents'[j]? = some e → PR k e.key ∧ PR v e.val) →
      (execOp a.eval o).run P w = .ok .skip { w with heap := w.heap.setIfInBounds ob.b (.map ents' clk') } → OpR P σ im lm B w0 own w o a (.tup []) (upd bs id (.map es')) := by
    intro ents' clk' hl' hr' hrun
    have hother : ∀ b, b ≠ ob.b → (w.heap.setIfInBounds ob.b (.map ents' clk'))[b]? = w.heap[b]? := fun b hne => Array.getElem?_setIfInBounds_ne (by omega)
    have himh : ∀ b, im b → (w.heap.setIfInBounds ob.b (.map ents' clk'))[b]? = w.heap[b]? := fun b hb => hother b (fun e => p3 (e ▸ hb))
    have gs := g.set1 (w' := { w with heap := w.heap.setIfInBounds ob.b (.map ents' clk') }) (id := id) (ob' := ob) (b' := .map es') (by simp) (by simpa using hlt) (fun b _ hne => hother b hne) (.inr ⟨ob, _, g1, rfl, hbs, rfl⟩) (Own.le_self g1) p3
      ⟨p1, p2, p3, ents', clk', by simp [hlt], hl', hr'⟩ rfl rfl rfl
    rw [upd_self g1] at gs
    exact ⟨own, _, _, undef, hrun, .inr ⟨rfl, rfl⟩, own.le_refl, himh, gs, .imm (.tup rfl (by simp))⟩
  rcases set_rel kk k n (.b b) es es' ents.toList hmr h1 0 with ⟨h2, h3⟩ | ⟨i, cv, e', h2, h3, h4, h5, h6⟩
  · have hfk := run_findKey hk h2 w
    refine fin (ents.push { key := .int k n, val := .bool b, born := clk }) (clk + 1) (by rw [h3]; simp [p5]) (fun j k' v' e' hj he' => ?_) ?_
    · rw [h3, List.getElem?_append] at hj
      rw [Array.getElem?_push] at he'
      by_cases hjl : j < es.length
      · rw [if_pos hjl] at hj
        rw [if_neg (by omega)] at he'
        exact p6 j k' v' e' hj he'
      · rw [if_neg hjl] at hj
        have hj0 : j - es.length = 0 := by
          have := (List.getElem?_eq_some_iff.1 hj).1; simp at this; omega
        rw [hj0] at hj
        rw [if_pos (by omega)] at he'
        simp at hj he'
        obtain ⟨rfl, rfl⟩ := hj
        subst he'
        exact ⟨.i, .b⟩
    · simp [execOp, ho, hx, hyv, hbv, Instr.mapUpdate, run_und hu, hget, run_key hk, hfk, hset]
  · rw [Nat.zero_add] at h2
    have hfk := run_findKey hk h2 w
    have h3' : ents[i]? = some e' := by simpa using h3
    refine fin (ents.modify i fun e => { e with key := .int k n, val := .bool b }) clk (by rw [h6]; simp [p5]) (fun j k' v' e2 hj he' => ?_) ?_
    · rw [h6, List.getElem?_set] at hj
      rw [Array.getElem?_modify] at he'
      by_cases hij : i = j
      · subst hij
        simp [h5] at hj
        simp [h3'] at he'
        obtain ⟨rfl, rfl⟩ := hj
        subst he'
        exact ⟨.i, .b⟩
      · rw [if_neg hij] at hj he'
        exact p6 j k' v' e2 hj he'
    · have hstay : (Instr.keyThatStays (.int k n) (.int k n)).run P w = .ok (.int k n) w := by
        simp [Instr.keyThatStays, Instr.sameBits]
      simp [execOp, ho, hx, hyv, hbv, Instr.mapUpdate, run_und hu, hget, run_key hk, hfk, hset, h3', h4, hstay]
end
end Go.Rv
namespace Go.Rv
section
variable {P : Program} {σ : Num} {im im' lm : Nat → Prop} {B : Nat} {w0 w : World} {own own' : Own} {bs : Nat → Option Blk} {o : Oper} {a : Act} {fr : Fr} {loc : Loc} {h h' : Array Obj}
theorem staysL_mem : ∀ {l : List AV}, staysL l = false → ∀ c ∈ l, c.stays = false
  | c :: r, h, d, hd => by
    simp [staysL] at h
    rcases List.mem_cons.1 hd with rfl | hd
    · exact h.1
    · exact staysL_mem h.2 d hd
theorem VI.loose {c : AV} {v : Value} (r : VI σ im h c v) (hs : c.stays = false) : VI σ im' h' c v := by
  induction r with
  | u => exact .u
  | b => exact .b
  | i => exact .i
  | s e => exact .s e
  | cx => exact .cx
  | np => exact .np
  | nil => exact .nil
  | ref => simp [AV.stays] at hs
  | lst hb hz hx hc hcap hti ih =>
    rename_i xs
    cases xs with
    | nil => exact .lst (fun h => absurd rfl h) (by simp) (by simp) (by simp) hcap hti
    | cons e r => simp [AV.stays] at hs
  | agg hl h1 hc ih => exact .agg hl h1 fun j c v hj hv => ih j c v hj hv (staysL_mem hs c (List.mem_of_getElem? hj))
  | tup hl hc ih => exact .tup hl fun j c v hj hv => ih j c v hj hv (staysL_mem hs c (List.mem_of_getElem? hj))
  | fn hf hl hc ih => exact .fn hf hl fun j c v hj hv => ih j c v hj hv (staysL_mem hs c (List.mem_of_getElem? hj))
theorem VR.loose {c : AV} {v : Value} (r : VR σ im h own c v) (hs : c.stays = false) : VR σ im' h' own c v := by
  induction r with
  | imm r => exact .imm (r.loose hs)
  | ptr h1 h2 h3 h4 h5 => exact .ptr h1 h2 h3 h4 h5
  | sl h1 h2 h3 h4 h5 h6 h7 => exact .sl h1 h2 h3 h4 h5 h6 h7
  | as h1 h2 h3 h4 h5 h6 h7 => exact .as h1 h2 h3 h4 h5 h6 h7
  | mp h1 h2 => exact .mp h1 h2
  | agg hl h1 hc ih => exact .agg hl h1 fun j c v hj hv => ih j c v hj hv (staysL_mem hs c (List.mem_of_getElem? hj))
  | tup hl hc ih => exact .tup hl fun j c v hj hv => ih j c v hj hv (staysL_mem hs c (List.mem_of_getElem? hj))
  | fn hf hl hc ih => exact .fn hf hl fun j c v hj hv => ih j c v hj hv (staysL_mem hs c (List.mem_of_getElem? hj))
mutual
theorem ren_noown (f : Nat → Option Nat) : ∀ (v : AV), v.own = false → v.ren f = v
  | .ptr .., h | .sl .., h | .as .., h | .mp .., h => by simp [AV.own] at h
  | .agg cs, h => by simp [AV.ren, renL_noown f cs h]
  | .tup cs, h => by simp [AV.ren, renL_noown f cs h]
  | .fn g cs, h => by simp [AV.ren, renL_noown f cs h]
  | .u, _ | .b _, _ | .i .., _ | .s _, _ | .cx .., _ | .np, _ | .ref .., _ | .lst .., _ | .mv _, _ => rfl
theorem renL_noown (f : Nat → Option Nat) : ∀ (l : List AV), ownL l = false → renL f l = l
  | [], _ => rfl
  | v :: r, h => by
    simp [ownL] at h
    simp [renL, ren_noown f v h.1, renL_noown f r h.2]
end
theorem renL_eq (f : Nat → Option Nat) : ∀ (l : List AV), renL f l = l.map (AV.ren f)
  | [] => rfl
  | v :: r => by simp [renL, renL_eq f r]
theorem VR.ren {f : Nat → Option Nat} (ho : ∀ id ob j, own id = some ob → f id = some j → own' j = some ob) {c : AV} {v : Value} (r : VR σ im h own c v) : VR σ im h own' (c.ren f) v := by
  induction r with
  | imm r => rw [ren_noown f _ r.noown]; exact .imm r
  | ptr h1 h2 h3 h4 h5 =>
    simp only [AV.ren]; split
    · rename_i j hj; exact .ptr (ho _ _ _ h1 hj) h2 h3 h4 h5
    · exact .imm .u
  | sl h1 h2 h3 h4 h5 h6 h7 =>
    simp only [AV.ren]; split
    · rename_i j hj; exact .sl (ho _ _ _ h1 hj) h2 h3 h4 h5 h6 h7
    · exact .imm .u
  | as h1 h2 h3 h4 h5 h6 h7 =>
    simp only [AV.ren]; split
    · rename_i j hj; exact .as (ho _ _ _ h1 hj) h2 h3 h4 h5 h6 h7
    · exact .imm .u
  | mp h1 h2 =>
    simp only [AV.ren]; split
    · rename_i j hj; exact .mp (ho _ _ _ h1 hj) h2
    · exact .imm .u
  | agg hl h1 hc ih =>
    simp only [AV.ren, renL_eq]
    refine .agg (by simpa using hl) h1 fun j c v hj hv => ?_
    rw [List.getElem?_map, Option.map_eq_some_iff] at hj
    obtain ⟨c', hj, rfl⟩ := hj
    exact ih j c' v hj hv
  | tup hl hc ih =>
    simp only [AV.ren, renL_eq]
    refine .tup (by simpa using hl) fun j c v hj hv => ?_
    rw [List.getElem?_map, Option.map_eq_some_iff] at hj
    obtain ⟨c', hj, rfl⟩ := hj
    exact ih j c' v hj hv
  | fn hf hl hc ih =>
    simp only [AV.ren, renL_eq]
    refine .fn hf (by simpa using hl) fun j c v hj hv => ?_
    rw [List.getElem?_map, Option.map_eq_some_iff] at hj
    obtain ⟨c', hj, rfl⟩ := hj
    exact ih j c' v hj hv
def imF (im : Nat → Prop) (own : Own) (bs : Nat → Option Blk) (X : List Nat) (b : Nat) : Prop :=
  im b ∨ ∃ id ob blk, id ∈ X ∧ own id = some ob ∧ ob.b = b ∧ bs id = some blk ∧ isRow blk = true
mutual
theorem frz_ok (g : GS σ im lm B w0 own bs w) {X : List Nat} : ∀ (x x' : AV) (v : Value), x.frz loc = some x' → (∀ id ∈ x.ids, bs id = loc[id]? ∧ id ∈ X) → VR σ im w.heap own x v → VI σ (imF im own bs X) w.heap x' v
  | .u, x', v, e, _, _ => by simp [AV.frz] at e; subst e; exact .u
  | .b _, x', v, e, _, r => by simp [AV.frz] at e; subst e; rw [r.b_inv]; exact .b
  | .i .., x', v, e, _, r => by simp [AV.frz] at e; subst e; rw [r.i_inv]; exact .i
  | .s _, x', v, e, _, r => by simp [AV.frz] at e; subst e; obtain ⟨s, rfl, h⟩ := r.s_inv; exact .s h
  | .cx .., x', v, e, _, r => by simp [AV.frz] at e; subst e; rw [r.cx_inv]; exact .cx
  | .np, x', v, e, _, r => by simp [AV.frz] at e; subst e; exact (r.toVI rfl).mono (fun b h => .inl h) (fun _ _ => rfl)
  | .ref .., x', v, e, _, r => by simp [AV.frz] at e; subst e; exact r.ref_inv.mono (fun b h => .inl h) (fun _ _ => rfl)
  | .lst .., x', v, e, _, r => by simp [AV.frz] at e; subst e; exact r.lst_inv.mono (fun b h => .inl h) (fun _ _ => rfl)
  | .as .., x', v, e, _, r => by simp [AV.frz] at e
  | .mp _, x', v, e, _, r => by simp [AV.frz] at e
  | .mv _, x', v, e, _, r => by simp [AV.frz] at e
  | .agg cs, x', v, e, hid, r => by
    simp only [AV.frz] at e
    split at e
    case h_2 => cases e
    rename_i cs' hcs
    simp at e; subst e
    obtain ⟨vs, rfl, hl, h1, hc⟩ := r.agg_inv
    obtain ⟨k1, k2⟩ := frzN_ok g cs cs' vs.toList hcs (by simpa [AV.ids] using hid) (fun j c v hj hv => hc j c v hj (by simpa using hv))
    exact .agg (by rw [k1]; exact hl) h1 fun j c v hj hv => k2 j c v hj (by simpa using hv)
  | .tup cs, x', v, e, hid, r => by
    simp only [AV.frz] at e
    split at e
    case h_2 => cases e
    rename_i cs' hcs
    simp at e; subst e
    obtain ⟨vs, rfl, hl, hc⟩ := r.tup_inv
    obtain ⟨k1, k2⟩ := frzN_ok g cs cs' vs.toList hcs (by simpa [AV.ids] using hid) (fun j c v hj hv => hc j c v hj (by simpa using hv))
    exact .tup (by rw [k1]; exact hl) fun j c v hj hv => k2 j c v hj (by simpa using hv)
  | .fn f cs, x', v, e, hid, r => by
    simp only [AV.frz] at e
    split at e
    case h_2 => cases e
    rename_i cs' hcs
    simp at e; subst e
    obtain ⟨f', vs, rfl, hf, hl, hc⟩ := r.fn_inv
    obtain ⟨k1, k2⟩ := frzN_ok g cs cs' vs.toList hcs (by simpa [AV.ids] using hid) (fun j c v hj hv => hc j c v hj (by simpa using hv))
    exact .fn hf (by rw [k1]; exact hl) fun j c v hj hv => k2 j c v hj (by simpa using hv)
  | .ptr id n z x oo, x', v, e, hid, r => by
    simp only [AV.frz] at e
    split at e
    case h_2 => cases e
    rename_i z' p imf xs hb
    split at e
    case isFalse => cases e
    rename_i hc
    obtain ⟨hm, hp⟩ := hc
    split at e
    case h_2 => cases e
    rename_i el hel
    simp at e; subst e
    obtain ⟨ob, b, g1, g2, g3, g4, g5, rfl⟩ := r.ptr_inv
    obtain ⟨hbs0, hX⟩ := hid id (by simp [AV.ids])
    have hbs : bs id = some (.row z' p imf xs) := hbs0.trans hb
    obtain ⟨ob', q1, q2⟩ := g.some_ _ _ hbs
    rw [g1] at q1; cases q1
    obtain ⟨p1, p2, p3, p4, p5, p6, cells, ty, p7, p8, p9, p10, p11⟩ := q2
    have hz : z = z' := by omega
    subst hz
    have hbb := g5 (by omega)
    subst hbb
    have hlen := p4 _ _ hel
    have hxl : x < xs.length := (List.getElem?_eq_some_iff.1 hel).1
    refine .ref (.inr ⟨id, ob, _, hX, g1, rfl, hbs, rfl⟩) (fun j hj => ?_) fun j c u hj hu => ?_
    · have hlt : x * z + j < cells.size := by have := idx_lt (z := z) hxl (show j < z by omega); omega
      exact ⟨cells[x * z + j], by simp [hcell, p7, hlt], p10 (x * z + j) _ (idx_lt hxl (by omega)) (by simp [hlt])⟩
    · simp only [hcell, p7] at hu
      exact ((p11 x el j c u hel hj hu).toVI (ownL_mem (p5 hp el (List.mem_of_getElem? hel)) c (List.mem_of_getElem? hj))).mono (fun b h => .inl h) (fun _ _ => rfl)
  | .sl id n z lo len, x', v, e, hid, r => by
    simp only [AV.frz] at e
    split at e
    case h_2 => cases e
    rename_i z' p imf xs hb
    split at e
    case isFalse => cases e
    rename_i hc
    obtain ⟨hm, hp⟩ := hc
    simp at e; subst e
    obtain ⟨ob, b, cap, g1, g2, g3, g4, g5, g6, g7, rfl⟩ := r.sl_inv
    obtain ⟨hbs0, hX⟩ := hid id (by simp [AV.ids])
    have hbs : bs id = some (.row z' p imf xs) := hbs0.trans hb
    obtain ⟨ob', q1, q2⟩ := g.some_ _ _ hbs
    rw [g1] at q1; cases q1
    obtain ⟨p1, p2, p3, p4, p5, p6, cells, ty, p7, p8, p9, p10, p11⟩ := q2
    obtain ⟨hbb, hcap⟩ := g7 (by omega)
    subst hbb
    have hz : z = z' := by omega
    subst hz
    exact lst_sub (im := imF im own bs X) (off := 0) (xs := xs) (l := lo) (n := len) (cap := cap) (fun _ => .inr ⟨id, ob, _, hX, g1, rfl, hbs, rfl⟩) p4
      (fun x k hx hk => by
        have hlt : x * z + k < cells.size := by have := idx_lt (z := z) hx hk; omega
        exact ⟨cells[x * z + k], by simp [hcell, p7, hlt], p10 (x * z + k) _ (idx_lt hx hk) (by simp [hlt])⟩)
      (fun x el k c u hx hk hu => by
        simp only [hcell, p7, Nat.zero_add] at hu
        exact ((p11 x el k c u hx hk hu).toVI (ownL_mem (p5 hp el (List.mem_of_getElem? hx)) c (List.mem_of_getElem? hk))).mono (fun b h => .inl h) (fun _ _ => rfl))
      (by omega) g6 (by simp) _ (fun _ => by simp)
theorem frzN_ok (g : GS σ im lm B w0 own bs w) {X : List Nat} : ∀ (l l' : List AV) (vs : List Value), frzN loc l = some l' → (∀ id ∈ idsL l, bs id = loc[id]? ∧ id ∈ X) →
    (∀ (j : Nat) (c : AV) (v : Value), l[j]? = some c → vs[j]? = some v → VR σ im w.heap own c v) →
    l'.length = l.length ∧ ∀ (j : Nat) (c : AV) (v : Value), l'[j]? = some c → vs[j]? = some v → VI σ (imF im own bs X) w.heap c v
  | [], l', vs, e, _, _ => by simp [frzN] at e; subst e; simp
  | x :: l, l', vs, e, hid, hr => by
    simp only [frzN] at e
    split at e
    case h_2 => cases e
    rename_i x1 hx
    split at e
    case h_2 => cases e
    rename_i l1 hl
    simp at e; subst e
    cases vs with
    | nil =>
      obtain ⟨k1, _⟩ := frzN_ok g l l1 [] hl (fun id hm => hid id (by simp [idsL, hm])) (by simp)
      exact ⟨by simp [k1], by simp⟩
    | cons v vs =>
      obtain ⟨k1, k2⟩ := frzN_ok g l l1 vs hl (fun id hm => hid id (by simp [idsL, hm])) (fun j c v hj hv => hr (j + 1) c v (by simpa using hj) (by simpa using hv))
      refine ⟨by simp [k1], fun j c u hj hu => ?_⟩
      cases j with
      | zero =>
        simp at hj hu; subst hj hu
        exact frz_ok g x x1 v hx (fun id hm => hid id (by simp [idsL, hm])) (hr 0 x v rfl rfl)
      | succ j => exact k2 j c u (by simpa using hj) (by simpa using hu)
end
end
end Go.Rv
namespace Go.Rv
def lentB : List AV → List Value → List Nat
  | .mv _ :: r, .map (some b) :: s => b :: lentB r s
  | _ :: r, _ :: s => lentB r s
  | _, _ => []
def MapAt (h : Array Obj) (b : Nat) (es : List (AV × AV)) : Prop := ∃ ents clk, h[b]? = some (.map ents clk) ∧ MR es ents.toList
inductive ArgR (σ : Num) (im : Nat → Prop) (h : Array Obj) : AV → Value → Prop
  | mv {es : List (AV × AV)} {b : Nat} : MapAt h b es → ¬ im b → b < h.size → ArgR σ im h (.mv es) (.map (some b))
  | vi {x : AV} {v : Value} : VI σ im h x v → ArgR σ im h x v
def pureRow : Blk → Bool
  | .row _ p _ _ => p
  | .map _ => false
def RES (σ : Num) (im : Nat → Prop) (w : World) (lent : List Nat) (r : Res) (e : Ending) (w' : World) : Prop :=
  ∃ (cv : Value) (im' : Nat → Prop) (own' : Own), e = .returned cv ∧ (∀ b, im b → im' b) ∧ (∀ b, im' b → im b ∨ w.heap.size ≤ b) ∧ (∀ b, im' b → b < w'.heap.size) ∧
    KeepX (· ∈ lent) w.heap.size w w' ∧ (∀ id, r.new.length ≤ id → own' id = none) ∧
    (∀ id b, r.new[id]? = some b → ∃ ob, own' id = some ob ∧ BR σ im' w'.heap own' ob b ∧ w.heap.size ≤ ob.b ∧ ob.b < w'.heap.size ∧ pureRow b = true) ∧
    (∀ i j a b, own' i = some a → own' j = some b → a.b = b.b → i = j) ∧ VR σ im' w'.heap own' r.v cv ∧
    r.outs.length = lent.length ∧ ∀ (j b : Nat) (es : List (AV × AV)), lent[j]? = some b → r.outs[j]? = some es → MapAt w'.heap b es
def CallOK (P : Program) (σ : Num) (call : CallF) : Prop :=
  ∀ (f g : Nat) (args : List AV) (r : Res), σ f = some g → call g args = some r → ∀ (im : Nat → Prop) (w : World) (cargs : List Value), args.length = cargs.length →
    (∀ (j : Nat) (x : AV) (v : Value), args[j]? = some x → cargs[j]? = some v → ArgR σ im w.heap x v) → (∀ b, im b → b < w.heap.size) → (lentB args cargs).Nodup →
    Calls P f cargs.toArray w (RES σ im w (lentB args cargs) r)
def updW (bs : Nat → Option Blk) (loc' : Loc) (wr : List Nat) (n : Nat) : Nat → Option Blk := fun j => if wr.contains j || decide (n ≤ j ∧ j < loc'.length) then loc'[j]? else bs j
def OpW (P : Program) (σ : Num) (im lm : Nat → Prop) (B : Nat) (w0 : World) (own : Own) (w : World) (o : Oper) (a : Act) (v : AV) (bs' : Nat → Option Blk) : Prop :=
  ∀ (next : Act → World → Prop) (Q : Exit → Act → World → Prop),
    (∀ (im' : Nat → Prop) (own' : Own) (w' : World) (cv : Value), (∀ b, im b → im' b) → (∀ b, im' b → im b ∨ B ≤ b) → (∀ b, im b → w'.heap[b]? = w.heap[b]?) → own.le own' → GS σ im' lm B w0 own' bs' w' → VR σ im' w'.heap own' v cv → next (a.put o.dst cv) w') →
    o.wp P a w next Q
def Blk.mark : Blk → Blk
  | .row z p _ xs => .row z p true xs
  | .map es => .map es
theorem markIm_get : ∀ (l : List Nat) (loc : Loc), (markIm loc l).length = loc.length ∧ ∀ j, (markIm loc l)[j]? = if j ∈ l then (loc[j]?).map Blk.mark else loc[j]?
  | [], loc => ⟨rfl, fun j => by simp [markIm]⟩
  | id :: l, loc => by
    unfold markIm
    have key : ∀ (loc1 : Loc), loc1.length = loc.length → (∀ j, loc1[j]? = if j = id then (loc[j]?).map Blk.mark else loc[j]?) →
        (markIm loc1 l).length = loc.length ∧ ∀ j, (markIm loc1 l)[j]? = if j ∈ id :: l then (loc[j]?).map Blk.mark else loc[j]? := by
      intro loc1 hl hg
      obtain ⟨h1, h2⟩ := markIm_get l loc1
      refine ⟨h1.trans hl, fun j => ?_⟩
      rw [h2, hg]
      by_cases hj : j = id
      · subst hj
        simp
        intro _
        congr 1
        funext b; cases b <;> rfl
      · simp [hj]
    split
    · rename_i z p imf xs hb
      refine key _ (by simp) fun j => ?_
      rw [List.getElem?_set]
      by_cases hj : id = j
      · subst hj
        have := (List.getElem?_eq_some_iff.1 hb).1
        simp [this, Blk.mark]
        have h2 := (List.getElem?_eq_some_iff.1 hb).2
        rw [h2]
      · rw [if_neg hj, if_neg (fun h => hj h.symm)]
    · rename_i hb
      refine key _ rfl fun j => ?_
      by_cases hj : j = id
      · subst hj
        rw [if_pos rfl]
        cases hl : loc[j]? with
        | none => rfl
        | some b => cases b with
          | row z p i xs => exact absurd hl (hb z p i xs)
          | map es => rfl
      · rw [if_neg hj]
theorem putMaps_get : ∀ (l : List Nat) (r : List (List (AV × AV))) (loc : Loc), l.length = r.length → l.Nodup → (∀ id ∈ l, id < loc.length) → (putMaps loc l r).length = loc.length ∧
    (∀ j, j ∉ l → (putMaps loc l r)[j]? = loc[j]?) ∧ ∀ (i id : Nat) (es : List (AV × AV)), l[i]? = some id → r[i]? = some es → (putMaps loc l r)[id]? = some (.map es)
  | [], r, loc, _, _, _ => by cases r <;> simp [putMaps]
  | id :: l, [], loc, h, _, _ => by simp at h
  | id :: l, es :: r, loc, h, hn, hlt => by
    obtain ⟨h1, h2, h3⟩ := putMaps_get l r (loc.set id (.map es)) (by simpa using h) (List.nodup_cons.1 hn).2 (fun j hj => by simpa using hlt j (by simp [hj]))
    have hnot := (List.nodup_cons.1 hn).1
    refine ⟨by simp [putMaps, h1], fun j hj => ?_, fun i id' es' hi he => ?_⟩
    · simp at hj
      simp only [putMaps]
      rw [h2 j hj.2, List.getElem?_set_ne (fun e => hj.1 e.symm)]
    · simp only [putMaps]
      cases i with
      | zero =>
        simp at hi he; subst hi he
        rw [h2 id hnot, List.getElem?_set_self (hlt id (by simp))]
      | succ i => exact h3 i id' es' (by simpa using hi) (by simpa using he)
section
variable {P : Program} {σ : Num} {im lm : Nat → Prop} {B : Nat} {w0 w : World} {own : Own} {bs : Nat → Option Blk} {o : Oper} {a : Act} {fr : Fr} {loc : Loc} {call : CallF}
theorem OpR.toW {v : AV} {bs' : Nat → Option Blk} (h : OpR P σ im lm B w0 own w o a v bs') : OpW P σ im lm B w0 own w o a v bs' := by
  obtain ⟨own', w', r, cv, hrun, hr, hle, hh, hg, hv⟩ := h
  intro next Q K
  unfold Oper.wp
  rw [hrun]
  rcases hr with rfl | ⟨rfl, rfl⟩
  · exact K im own' w' cv (fun _ h => h) (fun _ h => .inl h) hh hle hg hv
  · exact K im own' w' undef (fun _ h => h) (fun _ h => .inl h) hh hle hg hv
theorem frzL_ok (g : GS σ im lm B w0 own bs w) {X : List Nat} : ∀ (l l' : List AV) (vs : List Value), frzL loc l = some l' → l.length = vs.length → (∀ id ∈ idsL l, bs id = loc[id]? ∧ id ∈ X) →
    (∀ (j : Nat) (c : AV) (v : Value), l[j]? = some c → vs[j]? = some v → VR σ im w.heap own c v) →
    l'.length = l.length ∧ (∀ (j : Nat) (c : AV) (v : Value), l'[j]? = some c → vs[j]? = some v → ArgR σ (imF im own bs X) w.heap c v) ∧
      (lentB l' vs).length = (mids l).length ∧ (∀ (i id : Nat), (mids l)[i]? = some id → ∃ ob es, own id = some ob ∧ (lentB l' vs)[i]? = some ob.b ∧ bs id = some (.map es) ∧ id ∈ X)
  | [], l', vs, e, hl, _, _ => by simp [frzL] at e; subst e; simp [lentB, mids]
  | x :: l, l', vs, e, hl, hid, hr => by
    simp only [frzL] at e
    split at e
    case h_2 => cases e
    rename_i x1 hx
    split at e
    case h_2 => cases e
    rename_i l1 hl1
    simp at e; subst e
    cases vs with
    | nil => simp at hl
    | cons v vs =>
      obtain ⟨k1, k2, k3, k4⟩ := frzL_ok g l l1 vs hl1 (by simpa using hl) (fun id hm => hid id (by simp [idsL, hm])) (fun j c v hj hv => hr (j + 1) c v (by simpa using hj) (by simpa using hv))
      have hr0 := hr 0 x v rfl rfl
      by_cases hmp : ∃ id, x = .mp id
      · obtain ⟨id, rfl⟩ := hmp
        obtain ⟨hbs0, hX⟩ := hid id (by simp [idsL, AV.ids])
        simp only [frzA] at hx
        split at hx
        case h_2 => cases hx
        rename_i es hes
        simp at hx; subst hx
        obtain ⟨ob, g1, g2, rfl⟩ := hr0.mp_inv
        have hbs := hbs0.trans hes
        obtain ⟨ob', q1, q2⟩ := g.some_ _ _ hbs
        rw [g1] at q1; cases q1
        obtain ⟨p1, p2, p3, ents, clk, p4, p5, p6⟩ := q2
        have hnim : ¬ imF im own bs X ob.b := by
          rintro (h | ⟨id', ob', blk, _, h2, h3, h4, h5⟩)
          · exact p3 h
          · have := g.inj id' id ob' ob h2 g1 h3
            subst this
            rw [hbs] at h4; cases h4; cases h5
        refine ⟨by simp [k1], fun j c u hj hu => ?_, by simp [lentB, mids] at k3 ⊢; exact k3, fun i id' hi => ?_⟩
        · cases j with
          | zero =>
            simp at hj hu; subst hj hu
            exact .mv ⟨ents, clk, p4, by simpa using p5, fun j k v e hj he => p6 j k v e hj (by simpa using he)⟩ hnim (g.lt _ _ g1)
          | succ j => exact k2 j c u (by simpa using hj) (by simpa using hu)
        · simp only [mids, List.filterMap_cons] at hi
          cases i with
          | zero => simp at hi; subst hi; exact ⟨ob, es, g1, by simp [lentB], hbs, hX⟩
          | succ i =>
            obtain ⟨ob2, es2, q1, q2, q3, q4⟩ := k4 i id' (by simpa [mids] using hi)
            exact ⟨ob2, es2, q1, by simpa [lentB] using q2, q3, q4⟩
      · have hxf : frzA loc x = x.frz loc := by cases x <;> first | rfl | exact absurd ⟨_, rfl⟩ hmp
        rw [hxf] at hx
        have hvi := frz_ok g (X := X) x x1 v hx (fun id hm => hid id (by simp [idsL, hm])) hr0
        have hlb : lentB (x1 :: l1) (v :: vs) = lentB l1 vs := by cases hvi <;> rfl
        have hmid : mids (x :: l) = mids l := by cases x <;> first | rfl | exact absurd ⟨_, rfl⟩ hmp
        rw [hlb, hmid]
        refine ⟨by simp [k1], fun j c u hj hu => ?_, k3, k4⟩
        cases j with
        | zero => simp at hj hu; subst hj hu; exact .vi hvi
        | succ j => exact k2 j c u (by simpa using hj) (by simpa using hu)
end
end Go.Rv
namespace Go.Rv
section
variable {P : Program} {σ : Num} {im lm : Nat → Prop} {B : Nat} {w0 w : World} {own : Own} {bs : Nat → Option Blk} {o : Oper} {a : Act} {fr : Fr} {loc : Loc} {call : CallF}
theorem row_noown {im' : Nat → Prop} {h h' : Array Obj} {own' own'' : Own} {ob : OB} {b : Blk} (hp : pureRow b = true) (r : BR σ im h own' ob b) (hi : ∀ b, im b → im' b) (hm : im' ob.b → im ob.b) (hh : ∀ b, im b → h'[b]? = h[b]?)
    (hb : h'[ob.b]? = h[ob.b]?) : BR σ im' h' own'' ob b := by
  cases b with
  | map => cases hp
  | row z p imf xs =>
    simp only [pureRow] at hp
    obtain ⟨h1, h2, h3, h4, h5, h6, cells, ty, h7, h8, h9, h10, h11⟩ := r
    refine ⟨h1, h2, h3, h4, h5, ⟨fun x => h6.1 (hm x), fun x => hi _ (h6.2 x)⟩, cells, ty, hb.trans h7, h8, h9, h10, fun x e o c v he ho hv => .imm ?_⟩
    exact ((h11 x e o c v he ho hv).toVI (ownL_mem (h5 hp e (List.mem_of_getElem? he)) c (List.mem_of_getElem? ho))).mono hi hh
theorem row_loose {im' : Nat → Prop} {h : Array Obj} {own' own'' : Own} {ob : OB} {z : Nat} {imf : Bool} {xs : List (List AV)} (r : BR σ im h own' ob (.row z true imf xs)) (hs : xs.any staysL = false) (hm : im' ob.b ↔ im ob.b) :
    BR σ im' h own'' ob (.row z true imf xs) := by
  obtain ⟨h1, h2, h3, h4, h5, h6, cells, ty, h7, h8, h9, h10, h11⟩ := r
  refine ⟨h1, h2, h3, h4, h5, hm.trans h6, cells, ty, h7, h8, h9, h10, fun x e o c v he ho hv => .imm ?_⟩
  have hem := List.mem_of_getElem? he
  refine ((h11 x e o c v he ho hv).toVI (ownL_mem (h5 rfl e hem) c (List.mem_of_getElem? ho))).loose ?_
  have : staysL e = false := by
    have := List.any_eq_false.1 hs e hem
    simpa using this
  exact staysL_mem this c (List.mem_of_getElem? ho)
theorem m_call (hc : CallOK P σ call) (g : GS σ im lm B w0 own bs w) {k gfn : Nat} (hk : σ k = some gfn) {args : List AV} {cargs : List Value} (hlen : args.length = cargs.length)
    (hargs : ∀ (j : Nat) (c : AV) (v : Value), args[j]? = some c → cargs[j]? = some v → VR σ im w.heap own c v) (hid : ∀ id ∈ idsL args, bs id = loc[id]?)
    {v : AV} {loc' : Loc} (hd : doCall call loc gfn args = some (v, loc')) (hfresh : ∀ j, loc.length ≤ j → j < loc'.length → bs j = none)
    (hrun : (execOp a.eval o).run P w = .ok (.enter k cargs.toArray) w) :
    OpW P σ im lm B w0 own w o a v (updW bs loc' (footCall call loc gfn args).2 loc.length) ∧ loc.length ≤ loc'.length ∧ ∀ j, j < loc.length → j ∉ (footCall call loc gfn args).2 → loc'[j]? = loc[j]? := by
  unfold doCall at hd
  split at hd
  case h_1 => cases hd
  rename_i fargs hf
  split at hd
  case h_1 => cases hd
  rename_i r hr
  have hfoot : (footCall call loc gfn args).2 = if stayR r then idsL args else mids args := by
    unfold footCall; simp [hf, hr]
  rw [hfoot]
  unfold settle at hd
  split at hd
  case isFalse => cases hd
  rename_i hmid
  obtain ⟨hml, hmn⟩ := hmid
  obtain ⟨k1, k2, k3, k4⟩ := frzL_ok g (X := idsL args) args fargs cargs hf hlen (fun id hm => ⟨hid id hm, hm⟩) hargs
  have hLn : (lentB fargs cargs).Nodup := by
    refine List.pairwise_iff_getElem.2 fun i j hi' hj' hij heq => ?_
    have hj : j < (mids args).length := by omega
    have hi : i < (mids args).length := by omega
    obtain ⟨ob1, es1, q1, q2, _, _⟩ := k4 i _ (List.getElem?_eq_getElem hi)
    obtain ⟨ob2, es2, r1, r2, _, _⟩ := k4 j _ (List.getElem?_eq_getElem hj)
    rw [List.getElem?_eq_getElem hi'] at q2
    rw [List.getElem?_eq_getElem hj'] at r2
    simp at q2 r2
    rw [q2, r2] at heq
    exact List.pairwise_iff_getElem.1 hmn i j hi hj hij (g.inj _ _ _ _ q1 r1 heq)
  have himF : ∀ b, imF im own bs (idsL args) b → b < w.heap.size := by
    rintro b (h | ⟨id, ob, blk, _, h1, rfl, _, _⟩)
    · exact g.imlt b h
    · exact g.lt _ _ h1
  have hcall := hc k gfn fargs r hk hr (imF im own bs (idsL args)) w cargs (by omega) k2 himF hLn
  have hmlt : ∀ id ∈ mids args, id < loc.length := by
    intro id hm
    obtain ⟨i, hi⟩ := List.mem_iff_getElem?.1 hm
    obtain ⟨ob, es, q1, q2, q3, q4⟩ := k4 i id hi
    rw [hid id q4] at q3
    exact (List.getElem?_eq_some_iff.1 q3).1
  obtain ⟨p1, p2, p3⟩ := putMaps_get (mids args) r.outs loc hml hmn hmlt
  obtain ⟨m1, m2⟩ := markIm_get (idsL args) (putMaps loc (mids args) r.outs)
  obtain ⟨loc2, hloc2, hl2, hg2⟩ : ∃ loc2 : Loc, (if stayR r then markIm (putMaps loc (mids args) r.outs) (idsL args) else putMaps loc (mids args) r.outs) = loc2 ∧ loc2.length = loc.length ∧
      ∀ j, loc2[j]? = if stayR r = true ∧ j ∈ idsL args then ((putMaps loc (mids args) r.outs)[j]?).map Blk.mark else (putMaps loc (mids args) r.outs)[j]? := by
    refine ⟨_, rfl, ?_, fun j => ?_⟩
    · split
      · rw [m1, p1]
      · exact p1
    · split
      · rename_i hs; rw [m2]; simp [hs]
      · rename_i hs; simp [hs]
  dsimp only at hd
  rw [hloc2] at hd
  simp only [Option.some.injEq, Prod.mk.injEq] at hd
  obtain ⟨hv, hloc'⟩ := hd
  have hnl : loc'.length = loc.length + r.new.length := by rw [← hloc', List.length_append, hl2]
  have hmX : ∀ id ∈ mids args, id ∈ idsL args := by
    intro id hm
    obtain ⟨i, hi⟩ := List.mem_iff_getElem?.1 hm
    obtain ⟨_, _, _, _, _, q4⟩ := k4 i id hi
    exact q4
  refine ⟨?_, by omega, fun j hj hn => ?_⟩
  case refine_2 =>
    rw [← hloc', List.getElem?_append_left (by omega), hg2]
    by_cases hs : stayR r = true
    · rw [if_pos hs] at hn
      rw [if_neg (fun h => hn h.2), p2 j (fun h => hn (hmX j h))]
    · rw [if_neg hs] at hn
      rw [if_neg (fun h => hs h.1), p2 j hn]
  intro next Q K
  unfold Oper.wp
  rw [hrun, Oper.upon_enter]
  refine hcall.mono ?_
  rintro e w1 ⟨cv, im1, own1, rfl, c2, c3, c4, c5, c6, c7, c8, c9, c10, c11⟩
  simp only
  have hnew : ∀ id, loc.length ≤ id → id < loc.length + r.new.length → own id = none := fun id h1 h2 => g.none_ id (hfresh id h1 (by omega))
  have hsz : w.heap.size ≤ w1.heap.size := c5.size
  have hlentb : ∀ b, b ∈ lentB fargs cargs → ∃ id ob es, id ∈ mids args ∧ own id = some ob ∧ ob.b = b ∧ bs id = some (.map es) := by
    intro b hb
    obtain ⟨i, hi⟩ := List.mem_iff_getElem?.1 hb
    have hil := (List.getElem?_eq_some_iff.1 hi).1
    obtain ⟨ob, es, q1, q2, q3, q4⟩ := k4 i _ (List.getElem?_eq_getElem (show i < (mids args).length by omega))
    rw [hi] at q2
    exact ⟨_, ob, es, List.getElem_mem _, q1, by simpa using q2.symm, q3⟩
  have himl : ∀ b, im b → b ∉ lentB fargs cargs := by
    intro b hb hmem
    obtain ⟨id, ob, es, _, h1, rfl, h2⟩ := hlentb b hmem
    obtain ⟨ob', q1, q2⟩ := g.some_ _ _ h2
    rw [h1] at q1; cases q1
    exact q2.2.2.1 hb
  have himh : ∀ b, im b → w1.heap[b]? = w.heap[b]? := fun b hb => c5.block b (g.imlt b hb) (himl b hb)
  obtain ⟨own2, hown2⟩ : ∃ own2 : Own, own2 = fun id => if loc.length ≤ id ∧ id < loc.length + r.new.length then own1 (id - loc.length) else own id := ⟨_, rfl⟩
  have ho_new : ∀ j, j < r.new.length → own2 (loc.length + j) = own1 j := fun j hj => by rw [hown2]; simp; omega
  have ho_old : ∀ id, ¬ (loc.length ≤ id ∧ id < loc.length + r.new.length) → own2 id = own id := fun id h => by rw [hown2]; dsimp only; rw [if_neg h]
  have hle : own.le own2 := by
    intro id ob hob
    refine ⟨ob, ?_, rfl, Nat.le_refl _, fun _ => ⟨rfl, rfl⟩, fun _ => rfl⟩
    rw [ho_old id]; exact hob
    intro ⟨h1, h2⟩; rw [hnew id h1 h2] at hob; cases hob
  obtain ⟨im2, him2⟩ : ∃ im2 : Nat → Prop, im2 = fun b => if stayR r then im1 b else (im b ∨ (im1 b ∧ w.heap.size ≤ b)) := ⟨_, rfl⟩
  have him_im2 : ∀ b, im b → im2 b := fun b hb => by
    rw [him2]; dsimp only; split
    · exact c2 b (.inl hb)
    · exact .inl hb
  have him2_1 : ∀ b, im2 b → im1 b := fun b hb => by
    rw [him2] at hb; split at hb
    · exact hb
    · rcases hb with h | h
      · exact c2 b (.inl h)
      · exact h.1
  have him2_new : ∀ b, w.heap.size ≤ b → (im2 b ↔ im1 b) := fun b hb => ⟨him2_1 b, fun h => by
    rw [him2]; dsimp only; split
    · exact h
    · exact .inr ⟨h, hb⟩⟩
  have him2_old : ∀ id ob blk, own id = some ob → bs id = some blk → im2 ob.b → im ob.b ∨ (stayR r = true ∧ id ∈ idsL args ∧ isRow blk = true) := by
    intro id ob blk h1 h2 h3
    rw [him2] at h3
    split at h3
    · rename_i hs
      rcases c3 _ h3 with (h | ⟨id', ob', blk', q1, q2, q3, q4, q5⟩) | h
      · exact .inl h
      · have := g.inj _ _ _ _ q2 h1 q3
        subst this
        rw [h2] at q4; cases q4
        exact .inr ⟨hs, q1, q5⟩
      · have := g.lt _ _ h1; omega
    · rcases h3 with h | h
      · exact .inl h
      · have := g.lt _ _ h1; omega
  have hvr : VR σ im2 w1.heap own2 v cv := by
    rw [← hv, hl2]
    refine VR.ren (own := own1) (fun id ob j h1 h2 => ?_) ?_
    · simp at h2; subst h2
      have hlt : id < r.new.length := by
        rcases Nat.lt_or_ge id r.new.length with h | h
        · exact h
        · rw [c6 id h] at h1; cases h1
      rw [ho_new id hlt]; exact h1
    · by_cases hs : stayR r = true
      · have : im2 = im1 := by rw [him2]; funext b; simp [hs]
        rw [this]; exact c9
      · refine c9.loose ?_
        simp [stayR] at hs; exact hs.1
  have himB : ∀ b, im2 b → im b ∨ B ≤ b := by
    intro b hb
    rcases c3 b (him2_1 b hb) with (h | ⟨id, ob, blk, q1, q2, q3, q4, q5⟩) | h
    · exact .inl h
    · right; rw [← q3]; exact g.rows id ob blk q2 q4 q5
    · right; have := g.hB; have := g.keep.size; omega
  refine K im2 own2 w1 cv him_im2 himB himh hle ?_ hvr
  have hold : ∀ id ob blk, own id = some ob → bs id = some blk → id ∉ mids args → w1.heap[ob.b]? = w.heap[ob.b]? := by
    intro id ob blk h1 h2 h3
    refine c5.block _ (g.lt _ _ h1) fun hmem => ?_
    obtain ⟨id', ob', es, q1, q2, q3, _⟩ := hlentb _ hmem
    have := g.inj _ _ _ _ q2 h1 q3
    subst this
    exact h3 q1
  refine ⟨fun id b hb => ?_, fun id hb => ?_, ?_, ?_, ?_, ?_, fun b hb => c4 b (him2_1 b hb), g.hB, ?_⟩
  · by_cases hin : loc.length ≤ id ∧ id < loc.length + r.new.length
    · -- new ones
      have hb' : r.new[id - loc.length]? = some b := by
        unfold updW at hb
        rw [if_pos (by simp; right; omega), ← hloc', List.getElem?_append_right (by omega), hl2] at hb
        exact hb
      obtain ⟨ob, h1, h2, h3, h4, h5⟩ := c7 _ b hb'
      have hoid : own2 id = some ob := by rw [hown2]; dsimp only; rw [if_pos hin]; exact h1
      refine ⟨ob, hoid, ?_⟩
      by_cases hs : stayR r = true
      · have : im2 = im1 := by rw [him2]; funext b; simp [hs]
        rw [this]
        exact row_noown h5 h2 (fun _ h => h) (fun h => h) (fun _ _ => rfl) rfl
      · cases b with
        | map => cases h5
        | row z p imf xs =>
          simp only [pureRow] at h5; subst h5
          refine row_loose h2 ?_ (him2_new _ h3)
          simp only [stayR, Bool.or_eq_true, not_or, Bool.not_eq_true] at hs
          have := List.any_eq_false.1 hs.2 _ (List.mem_of_getElem? hb')
          simpa using this
    · rw [ho_old id hin]
      unfold updW at hb
      by_cases hw : (if stayR r then idsL args else mids args).contains id = true
      · rw [if_pos (by simp only [hw, Bool.true_or])] at hb
        simp only [List.contains_iff_mem] at hw
        have hidm : id ∈ idsL args ∧ (id ∉ mids args → stayR r = true) := by
          split at hw
          · rename_i hs; exact ⟨hw, fun _ => hs⟩
          · obtain ⟨i, hi⟩ := List.mem_iff_getElem?.1 hw
            obtain ⟨_, _, _, _, _, q4⟩ := k4 i id hi
            exact ⟨q4, fun h => absurd hw h⟩
        have hidl : id < loc.length := by
          have := (List.getElem?_eq_some_iff.1 hb).1
          rw [hnl] at this; omega
        rw [← hloc', List.getElem?_append_left (by omega), hg2] at hb
        by_cases hmm : id ∈ mids args
        · obtain ⟨i, hi⟩ := List.mem_iff_getElem?.1 hmm
          have hil := (List.getElem?_eq_some_iff.1 hi).1
          obtain ⟨ob, es, q1, q2, q3, q4⟩ := k4 i id hi
          obtain ⟨es', hes'⟩ : ∃ es', r.outs[i]? = some es' := ⟨_, List.getElem?_eq_getElem (by omega)⟩
          rw [p3 i id es' hi hes'] at hb
          have hbb : b = .map es' := by
            split at hb <;> simp [Blk.mark] at hb <;> exact hb.symm
          subst hbb
          obtain ⟨ob', r1, r2⟩ := g.some_ _ _ q3
          rw [q1] at r1; cases r1
          obtain ⟨ents, clk, n1, n2⟩ := c11 i ob.b es' q2 hes'
          refine ⟨ob, q1, r2.1, r2.2.1, fun h => ?_, ents, clk, n1, by simpa using n2.1, fun j k v e hj he => n2.2 j k v e hj (by simpa using he)⟩
          rcases him2_old id ob _ q1 q3 h with h | ⟨_, _, h⟩
          · exact r2.2.2.1 h
          · cases h
        · have hs := hidm.2 hmm
          rw [if_pos ⟨hs, hidm.1⟩, p2 id hmm, ← hid id hidm.1] at hb
          cases hbs : bs id with
          | none => rw [hbs] at hb; cases hb
          | some blk =>
            rw [hbs] at hb
            obtain ⟨ob, q1, q2⟩ := g.some_ _ _ hbs
            have hh := hold id ob blk q1 hbs hmm
            cases blk with
            | map es =>
              simp [Blk.mark] at hb; subst hb
              refine ⟨ob, q1, q2.mono him_im2 himh hle hh fun h => ?_⟩
              rcases him2_old id ob _ q1 hbs h with h | ⟨_, _, h⟩
              · exact h
              · cases h
            | row z p imf xs =>
              simp [Blk.mark] at hb; subst hb
              obtain ⟨h1, h2, h3, h4, h5, h6, cells, ty, h7, h8, h9, h10, h11⟩ := q2
              refine ⟨ob, q1, h1, h2, h3, h4, h5, ⟨fun _ => rfl, fun _ => ?_⟩, cells, ty, hh.trans h7, h8, h9, h10, fun x e o c u a b d => (h11 x e o c u a b d).mono him_im2 himh hle⟩
              rw [him2]; simp only [hs, if_true]
              exact c2 _ (.inr ⟨id, ob, _, hidm.1, q1, rfl, hbs, rfl⟩)
      · have hnot : ¬ (loc.length ≤ id ∧ id < loc'.length) := by rw [hnl]; exact hin
        rw [if_neg (by simp only [Bool.or_eq_true, decide_eq_true_eq, not_or]; exact ⟨hw, hnot⟩)] at hb
        obtain ⟨ob, q1, q2⟩ := g.some_ _ _ hb
        simp only [List.contains_iff_mem] at hw
        have hmm : id ∉ mids args := by
          intro hm
          apply hw
          split
          · obtain ⟨i, hi⟩ := List.mem_iff_getElem?.1 hm
            obtain ⟨_, _, _, _, _, q4⟩ := k4 i id hi
            exact q4
          · exact hm
        refine ⟨ob, q1, q2.mono him_im2 himh hle (hold id ob b q1 hb hmm) fun h => ?_⟩
        rcases him2_old id ob _ q1 hb h with h | ⟨hs, h, _⟩
        · exact h
        · rw [if_pos hs] at hw; exact absurd h hw
  · by_cases hin : loc.length ≤ id ∧ id < loc.length + r.new.length
    · exfalso
      unfold updW at hb
      rw [if_pos (by simp; right; omega), ← hloc', List.getElem?_append_right (by omega), hl2, List.getElem?_eq_none_iff] at hb
      omega
    · rw [ho_old id hin]
      unfold updW at hb
      by_cases hw : ((if stayR r then idsL args else mids args).contains id || decide (loc.length ≤ id ∧ id < loc'.length)) = true
      · rw [if_pos hw] at hb
        have hnot : ¬ (loc.length ≤ id ∧ id < loc'.length) := by rw [hnl]; exact hin
        simp only [Bool.or_eq_true, decide_eq_true_eq, List.contains_iff_mem] at hw
        have hw := hw.resolve_right hnot
        have hidm : id ∈ idsL args := by
          split at hw
          · exact hw
          · obtain ⟨i, hi⟩ := List.mem_iff_getElem?.1 hw
            obtain ⟨_, _, _, _, _, q4⟩ := k4 i id hi
            exact q4
        refine g.none_ id ?_
        rw [hid id hidm]
        rw [List.getElem?_eq_none_iff] at hb ⊢
        omega
      · rw [if_neg hw] at hb; exact g.none_ id hb
  · intro i j a b hi hj hab
    by_cases h1 : loc.length ≤ i ∧ i < loc.length + r.new.length <;> by_cases h2 : loc.length ≤ j ∧ j < loc.length + r.new.length
    · have e1 := ho_new (i - loc.length) (by omega)
      have e2 := ho_new (j - loc.length) (by omega)
      rw [show loc.length + (i - loc.length) = i by omega, hi] at e1
      rw [show loc.length + (j - loc.length) = j by omega, hj] at e2
      have := c8 _ _ _ _ e1.symm e2.symm hab
      omega
    · exfalso
      have e1 := ho_new (i - loc.length) (by omega)
      rw [show loc.length + (i - loc.length) = i by omega, hi] at e1
      obtain ⟨ob, q1, _, q3, _⟩ := c7 (i - loc.length) _ (List.getElem?_eq_getElem (by omega))
      rw [q1] at e1; cases e1
      rw [ho_old j h2] at hj
      have := g.lt _ _ hj; omega
    · exfalso
      have e1 := ho_new (j - loc.length) (by omega)
      rw [show loc.length + (j - loc.length) = j by omega, hj] at e1
      obtain ⟨ob, q1, _, q3, _⟩ := c7 (j - loc.length) _ (List.getElem?_eq_getElem (by omega))
      rw [q1] at e1; cases e1
      rw [ho_old i h1] at hi
      have := g.lt _ _ hi; omega
    · rw [ho_old i h1] at hi
      rw [ho_old j h2] at hj
      exact g.inj i j a b hi hj hab
  · intro id ob hob
    by_cases h1 : loc.length ≤ id ∧ id < loc.length + r.new.length
    · have e1 := ho_new (id - loc.length) (by omega)
      rw [show loc.length + (id - loc.length) = id by omega, hob] at e1
      obtain ⟨ob', q1, _, _, q4, _⟩ := c7 (id - loc.length) _ (List.getElem?_eq_getElem (by omega))
      rw [q1] at e1; cases e1
      exact q4
    · rw [ho_old id h1] at hob
      exact Nat.lt_of_lt_of_le (g.lt _ _ hob) hsz
  · intro id ob hob
    by_cases h1 : loc.length ≤ id ∧ id < loc.length + r.new.length
    · have e1 := ho_new (id - loc.length) (by omega)
      rw [show loc.length + (id - loc.length) = id by omega, hob] at e1
      obtain ⟨ob', q1, _, q3, _⟩ := c7 (id - loc.length) _ (List.getElem?_eq_getElem (by omega))
      rw [q1] at e1; cases e1
      left; have := g.hB; have := g.keep.size; omega
    · rw [ho_old id h1] at hob
      exact g.base _ _ hob
  · intro id ob blk hob hb hr
    by_cases h1 : loc.length ≤ id ∧ id < loc.length + r.new.length
    · have e1 := ho_new (id - loc.length) (by omega)
      rw [show loc.length + (id - loc.length) = id by omega, hob] at e1
      obtain ⟨ob', q1, _, q3, _⟩ := c7 (id - loc.length) _ (List.getElem?_eq_getElem (by omega))
      rw [q1] at e1; cases e1
      have := g.hB; have := g.keep.size; omega
    · rw [ho_old id h1] at hob
      cases hbs : bs id with
      | none => rw [g.none_ id hbs] at hob; cases hob
      | some blk0 =>
        rcases g.base _ _ hob with h | h
        · exact h
        · cases hr0 : isRow blk0 with
          | true => exact g.rows id ob blk0 hob hbs hr0
          | false =>
            exfalso
            cases blk0 with
            | row => cases hr0
            | map es0 =>
              have hz := (g.some_ _ _ hbs)
              obtain ⟨ob', r1, r2⟩ := hz
              rw [hob] at r1; cases r1
              unfold updW at hb
              by_cases hw : ((if stayR r then idsL args else mids args).contains id || decide (loc.length ≤ id ∧ id < loc'.length)) = true
              · rw [if_pos hw] at hb
                have hnot : ¬ (loc.length ≤ id ∧ id < loc'.length) := by rw [hnl]; exact h1
                simp only [Bool.or_eq_true, decide_eq_true_eq, List.contains_iff_mem] at hw
                have hw := hw.resolve_right hnot
                have hidX : id ∈ idsL args := by
                  split at hw
                  · exact hw
                  · exact hmX id hw
                rw [hid id hidX] at hbs
                have hidl := (List.getElem?_eq_some_iff.1 hbs).1
                rw [← hloc', List.getElem?_append_left (by omega), hg2] at hb
                by_cases hmm : id ∈ mids args
                · obtain ⟨i, hi⟩ := List.mem_iff_getElem?.1 hmm
                  have hil := (List.getElem?_eq_some_iff.1 hi).1
                  obtain ⟨es', hes'⟩ : ∃ es', r.outs[i]? = some es' := ⟨_, List.getElem?_eq_getElem (by omega)⟩
                  rw [p3 i id es' hi hes'] at hb
                  split at hb <;> simp [Blk.mark] at hb <;> subst hb <;> cases hr
                · rw [p2 id hmm, hbs] at hb
                  split at hb <;> simp [Blk.mark] at hb <;> subst hb <;> cases hr
              · rw [if_neg hw, hbs] at hb; cases hb; cases hr
  · refine g.keep.trans ⟨c5.os, c5.tape, c5.output, hsz, fun k hk hl => c5.block k (by have := g.hB; have := g.keep.size; omega) fun hmem => ?_⟩
    obtain ⟨id, ob, es, _, q2, q3, _⟩ := hlentb k hmem
    rcases g.base id ob q2 with h | h
    · omega
    · exact hl (q3 ▸ h)
end
end Go.Rv
namespace Go.Rv
def SigOK (P : Program) (σ : Num) : Prop := ∀ k g, σ k = some g → ∃ fn, P.funcs[k]? = some fn ∧ fn.body.isSome = true ∧ (fn.name == "runtime.NumGoroutine") = false
section
variable {P : Program} {σ : Num} {im lm : Nat → Prop} {B : Nat} {w0 w : World} {own : Own} {bs : Nat → Option Blk} {o : Oper} {a : Act} {fr : Fr} {loc loc' : Loc} {call : CallF}
theorem updW_same {W : List Nat} (h : ∀ id ∈ W, bs id = loc[id]?) : updW bs loc W loc.length = bs := by
  funext j
  unfold updW
  split
  · rename_i hc
    simp only [Bool.or_eq_true, decide_eq_true_eq, List.contains_iff_mem] at hc
    rcases hc with hc | hc
    · exact (h j hc).symm
    · omega
  · rfl
theorem updW_app {W : List Nat} {b : Blk} (h : ∀ id ∈ W, bs id = loc[id]?) : updW bs (loc ++ [b]) W loc.length = upd bs loc.length b := by
  funext j
  unfold updW upd
  by_cases hj : j = loc.length
  · subst hj; simp
  · rw [if_neg hj]
    split
    · rename_i hc
      simp only [Bool.or_eq_true, decide_eq_true_eq, List.contains_iff_mem, List.length_append, List.length_singleton] at hc
      have hm : j ∈ W := by rcases hc with hc | hc; exact hc; omega
      rw [h j hm]
      by_cases hl : j < loc.length
      · rw [List.getElem?_append_left hl]
      · rw [List.getElem?_eq_none (by simp; omega), List.getElem?_eq_none (by omega)]
    · rfl
theorem updW_set {id : Nat} {b : Blk} (hid : id < loc.length) : updW bs (loc.set id b) [id] loc.length = upd bs id b := by
  funext j
  unfold updW upd
  by_cases hj : j = id
  · subst hj; simp [hid]
  · rw [if_neg hj, if_neg]
    simp only [Bool.or_eq_true, decide_eq_true_eq, List.contains_iff_mem, List.mem_singleton, List.length_set]; omega
theorem fin_same {v : AV} {W : List Nat} (h : ∀ id ∈ W, bs id = loc[id]?) (r : OpR P σ im lm B w0 own w o a v bs) : OpW P σ im lm B w0 own w o a v (updW bs loc W loc.length) ∧ loc.length ≤ loc.length ∧ ∀ j, j < loc.length → j ∉ W → loc[j]? = loc[j]? := by
  rw [updW_same h]; exact ⟨r.toW, Nat.le_refl _, fun _ _ _ => rfl⟩
theorem fin_app {v : AV} {W : List Nat} {b : Blk} (h : ∀ id ∈ W, bs id = loc[id]?) (r : OpR P σ im lm B w0 own w o a v (upd bs loc.length b)) : OpW P σ im lm B w0 own w o a v (updW bs (loc ++ [b]) W loc.length) ∧ loc.length ≤ (loc ++ [b]).length ∧ ∀ j, j < loc.length → j ∉ W → (loc ++ [b])[j]? = loc[j]? := by
  rw [updW_app h]; exact ⟨r.toW, by simp, fun j hj _ => List.getElem?_append_left hj⟩
theorem fin_set {v : AV} {id : Nat} {b : Blk} (hid : id < loc.length) (r : OpR P σ im lm B w0 own w o a v (upd bs id b)) : OpW P σ im lm B w0 own w o a v (updW bs (loc.set id b) [id] loc.length) ∧ loc.length ≤ (loc.set id b).length ∧ ∀ j, j < loc.length → j ∉ [id] → (loc.set id b)[j]? = loc[j]? := by
  rw [updW_set hid]; exact ⟨r.toW, by simp, fun j _ hj => List.getElem?_set_ne (fun h => hj (by simp [h]))⟩
theorem run_enter (hσ : SigOK P σ) {c : Call} (ho : o.op = .call c) {f : Operand} (hc : c.callee = .value f) {k g : Nat} {caps : Array Value} (hf : a.eval f = .func (.func k) #[] caps) (hk : σ k = some g) (w : World) :
    (execOp a.eval o).run P w = .ok (.enter k (((c.args.toList.map a.eval) ++ caps.toList).toArray)) w := by
  obtain ⟨fn, h1, h2, h3⟩ := hσ k g hk
  have h4 : fn.body.isNone = false := by cases hb : fn.body <;> simp [hb] at h2 ⊢
  have hargs : (c.args.map a.eval ++ caps) = ((c.args.toList.map a.eval) ++ caps.toList).toArray := by
    apply Array.toList_inj.1; simp
  simp only [execOp, ho, resolve, hc, hf, Deferred.ofValue, invoke, Sem.run_bind, Sem.run_pure, Result.andThen_ok, callFunc, run_program, h1, h3, h4, Bool.false_eq_true, if_false, Array.empty_append]
  rw [hargs]
theorem args_rel {h : Array Obj} (hf : FR σ im h own fr a.tmps) {xs : List Operand} {rs : List Ar} (e : trArs σ xs = some rs) {cl : List AV} {cv : List Value} (hl : cl.length = cv.length)
    (hc : ∀ (j : Nat) (c : AV) (v : Value), cl[j]? = some c → cv[j]? = some v → VR σ im h own c v) :
    (rs.map (ev1 fr) ++ cl).length = (xs.map a.eval ++ cv).length ∧ ∀ (j : Nat) (c : AV) (v : Value), (rs.map (ev1 fr) ++ cl)[j]? = some c → (xs.map a.eval ++ cv)[j]? = some v → VR σ im h own c v := by
  obtain ⟨h1, h2⟩ := ars_ok hf e
  refine ⟨by simp [h1, hl], fun j c v hj hv => ?_⟩
  by_cases hlt : j < rs.length
  · rw [List.getElem?_append_left (by simpa using hlt)] at hj
    rw [List.getElem?_append_left (by simp; omega)] at hv
    exact h2 j c v hj hv
  · rw [List.getElem?_append_right (by simp; omega)] at hj
    rw [List.getElem?_append_right (by simp; omega)] at hv
    simp only [List.length_map] at hj hv
    rw [h1] at hj
    exact hc _ c v hj hv
theorem op_ok (hσ : SigOK P σ) (hc : CallOK P σ call) {i : I} (ht : trOp σ P o = some i) {v : AV} (hv : evOp call fr loc i = some (v, loc')) (g : GS σ im lm B w0 own bs w) (hf : FR σ im w.heap own fr a.tmps)
    (hfoot : ∀ id, id ∈ (foot call fr loc i).1 ∨ id ∈ (foot call fr loc i).2 → bs id = loc[id]?) (hfresh : ∀ j, loc.length ≤ j → j < loc'.length → bs j = none) :
    OpW P σ im lm B w0 own w o a v (updW bs loc' (foot call fr loc i).2 loc.length) ∧ loc.length ≤ loc'.length ∧ ∀ j, j < loc.length → j ∉ (foot call fr loc i).2 → loc'[j]? = loc[j]? := by
  have hW : ∀ id ∈ (foot call fr loc i).2, bs id = loc[id]? := fun id h => hfoot id (.inr h)
  unfold trOp at ht
  split at ht
  all_goals rename_i hop
  · -- move
    rename_i x
    simp only [Option.map_eq_some_iff] at ht; obtain ⟨r, hr, rfl⟩ := ht
    simp [evOp] at hv; obtain ⟨rfl, rfl⟩ := hv
    exact fin_same hW (pure_op g (p_mv hf (.inl hop) hr))
  · rename_i x
    simp only [Option.map_eq_some_iff] at ht; obtain ⟨r, hr, rfl⟩ := ht
    simp [evOp] at hv; obtain ⟨rfl, rfl⟩ := hv
    exact fin_same hW (pure_op g (p_mv hf (.inr hop) hr))
  · -- pick
    split at ht
    case h_2 => cases ht
    rename_i c' x' y' h1 h2 h3
    simp at ht; subst ht
    simp only [evOp] at hv
    split at hv
    case h_2 => cases hv
    rename_i t hct
    simp at hv; obtain ⟨rfl, rfl⟩ := hv
    exact fin_same hW (pure_op g (p_pick hf hop h1 h2 h3 hct))
  · -- alloc
    rename_i t
    simp only [Option.map_eq_some_iff] at ht; obtain ⟨z, hz, rfl⟩ := ht
    simp [evOp] at hv; obtain ⟨rfl, rfl⟩ := hv
    exact fin_app hW (m_alloc g hop hz (hfresh _ (Nat.le_refl _) (by simp)))
  · -- box
    split at ht
    case h_2 => cases ht
    rename_i r hr
    split at ht
    case isFalse => cases ht
    simp at ht; subst ht
    simp only [evOp] at hv
    split at hv
    case h_2 => cases hv
    rename_i cs hcs
    split at hv
    case isTrue => cases hv
    rename_i h0
    simp at hv; obtain ⟨rfl, rfl⟩ := hv
    exact fin_app hW (m_box g hf hop hr hcs h0 (hfresh _ (Nat.le_refl _) (by simp)))
  · -- build
    split at ht
    case h_3 => cases ht
    · rename_i z fs hz hu
      split at ht
      case isTrue => cases ht
      rename_i hfs
      simp only [Option.map_eq_some_iff] at ht; obtain ⟨qs, hqs, rfl⟩ := ht
      simp only [evOp] at hv
      split at hv
      case h_2 => cases hv
      rename_i cs hcs
      simp at hv; obtain ⟨rfl, rfl⟩ := hv
      have hfs' : ∀ f ∈ fs.toList, (P.info? f.type).isSome = true := by
        have : fs.toList.all (fun f => (P.info? f.type).isSome) = true := by
          revert hfs; cases fs.toList.all (fun f => (P.info? f.type).isSome) <;> simp
        exact List.all_eq_true.1 this
      exact fin_same hW (pure_op g (p_buildS hf hop hz hu hfs' hqs hcs))
    · rename_i z n e hz hu
      split at ht
      case isTrue => cases ht
      rename_i he
      simp only [Option.map_eq_some_iff] at ht; obtain ⟨qs, hqs, rfl⟩ := ht
      simp only [evOp] at hv
      split at hv
      case h_2 => cases hv
      rename_i cs hcs
      simp at hv; obtain ⟨rfl, rfl⟩ := hv
      exact fin_same hW (pure_op g (p_buildA hf hop hz hu he hqs hcs))
  · -- buildSlice
    split at ht
    case h_2 => cases ht
    rename_i e he
    split at ht
    case h_2 => cases ht
    rename_i z hz
    split at ht
    case isFalse => cases ht
    rename_i hsz
    simp only [Option.map_eq_some_iff] at ht; obtain ⟨qs, hqs, rfl⟩ := ht
    simp only [evOp] at hv
    split at hv
    case h_2 => cases hv
    rename_i xs hxs
    simp only [Option.some.injEq, Prod.mk.injEq] at hv; obtain ⟨rfl, rfl⟩ := hv
    exact fin_app hW (m_bsl g hf hop he hz hsz hqs hxs (hfresh _ (Nat.le_refl _) (by simp)))
  · -- load
    split at ht
    case h_2 => cases ht
    rename_i ag r hag hr
    split at ht
    case isFalse => cases ht
    rename_i hc1
    simp at ht; subst ht
    simp only [evOp] at hv
    split at hv
    case h_2 => cases hv
    rename_i cs hcs
    split at hv
    case h_2 => cases hv
    rename_i v' hp
    simp at hv; obtain ⟨rfl, rfl⟩ := hv
    exact fin_same hW (m_load g hf hop hag hc1.1 hr (fun id hm => hfoot id (.inl hm)) hcs hp)
  · -- store
    split at ht
    case h_2 => cases ht
    rename_i r q hr hq
    split at ht
    case isFalse => cases ht
    rename_i h0
    simp at ht; subst ht
    simp only [evOp] at hv
    split at hv
    case h_2 => cases hv
    rename_i cs hcs
    split at hv
    case isFalse => cases hv
    rename_i hn
    split at hv
    case h_2 => cases hv
    rename_i loc1 hst
    simp at hv; obtain ⟨rfl, rfl⟩ := hv
    obtain ⟨id, b', e1, e2, e3, e4⟩ := m_store g hf hop h0 hr hq (fun id hm => hfoot id (.inr hm)) hcs hn hst
    subst e3
    simp only [foot, e1]
    exact fin_set e2 e4
  · -- binOp
    rename_i op t x y u
    split at ht
    · rename_i r k hr hu
      simp only [Option.map_eq_some_iff] at ht; obtain ⟨q, hq, rfl⟩ := ht
      simp only [evOp] at hv
      split at hv
      case h_2 => cases hv
      rename_i v' hv'
      simp at hv; obtain ⟨rfl, rfl⟩ := hv
      exact fin_same hW (pure_op g (p_bin hf hop hr hq hv'))
    · rename_i r hr hu
      simp only [Option.map_eq_some_iff] at ht; obtain ⟨q, hq, rfl⟩ := ht
      simp only [evOp] at hv
      split at hv
      case h_2 => cases hv
      rename_i v' hv'
      simp at hv; obtain ⟨rfl, rfl⟩ := hv
      exact fin_same hW (pure_op g (p_bin hf hop hr hq hv'))
    · rename_i r e hr hu
      split at ht
      case h_2 => cases ht
      have key : ∀ neg, op = (if neg then .neq else .eql) → i = .eqn neg r → OpW P σ im lm B w0 own w o a v (updW bs loc' (foot call fr loc i).2 loc.length) ∧ loc.length ≤ loc'.length ∧ ∀ j, j < loc.length → j ∉ (foot call fr loc i).2 → loc'[j]? = loc[j]? := by
        intro neg hop' hi
        subst hi
        simp only [evOp] at hv
        split at hv
        case h_2 => cases hv
        rename_i t hnv
        simp at hv; obtain ⟨rfl, rfl⟩ := hv
        have := p_eqn hf hop hu hop' hr hnv
        exact fin_same hW (pure_op g (by cases neg <;> simpa using this))
      split at ht
      · rename_i h1; simp at ht; exact key false h1 ht.symm
      · split at ht
        · rename_i h1; simp at ht; exact key true h1 ht.symm
        · cases ht
    · rename_i r d hn1 hn2 hn3 hr hu
      split at ht
      case h_2 => cases ht
      rename_i q sh ag hq hsh hag
      split at ht
      case isTrue => cases ht
      rename_i hgd
      have key : ∀ neg, op = (if neg then .neq else .eql) → i = .eq neg ag sh r q → OpW P σ im lm B w0 own w o a v (updW bs loc' (foot call fr loc i).2 loc.length) ∧ loc.length ≤ loc'.length ∧ ∀ j, j < loc.length → j ∉ (foot call fr loc i).2 → loc'[j]? = loc[j]? := by
        intro neg hop' hi
        subst hi
        simp only [evOp] at hv
        split at hv
        case h_2 => cases hv
        rename_i t hnv
        simp at hv; obtain ⟨rfl, rfl⟩ := hv
        have := p_eq hf hop hsh hag (by simpa using hgd) hop' (fun k hk => by rw [hk] at hu; cases hu; exact hn1 k rfl) (fun hk => by rw [hk] at hu; cases hu; exact hn2 rfl) hr hq hnv
        exact fin_same hW (pure_op g (by cases neg <;> simpa using this))
      split at ht
      · rename_i h1; simp at ht; exact key false h1 ht.symm
      · split at ht
        · rename_i h1; simp at ht; exact key true h1 ht.symm
        · cases ht
    · cases ht
  · -- unOp
    simp only [Option.map_eq_some_iff] at ht; obtain ⟨r, hr, rfl⟩ := ht
    simp only [evOp] at hv
    split at hv
    case h_2 => cases hv
    rename_i v' hv'
    simp at hv; obtain ⟨rfl, rfl⟩ := hv
    exact fin_same hW (pure_op g (p_un hf hop hr hv'))
  · -- convert
    split at ht
    case h_2 => cases ht
    rename_i k0 k r hs hd hr
    simp at ht; subst ht
    simp only [evOp] at hv
    split at hv
    case h_2 => cases hv
    rename_i v' hv'
    simp at hv; obtain ⟨rfl, rfl⟩ := hv
    exact fin_same hW (pure_op g (p_conv hf hop hs hd hr hv'))
  · -- makeFunc
    split at ht
    case h_2 => cases ht
    rename_i gn l hgn hl
    split at ht
    case isFalse => cases ht
    rename_i h0
    simp at ht; subst ht
    simp [evOp] at hv; obtain ⟨rfl, rfl⟩ := hv
    exact fin_same hW (pure_op g (p_mkfn hf hop h0 hgn hl))
  · -- makeMap
    simp at ht; subst ht
    simp [evOp] at hv; obtain ⟨rfl, rfl⟩ := hv
    exact fin_app hW (m_mkmap g hop (hfresh _ (Nat.le_refl _) (by simp)))
  · -- makeSlice
    split at ht
    case h_2 => cases ht
    rename_i e he
    split at ht
    case h_2 => cases ht
    rename_i z r q hz hr hq
    split at ht
    case isFalse => cases ht
    rename_i hsm
    simp at ht; subst ht
    simp only [evOp] at hv
    split at hv
    case h_2 => cases hv
    rename_i k n k' m h1 h2
    split at hv
    case isFalse => cases hv
    rename_i hb
    simp only [Option.some.injEq, Prod.mk.injEq] at hv; obtain ⟨rfl, rfl⟩ := hv
    exact fin_app hW (m_mkrow g hf hop he hz hsm hr hq h1 h2 hb.1 hb.2.1 (by simpa using hb.2.2) (hfresh _ (Nat.le_refl _) (by simp)))
  · -- slice
    rename_i t0 x0 lo0 hi0 mx0
    split at ht
    · rename_i n e r lo hi hu hr hlo hhi hmx
      split at ht
      case isTrue => cases ht
      rename_i he
      simp at ht; subst ht
      simp only [evOp] at hv
      split at hv
      case h_2 => cases hv
      rename_i L H n1 n2
      split at hv
      case h_2 => cases hv
      rename_i v' hv'
      simp at hv; obtain ⟨rfl, rfl⟩ := hv
      exact fin_same hW (pure_op g (p_slcA hf hop hu he hr hlo hhi hmx n1 n2 hv'))
    · rename_i e r lo hi mx hu hr hlo hhi hmx
      split at ht
      case isFalse => cases ht
      rename_i he
      simp at ht; subst ht
      simp only [evOp] at hv
      split at hv
      case h_2 => cases hv
      rename_i L H M n1 n2 n3
      split at hv
      case h_2 => cases hv
      rename_i v' hv'
      simp at hv; obtain ⟨rfl, rfl⟩ := hv
      refine fin_same hW (pure_op g (p_slc hf hop hu he.1 hr hlo hhi hmx n1 n2 n3 ?_ hv'))
      rcases he.2 with h | h
      · left
        cases mx0 with
        | none => rfl
        | some m => simp only [trO, Option.map_eq_some_iff] at hmx; obtain ⟨_, _, h3⟩ := hmx; subst h3; simp at h
      · right
        intro h3; subst h3; simp [trO] at hhi; subst hhi; simp at h
    · cases ht
  · -- fieldAddr
    split at ht
    case h_2 => cases ht
    rename_i fs r hu hr
    split at ht
    case h_2 => cases ht
    rename_i fd hfd
    split at ht
    case isTrue => cases ht
    rename_i hz
    simp at ht; subst ht
    simp only [evOp] at hv
    split at hv
    case h_2 => cases hv
    rename_i v' hv'
    simp at hv; obtain ⟨rfl, rfl⟩ := hv
    exact fin_same hW (pure_op g (p_faddr hf hop hu hfd hz hr hv'))
  · -- field
    split at ht
    case h_2 => cases ht
    rename_i fs r hu hr
    split at ht
    case h_2 => cases ht
    rename_i fd hfd
    split at ht
    case h_2 => cases ht
    rename_i ag hag
    split at ht
    case isFalse => cases ht
    rename_i hz
    simp at ht; subst ht
    simp only [evOp] at hv
    split at hv
    case h_2 => cases hv
    rename_i cs hcs
    split at hv
    case isFalse => cases hv
    rename_i hl
    split at hv
    case h_2 => cases hv
    rename_i v' hv'
    simp at hv; obtain ⟨rfl, rfl⟩ := hv
    exact fin_same hW (pure_op g (p_fld hf hop hu hfd hag hz.1 hz.2 hr hcs hl hv'))
  · -- indexAddr
    split at ht
    · rename_i n e r q hu hr hq
      split at ht
      case isFalse => cases ht
      rename_i hz
      simp at ht; subst ht
      simp only [evOp] at hv
      split at hv
      case h_2 => cases hv
      rename_i k m hk
      split at hv
      case h_2 => cases hv
      rename_i v' hv'
      simp at hv; obtain ⟨rfl, rfl⟩ := hv
      exact fin_same hW (pure_op g (p_iaddrA hf hop hu hz hr hq hk hv'))
    · rename_i e r q hu hr hq
      split at ht
      case isFalse => cases ht
      rename_i hz
      simp at ht; subst ht
      simp only [evOp] at hv
      split at hv
      case h_2 => cases hv
      rename_i k m hk
      split at hv
      case h_2 => cases hv
      rename_i v' hv'
      simp at hv; obtain ⟨rfl, rfl⟩ := hv
      exact fin_same hW (pure_op g (p_iaddr hf hop hu hz hr hq hk hv'))
    · cases ht
  · -- lookup
    split at ht
    case h_2 => cases ht
    rename_i kt e r q hu hr hq
    split at ht
    case h_2 => cases ht
    rename_i kk z hkk hz
    simp at ht; subst ht
    simp only [evOp] at hv
    split at hv
    case h_2 => cases hv
    rename_i id hid
    split at hv
    case h_2 => cases hv
    rename_i es hes
    split at hv
    case h_2 => cases hv
    rename_i res hres
    simp at hv; obtain ⟨rfl, rfl⟩ := hv
    exact fin_same hW (m_look g hf hop hu hkk hz hr hq hid (hfoot id (.inl (by simp [foot, hid, AV.ids]))) hes hres)
  · -- mapUpdate
    split at ht
    case h_2 => cases ht
    rename_i kt e r q s hu hr hq hs
    split at ht
    case h_2 => cases ht
    rename_i kk hkk
    simp at ht; subst ht
    simp only [evOp] at hv
    split at hv
    case h_2 => cases hv
    rename_i id hid
    split at hv
    case h_2 => cases hv
    rename_i es hes
    split at hv
    case h_2 => cases hv
    rename_i es' hes'
    simp at hv; obtain ⟨rfl, rfl⟩ := hv
    split at hes'
    case h_2 => cases hes'
    rename_i k n b hk hb
    have := m_mset g hf hop hu hkk hr hq hs hid (hfoot id (.inr (by simp [foot, hid, AV.ids]))) hes hk hb hes'
    simp only [foot, hid, AV.ids]
    exact fin_set (List.getElem?_eq_some_iff.1 hes).1 this
  · -- extract
    simp only [Option.map_eq_some_iff] at ht; obtain ⟨r, hr, rfl⟩ := ht
    simp only [evOp] at hv
    split at hv
    case h_2 => cases hv
    rename_i vs hvs
    split at hv
    case h_2 => cases hv
    rename_i v' hv'
    simp at hv; obtain ⟨rfl, rfl⟩ := hv
    exact fin_same hW (pure_op g (p_ext hf hop hr hvs hv'))
  · -- call
    rename_i c
    unfold trCall at ht
    split at ht
    · rename_i b hcal
      split at ht
      · -- len
        rename_i x hargs
        split at ht
        · rename_i r hr hu
          simp at ht; subst ht
          simp only [evOp] at hv
          split at hv
          case h_2 => cases hv
          rename_i n hn
          simp at hv; obtain ⟨rfl, rfl⟩ := hv
          rw [Option.bind_eq_some_iff] at hu
          obtain ⟨t, ht1, ht2⟩ := hu
          exact fin_same hW (pure_op g (p_len (str := true) hf hop hcal hargs ht1 ht2 rfl hr hn))
        · rename_i r e hr hu
          simp at ht; subst ht
          simp only [evOp] at hv
          split at hv
          case h_2 => cases hv
          rename_i n hn
          simp at hv; obtain ⟨rfl, rfl⟩ := hv
          rw [Option.bind_eq_some_iff] at hu
          obtain ⟨t, ht1, ht2⟩ := hu
          exact fin_same hW (pure_op g (p_len (str := false) hf hop hcal hargs ht1 ht2 ⟨e, rfl⟩ hr hn))
        · cases ht
      · -- append
        rename_i x y hargs
        split at ht
        case h_2 => cases ht
        rename_i t u htys
        split at ht
        case h_2 => cases ht
        rename_i e r q he hr hq
        split at ht
        case isFalse => cases ht
        rename_i hb
        obtain ⟨htu, hsm, hzs⟩ := hb
        subst htu
        obtain ⟨zz, hzz⟩ := Option.isSome_iff_exists.1 hzs
        simp at ht; subst ht
        simp only [evOp] at hv
        split at hv
        case h_2 => cases hv
        rename_i ys hys
        have hids : ∀ id ∈ (ev1 fr r).ids ++ (ev1 fr q).ids, bs id = loc[id]? := by
          intro id hm
          rcases List.mem_append.1 hm with h | h
          · exact hfoot id (.inr h)
          · exact hfoot id (.inl h)
        rcases m_append g hf hop hcal hargs htys he hsm hzz hr hq hids hys hv (fun h => hfresh _ (Nat.le_refl _) h) with ⟨e1, e2⟩ | ⟨b', e1, e2⟩ | ⟨id, b', e1, e2, e3, e4⟩
        · subst e1; exact fin_same hW e2
        · subst e1; exact fin_app hW e2
        · subst e3; simp only [foot, e1]; exact fin_set e2 e4
      · -- copy
        rename_i x y hargs
        split at ht
        case h_2 => cases ht
        rename_i t u htys
        split at ht
        case h_2 => cases ht
        rename_i e r q he hr hq
        split at ht
        case isFalse => cases ht
        rename_i h0
        simp at ht; subst ht
        simp only [evOp] at hv
        split at hv
        case h_2 => cases hv
        rename_i ys hys
        have hids : ∀ id ∈ (ev1 fr r).ids ++ (ev1 fr q).ids, bs id = loc[id]? := by
          intro id hm
          rcases List.mem_append.1 hm with h | h
          · exact hfoot id (.inr h)
          · exact hfoot id (.inl h)
        obtain ⟨id, b', e1, e2, e3, e4⟩ := m_copy g hf hop hcal hargs htys he h0 hr hq hids hys hv
        subst e3; simp only [foot, e1]; exact fin_set e2 e4
      · -- max
        rename_i x xs hargs
        split at ht
        case h_2 => cases ht
        rename_i r rs hr hrs
        simp at ht; subst ht
        simp only [evOp] at hv
        split at hv
        case h_2 => cases hv
        rename_i v' hv'
        simp at hv; obtain ⟨rfl, rfl⟩ := hv
        exact fin_same hW (pure_op g (p_mxn (mx := true) hf hop hcal hargs hr hrs hv'))
      · -- min
        rename_i x xs hargs
        split at ht
        case h_2 => cases ht
        rename_i r rs hr hrs
        simp at ht; subst ht
        simp only [evOp] at hv
        split at hv
        case h_2 => cases hv
        rename_i v' hv'
        simp at hv; obtain ⟨rfl, rfl⟩ := hv
        exact fin_same hW (pure_op g (p_mxn (mx := false) hf hop hcal hargs hr hrs hv'))
      · cases ht
    · -- a function by name
      rename_i f hcal
      split at ht
      case h_2 => cases ht
      rename_i gn rs hgn hrs
      simp at ht; subst ht
      simp only [evOp] at hv
      obtain ⟨h1, h2⟩ := args_rel (cl := []) (cv := []) hf hrs rfl (by simp)
      simp only [List.append_nil] at h1 h2
      have hrun := run_enter (a := a) hσ hop hcal (f := .func f) (k := f) (caps := #[]) rfl hgn w
      simp only [List.append_nil] at hrun
      have hids : ∀ id ∈ idsL (rs.map (ev1 fr)), bs id = loc[id]? := by
        intro id hm
        refine hfoot id (.inl ?_)
        unfold doCall at hv
        simp only [foot, footCall]
        split at hv
        case h_1 => cases hv
        rename_i fargs hfa
        split at hv
        case h_1 => cases hv
        rename_i r hr
        simp only [hfa]; exact hm
      exact m_call hc g hgn h1 h2 hids hv hfresh hrun
    · -- a function value
      rename_i f hnf hcal
      split at ht
      case h_2 => cases ht
      rename_i r rs hr hrs
      simp at ht; subst ht
      simp only [evOp] at hv
      split at hv
      case h_2 => cases hv
      rename_i gn caps hgn
      obtain ⟨k, vs, hk1, hk2, hk3, hk4⟩ := (hgn ▸ ar_ok hf hr).fn_inv
      obtain ⟨h1, h2⟩ := args_rel (cl := caps) (cv := vs.toList) hf hrs (by simpa using hk3) (fun j c v hj hv => hk4 j c v hj (by simpa using hv))
      have hrun := run_enter hσ hop hcal hk1 hk2 w
      have hids : ∀ id ∈ idsL (rs.map (ev1 fr) ++ caps), bs id = loc[id]? := by
        intro id hm
        refine hfoot id (.inl ?_)
        unfold doCall at hv
        simp only [foot, hgn, footCall]
        split at hv
        case h_1 => cases hv
        rename_i fargs hfa
        split at hv
        case h_1 => cases hv
        rename_i r hr
        simp only [hfa]; exact hm
      have := m_call hc g hk2 h1 h2 hids hv hfresh hrun
      simp only [foot, hgn]; exact this
    · cases ht
  · cases ht
end
end Go.Rv
namespace Go.Rv
def Lents (lm : List Nat) (own : Own) : Prop := ∀ (j b : Nat), lm[j]? = some b → ∃ ob, own j = some ob ∧ ob.z = 0 ∧ ob.b = b
theorem Lents.le {lm : List Nat} {own own' : Own} (h : Lents lm own) (hl : own.le own') : Lents lm own' := fun j b hj => by
  obtain ⟨ob, h1, h2, h3⟩ := h j b hj
  obtain ⟨ob', q1, q2, _, _, q5⟩ := hl j ob h1
  exact ⟨ob', q1, q2.trans h2, (q5 h2).trans h3⟩
structure SI (σ : Num) (im0 : Nat → Prop) (lm : List Nat) (B : Nat) (w0 : World) (nt : Nat) (im : Nat → Prop) (own : Own) (st : St) (a : Act) (w : World) : Prop where
  imle : ∀ b, im0 b → im b
  imnew : ∀ b, im b → im0 b ∨ B ≤ b
  gs : GS σ im (· ∈ lm) B w0 own (fun j => st.loc[j]?) w
  fr : FR σ im w.heap own st.fr a.tmps
  size : a.tmps.size = nt
  defers : a.defers = []
  lents : Lents lm own
section
variable {P : Program} {σ : Num} {im0 im im' : Nat → Prop} {lm : List Nat} {B : Nat} {w0 w : World} {own own' : Own} {o : Oper} {a : Act} {fr : Fr} {loc loc' : Loc} {call : CallF} {nt : Nat} {st st' : St} {h h' : Array Obj}
theorem getD_put (tmps : Array Value) (d t : Nat) (v : Value) : (tmps.setIfInBounds d v).getD t undef = if t = d ∧ d < tmps.size then v else tmps.getD t undef := by
  simp only [Array.getD_eq_getD_getElem?, Array.getElem?_setIfInBounds]
  by_cases h : d = t
  · subst h
    by_cases hl : d < tmps.size
    · simp [hl]
    · simp [hl]
  · rw [if_neg h, if_neg (fun h' => h h'.1.symm)]
theorem FR.mono (hi : ∀ b, im b → im' b) (hh : ∀ b, im b → h'[b]? = h[b]?) (ho : own.le own') {tmps : Array Value} (r : FR σ im h own fr tmps) : FR σ im' h' own' fr tmps := fun t => (r t).mono hi hh ho
def putT (tmps : Array Value) (dst : Option Nat) (cv : Value) : Array Value := match dst with | some d => tmps.setIfInBounds d cv | none => tmps
theorem VI.undef : VI σ im h (.tup []) undef := .tup rfl (fun j c v h => by simp at h)
theorem FR.put {tmps : Array Value} (r : FR σ im h own fr tmps) {dst : Option Nat} (hd : dst.all (· < tmps.size) = true) {v : AV} {cv : Value} (hv : VR σ im h own v cv) :
    FR σ im h own (putD fr dst v) (putT tmps dst cv) := by
  cases dst with
  | none => exact r
  | some d =>
    intro t
    simp only [putD, putT, Fr.get]
    rw [getD_put]
    simp at hd
    by_cases ht : d = t
    · subst ht; simp [hd]; exact hv
    · rw [if_neg ht, if_neg (fun h => ht h.1.symm)]; exact r t
theorem put_tmps (a : Act) (dst : Option Tmp) (v : Value) : (a.put dst v).tmps = putT a.tmps dst v ∧ (a.put dst v).defers = a.defers := by
  cases dst <;> simp [Act.put, putT]
theorem get_filter : ∀ (fr : Fr) (l : List Nat) (t : Nat), (fr.drop l).get t = if t ∈ l then .u else fr.get t
  | [], l, t => by simp [Fr.drop, Fr.get]
  | (k, v) :: r, l, t => by
    have ih := get_filter r l t
    unfold Fr.drop at ih ⊢
    rw [List.filter_cons]
    by_cases hk : l.contains k = true
    · simp only [hk, Bool.not_true, Bool.false_eq_true, if_false]
      rw [ih]
      have hk' : k ∈ l := by simpa using hk
      by_cases ht : t ∈ l
      · rw [if_pos ht, if_pos ht]
      · rw [if_neg ht, if_neg ht]
        have : ¬ k = t := fun e => ht (e ▸ hk')
        simp [Fr.get, this]
    · have hk' : k ∉ l := by simpa using hk
      simp only [Bool.not_eq_true] at hk
      simp only [hk, Bool.not_false, if_true, Fr.get]
      by_cases hkt : k = t
      · subst hkt; simp [hk']
      · simp only [hkt, if_false]; exact ih
theorem FR.drop {tmps : Array Value} (r : FR σ im h own fr tmps) (l : List Nat) : FR σ im h own (fr.drop l) tmps := fun t => by
  rw [get_filter]; split
  · exact .imm .u
  · exact r t
theorem mo_ok (hσ : SigOK P σ) (hc : CallOK P σ call) {ops : Array Oper} {uno : List Nat} {mo : MO} (ht : trMO σ P nt ops o uno = some mo) (he : evMO call mo st = some st') (s : SI σ im0 lm B w0 nt im own st a w)
    {K : Act → World → Prop} {Q : Exit → Act → World → Prop} (hK : ∀ im own a' w', SI σ im0 lm B w0 nt im own st' a' w' → K a' w') :
    if Region.wanted o (yielded ops a.tmps) then o.wp P a w K Q else K (a.put o.dst undef) w := by
  unfold trMO at ht
  split at ht
  case isTrue => cases ht
  rename_i hd
  have hd' : o.dst.all (· < nt) = true := by revert hd; cases o.dst.all (· < nt) <;> simp
  split at ht
  case h_2 => cases ht
  rename_i i hi
  have hd2 : o.dst.all (· < a.tmps.size) = true := by rw [s.size]; exact hd'
  have run : ∀ (v : AV) (loc1 : Loc), evOp call st.fr st.loc i = some (v, loc1) → st' = ⟨putD st.fr o.dst v, loc1⟩ → o.wp P a w K Q := by
    intro v loc1 hv hst
    obtain ⟨h1, h2, h3⟩ := op_ok hσ hc hi hv s.gs s.fr (fun _ _ => rfl) (fun j hj _ => List.getElem?_eq_none hj)
    refine h1 K Q fun im1 own1 w1 cv g1 g2 g3 g4 g5 g6 => hK im1 own1 _ _ ?_
    subst hst
    have hbs : updW (fun j => st.loc[j]?) loc1 (foot call st.fr st.loc i).2 st.loc.length = fun j => loc1[j]? := by
      funext j
      unfold updW
      split
      · rfl
      · rename_i hj
        simp only [Bool.or_eq_true, decide_eq_true_eq, List.contains_iff_mem, not_or] at hj
        by_cases hl : j < st.loc.length
        · exact (h3 j hl hj.1).symm
        · show st.loc[j]? = loc1[j]?
          rw [List.getElem?_eq_none (by omega), List.getElem?_eq_none (by omega)]
    rw [hbs] at g5
    obtain ⟨p1, p2⟩ := put_tmps a o.dst cv
    refine ⟨fun b hb => g1 b (s.imle b hb), fun b hb => ?_, g5, ?_, ?_, by rw [p2]; exact s.defers, s.lents.le g4⟩
    · rcases g2 b hb with h | h
      · exact s.imnew b h
      · exact .inr h
    · rw [p1]; exact (s.fr.mono g1 g3 g4).put hd2 g6
    · rw [p1, ← s.size]; cases o.dst <;> simp [putT]
  have skip : st' = ⟨putD st.fr o.dst (.tup []), st.loc⟩ → K (a.put o.dst undef) w := by
    intro hst
    subst hst
    obtain ⟨p1, p2⟩ := put_tmps a o.dst undef
    refine hK im own _ _ ⟨s.imle, s.imnew, s.gs, ?_, ?_, by rw [p2]; exact s.defers, s.lents⟩
    · rw [p1]; exact s.fr.put hd2 (.imm VI.undef)
    · rw [p1, ← s.size]; cases o.dst <;> simp [putT]
  cases hg : o.guard with
  | none =>
    simp only [hg] at ht
    simp at ht; subst ht
    simp only [evMO] at he
    split at he
    case h_2 => cases he
    rename_i v loc1 hv
    simp at he
    rw [if_pos (by simp [Region.wanted, hg])]
    exact run v loc1 hv he.symm
  | some jw =>
    obtain ⟨j, want⟩ := jw
    simp only [hg] at ht
    split at ht
    case h_2 => cases ht
    rename_i t htt
    simp at ht; subst ht
    simp only [evMO] at he
    have hfr := s.fr t
    have hy : yielded ops a.tmps j = match a.tmps[t]? with | some (.bool b) => some b | _ => none := by
      unfold yielded; rw [htt]; rfl
    split at he
    · rename_i b hb
      rw [hb] at hfr
      have hbv := hfr.b_inv
      have hget : a.tmps[t]? = some (.bool b) := by
        rw [Array.getD_eq_getD_getElem?] at hbv
        cases hq : a.tmps[t]? with
        | none => rw [hq] at hbv; simp [undef] at hbv
        | some x => rw [hq] at hbv; simp at hbv; rw [hbv]
      have hwant : Region.wanted o (yielded ops a.tmps) = (b == want) := by
        simp only [Region.wanted, hg, hy, hget]; cases b <;> cases want <;> rfl
      rw [hwant]
      split at he
      · rename_i hbw
        split at he
        case h_2 => cases he
        rename_i v loc1 hv
        simp at he
        rw [if_pos (by simp [hbw])]
        exact run v loc1 hv he.symm
      · rename_i hbw
        simp at he
        rw [if_neg (by simpa using hbw)]
        exact skip he.symm
    · rename_i hb
      rw [hb] at hfr
      obtain ⟨vs, hv, hl, _⟩ := hfr.tup_inv
      simp at he
      have hwant : Region.wanted o (yielded ops a.tmps) = false := by
        simp only [Region.wanted, hg, hy]
        have : (match a.tmps[t]? with | some (.bool b) => some b | _ => none : Option Bool) = none := by
          rw [Array.getD_eq_getD_getElem?] at hv
          cases hq : a.tmps[t]? with
          | none => rfl
          | some x => rw [hq] at hv; simp at hv; rw [hv]
        rw [this]; rfl
      rw [hwant]
      exact skip he.symm
    · cases he
theorem seq_ok (hσ : SigOK P σ) (hc : CallOK P σ call) {ops : Array Oper} {uno : Nat → List Nat} {Q : Exit → Act → World → Prop} : ∀ (os : List Oper) (k : Nat) (mos : List MO) (st st' : St) (a : Act) (w : World) (im : Nat → Prop) (own : Own),
    trOps σ P nt ops uno k os = some mos → evOps call mos st = some st' → SI σ im0 lm B w0 nt im own st a w → (∀ im own a' w', SI σ im0 lm B w0 nt im own st' a' w' → Q .normal a' w') → wpList P ops Q os a w
  | [], k, mos, st, st', a, w, im, own, e, e', s, hQ => by
    simp [trOps] at e; subst e; simp [evOps] at e'; subst e'
    exact wpList_nil (hQ im own a w s)
  | o :: os, k, mos, st, st', a, w, im, own, e, e', s, hQ => by
    simp only [trOps] at e
    split at e
    case h_2 => cases e
    rename_i m l hm hl
    simp at e; subst e
    simp only [evOps] at e'
    split at e'
    case h_2 => cases e'
    rename_i st1 hst1
    refine wpList_step fun K hK => ?_
    exact mo_ok hσ hc hm hst1 s fun im1 own1 a1 w1 s1 => hK a1 w1 (seq_ok hσ hc os (k + 1) l st1 st' a1 w1 im1 own1 hl e' s1 hQ)
end
end Go.Rv
namespace Go.Rv
theorem findIx_spec : ∀ (ks : List Nat) (x k i : Nat), findIx x ks k = some i → k ≤ i ∧ ks[i - k]? = some x
  | [], x, k, i, h => by simp [findIx] at h
  | a :: r, x, k, i, h => by
    simp only [findIx] at h
    split at h
    · rename_i hax; simp at h; subst h hax; simp
    · obtain ⟨h1, h2⟩ := findIx_spec r x (k + 1) i h
      refine ⟨by omega, ?_⟩
      rw [show i - k = (i - (k + 1)) + 1 by omega]; simpa using h2
theorem filterMap_get {α β : Type} (f : α → Option β) : ∀ (l : List α), (∀ x ∈ l, (f x).isSome) → (l.filterMap f).length = l.length ∧ ∀ i : Nat, (l.filterMap f)[i]? = (l[i]?).bind f
  | [], _ => by simp
  | x :: r, h => by
    obtain ⟨y, hy⟩ := Option.isSome_iff_exists.1 (h x (by simp))
    obtain ⟨h1, h2⟩ := filterMap_get f r (fun z hz => h z (by simp [hz]))
    rw [List.filterMap_cons_some hy]
    refine ⟨by simp [h1], fun i => ?_⟩
    cases i with
    | zero => simp [hy]
    | succ i => simpa using h2 i
section
variable {P : Program} {σ : Num} {im0 im im' : Nat → Prop} {lm : List Nat} {B : Nat} {w0 w : World} {own own' : Own} {o : Oper} {a : Act} {fr : Fr} {loc loc' : Loc} {call : CallF} {nt : Nat} {st st' : St} {h h' : Array Obj}
theorem get_map (live : List Nat) (f : Nat → AV) : ∀ t, Fr.get (live.map fun t => (t, f t)) t = if t ∈ live then f t else .u := by
  intro t
  induction live with
  | nil => simp [Fr.get]
  | cons k r ih =>
    simp only [List.map_cons, Fr.get, ih]
    by_cases hk : k = t
    · subst hk; simp
    · have hk' : ¬ t = k := fun e => hk e.symm
      simp [hk, hk']
theorem get_map_ren (f : Nat → Option Nat) : ∀ (fr : Fr) (t : Nat), Fr.get (fr.map fun p => (p.1, p.2.ren f)) t = (fr.get t).ren f
  | [], t => rfl
  | (k, v) :: r, t => by
    simp only [List.map_cons, Fr.get]
    split
    · rfl
    · exact get_map_ren f r t
theorem BR.ren {f : Nat → Option Nat} (ho : ∀ id ob j, own id = some ob → f id = some j → own' j = some ob) {ob : OB} {b : Blk} (r : BR σ im h own ob b) : BR σ im h own' ob (b.ren f) := by
  cases b with
  | map es => exact r
  | row z p imf xs =>
    obtain ⟨h1, h2, h3, h4, h5, h6, cells, ty, h7, h8, h9, h10, h11⟩ := r
    simp only [Blk.ren]
    cases p with
    | true =>
      simp only [if_true]
      exact ⟨h1, h2, h3, h4, h5, h6, cells, ty, h7, h8, h9, h10, fun x e o c v he hc hv =>
        .imm ((h11 x e o c v he hc hv).toVI (ownL_mem (h5 rfl e (List.mem_of_getElem? he)) c (List.mem_of_getElem? hc)))⟩
    | false =>
      simp only [Bool.false_eq_true, if_false]
      refine ⟨by simpa using h1, h2, h3, fun x e he => ?_, fun hp => (by cases hp), h6, cells, ty, h7, h8, by simpa using h9, fun j v hj hv => h10 j v (by simpa using hj) hv, fun x e o c v he hc hv => ?_⟩
      · rw [List.getElem?_map, Option.map_eq_some_iff] at he
        obtain ⟨e0, he, rfl⟩ := he
        rw [renL_eq, List.length_map]; exact h4 x e0 he
      · rw [List.getElem?_map, Option.map_eq_some_iff] at he
        obtain ⟨e0, he, rfl⟩ := he
        rw [renL_eq, List.getElem?_map, Option.map_eq_some_iff] at hc
        obtain ⟨c0, hc, rfl⟩ := hc
        exact (h11 x e0 o c0 v he hc hv).ren ho
theorem filter_low {p : Nat → Bool} {j l0 : Nat} (hp : ∀ k, k < l0 → p k = true) (hj : j < l0) : ∀ n, j < n → ((List.range n).filter p)[j]? = some j := by
  intro n hn
  obtain ⟨d, rfl⟩ : ∃ d, n = (j + 1) + d := ⟨n - (j + 1), by omega⟩
  rw [List.range_add, List.filter_append]
  have h1 : (List.range (j + 1)).filter p = List.range (j + 1) := List.filter_eq_self.2 fun k hk => hp k (by have := List.mem_range.1 hk; omega)
  rw [h1, List.getElem?_append_left (by simp), List.getElem?_range (by omega)]
theorem keep_low (vs : List AV) (loc : Loc) (l0 : Nat) {j : Nat} (hj : j < l0) (hn : j < loc.length) : (keep l0 vs loc)[j]? = some j := by
  unfold keep
  exact filter_low (l0 := l0) (fun k hk => by simp [hk]) hj _ hn
theorem SI.lents_le (s : SI σ im0 lm B w0 nt im own st a w) : lm.length ≤ st.loc.length := by
  rcases Nat.lt_or_ge st.loc.length lm.length with h | h
  · exfalso
    obtain ⟨ob, h1, _⟩ := s.lents st.loc.length _ (List.getElem?_eq_getElem h)
    rw [s.gs.none_ _ (List.getElem?_eq_none (Nat.le_refl _))] at h1
    cases h1
  · exact h
theorem compact_ok (l0 : Nat) (hl0 : lm.length ≤ l0) (live : List Nat) (s : SI σ im0 lm B w0 nt im own st a w) : ∃ own', SI σ im0 lm B w0 nt im own' (compact l0 live st) a w := by
  have hfr : FR σ im w.heap own (live.map fun t => (t, st.fr.get t)) a.tmps := fun t => by
    rw [get_map]; split
    · exact s.fr t
    · exact .imm .u
  unfold compact
  dsimp only
  generalize hks : keep l0 ((live.map fun t => (t, st.fr.get t)).map (·.2)) st.loc = ks
  split
  · exact ⟨own, s.imle, s.imnew, s.gs, hfr, s.size, s.defers, s.lents⟩
  · have hnd : ks.Nodup := by rw [← hks]; exact List.Pairwise.filter _ List.nodup_range
    have hlt : ∀ j ∈ ks, j < st.loc.length := by
      intro j hj; rw [← hks] at hj
      exact List.mem_range.1 (List.mem_filter.1 hj).1
    obtain ⟨hl, hg⟩ := filterMap_get (fun j => (st.loc[j]?).map (Blk.ren fun x => findIx x ks 0)) ks (fun j hj => by simp [hlt j hj])
    obtain ⟨own', hown'⟩ : ∃ own' : Own, own' = fun i => (ks[i]?).bind own := ⟨_, rfl⟩
    have ho : ∀ id ob j, own id = some ob → findIx id ks 0 = some j → own' j = some ob := by
      intro id ob j h1 h2
      have := (findIx_spec ks id 0 j h2).2
      rw [Nat.sub_zero] at this
      rw [hown']; simp only [this]; exact h1
    have hinv : ∀ i ob, own' i = some ob → ∃ j, ks[i]? = some j ∧ own j = some ob := by
      intro i ob h1
      rw [hown'] at h1
      rw [Option.bind_eq_some_iff] at h1
      exact h1
    refine ⟨own', s.imle, s.imnew, ?_, fun t => ?_, s.size, s.defers, ?_⟩
    · refine ⟨fun i b hb => ?_, fun i hb => ?_, fun i j x y hi hj e => ?_, fun i ob hi => ?_, fun i ob hi => ?_, fun i ob blk hi hb hr => ?_, s.gs.imlt, s.gs.hB, s.gs.keep⟩
      · dsimp only at hb
        rw [hg, Option.bind_eq_some_iff] at hb
        obtain ⟨j, hj, hb⟩ := hb
        rw [Option.map_eq_some_iff] at hb
        obtain ⟨b0, hb0, rfl⟩ := hb
        obtain ⟨ob, h1, h2⟩ := s.gs.some_ j b0 hb0
        exact ⟨ob, by rw [hown']; simp only [hj]; exact h1, h2.ren ho⟩
      · dsimp only at hb
        rw [hg] at hb
        rw [hown']
        cases hj : ks[i]? with
        | none => simp only [hj]; rfl
        | some j =>
          rw [hj] at hb
          simp at hb
          have := hlt j (List.mem_of_getElem? hj)
          omega
      · obtain ⟨i', h1, h2⟩ := hinv i x hi
        obtain ⟨j', h3, h4⟩ := hinv j y hj
        have := s.gs.inj _ _ _ _ h2 h4 e
        subst this
        have hil := (List.getElem?_eq_some_iff.1 h1)
        have hjl := (List.getElem?_eq_some_iff.1 h3)
        obtain ⟨a1, a2⟩ := hil
        obtain ⟨b1, b2⟩ := hjl
        rcases Nat.lt_trichotomy i j with hlt' | heq | hlt'
        · exact absurd (a2.trans b2.symm) (List.pairwise_iff_getElem.1 hnd i j a1 b1 hlt')
        · exact heq
        · exact absurd (b2.trans a2.symm) (List.pairwise_iff_getElem.1 hnd j i b1 a1 hlt')
      · obtain ⟨i', h1, h2⟩ := hinv i ob hi; exact s.gs.lt _ _ h2
      · obtain ⟨i', h1, h2⟩ := hinv i ob hi; exact s.gs.base _ _ h2
      · obtain ⟨i', h1, h2⟩ := hinv i ob hi
        dsimp only at hb
        rw [hg, h1] at hb
        simp only [Option.bind_some, Option.map_eq_some_iff] at hb
        obtain ⟨b0, hb0, rfl⟩ := hb
        refine s.gs.rows i' ob b0 h2 hb0 ?_
        cases b0 with
        | row z p imf xs => rfl
        | map => simp [Blk.ren, isRow] at hr
    · rw [get_map_ren]
      exact (hfr t).ren ho
    · intro j b hj
      obtain ⟨ob, h1, h2⟩ := s.lents j b hj
      refine ⟨ob, ?_, h2⟩
      have hjl : j < l0 := Nat.lt_of_lt_of_le (List.getElem?_eq_some_iff.1 hj).1 hl0
      have hjn : j < st.loc.length := by
        rcases Nat.lt_or_ge j st.loc.length with h | h
        · exact h
        · have := s.gs.none_ j (List.getElem?_eq_none h)
          rw [h1] at this; cases this
      have : ks[j]? = some j := by
        rw [← hks]; exact keep_low _ _ _ hjl hjn
      rw [hown']; simp only [this]; exact h1
end
end Go.Rv
namespace Go.Rv
section
variable {call : CallF} {fr fr' : Fr} {loc loc' : Loc}
theorem map_ev1 {l : List Ar} (h : ∀ x ∈ l, ev1 fr x = ev1 fr' x) : l.map (ev1 fr) = l.map (ev1 fr') :=
  List.map_congr_left h
theorem numV_congr {a : Option Ar} (h : ∀ x ∈ optAr a, ev1 fr x = ev1 fr' x) : numV fr a = numV fr' a := by
  cases a with
  | none => rfl
  | some a => simp only [numV]; rw [h a (by simp [optAr])]
theorem buildGo_congr : ∀ (l : List (Nat × Nat × Ar)) (cs : List AV), (∀ x ∈ l.map (·.2.2), ev1 fr x = ev1 fr' x) → buildGo fr cs l = buildGo fr' cs l
  | [], cs, _ => rfl
  | (o, n, x) :: r, cs, h => by
    have ih := fun cs => buildGo_congr r cs (fun y hy => h y (by simp at hy ⊢; exact .inr hy))
    simp only [buildGo]
    rw [h x (by simp)]
    split
    · split
      · exact ih _
      · rfl
    · rfl
theorem bslGo_congr : ∀ (l : List (Nat × Ar)) (z : Nat) (xs : List (List AV)), (∀ x ∈ l.map (·.2), ev1 fr x = ev1 fr' x) → bslGo fr z xs l = bslGo fr' z xs l
  | [], z, xs, _ => rfl
  | (j, x) :: r, z, xs, h => by
    have ih := fun xs => bslGo_congr r z xs (fun y hy => h y (by simp at hy ⊢; exact .inr hy))
    simp only [bslGo]
    rw [h x (by simp)]
    split
    · split
      · exact ih _
      · rfl
    · rfl
theorem evOp_congr : ∀ (i : I), (∀ x ∈ i.ars, ev1 fr x = ev1 fr' x) → evOp call fr loc i = evOp call fr' loc i := by
  intro i h
  cases i with
  | mv x => simp only [evOp]; rw [h x (by simp [I.ars])]
  | pick c a b => simp only [evOp]; rw [h c (by simp [I.ars]), h a (by simp [I.ars]), h b (by simp [I.ars])]
  | alloc z => rfl
  | box x => simp only [evOp]; rw [h x (by simp [I.ars])]
  | build z ps => simp only [evOp]; rw [buildGo_congr ps z h]
  | mkrow z a b => simp only [evOp]; rw [h a (by simp [I.ars]), h b (by simp [I.ars])]
  | bsl z n ps => simp only [evOp]; rw [bslGo_congr ps _ _ h]
  | load ag n a => simp only [evOp]; rw [h a (by simp [I.ars])]
  | store n a x => simp only [evOp]; rw [h a (by simp [I.ars]), h x (by simp [I.ars])]
  | bin op x y => simp only [evOp]; rw [h x (by simp [I.ars]), h y (by simp [I.ars])]
  | eq neg ag sh x y => simp only [evOp]; rw [h x (by simp [I.ars]), h y (by simp [I.ars])]
  | eqn neg x => simp only [evOp]; rw [h x (by simp [I.ars])]
  | un op x => simp only [evOp]; rw [h x (by simp [I.ars])]
  | conv k x => simp only [evOp]; rw [h x (by simp [I.ars])]
  | faddr o x => simp only [evOp]; rw [h x (by simp [I.ars])]
  | fld ag o n x => simp only [evOp]; rw [h x (by simp [I.ars])]
  | iaddr z x y => simp only [evOp]; rw [h x (by simp [I.ars]), h y (by simp [I.ars])]
  | iaddrA len z x y => simp only [evOp]; rw [h x (by simp [I.ars]), h y (by simp [I.ars])]
  | slc z x lo hi mx =>
    simp only [evOp]
    rw [h x (by simp [I.ars]), numV_congr (a := lo) fun y hy => h y (by simp [I.ars, hy]), numV_congr (a := hi) fun y hy => h y (by simp [I.ars, hy]), numV_congr (a := mx) fun y hy => h y (by simp [I.ars, hy])]
  | slcA len z x lo hi =>
    simp only [evOp]
    rw [h x (by simp [I.ars]), numV_congr (a := lo) fun y hy => h y (by simp [I.ars, hy]), numV_congr (a := hi) fun y hy => h y (by simp [I.ars, hy])]
  | ext x n => simp only [evOp]; rw [h x (by simp [I.ars])]
  | call f l => simp only [evOp]; rw [map_ev1 (l := l) h]
  | callv f l => simp only [evOp]; rw [h f (by simp [I.ars]), map_ev1 (l := l) fun y hy => h y (by simp [I.ars, hy])]
  | append z x y => simp only [evOp]; rw [h x (by simp [I.ars]), h y (by simp [I.ars])]
  | copy z x y => simp only [evOp]; rw [h x (by simp [I.ars]), h y (by simp [I.ars])]
  | len str x => simp only [evOp]; rw [h x (by simp [I.ars])]
  | mxn mx x l => simp only [evOp]; rw [h x (by simp [I.ars]), map_ev1 (l := l) fun y hy => h y (by simp [I.ars, hy])]
  | mkfn f l => simp only [evOp]; rw [map_ev1 (l := l) h]
  | mkmap => rfl
  | look z ok m k => simp only [evOp]; rw [h m (by simp [I.ars]), h k (by simp [I.ars])]
  | mset m k x => simp only [evOp]; rw [h m (by simp [I.ars]), h k (by simp [I.ars]), h x (by simp [I.ars])]
theorem foot_congr : ∀ (i : I), (∀ x ∈ i.ars, ev1 fr x = ev1 fr' x) → foot call fr loc i = foot call fr' loc i := by
  intro i h
  cases i with
  | load ag n a => simp only [foot]; rw [h a (by simp [I.ars])]
  | store n a x => simp only [foot]; rw [h a (by simp [I.ars])]
  | call f l => simp only [foot]; rw [map_ev1 (l := l) h]
  | callv f l => simp only [foot]; rw [h f (by simp [I.ars]), map_ev1 (l := l) fun y hy => h y (by simp [I.ars, hy])]
  | append z x y => simp only [foot]; rw [h x (by simp [I.ars]), h y (by simp [I.ars])]
  | copy z x y => simp only [foot]; rw [h x (by simp [I.ars]), h y (by simp [I.ars])]
  | look z ok m k => simp only [foot]; rw [h m (by simp [I.ars])]
  | mset m k x => simp only [foot]; rw [h m (by simp [I.ars])]
  | _ => rfl
def Same (loc loc' : Loc) (W : List Nat) : Prop := loc.length ≤ loc'.length ∧ ∀ j, j < loc.length → j ∉ W → loc'[j]? = loc[j]?
theorem Same.refl (loc : Loc) (W : List Nat) : Same loc loc W := ⟨Nat.le_refl _, fun _ _ _ => rfl⟩
theorem Same.app (loc l : Loc) (W : List Nat) : Same loc (loc ++ l) W := ⟨by simp, fun j h _ => List.getElem?_append_left h⟩
theorem Same.set (loc : Loc) (id : Nat) (b : Blk) {W : List Nat} (h : id ∈ W) : Same loc (loc.set id b) W := ⟨by simp, fun j _ hn => List.getElem?_set_ne (by intro e; subst e; exact hn h)⟩
theorem frzL_mids : ∀ (l l' : List AV), frzL loc l = some l' → ∀ id ∈ mids l, id < loc.length ∧ id ∈ idsL l
  | [], l', _, id, hm => by simp [mids] at hm
  | v :: r, l', e, id, hm => by
    simp only [frzL] at e
    split at e
    case h_2 => cases e
    rename_i v' hv
    split at e
    case h_2 => cases e
    rename_i r' hr
    have ih := frzL_mids r r' hr id
    cases v with
    | mp k =>
      simp [mids] at hm
      rcases hm with rfl | hm
      · simp only [frzA] at hv
        refine ⟨?_, by simp [idsL, AV.ids]⟩
        split at hv
        · rename_i es hes; exact (List.getElem?_eq_some_iff.1 hes).1
        · cases hv
      · have := ih (by simp [mids]; exact hm)
        exact ⟨this.1, by simp [idsL, this.2]⟩
    | _ =>
      simp [mids] at hm
      have := ih (by simp [mids]; exact hm)
      exact ⟨this.1, by simp [idsL, this.2]⟩
theorem doCall_same {f : Nat} {args : List AV} {v : AV} (hd : doCall call loc f args = some (v, loc')) : Same loc loc' (footCall call loc f args).2 := by
  unfold doCall at hd
  split at hd
  case h_1 => cases hd
  rename_i fargs hf
  split at hd
  case h_1 => cases hd
  rename_i r hr
  have hfoot : (footCall call loc f args).2 = if stayR r then idsL args else mids args := by
    unfold footCall; simp [hf, hr]
  rw [hfoot]
  unfold settle at hd
  split at hd
  case isFalse => cases hd
  rename_i hmid
  obtain ⟨hml, hmn⟩ := hmid
  have hm := frzL_mids args fargs hf
  obtain ⟨p1, p2, _⟩ := putMaps_get (mids args) r.outs loc hml hmn (fun id h => (hm id h).1)
  obtain ⟨m1, m2⟩ := markIm_get (idsL args) (putMaps loc (mids args) r.outs)
  simp only [Option.some.injEq, Prod.mk.injEq] at hd
  obtain ⟨_, rfl⟩ := hd
  by_cases hs : stayR r = true
  · simp only [hs, if_true]
    refine ⟨by rw [List.length_append, m1, p1]; omega, fun j hj hn => ?_⟩
    rw [List.getElem?_append_left (by rw [m1, p1]; exact hj), m2, if_neg hn, p2 j fun h => hn (hm j h).2]
  · simp only [hs, Bool.false_eq_true, if_false]
    refine ⟨by rw [List.length_append, p1]; omega, fun j hj hn => ?_⟩
    rw [List.getElem?_append_left (by rw [p1]; exact hj), p2 j hn]
theorem stCells_same {a : AV} {cs : List AV} (h : stCells loc a cs = some loc') : Same loc loc' a.ids := by
  unfold stCells at h
  split at h
  case h_2 => cases h
  split at h
  case h_2 => cases h
  split at h
  case isFalse => cases h
  split at h
  case h_2 => cases h
  split at h
  case isFalse => cases h
  simp at h; subst h
  exact Same.set _ _ _ (by simp [AV.ids])
theorem appendV_same {z : Nat} {x v : AV} {ys : List (List AV)} (h : appendV loc z x ys = some (v, loc')) : Same loc loc' x.ids := by
  unfold appendV at h
  split at h
  case isFalse => cases h
  split at h
  · split at h
    · simp at h; rw [← h.2]; exact Same.refl _ _
    · split at h
      · simp at h; rw [← h.2]; exact Same.app _ _ _
      · cases h
  · split at h
    case h_2 => cases h
    split at h
    case isFalse => cases h
    simp at h; rw [← h.2]; exact Same.set _ _ _ (by simp [AV.ids])
  · cases h
theorem copyV_same {z : Nat} {x v : AV} {ys : List (List AV)} (h : copyV loc z x ys = some (v, loc')) : Same loc loc' x.ids := by
  unfold copyV at h
  split at h
  case isFalse => cases h
  split at h
  · split at h
    case h_2 => cases h
    split at h
    case isFalse => cases h
    simp at h; rw [← h.2]; exact Same.set _ _ _ (by simp [AV.ids])
  · split at h
    case h_2 => cases h
    split at h
    case isFalse => cases h
    split at h
    case h_2 => cases h
    split at h
    case isFalse => cases h
    simp at h; rw [← h.2]; exact Same.set _ _ _ (by simp [AV.ids])
  · cases h
theorem evOp_nomem : ∀ (i : I) {v : AV}, i.mem = false → evOp call fr loc i = some (v, loc') → loc' = loc := by
  intro i v hm h
  cases i <;> simp only [I.mem, Bool.true_eq_false] at hm <;> simp only [evOp] at h <;>
    first
      | (simp at h; exact h.2.symm)
      | ((repeat' split at h) <;> first | (cases h; done) | (simp at h; exact h.2.symm))
theorem foot_nomem : ∀ (i : I), i.mem = false → foot call fr loc i = ([], []) := by
  intro i hm
  cases i <;> simp only [I.mem, Bool.true_eq_false] at hm <;> rfl
theorem evOp_same : ∀ (i : I) {v : AV}, evOp call fr loc i = some (v, loc') → Same loc loc' (foot call fr loc i).2 := by
  intro i v h
  cases hm : i.mem with
  | false => rw [evOp_nomem i hm h]; exact Same.refl _ _
  | true =>
    cases i <;> simp only [I.mem, Bool.false_eq_true] at hm <;> simp only [evOp] at h <;> simp only [foot]
    case alloc => simp at h; rw [← h.2]; exact Same.app _ _ _
    case box =>
      split at h
      case h_2 => cases h
      split at h
      case isTrue => cases h
      simp at h; rw [← h.2]; exact Same.app _ _ _
    case mkrow =>
      split at h
      case h_2 => cases h
      split at h
      case isFalse => cases h
      simp at h; rw [← h.2]; exact Same.app _ _ _
    case bsl =>
      split at h
      case h_2 => cases h
      simp at h; rw [← h.2]; exact Same.app _ _ _
    case load =>
      split at h
      case h_2 => cases h
      split at h
      case h_2 => cases h
      simp at h; rw [← h.2]; exact Same.refl _ _
    case store =>
      split at h
      case h_2 => cases h
      split at h
      case isFalse => cases h
      split at h
      case h_2 => cases h
      rename_i h1
      simp at h; rw [← h.2]; exact stCells_same h1
    case call => exact doCall_same h
    case callv =>
      split at h
      case h_2 => cases h
      rename_i hf
      exact doCall_same h
    case append =>
      split at h
      case h_2 => cases h
      exact appendV_same h
    case copy =>
      split at h
      case h_2 => cases h
      exact copyV_same h
    case mkmap => simp at h; rw [← h.2]; exact Same.app _ _ _
    case look =>
      split at h
      case h_2 => cases h
      split at h
      case h_2 => cases h
      split at h
      case h_2 => cases h
      simp at h; rw [← h.2]; exact Same.refl _ _
    case mset =>
      split at h
      case h_2 => cases h
      rename_i hid
      split at h
      case h_2 => cases h
      split at h
      case h_2 => cases h
      simp at h; rw [← h.2]; rw [hid]; exact Same.set _ _ _ (by simp [AV.ids])
end
end Go.Rv
namespace Go.Rv
section
variable {α : Type}
def U (val : Nat → α) (Wr D : Nat → Bool) : Nat → α
  | 0 => val 0
  | m + 1 => if D m && Wr m then val (m + 1) else U val Wr D m
variable {val : Nat → α} {Wr D D' : Nat → Bool}
theorem U_congr {n : Nat} (h : ∀ k, k < n → Wr k = true → D k = D' k) : U val Wr D n = U val Wr D' n := by
  induction n with
  | zero => rfl
  | succ n ih =>
    simp only [U]
    rw [ih fun k hk => h k (by omega)]
    cases hw : Wr n with
    | false => simp
    | true => rw [h n (by omega) hw]
theorem U_stop {m n : Nat} (hmn : m ≤ n) (h : ∀ k, m ≤ k → k < n → Wr k = true → D k = false) : U val Wr D n = U val Wr D m := by
  induction n with
  | zero => have : m = 0 := by omega
            subst this; rfl
  | succ n ih =>
    by_cases e : m = n + 1
    · subst e; rfl
    · simp only [U]
      have : (D n && Wr n) = false := by
        cases hw : Wr n with
        | false => simp
        | true => rw [h n (by omega) (by omega) hw]; rfl
      rw [this]
      exact ih (by omega) fun k h1 h2 => h k h1 (by omega)
theorem U_all {m : Nat} (hs : ∀ k, k < m → Wr k = false → val (k + 1) = val k) (h : ∀ k, k < m → Wr k = true → D k = true) : U val Wr D m = val m := by
  induction m with
  | zero => rfl
  | succ m ih =>
    simp only [U]
    cases hw : Wr m with
    | false => simp; rw [hs m (by omega) hw]; exact ih (fun k hk => hs k (by omega)) (fun k hk => h k (by omega))
    | true => rw [h m (by omega) hw]; rfl
theorem U_lex {j n : Nat} (hjn : j ≤ n) (hs : ∀ k, k < n → Wr k = false → val (k + 1) = val k) (h : ∀ k, k < n → Wr k = true → (D k = true ↔ k < j)) : U val Wr D n = val j := by
  rw [U_stop hjn fun k h1 h2 hw => by
    cases hd : D k with
    | false => rfl
    | true => have := (h k h2 hw).1 hd; omega]
  exact U_all (fun k hk => hs k (by omega)) fun k hk hw => (h k (by omega) hw).2 hk
end
theorem evFeet_run {call : CallF} : ∀ (mos : List MO) (st st' : St) (fs : List Foot), evFeet call mos st = some (st', fs) →
    ∃ S : Nat → St, S 0 = st ∧ S mos.length = st' ∧ fs.length = mos.length ∧
      ∀ j mo, mos[j]? = some mo → evMO call mo (S j) = some (S (j + 1)) ∧ fs[j]? = some (footMO call mo (S j) (S (j + 1)))
  | [], st, st', fs, e => by
    simp [evFeet] at e
    exact ⟨fun _ => st, rfl, e.1, by simp [e.2], fun j mo h => by simp at h⟩
  | o :: r, st, st', fs, e => by
    simp only [evFeet] at e
    split at e
    case h_2 => cases e
    rename_i st1 h1
    split at e
    case h_2 => cases e
    rename_i st2 fs2 h2
    simp at e
    obtain ⟨rfl, rfl⟩ := e
    obtain ⟨S, s0, s1, s2, s3⟩ := evFeet_run r st1 st2 fs2 h2
    refine ⟨fun n => match n with | 0 => st | n + 1 => S n, rfl, s1, by simp [s2], fun j mo h => ?_⟩
    cases j with
    | zero =>
      simp at h; subst h
      simp only
      rw [s0]
      exact ⟨h1, by simp⟩
    | succ j =>
      simp only [List.getElem?_cons_succ] at h ⊢
      exact s3 j mo h
inductive Anc (ops : List Oper) : Nat → Nat → Prop
  | edge {k j : Nat} {o : Oper} : ops[j]? = some o → k ∈ edgesOf o → Anc ops k j
  | more {k m j : Nat} {o : Oper} : Anc ops k m → ops[j]? = some o → m ∈ edgesOf o → Anc ops k j
theorem fold_anc (acc : List Nat) : ∀ (l : List Nat) (s i : Nat), (l.foldl (fun s k => s ||| 2 ^ k ||| acc.getD k 0) s).testBit i = true →
    s.testBit i = true ∨ ∃ k ∈ l, k = i ∨ (acc.getD k 0).testBit i = true
  | [], s, i, h => .inl h
  | k :: r, s, i, h => by
    simp only [List.foldl_cons] at h
    rcases fold_anc acc r _ i h with h | ⟨m, hm, h⟩
    · simp only [Nat.testBit_or, Bool.or_eq_true, Nat.testBit_two_pow] at h
      rcases h with (h | h) | h
      · exact .inl h
      · exact .inr ⟨k, by simp, .inl (by simpa using h)⟩
      · exact .inr ⟨k, by simp, .inr h⟩
    · exact .inr ⟨m, by simp [hm], h⟩
theorem ancGo_ok (ops : List Oper) : ∀ (r pre : List Oper) (acc : List Nat), ops = pre ++ r → acc.length = pre.length → (∀ j i, (acc.getD j 0).testBit i = true → Anc ops i j) →
    ∀ j i, ((ancGo r acc).getD j 0).testBit i = true → Anc ops i j
  | [], pre, acc, _, _, h => by simpa [ancGo] using h
  | o :: r, pre, acc, hp, hl, h => by
    simp only [ancGo]
    refine ancGo_ok ops r (pre ++ [o]) _ (by simp [hp]) (by simp [hl]) fun j i hb => ?_
    by_cases hj : j < acc.length
    · rw [List.getD_eq_getElem?_getD, List.getElem?_append_left hj, ← List.getD_eq_getElem?_getD] at hb
      exact h j i hb
    · by_cases hj' : j = acc.length
      · subst hj'
        have hop : ops[acc.length]? = some o := by rw [hp, hl]; simp
        rw [List.getD_eq_getElem?_getD, List.getElem?_append_right (Nat.le_refl _)] at hb
        simp at hb
        rcases fold_anc acc _ 0 i hb with hz | ⟨k, hk, rfl | hk'⟩
        · simp at hz
        · exact .edge hop hk
        · exact .more (h k i hk') hop hk
      · rw [List.getD_eq_getElem?_getD, List.getElem?_eq_none (by simp; omega)] at hb
        simp at hb
theorem zipIdx_all {β : Type} {p : β × Nat → Bool} {l : List β} (h : (l.zipIdx.all p) = true) {i : Nat} {x : β} (hx : l[i]? = some x) : p (x, i) = true := by
  refine List.all_eq_true.1 h (x, i) ?_
  rw [List.mem_zipIdx_iff_getElem?]; exact hx
theorem drawOK_spec {ops : List Oper} {mos : List MO} (h : drawOK ops mos = true) :
    (∀ j o, ops[j]? = some o → ∀ k ∈ edgesOf o, k < j) ∧
    ∀ i j x y, mos[i]? = some x → mos[j]? = some y → i ≠ j →
      (∀ d, x.dst = some d → y.dst ≠ some d ∧ (d ∈ y.reads → Anc ops i j ∨ Anc ops j i)) ∧
      (x.op.mem = true → y.op.mem = true → j ∈ x.uno ∨ Anc ops i j ∨ Anc ops j i) := by
  unfold drawOK at h
  simp only [Bool.and_eq_true] at h
  obtain ⟨h1, h2⟩ := h
  have hA := ancGo_ok ops ops [] [] rfl rfl (fun j i h => by simp at h)
  refine ⟨fun j o ho k hk => ?_, fun i j x y hx hy hij => ?_⟩
  · have := zipIdx_all h1 ho
    simpa using List.all_eq_true.1 this k hk
  · have h3 := zipIdx_all (zipIdx_all h2 hx) hy
    simp only [pairOK, Bool.or_eq_true, Bool.and_eq_true, beq_iff_eq] at h3
    obtain ⟨h4, h5⟩ := h3.resolve_left hij
    refine ⟨fun d hd => ?_, fun hm hn => ?_⟩
    · rw [hd] at h4
      simp only [Bool.and_eq_true, Bool.or_eq_true, bne_iff_ne, Bool.not_eq_true'] at h4
      refine ⟨h4.1, fun hr => ?_⟩
      rcases h4.2 with (h6 | h6) | h6
      · rw [← List.contains_iff_mem] at hr; rw [hr] at h6; cases h6
      · exact .inl (hA j i h6)
      · exact .inr (hA i j h6)
    · rw [hm, hn] at h5
      rcases h5 with ((h6 | h6) | h6) | h6
      · cases h6
      · exact .inl (by simpa using h6)
      · exact .inr (.inl (hA j i h6))
      · exact .inr (.inr (hA i j h6))
end Go.Rv
namespace Go.Rv
theorem evMO_cases {call : CallF} {mo : MO} {st st' : St} (h : evMO call mo st = some st') :
    (∃ v loc', evOp call st.fr st.loc mo.op = some (v, loc') ∧ st' = ⟨putD st.fr mo.dst v, loc'⟩ ∧
      footMO call mo st st' = ⟨(foot call st.fr st.loc mo.op).1, (foot call st.fr st.loc mo.op).2 ++ (if st.loc.length < st'.loc.length then (List.range st'.loc.length).drop st.loc.length else [])⟩ ∧
      (mo.guard = none ∨ ∃ g want, mo.guard = some (g, want) ∧ st.fr.get g = .b want)) ∨
    (st' = ⟨putD st.fr mo.dst (.tup []), st.loc⟩ ∧ footMO call mo st st' = ⟨[], []⟩ ∧
      ∃ g want, mo.guard = some (g, want) ∧ ((∃ t, st.fr.get g = .b t ∧ t ≠ want) ∨ st.fr.get g = .tup [])) := by
  cases hg : mo.guard with
  | none =>
    left
    simp only [evMO, hg] at h
    split at h
    case h_2 => cases h
    rename_i v loc' hv
    simp at h
    exact ⟨v, loc', hv, h.symm, by simp [footMO, hg], .inl rfl⟩
  | some p =>
    obtain ⟨g, want⟩ := p
    simp only [evMO, hg] at h
    split at h
    · rename_i t ht
      split at h
      · rename_i htw
        split at h
        case h_2 => cases h
        rename_i v loc' hv
        simp at h
        left
        exact ⟨v, loc', hv, h.symm, by simp [footMO, hg, ht, htw], .inr ⟨g, want, rfl, by rw [ht, htw]⟩⟩
      · rename_i htw
        simp at h
        right
        exact ⟨h.symm, by simp [footMO, hg, ht, htw], g, want, rfl, .inl ⟨t, ht, htw⟩⟩
    · rename_i ht
      simp at h
      right
      exact ⟨h.symm, by simp [footMO, hg, ht], g, want, rfl, .inr ht⟩
    · cases h
theorem mem_range_drop {a b id : Nat} : id ∈ (List.range b).drop a ↔ a ≤ id ∧ id < b := by
  rw [List.mem_iff_getElem?]
  constructor
  · rintro ⟨i, hi⟩
    rw [List.getElem?_drop, List.getElem?_eq_some_iff] at hi
    obtain ⟨h1, h2⟩ := hi
    simp at h1 h2
    omega
  · rintro ⟨h1, h2⟩
    refine ⟨id - a, ?_⟩
    rw [List.getElem?_drop, List.getElem?_eq_some_iff]
    refine ⟨by simp; omega, by simp; omega⟩
theorem mem_newids {a b id : Nat} : id ∈ (if a < b then (List.range b).drop a else []) ↔ a ≤ id ∧ id < b := by
  split
  · exact mem_range_drop
  · constructor
    · intro h; cases h
    · intro h; omega
theorem putD_get (fr : Fr) (dst : Option Nat) (v : AV) (t : Nat) : (putD fr dst v).get t = if dst = some t then v else fr.get t := by
  cases dst with
  | none => simp [putD]
  | some d => simp [putD, Fr.get]
theorem evMO_fr {call : CallF} {mo : MO} {st st' : St} (h : evMO call mo st = some st') {t : Nat} (hd : mo.dst ≠ some t) : st'.fr.get t = st.fr.get t := by
  rcases evMO_cases h with ⟨v, loc', _, rfl, _⟩ | ⟨rfl, _⟩
  · simp [putD_get, hd]
  · simp [putD_get, hd]
theorem evMO_loc {call : CallF} {mo : MO} {st st' : St} (h : evMO call mo st = some st') {id : Nat} (hd : id ∉ (footMO call mo st st').wrs) : st'.loc[id]? = st.loc[id]? := by
  rcases evMO_cases h with ⟨v, loc', hv, rfl, hf, _⟩ | ⟨rfl, _⟩
  · rw [hf] at hd
    simp only [List.mem_append, mem_newids, not_or] at hd
    obtain ⟨h1, h2⟩ := evOp_same _ hv
    by_cases hl : id < st.loc.length
    · exact h2 id hl hd.1
    · dsimp only
      rw [List.getElem?_eq_none (by omega), List.getElem?_eq_none (by omega)]
  · rfl
theorem evMO_mem {call : CallF} {mo : MO} {st st' : St} (h : evMO call mo st = some st') (hd : (footMO call mo st st').rds ≠ [] ∨ (footMO call mo st st').wrs ≠ []) : mo.op.mem = true := by
  cases hm : mo.op.mem with
  | true => rfl
  | false =>
    exfalso
    rcases evMO_cases h with ⟨v, loc', hv, rfl, hf, _⟩ | ⟨rfl, hf, _⟩
    · rw [hf, foot_nomem _ hm] at hd
      rw [evOp_nomem _ hm hv] at hd
      simp at hd
    · rw [hf] at hd; simp at hd
theorem apartFeet_spec {mos : List MO} {fs : List Foot} (h : apartFeet mos fs = true) {i j : Nat} {x : MO} {f g : Foot} (hx : mos[i]? = some x) (hf : fs[i]? = some f) (hg : fs[j]? = some g) (hj : j ∈ x.uno) :
    ∀ id ∈ f.wrs, id ∉ g.rds ∧ id ∉ g.wrs := by
  intro id hid
  have hz : (x, f) ∈ mos.zip fs := by
    rw [List.mem_iff_getElem?]
    refine ⟨i, ?_⟩
    rw [List.getElem?_zip_eq_some]
    exact ⟨hx, hf⟩
  have h1 := List.all_eq_true.1 h _ hz
  simp only [Bool.or_eq_true] at h1
  rcases h1 with h1 | h1
  · rw [List.isEmpty_iff] at h1; rw [h1] at hid; cases hid
  · have h2 := List.all_eq_true.1 h1 j hj
    simp only [hg] at h2
    have h3 := List.all_eq_true.1 h2 id hid
    simpa using h3
theorem Anc.lt {ops : List Oper} (he : ∀ j o, ops[j]? = some o → ∀ k ∈ edgesOf o, k < j) {i j : Nat} (h : Anc ops i j) : i < j := by
  induction h with
  | edge ho hk => exact he _ _ ho _ hk
  | more _ ho hk ih => have := he _ _ ho _ hk; omega
theorem Anc.clo {ops : List Oper} {D : Nat → Bool} (hD : ∀ j o, ops[j]? = some o → D j = true → ∀ k ∈ edgesOf o, D k = true) {i j : Nat} (h : Anc ops i j) : D j = true → D i = true := by
  induction h with
  | edge ho hk => exact fun hj => hD _ _ ho hj _ hk
  | more _ ho hk ih => exact fun hj => ih (hD _ _ ho hj _ hk)
theorem Anc.ready {ops : List Oper} {D : Nat → Bool} (hD : ∀ j o, ops[j]? = some o → D j = true → ∀ k ∈ edgesOf o, D k = true) {i j : Nat} {o : Oper} (ho : ops[j]? = some o) (hj : ∀ k ∈ edgesOf o, D k = true) (h : Anc ops i j) : D i = true := by
  cases h with
  | edge ho' hk => rw [ho] at ho'; cases ho'; exact hj _ hk
  | more h1 ho' hk => rw [ho] at ho'; cases ho'; exact h1.clo hD (hj _ hk)
section
variable {P : Program} {σ : Num} {im0 : Nat → Prop} {lm : List Nat} {B : Nat} {w0 : World} {call : CallF} {nt : Nat}
def WT (mos : List MO) (t k : Nat) : Bool := match mos[k]? with | some mo => mo.dst == some t | none => false
def WB (fs : List Foot) (id k : Nat) : Bool := match fs[k]? with | some f => f.wrs.contains id | none => false
structure DI (σ : Num) (im0 : Nat → Prop) (lm : List Nat) (B : Nat) (w0 : World) (nt : Nat) (S : Nat → St) (mos : List MO) (fs : List Foot) (D : Nat → Bool) (im : Nat → Prop) (own : Own) (a : Act) (w : World) : Prop where
  imle : ∀ b, im0 b → im b
  imnew : ∀ b, im b → im0 b ∨ B ≤ b
  gs : GS σ im (· ∈ lm) B w0 own (fun id => U (fun m => (S m).loc[id]?) (WB fs id) D mos.length) w
  fr : ∀ t, VR σ im w.heap own (U (fun m => (S m).fr.get t) (WT mos t) D mos.length) (a.tmps.getD t undef)
  size : a.tmps.size = nt
  defers : a.defers = []
  lents : Lents lm own
theorem trOps_get {ops : Array Oper} {uno : Nat → List Nat} : ∀ (os : List Oper) (k : Nat) (mos : List MO), trOps σ P nt ops uno k os = some mos →
    mos.length = os.length ∧ ∀ j o, os[j]? = some o → ∃ mo, mos[j]? = some mo ∧ trMO σ P nt ops o (uno (k + j)) = some mo
  | [], k, mos, e => by simp [trOps] at e; subst e; simp
  | o :: r, k, mos, e => by
    simp only [trOps] at e
    split at e
    case h_2 => cases e
    rename_i m l hm hl
    simp at e; subst e
    obtain ⟨h1, h2⟩ := trOps_get r (k + 1) l hl
    refine ⟨by simp [h1], fun j o' ho => ?_⟩
    cases j with
    | zero => simp at ho; subst ho; exact ⟨m, by simp, hm⟩
    | succ j =>
      obtain ⟨mo, h3, h4⟩ := h2 j o' (by simpa using ho)
      exact ⟨mo, by simpa using h3, by rw [show k + (j + 1) = k + 1 + j by omega]; exact h4⟩
theorem mem_reads {mo : MO} : (∀ t, Ar.t t ∈ mo.op.ars → t ∈ mo.reads) ∧ ∀ g want, mo.guard = some (g, want) → g ∈ mo.reads := by
  refine ⟨fun t ht => ?_, fun g want hg => ?_⟩
  · unfold MO.reads
    rw [List.mem_append, List.mem_filterMap]
    exact .inl ⟨.t t, ht, rfl⟩
  · unfold MO.reads
    rw [hg]; simp
theorem draw_step (hσ : SigOK P σ) (hc : CallOK P σ call) {ops : Array Oper} {uno : Nat → List Nat} {mos : List MO} (ht : trOps σ P nt ops uno 0 ops.toList = some mos) (hdr : drawOK ops.toList mos = true)
    {S : Nat → St} {fs : List Foot} (hlen : fs.length = mos.length)
    (hS : ∀ j mo, mos[j]? = some mo → evMO call mo (S j) = some (S (j + 1)) ∧ fs[j]? = some (footMO call mo (S j) (S (j + 1))))
    (hap : apartFeet mos fs = true) {D : Nat → Bool} (hD : ∀ j o, ops.toList[j]? = some o → D j = true → ∀ k ∈ edgesOf o, D k = true)
    {j : Nat} {o : Oper} (ho : ops[j]? = some o) (hj : D j = false) (hjr : ∀ k ∈ edgesOf o, D k = true)
    {im : Nat → Prop} {own : Own} {a : Act} {w : World} (d : DI σ im0 lm B w0 nt S mos fs D im own a w)
    {K : Act → World → Prop} {Q : Exit → Act → World → Prop} (hK : ∀ im own a' w', DI σ im0 lm B w0 nt S mos fs (fun k => D k || k == j) im own a' w' → K a' w') :
    wpOp P ops Q j K a w := by
  obtain ⟨hml, hmg⟩ := trOps_get ops.toList 0 mos ht
  have ho' : ops.toList[j]? = some o := by simpa using ho
  obtain ⟨mo, hmo, htr⟩ := hmg j o ho'
  obtain ⟨hev, hfj⟩ := hS j mo hmo
  obtain ⟨hedge, hpair⟩ := drawOK_spec hdr
  have hjn : j < mos.length := (List.getElem?_eq_some_iff.1 hmo).1
  have anc1 : ∀ i, Anc ops.toList i j → D i = true ∧ i < j := fun i h => ⟨h.ready hD ho' hjr, h.lt hedge⟩
  have anc2 : ∀ i, Anc ops.toList j i → D i = false ∧ j < i := by
    intro i h
    refine ⟨?_, h.lt hedge⟩
    cases hi : D i with
    | false => rfl
    | true => have := h.clo hD hi; rw [hj] at this; cases this
  have lex : ∀ k, k ≠ j → (Anc ops.toList k j ∨ Anc ops.toList j k) → (D k = true ↔ k < j) := by
    intro k hk h
    rcases h with h | h
    · obtain ⟨h1, h2⟩ := anc1 k h; simp [h1, h2]
    · obtain ⟨h1, h2⟩ := anc2 k h; simp [h1]; omega
  have sT : ∀ t k, k < mos.length → WT mos t k = false → (S (k + 1)).fr.get t = (S k).fr.get t := by
    intro t k hk hw
    have hx := List.getElem?_eq_getElem hk
    refine evMO_fr (hS k _ hx).1 fun e => ?_
    unfold WT at hw; rw [hx] at hw; simp [e] at hw
  have wT : ∀ {t k}, WT mos t k = true → ∃ x, mos[k]? = some x ∧ x.dst = some t := by
    intro t k hw
    unfold WT at hw
    split at hw
    · rename_i x hx; exact ⟨x, hx, by simpa using hw⟩
    · cases hw
  have keyT : ∀ t ∈ mo.reads, U (fun m => (S m).fr.get t) (WT mos t) D mos.length = (S j).fr.get t := by
    intro t hr
    refine U_lex (Nat.le_of_lt hjn) (sT t) fun k hk hw => ?_
    obtain ⟨x, hx, hxd⟩ := wT hw
    by_cases hkj : k = j
    · subst hkj; simp [hj]
    · exact lex k hkj (((hpair k j x mo hx hmo hkj).1 t hxd).2 hr)
  have sB : ∀ id k, k < mos.length → WB fs id k = false → (S (k + 1)).loc[id]? = (S k).loc[id]? := by
    intro id k hk hw
    have hx := List.getElem?_eq_getElem hk
    refine evMO_loc (hS k _ hx).1 fun hm => ?_
    unfold WB at hw; rw [(hS k _ hx).2] at hw
    simp at hw; exact hw hm
  have wB : ∀ {id k}, WB fs id k = true → ∃ f x, fs[k]? = some f ∧ mos[k]? = some x ∧ id ∈ f.wrs := by
    intro id k hw
    unfold WB at hw
    split at hw
    · rename_i f hf
      have hk : k < mos.length := by rw [← hlen]; exact (List.getElem?_eq_some_iff.1 hf).1
      exact ⟨f, _, hf, List.getElem?_eq_getElem hk, by simpa using hw⟩
    · cases hw
  obtain ⟨F, hF⟩ : ∃ F, F = footMO call mo (S j) (S (j + 1)) := ⟨_, rfl⟩
  have lexB : ∀ id, (id ∈ F.rds ∨ id ∈ F.wrs) → ∀ k, WB fs id k = true → k ≠ j → (D k = true ↔ k < j) := by
    intro id hid k hw hkj
    obtain ⟨f, x, hf, hx, hm⟩ := wB hw
    obtain ⟨hxe, hxf⟩ := hS k x hx
    rw [hf] at hxf; simp only [Option.some.injEq] at hxf
    have m1 : x.op.mem = true := evMO_mem hxe (.inr (by rw [← hxf]; intro e; rw [e] at hm; cases hm))
    have m2 : mo.op.mem = true := by
      refine evMO_mem hev ?_
      rw [← hF]
      rcases hid with h | h
      · exact .inl (by intro e; rw [e] at h; cases h)
      · exact .inr (by intro e; rw [e] at h; cases h)
    rcases (hpair k j x mo hx hmo hkj).2 m1 m2 with h | h
    · exfalso
      have := apartFeet_spec hap hx hf hfj h id hm
      rw [← hF] at this
      rcases hid with h | h
      · exact this.1 h
      · exact this.2 h
    · exact lex k hkj h
  have keyB : ∀ id, (id ∈ F.rds ∨ id ∈ F.wrs) → U (fun m => (S m).loc[id]?) (WB fs id) D mos.length = (S j).loc[id]? := by
    intro id hid
    refine U_lex (Nat.le_of_lt hjn) (sB id) fun k hk hw => ?_
    by_cases hkj : k = j
    · subst hkj; simp [hj]
    · exact lexB id hid k hw hkj
  obtain ⟨D', hD'⟩ : ∃ D' : Nat → Bool, D' = fun k => D k || k == j := ⟨_, rfl⟩
  have hD'j : D' j = true := by rw [hD']; simp
  have hD'k : ∀ k, k ≠ j → D' k = D k := fun k hk => by rw [hD']; simp [hk]
  have postT1 : ∀ t, mo.dst = some t → U (fun m => (S m).fr.get t) (WT mos t) D' mos.length = (S (j + 1)).fr.get t := by
    intro t hd
    refine U_lex (by omega) (sT t) fun k hk hw => ?_
    obtain ⟨x, hx, hxd⟩ := wT hw
    by_cases hkj : k = j
    · subst hkj; simp [hD'j]
    · exact absurd hd ((hpair k j x mo hx hmo hkj).1 t hxd).1
  have postT2 : ∀ t, mo.dst ≠ some t → U (fun m => (S m).fr.get t) (WT mos t) D' mos.length = U (fun m => (S m).fr.get t) (WT mos t) D mos.length := by
    intro t hd
    refine U_congr fun k hk hw => ?_
    obtain ⟨x, hx, hxd⟩ := wT hw
    refine hD'k k fun e => ?_
    subst e; rw [hmo] at hx; cases hx; exact hd hxd
  have postB1 : ∀ id, id ∈ F.wrs → U (fun m => (S m).loc[id]?) (WB fs id) D' mos.length = (S (j + 1)).loc[id]? := by
    intro id hid
    refine U_lex (by omega) (sB id) fun k hk hw => ?_
    by_cases hkj : k = j
    · subst hkj; simp [hD'j]
    · rw [hD'k k hkj, lexB id (.inr hid) k hw hkj]; omega
  have postB2 : ∀ id, id ∉ F.wrs → U (fun m => (S m).loc[id]?) (WB fs id) D' mos.length = U (fun m => (S m).loc[id]?) (WB fs id) D mos.length := by
    intro id hid
    refine U_congr fun k hk hw => ?_
    obtain ⟨f, x, hf, hx, hm⟩ := wB hw
    refine hD'k k fun e => ?_
    subst e; rw [hfj] at hf; cases hf; rw [← hF] at hm; exact hid hm
  rw [← hD'] at hK
  unfold trMO at htr
  split at htr
  case isTrue => cases htr
  rename_i hd
  have hd' : o.dst.all (· < nt) = true := by revert hd; cases o.dst.all (· < nt) <;> simp
  split at htr
  case h_2 => cases htr
  rename_i i hi
  have hmod : mo.dst = o.dst ∧ mo.op = i := by
    split at htr
    · simp at htr; subst htr; exact ⟨rfl, rfl⟩
    · split at htr
      · simp at htr; subst htr; exact ⟨rfl, rfl⟩
      · cases htr
  obtain ⟨hmd, hmi⟩ := hmod
  have putOK : ∀ {v : AV} {cv : Value} {im1 : Nat → Prop} {own1 : Own} {w1 : World}, (∀ b, im b → im1 b) → (∀ b, im b → w1.heap[b]? = w.heap[b]?) → own.le own1 → VR σ im1 w1.heap own1 v cv →
      (S (j + 1)).fr = putD (S j).fr mo.dst v → ∀ t, VR σ im1 w1.heap own1 (U (fun m => (S m).fr.get t) (WT mos t) D' mos.length) ((a.put o.dst cv).tmps.getD t undef) := by
    intro v cv im1 own1 w1 g1 g3 g4 g6 hs t
    rw [(put_tmps a o.dst cv).1]
    by_cases htd : mo.dst = some t
    · rw [postT1 t htd, hs, putD_get, if_pos htd, ← hmd, htd]
      simp only [putT]
      rw [getD_put, if_pos]
      · exact g6
      · refine ⟨rfl, ?_⟩
        rw [← hmd, htd] at hd'
        rw [d.size]; simpa using hd'
    · rw [postT2 t htd]
      have : (putT a.tmps o.dst cv).getD t undef = a.tmps.getD t undef := by
        rw [hmd] at htd
        cases hq : o.dst with
        | none => rfl
        | some e =>
          simp only [putT]; rw [getD_put, if_neg]
          rintro ⟨rfl, _⟩; exact htd hq
      rw [this]
      exact (d.fr t).mono g1 g3 g4
  have sizeOK : ∀ cv, (a.put o.dst cv).tmps.size = nt := fun cv => by
    rw [(put_tmps a o.dst cv).1, ← d.size]; cases o.dst <;> simp [putT]
  have run : ∀ (v : AV) (loc1 : Loc), evOp call (S j).fr (S j).loc mo.op = some (v, loc1) → S (j + 1) = ⟨putD (S j).fr mo.dst v, loc1⟩ →
      F = ⟨(foot call (S j).fr (S j).loc mo.op).1, (foot call (S j).fr (S j).loc mo.op).2 ++ (if (S j).loc.length < (S (j + 1)).loc.length then (List.range (S (j + 1)).loc.length).drop (S j).loc.length else [])⟩ → o.wp P a w K Q := by
    intro v loc1 hv hst hfe
    have hloc1 : (S (j + 1)).loc = loc1 := by rw [hst]
    rw [hloc1] at hfe
    obtain ⟨fr', hfr'⟩ : ∃ fr' : Fr, fr' = mo.reads.map fun t => (t, (S j).fr.get t) := ⟨_, rfl⟩
    have hget : ∀ t, fr'.get t = if t ∈ mo.reads then (S j).fr.get t else .u := fun t => by rw [hfr']; exact get_map _ _ t
    have hcg : ∀ x ∈ mo.op.ars, ev1 (S j).fr x = ev1 fr' x := by
      intro x hx
      cases x with
      | k v => rfl
      | t n => simp only [ev1]; rw [hget, if_pos (mem_reads.1 n hx)]
    have hFR : FR σ im w.heap own fr' a.tmps := fun t => by
      rw [hget]; split
      · rename_i hr; rw [← keyT t hr]; exact d.fr t
      · exact .imm .u
    rw [evOp_congr _ hcg] at hv
    rw [foot_congr _ hcg] at hfe
    rw [hmi] at hv hfe
    obtain ⟨h1, h2, _⟩ := op_ok hσ hc hi hv d.gs hFR (fun id hid => keyB id (by
      rw [hfe]; rcases hid with h | h
      · exact .inl h
      · exact .inr (List.mem_append_left _ h))) (fun id h1 h2 => by
      rw [keyB id (.inr (by rw [hfe]; exact List.mem_append_right _ (mem_newids.2 ⟨h1, h2⟩)))]
      exact List.getElem?_eq_none h1)
    refine h1 K Q fun im1 own1 w1 cv g1 g2 g3 g4 g5 g6 => hK im1 own1 _ _ ?_
    refine ⟨fun b hb => g1 b (d.imle b hb), fun b hb => ?_, ?_, putOK g1 g3 g4 g6 (by rw [hst]), sizeOK cv, by rw [(put_tmps a o.dst cv).2]; exact d.defers, d.lents.le g4⟩
    · rcases g2 b hb with h | h
      · exact d.imnew b h
      · exact .inr h
    · refine Eq.mp (congrArg (fun b => GS σ im1 (· ∈ lm) B w0 own1 b w1) ?_) g5
      refine (funext fun id => ?_ : _ = _).symm
      unfold updW
      by_cases hid : id ∈ F.wrs
      · rw [postB1 id hid, hloc1, if_pos]
        rw [hfe] at hid
        simp only [List.mem_append, mem_newids] at hid
        simpa using hid
      · rw [postB2 id hid, if_neg]
        rw [hfe] at hid
        simp only [List.mem_append, mem_newids] at hid
        simpa using hid
  have skip : S (j + 1) = ⟨putD (S j).fr mo.dst (.tup []), (S j).loc⟩ → F = ⟨[], []⟩ → K (a.put o.dst undef) w := by
    intro hst hfe
    refine hK im own _ _ ⟨d.imle, d.imnew, ?_, putOK (fun _ h => h) (fun _ _ => rfl) own.le_refl (.imm VI.undef) (by rw [hst]), sizeOK undef, by rw [(put_tmps a o.dst undef).2]; exact d.defers, d.lents⟩
    have : (fun id => U (fun m => (S m).loc[id]?) (WB fs id) D' mos.length) = (fun id => U (fun m => (S m).loc[id]?) (WB fs id) D mos.length) := by
      funext id; exact postB2 id (by rw [hfe]; simp)
    rw [this]; exact d.gs
  have hguard : ∀ g want, mo.guard = some (g, want) → ∃ jj, o.guard = some (jj, want) ∧ (ops[jj]?).bind (·.dst) = some g := by
    intro g want hg
    split at htr
    · simp at htr; subst htr; cases hg
    · rename_i jj ww hgo
      split at htr
      · rename_i t htt
        simp at htr; subst htr
        simp at hg
        obtain ⟨rfl, rfl⟩ := hg
        exact ⟨jj, hgo, htt⟩
      · cases htr
  have hguard0 : mo.guard = none → o.guard = none := by
    intro hg
    split at htr
    · rename_i h0; exact h0
    · split at htr
      · simp at htr; subst htr; cases hg
      · cases htr
  have hyield : ∀ (g jj : Nat), (ops[jj]?).bind (·.dst) = some g → yielded ops a.tmps jj = (match a.tmps[g]? with | some (.bool b) => some b | _ => none : Option Bool) := by
    intro g jj h
    unfold yielded; rw [h]; rfl
  have hbool : ∀ g b, g ∈ mo.reads → (S j).fr.get g = .b b → a.tmps[g]? = some (.bool b) := by
    intro g b hr hb
    have hfr := d.fr g
    rw [keyT g hr, hb] at hfr
    have hbv := hfr.b_inv
    rw [Array.getD_eq_getD_getElem?] at hbv
    cases hq : a.tmps[g]? with
    | none => rw [hq] at hbv; simp [undef] at hbv
    | some x => rw [hq] at hbv; simp at hbv; rw [hbv]
  unfold wpOp
  rw [ho]
  dsimp only
  rcases evMO_cases hev with ⟨v, loc', hv, hst, hf, hg⟩ | ⟨hst, hf, g, want, hg, hgv⟩
  · have hw : Region.wanted o (yielded ops a.tmps) = true := by
      rcases hg with hg | ⟨g, want, hg, hgv⟩
      · simp [Region.wanted, hguard0 hg]
      · obtain ⟨jj, h1, h2⟩ := hguard g want hg
        simp only [Region.wanted, h1, hyield g jj h2, hbool g want (mem_reads.2 g want hg) hgv]
        simp
    rw [if_pos hw]
    exact .inl (run v loc' hv hst (hF.trans hf))
  · have hw : ¬ Region.wanted o (yielded ops a.tmps) = true := by
      obtain ⟨jj, h1, h2⟩ := hguard g want hg
      rcases hgv with ⟨t, h3, h4⟩ | h3
      · simp only [Region.wanted, h1, hyield g jj h2, hbool g t (mem_reads.2 g want hg) h3]
        simpa using h4
      · have hfr := d.fr g
        rw [keyT g (mem_reads.2 g want hg), h3] at hfr
        obtain ⟨vs, hv, hl, _⟩ := hfr.tup_inv
        simp only [Region.wanted, h1, hyield g jj h2]
        have : (match a.tmps[g]? with | some (.bool b) => some b | _ => none : Option Bool) = none := by
          rw [Array.getD_eq_getD_getElem?] at hv
          cases hq : a.tmps[g]? with
          | none => rfl
          | some x => rw [hq] at hv; simp at hv; rw [hv]
        rw [this]; simp
    rw [if_neg hw]
    exact skip hst (hF.trans hf)
end
end Go.Rv
namespace Go.Rv
def cnt (f : Nat → Bool) : Nat → Nat
  | 0 => 0
  | n + 1 => (if f n then 1 else 0) + cnt f n
theorem cnt_le {f g : Nat → Bool} {n : Nat} (h : ∀ k, g k = true → f k = true) : cnt g n ≤ cnt f n := by
  induction n with
  | zero => exact Nat.le_refl _
  | succ n ih =>
    simp only [cnt]
    cases hg : g n with
    | false => simp; omega
    | true => simp [h n hg]; omega
theorem cnt_lt {f g : Nat → Bool} {n j : Nat} (h : ∀ k, g k = true → f k = true) (hj : j < n) (hf : f j = true) (hg : g j = false) : cnt g n < cnt f n := by
  induction n with
  | zero => omega
  | succ n ih =>
    simp only [cnt]
    by_cases e : j = n
    · subst e
      simp [hf, hg]
      have := cnt_le (n := j) h
      omega
    · have := ih (by omega)
      cases hg' : g n with
      | false => simp; omega
      | true => simp [h n hg']; omega
theorem cnt_zero {f : Nat → Bool} {n : Nat} (h : cnt f n = 0) : ∀ k, k < n → f k = false := by
  induction n with
  | zero => intro k hk; omega
  | succ n ih =>
    simp only [cnt] at h
    intro k hk
    cases hf : f n with
    | true => simp [hf] at h
    | false =>
      by_cases e : k = n
      · subst e; exact hf
      · exact ih (by simp [hf] at h; exact h) k (by omega)
section
variable {P : Program} {σ : Num} {im0 : Nat → Prop} {lm : List Nat} {B : Nat} {w0 : World} {call : CallF} {nt : Nat}
theorem any_ok (hσ : SigOK P σ) (hc : CallOK P σ call) {ops : Array Oper} {uno : Nat → List Nat} {mos : List MO} (ht : trOps σ P nt ops uno 0 ops.toList = some mos) (hdr : drawOK ops.toList mos = true)
    {S : Nat → St} {fs : List Foot} (hlen : fs.length = mos.length)
    (hS : ∀ j mo, mos[j]? = some mo → evMO call mo (S j) = some (S (j + 1)) ∧ fs[j]? = some (footMO call mo (S j) (S (j + 1))))
    (hap : apartFeet mos fs = true) {Q : Exit → Act → World → Prop} (hQ : ∀ im own a' w', SI σ im0 lm B w0 nt im own (S mos.length) a' w' → Q .normal a' w') :
    ∀ (fuel : Nat) (listed : Array Bool) (a : Act) (w : World) (im : Nat → Prop) (own : Own), listed.size = ops.size → cnt (fun k => !listed.getD k false) ops.size ≤ fuel →
      (∀ j o, ops.toList[j]? = some o → listed.getD j false = true → ∀ k ∈ edgesOf o, listed.getD k false = true) →
      DI σ im0 lm B w0 nt S mos fs (fun k => listed.getD k false) im own a w → wpAny P .any ops Q fuel listed a w := by
  obtain ⟨hml, hmg⟩ := trOps_get ops.toList 0 mos ht
  have hml : mos.length = ops.size := by rw [hml]; simp
  obtain ⟨hedge, _⟩ := drawOK_spec hdr
  have all : ∀ listed : Array Bool, listed.size = ops.size → Region.ready .any ops listed = [] → ∀ k, k < ops.size → listed.getD k false = true := by
    intro listed hsz hr k
    induction k using Nat.strongRecOn with
    | _ k ih =>
      intro hk
      cases hb : listed.getD k false with
      | true => rfl
      | false =>
        exfalso
        have hmem : k ∈ Region.ready .any ops listed := by
          rw [mem_ready]
          have hkl : k < listed.size := by omega
          refine ⟨?_, ops[k], Array.getElem?_eq_getElem hk, fun e he hbd => ?_⟩
          · simp [hkl] at hb ⊢; exact hb
          · have : e.on ∈ edgesOf ops[k] := by
              unfold edgesOf
              rw [List.mem_filterMap]
              exact ⟨e, by simpa using he, by simp [hbd]⟩
            have hlt := hedge k ops[k] (by simp) _ this
            exact ih e.on hlt (by omega)
        rw [hr] at hmem; cases hmem
  have fin : ∀ (listed : Array Bool) (a : Act) (w : World) (im : Nat → Prop) (own : Own), (∀ k, k < ops.size → listed.getD k false = true) → DI σ im0 lm B w0 nt S mos fs (fun k => listed.getD k false) im own a w → Q .normal a w := by
    intro listed a w im own hall d
    have hx : ∀ k, k < mos.length → listed.getD k false = true := fun k hk => hall k (by omega)
    have sT : ∀ t k, k < mos.length → WT mos t k = false → (S (k + 1)).fr.get t = (S k).fr.get t := by
      intro t k hk hw
      have hx := List.getElem?_eq_getElem hk
      refine evMO_fr (hS k _ hx).1 fun e => ?_
      unfold WT at hw; rw [hx] at hw; simp [e] at hw
    have sB : ∀ id k, k < mos.length → WB fs id k = false → (S (k + 1)).loc[id]? = (S k).loc[id]? := by
      intro id k hk hw
      have hx := List.getElem?_eq_getElem hk
      refine evMO_loc (hS k _ hx).1 fun hm => ?_
      unfold WB at hw; rw [(hS k _ hx).2] at hw
      simp at hw; exact hw hm
    refine hQ im own a w ⟨d.imle, d.imnew, ?_, fun t => ?_, d.size, d.defers, d.lents⟩
    · refine Eq.mp (congrArg (fun b => GS σ im (· ∈ lm) B w0 own b w) ?_) d.gs
      funext id
      exact U_all (sB id) fun k hk _ => hx k hk
    · have := d.fr t
      rw [U_all (sT t) fun k hk _ => hx k hk] at this
      exact this
  intro fuel
  induction fuel with
  | zero =>
    intro listed a w im own hsz hcnt hcl d
    have hall := cnt_zero (Nat.le_zero.1 hcnt)
    have hall : ∀ k, k < ops.size → listed.getD k false = true := fun k hk => by simpa using hall k hk
    refine ⟨?_, fin listed a w im own hall d⟩
    rw [List.eq_nil_iff_forall_not_mem]
    intro k hk
    rw [mem_ready] at hk
    obtain ⟨h1, o, h2, _⟩ := hk
    have hlt := (Array.getElem?_eq_some_iff.1 h2).1
    have := hall k hlt
    have hkl : k < listed.size := by omega
    simp [hkl] at h1 this
    rw [h1] at this; cases this
  | succ fuel ih =>
    intro listed a w im own hsz hcnt hcl d
    refine ⟨fun hr => fin listed a w im own (all listed hsz hr) d, fun j hj => ?_⟩
    rw [mem_ready] at hj
    obtain ⟨h1, o, h2, h3⟩ := hj
    have hlt := (Array.getElem?_eq_some_iff.1 h2).1
    have hjl : j < listed.size := by omega
    have hjf : listed.getD j false = false := by simp [hjl] at h1 ⊢; exact h1
    have hjr : ∀ k ∈ edgesOf o, listed.getD k false = true := by
      intro k hk
      unfold edgesOf at hk
      rw [List.mem_filterMap] at hk
      obtain ⟨e, he, hk⟩ := hk
      split at hk
      · rename_i hb; simp at hk; subst hk; exact h3 e (by simpa using he) hb
      · cases hk
    have hset : ∀ k, (listed.setIfInBounds j true).getD k false = (listed.getD k false || k == j) := by
      intro k
      by_cases e : k = j
      · subst e; simp [hjl]
      · rw [getD_set_ne false (fun h => e h.symm)]; simp [e]
    refine draw_step hσ hc ht hdr hlen hS hap hcl h2 hjf hjr d fun im1 own1 a1 w1 d1 => ?_
    refine ih _ a1 w1 im1 own1 (by simpa using hsz) ?_ ?_ ?_
    · have : cnt (fun k => !(listed.setIfInBounds j true).getD k false) ops.size < cnt (fun k => !listed.getD k false) ops.size := by
        refine cnt_lt (j := j) (fun k hk => ?_) hlt ?_ ?_
        · rw [hset] at hk
          cases hb : listed.getD k false with
          | true => rw [hb] at hk; simp at hk
          | false => rfl
        · simp only [hjf]; rfl
        · simp only [hset]; simp
      omega
    · intro i o' ho' hi k hk
      rw [hset] at hi ⊢
      simp only [Bool.or_eq_true, beq_iff_eq] at hi ⊢
      rcases hi with hi | rfl
      · exact .inl (hcl i o' ho' hi k hk)
      · have : o' = o := by
          rw [Array.getElem?_toList, h2] at ho'; exact (Option.some.inj ho').symm
        subst this
        exact .inl (hjr k hk)
    · refine Eq.mp (congrArg (fun D => DI σ im0 lm B w0 nt S mos fs D im1 own1 a1 w1) ?_) d1
      funext k; exact (hset k).symm
theorem draw_ok (hσ : SigOK P σ) (hc : CallOK P σ call) {ops : Array Oper} {uno : Nat → List Nat} {mos : List MO} (ht : trOps σ P nt ops uno 0 ops.toList = some mos) (hdr : drawOK ops.toList mos = true)
    {st st' : St} (he : evDraw call mos st = some st') {im : Nat → Prop} {own : Own} {a : Act} {w : World} (s : SI σ im0 lm B w0 nt im own st a w)
    {Q : Exit → Act → World → Prop} (hQ : ∀ im own a' w', SI σ im0 lm B w0 nt im own st' a' w' → Q .normal a' w') :
    wpAny P .any ops Q ops.size (Array.replicate ops.size false) a { w with drawn := w.drawn + 1 } := by
  unfold evDraw at he
  split at he
  case h_2 => cases he
  rename_i st2 fs hf
  split at he
  case isFalse => cases he
  rename_i hap
  simp at he; subst he
  obtain ⟨S, s0, s1, hlen, hS⟩ := evFeet_run mos st st2 fs hf
  have hrep : ∀ k, (Array.replicate ops.size false).getD k false = false := by
    intro k
    simp only [Array.getD_eq_getD_getElem?, Array.getElem?_replicate]
    split <;> rfl
  have hU : ∀ {α : Type} (val : Nat → α) (Wr : Nat → Bool) (n : Nat), U val Wr (fun k => (Array.replicate ops.size false).getD k false) n = val 0 := by
    intro α val Wr n
    rw [U_stop (m := 0) (Nat.zero_le _) fun k _ _ _ => hrep k]; rfl
  refine any_ok hσ hc ht hdr hlen hS hap (by rw [s1]; exact hQ) ops.size _ a _ im own (by simp) ?_ ?_ ?_
  · generalize ops.size = n
    suffices h : ∀ (f : Nat → Bool) n, cnt f n ≤ n from h _ n
    intro f n
    induction n with
    | zero => exact Nat.le_refl _
    | succ n ih => simp only [cnt]; split <;> omega
  · intro j o _ h; rw [hrep] at h; cases h
  · refine ⟨s.imle, s.imnew, ?_, fun t => ?_, s.size, s.defers, s.lents⟩
    · refine Eq.mp (congrArg (fun b => GS σ im (· ∈ lm) B w0 own b { w with drawn := w.drawn + 1 }) ?_) s.gs.drew
      funext id
      rw [hU]; rw [s0]
    · rw [hU]; rw [s0]; exact s.fr t
def Ex.to : Ex → Exit
  | .nrm => .normal
  | .exit id => .exit id
  | .ret => .ret
theorem SI.drop {im : Nat → Prop} {own : Own} {st : St} {a : Act} {w : World} (s : SI σ im0 lm B w0 nt im own st a w) (l : List Nat) : SI σ im0 lm B w0 nt im own ⟨st.fr.drop l, st.loc⟩ a w :=
  ⟨s.imle, s.imnew, s.gs, s.fr.drop l, s.size, s.defers, s.lents⟩
theorem trAr_cond {a : Act} {fr : Fr} {im : Nat → Prop} {h : Array Obj} {own : Own} (hf : FR σ im h own fr a.tmps) {c : Operand} {x : Ar} (e : trAr σ c = some x) {t : Bool} (hx : ev1 fr x = .b t) : a.eval c = .bool t := by
  have := ar_ok hf e
  rw [hx] at this
  exact this.b_inv
theorem rounds_ok {c : Code} {step : St → Option (Ex × St)} (body : ∀ (st st' : St) (ex : Ex), step st = some (ex, st') → ∀ (im : Nat → Prop) (own : Own) (a : Act) (w : World), SI σ im0 lm B w0 nt im own st a w →
      ∀ (Q : Exit → Act → World → Prop), (∀ im own a' w', SI σ im0 lm B w0 nt im own st' a' w' → Q ex.to a' w') → c.wp P Q a w) (l0 : Nat) (hl0 : lm.length ≤ l0) (live : List Nat) :
    ∀ (n : Nat) (st st' : St) (ex : Ex), iter step (compact l0 live) n st = some (ex, st') → ∀ (im : Nat → Prop) (own : Own) (a : Act) (w : World), SI σ im0 lm B w0 nt im own st a w →
      ∀ (Q : Exit → Act → World → Prop), (∀ im own a' w', SI σ im0 lm B w0 nt im own st' a' w' → Q ex.to a' w') → Code.rounds P c Q n a w
  | 0, st, st', ex, he, _, _, _, _, _, _, _ => by simp [iter] at he
  | n + 1, st, st', ex, he, im, own, a, w, s, Q, hQ => by
    simp only [iter] at he
    obtain ⟨own', s'⟩ := compact_ok l0 hl0 live s
    rw [rounds_succ]
    split at he
    · rename_i st1 h1
      exact body _ st1 .nrm h1 im own' a w s' _ fun im1 own1 a1 w1 s1 => rounds_ok body l0 hl0 live n st1 st' ex he im1 own1 a1 w1 s1 Q hQ
    · rename_i hne
      refine body _ st' ex he im own' a w s' _ fun im1 own1 a1 w1 s1 => ?_
      cases ex with
      | nrm => exact absurd he (hne st')
      | exit id => exact hQ im1 own1 a1 w1 s1
      | ret => exact hQ im1 own1 a1 w1 s1
theorem code_ok (hm : P.follows .mixedOrders = true) (hσ : SigOK P σ) (hc : CallOK P σ call) {kill : Nat → List Nat} {uno : Nat → Nat → List Nat} {live : Nat → List Nat × List Nat} {m : Nat} :
    ∀ (c : Code) (mc : MC), trC σ P nt kill uno live c = some mc → ∀ (st st' : St) (ex : Ex), evC call m mc st = some (ex, st') → ∀ (im : Nat → Prop) (own : Own) (a : Act) (w : World), SI σ im0 lm B w0 nt im own st a w →
      ∀ (Q : Exit → Act → World → Prop), (∀ im own a' w', SI σ im0 lm B w0 nt im own st' a' w' → Q ex.to a' w') → c.wp P Q a w
  | .skip, mc, e, st, st', ex, he, im, own, a, w, s, Q, hQ => by
    simp [trC] at e; subst e
    simp [evC] at he; obtain ⟨rfl, rfl⟩ := he
    exact wp_skip (hQ im own a w s)
  | .ret, mc, e, st, st', ex, he, im, own, a, w, s, Q, hQ => by
    simp [trC] at e; subst e
    simp [evC] at he; obtain ⟨rfl, rfl⟩ := he
    exact wp_ret (hQ im own a w s)
  | .exit id, mc, e, st, st', ex, he, im, own, a, w, s, Q, hQ => by
    simp [trC] at e; subst e
    simp [evC] at he; obtain ⟨rfl, rfl⟩ := he
    exact wp_exit (hQ im own a w s)
  | .refuse _, mc, e, st, st', ex, he, im, own, a, w, s, Q, hQ => by
    simp [trC] at e; subst e
    simp [evC] at he
  | .region id ops draw, mc, e, st, st', ex, he, im, own, a, w, s, Q, hQ => by
    simp only [trC] at e
    split at e
    case h_2 => cases e
    rename_i l hl
    split at e
    case isTrue => cases e
    rename_i hdr
    simp at e; subst e
    simp only [evC] at he
    cases draw with
    | true =>
      simp at hdr
      simp only [if_true] at he
      split at he
      case h_2 => cases he
      rename_i st1 h1
      simp at he; obtain ⟨rfl, rfl⟩ := he
      refine wp_region_any hm ?_
      exact draw_ok hσ hc hl hdr h1 s fun im own a' w' s' => hQ im own a' w' (s'.drop _)
    | false =>
      simp only [Bool.false_eq_true, if_false] at he
      split at he
      case h_2 => cases he
      rename_i st1 h1
      simp at he; obtain ⟨rfl, rfl⟩ := he
      refine wp_region_list ?_
      exact seq_ok hσ hc ops.toList 0 l st st1 a w im own hl h1 s fun im own a' w' s' => hQ im own a' w' (s'.drop _)
  | .seq x y, mc, e, st, st', ex, he, im, own, a, w, s, Q, hQ => by
    simp only [trC] at e
    split at e
    case h_2 => cases e
    rename_i mx my hx hy
    simp at e; subst e
    simp only [evC] at he
    refine wp_seq ?_
    split at he
    · rename_i st1 h1
      exact code_ok hm hσ hc x mx hx st st1 .nrm h1 im own a w s _ fun im1 own1 a1 w1 s1 => code_ok hm hσ hc y my hy st1 st' ex he im1 own1 a1 w1 s1 Q hQ
    · rename_i hne
      refine code_ok hm hσ hc x mx hx st st' ex he im own a w s _ fun im1 own1 a1 w1 s1 => ?_
      cases ex with
      | nrm => exact absurd he (hne st')
      | exit id => exact hQ im1 own1 a1 w1 s1
      | ret => exact hQ im1 own1 a1 w1 s1
  | .cond c x y, mc, e, st, st', ex, he, im, own, a, w, s, Q, hQ => by
    simp only [trC] at e
    split at e
    case h_2 => cases e
    rename_i mcc mx my hcc hx hy
    simp at e; subst e
    simp only [evC] at he
    split at he
    case h_2 => cases he
    rename_i t ht
    have hcv := trAr_cond s.fr hcc ht
    refine wp_cond hcv ?_
    cases t with
    | true => simp only [if_true] at he ⊢; exact code_ok hm hσ hc x mx hx st st' ex he im own a w s Q hQ
    | false => simp only [Bool.false_eq_true, if_false] at he ⊢; exact code_ok hm hσ hc y my hy st st' ex he im own a w s Q hQ
  | .block id c, mc, e, st, st', ex, he, im, own, a, w, s, Q, hQ => by
    simp only [trC, Option.map_eq_some_iff] at e
    obtain ⟨mx, hx, rfl⟩ := e
    simp only [evC] at he
    refine wp_block ?_
    split at he
    · rename_i j st1 h1
      split at he
      · rename_i hj
        simp at he; obtain ⟨rfl, rfl⟩ := he
        refine code_ok hm hσ hc c mx hx st st1 (.exit j) h1 im own a w s _ fun im1 own1 a1 w1 s1 => ?_
        simp only [Ex.to, Exit.inBlock, hj, if_true]
        exact hQ im1 own1 a1 w1 s1
      · rename_i hj
        simp at he; obtain ⟨rfl, rfl⟩ := he
        refine code_ok hm hσ hc c mx hx st st1 (.exit j) h1 im own a w s _ fun im1 own1 a1 w1 s1 => ?_
        simp only [Ex.to, Exit.inBlock, hj, if_false]
        exact hQ im1 own1 a1 w1 s1
    · rename_i hne
      refine code_ok hm hσ hc c mx hx st st' ex he im own a w s _ fun im1 own1 a1 w1 s1 => ?_
      cases ex with
      | nrm => exact hQ im1 own1 a1 w1 s1
      | exit j => exact absurd he (hne j st')
      | ret => exact hQ im1 own1 a1 w1 s1
  | .loop c, mc, e, st, st', ex, he, im, own, a, w, s, Q, hQ => by
    simp only [trC, Option.map_eq_some_iff] at e
    obtain ⟨mx, hx, rfl⟩ := e
    simp only [evC] at he
    split at he
    case h_2 => cases he
    rename_i ex1 st1 h1
    simp at he; obtain ⟨rfl, rfl⟩ := he
    refine wp_loop_rounds m ?_
    refine rounds_ok (fun st st' ex h => code_ok hm hσ hc c mx hx st st' ex h) _ s.lents_le _ m st st1 ex1 h1 im own a w s Q fun im1 own1 a1 w1 s1 => ?_
    obtain ⟨own2, s2⟩ := compact_ok st.loc.length s.lents_le (live (firstReg c)).2 s1
    exact hQ im1 own2 a1 w1 s2
  | .scope _, mc, e, st, st', ex, he, im, own, a, w, s, Q, hQ => by simp [trC] at e
  | .rangeFunc .., mc, e, st, st', ex, he, im, own, a, w, s, Q, hQ => by simp [trC] at e
  | .goto _, mc, e, st, st', ex, he, im, own, a, w, s, Q, hQ => by simp [trC] at e
  | .label _, mc, e, st, st', ex, he, im, own, a, w, s, Q, hQ => by simp [trC] at e
end
end Go.Rv
namespace Go.Rv
section
variable {P : Program} {σ : Num} {im im0 : Nat → Prop} {lm : List Nat} {B : Nat} {w0 w : World} {own : Own} {call : CallF} {nt : Nat} {st : St} {a : Act}
def resOf (tmps : Array Value) : ResultVar → Sem Value
  | .tmp t => pure (tmps.getD t undef)
  | .cell a t => do loadVar t (← asAddr (tmps.getD a undef))
theorem resV_ok (s : SI σ im0 lm B w0 nt im own st a w) {r : ResultVar} {rv : RV} (e : trRV P r = some rv) {v : AV} (hv : resV st rv = some v) :
    ∃ cv, (resOf a.tmps r).run P w = .ok cv w ∧ VR σ im w.heap own v cv := by
  cases r with
  | tmp t =>
    simp [trRV] at e; subst e
    simp [resV] at hv; subst hv
    exact ⟨_, rfl, s.fr t⟩
  | cell x t =>
    simp only [trRV] at e
    split at e
    case h_2 => cases e
    rename_i ag hag
    split at e
    case isFalse => cases e
    rename_i h0
    simp at e; subst e
    simp only [resV] at hv
    split at hv
    case h_2 => cases hv
    rename_i cs hcs
    obtain ⟨b, off, vs, hx, hl, hl', hc, hr⟩ := ld_ok s.gs (s.fr x) (fun _ _ => rfl) h0.1 hcs
    have hload : ∀ j u, vs[j]? = some u → w.cell? ((⟨b, off, none⟩ : Addr).add j) = some u := fun j u hj => by rw [addr_add, cell?_eq]; exact (hc j u hj).1
    cases ag with
    | true =>
      simp only [pack, if_true, Option.some.injEq] at hv; subst hv
      refine ⟨.agg vs.toArray, ?_, .agg (by simp; omega) (fun j u hj => (hc j u (by simpa using hj)).2) fun j c u hj hu => hr j c u hj (by simpa using hu)⟩
      have := run_loadCells_list (P := P) w ⟨b, off, none⟩ vs hload
      rw [hl] at this
      simp only [resOf, hx]
      simp [asAddr, loadVar, run_isAg hag, run_size h0.1, this]
    | false =>
      simp only [pack, Bool.false_eq_true, if_false] at hv
      split at hv
      case h_2 => cases hv
      rename_i c
      simp at hv; subst hv
      have hn : P.cellsOf t = 1 := by simpa using hl'.symm
      obtain ⟨u, rfl⟩ : ∃ u, vs = [u] := by
        cases vs with
        | nil => simp at hl; omega
        | cons u r => cases r with
          | nil => exact ⟨u, rfl⟩
          | cons => simp at hl; omega
      have hu := (hc 0 u rfl).1
      refine ⟨u, ?_, hr 0 c u rfl rfl⟩
      have : w.cell? ⟨b, off, none⟩ = some u := by rw [cell?_eq]; exact hu
      simp only [resOf, hx]
      simp [asAddr, loadVar, run_isAg hag, this]
theorem resL_ok (s : SI σ im0 lm B w0 nt im own st a w) : ∀ {rs : List ResultVar} {rvs : List RV} {vs : List AV}, trRVs P rs = some rvs → resL st rvs = some vs →
    ∃ cvs : List Value, (rs.mapM (resOf a.tmps)).run P w = .ok cvs w ∧ vs.length = cvs.length ∧ ∀ (j : Nat) (c : AV) (v : Value), vs[j]? = some c → cvs[j]? = some v → VR σ im w.heap own c v
  | [], rvs, vs, e, hv => by
    simp [trRVs] at e; subst e
    simp [resL] at hv; subst hv
    exact ⟨[], rfl, rfl, fun j c v h => by simp at h⟩
  | r :: rs, rvs, vs, e, hv => by
    simp only [trRVs] at e
    split at e
    case h_2 => cases e
    rename_i x y hx hy
    simp at e; subst e
    simp only [resL] at hv
    split at hv
    case h_2 => cases hv
    rename_i v1 h1
    split at hv
    case h_2 => cases hv
    rename_i vs1 h2
    simp at hv; subst hv
    obtain ⟨c1, e1, r1⟩ := resV_ok s hx h1
    obtain ⟨cs, e2, l2, r2⟩ := resL_ok s hy h2
    refine ⟨c1 :: cs, ?_, by simp [l2], fun j c v hj hv => ?_⟩
    · rw [List.mapM_cons]
      simp [Sem.run_bind, e1, e2]
    · cases j with
      | zero => simp at hj hv; subst hj hv; exact r1
      | succ j => exact r2 j c v (by simpa using hj) (by simpa using hv)
theorem results_ok (s : SI σ im0 lm B w0 nt im own st a w) {fn : Func} {rvs : List RV} {vs : List AV} (e : trRVs P fn.results.toList = some rvs) (hv : resL st rvs = some vs) :
    ∃ cv, (results fn a.tmps).run P w = .ok cv w ∧ VR σ im w.heap own (one vs) cv := by
  obtain ⟨cvs, h1, h2, h3⟩ := resL_ok s e hv
  have hm : (fn.results.mapM (resOf a.tmps)).run P w = .ok cvs.toArray w := by
    rw [Array.mapM_eq_mapM_toList]
    simp [Sem.run_map, h1]
  have hres : (results fn a.tmps).run P w = .ok (if h : cvs.toArray.size = 1 then cvs.toArray[0] else .tuple cvs.toArray) w := by
    have : results fn a.tmps = (do let vs ← fn.results.mapM (resOf a.tmps); pure (if h : vs.size = 1 then vs[0] else .tuple vs)) := by
      unfold results
      congr 1
    rw [this]
    simp [hm]
  refine ⟨_, hres, ?_⟩
  by_cases hl : cvs.length = 1
  · obtain ⟨u, rfl⟩ : ∃ u, cvs = [u] := by
      cases cvs with
      | nil => simp at hl
      | cons u r => cases r with
        | nil => exact ⟨u, rfl⟩
        | cons => simp at hl
    obtain ⟨v, rfl⟩ : ∃ v, vs = [v] := by
      cases vs with
      | nil => simp at h2
      | cons u' r => cases r with
        | nil => exact ⟨u', rfl⟩
        | cons => simp at h2
    exact h3 0 v u rfl rfl
  · rw [dif_neg (by simpa using hl)]
    have : one vs = .tup vs := by
      unfold one
      split
      · rename_i v; simp at h2; omega
      · rfl
    rw [this]
    exact .tup (by simp [h2]) fun j c v hj hv => h3 j c v hj (by simpa using hv)
theorem enter_ne {x : AV} (hx : ∀ es, x ≠ .mv es) (r : List AV) (t m : Nat) : enter (x :: r) t m = ((t, x) :: (enter r (t + 1) m).1, (enter r (t + 1) m).2) := by
  cases x <;> first | rfl | exact absurd rfl (hx _)
theorem lentB_ne {x : AV} (hx : ∀ es, x ≠ .mv es) (r : List AV) (v : Value) (s : List Value) : lentB (x :: r) (v :: s) = lentB r s := by
  cases x <;> first | rfl | exact absurd rfl (hx _)
theorem VI.not_mv {h : Array Obj} {x : AV} {v : Value} (r : VI σ im h x v) : ∀ es, x ≠ .mv es := by
  intro es e; subst e; cases r
theorem enter_ok {h : Array Obj} : ∀ (args : List AV) (cargs : List Value) (t m : Nat), args.length = cargs.length →
    (∀ (j : Nat) (x : AV) (v : Value), args[j]? = some x → cargs[j]? = some v → ArgR σ im h x v) →
    (enter args t m).2.length = (lentB args cargs).length ∧
    (∀ (i b : Nat), (lentB args cargs)[i]? = some b → ∃ es, (enter args t m).2[i]? = some (.map es) ∧ MapAt h b es ∧ ¬ im b ∧ b < h.size) ∧
    (∀ t', (t' < t ∨ t + args.length ≤ t') → (enter args t m).1.get t' = .u) ∧
    (∀ (j : Nat) (x : AV) (v : Value), args[j]? = some x → cargs[j]? = some v → VI σ im h ((enter args t m).1.get (t + j)) v ∨
      ∃ i b : Nat, (enter args t m).1.get (t + j) = .mp (m + i) ∧ (lentB args cargs)[i]? = some b ∧ v = .map (some b))
  | [], [], t, m, _, _ => ⟨rfl, fun i b h => by simp [lentB] at h, fun _ _ => rfl, fun j x v h => by simp at h⟩
  | [], _ :: _, t, m, hl, _ => by simp at hl
  | _ :: _, [], t, m, hl, _ => by simp at hl
  | x :: r, v :: s, t, m, hl, hr => by
    have hr' : ∀ (j : Nat) (x : AV) (v : Value), r[j]? = some x → s[j]? = some v → ArgR σ im h x v := fun j y u a b => hr (j + 1) y u (by simpa using a) (by simpa using b)
    have hx := hr 0 x v rfl rfl
    cases hx with
    | mv hm him hlt =>
      rename_i es b
      obtain ⟨i1, i2, i3, i4⟩ := enter_ok r s (t + 1) (m + 1) (by simpa using hl) hr'
      have e1 : enter (.mv es :: r) t m = ((t, .mp m) :: (enter r (t + 1) (m + 1)).1, .map es :: (enter r (t + 1) (m + 1)).2) := rfl
      have e2 : lentB (.mv es :: r) (.map (some b) :: s) = b :: lentB r s := rfl
      rw [e1, e2]
      refine ⟨by simp [i1], fun i b' hb => ?_, fun t' ht => ?_, fun j y u hj hu => ?_⟩
      · cases i with
        | zero => simp at hb; subst hb; exact ⟨es, rfl, hm, him, hlt⟩
        | succ i => exact i2 i b' (by simpa using hb)
      · simp only [Fr.get]
        rw [if_neg (by simp at ht; omega)]
        exact i3 t' (by simp at ht; omega)
      · cases j with
        | zero =>
          simp at hj hu; subst hj hu
          exact .inr ⟨0, b, by simp [Fr.get], rfl, rfl⟩
        | succ j =>
          simp only [Fr.get]
          rw [if_neg (by omega), show t + (j + 1) = t + 1 + j by omega]
          rcases i4 j y u (by simpa using hj) (by simpa using hu) with h | ⟨i, b', q1, q2, q3⟩
          · exact .inl h
          · exact .inr ⟨i + 1, b', by rw [q1]; congr 1; omega, by simpa using q2, q3⟩
    | vi hv =>
      have hne := hv.not_mv
      obtain ⟨i1, i2, i3, i4⟩ := enter_ok r s (t + 1) m (by simpa using hl) hr'
      rw [enter_ne hne, lentB_ne hne]
      refine ⟨i1, i2, fun t' ht => ?_, fun j y u hj hu => ?_⟩
      · simp only [Fr.get]
        rw [if_neg (by simp at ht; omega)]
        exact i3 t' (by simp at ht; omega)
      · cases j with
        | zero =>
          simp at hj hu; subst hj hu
          left; simp [Fr.get]; exact hv
        | succ j =>
          simp only [Fr.get]
          rw [if_neg (by omega), show t + (j + 1) = t + 1 + j by omega]
          exact i4 j y u (by simpa using hj) (by simpa using hu)
theorem start_ok {args : List AV} {cargs : List Value} (hl : args.length = cargs.length) (hr : ∀ (j : Nat) (x : AV) (v : Value), args[j]? = some x → cargs[j]? = some v → ArgR σ im w.heap x v)
    (him : ∀ b, im b → b < w.heap.size) (hnd : (lentB args cargs).Nodup) (hnt : cargs.length ≤ nt) :
    ∃ own, SI σ im (lentB args cargs) w.heap.size w nt im own ⟨(enter args 0 0).1, (enter args 0 0).2⟩ { tmps := cargs.toArray ++ Array.replicate (nt - cargs.toArray.size) undef, defers := [] } w := by
  obtain ⟨h1, h2, h3, h4⟩ := enter_ok args cargs 0 0 hl hr
  obtain ⟨own, hown⟩ : ∃ own : Own, own = fun i => ((lentB args cargs)[i]?).map fun b => ⟨b, 0, 0, 0⟩ := ⟨_, rfl⟩
  have hinv : ∀ i ob, own i = some ob → ∃ b, (lentB args cargs)[i]? = some b ∧ ob = ⟨b, 0, 0, 0⟩ := by
    intro i ob h
    rw [hown, Option.map_eq_some_iff] at h
    obtain ⟨b, q1, q2⟩ := h
    exact ⟨b, q1, q2.symm⟩
  refine ⟨own, fun b hb => hb, fun b hb => .inl hb, ?_, fun t => ?_, by simp; omega, rfl, fun j b hj => ⟨⟨b, 0, 0, 0⟩, by rw [hown]; simp [hj], rfl, rfl⟩⟩
  · refine ⟨fun id b hb => ?_, fun id hb => ?_, fun i j x y hi hj e => ?_, fun id ob ho => ?_, fun id ob ho => ?_, fun id ob blk ho hb hrow => ?_, him, Nat.le_refl _, KeepX.refl _ _ _⟩
    · have hlt := (List.getElem?_eq_some_iff.1 hb).1
      dsimp only at hlt
      have hlb := List.getElem?_eq_getElem (show id < (lentB args cargs).length by omega)
      obtain ⟨es, q1, q2, q3, q4⟩ := h2 id _ hlb
      dsimp only at hb
      rw [q1] at hb; simp at hb; subst hb
      obtain ⟨ents, clk, n1, n2, n3⟩ := q2
      exact ⟨⟨_, 0, 0, 0⟩, by rw [hown]; simp only [hlb]; rfl, rfl, rfl, q3, ents, clk, n1, by simpa using n2, fun j k v e hj he => n3 j k v e hj (by simpa using he)⟩
    · dsimp only at hb
      rw [List.getElem?_eq_none_iff] at hb
      rw [hown]; dsimp only
      rw [List.getElem?_eq_none (by omega)]; rfl
    · obtain ⟨b1, q1, rfl⟩ := hinv i x hi
      obtain ⟨b2, r1, rfl⟩ := hinv j y hj
      simp at e; subst e
      obtain ⟨a1, a2⟩ := List.getElem?_eq_some_iff.1 q1
      obtain ⟨c1, c2⟩ := List.getElem?_eq_some_iff.1 r1
      rcases Nat.lt_trichotomy i j with hlt | heq | hlt
      · exact absurd (a2.trans c2.symm) (List.pairwise_iff_getElem.1 hnd i j a1 c1 hlt)
      · exact heq
      · exact absurd (c2.trans a2.symm) (List.pairwise_iff_getElem.1 hnd j i c1 a1 hlt)
    · obtain ⟨b1, q1, rfl⟩ := hinv id ob ho
      obtain ⟨es, _, _, _, q4⟩ := h2 id _ q1
      exact q4
    · obtain ⟨b1, q1, rfl⟩ := hinv id ob ho
      exact .inr (List.mem_of_getElem? q1)
    · obtain ⟨b1, q1, rfl⟩ := hinv id ob ho
      obtain ⟨es, q2, _⟩ := h2 id _ q1
      dsimp only at hb
      rw [q2] at hb; simp at hb; subst hb; cases hrow
  · by_cases ht : t < args.length
    · have hx := List.getElem?_eq_getElem ht
      have hv := List.getElem?_eq_getElem (show t < cargs.length by omega)
      have hd : (cargs.toArray ++ Array.replicate (nt - cargs.toArray.size) undef).getD t undef = cargs[t] := by
        simp only [Array.getD_eq_getD_getElem?]
        rw [Array.getElem?_append_left (by simp; omega)]
        simp [hv]
      dsimp only
      rw [hd]
      rcases h4 t _ _ hx hv with h | ⟨i, b, q1, q2, q3⟩
      · rw [Nat.zero_add] at h; exact .imm h
      · rw [Nat.zero_add, Nat.zero_add] at q1
        rw [q1, q3]
        exact .mp (ob := ⟨b, 0, 0, 0⟩) (by rw [hown]; simp [q2]) rfl
    · dsimp only
      rw [h3 t (.inr (by omega))]
      exact .imm .u
theorem filterMap_maps : ∀ (l : Loc), (l.filterMap fun | .map es => some es | _ => none).length = l.length →
    ∀ (j : Nat) (es : List (AV × AV)), (l.filterMap fun | .map es => some es | _ => none)[j]? = some es → l[j]? = some (.map es)
  | [], _, j, es, h => by simp at h
  | .map x :: r, hl, j, es, h => by
    simp only [List.filterMap_cons] at hl h
    cases j with
    | zero => simp at h; subst h; rfl
    | succ j =>
      simp only [List.getElem?_cons_succ] at h ⊢
      exact filterMap_maps r (by simpa using hl) j es h
  | .row .. :: r, hl, j, es, h => by
    simp only [List.filterMap_cons, List.length_cons] at hl
    have := List.length_filterMap_le (fun | .map es => some es | _ => none : Blk → Option (List (AV × AV))) r
    omega
theorem leaveO_ok (s : SI σ im0 lm w0.heap.size w0 nt im own st a w) {rvs : List RV} {r : Res} (he : leaveO lm.length st rvs = some r) :
    ∃ vs, resL st rvs = some vs ∧ ∀ cv, VR σ im w.heap own (one vs) cv → RES σ im0 w0 lm r (.returned cv) w := by
  unfold leaveO at he
  split at he
  case h_1 => cases he
  rename_i vs hvs
  refine ⟨vs, hvs, fun cv hcv => ?_⟩
  dsimp only at he
  split at he
  case isFalse => cases he
  rename_i houts
  split at he
  case isFalse => cases he
  rename_i hall
  simp only [Bool.and_eq_true] at hall
  obtain ⟨hrows, hks⟩ := hall
  simp only [Option.some.injEq] at he
  subst he
  generalize hksd : (List.range st.loc.length).filter (fun j => (one vs).ids.contains j) = ks at hrows hks ⊢
  have hnd : ks.Nodup := by rw [← hksd]; exact List.Pairwise.filter _ List.nodup_range
  have hlt : ∀ j ∈ ks, j < st.loc.length := by
    intro j hj; rw [← hksd] at hj
    exact List.mem_range.1 (List.mem_filter.1 hj).1
  obtain ⟨hl, hg⟩ := filterMap_get (fun j => st.loc[j]?) ks (fun j hj => by simp [hlt j hj])
  obtain ⟨own', hown'⟩ : ∃ own' : Own, own' = fun i => (ks[i]?).bind own := ⟨_, rfl⟩
  have ho : ∀ id ob j, own id = some ob → findIx id ks 0 = some j → own' j = some ob := by
    intro id ob j h1 h2
    have := (findIx_spec ks id 0 j h2).2
    rw [Nat.sub_zero] at this
    rw [hown']; simp only [this]; exact h1
  refine ⟨cv, im, own', rfl, s.imle, s.imnew, s.gs.imlt, s.gs.keep, fun id hid => ?_, fun id b hb => ?_, fun i j x y hi hj e => ?_, hcv.ren ho, houts, fun j b es hj hes => ?_⟩
  · dsimp only at hid
    rw [hl] at hid
    rw [hown']; dsimp only
    rw [List.getElem?_eq_none hid]; rfl
  · dsimp only at hb
    have hpure : pureRow b = true := by
      have := List.all_eq_true.1 hrows b (List.mem_of_getElem? hb)
      cases b with
      | row => simpa [pureRow] using this
      | map => simp at this
    rw [hg, Option.bind_eq_some_iff] at hb
    obtain ⟨j, hj, hb⟩ := hb
    obtain ⟨ob, q1, q2⟩ := s.gs.some_ j b hb
    refine ⟨ob, by rw [hown']; simp only [hj]; exact q1, row_noown hpure q2 (fun _ h => h) (fun h => h) (fun _ _ => rfl) rfl, ?_, s.gs.lt _ _ q1, hpure⟩
    refine s.gs.rows j ob b q1 hb ?_
    cases b with
    | row => rfl
    | map => cases hpure
  · rw [hown'] at hi hj
    rw [Option.bind_eq_some_iff] at hi hj
    obtain ⟨i', h1, h2⟩ := hi
    obtain ⟨j', h3, h4⟩ := hj
    have := s.gs.inj _ _ _ _ h2 h4 e
    subst this
    obtain ⟨a1, a2⟩ := List.getElem?_eq_some_iff.1 h1
    obtain ⟨b1, b2⟩ := List.getElem?_eq_some_iff.1 h3
    rcases Nat.lt_trichotomy i j with hlt' | heq | hlt'
    · exact absurd (a2.trans b2.symm) (List.pairwise_iff_getElem.1 hnd i j a1 b1 hlt')
    · exact heq
    · exact absurd (b2.trans a2.symm) (List.pairwise_iff_getElem.1 hnd j i b1 a1 hlt')
  · dsimp only at hes
    have hle := s.lents_le
    have hm := filterMap_maps (st.loc.take lm.length) (Eq.trans houts (by simp; omega)) j es hes
    rw [List.getElem?_take] at hm
    split at hm
    case isFalse => cases hm
    obtain ⟨ob, q1, q2, q3⟩ := s.lents j b hj
    obtain ⟨ob', r1, r2⟩ := s.gs.some_ j _ hm
    rw [q1] at r1; cases r1
    obtain ⟨_, _, _, ents, clk, n1, n2, n3⟩ := r2
    subst q3
    exact ⟨ents, clk, n1, by simpa using n2, fun j k v e hj he => n3 j k v e hj (by simpa using he)⟩
theorem zfC_cases (z : Nat) (c : AV) : zfC z c = c ∨ ∃ ti z', c = .lst true ti z' [] ∧ zfC z c = .lst true ti z [] := by
  cases c with
  | lst nl ti z' xs =>
    rcases Bool.eq_false_or_eq_true (z' == z) with h | h
    · exact .inl (by simp only [zfC, h])
    · cases nl with
      | false => exact .inl (by simp only [zfC, h])
      | true => cases xs with
        | nil => exact .inr ⟨_, _, rfl, by simp only [zfC, h]⟩
        | cons => exact .inl (by simp only [zfC, h])
  | _ => exact .inl rfl
theorem zipZ_get : ∀ (zs : List Nat) (l : List AV), (zipZ zs l).length = l.length ∧ ∀ (j : Nat) (c : AV), (zipZ zs l)[j]? = some c → ∃ c', l[j]? = some c' ∧ (c = c' ∨ ∃ ti z z', c' = .lst true ti z' [] ∧ c = .lst true ti z [])
  | [], l => by
    have : zipZ [] l = l := by cases l <;> rfl
    rw [this]; exact ⟨rfl, fun j c h => ⟨c, h, .inl rfl⟩⟩
  | z :: zs, [] => by
    have : zipZ (z :: zs) [] = [] := rfl
    rw [this]; exact ⟨rfl, fun j c h => by simp at h⟩
  | z :: zs, c :: r => by
    obtain ⟨h1, h2⟩ := zipZ_get zs r
    have h3 : zipZ (z :: zs) (c :: r) = zfC z c :: zipZ zs r := rfl
    rw [h3]
    refine ⟨by simp [h1], fun j e he => ?_⟩
    cases j with
    | zero =>
      simp at he; subst he
      rcases zfC_cases z c with h4 | ⟨ti, z', h4, h5⟩
      · exact ⟨c, rfl, .inl h4⟩
      · exact ⟨c, rfl, .inr ⟨ti, z, z', h4, h5⟩⟩
    | succ j => simpa using h2 j e (by simpa using he)
theorem nil_z {im : Nat → Prop} {h : Array Obj} {ti : Bool} {z z' : Nat} {v : Value} (r : VI σ im h (.lst true ti z' []) v) : VI σ im h (.lst true ti z []) v := by
  cases r with
  | nil => exact .nil
theorem zf1_ok {im : Nat → Prop} {h : Array Obj} (zs : List Nat) {x : AV} {v : Value} (r : VI σ im h x v) : VI σ im h (zf1 zs x) v := by
  have hl : ∀ z nl ti z' xs, VI σ im h (.lst nl ti z' xs) v → VI σ im h (zfC z (.lst nl ti z' xs)) v := by
    intro z nl ti z' xs r
    rcases zfC_cases z (.lst nl ti z' xs) with h4 | ⟨ti', z'', h4, h5⟩
    · rw [h4]; exact r
    · rw [h5]; rw [h4] at r; exact nil_z r
  cases x with
  | lst nl ti z' xs =>
    cases zs with
    | nil => exact r
    | cons z _ => exact hl z nl ti z' xs r
  | agg cs =>
    have e : zf1 zs (.agg cs) = .agg (zipZ zs cs) := by cases zs <;> rfl
    rw [e]
    cases r with
    | agg h1 h2 h3 =>
      obtain ⟨h4, h5⟩ := zipZ_get zs cs
      refine .agg (h4.trans h1) h2 fun j c v hj hv => ?_
      obtain ⟨c', h6, h7⟩ := h5 j c hj
      have := h3 j c' v h6 hv
      rcases h7 with rfl | ⟨ti, z, z', rfl, rfl⟩
      · exact this
      · exact nil_z this
  | _ => cases zs <;> exact r
theorem zfT_get : ∀ (zss : List (List Nat)) (l : List AV), (zfT zss l).length = l.length ∧ ∀ (j : Nat) (c : AV), (zfT zss l)[j]? = some c → ∃ c', l[j]? = some c' ∧ (c = c' ∨ ∃ zs, c = zf1 zs c')
  | [], l => by
    have : zfT [] l = l := by cases l <;> rfl
    rw [this]; exact ⟨rfl, fun j c h => ⟨c, h, .inl rfl⟩⟩
  | z :: zs, [] => by
    have : zfT (z :: zs) [] = [] := rfl
    rw [this]; exact ⟨rfl, fun j c h => by simp at h⟩
  | z :: zs, c :: r => by
    obtain ⟨h1, h2⟩ := zfT_get zs r
    have h3 : zfT (z :: zs) (c :: r) = zf1 z c :: zfT zs r := rfl
    rw [h3]
    refine ⟨by simp [h1], fun j e he => ?_⟩
    cases j with
    | zero => simp at he; subst he; exact ⟨c, rfl, .inr ⟨z, rfl⟩⟩
    | succ j => simpa using h2 j e (by simpa using he)
theorem zfix_ok {im : Nat → Prop} {h : Array Obj} (zss : List (List Nat)) {x : AV} {v : Value} (r : VI σ im h x v) : VI σ im h (zfix zss x) v := by
  unfold zfix
  split
  · rename_i vs
    cases r with
    | tup h1 h3 =>
      obtain ⟨h4, h5⟩ := zfT_get zss vs
      refine .tup (h4.trans h1) fun j c v hj hv => ?_
      obtain ⟨c', h6, h7⟩ := h5 j c hj
      have := h3 j c' v h6 hv
      rcases h7 with rfl | ⟨zs, rfl⟩
      · exact this
      · exact zf1_ok zs this
  · exact zf1_ok _ r
theorem leaveF_ok (s : SI σ im0 lm w0.heap.size w0 nt im own st a w) {zss : List (List Nat)} {rvs : List RV} {r : Res} (he : leaveF lm.length st zss rvs = some r) :
    ∃ vs, resL st rvs = some vs ∧ ∀ cv, VR σ im w.heap own (one vs) cv → RES σ im0 w0 lm r (.returned cv) w := by
  unfold leaveF at he
  split at he
  case h_1 => cases he
  rename_i vs hvs
  refine ⟨vs, hvs, fun cv hcv => ?_⟩
  split at he
  case h_1 => cases he
  rename_i v hv
  dsimp only at he
  split at he
  case isFalse => cases he
  rename_i houts
  simp only [Option.some.injEq] at he
  subst he
  have hvi := frz_ok s.gs (X := (one vs).ids) (one vs) v cv hv (fun id hid => ⟨rfl, hid⟩) hcv
  refine ⟨cv, imF im own (fun j => st.loc[j]?) (one vs).ids, fun _ => none, rfl, fun b hb => .inl (s.imle b hb), fun b hb => ?_, fun b hb => ?_, s.gs.keep, fun _ _ => rfl, fun id b hb => (by simp at hb), fun i j x y hi => (by cases hi), .imm (zfix_ok zss hvi), houts, fun j b es hj hes => ?_⟩
  · rcases hb with hb | ⟨id, ob, blk, _, h2, rfl, h4, h5⟩
    · exact s.imnew b hb
    · exact .inr (s.gs.rows id ob blk h2 h4 h5)
  · rcases hb with hb | ⟨id, ob, blk, _, h2, rfl, _, _⟩
    · exact s.gs.imlt b hb
    · exact s.gs.lt id ob h2
  · dsimp only at hes
    have hm := filterMap_maps (st.loc.take lm.length) (Eq.trans houts (by
      have h1 : lm.length ≤ (st.loc.take lm.length).length := Nat.le_trans (Nat.le_of_eq houts.symm) (List.length_filterMap_le _ _)
      have h2 := List.length_take_le lm.length st.loc
      omega)) j es hes
    rw [List.getElem?_take] at hm
    split at hm
    case isFalse => cases hm
    obtain ⟨ob, q1, q2, q3⟩ := s.lents j b hj
    obtain ⟨ob', r1, r2⟩ := s.gs.some_ j _ hm
    rw [q1] at r1; cases r1
    obtain ⟨_, _, _, ents, clk, n1, n2, n3⟩ := r2
    subst q3
    exact ⟨ents, clk, n1, by simpa using n2, fun j k v e hj he => n3 j k v e hj (by simpa using he)⟩
def tailR : List RV → List RV
  | .fz _ :: r => r
  | r => r
theorem trRVs_tail {P : Program} {l : List ResultVar} {rs : List RV} (e : trRVs P l = some rs) : tailR rs = rs := by
  cases l with
  | nil => simp [trRVs] at e; subst e; rfl
  | cons r l =>
    simp only [trRVs] at e
    split at e
    · rename_i x y h1 h2
      simp at e; subst e
      cases r with
      | tmp t => simp [trRV] at h1; subst h1; rfl
      | cell a t =>
        simp only [trRV] at h1
        split at h1
        · split at h1
          · simp at h1; subst h1; rfl
          · cases h1
        · cases h1
    · cases e
theorem leave_ok (s : SI σ im0 lm w0.heap.size w0 nt im own st a w) {rvs : List RV} {r : Res} (he : leave lm.length st rvs = some r) :
    ∃ vs, resL st (tailR rvs) = some vs ∧ ∀ cv, VR σ im w.heap own (one vs) cv → RES σ im0 w0 lm r (.returned cv) w := by
  unfold leave at he
  split at he
  · exact leaveF_ok s he
  · rename_i hne
    have : tailR rvs = rvs := by
      unfold tailR
      split
      · exact absurd rfl (hne _ _)
      · rfl
    rw [this]; exact leaveO_ok s he
end
end Go.Rv
namespace Go.Rv
section
variable {P : Program} {σ : Num}
def LawOK (P : Program) (σ : Num) (k : FuncId) (g : List AV → Option AV) : Prop :=
  ∀ (args : List AV) (v : AV), g args = some v → ∀ (im : Nat → Prop) (w : World) (cargs : List Value), args.length = cargs.length →
    (∀ (j : Nat) (x : AV) (v : Value), args[j]? = some x → cargs[j]? = some v → ArgR σ im w.heap x v) → (∀ b, im b → b < w.heap.size) →
    Calls P k cargs.toArray w (RES σ im w (lentB args cargs) ⟨v, [], []⟩)
def TabOK (P : Program) (σ : Num) (T : Tab) : Prop :=
  ∀ k g mf, σ k = some g → T g = some mf →
    (∃ l, mf = .law l ∧ LawOK P σ k l) ∨ (∃ fn kill uno live fz, P.funcs[k]? = some fn ∧ trF σ P kill uno live fz fn = some mf)
theorem fun_ok (hm : P.follows .mixedOrders = true) (hσ : SigOK P σ) {T : Tab} (hT : TabOK P σ T) : ∀ n, CallOK P σ (evF T n)
  | 0 => fun f g args r _ he => by simp [evF] at he
  | n + 1 => by
    intro f g args r hf he im w cargs hl hr him hnd
    have ih := fun_ok hm hσ hT n
    simp only [evF] at he
    split at he
    case h_1 => cases he
    · -- known otherwise
      rename_i l hTg
      split at he
      case h_2 => cases he
      rename_i v hv
      simp at he; subst he
      rcases hT f g _ hf hTg with ⟨l', e, hlaw⟩ | ⟨fn, kill, uno, live, fz, _, e⟩
      · simp at e; subst e
        exact hlaw args v hv im w cargs hl hr him
      · exfalso
        unfold trF at e
        split at e
        · cases e
        · split at e
          · split at e <;> simp at e
          · cases e
    · rename_i np body rs hTg
      split at he
      case isFalse => cases he
      rename_i hnp
      rcases hT f g _ hf hTg with ⟨l', e, _⟩ | ⟨fn, kill, uno, live, fz, hfn, e⟩
      · cases e
      unfold trF at e
      split at e
      · cases e
      rename_i c hb
      split at e
      case h_2 => cases e
      rename_i m rs' htc htr
      split at e
      case isFalse => cases e
      rename_i hsz
      simp only [Option.some.injEq, MF.code.injEq] at e
      obtain ⟨rfl, rfl, rfl⟩ := e
      obtain ⟨own, s⟩ := start_ok (nt := fn.ntmps) hl hr him hnd (by omega)
      have hent := (enter_ok args cargs 0 0 hl hr).1
      refine calls_of_wp hfn hb ?_
      split at he
      · cases he
      · rename_i ex st' hne hev
        rw [hent] at he
        refine code_ok hm hσ ih c _ htc _ st' ex hev im own _ w s _ fun im1 own1 a1 w1 s1 => ?_
        obtain ⟨vs, hvs, hres⟩ := leave_ok s1 he
        have hvs' : resL st' rs' = some vs := by
          cases fz with
          | some z => exact hvs
          | none =>
            have h3 : resL st' (tailR rs') = some vs := hvs
            rw [trRVs_tail htr] at h3; exact h3
        obtain ⟨cv, h1, h2⟩ := results_ok s1 htr hvs'
        have hp : a1.defers = [] ∧ ∃ v, (results fn a1.tmps).run P w1 = .ok v w1 ∧ RES σ im w (lentB args cargs) r (.returned v) w1 := ⟨s1.defers, cv, h1, hres cv h2⟩
        cases ex with
        | nrm => exact hp
        | exit id => exact absurd rfl (hne id)
        | ret => exact hp
      · cases he
end
end Go.Rv
namespace Go.Rv
def CallF.le (c d : CallF) : Prop := ∀ f args r, c f args = some r → d f args = some r
section
variable {c d : CallF} {fr : Fr} {loc loc' : Loc}
theorem doCall_mono (h : c.le d) {f : Nat} {args : List AV} {x : AV × Loc} (e : doCall c loc f args = some x) : doCall d loc f args = some x := by
  unfold doCall at e ⊢
  split at e
  case h_1 => cases e
  rename_i fargs hf
  split at e
  case h_1 => cases e
  rename_i r hr
  simp only [h _ _ _ hr]
  exact e
theorem footCall_mono (h : c.le d) {f : Nat} {args : List AV} {x : AV × Loc} (e : doCall c loc f args = some x) : footCall d loc f args = footCall c loc f args := by
  unfold doCall at e
  unfold footCall
  split at e
  case h_1 => cases e
  rename_i fargs hf
  split at e
  case h_1 => cases e
  rename_i r hr
  simp only [h _ _ _ hr]
theorem evOp_mono (h : c.le d) (i : I) {x : AV × Loc} (e : evOp c fr loc i = some x) : evOp d fr loc i = some x := by
  cases i
  case call f l => exact doCall_mono h e
  case callv f l =>
    simp only [evOp] at e ⊢
    split at e
    · rename_i g caps hg
      exact doCall_mono h e
    · cases e
  all_goals exact e
theorem foot_mono (h : c.le d) (i : I) {x : AV × Loc} (e : evOp c fr loc i = some x) : foot d fr loc i = foot c fr loc i := by
  cases i
  case call f l => exact footCall_mono h e
  case callv f l =>
    simp only [evOp] at e
    simp only [foot]
    split at e
    · rename_i g caps hg
      exact footCall_mono h e
    · cases e
  all_goals rfl
theorem evMO_mono (h : c.le d) {o : MO} {st st' : St} (e : evMO c o st = some st') : evMO d o st = some st' ∧ footMO d o st st' = footMO c o st st' := by
  unfold evMO at e ⊢
  unfold footMO
  split at e
  · rename_i hg
    split at e
    case h_2 => cases e
    rename_i v l hv
    simp only [evOp_mono h _ hv, foot_mono h _ hv]
    exact ⟨e, trivial⟩
  · rename_i g want hg
    split at e
    · rename_i t ht
      split at e
      · rename_i htw
        split at e
        case h_2 => cases e
        rename_i v l hv
        simp only [ht, htw, if_true, evOp_mono h _ hv, foot_mono h _ hv]
        exact ⟨e, trivial⟩
      · rename_i htw
        simp only [ht, htw, if_false]
        refine ⟨e, ?_⟩
        have : (t == want) = false := by simpa using htw
        simp [this]
    · rename_i ht
      simp only [ht]
      exact ⟨e, rfl⟩
    · cases e
theorem evOps_mono (h : c.le d) : ∀ (l : List MO) {st st' : St}, evOps c l st = some st' → evOps d l st = some st'
  | [], _, _, e => e
  | o :: r, st, st', e => by
    simp only [evOps] at e ⊢
    split at e
    case h_2 => cases e
    rename_i st1 h1
    rw [(evMO_mono h h1).1]
    exact evOps_mono h r e
theorem evFeet_mono (h : c.le d) : ∀ (l : List MO) {st : St} {x : St × List Foot}, evFeet c l st = some x → evFeet d l st = some x
  | [], _, _, e => e
  | o :: r, st, x, e => by
    simp only [evFeet] at e ⊢
    split at e
    case h_2 => cases e
    rename_i st1 h1
    split at e
    case h_2 => cases e
    rename_i st2 fs h2
    obtain ⟨k1, k2⟩ := evMO_mono h h1
    simp only [k1, evFeet_mono h r h2, k2]
    exact e
theorem evDraw_mono (h : c.le d) {l : List MO} {st st' : St} (e : evDraw c l st = some st') : evDraw d l st = some st' := by
  unfold evDraw at e ⊢
  split at e
  case h_2 => cases e
  rename_i st1 fs h1
  rw [evFeet_mono h l h1]
  exact e
theorem iter_mono {s t : St → Option (Ex × St)} (h : ∀ st x, s st = some x → t st = some x) (pre : St → St) : ∀ (n k : Nat) {st : St} {x : Ex × St}, n ≤ k → iter s pre n st = some x → iter t pre k st = some x
  | 0, _, _, _, _, e => by cases e
  | n + 1, 0, _, _, hk, _ => by omega
  | n + 1, k + 1, st, x, hk, e => by
    simp only [iter] at e ⊢
    split at e
    · rename_i st1 h1
      rw [h _ _ h1]
      exact iter_mono h pre n k (by omega) e
    · rename_i hne
      rw [h _ _ e]
      split
      · rename_i st1 heq
        exact absurd (e.trans heq) (hne st1)
      · rfl
theorem evC_mono (h : c.le d) {m k : Nat} (hk : m ≤ k) : ∀ (x : MC) {st : St} {y : Ex × St}, evC c m x st = some y → evC d k x st = some y
  | .skip, _, _, e => e
  | .ret, _, _, e => e
  | .exit _, _, _, e => e
  | .bad, _, _, e => by cases e
  | .reg ops draw kill, st, y, e => by
    simp only [evC] at e ⊢
    cases draw with
    | true =>
      simp only [if_true] at e ⊢
      split at e
      case h_2 => cases e
      rename_i st1 h1
      rw [evDraw_mono h h1]; exact e
    | false =>
      simp only [Bool.false_eq_true, if_false] at e ⊢
      split at e
      case h_2 => cases e
      rename_i st1 h1
      rw [evOps_mono h _ h1]; exact e
  | .seq a b, st, y, e => by
    simp only [evC] at e ⊢
    split at e
    · rename_i st1 h1
      rw [evC_mono h hk a h1]
      exact evC_mono h hk b e
    · rename_i hne
      rw [evC_mono h hk a e]
      split
      · rename_i st1 heq
        exact absurd (e.trans heq) (hne st1)
      · rfl
  | .cond a x z, st, y, e => by
    simp only [evC] at e ⊢
    split at e
    · rename_i t ht
      split at e
      · rename_i htt; simp only [htt, if_true]; exact evC_mono h hk x e
      · rename_i htt; simp only [htt]; exact evC_mono h hk z e
    · cases e
  | .block id x, st, y, e => by
    simp only [evC] at e ⊢
    split at e
    · rename_i j st1 h1
      rw [evC_mono h hk x h1]; exact e
    · rename_i hne
      rw [evC_mono h hk x e]
      split
      · rename_i j st1 heq
        exact absurd (e.trans heq) (hne j st1)
      · rfl
  | .loop key live out x, st, y, e => by
    simp only [evC] at e ⊢
    split at e
    case h_2 => cases e
    rename_i ex st1 h1
    rw [iter_mono (fun st z hz => evC_mono h hk x hz) _ m k hk h1]
    exact e
theorem evF_step (T : Tab) : ∀ n, (evF T n).le (evF T (n + 1))
  | 0 => fun f args r e => by cases e
  | n + 1 => fun f args r e => by
    rw [evF] at e ⊢
    split at e
    · cases e
    · exact e
    · split at e
      case isFalse => cases e
      rename_i hl
      rw [if_pos hl]
      split at e
      · cases e
      · rename_i ex st hne hev
        rw [evC_mono (evF_step T n) (Nat.le_succ n) _ hev]
        split
        · rename_i j st1 heq
          simp only [Option.some.injEq, Prod.mk.injEq] at heq
          exact absurd heq.1 (fun h => hne j h)
        · rename_i ex' st1 _ heq
          simp only [Option.some.injEq, Prod.mk.injEq] at heq
          rw [← heq.2]; exact e
        · rename_i heq; cases heq
      · cases e
theorem evF_le (T : Tab) {n m : Nat} (h : n ≤ m) : (evF T n).le (evF T m) := by
  induction h with
  | refl => exact fun _ _ _ e => e
  | step _ ih => exact fun f args r e => evF_step T _ f args r (ih f args r e)
end
end Go.Rv
