import Derived.Test.YtagmandhpdjneaaVgOne
import Derived.Orders
set_option linter.unusedVariables false
/-
  A VERIFIED VC GENERATOR, part L: store into rows; copy; alloc, box, build, make.
-/
namespace Go.Vg
open Go

section
variable {P : Program} {C : Ctx} {A A' : Nat → Prop} {β : Nat → Value} {st : St} {a : Act} {w : World} {T : Tab}

theorem purL_rel (hB : RelB C A β st a w) (hA : ∀ b, A b → A' b) : ∀ (xs : List AV) (vs : List Value), AVrels w A β vs xs → (∀ k ∈ (purL st.h xs).2, ∀ b, blkOf (β k) = some b → A' b) →
    AVrels w A' β vs (purL st.h xs).1 ∧ ∀ k ∈ (purL st.h xs).2, ∃ e row l fr, st.h k = some (.row e row l fr)
  | [], vs, h, _ => by simp only [AVrels] at h; subst h; simp [purL, AVrels]
  | x :: xs, vs, h, hks => by
    simp only [AVrels] at h
    obtain ⟨v, vs', rfl, h1, h2⟩ := h
    simp only [purL] at hks ⊢
    obtain ⟨p1, p2⟩ := pur1_rel hB h1 hA (fun k hk => hks k (by simp [hk]))
    obtain ⟨q1, q2⟩ := purL_rel hB hA xs vs' h2 (fun k hk => hks k (by simp [hk]))
    refine ⟨by simp only [AVrels]; exact ⟨v, vs', rfl, p1, q1⟩, fun k hk => ?_⟩
    rcases List.mem_append.1 hk with hk | hk
    · exact p2 k hk
    · exact q2 k hk

theorem pur_rel (hB : RelB C A β st a w) (hA : ∀ b, A b → A' b) (x : AV) (v : Value) (h : AVrel w A β v x) (hks : ∀ k ∈ (pur st.h x).2, ∀ b, blkOf (β k) = some b → A' b) :
    AVrel w A' β v (pur st.h x).1 ∧ ∀ k ∈ (pur st.h x).2, ∃ e row l fr, st.h k = some (.row e row l fr) := by
  unfold pur at hks ⊢
  split at hks
  · rename_i cs
    simp only [AVrel] at h
    obtain ⟨arr, rfl, h⟩ := h
    obtain ⟨p1, p2⟩ := purL_rel hB hA cs _ h hks
    exact ⟨by simp only [AVrel]; exact ⟨arr, rfl, p1⟩, p2⟩
  · exact pur1_rel hB h hA hks

theorem purs_rel (hB : RelB C A β st a w) (hA : ∀ b, A b → A' b) : ∀ (xs : List AV) (vs : List Value), AVrels w A β vs xs → (∀ k ∈ (purs st.h xs).2, ∀ b, blkOf (β k) = some b → A' b) →
    AVrels w A' β vs (purs st.h xs).1 ∧ ∀ k ∈ (purs st.h xs).2, ∃ e row l fr, st.h k = some (.row e row l fr)
  | [], vs, h, _ => by simp only [AVrels] at h; subst h; simp [purs, AVrels]
  | x :: xs, vs, h, hks => by
    simp only [AVrels] at h
    obtain ⟨v, vs', rfl, h1, h2⟩ := h
    simp only [purs] at hks ⊢
    obtain ⟨p1, p2⟩ := pur_rel hB hA x v h1 (fun k hk => hks k (by simp [hk]))
    obtain ⟨q1, q2⟩ := purs_rel hB hA xs vs' h2 (fun k hk => hks k (by simp [hk]))
    refine ⟨by simp only [AVrels]; exact ⟨v, vs', rfl, p1, q1⟩, fun k hk => ?_⟩
    rcases List.mem_append.1 hk with hk | hk
    · exact p2 k hk
    · exact q2 k hk

theorem purL_length {h : Heap} : ∀ (xs : List AV), (purL h xs).1.length = xs.length
  | [] => rfl
  | x :: xs => by simp [purL, purL_length xs]
theorem pur_cells_length {h : Heap} (x : AV) : (pur h x).1.cells.length = x.cells.length := by
  unfold pur
  split
  · simp [AV.cells, purL_length]
  · rename_i hna
    have hz : x.cells.length = 1 := by cases x <;> first | rfl | exact absurd rfl (hna _)
    rw [hz]
    unfold pur1
    split
    · split <;> rfl
    · split <;> rfl
    · split
      · rename_i sz _ _ _ _ rr _ _ _; cases Nat.beq sz rr.length <;> rfl
      · rfl
    · exact hz

/-- the cells of a value that becomes part of a row -/
theorem cells_row {x : AV} {v : Value} (h : AVrel w A β v x) {row : List Ty} {r r' : Row row} {cs : List Value} {j : Nat} (hr : RdV w A row cs r) (hs : setRows row r j x.cells = some r') :
    AVrels w A β v.cells.toList x.cells ∧ RdV w A row (cs.take j ++ v.cells.toList ++ cs.drop (j + v.cells.toList.length)) r' ∧ (∀ u ∈ v.cells.toList, u.oneCell' = true) ∧ (v.cells.toList ≠ [] → j + v.cells.toList.length ≤ cs.length) ∧ v.cells.size = x.cells.length := by
  have key : ∀ us, AVrels w A β us x.cells → RdV w A row (cs.take j ++ us ++ cs.drop (j + us.length)) r' ∧ (∀ u ∈ us, u.oneCell' = true) ∧ (us ≠ [] → j + us.length ≤ cs.length) := by
    intro us hus
    obtain ⟨f1, f2⟩ := setRows_rel row x.cells r j cs us r' hr hus hs
    exact ⟨f1, fun u hu => RdV_one row _ r' f1 u (by simp [hu]), f2⟩
  by_cases hx : ∃ cs, x = .agg cs
  · obtain ⟨xs, rfl⟩ := hx
    simp only [AVrel] at h
    obtain ⟨arr, rfl, h⟩ := h
    obtain ⟨k1, k2, k3⟩ := key arr.toList h
    exact ⟨h, k1, k2, k3, by simpa [Value.cells, AV.cells] using AVrels_length xs _ h⟩
  · have hc : x.cells = [x] := by cases x <;> first | rfl | exact absurd ⟨_, rfl⟩ hx
    have hus : AVrels w A β [v] x.cells := by rw [hc]; simp only [AVrels]; exact ⟨v, [], rfl, h, rfl⟩
    obtain ⟨k1, k2, k3⟩ := key [v] hus
    have h1 := k2 v (by simp)
    rw [cells_one h1]
    exact ⟨hus, k1, k2, k3, by rw [hc]; rfl⟩

/-- a row of ours with element i's cells from j on replaced -/
theorem row_set {row : List Ty} {l : List (Row row)} {i j : Nat} {cur : Array Value} {us : List Value} {y : Row row} (hi : i < l.length) (hL : RdL (RdV w A row) (cur.toList.take (l.length * row.length)) l)
    (hy : ∀ c, RdV w A row c l[i] → RdV w A row (c.take j ++ us ++ c.drop (j + us.length)) y ∧ (us ≠ [] → j + us.length ≤ c.length)) (hcs : l.length * row.length ≤ cur.size) :
    let new := (cur.toList.take (i * row.length + j) ++ us ++ cur.toList.drop (i * row.length + j + us.length)).toArray
    new.size = cur.size ∧ RdL (RdV w A row) (new.toList.take (l.length * row.length)) (l.set i y) ∧ i * row.length + j + us.length ≤ cur.size ∨ us = [] := by
  intro new
  by_cases hus : us = []
  · exact .inr hus
  left
  obtain ⟨c1, c, c2, e1, e2, e3, e4, e5⟩ := RdL_get l _ i hi hL
  obtain ⟨f1, f2⟩ := hy c e3
  have f2 := f2 hus
  have hc := RdV_length row c _ e3
  have hcl : (cur.toList.take (l.length * row.length)).length = l.length * row.length := by rw [List.length_take]; simp; omega
  have hlt : i * row.length + row.length ≤ l.length * row.length := by
    have : (i + 1) * row.length ≤ l.length * row.length := Nat.mul_le_mul_right _ hi
    rwa [Nat.add_mul, Nat.one_mul] at this
  have hfit : i * row.length + j + us.length ≤ cur.size := by omega
  refine ⟨by simp [new]; omega, ?_, hfit⟩
  have hsplit : cur.toList = c1 ++ (c ++ c2) ++ cur.toList.drop (l.length * row.length) := by rw [← e1, List.take_append_drop]
  have hnew : new.toList = c1 ++ ((c.take j ++ us ++ c.drop (j + us.length)) ++ c2) ++ cur.toList.drop (l.length * row.length) := by
    have t1 : cur.toList.take (i * row.length + j) = c1 ++ c.take j := by
      rw [hsplit, ← e2, List.append_assoc, List.take_length_add_append, List.append_assoc, List.take_append_of_le_length (by omega)]
    have t2 : cur.toList.drop (i * row.length + j + us.length) = c.drop (j + us.length) ++ c2 ++ cur.toList.drop (l.length * row.length) := by
      conv => lhs; rw [hsplit]
      rw [show i * row.length + j + us.length = c1.length + (j + us.length) by omega, List.append_assoc, List.drop_length_add_append, List.append_assoc, List.drop_append_of_le_length (by omega), List.append_assoc]
    simp only [new, t1, t2]
    simp
  rw [hnew]
  have hlen2 : (c1 ++ ((c.take j ++ us ++ c.drop (j + us.length)) ++ c2)).length = l.length * row.length := by
    have := congrArg List.length e1
    rw [hcl] at this
    simp at this ⊢
    omega
  rw [← hlen2, List.take_left]
  have hset : l.set i y = l.take i ++ (y :: l.drop (i + 1)) := by
    rw [List.set_eq_take_append_cons_drop, if_pos hi]
  rw [hset]
  exact RdL_append _ _ _ _ e4 ⟨_, c2, rfl, f1, e5⟩

theorem sound_store_elem (hT : TabOk T P) (hB : RelB C A β st a w) {dst : Option Nat} (hd : ∀ t, dst = some t → t < st.n) {t : TypeId} {k sz i j : Nat} {x : AV} {vp vx : Value} (hp : AVrel w A β vp (.elem k sz i j)) (hx : AVrel w A β vx x) {out : Out}
    (h : actStore T st.h t (.elem k sz i j) x = some out) (hc : ∀ p ∈ out.cond, p) : ∃ w', (Instr.storeAt t vp vx).run P w = .ok () w' ∧ Rel C (st.put dst out) (a.put dst undef) w' := by
  simp only [actStore] at h
  split at h
  · rename_i e row l hk
    cases hq : (Nat.beq sz row.length && sizeIs T t x.cells.length && Nat.blt 0 x.cells.length) with
    | false => simp [hq] at h
    | true =>
      simp only [hq, cond_true] at h
      simp only [Bool.and_eq_true] at hq
      obtain ⟨⟨q1, q2⟩, q3⟩ := hq
      have q3 := Nat.le_of_ble_eq_true q3
      have q1 := Nat.eq_of_beq_eq_true q1
      subst q1
      split at h
      · rename_i y hy
        cases hel : (pur st.h x).2.elem k with
        | true => rw [hel] at h; simp at h
        | false =>
          rw [hel] at h
          simp only [cond_false, Option.some.injEq] at h
          subst h
          have hi : i < l.length := mem0 hc
          rw [getD_eq l _ _ hi] at hy
          simp only [AVrel] at hp
          obtain ⟨b, m, cap, hβ, rfl⟩ := hp
          rcases own_slice hB hk with ⟨_, hl⟩ | ⟨b', cap', cur, hv, hg, hle, hmx, hcs, hL, hnA⟩
          · subst hl; simp at hi
          · rw [hβ] at hv
            simp only [Value.slice.injEq, Option.some.injEq, Addr.mk.injEq, and_true] at hv
            obtain ⟨rfl, rfl, rfl⟩ := hv
            simp only [Bool.false_eq_true, if_false] at hnA
            have hb : blkOf (β k) = some b := by rw [hβ]; rfl
            obtain ⟨ii, hii, hisz⟩ := sizeIs_ok hT q2
            let A1 : Nat → Prop := fun b' => A b' ∨ ∃ j ∈ (pur st.h x).2, blkOf (β j) = some b'
            obtain ⟨px, pk⟩ := pur_rel (A' := A1) hB (fun b h => .inl h) x vx hx (fun k hk b hb => .inr ⟨k, hk, hb⟩)
            have hKA : Keeps w w A A1 := fun b h => ⟨.inl h, rfl⟩
            have hL1 : RdL (RdV w A1 row) (cur.toList.take (l.length * row.length)) l := RdL_mono (fun c x hx => RdV_mono hKA row c x hx) l _ hL
            have hrowlen : l.length * row.length ≤ cur.size := by rw [hcs]; exact Nat.mul_le_mul_right _ hle
            have hyy : ∀ c, RdV w A1 row c l[i] → RdV w A1 row (c.take j ++ vx.cells.toList ++ c.drop (j + vx.cells.toList.length)) y ∧ (vx.cells.toList ≠ [] → j + vx.cells.toList.length ≤ c.length) :=
              fun c hc => let h := cells_row px hc hy; ⟨h.2.1, h.2.2.2.1⟩
            obtain ⟨c1, c, c2, e1, e2, e3, e4, e5⟩ := RdL_get l _ i hi hL1
            have hcr := cells_row px e3 hy
            have hsize : vx.cells.size = ii.size := by
              have h1 := hcr.2.2.2.2
              have h2 := pur_cells_length (h := st.h) x
              omega
            rcases row_set hi hL1 hyy hrowlen with ⟨g1, g2, g3⟩ | hus
            · refine ⟨_, run_storeAt hii hsize hcr.2.2.1 hg (by simpa using g3), ?_⟩
              refine hB.write hd (k := k) (fz := (pur st.h x).2) (ab := .row e row (l.set i y) false) (by simp [hk]) hb hnA hg ⟨rfl, rfl, rfl⟩ (fun q hq => ⟨?_, pk q hq⟩) ?_ (by simp [AVrel])
              · rintro rfl; rw [List.elem_eq_mem] at hel; simp [hq] at hel
              · intro A2 h1 h2 h3
                have hK : Keeps w (w.setRow b (cur.toList.take (i * row.length + j) ++ vx.cells.toList ++ cur.toList.drop (i * row.length + j + vx.cells.toList.length)).toArray) A1 A2 := by
                  intro b' hb'
                  rcases hb' with hb' | ⟨q, hq, hbq⟩
                  · exact ⟨h1 b' hb', setRow_other w b b' _ (fun h' => hnA (h' ▸ hb'))⟩
                  · refine ⟨h3 q hq b' hbq, setRow_other w b b' _ (fun h' => ?_)⟩
                    subst h'
                    obtain ⟨e', row', l', fr', hr'⟩ := pk q hq
                    have : q = k := hB.apart q k b' (by simp [hr']) (by simp [hk]) hbq hb
                    subst this
                    rw [List.elem_eq_mem] at hel; simp [hq] at hel
                refine ⟨_, ⟨?_, .inr ⟨b, cap, _, by rw [hβ]; simp, by omega, setRow_heap w b cur _ e _ hg, by simpa using hle, hmx, g1.trans hcs, rfl⟩⟩, ?_, fun b' hb' => ?_⟩
                · rw [List.length_take]
                  refine Nat.min_eq_left ?_
                  rw [List.length_set]
                  exact Nat.le_trans hrowlen (Nat.le_of_eq g1.symm)
                · simp only [List.length_set]
                  exact RdL_mono (fun c x hx => RdV_mono hK row c x hx) _ _ g2
                · rw [hb] at hb'; simp only [Option.some.injEq] at hb'; subst hb'
                  simp only [Bool.false_eq_true, if_false]
                  intro hA2
                  rcases h2 _ hA2 with h | ⟨q, hq, hbq⟩
                  · exact hnA h
                  · obtain ⟨e', row', l', fr', hr'⟩ := pk q hq
                    have : q = k := hB.apart q k _ (by simp [hr']) (by simp [hk]) hbq hb
                    subst this
                    rw [List.elem_eq_mem] at hel; simp [hq] at hel
            · exfalso
              have h1 := hcr.2.2.2.2
              have h2 := pur_cells_length (h := st.h) x
              have h3 : vx.cells.size = 0 := by simpa using congrArg List.length hus
              omega
      · cases h
  · cases h
end
end Go.Vg
/-
  A VERIFIED VC GENERATOR, part M: alloc, box, build, make, copy, conversions.
-/
namespace Go.Vg
open Go

section
variable {P : Program} {C : Ctx} {A A' : Nat → Prop} {β : Nat → Value} {st : St} {a : Act} {w : World} {T : Tab}

theorem hfind_one {d k : Nat} {ab b : AB} (h : hfind [(d, ab)] k = some b) : k = d ∧ b = ab := by
  simp only [hfind] at h
  by_cases hk : k = d
  · subst hk; simp only [nbeq_true, cond_true, Option.some.injEq] at h; exact ⟨rfl, h.symm⟩
  · simp [nbeq_false hk] at h

theorem alloc_old (o : Obj) (k : Nat) (hk : k < w.heap.size) : (w.alloc o).heap[k]? = w.heap[k]? := heap_alloc_old w o k hk

/-- a new variable -/
theorem RelB.newCells (hB : RelB C A β st a w) {dst : Option Nat} (hd : ∀ t, dst = some t → t < st.n) {d e : Nat} {cs : List AV} {arr : Array Value} {cond : List Prop}
    (hdead : st.h d = none) (hrel : AVrels w A β arr.toList cs) (hone : ∀ v ∈ arr.toList, v.oneCell' = true) :
    RelB C A (setβ β d (.pointer (some ⟨w.heap.size, 0, none⟩))) (st.put dst { cond := cond, res := .ref d 0, new := [(d, .cells (scrubL d cs))] }) (a.put dst (.pointer (some ⟨w.heap.size, 0, none⟩))) (w.alloc (.cells arr e)) := by
  have hK : Keeps w (w.alloc (.cells arr e)) A A := fun b hb => ⟨hb, alloc_old _ b (hB.bound b hb)⟩
  have hβ : ∀ k, hfind [(d, AB.cells (scrubL d cs))] k = none → setβ β d (.pointer (some ⟨w.heap.size, 0, none⟩)) k = β k := by
    intro k h
    have : k ≠ d := by rintro rfl; simp [hfind] at h
    simp [setβ, this]
  refine hB.step (out := { cond := cond, res := .ref d 0, new := [(d, .cells (scrubL d cs))] }) hd ?_ (by simp [hfind]) hβ hK rfl rfl rfl (by simp) (fun b hb _ => alloc_old _ b hb) (fun b hb => by have := hB.bound b hb; simp; omega) (fun b hb => .inl hb) (by simp [hfind]) ?_ ?_ ?_ ?_
  · intro k b h; obtain ⟨rfl, _⟩ := hfind_one h; exact hdead
  · intro k ab h
    obtain ⟨rfl, rfl⟩ := hfind_one h
    refine ⟨w.heap.size, arr, e, by simp [setβ], heap_alloc_new w _, fun h => absurd (hB.bound _ h) (by omega), AVrels_scrub k _ _ _ (AVrels_mono hK _ _ hrel), hone⟩
  · intro k b ab h hb
    obtain ⟨rfl, _⟩ := hfind_one h
    simp only [setβ, if_true, blkOf, Option.some.injEq] at hb
    exact .inl (by omega)
  · intro k k' b h h' _ _
    obtain ⟨x, hx⟩ := Option.isSome_iff_exists.1 h
    obtain ⟨y, hy⟩ := Option.isSome_iff_exists.1 h'
    rw [(hfind_one hx).1, (hfind_one hy).1]
  · simp only [AVrel]
    exact ⟨w.heap.size, by simp [setβ], rfl⟩

theorem freezes_find {h : Heap} : ∀ (fz : List Nat) j x, hfind (freezes h fz) j = some x → j ∈ fz ∧ ∃ e row l fr, h j = some (.row e row l fr) ∧ x = .row e row l true := by
  intro fz
  induction fz with
  | nil => intro j x h; simp [freezes, hfind] at h
  | cons i fz ih =>
    intro j x h
    simp only [freezes] at h
    split at h
    · rename_i e row l fr hi
      simp only [hfind] at h
      by_cases hji : j = i
      · subst hji
        simp only [nbeq_true, cond_true, Option.some.injEq] at h
        exact ⟨by simp, e, row, l, fr, hi, h.symm⟩
      · simp only [nbeq_false hji, cond_false] at h
        obtain ⟨h1, h2⟩ := ih j x h
        exact ⟨by simp [h1], h2⟩
    · obtain ⟨h1, h2⟩ := ih j x h
      exact ⟨by simp [h1], h2⟩
theorem freezes_some {h : Heap} : ∀ (fz : List Nat) j, j ∈ fz → (∃ e row l fr, h j = some (.row e row l fr)) → (hfind (freezes h fz) j).isSome := by
  intro fz
  induction fz with
  | nil => intro j h; simp at h
  | cons i fz ih =>
    intro j h hr
    simp only [freezes]
    by_cases hji : j = i
    · subst hji
      obtain ⟨e, row, l, fr, hr⟩ := hr
      simp [hr, hfind]
    · have := ih j ((List.mem_cons.1 h).resolve_left hji) hr
      split
      · simp only [hfind, nbeq_false hji, cond_false]; exact this
      · exact this

/-- the blocks that count as given once the rows fz are handed on -/
def frozenA (A : Nat → Prop) (β : Nat → Value) (fz : List Nat) : Nat → Prop := fun b => A b ∨ ∃ j ∈ fz, blkOf (β j) = some b

theorem live_lt (hB : RelB C A β st a w) {j b' : Nat} (hj : (st.h j).isSome) (hb' : blkOf (β j) = some b') : b' < w.heap.size := by
  obtain ⟨ab, hab⟩ := Option.isSome_iff_exists.1 hj
  have hbr := hB.blocks j ab hab
  cases ab with
  | cells cs =>
    obtain ⟨b'', arr, e, h1, h2, _⟩ := hbr
    rw [h1] at hb'
    simp only [blkOf, Option.some.injEq] at hb'
    subst hb'
    exact (Array.getElem?_eq_some_iff.1 h2).1
  | row e row l fr =>
    obtain ⟨xs, h1, _⟩ := hbr
    rcases h1.2 with ⟨hn, _⟩ | ⟨g, cap, cur, hv, _, hg, _⟩
    · rw [hn] at hb'; simp [blkOf] at hb'
    · rw [hv] at hb'
      simp only [blkOf, Option.some.injEq] at hb'
      subst hb'
      exact (Array.getElem?_eq_some_iff.1 hg).1
  | views e j n m sz =>
    obtain ⟨xs, h1, _⟩ := hbr
    rcases h1.2 with ⟨hn, _⟩ | ⟨g, cap, cur, hv, _, hg, _⟩
    · rw [hn] at hb'; simp [blkOf] at hb'
    · rw [hv] at hb'
      simp only [blkOf, Option.some.injEq] at hb'
      subst hb'
      exact (Array.getElem?_eq_some_iff.1 hg).1

/-- a new row in new memory, of which rows of ours become a part -/
theorem RelB.newRowF (hB : RelB C A β st a w) {dst : Option Nat} (hd : ∀ t, dst = some t → t < st.n) {d e : Nat} {row : List Ty} {l : List (Row row)} {cond : List Prop} {fz : List Nat} {v' : Value} {w' : World} {xs : List Value}
    (hdead : st.h d = none) (hg : w.grownBy w' none) (hfz : ∀ j ∈ fz, ∃ e row l fr, st.h j = some (.row e row l fr))
    (hown : w'.ownsRow 0 e row.length v' l.length xs) (hrd : RdL (RdV w (frozenA A β fz) row) xs l) (hblk : ∀ b, blkOf v' = some b → w.heap.size ≤ b) :
    RelB C (frozenA A β fz) (setβ β d v') (st.put dst { cond := cond, res := .own d, upd := freezes st.h fz, new := [(d, .row e row l false)] }) (a.put dst v') w' := by
  have hbd : ∀ b, frozenA A β fz b → b < w.heap.size := by
    intro b h
    rcases h with h | ⟨j, hj, hb⟩
    · exact hB.bound b h
    · obtain ⟨e', r', l', f', hr⟩ := hfz j hj
      exact live_lt hB (by simp [hr]) hb
  have hK : Keeps w w' A (frozenA A β fz) := fun b hb => ⟨.inl hb, hg.block b (hB.bound b hb) (by simp)⟩
  have hK2 : Keeps w w' (frozenA A β fz) (frozenA A β fz) := fun b hb => ⟨hb, hg.block b (hbd b hb) (by simp)⟩
  have hβ : ∀ k, hfind [(d, AB.row e row l false)] k = none → setβ β d v' k = β k := by
    intro k h
    have : k ≠ d := by rintro rfl; simp [hfind] at h
    simp [setβ, this]
  refine hB.step (out := { cond := cond, res := .own d, upd := freezes st.h fz, new := [(d, .row e row l false)] }) hd ?_ ?_ hβ hK hg.os hg.tape hg.output hg.size (fun b hb _ => hg.block b hb (by simp)) (fun b hb => Nat.lt_of_lt_of_le (hbd b hb) hg.size) ?_ ?_ ?_ ?_ ?_ ?_
  · intro k b h; obtain ⟨rfl, _⟩ := hfind_one h; exact hdead
  · intro k b h; obtain ⟨_, _, _, _, _, h, _⟩ := freezes_find fz k b h; simp [h]
  · intro b h
    rcases h with h | ⟨j, hj, hb⟩
    · exact .inl h
    · have hr := hfz j hj
      exact .inr (.inr ⟨j, ⟨by obtain ⟨_, _, _, _, hr⟩ := hr; simp [hr], .inl (freezes_some fz j hj hr)⟩, hb⟩)
  · intro k ab h _
    obtain ⟨hk, e', row', l', fr', hr, rfl⟩ := freezes_find fz k ab h
    rw [scrubBs_row]
    have hkd : k ≠ d := by rintro rfl; rw [hdead] at hr; cases hr
    have hbk : setβ β d v' k = β k := by simp [setβ, hkd]
    obtain ⟨xs', h1, h2, h3⟩ := hB.blocks k _ hr
    simp only [BR, hbk]
    refine ⟨xs', ownsRow_keep h1 (fun b hb => hg.block b (live_lt hB (by simp [hr]) hb) (by simp)), RdL_mono (fun c x hx => RdV_mono hK row' c x hx) l' xs' h2, fun b hb => ?_⟩
    simp only [if_true]
    exact .inr ⟨k, hk, hb⟩
  · intro k ab h
    obtain ⟨rfl, rfl⟩ := hfind_one h
    refine ⟨xs, by simpa [setβ] using hown, RdL_mono (fun c x hx => RdV_mono hK2 row c x hx) l xs hrd, fun b hb => ?_⟩
    simp only [setβ, if_true] at hb
    simp only [Bool.false_eq_true, if_false]
    intro hA; exact absurd (hbd b hA) (by have := hblk b hb; omega)
  · intro k b ab h hb
    obtain ⟨rfl, _⟩ := hfind_one h
    simp only [setβ, if_true] at hb
    exact .inl (hblk b hb)
  · intro k k' b h h' _ _
    obtain ⟨x, hx⟩ := Option.isSome_iff_exists.1 h
    obtain ⟨y, hy⟩ := Option.isSome_iff_exists.1 h'
    rw [(hfind_one hx).1, (hfind_one hy).1]
  · simp only [AVrel, setβ, if_true, true_and]
    obtain ⟨ad, l', c, rfl⟩ := ownsRow_slice hown
    rfl

/-! ### alloc, box -/
theorem sound_alloc (hT : TabOk T P) (hB : RelB C A β st a w) {dst : Option Nat} (hd : ∀ t, dst = some t → t < st.n) {d : Nat} (hdead : st.h d = none) {t : TypeId} {te : TE} (ht : T.find t = some te) (hone : (ofConst te.zero).cells.all AV.one = true) :
    ∃ v' w', (Instr.alloc t true (.tuple #[])).run P w = .ok v' w' ∧ Rel C (st.put dst { cond := [], res := .ref d 0, new := [(d, .cells (scrubL d (ofConst te.zero).cells))] }) (a.put dst v') w' := by
  obtain ⟨hu, i, hi, hs, hb, hz⟩ := hT.ok t te ht
  obtain ⟨c1, c2, c3⟩ := cells_rel hone (ofConst_rel (w := w) (A := A) (β := β) te.zero)
  refine ⟨.pointer (some ⟨w.heap.size, 0, none⟩), w.alloc (.cells te.zero.cells t), ?_, Rel.ofB (hB.newCells hd hdead c1 c2)⟩
  simp [Instr.alloc, zeroValue, typeInfo, hi, hz, newVar, newRow]

theorem sound_box (hB : RelB C A β st a w) {dst : Option Nat} (hd : ∀ t, dst = some t → t < st.n) {d : Nat} (hdead : st.h d = none) {t : TypeId} {x : AV} {v : Value} (hx : AVrel w A β v x) (hone : x.cells.all AV.one = true) :
    ∃ v' w', (Instr.box t v).run P w = .ok v' w' ∧ Rel C (st.put dst { cond := [], res := .ref d 0, new := [(d, .cells (scrubL d x.cells))] }) (a.put dst v') w' := by
  obtain ⟨c1, c2, c3⟩ := cells_rel hone hx
  refine ⟨.pointer (some ⟨w.heap.size, 0, none⟩), w.alloc (.cells v.cells t), ?_, Rel.ofB (hB.newCells hd hdead c1 c2)⟩
  simp [Instr.box, newVar, newRow]

/-! ### build -/
theorem foldl_fill (off : Nat) : ∀ (l : List Value) (k : Nat) (arr : Array Value), off + k + l.length ≤ arr.size →
    ((l.zipIdx k).foldl (fun cs (x : Value × Nat) => cs.setIfInBounds (off + x.2) x.1) arr).toList = arr.toList.take (off + k) ++ l ++ arr.toList.drop (off + k + l.length)
  | [], k, arr, _ => by simp
  | v :: l, k, arr, h => by
    simp only [List.zipIdx_cons, List.foldl_cons]
    rw [foldl_fill off l (k + 1) _ (by simp at h ⊢; omega)]
    have e := list_seg_step arr.toList (off + k) v l (by simp at h ⊢; omega)
    simpa [Array.toList_setIfInBounds, Nat.add_assoc] using e

theorem fill_rel (place : Nat → Option (Nat × Nat)) : ∀ (parts : List (Nat × AV)) (vparts : List (Nat × Value)) (cs : List AV) (arr : Array Value) (r : List AV), AVrels w A β arr.toList cs →
    vparts.map (·.1) = parts.map (·.1) → AVrels w A β (vparts.map (·.2)) (parts.map (·.2)) → fills place cs parts = some r →
    ∃ arr', Instr.fill place arr vparts = some arr' ∧ AVrels w A β arr'.toList r
  | [], [], cs, arr, r, h, _, _, hr => by
    simp only [fills, Option.some.injEq] at hr; subst hr
    exact ⟨arr, rfl, h⟩
  | (i, x) :: parts, (i', v) :: vparts, cs, arr, r, h, hk, hv, hr => by
    simp only [List.map_cons, List.cons.injEq] at hk
    obtain ⟨hi, hk⟩ := hk
    subst hi
    simp only [List.map_cons, AVrels] at hv
    obtain ⟨v0, vs0, h0, h1, h2⟩ := hv
    simp only [List.cons.injEq] at h0
    obtain ⟨rfl, rfl⟩ := h0
    simp only [fills] at hr
    split at hr
    · cases hr
    · rename_i off size hp
      cases hq : (Nat.beq x.cells.length size && Nat.ble (off + size) cs.length && x.cells.all AV.one) with
      | false => simp [hq] at hr
      | true =>
        simp only [hq, cond_true] at hr
        simp only [Bool.and_eq_true] at hq
        obtain ⟨⟨q1, q2⟩, q3⟩ := hq
        have q1 := Nat.eq_of_beq_eq_true q1
        have q2 := Nat.le_of_ble_eq_true q2
        obtain ⟨c1, c2, c3⟩ := cells_rel q3 h1
        have hlen := AVrels_length cs _ h
        have hsp := AVrels_splice (off := off) h c1
        have hfold : (v.cells.zipIdx.foldl (fun cs (x : Value × Nat) => cs.setIfInBounds (off + x.2) x.1) arr).toList = arr.toList.take off ++ v.cells.toList ++ arr.toList.drop (off + v.cells.toList.length) := by
          have := foldl_fill off v.cells.toList 0 arr (by simp; simp at hlen; omega)
          simp only [Nat.add_zero] at this
          rw [← this, ← Array.foldl_toList, Array.toList_zipIdx]
        obtain ⟨arr', g1, g2⟩ := fill_rel place parts vparts _ (v.cells.zipIdx.foldl (fun cs (x : Value × Nat) => cs.setIfInBounds (off + x.2) x.1) arr) r (by rw [hfold]; exact hsp) hk h2 hr
        refine ⟨arr', ?_, g2⟩
        simp only [Instr.fill, hp]
        rw [if_neg (by simp; simp at hlen; omega)]
        exact g1
  | [], _ :: _, _, _, _, _, hk, _, _ => by simp at hk
  | _ :: _, [], _, _, _, _, hk, _, _ => by simp at hk
end
end Go.Vg
/-
  A VERIFIED VC GENERATOR, part N: build, buildSlice, make, copy, conversions.
-/
namespace Go.Vg
open Go

section
variable {P : Program} {C : Ctx} {A A' : Nat → Prop} {β : Nat → Value} {st : St} {a : Act} {w : World} {T : Tab}

theorem run_places (hT : TabOk T P) : ∀ (fs : List Field) (ps : List (Nat × Nat)), placesOf T fs = some ps →
    (List.mapM (m := Sem) (fun (f : Field) => do pure (f.offset, ← sizeOf f.type)) fs).run P w = .ok ps w
  | [], ps, h => by simp only [placesOf, Option.some.injEq] at h; subst h; simp
  | f :: fs, ps, h => by
    simp only [placesOf] at h
    split at h
    · rename_i te ps' ht hp
      simp only [Option.some.injEq] at h; subst h
      obtain ⟨_, i, hi, hs, _⟩ := hT.ok _ _ ht
      have ih := run_places hT fs ps' hp
      have h1 : (sizeOf f.type).run P w = .ok te.size w := by simp [sizeOf, typeInfo, hi, hs]
      simp only [List.mapM_cons, Sem.run_bind, h1, Result.andThen_ok, Sem.run_pure]
      rw [ih]
      rfl
    · cases h

theorem cells_const_rel (z : Value) : AVrels w A β z.cells.toList (ofConst z).cells := by
  have h := ofConst_rel (w := w) (A := A) (β := β) z
  by_cases hx : ∃ cs, ofConst z = .agg cs
  · obtain ⟨cs, hc⟩ := hx
    rw [hc] at h ⊢
    simp only [AVrel] at h
    obtain ⟨arr, rfl, h⟩ := h
    exact h
  · have hc : (ofConst z).cells = [ofConst z] := by
      cases hz : ofConst z <;> first | rfl | exact absurd ⟨_, hz⟩ hx
    have hz : z.cells = #[z] := by
      cases z <;> first | rfl | exact absurd ⟨_, rfl⟩ hx
    rw [hc, hz]
    simp only [AVrels]
    exact ⟨z, [], rfl, h, rfl⟩

theorem sound_build (hT : TabOk T P) {t : TypeId} {parts : List (Nat × AV)} {vparts : Array (Nat × Value)} (hk : vparts.toList.map (·.1) = parts.map (·.1)) (hv : AVrels w A β (vparts.toList.map (·.2)) (parts.map (·.2))) {out : Out}
    (h : actBuild T t parts = some out) : Reads P A β w (Instr.build t vparts) out := by
  unfold actBuild at h
  split at h
  · rename_i te ht
    obtain ⟨hu, i, hi, hs, hb, hz⟩ := hT.ok t te ht
    split at h
    · rename_i fs hd
      split at h
      · rename_i ps hp
        split at h
        · rename_i cs hf
          simp only [Option.some.injEq] at h; subst h
          obtain ⟨arr', g1, g2⟩ := fill_rel (fun i => ps[i]?) parts vparts.toList _ te.zero.cells cs (cells_const_rel te.zero) hk hv hf
          refine ⟨⟨rfl, rfl, rfl⟩, .agg arr', ?_, by simp only [AVrel]; exact ⟨arr', rfl, g2⟩⟩
          have hm := run_places (w := w) hT fs.toList ps hp
          rw [hd] at hu
          simp only [Instr.build, zeroValue, typeInfo, Sem.run_bind, run_program, Result.andThen_ok, hi, hz, Sem.run_pure, run_underlying hu, Array.mapM_eq_mapM_toList, Sem.run_map, hm]
          have e : (fun (x : Nat) => ps.toArray[x]?) = (fun (x : Nat) => ps[x]?) := by funext x; simp
          simp [g1]
        · cases h
      · cases h
    · rename_i n e hd
      split at h
      · rename_i ee he
        split at h
        · rename_i cs hf
          simp only [Option.some.injEq] at h; subst h
          obtain ⟨_, i2, hi2, hs2, _⟩ := hT.ok e ee he
          obtain ⟨arr', g1, g2⟩ := fill_rel (fun i => some (i * ee.size, ee.size)) parts vparts.toList _ te.zero.cells cs (cells_const_rel te.zero) hk hv hf
          refine ⟨⟨rfl, rfl, rfl⟩, .agg arr', ?_, by simp only [AVrel]; exact ⟨arr', rfl, g2⟩⟩
          rw [hd] at hu
          simp [Instr.build, zeroValue, typeInfo, hi, hz, run_underlying hu, sizeOf, hi2, hs2, g1]
        · cases h
      · cases h
    · cases h
  · cases h

theorem range_cells (z : Array Value) (hz : 0 < z.size) : ∀ n, (List.range (n * z.size)).map (fun i => z[i % z.size]!) = (List.replicate n z.toList).flatten
  | 0 => by simp
  | n + 1 => by
    rw [Nat.add_mul, Nat.one_mul, List.range_add, List.map_append, range_cells z hz n, List.replicate_succ', List.flatten_append]
    congr 1
    simp only [List.map_map, List.flatten_cons, List.flatten_nil, List.append_nil]
    apply List.ext_getElem
    · simp
    · intro i h1 h2
      simp at h1
      simp [Nat.add_mod, Nat.mod_eq_of_lt h1, h1]

theorem AVrels_replicate {vs : List Value} {xs : List AV} (h : AVrels w A β vs xs) : ∀ n, AVrels w A β (List.replicate n vs).flatten (List.replicate n xs).flatten
  | 0 => by simp [AVrels]
  | n + 1 => by
    simp only [List.replicate_succ, List.flatten_cons]
    exact AVrels_append _ _ _ _ h (AVrels_replicate h n)

theorem toRows_rel (ts : List Ty) : ∀ (n : Nat) (xs : List AV) (vs : List Value) (l : List (Row ts)), AVrels w A β vs xs → toRows ts n xs = some l → RdL (RdV w A ts) vs l ∧ l.length = n
  | 0, [], vs, l, h, hl => by
    simp only [toRows, Option.some.injEq] at hl; subst hl
    simp only [AVrels] at h; subst h
    simp [RdL]
  | 0, _ :: _, _, _, _, hl => by simp [toRows] at hl
  | n + 1, xs, vs, l, h, hl => by
    simp only [toRows] at hl
    split at hl
    · rename_i x l' hx hl'
      simp only [Option.some.injEq] at hl; subst hl
      obtain ⟨s1, s2⟩ := AVrels_split xs vs ts.length h
      obtain ⟨g1, g2⟩ := toRows_rel ts n _ _ l' s2 hl'
      exact ⟨⟨_, _, (List.take_append_drop _ _).symm, toRow_rel ts _ _ x s1 hx, g1⟩, by simp [g2]⟩
    · cases hl

theorem purP_rel (hB : RelB C A β st a w) (hA : ∀ b, A b → A' b) : ∀ (ps : List (Nat × AV)) (vs : List Value), AVrels w A β vs (ps.map (·.2)) → (∀ k ∈ (purP st.h ps).2, ∀ b, blkOf (β k) = some b → A' b) →
    AVrels w A' β vs ((purP st.h ps).1.map (·.2)) ∧ (purP st.h ps).1.map (·.1) = ps.map (·.1) ∧ ∀ k ∈ (purP st.h ps).2, ∃ e row l fr, st.h k = some (.row e row l fr)
  | [], vs, h, _ => by simp only [List.map_nil, AVrels] at h; subst h; simp [purP, AVrels]
  | (i, x) :: ps, vs, h, hks => by
    simp only [List.map_cons, AVrels] at h
    obtain ⟨v, vs', rfl, h1, h2⟩ := h
    simp only [purP] at hks ⊢
    obtain ⟨p1, p2⟩ := pur_rel hB hA x v h1 (fun k hk => hks k (by simp [hk]))
    obtain ⟨q1, q2, q3⟩ := purP_rel hB hA ps vs' h2 (fun k hk => hks k (by simp [hk]))
    refine ⟨by simp only [List.map_cons, AVrels]; exact ⟨v, vs', rfl, p1, q1⟩, by simp [q2], fun k hk => ?_⟩
    rcases List.mem_append.1 hk with hk | hk
    · exact p2 k hk
    · exact q3 k hk

theorem sound_buildSlice (hT : TabOk T P) (hB : RelB C A β st a w) {dst : Option Nat} (hd : ∀ t, dst = some t → t < st.n) {d : Nat} (hdead : st.h d = none) {t : TypeId} {len : Nat} {parts : List (Nat × AV)} {vparts : Array (Nat × Value)}
    (hk : vparts.toList.map (·.1) = parts.map (·.1)) (hv : AVrels w A β (vparts.toList.map (·.2)) (parts.map (·.2))) {out : Out}
    (h : actBuildSlice T st.h d t len parts = some out) : ∃ v' w', (Instr.buildSlice t len vparts).run P w = .ok v' w' ∧ Rel C (st.put dst out) (a.put dst v') w' := by
  unfold actBuildSlice at h
  split at h
  · rename_i e te he hte
    split at h
    · rename_i row hrow
      obtain ⟨hu, hfe, i, hi, hisz, hib, hiz⟩ := elem_ok hT he hte
      cases hq : (Nat.beq row.length te.size && Nat.blt 0 te.size && Nat.beq (ofConst te.zero).cells.length te.size && Nat.ble (len * te.size) 16777216) with
      | false => simp [hq] at h
      | true =>
        simp only [hq, cond_true] at h
        simp only [Bool.and_eq_true] at hq
        obtain ⟨⟨⟨q1, q2⟩, q3⟩, q4⟩ := hq
        have q1 := Nat.eq_of_beq_eq_true q1
        have q2 := Nat.le_of_ble_eq_true q2
        have q3 := Nat.eq_of_beq_eq_true q3
        have q4 := Nat.le_of_ble_eq_true q4
        split at h
        · rename_i cs hf
          split at h
          · rename_i l hl
            simp only [Option.some.injEq] at h; subst h
            have hzs : te.zero.cells.size = te.size := by rw [← cells_ofConst]; exact q3
            obtain ⟨p1, p2, p3⟩ := purP_rel (A' := frozenA A β (purP st.h parts).2) hB (fun b h => .inl h) parts _ hv (fun k hk b hb => .inr ⟨k, hk, hb⟩)
            have hcells : (((Array.range (len * i.size)).map (te.zero.cells[· % te.zero.cells.size]!)).toList) = (List.replicate len te.zero.cells.toList).flatten := by
              have := range_cells te.zero.cells (by omega) len
              rw [hzs] at this
              simp [hisz, hzs, this]
            obtain ⟨arr', g1, g2⟩ := fill_rel (w := w) (A := frozenA A β (purP st.h parts).2) (β := β) (fun i => some (i * te.size, te.size)) _ vparts.toList _ ((Array.range (len * i.size)).map (te.zero.cells[· % te.zero.cells.size]!)) cs
              (by rw [hcells]; exact AVrels_replicate (cells_const_rel te.zero) len) (hk.trans p2.symm) p1 hf
            obtain ⟨f1, f2⟩ := toRows_rel row len cs _ l g2 hl
            have hlen := RdL_length l _ f1
            have hrun : (Instr.buildSlice t len vparts).run P w = .ok (.slice (some ⟨w.heap.size, 0, none⟩) len len) (w.alloc (.cells arr' e)) := by
              have h24 : ¬ (16777216 < len * i.size) := by rw [hisz]; omega
              by_cases hz : len * i.size = 0
              · have hln : len = 0 := by
                  rcases Nat.mul_eq_zero.1 hz with h | h
                  · exact h
                  · omega
                subst hln
                rw [hisz] at g1
                simp only [Nat.zero_mul] at g1
                simp [Instr.buildSlice, run_underlying hu, sizeOf, typeInfo, hi, hisz, newRow]
                have e0 : ∀ f : Nat → Value, (Array.range 0).map f = #[] := fun f => by apply Array.eq_empty_of_size_eq_zero; simp
                rw [e0] at g1
                rw [e0, g1]
                simp
              · rw [← hisz] at g1
                simp [Instr.buildSlice, run_underlying hu, sizeOf, typeInfo, zeroValue, hi, hiz, h24, hz, g1, newRow]
            refine ⟨_, _, hrun, Rel.ofB (hB.newRowF hd hdead (xs := arr'.toList) ⟨rfl, rfl, rfl, by simp, fun k hk _ => heap_alloc_old w _ k hk⟩ p3 ?_ f1 (fun b hb => by simp only [blkOf, Option.some.injEq] at hb; omega))⟩
            refine ⟨hlen, .inr ⟨w.heap.size, len, arr', by rw [f2], by omega, heap_alloc_new w _, by omega, ?_, ?_, ?_⟩⟩
            · have : len ≤ len * te.size := Nat.le_mul_of_pos_right _ (by omega)
              unfold maxLen; omega
            · simp at hlen; rw [hlen, f2]
            · rw [← hlen]; exact List.take_length
          · cases h
        · cases h
    · cases h
  · cases h
end
end Go.Vg
/-
  A VERIFIED VC GENERATOR, part O: make, copy, conversions.
-/
namespace Go.Vg
open Go

section
variable {P : Program} {C : Ctx} {A A' : Nat → Prop} {β : Nat → Value} {st : St} {a : Act} {w : World} {T : Tab}

theorem zeroFitsL_rel : ∀ (row : List Ty) (vs : List Value), zeroFits.zeroFitsL row vs = true → RdV w A row vs (Row.zero row)
  | [], [], _ => by simp [RdV]
  | .int k :: ts, .int k' n :: vs, h => by
    simp only [zeroFits.zeroFitsL, Bool.and_eq_true, decide_eq_true_eq] at h
    obtain ⟨⟨h1, h2⟩, h3⟩ := h
    subst h1; subst h2
    simp only [RdV, Row.zero, hd_mk, tl_mk]
    refine ⟨_, vs, rfl, ?_, zeroFitsL_rel ts vs h3⟩
    simp only [Rd, D.zero]
    cases k <;> simp [DI.zero, DI.toInt, lo, hi]
  | .bool :: ts, .bool b :: vs, h => by
    cases b with
    | true => simp [zeroFits.zeroFitsL] at h
    | false =>
      simp only [zeroFits.zeroFitsL] at h
      simp only [RdV, Row.zero, hd_mk, tl_mk]
      exact ⟨_, vs, rfl, by simp [Rd, D.zero], zeroFitsL_rel ts vs h⟩
  | .str :: ts, .string s :: vs, h => by
    simp only [zeroFits.zeroFitsL, Bool.and_eq_true] at h
    simp only [RdV, Row.zero, hd_mk, tl_mk]
    refine ⟨_, vs, rfl, ?_, zeroFitsL_rel ts vs h.2⟩
    simp only [Rd, D.zero]
    refine ⟨?_, by simp⟩
    have : s.data.toList = [] := by simpa using h.1
    have hs : s = ⟨#[]⟩ := by
      apply ByteArray.ext
      apply Array.ext'
      exact this
    rw [hs]
  | .slice r :: ts, .slice ad l c :: vs, h => by
    cases ad with
    | some p => simp [zeroFits.zeroFitsL] at h
    | none =>
      cases l with
      | succ l => simp [zeroFits.zeroFitsL] at h
      | zero =>
        cases c with
        | succ c => simp [zeroFits.zeroFitsL] at h
        | zero =>
          simp only [zeroFits.zeroFitsL] at h
          simp only [RdV, Row.zero, hd_mk, tl_mk]
          refine ⟨_, vs, rfl, ?_, zeroFitsL_rel ts vs h⟩
          simp only [Rd, D.zero]
          exact ⟨none, 0, [], by simp, by simp, by simp, by simp [RdL], by simp⟩
  | [], _ :: _, h => by simp [zeroFits.zeroFitsL] at h
  | .int _ :: _, [], h => by simp [zeroFits.zeroFitsL] at h
  | .bool :: _, [], h => by simp [zeroFits.zeroFitsL] at h
  | .str :: _, [], h => by simp [zeroFits.zeroFitsL] at h
  | .slice _ :: _, [], h => by simp [zeroFits.zeroFitsL] at h
  | .int _ :: _, .bool _ :: _, h | .int _ :: _, .string _ :: _, h | .int _ :: _, .slice .. :: _, h | .int _ :: _, .float .. :: _, h | .int _ :: _, .complex .. :: _, h | .int _ :: _, .pointer _ :: _, h
  | .int _ :: _, .map _ :: _, h | .int _ :: _, .chan _ :: _, h | .int _ :: _, .func .. :: _, h | .int _ :: _, .nilFunc :: _, h | .int _ :: _, .iface .. :: _, h | .int _ :: _, .nilIface :: _, h | .int _ :: _, .agg _ :: _, h | .int _ :: _, .tuple _ :: _, h => by simp [zeroFits.zeroFitsL] at h
  | .bool :: _, .int .. :: _, h | .bool :: _, .string _ :: _, h | .bool :: _, .slice .. :: _, h | .bool :: _, .float .. :: _, h | .bool :: _, .complex .. :: _, h | .bool :: _, .pointer _ :: _, h
  | .bool :: _, .map _ :: _, h | .bool :: _, .chan _ :: _, h | .bool :: _, .func .. :: _, h | .bool :: _, .nilFunc :: _, h | .bool :: _, .iface .. :: _, h | .bool :: _, .nilIface :: _, h | .bool :: _, .agg _ :: _, h | .bool :: _, .tuple _ :: _, h => by simp [zeroFits.zeroFitsL] at h
  | .str :: _, .int .. :: _, h | .str :: _, .bool _ :: _, h | .str :: _, .slice .. :: _, h | .str :: _, .float .. :: _, h | .str :: _, .complex .. :: _, h | .str :: _, .pointer _ :: _, h
  | .str :: _, .map _ :: _, h | .str :: _, .chan _ :: _, h | .str :: _, .func .. :: _, h | .str :: _, .nilFunc :: _, h | .str :: _, .iface .. :: _, h | .str :: _, .nilIface :: _, h | .str :: _, .agg _ :: _, h | .str :: _, .tuple _ :: _, h => by simp [zeroFits.zeroFitsL] at h
  | .slice _ :: _, .int .. :: _, h | .slice _ :: _, .bool _ :: _, h | .slice _ :: _, .string .. :: _, h | .slice _ :: _, .float .. :: _, h | .slice _ :: _, .complex .. :: _, h | .slice _ :: _, .pointer _ :: _, h
  | .slice _ :: _, .map _ :: _, h | .slice _ :: _, .chan _ :: _, h | .slice _ :: _, .func .. :: _, h | .slice _ :: _, .nilFunc :: _, h | .slice _ :: _, .iface .. :: _, h | .slice _ :: _, .nilIface :: _, h | .slice _ :: _, .agg _ :: _, h | .slice _ :: _, .tuple _ :: _, h => by simp [zeroFits.zeroFitsL] at h

theorem zeroFits_rel {row : List Ty} {z : Value} (h : zeroFits row z = true) : RdV w A row z.cells.toList (Row.zero row) := by
  unfold zeroFits at h
  split at h
  · exact zeroFitsL_rel row _ h
  · rename_i hna
    have hz : z.cells = #[z] := by cases z <;> first | rfl | exact absurd rfl (hna _)
    rw [hz]; exact zeroFitsL_rel row _ h

theorem RdL_replicate {row : List Ty} {vs : List Value} {x : Row row} (h : RdV w A row vs x) : ∀ n, RdL (RdV w A row) (List.replicate n vs).flatten (List.replicate n x)
  | 0 => by simp [RdL]
  | n + 1 => by
    simp only [List.replicate_succ, List.flatten_cons]
    exact ⟨vs, _, rfl, h, RdL_replicate h n⟩

theorem sound_makeSlice (hT : TabOk T P) (hB : RelB C A β st a w) {dst : Option Nat} (hd : ∀ t, dst = some t → t < st.n) {d : Nat} (hdead : st.h d = none) {t : TypeId} {x y : AV} {vx vy : Value} (hx : AVrel w A β vx x) (hy : AVrel w A β vy y) {out : Out}
    (h : actMakeSlice T d t x y = some out) (hc : ∀ p ∈ out.cond, p) : ∃ v' w', (Instr.makeSlice t vx vy).run P w = .ok v' w' ∧ Rel C (st.put dst out) (a.put dst v') w' := by
  unfold actMakeSlice at h
  split at h
  · rename_i k n k' c
    split at h
    · rename_i e te he hte
      split at h
      · rename_i row hrow
        obtain ⟨hu, hfe, i, hi, hisz, hib, hiz⟩ := elem_ok hT he hte
        cases hq : (Nat.beq row.length te.size && Nat.blt 0 te.size && zeroFits row te.zero) with
        | false => simp [hq] at h
        | true =>
          simp only [hq, cond_true, Option.some.injEq] at h
          subst h
          simp only [Bool.and_eq_true] at hq
          obtain ⟨⟨q1, q2⟩, q3⟩ := hq
          have q1 := Nat.eq_of_beq_eq_true q1
          have q2 := Nat.le_of_ble_eq_true q2
          obtain ⟨c0, c1, c2⟩ := mem0 hc
          simp only [AVrel] at hx hy
          obtain ⟨rfl, _⟩ := hx
          obtain ⟨rfl, hcr⟩ := hy
          have hz := zeroFits_rel (w := w) (A := A) q3
          have hzl := RdV_length row _ _ hz
          have hzs : te.zero.cells.size = te.size := by simp at hzl; omega
          have hcb' : (te.bytes : Int) * c ≤ 281474976710656 := by
            rcases Nat.eq_zero_or_pos te.bytes with hb0 | hb0
            · rw [hb0]; simp
            · have := (Int.le_ediv_iff_mul_le (show (0 : Int) < te.bytes by omega)).1 c2
              rw [Int.mul_comm]; omega
          have hcm : c ≤ 9223372036854775807 := by
            have := Int.ediv_le_self (te.bytes : Int) (show (0 : Int) ≤ 140737488355328 by omega)
            omega
          have hr := run_make (P := P) w t e i te.zero hu hi hiz k k' n c c0 c1 (by rw [hib]; exact hcb') hcm
          refine ⟨_, _, hr, Rel.ofB (hB.newRowF hd hdead (fz := []) (xs := (List.replicate n.toNat te.zero.cells.toList).flatten) ⟨rfl, rfl, rfl, by simp, fun k hk _ => heap_alloc_old w _ k hk⟩ (by simp) ?_ ?_ (fun b hb => by simp only [blkOf, Option.some.injEq] at hb; omega))⟩
          · have hcells : (madeCells te.zero.cells (c.toNat * i.size)).toList = (List.replicate c.toNat te.zero.cells.toList).flatten := by
              have := range_cells te.zero.cells (by omega) c.toNat
              rw [hzs] at this
              simp [madeCells, hisz, hzs, this]
            have hfl : ∀ m, (List.replicate m te.zero.cells.toList).flatten.length = m * te.size := by
              intro m; simp [hzs]
            simp only [List.length_replicate]
            refine ⟨by rw [hfl, q1], .inr ⟨w.heap.size, c.toNat, _, rfl, by omega, heap_alloc_new w _, by omega, by unfold maxLen; omega, ?_, ?_⟩⟩
            · have := congrArg List.length hcells
              rw [hfl, Array.length_toList] at this
              rw [this, q1]
            · rw [hcells]
              have hsp : c.toNat = n.toNat + (c.toNat - n.toNat) := by omega
              rw [hsp, ← List.replicate_append_replicate, List.flatten_append, q1, ← hfl n.toNat, List.take_left]
          · exact RdL_replicate (zeroFits_rel q3) _
      · cases h
    · cases h
  · cases h

/-! ### copy -/
theorem run_copy' {t t' ty e : TypeId} {i : TypeInfo} (hu : P.underlying t = some (.slice e)) (hi : P.info? e = some i) {b off dLen dCap : Nat} {cur : Array Value} {be : TypeId} (hg : w.heap[b]? = some (.cells cur be (0, 0))) {x : Value} {m : Nat} {cs : List Value}
    (hlen : (Builtin.lenOf x).run P w = .ok m w) (hfirst : (Builtin.firstCells i.size (min m dLen) x).run P w = .ok cs.toArray w) (h1 : ∀ u ∈ cs, u.oneCell' = true) (hfit : off + cs.length ≤ cur.size) :
    (Builtin.copy_ #[t, t'] ty #[.slice (some ⟨b, off, none⟩) dLen dCap, x]).run P w = .ok (.int .i64 ((min m dLen : Nat) : Int)) (w.setRow b (cur.toList.take off ++ cs ++ cur.toList.drop (off + cs.length)).toArray) := by
  have hst := run_storeCells_at P b off be cs 0 cur w hg (by simpa using hfit) h1
  simp only [Nat.add_zero] at hst
  have hm : Nat.min m dLen = min m dLen := rfl
  simp [Builtin.copy_, run_underlying hu, sizeOf, typeInfo, hi, hlen, hm, hfirst, hst, goInt]

theorem run_copy_zero {t t' ty e : TypeId} {i : TypeInfo} (hu : P.underlying t = some (.slice e)) (hi : P.info? e = some i) {ad : Option Addr} {dCap : Nat} {x : Value} {m : Nat}
    (hlen : (Builtin.lenOf x).run P w = .ok m w) (hfirst : (Builtin.firstCells i.size 0 x).run P w = .ok #[] w) :
    (Builtin.copy_ #[t, t'] ty #[.slice ad 0 dCap, x]).run P w = .ok (.int .i64 0) w := by
  have hm : Nat.min m 0 = 0 := Nat.min_eq_right (Nat.zero_le _)
  cases ad <;> simp [Builtin.copy_, run_underlying hu, sizeOf, typeInfo, hi, hlen, hfirst, goInt, storeCells]

/-- a block of ours that is written over with what it held -/
theorem RelB.same (hB : RelB C A β st a w) {dst : Option Nat} (hd : ∀ t, dst = some t → t < st.n) {c : List Prop} {r : AV} {k : Nat} {ab : AB} (hk : st.h k = some ab) {v : Value} (h : AVrel w A β v r) :
    RelB C A β (st.put dst { cond := c, res := r, upd := [(k, ab)] }) (a.put dst v) w := by
  refine hB.step (out := { cond := c, res := r, upd := [(k, ab)] }) hd (by simp [hfind]) ?_ (fun _ _ => rfl) (Keeps.refl w A) rfl rfl rfl (Nat.le_refl _) (fun _ _ _ => rfl) hB.bound (fun b h => .inl h) ?_ (by simp [hfind]) (by simp [hfind]) (by simp [hfind]) h
  · intro j b h; obtain ⟨rfl, _⟩ := hfind_one h; simp [hk]
  · intro j b h _
    obtain ⟨rfl, rfl⟩ := hfind_one h
    simp only [scrubBs]
    exact hB.blocks _ _ hk

theorem one_i64 (n : Nat) (h : n ≤ maxLen) : AVrel w A β (.int .i64 (n : Int)) (.int .i64 (n : Int)) := by
  simp only [AVrel, lo, hi, true_and]
  unfold maxLen at h; omega

/-- elements off .. off + n of a row of ours are written over -/
theorem copy_row (hB : RelB C A β st a w) {dst : Option Nat} (hd : ∀ t, dst = some t → t < st.n) {k e : Nat} {row : List Ty} {l m' : List (Row row)} (hk : st.h k = some (.row e row l false)) {b cap off : Nat} (hβ : β k = .slice (some ⟨b, 0, none⟩) l.length cap)
    {cs : List Value} (hcs : RdL (RdV w A row) cs m') (hfit : off + m'.length ≤ l.length) {c : List Prop} {r : AV} {v : Value} (hres : ∀ w', AVrel w' A β v r) {cur : Array Value} (hg : w.heap[b]? = some (.cells cur e (0, 0)))
    (hsz : cur.size = cap * row.length) (hle : l.length ≤ cap) (hmx : cap ≤ maxLen) (hL : RdL (RdV w A row) (cur.toList.take (l.length * row.length)) l) (hnA : ¬ A b) :
    Rel C (st.put dst { cond := c, res := r, upd := [(k, .row e row (l.take off ++ m' ++ l.drop (off + m'.length)) false)] }) (a.put dst v)
      (w.setRow b (cur.toList.take (off * row.length) ++ cs ++ cur.toList.drop (off * row.length + cs.length)).toArray) := by
  have hb : blkOf (β k) = some b := by rw [hβ]; rfl
  have hlen := RdL_length m' cs hcs
  have hlr : l.length * row.length ≤ cur.size := by rw [hsz]; exact Nat.mul_le_mul_right _ hle
  have hfr : off * row.length + cs.length ≤ l.length * row.length := by rw [hlen, ← Nat.add_mul]; exact Nat.mul_le_mul_right _ hfit
  refine hB.write hd (k := k) (fz := []) (ab := .row e row _ false) (by simp [hk]) hb hnA hg ⟨rfl, rfl, rfl⟩ (by simp) ?_ (hres _)
  intro A2 h1 h2 h3
  have hK : Keeps w (w.setRow b (cur.toList.take (off * row.length) ++ cs ++ cur.toList.drop (off * row.length + cs.length)).toArray) A A2 := fun b' hb' => ⟨h1 b' hb', setRow_other w b b' _ (fun h' => hnA (h' ▸ hb'))⟩
  have hll : (l.take off ++ m' ++ l.drop (off + m'.length)).length = l.length := by simp; omega
  have hns : (cur.toList.take (off * row.length) ++ cs ++ cur.toList.drop (off * row.length + cs.length)).toArray.size = cur.size := by simp; omega
  refine ⟨_, ⟨?_, .inr ⟨b, cap, _, by rw [hβ, hll], by omega, setRow_heap w b cur _ e _ hg, by omega, hmx, hns.trans hsz, rfl⟩⟩, ?_, fun b' hb' => ?_⟩
  · rw [List.length_take, hll]
    refine Nat.min_eq_left (Nat.le_trans hlr (Nat.le_of_eq hns.symm))
  · rw [hll]
    have hsplit : (cur.toList.take (off * row.length) ++ cs ++ cur.toList.drop (off * row.length + cs.length)).take (l.length * row.length) =
        (cur.toList.take (l.length * row.length)).take (off * row.length) ++ cs ++ (cur.toList.take (l.length * row.length)).drop ((off + m'.length) * row.length) := by
      rw [List.take_take, Nat.min_eq_left (by omega), List.take_append, List.take_of_length_le (by simp; omega), Nat.add_mul, ← hlen, List.drop_take]
      congr 1
      congr 1
      simp; omega
    have e1 : (cur.toList.take (off * row.length) ++ cs ++ cur.toList.drop (off * row.length + cs.length)).toArray.toList = cur.toList.take (off * row.length) ++ cs ++ cur.toList.drop (off * row.length + cs.length) := by simp
    rw [e1, hsplit]
    have s1 := RdL_split l _ off hL
    have s2 := RdL_split l _ (off + m'.length) hL
    exact RdL_mono (fun c x hx => RdV_mono hK row c x hx) _ _ (RdL_append _ _ _ _ (RdL_append _ _ _ _ s1.1 hcs) s2.2)
  · rw [hb] at hb'; simp only [Option.some.injEq] at hb'; subst hb'
    simp only [Bool.false_eq_true, if_false]
    intro hA2
    rcases h2 _ hA2 with h | ⟨q, hq, _⟩
    · exact hnA h
    · simp at hq

theorem sound_copy (hT : TabOk T P) (hB : RelB C A β st a w) {dst : Option Nat} (hd : ∀ t, dst = some t → t < st.n) {t t' ty : TypeId} {s x : AV} {vs vx : Value} (hs : AVrel w A β vs s) (hx : AVrel w A β vx x) {out : Out}
    (h : actCopy T st.h t t' s x = some out) (hc : ∀ p ∈ out.cond, p) : ∃ v' w', (Builtin.copy_ #[t, t'] ty #[vs, vx]).run P w = .ok v' w' ∧ Rel C (st.put dst out) (a.put dst v') w' := by
  unfold actCopy at h
  split at h
  · rename_i k
    split at h
    · rename_i e row l hk
      cases hq : isSliceOf T t row.length with
      | false => simp [hq] at h
      | true =>
        simp only [hq, cond_true] at h
        obtain ⟨el, i, hu, hi, hsz, hpos⟩ := find_elem hT hq
        split at h
        · rename_i m hm
          simp only [Option.some.injEq] at h; subst h
          obtain ⟨cs, hsrc⟩ := src_ok (P := P) hB hx hm
          simp only [AVrel] at hs
          obtain ⟨rfl, _⟩ := hs
          rcases own_slice hB hk with ⟨g1, g2⟩ | ⟨b, cap, cur, g1, g2, g3, g4, g5, g6, g7⟩
          · subst g2
            have hf := hsrc.first w rfl 0 (Nat.zero_le _)
            simp only [Nat.zero_mul, List.take_zero] at hf
            rw [g1]
            refine ⟨_, _, run_copy_zero (ty := ty) hu hi hsrc.len (by rw [hsz]; exact hf), ?_⟩
            have := hB.same (dst := dst) hd (c := []) (r := .int .i64 0) (v := .int .i64 0) hk (by simp [AVrel, lo, Vg.hi])
            simpa using Rel.ofB this
          · simp only [Bool.false_eq_true, if_false] at g7
            have hn : min m.length l.length ≤ m.length := Nat.min_le_left _ _
            have hf := hsrc.first w rfl _ hn
            have hcs' := (RdL_split m cs (min m.length l.length) hsrc.rd).1
            have hlen := RdL_length _ _ hcs'
            have hml : (m.take (min m.length l.length)).length = min m.length l.length := by simp
            have hr := run_copy' (P := P) (ty := ty) (t' := t') (dLen := l.length) (dCap := cap) (off := 0) hu hi g2 hsrc.len (by rw [hsz]; exact hf) (RdL_one _ _ hcs') (by
              rw [hlen, hml, g5]
              have : min m.length l.length * row.length ≤ cap * row.length := Nat.mul_le_mul_right _ (by omega)
              omega)
            rw [g1]
            refine ⟨_, _, hr, ?_⟩
            have hfin := copy_row hB hd hk g1 (off := 0) (c := []) hcs' (by rw [hml]; omega) (fun w' => one_i64 (w := w') (min m.length l.length) (by unfold maxLen; unfold maxLen at g4; omega)) g2 g5 g3 g4 g6 g7
            have e1 : m.take l.length ++ l.drop m.length = l.take 0 ++ m.take (min m.length l.length) ++ l.drop (0 + (m.take (min m.length l.length)).length) := by
              rw [hml]
              simp only [List.take_zero, List.nil_append, Nat.zero_add]
              rcases Nat.le_total m.length l.length with hh | hh
              · rw [Nat.min_eq_left hh, List.take_of_length_le hh, List.take_length]
              · rw [Nat.min_eq_right hh, List.drop_length, List.drop_of_length_le hh]
            rw [e1]
            simpa using hfin
        · cases h
    · cases h
  · rename_i k sz off n
    split at h
    · rename_i e row l hk
      cases hq : (isSliceOf T t row.length && Nat.beq sz row.length) with
      | false => simp [hq] at h
      | true =>
        simp only [hq, cond_true] at h
        simp only [Bool.and_eq_true] at hq
        obtain ⟨q1, q2⟩ := hq
        have q2 := Nat.eq_of_beq_eq_true q2
        subst q2
        obtain ⟨el, i, hu, hi, hsz, hpos⟩ := find_elem hT q1
        split at h
        · rename_i m hm
          simp only [Option.some.injEq] at h; subst h
          obtain ⟨cs, hsrc⟩ := src_ok (P := P) hB hx hm
          have hon := mem0 hc
          simp only [AVrel] at hs
          rcases hs with ⟨hn0, ad, cap, hv, hcm⟩ | ⟨b', mm, cap', cap'', hv, hv', hle1, hle2, hle3⟩
          · subst hn0
            have hf := hsrc.first w rfl 0 (Nat.zero_le _)
            simp only [Nat.zero_mul, List.take_zero] at hf
            rw [hv]
            refine ⟨_, _, run_copy_zero (ty := ty) hu hi hsrc.len (by rw [hsz]; exact hf), ?_⟩
            have := hB.same (dst := dst) hd (c := [off + 0 ≤ l.length]) (r := .int .i64 0) (v := .int .i64 0) hk (by simp [AVrel, lo, Vg.hi])
            simpa using Rel.ofB this
          · rcases own_slice hB hk with ⟨g1, g2⟩ | ⟨b, cap, cur, g1, g2, g3, g4, g5, g6, g7⟩
            · rw [g1] at hv; cases hv
            · rw [g1] at hv
              simp only [Value.slice.injEq, Option.some.injEq, Addr.mk.injEq, and_true] at hv
              obtain ⟨rfl, rfl, rfl⟩ := hv
              simp only [Bool.false_eq_true, if_false] at g7
              have hn : min m.length n ≤ m.length := Nat.min_le_left _ _
              have hf := hsrc.first w rfl _ hn
              have hcs' := (RdL_split m cs (min m.length n) hsrc.rd).1
              have hlen := RdL_length _ _ hcs'
              have hml : (m.take (min m.length n)).length = min m.length n := by simp
              have hr := run_copy' (P := P) (ty := ty) (t' := t') (dLen := n) (dCap := cap'') (off := off * row.length) hu hi g2 hsrc.len (by rw [hsz]; exact hf) (RdL_one _ _ hcs') (by
                rw [hlen, hml, g5, ← Nat.add_mul]
                exact Nat.mul_le_mul_right _ (by omega))
              rw [hv']
              refine ⟨_, _, hr, ?_⟩
              have hfin := copy_row hB hd hk g1 (off := off) (c := [off + n ≤ l.length]) hcs' (by rw [hml]; omega) (fun w' => one_i64 (w := w') (min m.length n) (by unfold maxLen; unfold maxLen at g4; omega)) g2 g5 g3 g4 g6 g7
              have e1 : m.take n = m.take (min m.length n) := by
                rcases Nat.le_total m.length n with hh | hh
                · rw [Nat.min_eq_left hh, List.take_of_length_le hh, List.take_length]
                · rw [Nat.min_eq_right hh]
              rw [e1]
              rw [hml] at hfin
              exact hfin
        · cases h
    · cases h
  · cases h
end
end Go.Vg
/-
  A VERIFIED VC GENERATOR, part P: conversions; every operation but calls.
-/
namespace Go.Vg
open Go

section
variable {P : Program} {C : Ctx} {A A' : Nat → Prop} {β : Nat → Value} {st : St} {a : Act} {w : World} {T : Tab}

theorem bytes_cells : ∀ (u : List UInt8) (cs : List Value), RdL (RdV w A [.int .u8]) cs u → cs = u.map fun b => Value.int .u8 (b.toNat : Int)
  | [], cs, h => by simp only [RdL] at h; simp [h]
  | b :: u, cs, ⟨c1, c2, hc, h1, h2⟩ => by
    subst hc
    simp only [RdV] at h1
    obtain ⟨v, vs, rfl, h3, rfl⟩ := h1
    simp only [Rd] at h3
    rw [bytes_cells u c2 h2]
    simp only [List.map_cons, List.cons_append, List.nil_append, List.cons.injEq, and_true]
    exact h3.1

theorem foldl_push : ∀ (u : List UInt8) (r : ByteArray), (u.map fun b => (b.toNat : Int)).foldl (fun r n => r.push (UInt8.ofNat n.toNat)) r = ⟨(r.data.toList ++ u).toArray⟩
  | [], r => by simp
  | b :: u, r => by
    simp only [List.map_cons, List.foldl_cons]
    rw [foldl_push u]
    simp

theorem sound_bytesToString (hB : RelB C A β st a w) {x : AV} {v : Value} (hx : AVrel w A β v x) {u : List UInt8} (h : srcOf st.h [.int .u8] x = some u) (hnil : ∀ n c, v = .slice none n c → n = 0) (hsl : ∃ ad n c, v = .slice ad n c) :
    (Conv.bytesToString v).run P w = .ok (.string ⟨u.toArray⟩) w ∧ u.length ≤ maxLen := by
  obtain ⟨cs, hsrc⟩ := src_ok (P := P) hB hx h
  have hcs := bytes_cells u cs hsrc.rd
  obtain ⟨ad, n, c, rfl⟩ := hsl
  have hn : n = u.length := by
    have := hsrc.len
    simpa [Builtin.lenOf] using this
  refine ⟨?_, hsrc.max⟩
  cases ad with
  | none =>
    have := hnil n c rfl
    have hu : u = [] := List.eq_nil_of_length_eq_zero (by omega)
    subst hu
    simp [Conv.bytesToString]
    rfl
  | some p =>
    have hf := hsrc.first w rfl u.length (Nat.le_refl _)
    have hl := RdL_length (row := [.int .u8]) u cs hsrc.rd
    simp only [List.length_singleton, Nat.mul_one] at hf hl
    rw [← hl, List.take_length] at hf
    have hload : (loadCells p n).run P w = .ok ((u.map fun b => (b.toNat : Int)).map (Value.int .u8)).toArray w := by
      simp only [Builtin.firstCells, Nat.mul_one] at hf
      rw [hn, ← hl, hf, hcs]
      simp
    rw [run_bytesToString w p n c _ hload, foldl_push]
    simp

theorem sound_stringToBytes (hB : RelB C A β st a w) {dst : Option Nat} (hd : ∀ t, dst = some t → t < st.n) {e : TypeId} {u : List UInt8} (hu : u.length ≤ maxLen) {c : List Prop} :
    ∃ v' w', (Conv.stringToBytes e ⟨u.toArray⟩).run P w = .ok v' w' ∧ Rel C (st.put dst { cond := c, res := .sl [.int .u8] u }) (a.put dst v') w' := by
  let cap := grownCap w u.length 0 e
  have hcap : u.length ≤ cap := grownCap_ge w u.length 0 e
  have hcm : cap ≤ maxLen := grownCap_le_maxLen w u.length 0 e hu
  let arr : Array Value := (u.map fun b => Value.int .u8 (b.toNat : Int)).toArray ++ Array.replicate (cap - u.length) (.int .u8 0)
  let w' : World := (w.drew.alloc (.cells arr e)).freeze ⟨w.heap.size, arr.size, none⟩ 1
  have hrun : (Conv.stringToBytes e ⟨u.toArray⟩).run P w = .ok (.slice (some ⟨w.heap.size, 0, none⟩) u.length cap) w' := by
    have hsh : (w.drew.alloc (.cells arr e)).shape? w.heap.size = some (e, arr.size) := by
      have := heap_alloc_new w.drew (.cells arr e)
      unfold World.shape?
      rw [show (w.drew.alloc (.cells arr e)).heap[w.heap.size]? = some (.cells arr e) from this]
    have h1 : (⟨u.toArray⟩ : ByteArray).size = u.length := size_mk u
    simp only [Conv.stringToBytes, Sem.run_bind, run_choose, Question.forced, Bool.false_eq_true, if_false, Result.andThen_ok, h1, newRow, run_newObj, Sem.run_pure, markStringish, run_shape]
    have hg : (Question.appendCap u.length 0 e).cut (w.tape w.drawn (Question.appendCap u.length 0 e)) = cap := rfl
    rw [hg]
    have harr : Array.map (fun b : UInt8 => Value.int IntKind.u8 (b.toNat : Int)) u.toArray ++ Array.replicate (cap - u.length) (Value.int IntKind.u8 0) = arr := by
      simp [arr]
    rw [harr]
    have hw2 : ({ heap := w.heap.push (Obj.cells arr e), tape := w.tape, drawn := w.drawn + 1, os := w.os, output := w.output } : World) = w.drew.alloc (.cells arr e) := rfl
    simp only [hw2, hsh, run_freeze, Result.andThen_ok]
    rfl
  have hother : ∀ b, b < w.heap.size → w'.heap[b]? = w.heap[b]? := by
    intro b hb
    have h2 : (w.drew.alloc (.cells arr e)).heap[b]? = w.heap[b]? := alloc_old (w := w.drew) _ b hb
    simp only [w', World.freeze, Nat.one_ne_zero, if_false, Array.getElem?_modify]
    rw [if_neg (by omega)]
    exact h2
  have hnew : ∃ fz, w'.heap[w.heap.size]? = some (.cells arr e fz) := by
    have h2 : (w.drew.alloc (.cells arr e)).heap[w.heap.size]? = some (.cells arr e) := heap_alloc_new w.drew _
    simp only [w', World.freeze, Nat.one_ne_zero, if_false, Array.getElem?_modify, if_true, h2, Option.map_some]
    exact ⟨_, rfl⟩
  obtain ⟨fz, hnew⟩ := hnew
  have hsize : w'.heap.size = w.heap.size + 1 := by
    have : (w.drew.alloc (.cells arr e)).heap.size = w.heap.size + 1 := by simp
    simp only [w', World.freeze, Nat.one_ne_zero, if_false, Array.size_modify]
    exact this
  let A' : Nat → Prop := fun b => A b ∨ b = w.heap.size
  have hK : Keeps w w' A A' := fun b hb => ⟨.inl hb, hother b (hB.bound b hb)⟩
  refine ⟨_, w', hrun, A', β, ?_⟩
  refine hB.step (out := { cond := c, res := .sl [.int .u8] u }) hd (by simp [hfind]) (by simp [hfind]) (fun _ _ => rfl) hK rfl rfl rfl (by omega) (fun b hb _ => hother b hb) ?_ ?_ (by simp [hfind]) (by simp [hfind]) (by simp [hfind]) (by simp [hfind]) ?_
  · intro b hb
    rcases hb with hb | rfl
    · have := hB.bound b hb; omega
    · omega
  · intro b hb
    rcases hb with hb | rfl
    · exact .inl hb
    · exact .inr (.inl (Nat.le_refl _))
  · simp only [AVrel, Rd]
    refine ⟨_, cap, _, rfl, hcap, hcm, RdL_bytes u, fun _ => ⟨w.heap.size, 0, rfl, .inr rfl, fun j v hj => ?_⟩⟩
    simp only [World.cell?, hnew, Nat.zero_add]
    have hlt : j < (u.map fun b => Value.int .u8 (b.toNat : Int)).length := by
      rcases Nat.lt_or_ge j (u.map fun b => Value.int .u8 (b.toNat : Int)).length with h | h
      · exact h
      · rw [List.getElem?_eq_none h] at hj; cases hj
    simp only [arr, Option.isSome_none, Bool.false_eq_true, if_false]
    rw [Array.getElem?_append_left (by simpa using hlt)]
    simpa using hj

theorem Rd_none {row : List Ty} {n c : Nat} {l : List (Row row)} (h : Rd w A (.slice row) (.slice none n c) l) (hp : 0 < row.length) : n = 0 := by
  simp only [Rd] at h
  obtain ⟨ad, cap, cs, h1, h2, h3, h4, h5⟩ := h
  simp only [Value.slice.injEq] at h1
  obtain ⟨rfl, rfl, rfl⟩ := h1
  have hl := RdL_length l cs h4
  by_cases hc : cs = []
  · subst hc
    simp only [List.length_nil] at hl
    rcases Nat.mul_eq_zero.1 hl.symm with h | h
    · exact h
    · omega
  · obtain ⟨b, o, h, _⟩ := h5 hc
    cases h

theorem src_shape (hB : RelB C A β st a w) {x : AV} {v : Value} (hx : AVrel w A β v x) (hn : notStr x = true) {u : List UInt8} (h : srcOf st.h [.int .u8] x = some u) :
    (∃ ad n c, v = .slice ad n c) ∧ ∀ n c, v = .slice none n c → n = 0 := by
  have hsl : ∀ {row : List Ty} {l : List (Row row)}, row = [.int .u8] → Rd w A (.slice row) v l → (∃ ad n c, v = .slice ad n c) ∧ ∀ n c, v = .slice none n c → n = 0 := by
    intro row l hr h
    obtain ⟨ad, cap, rfl, _⟩ := Rd_slice_ne h
    refine ⟨⟨_, _, _, rfl⟩, fun n c he => ?_⟩
    simp only [Value.slice.injEq] at he
    obtain ⟨rfl, rfl, rfl⟩ := he
    exact Rd_none h (by subst hr; simp)
  unfold srcOf at h
  split at h
  · simp [notStr] at hn
  · simp only [AVrel] at hx; subst hx
    exact ⟨⟨_, _, _, rfl⟩, fun n c h => by simp only [Value.slice.injEq] at h; omega⟩
  · rename_i h1 h2
    cases x with
    | sl r l =>
      simp only [pur1] at h
      obtain ⟨e, _⟩ := castL_eq h
      exact hsl e hx
    | full r l =>
      simp only [pur1] at h
      obtain ⟨e, _⟩ := castL_eq h
      simp only [AVrel] at hx
      exact hsl e hx.1
    | own k =>
      simp only [pur1] at h
      simp only [AVrel] at hx
      cases hk : st.h k with
      | none => simp [hk] at h
      | some ab =>
        cases ab with
        | cells cs => simp [hk] at h
        | views e j n m sz => simp [hk] at h
        | row e row l fr =>
          rcases own_range hB hk with ⟨g1, g2⟩ | ⟨b, cap, cs, g1, _⟩
          · rw [hx.1, g1]; exact ⟨⟨_, _, _, rfl⟩, fun n c h => by simp only [Value.slice.injEq] at h; omega⟩
          · rw [hx.1, g1]; exact ⟨⟨_, _, _, rfl⟩, fun n c h => by simp only [Value.slice.injEq] at h; cases h.1⟩
    | pre k n =>
      simp only [AVrel] at hx
      rcases hx with ⟨_, h, _⟩ | ⟨b, m, cap, _, h, _⟩
      · rw [h]; exact ⟨⟨_, _, _, rfl⟩, fun n c h => by simp only [Value.slice.injEq] at h; omega⟩
      · rw [h]; exact ⟨⟨_, _, _, rfl⟩, fun n c h => by simp only [Value.slice.injEq] at h; cases h.1⟩
    | view k sz off n =>
      simp only [AVrel] at hx
      rcases hx with ⟨_, ad, c, h, _⟩ | ⟨b, m, cap, cap', _, h, _⟩
      · rw [h]; exact ⟨⟨_, _, _, rfl⟩, fun n c h => by simp only [Value.slice.injEq] at h; omega⟩
      · rw [h]; exact ⟨⟨_, _, _, rfl⟩, fun n c h => by simp only [Value.slice.injEq] at h; cases h.1⟩
    | _ => simp [pur1] at h

/-- an operation that yields a value: what is to be shown -/
def Does (P : Program) (C : Ctx) (st : St) (a : Act) (w : World) (d : Option Nat) (out : Out) (s : Sem Value) : Prop := ∃ v w', s.run P w = .ok v w' ∧ Rel C (st.put d out) (a.put d v) w'

theorem Reads.does (hB : RelB C A β st a w) {dst : Option Nat} (hd : ∀ t, dst = some t → t < st.n) {s : Sem Value} {out : Out} (h : Reads P A β w s out) : Does P C st a w dst out s :=
  let ⟨hq, v, h1, h2⟩ := h
  ⟨v, w, h1, Rel.ofB (hB.quiet hd hq h2)⟩

theorem sound_convert (hT : TabOk T P) (hB : RelB C A β st a w) {dst : Option Nat} (hd : ∀ t, dst = some t → t < st.n) {s d : TypeId} {x : AV} {v : Value} (hx : AVrel w A β v x) {out : Out}
    (h : actConvert T st.h s d x = some out) (hc : ∀ p ∈ out.cond, p) : Does P C st a w dst out (convert s d v) := by
  unfold actConvert at h
  split at h
  · rename_i ts td hts htd
    have hus := find_desc hT hts
    have hud := find_desc hT htd
    split at h
    · rename_i k0 k k' n hds hdd
      rw [hds] at hus; rw [hdd] at hud
      simp only [AVrel] at hx
      obtain ⟨rfl, hn⟩ := hx
      have hrun : (convert s d (.int k' n)).run P w = .ok (.int k (k.wrap n)) w := by
        simp [convert, run_underlying hus, run_underlying hud, Conv.intToInt]
      split at h
      · rename_i hr
        simp only [Option.some.injEq] at h; subst h
        have hin : lo k ≤ n ∧ n ≤ hi k := by omega
        rw [wrap_in hin] at hrun
        exact Reads.does hB hd ⟨⟨rfl, rfl, rfl⟩, _, hrun, by simp only [AVrel]; exact ⟨trivial, hin⟩⟩
      · obtain ⟨hq, hr, _⟩ := outFit_ok (w := w) (A := A) (β := β) h hc
        exact Reads.does hB hd ⟨hq, _, hrun, hr⟩
    · rename_i u hds hdd
      rw [hds] at hus; rw [hdd] at hud
      simp only [Option.some.injEq] at h; subst h
      have hx' := hx
      simp only [AVrel] at hx
      obtain ⟨rfl, hn⟩ := hx
      exact Reads.does hB hd ⟨⟨rfl, rfl, rfl⟩, _, by simp [convert, run_underlying hus, run_underlying hud], hx'⟩
    · rename_i e u hds hdd
      rw [hds] at hus; rw [hdd] at hud
      simp only [AVrel] at hx
      obtain ⟨rfl, hn⟩ := hx
      split at h
      · rename_i te hte
        have hue := find_desc hT hte
        split at h
        · rename_i hde
          rw [hde] at hue
          simp only [Option.some.injEq] at h; subst h
          obtain ⟨v', w', h1, h2⟩ := sound_stringToBytes (P := P) hB hd (e := e) hn (c := [])
          exact ⟨v', w', by simp [convert, run_underlying hus, run_underlying hud, run_underlying hue, h1], h2⟩
        · cases h
      · cases h
    · rename_i e hds hdd
      rw [hds] at hus; rw [hdd] at hud
      split at h
      · rename_i te hte
        have hue := find_desc hT hte
        split at h
        · rename_i hde
          rw [hde] at hue
          split at h
          · rename_i u hns hu
            simp only [Option.some.injEq] at h; subst h
            have hvs := src_shape hB hx hns hu
            obtain ⟨h1, h2⟩ := sound_bytesToString (P := P) hB hx hu hvs.2 hvs.1
            obtain ⟨ad, n, c, rfl⟩ := hvs.1
            refine Reads.does hB hd ⟨⟨rfl, rfl, rfl⟩, .string ⟨u.toArray⟩, ?_, by simp only [AVrel]; exact ⟨trivial, h2⟩⟩
            simp [convert, run_underlying hus, run_underlying hud, run_underlying hue, h1]
          · cases h
        · cases h
      · cases h
    · cases h
  · cases h
end
end Go.Vg
/-
  A VERIFIED VC GENERATOR, part Q: a call by its contract.
-/
namespace Go.Vg
open Go

/-- what a call leaves behind -/
structure CallPost (w : World) (A : Nat → Prop) (w' : World) (v : Value) (res : AV) (bs : List AB) (A' : Nat → Prop) (β' : Nat → Value) : Prop where
  os : w'.os = w.os
  tape : w'.tape = w.tape
  output : w'.output = w.output
  size : w.heap.size ≤ w'.heap.size
  same : ∀ b, b < w.heap.size → w'.heap[b]? = w.heap[b]?
  mono : ∀ b, A b → A' b
  old : ∀ b, b < w.heap.size → A' b → A b
  bound : ∀ b, A' b → b < w'.heap.size
  res : AVrel w' A' β' v res
  rows : ∀ i ab, bs[i]? = some ab → BR w' A' β' i ab ∧ ∀ b, blkOf (β' i) = some b → w.heap.size ≤ b
  apart : ∀ i j b, i < bs.length → j < bs.length → blkOf (β' i) = some b → blkOf (β' j) = some b → i = j

/-- **the contract of a function** -/
def Valid (P : Program) (f : FuncId) (s : Sig) : Prop :=
  ∀ (w : World) (A : Nat → Prop) (β : Nat → Value) (args : List Value) (avs : List AV) (pre : Prop) (res : AV) (bs : List AB),
    (∀ b, A b → b < w.heap.size) → AVrels w A β args avs → s avs = some (pre, res, bs) → pre →
    Calls P f args.toArray w fun e w' => ∃ v, e = .returned v ∧ ∃ A' β', CallPost w A w' v res bs A' β'

section
variable {P : Program} {C : Ctx} {A A' : Nat → Prop} {β β' : Nat → Value} {st : St} {a : Act} {w : World} {T : Tab}

mutual
theorem shift_rel (base n : Nat) (hβ : ∀ i, i < n → β' (base + i) = β i) : ∀ (x : AV) (v : Value), resOk n x = true → AVrel w A β v x → AVrel w A β' v (shiftAV base x)
  | .own k, v, ho, h => by
    simp only [resOk] at ho
    have := Nat.le_of_ble_eq_true ho
    simp only [shiftAV, AVrel] at h ⊢
    rw [hβ k (by omega)]; exact h
  | .agg cs, v, ho, h => by
    simp only [resOk] at ho
    simp only [shiftAV, AVrel] at h ⊢
    obtain ⟨arr, h1, h2⟩ := h
    exact ⟨arr, h1, shifts_rel base n hβ cs _ ho h2⟩
  | .tup cs, v, ho, h => by
    simp only [resOk] at ho
    simp only [shiftAV, AVrel] at h ⊢
    obtain ⟨arr, h1, h2⟩ := h
    exact ⟨arr, h1, shifts_rel base n hβ cs _ ho h2⟩
  | .junk, v, ho, h => by simp [resOk] at ho
  | .pre _ _, v, ho, h => by simp [resOk] at ho
  | .view _ _ _ _, v, ho, h => by simp [resOk] at ho
  | .ref _ _, v, ho, h => by simp [resOk] at ho
  | .elem _ _ _ _, v, ho, h => by simp [resOk] at ho
  | .fn _ _ _, v, ho, h => by simp [resOk] at ho
  | .selem _ _ _, v, ho, h => by simp [resOk] at ho
  | .undef, v, _, h => by simpa only [shiftAV, AVrel] using h
  | .int _ _, v, _, h => by simpa only [shiftAV, AVrel] using h
  | .bool _, v, _, h => by simpa only [shiftAV, AVrel] using h
  | .tt, v, _, h => by simpa only [shiftAV, AVrel] using h
  | .ff, v, _, h => by simpa only [shiftAV, AVrel] using h
  | .str _, v, _, h => by simpa only [shiftAV, AVrel] using h
  | .nil, v, _, h => by simpa only [shiftAV, AVrel] using h
  | .nilp, v, _, h => by simpa only [shiftAV, AVrel] using h
  | .nilf, v, _, h => by simpa only [shiftAV, AVrel] using h
  | .sl _ _, v, _, h => by simpa only [shiftAV, AVrel] using h
  | .full _ _, v, _, h => by simpa only [shiftAV, AVrel] using h
theorem shifts_rel (base n : Nat) (hβ : ∀ i, i < n → β' (base + i) = β i) : ∀ (xs : List AV) (vs : List Value), resOks n xs = true → AVrels w A β vs xs → AVrels w A β' vs (shiftAVs base xs)
  | [], vs, _, h => by simpa only [shiftAVs, AVrels] using h
  | x :: xs, vs, ho, h => by
    simp only [resOks, Bool.and_eq_true] at ho
    simp only [AVrels] at h
    obtain ⟨v, vs', rfl, h1, h2⟩ := h
    simp only [shiftAVs, AVrels]
    exact ⟨v, vs', rfl, shift_rel base n hβ x v ho.1 h1, shifts_rel base n hβ xs vs' ho.2 h2⟩
end

mutual
theorem light_rel : ∀ (x : AV) (v : Value), x.light = true → AVrel w A β v x → AVrel w A' β v x
  | .own _, v, _, h => by simpa only [AVrel] using h
  | .agg cs, v, ho, h => by
    simp only [AV.light] at ho
    simp only [AVrel] at h ⊢
    obtain ⟨arr, h1, h2⟩ := h
    exact ⟨arr, h1, lights_rel cs _ ho h2⟩
  | .tup cs, v, ho, h => by
    simp only [AV.light] at ho
    simp only [AVrel] at h ⊢
    obtain ⟨arr, h1, h2⟩ := h
    exact ⟨arr, h1, lights_rel cs _ ho h2⟩
  | .junk, v, ho, h => by simp [AV.light] at ho
  | .pre _ _, v, ho, h => by simp [AV.light] at ho
  | .view _ _ _ _, v, ho, h => by simp [AV.light] at ho
  | .ref _ _, v, ho, h => by simp [AV.light] at ho
  | .elem _ _ _ _, v, ho, h => by simp [AV.light] at ho
  | .fn _ _ _, v, ho, h => by simp [AV.light] at ho
  | .selem _ _ _, v, ho, h => by simp [AV.light] at ho
  | .nilp, v, ho, h => by simp [AV.light] at ho
  | .nilf, v, ho, h => by simp [AV.light] at ho
  | .sl _ _, v, ho, h => by simp [AV.light] at ho
  | .full _ _, v, ho, h => by simp [AV.light] at ho
  | .undef, v, _, h => by simpa only [AVrel] using h
  | .int _ _, v, _, h => by simpa only [AVrel] using h
  | .bool _, v, _, h => by simpa only [AVrel] using h
  | .tt, v, _, h => by simpa only [AVrel] using h
  | .ff, v, _, h => by simpa only [AVrel] using h
  | .str _, v, _, h => by simpa only [AVrel] using h
  | .nil, v, _, h => by simpa only [AVrel] using h
theorem lights_rel : ∀ (xs : List AV) (vs : List Value), lights xs = true → AVrels w A β vs xs → AVrels w A' β vs xs
  | [], vs, _, h => by simpa only [AVrels] using h
  | x :: xs, vs, ho, h => by
    simp only [lights, Bool.and_eq_true] at ho
    simp only [AVrels] at h ⊢
    obtain ⟨v, vs', rfl, h1, h2⟩ := h
    exact ⟨v, vs', rfl, light_rel x v ho.1 h1, lights_rel xs vs' ho.2 h2⟩
end

theorem flat_rd : ∀ (row : List Ty) (vs : List Value) (x : Row row), row.all flatTy = true → RdV w A row vs x → RdV w A' row vs x
  | [], vs, _, _, h => by simpa only [RdV] using h
  | t :: ts, vs, x, hf, h => by
    simp only [List.all_cons, Bool.and_eq_true] at hf
    simp only [RdV] at h ⊢
    obtain ⟨v, vs', rfl, h1, h2⟩ := h
    refine ⟨v, vs', rfl, ?_, flat_rd ts vs' _ hf.2 h2⟩
    cases t with
    | slice r => simp [flatTy] at hf
    | int k => simpa only [Rd] using h1
    | bool => simpa only [Rd] using h1
    | str => simpa only [Rd] using h1

theorem upsOf_find (base : Nat) : ∀ (bs : List AB) (n k : Nat), hfind (upsOf (base + n) bs) k = (if base + n ≤ k then bs[k - (base + n)]? else none)
  | [], n, k => by simp [upsOf, hfind]
  | b :: bs, n, k => by
    simp only [upsOf, hfind]
    by_cases hk : k = base + n
    · subst hk; simp
    · simp only [nbeq_false hk, cond_false]
      have := upsOf_find base bs (n + 1) k
      rw [show base + (n + 1) = base + n + 1 by omega] at this
      rw [this]
      by_cases h1 : base + n ≤ k
      · rw [if_pos h1, if_pos (by omega)]
        have : k - (base + n) = (k - (base + n + 1)) + 1 := by omega
        rw [this, List.getElem?_cons_succ]
      · rw [if_neg h1, if_neg (by omega)]

theorem onlyRows_get : ∀ (bs : List AB) (i : Nat) (ab : AB), onlyRows bs = true → bs[i]? = some ab → ∃ e row l, ab = .row e row l false
  | [], i, ab, _, h => by simp at h
  | .cells _ :: bs, _, _, h, _ => by simp [onlyRows] at h
  | .views _ _ _ _ _ :: bs, _, _, h, _ => by simp [onlyRows] at h
  | .row e row l true :: bs, _, _, h, _ => by simp [onlyRows] at h
  | .row e row l false :: bs, 0, ab, _, h => by simp at h; exact ⟨e, row, l, h.symm⟩
  | .row e row l false :: bs, i + 1, ab, ho, h => onlyRows_get bs i ab (by simpa [onlyRows] using ho) (by simpa using h)
theorem flatRows_get : ∀ (bs : List AB) (i : Nat) (e : Nat) (row : List Ty) (l : List (Row row)) (fr : Bool), flatRows bs = true → bs[i]? = some (.row e row l fr) → row.all flatTy = true
  | [], i, _, _, _, _, _, h => by simp at h
  | .cells _ :: bs, _, _, _, _, _, h, _ => by simp [flatRows] at h
  | .views _ _ _ _ _ :: bs, _, _, _, _, _, h, _ => by simp [flatRows] at h
  | .row e row l fr :: bs, 0, e', row', l', fr', ho, h => by
    simp only [flatRows, Bool.and_eq_true] at ho
    simp only [List.getElem?_cons_zero, Option.some.injEq, AB.row.injEq] at h
    obtain ⟨_, rfl, _⟩ := h
    exact ho.1
  | .row e row l fr :: bs, i + 1, e', row', l', fr', ho, h => by
    simp only [flatRows, Bool.and_eq_true] at ho
    exact flatRows_get bs i e' row' l' fr' ho.2 (by simpa using h)

theorem newOk_dead {h : Heap} : ∀ (new : List (Nat × AB)) (k : Nat) (b : AB), newOk h new = true → hfind new k = some b → h k = none
  | [], k, b, _, hf => by simp [hfind] at hf
  | (j, x) :: r, k, b, ho, hf => by
    simp only [newOk, Bool.and_eq_true] at ho
    simp only [hfind] at hf
    by_cases hk : k = j
    · subst hk
      cases hh : h k with
      | none => rfl
      | some y => simp [hh] at ho
    · simp only [nbeq_false hk, cond_false] at hf
      exact newOk_dead r k b ho.2 hf

/-- behind a call -/
theorem RelB.call (hB : RelB C A β st a w) {dst : Option Nat} (hd : ∀ t, dst = some t → t < st.n) {base : Nat} {res : AV} {bs : List AB} {fz : List Nat} {cond : List Prop} {v : Value} {w' : World} {A1 : Nat → Prop} {β1 : Nat → Value}
    (hfz : ∀ j ∈ fz, ∃ e row l fr, st.h j = some (.row e row l fr)) (hnew : newOk st.h (upsOf base bs) = true) (hro : resOk bs.length res = true) (hor : onlyRows bs = true)
    (hp : CallPost w (frozenA A β fz) w' v res bs A1 β1) :
    Rel C (st.put dst { cond := cond, res := shiftAV base res, upd := bif res.light && flatRows bs then [] else freezes st.h fz, new := upsOf base bs }) (a.put dst v) w' := by
  let β' : Nat → Value := fun k => if base ≤ k ∧ k < base + bs.length then β1 (k - base) else β k
  have hβ1 : ∀ i, i < bs.length → β' (base + i) = β1 i := by
    intro i hi
    simp only [β']
    rw [if_pos (by omega)]
    congr 1; omega
  have hfind' : ∀ k, hfind (upsOf base bs) k = (if base ≤ k then bs[k - base]? else none) := fun k => by simpa using upsOf_find base bs 0 k
  have hβ : ∀ k, hfind (upsOf base bs) k = none → β' k = β k := by
    intro k h
    rw [hfind' k] at h
    simp only [β']
    rw [if_neg]
    rintro ⟨h1, h2⟩
    rw [if_pos h1, List.getElem?_eq_none_iff] at h
    omega
  have hget : ∀ k ab, hfind (upsOf base bs) k = some ab → base ≤ k ∧ bs[k - base]? = some ab ∧ k - base < bs.length := by
    intro k ab h
    rw [hfind' k] at h
    split at h
    · rename_i hb
      exact ⟨hb, h, (List.getElem?_eq_some_iff.1 h).1⟩
    · cases h
  have hβk : ∀ k ab, hfind (upsOf base bs) k = some ab → β' k = β1 (k - base) := by
    intro k ab h
    obtain ⟨h1, h2, h3⟩ := hget k ab h
    have := hβ1 (k - base) h3
    rwa [show base + (k - base) = k by omega] at this
  -- the set of given blocks behind the call
  let A2 : Nat → Prop := bif res.light && flatRows bs then A else A1
  have hAA2 : ∀ b, A b → A2 b := by
    intro b hb
    simp only [A2]
    cases res.light && flatRows bs with
    | true => exact hb
    | false => exact hp.mono b (.inl hb)
  have hK : Keeps w w' A A2 := fun b hb => ⟨hAA2 b hb, hp.same b (hB.bound b hb)⟩
  have hupd : ∀ k ab, hfind (bif res.light && flatRows bs then [] else freezes st.h fz) k = some ab → (res.light && flatRows bs) = false ∧ k ∈ fz ∧ ∃ e row l fr, st.h k = some (.row e row l fr) ∧ ab = .row e row l true := by
    intro k ab h
    cases hl : res.light && flatRows bs with
    | true => simp [hl, hfind] at h
    | false =>
      rw [hl] at h
      obtain ⟨h1, h2⟩ := freezes_find fz k ab h
      exact ⟨rfl, h1, h2⟩
  refine ⟨A2, β', ?_⟩
  refine hB.step (out := { cond := cond, res := shiftAV base res, upd := bif res.light && flatRows bs then [] else freezes st.h fz, new := upsOf base bs }) hd (fun k b h => newOk_dead _ k b hnew h) ?_ hβ hK hp.os hp.tape hp.output hp.size (fun b hb _ => hp.same b hb) ?_ ?_ ?_ ?_ ?_ ?_ ?_
  · intro k b h
    obtain ⟨_, _, e, row, l, fr, h, _⟩ := hupd k b h
    simp [h]
  · intro b hb
    simp only [A2] at hb
    cases hl : res.light && flatRows bs with
    | true => rw [hl] at hb; exact Nat.lt_of_lt_of_le (hB.bound b hb) hp.size
    | false => rw [hl] at hb; exact hp.bound b hb
  · intro b hb
    simp only [A2] at hb
    cases hl : res.light && flatRows bs with
    | true => rw [hl] at hb; exact .inl hb
    | false =>
      rw [hl] at hb
      rcases Nat.lt_or_ge b w.heap.size with hlt | hge
      · rcases hp.old b hlt hb with h | ⟨j, hj, hbj⟩
        · exact .inl h
        · have hr := hfz j hj
          refine .inr (.inr ⟨j, ⟨by obtain ⟨_, _, _, _, hr⟩ := hr; simp [hr], .inl ?_⟩, hbj⟩)
          simp only [cond_false]
          exact freezes_some fz j hj hr
      · exact .inr (.inl hge)
  · intro k ab h _
    obtain ⟨hl, hk, e, row, l, fr, hr, rfl⟩ := hupd k ab h
    rw [scrubBs_row]
    have hkn : hfind (upsOf base bs) k = none := by
      cases hh : hfind (upsOf base bs) k with
      | none => rfl
      | some y => have := newOk_dead _ k y hnew hh; rw [hr] at this; cases this
    obtain ⟨xs, h1, h2, h3⟩ := hB.blocks k _ hr
    simp only [BR, hβ k hkn]
    refine ⟨xs, ownsRow_keep h1 (fun b hb => hp.same b (live_lt hB (by simp [hr]) hb)), RdL_mono (fun c x hx => RdV_mono hK row c x hx) l xs h2, fun b hb => ?_⟩
    simp only [if_true, A2, hl, cond_false]
    exact hp.mono b (.inr ⟨k, hk, hb⟩)
  · intro k ab h
    obtain ⟨h1, h2, h3⟩ := hget k ab h
    obtain ⟨e, row, l, rfl⟩ := onlyRows_get bs _ ab hor h2
    obtain ⟨⟨xs, g1, g2, g3⟩, g4⟩ := hp.rows _ _ h2
    simp only [BR, hβk k _ h]
    have hrd : RdL (RdV w' A2 row) xs l := by
      simp only [A2]
      cases hl : res.light && flatRows bs with
      | true =>
        simp only [Bool.and_eq_true] at hl
        exact RdL_mono (fun c x hx => flat_rd row c x (flatRows_get bs _ e row l false hl.2 h2) hx) l xs g2
      | false => exact g2
    refine ⟨xs, g1, hrd, fun b hb => ?_⟩
    have g3' := g3 b hb
    simp only [Bool.false_eq_true, if_false] at g3' ⊢
    simp only [A2]
    cases hl : res.light && flatRows bs with
    | true => intro hA; exact absurd (hB.bound b hA) (by have := g4 b hb; omega)
    | false => exact g3'
  · intro k b ab h hb
    obtain ⟨h1, h2, h3⟩ := hget k ab h
    rw [hβk k _ h] at hb
    exact .inl ((hp.rows _ _ h2).2 b hb)
  · intro k k' b h h' hb hb'
    obtain ⟨x, hx⟩ := Option.isSome_iff_exists.1 h
    obtain ⟨y, hy⟩ := Option.isSome_iff_exists.1 h'
    obtain ⟨h1, h2, h3⟩ := hget k x hx
    obtain ⟨g1, g2, g3⟩ := hget k' y hy
    rw [hβk k _ hx] at hb
    rw [hβk k' _ hy] at hb'
    have := hp.apart _ _ b h3 g3 hb hb'
    omega
  · have hres := shift_rel (β' := β') base bs.length hβ1 res v hro hp.res
    simp only [A2]
    cases hl : res.light && flatRows bs with
    | false => exact hres
    | true =>
      simp only [Bool.and_eq_true] at hl
      exact shift_rel (β' := β') base bs.length hβ1 res v hro (light_rel res v hl.1 hp.res)
end
end Go.Vg
/-
  A VERIFIED VC GENERATOR, part R: every operation does what the abstract machine says.
-/
namespace Go.Vg
open Go

/-- a function that has a body is entered -/
def FnOk (P : Program) (f : FuncId) : Prop := ∀ (args : Array Value) (w : World), (callFunc f args).run P w = .ok (.enter f args) w

structure EnvOk (P : Program) (E : Env) : Prop where
  tab : TabOk E.T P
  sig : ∀ f s, E.sig f = some s → Valid P f s ∧ FnOk P f

def dstOk (st : St) (o : Oper) : Bool := match o.dst with
  | some d => Nat.blt d st.n
  | none => true

section
variable {P : Program} {C : Ctx} {A A' : Nat → Prop} {β β' : Nat → Value} {st : St} {a : Act} {w : World} {E : Env}

theorem ev_rels (hB : RelB C A β st a w) : ∀ (xs : List Operand), AVrels w A β (xs.map a.eval) (xs.map (ev st.t))
  | [] => by simp [AVrels]
  | x :: xs => by
    simp only [List.map_cons, AVrels]
    exact ⟨_, _, rfl, ev_rel hB x, ev_rels hB xs⟩

theorem does_value {dst : Option Tmp} {op : Op} {type : TypeId} {pos : String} {after : Array Edge} {guard : Option (Nat × Bool)} {s : Sem Value} {out : Out}
    (hs : ∀ w, (execOp a.eval ⟨dst, op, type, pos, after, guard⟩).run P w = (s.run P w).andThen fun v w' => .ok (.value v) w') (h : ∃ v w', s.run P w = .ok v w' ∧ Rel C (st.put dst out) (a.put dst v) w')
    {K : Act → World → Prop} {Q : Exit → Act → World → Prop} (hK : ∀ a' w', Rel C (st.put dst out) a' w' → K a' w') : Oper.wp P ⟨dst, op, type, pos, after, guard⟩ a w K Q := by
  obtain ⟨v, w', h1, h2⟩ := h
  refine wp_value (v := v) (w' := w') ?_ (hK _ _ h2)
  rw [hs, h1]; rfl

theorem opt_rel (hB : RelB C A β st a w) : ∀ (x : Option Operand), OptRel w A β (x.map (ev st.t)) (x.map a.eval)
  | none => by simp [OptRel]
  | some x => by simp only [Option.map_some, OptRel]; exact ev_rel hB x

theorem dead_of {d : Nat} {b : AB} (h : newOk st.h [(d, b)] = true) : st.h d = none := newOk_dead _ d b h (by simp [hfind])
theorem fresh_ok {h : Heap} {k : Nat} (hf : fresh h k = true) : h k = none := by
  unfold fresh at hf
  cases hk : h k with
  | none => rfl
  | some b => simp [hk] at hf

theorem act0_sound (hE : EnvOk P E) (hB : RelB C A β st a w) {o : Oper} {out : Out} (h : act0 E st o = some out) (hdst : dstOk st o = true) (hnew : newOk st.h out.new = true) (hc : ∀ p ∈ out.cond, p)
    {K : Act → World → Prop} {Q : Exit → Act → World → Prop} (hK : ∀ a' w', Rel C (st.put o.dst out) a' w' → K a' w') : o.wp P a w K Q := by
  have hd : ∀ t, o.dst = some t → t < st.n := by
    intro t ht
    unfold dstOk at hdst
    rw [ht] at hdst
    exact Nat.le_of_ble_eq_true hdst
  obtain ⟨dst, op, type, pos, after, guard⟩ := o
  simp only at hd hK
  cases op with
  | move x =>
    simp only [act0, Option.some.injEq] at h; subst h
    exact wp_value (by simp [execOp]) (hK _ _ (Rel.ofB (hB.quiet hd ⟨rfl, rfl, rfl⟩ (ev_rel hB x))))
  | assign x =>
    simp only [act0, Option.some.injEq] at h; subst h
    exact wp_value (by simp [execOp]) (hK _ _ (Rel.ofB (hB.quiet hd ⟨rfl, rfl, rfl⟩ (ev_rel hB x))))
  | pick c x y =>
    simp only [act0] at h
    have hcr := ev_rel hB c
    have hx := ev_rel hB x
    have hy := ev_rel hB y
    split at h
    · rename_i hcv
      simp only [Option.some.injEq] at h; subst h
      rw [hcv] at hcr; simp only [AVrel] at hcr
      exact wp_value (v := a.eval x) (by simp [execOp, hcr, asBool]) (hK _ _ (Rel.ofB (hB.quiet hd ⟨rfl, rfl, rfl⟩ hx)))
    · rename_i hcv
      simp only [Option.some.injEq] at h; subst h
      rw [hcv] at hcr; simp only [AVrel] at hcr
      exact wp_value (v := a.eval y) (by simp [execOp, hcr, asBool]) (hK _ _ (Rel.ofB (hB.quiet hd ⟨rfl, rfl, rfl⟩ hy)))
    · rename_i p hcv
      simp only [Option.some.injEq] at h; subst h
      rw [hcv] at hcr; simp only [AVrel] at hcr
      refine wp_value (v := if p then a.eval x else a.eval y) (by simp [execOp, hcr, asBool]) (hK _ _ (Rel.ofB (hB.quiet hd ⟨rfl, rfl, rfl⟩ ?_)))
      refine AVrel_mergeV p _ _ ?_
      cases p
      · simpa using hy
      · simpa using hx
    · cases h
  | alloc t =>
    simp only [act0] at h
    split at h
    · rename_i te d ht
      cases hone : (ofConst te.zero).cells.all AV.one with
      | false => simp [hone] at h
      | true =>
        simp only [hone, cond_true, Option.some.injEq] at h; subst h
        exact does_value (fun w => by simp [execOp]) (sound_alloc hE.tab hB hd (dead_of hnew) ht hone) hK
    · cases h
  | box t x =>
    simp only [act0] at h
    split at h
    · rename_i d
      cases hone : (ev st.t x).cells.all AV.one with
      | false => simp [hone] at h
      | true =>
        simp only [hone, cond_true, Option.some.injEq] at h; subst h
        exact does_value (fun w => by simp [execOp]) (sound_box (t := t) hB hd (dead_of hnew) (ev_rel hB x) hone) hK
    · cases h
  | build t parts =>
    simp only [act0] at h
    refine does_value (s := Instr.build t (parts.map fun (i, x) => (i, a.eval x))) (fun w => by simp [execOp]) (Reads.does hB hd (sound_build hE.tab ?_ ?_ h)) hK
    · simp [Function.comp_def]
    · have := ev_rels hB (parts.toList.map (·.2))
      simpa [Function.comp_def] using this
  | buildSlice t len parts =>
    simp only [act0] at h
    split at h
    · rename_i d
      cases hf : fresh st.h (st.kb + d) with
      | false => simp [hf] at h
      | true =>
      simp only [hf, cond_true] at h
      have hn := fresh_ok hf
      refine does_value (s := Instr.buildSlice t len (parts.map fun (i, x) => (i, a.eval x))) (fun w => by simp [execOp]) (sound_buildSlice hE.tab hB hd hn ?_ ?_ h) hK
      · simp [Function.comp_def]
      · have := ev_rels hB (parts.toList.map (·.2))
        simpa [Function.comp_def] using this
    · cases h
  | load t x =>
    simp only [act0] at h
    exact does_value (fun w => by simp [execOp]) (Reads.does hB hd (sound_load hE.tab hB (ev_rel hB x) h hc)) hK
  | store t x y =>
    simp only [act0] at h
    have hx := ev_rel hB x
    have hy := ev_rel hB y
    have key : ∃ w', (Instr.storeAt t (a.eval x) (a.eval y)).run P w = .ok () w' ∧ Rel C (st.put dst out) (a.put dst undef) w' := by
      cases hxv : ev st.t x with
      | ref k off => rw [hxv] at h hx; exact sound_store_ref hE.tab hB hd hx hy h
      | elem k sz i j => rw [hxv] at h hx; exact sound_store_elem hE.tab hB hd hx hy h hc
      | _ => rw [hxv] at h; simp [actStore] at h
    obtain ⟨w', h1, h2⟩ := key
    exact wp_skip' (w' := w') (by simp [execOp, h1]) (hK _ _ h2)
  | nilCheck x =>
    simp only [act0] at h
    have hx := ev_rel hB x
    have fin : ∀ r, ev st.t x = r → out = { cond := [], res := r } → (execOp a.eval { dst, op := .nilCheck x, type, pos, after, guard }).run P w = .ok (.value (a.eval x)) w → Oper.wp P { dst, op := .nilCheck x, type, pos, after, guard } a w K Q := by
      intro r hr ho hrun
      subst ho
      exact wp_value hrun (hK _ _ (Rel.ofB (hB.quiet hd ⟨rfl, rfl, rfl⟩ (by rw [← hr]; exact hx))))
    split at h
    · rename_i k off hv
      simp only [Option.some.injEq] at h
      refine fin _ hv h.symm ?_
      rw [hv] at hx; simp only [AVrel] at hx
      obtain ⟨b, _, hx⟩ := hx
      simp [execOp, hx]
    · rename_i r y j hv
      simp only [Option.some.injEq] at h
      refine fin _ hv h.symm ?_
      rw [hv] at hx; simp only [AVrel] at hx
      obtain ⟨b, o, cs, hx, _⟩ := hx
      simp [execOp, hx]
    · rename_i k sz i j hv
      simp only [Option.some.injEq] at h
      refine fin _ hv h.symm ?_
      rw [hv] at hx; simp only [AVrel] at hx
      obtain ⟨b, m, cap, _, hx⟩ := hx
      simp [execOp, hx]
    · rename_i f first caps hv
      simp only [Option.some.injEq] at h
      refine fin _ hv h.symm ?_
      rw [hv] at hx; simp only [AVrel] at hx
      obtain ⟨a1, a2, hx, _⟩ := hx
      simp [execOp, hx]
    · cases h
  | binOp op t x y yt =>
    simp only [act0] at h
    exact does_value (s := do eqGuard op t x y (a.eval x) (a.eval y); binOp op t (a.eval x) (a.eval y)) (fun w => by
      simp only [execOp, Sem.run_bind]
      cases (eqGuard op t x y (a.eval x) (a.eval y)).run P w <;> simp) (Reads.does hB hd (sound_bin hE.tab (ev_rel hB x) (ev_rel hB y) h hc)) hK
  | unOp op t x =>
    simp only [act0] at h
    exact does_value (fun w => by simp [execOp]) (Reads.does hB hd (sound_un (ev_rel hB x) h hc)) hK
  | convert s d x =>
    simp only [act0] at h
    exact does_value (fun w => by simp [execOp]) (sound_convert hE.tab hB hd (ev_rel hB x) h hc) hK
  | makeFunc f first caps =>
    simp only [act0, Option.some.injEq] at h; subst h
    refine wp_value (v := .func f (first.map a.eval) (caps.map a.eval)) (by simp [execOp, Instr.makeFunc]) (hK _ _ (Rel.ofB (hB.quiet hd ⟨rfl, rfl, rfl⟩ ?_)))
    simp only [AVrel]
    exact ⟨_, _, rfl, by simpa using ev_rels hB first.toList, by simpa using ev_rels hB caps.toList⟩
  | makeSlice t l c =>
    simp only [act0] at h
    split at h
    · rename_i d
      cases hf : fresh st.h (st.kb + d) with
      | false => simp [hf] at h
      | true =>
      simp only [hf, cond_true] at h
      exact does_value (fun w => by simp [execOp]) (sound_makeSlice hE.tab hB hd (fresh_ok hf) (ev_rel hB l) (ev_rel hB c) h hc) hK
    · cases h
  | slice t x l hi mx =>
    simp only [act0] at h
    exact does_value (fun w => by simp [execOp]) (Reads.does hB hd (sound_slice hE.tab hB (ev_rel hB x) (opt_rel hB l) (opt_rel hB hi) (opt_rel hB mx) h hc)) hK
  | fieldAddr s x f =>
    simp only [act0] at h
    exact does_value (fun w => by simp [execOp]) (Reads.does hB hd (sound_fieldAddr hE.tab (ev_rel hB x) h)) hK
  | field s x f =>
    simp only [act0] at h
    have hx := ev_rel hB x
    split at h
    · rename_i ft off cs hf hv
      split at h
      · rename_i te ht
        split at h
        · rename_i r hp
          simp only [Option.some.injEq] at h; subst h
          rw [hv] at hx; simp only [AVrel] at hx
          obtain ⟨arr, hx, hr⟩ := hx
          obtain ⟨fs, fd, hu, hfd, e1, e2⟩ := fieldOf_ok hE.tab hf
          obtain ⟨v, g1, g2⟩ := run_part hE.tab ht hr hp
          refine wp_value (v := v) (w' := w) ?_ (hK _ _ (Rel.ofB (hB.quiet hd ⟨rfl, rfl, rfl⟩ g2)))
          rw [← e1, ← e2] at g1
          simp [execOp, Instr.field, run_underlying hu, hfd, hx, asAgg, g1]
        · cases h
      · cases h
    · cases h
  | indexAddr t x i =>
    simp only [act0] at h
    exact does_value (fun w => by simp [execOp]) (Reads.does hB hd (sound_indexAddr hE.tab hB (ev_rel hB x) (ev_rel hB i) h hc)) hK
  | extract x i =>
    simp only [act0] at h
    have hx := ev_rel hB x
    split at h
    · rename_i vs hv
      split at h
      · rename_i r hr
        simp only [Option.some.injEq] at h; subst h
        rw [hv] at hx; simp only [AVrel] at hx
        obtain ⟨arr, hx, hrel⟩ := hx
        obtain ⟨v, g1, g2⟩ := AVrels_get vs _ i r hrel hr
        have g1' : arr[i]? = some v := by simpa using g1
        exact wp_value (v := v) (w' := w) (by simp [execOp, Instr.extract, hx, g1']) (hK _ _ (Rel.ofB (hB.quiet hd ⟨rfl, rfl, rfl⟩ g2)))
      · cases h
    · cases h
  | index t x i =>
    simp only [act0] at h
    have hx := ev_rel hB x
    have hi := ev_rel hB i
    split at h
    · rename_i s k n hxv hiv
      cases hdd : descIs E.T t isStrD with
      | false => simp [hdd] at h
      | true =>
      simp only [hdd, cond_true, Option.some.injEq] at h; subst h
      obtain ⟨h0, h1⟩ := mem0 hc
      obtain ⟨dd, hu, hstr⟩ := descIs_ok hE.tab hdd
      have hu : P.underlying t = some .string := by rw [hu]; cases dd <;> simp_all [isStrD]
      rw [hxv] at hx; rw [hiv] at hi; simp only [AVrel] at hx hi
      have hlt : n.toNat < s.length := by omega
      refine wp_value (v := .int .u8 ((s.getD n.toNat 0).toNat : Int)) (w' := w) ?_ (hK _ _ (Rel.ofB (hB.quiet hd ⟨rfl, rfl, rfl⟩ ?_)))
      · have hg : (⟨s.toArray⟩ : ByteArray)[n.toNat]? = some (s.getD n.toNat 0) := by
          rw [getElem?_pos _ _ (by rw [size_mk]; exact hlt)]
          simp [List.getD, List.getElem?_eq_getElem hlt]
          rfl
        simp [execOp, Instr.index, hx.1, hi.1, asIntOf, run_underlying hu, h0, hg]
      · simp only [AVrel, true_and]
        have := (s.getD n.toNat 0).toNat_lt
        simp only [lo, Vg.hi]; omega
    · cases h
  | call c =>
    obtain ⟨callee, args, argTypes⟩ := c
    simp only [act0] at h
    split at h
    · rename_i b
      split at h
      · rename_i x t hargs hts
        have hx := ev_rel hB x
        split at h
        · rename_i n hn
          cases hq : (bif notStr (ev st.t x) then descIs E.T t isSliceD else descIs E.T t isStrD) with
          | false => simp [hq] at h
          | true =>
            simp only [hq, cond_true, Option.some.injEq] at h; subst h
            have ea : args = #[x] := by apply Array.ext'; simpa using hargs
            have et : argTypes = #[t] := by apply Array.ext'; simpa using hts
            subst ea; subst et
            rcases len_slice hB hx hn with ⟨ad, l, c, hv, hl, hm⟩ | ⟨s, hs, hl⟩
            · have hns : notStr (ev st.t x) = true := by
                cases hxv : ev st.t x <;> first | rfl | skip
                rw [hxv] at hx; simp only [AVrel] at hx; rw [hv] at hx; cases hx.1
              rw [hns] at hq; simp only [cond_true] at hq
              obtain ⟨d, hu, hdd⟩ := descIs_ok hE.tab hq
              obtain ⟨e, rfl⟩ : ∃ e, d = .slice e := by cases d <;> simp_all [isSliceD]
              refine wp_value (v := .int .i64 (l : Int)) (w' := w) ?_ (hK _ _ (Rel.ofB (hB.quiet hd ⟨rfl, rfl, rfl⟩ (by rw [hl]; exact one_i64 l hm))))
              simp [execOp, resolve, invoke, builtin, hv, Builtin.len_, run_underlying hu, goInt]
            · rw [hs] at hx hq
              simp only [notStr, cond_false] at hq
              obtain ⟨d, hu, hdd⟩ := descIs_ok hE.tab hq
              have hu : P.underlying t = some .string := by rw [hu]; cases d <;> simp_all [isStrD]
              simp only [AVrel] at hx
              refine wp_value (v := .int .i64 (s.length : Int)) (w' := w) ?_ (hK _ _ (Rel.ofB (hB.quiet hd ⟨rfl, rfl, rfl⟩ (by rw [hl]; exact one_i64 _ hx.2))))
              simp [execOp, resolve, invoke, builtin, hx.1, Builtin.len_, run_underlying hu, goInt, size_mk]
        · cases h
      · rename_i x y t t' hargs hts
        split at h
        · rename_i d
          cases hf : fresh st.h (st.kb + d) with
          | false => simp [hf] at h
          | true =>
            simp only [hf, cond_true] at h
            have ea : args = #[x, y] := by apply Array.ext'; simpa using hargs
            have et : argTypes = #[t, t'] := by apply Array.ext'; simpa using hts
            subst ea; subst et
            exact does_value (s := Builtin.append_ #[t, t'] type #[a.eval x, a.eval y]) (fun w => by simp [execOp, resolve, invoke, builtin]) (sound_append hE.tab hB hd (fresh_ok hf) (ev_rel hB x) (ev_rel hB y) h hc) hK
        · cases h
      · rename_i x y t t' hargs hts
        have ea : args = #[x, y] := by apply Array.ext'; simpa using hargs
        have et : argTypes = #[t, t'] := by apply Array.ext'; simpa using hts
        subst ea; subst et
        exact does_value (s := Builtin.copy_ #[t, t'] type #[a.eval x, a.eval y]) (fun w => by simp [execOp, resolve, invoke, builtin]) (sound_copy hE.tab hB hd (ev_rel hB x) (ev_rel hB y) h hc) hK
      · rename_i x y hargs
        have ea : args = #[x, y] := by apply Array.ext'; simpa using hargs
        subst ea
        have hx := ev_rel hB x
        have hy := ev_rel hB y
        split at h
        · rename_i k n k' m hxv hyv
          split at h
          · rename_i hk
            subst hk
            simp only [Option.some.injEq] at h; subst h
            rw [hxv] at hx; rw [hyv] at hy; simp only [AVrel] at hx hy
            refine wp_value (v := .int k (min n m)) (w' := w) ?_ (hK _ _ (Rel.ofB (hB.quiet hd ⟨rfl, rfl, rfl⟩ (by simp only [AVrel, true_and]; omega))))
            have e : (if m < n then m else n) = min n m := by split <;> omega
            simp [execOp, resolve, invoke, builtin, hx.1, hy.1, run_min_int2, e]
          · cases h
        · cases h
      · rename_i x y hargs
        have ea : args = #[x, y] := by apply Array.ext'; simpa using hargs
        subst ea
        have hx := ev_rel hB x
        have hy := ev_rel hB y
        split at h
        · rename_i k n k' m hxv hyv
          split at h
          · rename_i hk
            subst hk
            simp only [Option.some.injEq] at h; subst h
            rw [hxv] at hx; rw [hyv] at hy; simp only [AVrel] at hx hy
            refine wp_value (v := .int k (max n m)) (w' := w) ?_ (hK _ _ (Rel.ofB (hB.quiet hd ⟨rfl, rfl, rfl⟩ (by simp only [AVrel, true_and]; omega))))
            have e : (if m > n then m else n) = max n m := by split <;> omega
            simp [execOp, resolve, invoke, builtin, hx.1, hy.1, run_max_int2, e]
          · cases h
        · cases h
      · cases h
    · rename_i f
      have hf := ev_rel hB f
      have key : ∀ (fid : FuncId) (first caps : List AV) (base : Nat), ev st.t f = .fn (.func fid) first caps → actCall E st.h base fid (first ++ (args.toList.map (ev st.t)) ++ caps) = some out →
          Oper.wp P { dst, op := .call { callee := .value f, args, argTypes }, type, pos, after, guard } a w K Q := by
        intro fid first caps base hfv hact
        rw [hfv] at hf; simp only [AVrel] at hf
        obtain ⟨a1, a2, hfe, r1, r2⟩ := hf
        unfold actCall at hact
        split at hact
        · rename_i s hs
          split at hact
          · rename_i pre res bs hsv
            cases hq : (Nat.ble bs.length 100 && resOk bs.length res && onlyRows bs) with
            | false => simp [hq] at hact
            | true =>
              simp only [hq, cond_true, Option.some.injEq] at hact
              subst hact
              simp only [Bool.and_eq_true] at hq
              obtain ⟨hv, hfn⟩ := hE.sig fid s hs
              have hargs := AVrels_append _ _ _ _ (AVrels_append _ _ _ _ r1 (ev_rels hB args.toList)) r2
              obtain ⟨p1, p2⟩ := purs_rel (A' := frozenA A β (purs st.h (first ++ (args.toList.map (ev st.t)) ++ caps)).2) hB (fun b h => .inl h) _ _ hargs (fun k hk b hb => .inr ⟨k, hk, hb⟩)
              have hbd : ∀ b, frozenA A β (purs st.h (first ++ (args.toList.map (ev st.t)) ++ caps)).2 b → b < w.heap.size := by
                intro b h
                rcases h with h | ⟨j, hj, hb⟩
                · exact hB.bound b h
                · obtain ⟨e', r', l', f', hr⟩ := p2 j hj
                  exact live_lt hB (by simp [hr]) hb
              have hcall := hv w _ β _ _ pre res bs hbd p1 hsv (mem0 hc)
              have hrun : (execOp a.eval { dst, op := .call { callee := .value f, args, argTypes }, type, pos, after, guard }).run P w = .ok (.enter fid (a1.toList ++ args.toList.map a.eval ++ a2.toList).toArray) w := by
                have e : (a1 ++ args.map a.eval) ++ a2 = (a1.toList ++ args.toList.map a.eval ++ a2.toList).toArray := by
                  apply Array.ext'; simp
                have := hfn (a1 ++ args.map a.eval ++ a2) w
                rw [e] at this
                simp only [execOp, resolve, hfe, Deferred.ofValue, Sem.run_bind, Sem.run_pure, Result.andThen_ok, invoke, e, this]
              unfold Oper.wp
              rw [hrun]
              simp only [Oper.upon_enter]
              refine hcall.mono fun e w' ⟨v, he, A1, β1, hpost⟩ => ?_
              subst he
              exact hK _ _ (hB.call hd p2 hnew hq.1.2 hq.2 hpost)
          · cases hact
        · cases hact
      split at h
      · rename_i fid first caps d hfv
        exact key fid first caps _ hfv h
      · rename_i fid first caps hfv
        exact key fid first caps _ hfv h
      · cases h
    · cases h
  | _ => simp [act0] at h
end
end Go.Vg
/-
  A VERIFIED VC GENERATOR, part RA: rows of slices that lie in one row of bytes of our own.
-/
namespace Go.Vg
open Go

def shiftAB (base : Nat) : AB → AB
  | .views e (some j) n m sz => .views e (some (base + j)) n m sz
  | b => b
def viewsOk (k : Nat) : List AB → Bool
  | [] => true
  | .row _ _ _ false :: r => viewsOk k r
  | .views _ (some j) _ _ _ :: r => Nat.blt j k && viewsOk k r
  | _ => false

def actCallV (E : Env) (h : Heap) (d : Nat) (f : Nat) (args : List AV) : Option Out := match E.sig f with
  | some s => match s (purs h args).1 with
    | some (pre, res, bs) => bif Nat.ble bs.length 100 && resOk bs.length res && viewsOk bs.length bs then
      some {cond := [pre], res := shiftAV (callBase d) res, upd := freezes h (purs h args).2, new := upsOf (callBase d) (bs.map (shiftAB (callBase d)))} else none
    | none => none
  | none => none

def actV (E : Env) (st : St) (o : Oper) : Option Out :=
  let T := E.T
  let h := st.h
  let ρ := ev st.t
  match o.op with
  | .load t p => match ρ p, T.find t with
    | .elem k sz i j, some te => match h k with
      | some (.views _ (some k2) _ m s2) => bif Nat.beq sz 1 && Nat.beq j 0 && isSliceD te.desc then some {cond := [i < m], res := .view k2 1 (i * s2) s2} else none
      | _ => none
    | _, _ => none
  | .store t p v => match ρ p, ρ v with
    | .elem k sz i j, .view k3 s3 off len => match h k with
      | some (.views e (some k2) n m s2) => bif Nat.beq sz 1 && Nat.beq j 0 && (Nat.beq k3 k2 && Nat.beq s3 1) && sizeIs T t 1 then
          some {cond := [i = m ∧ m < n ∧ off = m * s2 ∧ len = s2], res := .undef, upd := [(k, .views e (some k2) n (m + 1) s2)]} else none
      | _ => none
    | _, _ => none
  | .slice t x (some lo) (some hi) (some mx) => match ρ x, ρ lo, ρ hi, ρ mx with
    | .own k, .int _ a, .int _ b, .int _ c => match h k with
      | some (.row _ row l _) => bif isSliceOf T t row.length then some {cond := [0 ≤ a ∧ a ≤ b ∧ b ≤ c ∧ c ≤ (l.length : Int)], res := .view k row.length a.toNat (b.toNat - a.toNat)} else none
      | _ => none
    | _, _, _, _ => none
  | .indexAddr t x i => match ρ x, ρ i with
    | .own k, .int _ i => match h k with
      | some (.views _ _ n _ _) => bif isSliceOf T t 1 then some {cond := [0 ≤ i ∧ i < (n : Int)], res := .elem k 1 i.toNat 0} else none
      | _ => none
    | _, _ => none
  | .call c => match c.callee with
    | .builtin b => match b, c.args.toList, c.argTypes.toList with
      | .len, [x], [t] => match ρ x with
        | .own k => match h k with
          | some (.views _ _ n _ _) => bif descIs T t isSliceD then some {cond := [], res := .int .i64 (n : Int)} else none
          | _ => none
        | _ => none
      | _, _, _ => none
    | .value f => match ρ f, o.dst with
      | .fn (.func f) first caps, some d => actCallV E h (st.kb + d) f (first ++ (c.args.toList.map ρ) ++ caps)
      | .fn (.func f) first caps, none => actCallV E h st.kb f (first ++ (c.args.toList.map ρ) ++ caps)
      | _, _ => none
    | _ => none
  | _ => none

def act (E : Env) (st : St) (o : Oper) : Option Out := match act0 E st o with
  | some out => some out
  | none => actV E st o

section
variable {P : Program} {C : Ctx} {A A' : Nat → Prop} {β β' : Nat → Value} {st : St} {a : Act} {w : World} {E : Env} {T : Tab}

theorem views_row (hB : RelB C A β st a w) {k e : Nat} {j : Option Nat} {n m sz : Nat} (h : st.h k = some (.views e j n m sz)) :
    (β k = .slice none 0 0 ∧ n = 0) ∨ ∃ b cap cur, β k = .slice (some ⟨b, 0, none⟩) n cap ∧ w.heap[b]? = some (.cells cur e (0, 0)) ∧ n ≤ cap ∧ cap ≤ maxLen ∧ cur.size = cap ∧ ¬ A b ∧
      ∀ j', j = some j' → ∀ i, i < m → ∃ v, (cur.toList.take n)[i]? = some v ∧ AVrel w A β v (.view j' 1 (i * sz) sz) := by
  obtain ⟨xs, h1, h2, h3⟩ := hB.blocks k _ h
  rcases h1.2 with ⟨hv, hn⟩ | ⟨g, cap, cur, hv, _, hg, h4, h5, h6, h7⟩
  · exact .inl ⟨hv, hn⟩
  · refine .inr ⟨g, cap, cur, hv, hg, h4, h5, by simpa using h6, h2 g (by rw [hv]; rfl), fun j' hj i hi => ?_⟩
    obtain ⟨v, e1, e2⟩ := h3 j' hj i hi
    refine ⟨v, ?_, e2⟩
    rw [Nat.mul_one] at h7
    rw [h7]; exact e1

theorem views_bound (hB : RelB C A β st a w) {k e : Nat} {j : Option Nat} {n m sz : Nat} (h : st.h k = some (.views e j n m sz)) : n ≤ maxLen := by
  rcases views_row hB h with ⟨_, hn⟩ | ⟨_, cap, _, _, _, h1, h2, _⟩
  · rw [hn]; simp
  · omega

theorem sound_loadV (hT : TabOk T P) (hB : RelB C A β st a w) {t : TypeId} {te : TE} {k i e n m s2 k2 : Nat} {vp : Value} (hp : AVrel w A β vp (.elem k 1 i 0)) (ht : T.find t = some te) (hs : isSliceD te.desc = true)
    (hk : st.h k = some (.views e (some k2) n m s2)) (hi : i < m) : ∃ v, (Instr.loadAt t vp).run P w = .ok v w ∧ AVrel w A β v (.view k2 1 (i * s2) s2) := by
  simp only [AVrel] at hp
  obtain ⟨b, m', cap, hβ, rfl⟩ := hp
  rcases views_row hB hk with ⟨hv, _⟩ | ⟨b', cap', cur, hv, hg, _, _, _, _, hx⟩
  · rw [hβ] at hv; cases hv
  · rw [hβ] at hv
    simp only [Value.slice.injEq, Option.some.injEq, Addr.mk.injEq, and_true] at hv
    obtain ⟨rfl, rfl, rfl⟩ := hv
    obtain ⟨v, e1, e2⟩ := hx k2 rfl i hi
    rw [List.getElem?_take] at e1
    split at e1
    · have hr : w.rangeAt b i [v] := by
        intro j u hj
        cases j with
        | zero =>
          simp only [List.getElem?_cons_zero, Option.some.injEq] at hj
          subst hj
          simp [World.cell?, hg]; simpa using e1
        | succ j => simp at hj
      have hpk : pick te [.view k2 1 (i * s2) s2] 0 = some (.view k2 1 (i * s2) s2) := by
        unfold pick
        have : te.desc.isAggr = false := by cases hd : te.desc <;> rw [hd] at hs <;> first | rfl | cases hs
        rw [this]; rfl
      obtain ⟨v', g1, g2⟩ := load_pick (β := β) (A := A) hT ht (cs := [v]) (by simp only [AVrels]; exact ⟨v, [], rfl, e2, rfl⟩) hpk hr
      refine ⟨v', ?_, g2⟩
      simpa using g1
    · cases e1

theorem sound_storeV (hT : TabOk T P) (hB : RelB C A β st a w) {dst : Option Nat} (hd : ∀ t, dst = some t → t < st.n) {t : TypeId} {k i e n m s2 k2 off len : Nat} {vp vx : Value} (hp : AVrel w A β vp (.elem k 1 i 0)) (hx : AVrel w A β vx (.view k2 1 off len))
    (hk : st.h k = some (.views e (some k2) n m s2)) (hsz : sizeIs T t 1 = true) {cond : List Prop} (hi : i = m) (hm : m < n) (ho : off = m * s2) (hl : len = s2) :
    ∃ w', (Instr.storeAt t vp vx).run P w = .ok () w' ∧ Rel C (st.put dst { cond := cond, res := .undef, upd := [(k, .views e (some k2) n (m + 1) s2)] }) (a.put dst undef) w' := by
  subst hi; subst ho; subst hl
  obtain ⟨ii, hii, hisz⟩ := sizeIs_ok hT hsz
  simp only [AVrel] at hp
  obtain ⟨b, m', cap, hβ, rfl⟩ := hp
  rcases views_row hB hk with ⟨hv, _⟩ | ⟨b', cap', cur, hv, hg, hle, hmx, hcs, hnA, hcells⟩
  · rw [hβ] at hv; cases hv
  · rw [hβ] at hv
    simp only [Value.slice.injEq, Option.some.injEq, Addr.mk.injEq, and_true] at hv
    obtain ⟨rfl, rfl, rfl⟩ := hv
    have hone : vx.oneCell' = true := by
      simp only [AVrel] at hx
      rcases hx with ⟨_, a', c', h, _⟩ | ⟨_, _, _, _, _, h, _⟩ <;> rw [h] <;> rfl
    have hcv : vx.cells = #[vx] := cells_one hone
    have hb : blkOf (β k) = some b := by rw [hβ]; rfl
    have hst := run_storeAt (P := P) (w := w) (t := t) (v := vx) hii (by rw [hcv, hisz]; rfl) (by rw [hcv]; intro v hv; simp at hv; subst hv; exact hone) hg (off := i) (by rw [hcv]; simp; omega)
    obtain ⟨new, hnew⟩ : ∃ new : Array Value, new = (cur.toList.take i ++ [vx] ++ cur.toList.drop (i + 1)).toArray := ⟨_, rfl⟩
    have hst' : (Instr.storeAt t (.pointer (some ⟨b, i, none⟩)) vx).run P w = .ok () (w.setRow b new) := by
      rw [hst, hnew, hcv]; rfl
    have hlen : new.size = cur.size := by rw [hnew]; simp; omega
    refine ⟨w.setRow b new, by simpa using hst', ?_⟩
    refine hB.write hd (k := k) (fz := []) (ab := .views e (some k2) m' (i + 1) len) (by simp [hk]) hb hnA hg ⟨rfl, rfl, rfl⟩ (fun q hq => by cases hq) ?_ (by simp [AVrel])
    intro A2 h1 h2 _
    refine ⟨new.toList.take m', ⟨?_, .inr ⟨b, cap, new, hβ, Nat.zero_le _, setRow_heap w b cur _ e _ hg, hle, hmx, ?_, by rw [Nat.mul_one]⟩⟩, fun b' hb' hA2 => ?_, fun j' hj i' hi' => ?_⟩
    · rw [List.length_take, Array.length_toList, hlen, Nat.mul_one]; omega
    · rw [Nat.mul_one, ← hcs, hlen]
    · rw [hb] at hb'; simp only [Option.some.injEq] at hb'; subst hb'
      rcases h2 _ hA2 with h | ⟨q, hq, _⟩
      · exact hnA h
      · cases hq
    · simp only [Option.some.injEq] at hj
      subst hj
      by_cases hii' : i' = i
      · subst hii'
        refine ⟨vx, ?_, view_β rfl hx⟩
        rw [List.getElem?_take, if_pos hm, hnew]
        simp only [List.append_assoc]
        rw [List.getElem?_append_right (by simp; omega)]
        simp
        have : min i' cur.size = i' := by omega
        rw [this]; simp
      · obtain ⟨v, e1, e2⟩ := hcells k2 rfl i' (by omega)
        refine ⟨v, ?_, view_β rfl e2⟩
        rw [List.getElem?_take] at e1 ⊢
        split at e1
        · rename_i hlt
          rw [if_pos hlt, hnew]
          simp only [List.append_assoc]
          rw [List.getElem?_append_left (by simp; omega), List.getElem?_take, if_pos (by omega)]
          exact e1
        · cases e1

theorem sound_slice3 (hT : TabOk T P) (hB : RelB C A β st a w) {t : TypeId} {k e : Nat} {row : List Ty} {l : List (Row row)} {fr : Bool} {x y m : Int} {kx ky km : IntKind} {vx : Value} (hx : AVrel w A β vx (.own k)) (hk : st.h k = some (.row e row l fr))
    (hs : isSliceOf T t row.length = true) (h0 : 0 ≤ x) (h1 : x ≤ y) (h2 : y ≤ m) (h3 : m ≤ (l.length : Int)) :
    ∃ v, (Instr.sliceAt t vx (some (.int kx x)) (some (.int ky y)) (some (.int km m))).run P w = .ok v w ∧ AVrel w A β v (.view k row.length x.toNat (y.toNat - x.toNat)) := by
  obtain ⟨e', ii, hu, hii, hsz, hpos⟩ := find_elem hT hs
  simp only [AVrel] at hx
  obtain ⟨rfl, _⟩ := hx
  have hb : ∀ len cap : Nat, len ≤ cap → m ≤ (len : Int) → (Instr.sliceBounds true len cap (some (.int kx x)) (some (.int ky y)) (some (.int km m))).run P w = .ok (x.toNat, y.toNat, m.toNat) w := by
    intro len cap hlc hml
    simp [Instr.sliceBounds, run_sliceBound (P := P) (w := w) (k := km) (n := m) (y := cap) (by omega) (by omega), run_sliceBound (P := P) (w := w) (k := ky) (n := y) (y := m.toNat) (by omega) (by omega),
      run_sliceBound (P := P) (w := w) (k := kx) (n := x) (y := y.toNat) (by omega) (by omega)]
  have hrun : ∀ (ad : Option Addr) (len cap : Nat), len ≤ cap → m ≤ (len : Int) → (Instr.sliceAt t (.slice ad len cap) (some (.int kx x)) (some (.int ky y)) (some (.int km m))).run P w =
      .ok (.slice (if m.toNat = x.toNat then ad else ad.map (·.add (x.toNat * ii.size))) (y.toNat - x.toNat) (m.toNat - x.toNat)) w := by
    intro ad len cap hlc hml
    simp [Instr.sliceAt, Instr.slice, run_underlying hu, sizeOf, typeInfo, hii, hb len cap hlc hml]
  rcases own_slice hB hk with ⟨g1, g2⟩ | ⟨b, cap, cur, g1, _, g3, g4, _⟩
  · subst g2
    simp only [List.length_nil] at h3
    refine ⟨_, by rw [g1]; exact hrun none 0 0 (Nat.le_refl _) h3, ?_⟩
    simp only [AVrel]
    refine .inl ⟨by omega, _, _, by rw [show y.toNat - x.toNat = 0 by omega], by unfold maxLen; omega⟩
  · refine ⟨_, by rw [g1]; exact hrun _ l.length cap g3 h3, ?_⟩
    simp only [AVrel]
    by_cases hz : m.toNat = x.toNat
    · refine .inl ⟨by omega, _, _, by rw [show y.toNat - x.toNat = 0 by omega], by omega⟩
    · rw [if_neg hz]
      exact .inr ⟨b, _, cap, m.toNat - x.toNat, g1, by simp [Addr.add_mid, hsz], by omega, by omega, by omega⟩

theorem viewsOk_get {k : Nat} : ∀ (bs : List AB) (i : Nat) (ab : AB), viewsOk k bs = true → bs[i]? = some ab → (∃ e row l, ab = .row e row l false) ∨ ∃ e j n m sz, ab = .views e (some j) n m sz ∧ j < k
  | .row e row l false :: bs, 0, ab, _, h => by simp at h; exact .inl ⟨e, row, l, h.symm⟩
  | .views e (some j) n m sz :: bs, 0, ab, ho, h => by
    simp only [viewsOk, Bool.and_eq_true] at ho
    simp at h; exact .inr ⟨e, j, n, m, sz, h.symm, Nat.le_of_ble_eq_true ho.1⟩
  | .row e row l false :: bs, i + 1, ab, ho, h => viewsOk_get bs i ab (by simpa only [viewsOk] using ho) (by simpa using h)
  | .views e (some j) n m sz :: bs, i + 1, ab, ho, h => viewsOk_get bs i ab (by simp only [viewsOk, Bool.and_eq_true] at ho; exact ho.2) (by simpa using h)
  | .row e row l true :: bs, _, _, h, _ => by simp [viewsOk] at h
  | .views e none n m sz :: bs, _, _, h, _ => by simp [viewsOk] at h
  | .cells _ :: bs, _, _, h, _ => by simp [viewsOk] at h
  | [], _, _, _, h => by simp at h

/-- behind a call that hands back rows of slices, too -/
theorem RelB.callV (hB : RelB C A β st a w) {dst : Option Nat} (hd : ∀ t, dst = some t → t < st.n) {base : Nat} {res : AV} {bs : List AB} {fz : List Nat} {cond : List Prop} {v : Value} {w' : World} {A1 : Nat → Prop} {β1 : Nat → Value}
    (hfz : ∀ j ∈ fz, ∃ e row l fr, st.h j = some (.row e row l fr)) (hnew : newOk st.h (upsOf base (bs.map (shiftAB base))) = true) (hro : resOk bs.length res = true) (hor : viewsOk bs.length bs = true)
    (hp : CallPost w (frozenA A β fz) w' v res bs A1 β1) :
    Rel C (st.put dst { cond := cond, res := shiftAV base res, upd := freezes st.h fz, new := upsOf base (bs.map (shiftAB base)) }) (a.put dst v) w' := by
  let β' : Nat → Value := fun k => if base ≤ k ∧ k < base + bs.length then β1 (k - base) else β k
  have hβ1 : ∀ i, i < bs.length → β' (base + i) = β1 i := by
    intro i hi
    simp only [β']
    rw [if_pos (by omega)]
    congr 1; omega
  have hfind' : ∀ k, hfind (upsOf base (bs.map (shiftAB base))) k = (if base ≤ k then (bs[k - base]?).map (shiftAB base) else none) := fun k => by
    have := upsOf_find base (bs.map (shiftAB base)) 0 k
    simpa using this
  have hβ : ∀ k, hfind (upsOf base (bs.map (shiftAB base))) k = none → β' k = β k := by
    intro k h
    rw [hfind' k] at h
    simp only [β']
    rw [if_neg]
    rintro ⟨h1, h2⟩
    rw [if_pos h1, Option.map_eq_none_iff, List.getElem?_eq_none_iff] at h
    omega
  have hget : ∀ k ab, hfind (upsOf base (bs.map (shiftAB base))) k = some ab → base ≤ k ∧ (∃ ab0, bs[k - base]? = some ab0 ∧ ab = shiftAB base ab0) ∧ k - base < bs.length := by
    intro k ab h
    rw [hfind' k] at h
    split at h
    · rename_i hb
      rw [Option.map_eq_some_iff] at h
      obtain ⟨ab0, h1, h2⟩ := h
      exact ⟨hb, ⟨ab0, h1, h2.symm⟩, (List.getElem?_eq_some_iff.1 h1).1⟩
    · cases h
  have hβk : ∀ k ab, hfind (upsOf base (bs.map (shiftAB base))) k = some ab → β' k = β1 (k - base) := by
    intro k ab h
    obtain ⟨h1, h2, h3⟩ := hget k ab h
    have := hβ1 (k - base) h3
    rwa [show base + (k - base) = k by omega] at this
  have hK : Keeps w w' A A1 := fun b hb => ⟨hp.mono b (.inl hb), hp.same b (hB.bound b hb)⟩
  refine ⟨A1, β', ?_⟩
  refine hB.step (out := { cond := cond, res := shiftAV base res, upd := freezes st.h fz, new := upsOf base (bs.map (shiftAB base)) }) hd (fun k b h => newOk_dead _ k b hnew h) ?_ hβ hK hp.os hp.tape hp.output hp.size (fun b hb _ => hp.same b hb) hp.bound ?_ ?_ ?_ ?_ ?_ ?_
  · intro k b h
    obtain ⟨_, e, row, l, fr, h, _⟩ := freezes_find fz k b h
    simp [h]
  · intro b hb
    rcases Nat.lt_or_ge b w.heap.size with hlt | hge
    · rcases hp.old b hlt hb with h | ⟨j, hj, hbj⟩
      · exact .inl h
      · have hr := hfz j hj
        exact .inr (.inr ⟨j, ⟨by obtain ⟨_, _, _, _, hr⟩ := hr; simp [hr], .inl (freezes_some fz j hj hr)⟩, hbj⟩)
    · exact .inr (.inl hge)
  · intro k ab h _
    obtain ⟨hk, e, row, l, fr, hr, rfl⟩ := freezes_find fz k ab h
    rw [scrubBs_row]
    have hkn : hfind (upsOf base (bs.map (shiftAB base))) k = none := by
      cases hh : hfind (upsOf base (bs.map (shiftAB base))) k with
      | none => rfl
      | some y => have := newOk_dead _ k y hnew hh; rw [hr] at this; cases this
    obtain ⟨xs, h1, h2, h3⟩ := hB.blocks k _ hr
    simp only [BR, hβ k hkn]
    refine ⟨xs, ownsRow_keep h1 (fun b hb => hp.same b (live_lt hB (by simp [hr]) hb)), RdL_mono (fun c x hx => RdV_mono hK row c x hx) l xs h2, fun b hb => ?_⟩
    simp only [if_true]
    exact hp.mono b (.inr ⟨k, hk, hb⟩)
  · intro k ab h
    obtain ⟨h1, ⟨ab0, h2, rfl⟩, h3⟩ := hget k ab h
    have hbr := (hp.rows _ _ h2).1
    rcases viewsOk_get bs _ ab0 hor h2 with ⟨e, row, l, rfl⟩ | ⟨e, j, n, m, sz, rfl, hj⟩
    · obtain ⟨xs, g1, g2, g3⟩ := hbr
      simp only [shiftAB, BR, hβk k _ h]
      exact ⟨xs, g1, g2, g3⟩
    · obtain ⟨xs, g1, g2, g3⟩ := hbr
      simp only [shiftAB, BR, hβk k _ h]
      refine ⟨xs, g1, g2, fun j' hj' i hi => ?_⟩
      simp only [Option.some.injEq] at hj'
      subst hj'
      obtain ⟨u, e1, e2⟩ := g3 j rfl i hi
      refine ⟨u, e1, ?_⟩
      simp only [AVrel] at e2 ⊢
      rw [hβ1 j hj]; exact e2
  · intro k b ab h hb
    obtain ⟨h1, ⟨ab0, h2, rfl⟩, h3⟩ := hget k ab h
    rw [hβk k _ h] at hb
    exact .inl ((hp.rows _ _ h2).2 b hb)
  · intro k k' b h h' hb hb'
    obtain ⟨x, hx⟩ := Option.isSome_iff_exists.1 h
    obtain ⟨y, hy⟩ := Option.isSome_iff_exists.1 h'
    obtain ⟨h1, h2, h3⟩ := hget k x hx
    obtain ⟨g1, g2, g3⟩ := hget k' y hy
    rw [hβk k _ hx] at hb
    rw [hβk k' _ hy] at hb'
    have := hp.apart _ _ b h3 g3 hb hb'
    omega
  · exact shift_rel (β' := β') base bs.length hβ1 res v hro hp.res

theorem act_sound (hE : EnvOk P E) (hB : RelB C A β st a w) {o : Oper} {out : Out} (h : act E st o = some out) (hdst : dstOk st o = true) (hnew : newOk st.h out.new = true) (hc : ∀ p ∈ out.cond, p)
    {K : Act → World → Prop} {Q : Exit → Act → World → Prop} (hK : ∀ a' w', Rel C (st.put o.dst out) a' w' → K a' w') : o.wp P a w K Q := by
  unfold act at h
  split at h
  · rename_i out' h0
    simp only [Option.some.injEq] at h
    subst h
    exact act0_sound hE hB h0 hdst hnew hc hK
  rename_i hnone
  clear hnone
  have hd : ∀ t, o.dst = some t → t < st.n := by
    intro t ht
    unfold dstOk at hdst
    rw [ht] at hdst
    exact Nat.le_of_ble_eq_true hdst
  obtain ⟨dst, op, type, pos, after, guard⟩ := o
  simp only at hd hK
  unfold actV at h
  simp only at h
  split at h
  · rename_i t p
    split at h
    · rename_i k sz i j te hp ht
      split at h
      · rename_i e k2 n m s2 hk
        cases hq : (Nat.beq sz 1 && Nat.beq j 0 && isSliceD te.desc) with
        | false => rw [hq] at h; cases h
        | true =>
          rw [hq] at h
          simp only [cond_true, Option.some.injEq] at h
          subst h
          simp only [Bool.and_eq_true] at hq
          obtain ⟨⟨q1, q2⟩, q3⟩ := hq
          have q1 := Nat.eq_of_beq_eq_true q1
          have q2 := Nat.eq_of_beq_eq_true q2
          subst q1; subst q2
          have hpr := ev_rel hB p
          rw [hp] at hpr
          obtain ⟨v, g1, g2⟩ := sound_loadV hE.tab hB hpr ht q3 hk (mem0 hc)
          exact wp_value (v := v) (by simp [execOp, g1]) (hK _ _ (Rel.ofB (hB.quiet hd ⟨rfl, rfl, rfl⟩ g2)))
      · cases h
    · cases h
  · rename_i t p v
    split at h
    · rename_i k sz i j k3 s3 off len hp hv
      split at h
      · rename_i e k2 n m s2 hk
        cases hq : (Nat.beq sz 1 && Nat.beq j 0 && (Nat.beq k3 k2 && Nat.beq s3 1) && sizeIs E.T t 1) with
        | false => rw [hq] at h; cases h
        | true =>
          rw [hq] at h
          simp only [cond_true, Option.some.injEq] at h
          subst h
          simp only [Bool.and_eq_true] at hq
          obtain ⟨⟨⟨q1, q2⟩, q3, q4⟩, q5⟩ := hq
          have q1 := Nat.eq_of_beq_eq_true q1
          have q2 := Nat.eq_of_beq_eq_true q2
          have q3 := Nat.eq_of_beq_eq_true q3
          have q4 := Nat.eq_of_beq_eq_true q4
          subst q1; subst q2; subst q3; subst q4
          have hpr := ev_rel hB p
          rw [hp] at hpr
          have hvr := ev_rel hB v
          rw [hv] at hvr
          obtain ⟨c1, c2, c3, c4⟩ := mem0 hc
          obtain ⟨w', g1, g2⟩ := sound_storeV hE.tab hB hd hpr hvr hk q5 c1 c2 c3 c4
          exact wp_skip' (w' := w') (by simp [execOp, g1]) (hK _ _ g2)
      · cases h
    · cases h
  · rename_i t x l hi mx
    split at h
    · rename_i k kx x0 ky y0 km m0 hx hl hh hm
      split at h
      · rename_i e row ll fr hk
        cases hs : isSliceOf E.T t row.length with
        | false => rw [hs] at h; cases h
        | true =>
          rw [hs] at h
          simp only [cond_true, Option.some.injEq] at h
          subst h
          obtain ⟨c1, c2, c3, c4⟩ := mem0 hc
          have hxr := ev_rel hB x
          rw [hx] at hxr
          have hlr := ev_rel hB l
          rw [hl] at hlr
          have hhr := ev_rel hB hi
          rw [hh] at hhr
          have hmr := ev_rel hB mx
          rw [hm] at hmr
          simp only [AVrel] at hlr hhr hmr
          obtain ⟨v, g1, g2⟩ := sound_slice3 (kx := kx) (ky := ky) (km := km) hE.tab hB hxr hk hs c1 c2 c3 c4
          exact wp_value (v := v) (by simp [execOp, hlr.1, hhr.1, hmr.1, g1]) (hK _ _ (Rel.ofB (hB.quiet hd ⟨rfl, rfl, rfl⟩ g2)))
      · cases h
    · cases h
  · rename_i t x i
    split at h
    · rename_i k ki i0 hx hi
      split at h
      · rename_i e j n m sz hk
        cases hs : isSliceOf E.T t 1 with
        | false => rw [hs] at h; cases h
        | true =>
          rw [hs] at h
          simp only [cond_true, Option.some.injEq] at h
          subst h
          obtain ⟨c1, c2⟩ := mem0 hc
          obtain ⟨e', ii, hu, hii, hsz, hpos⟩ := find_elem hE.tab hs
          have hxr := ev_rel hB x
          rw [hx] at hxr
          have hir := ev_rel hB i
          rw [hi] at hir
          simp only [AVrel] at hxr hir
          rcases views_row hB hk with ⟨_, hn⟩ | ⟨b, cap, cur, hv, _⟩
          · omega
          · refine wp_value (v := .pointer (some ⟨b, 0 + i0.toNat * 1, none⟩)) (w' := w) ?_ (hK _ _ (Rel.ofB (hB.quiet hd ⟨rfl, rfl, rfl⟩ ?_)))
            · have := run_indexAt (P := P) (w := w) hu hii b 0 n cap ki i0 c1 c2
              simp only [execOp, hxr.1, hv, hir.1, Sem.run_bind, this, hsz, Result.andThen_ok, Sem.run_pure]
            · simp only [AVrel]; exact ⟨b, _, cap, hv, by simp⟩
      · cases h
    · cases h
  · rename_i c
    obtain ⟨callee, args, argTypes⟩ := c
    simp only at h
    split at h
    · rename_i b
      split at h
      · rename_i x t hargs hts
        split at h
        · rename_i k hx
          split at h
          · rename_i e j n m sz hk
            cases hq : descIs E.T t isSliceD with
            | false => rw [hq] at h; cases h
            | true =>
              rw [hq] at h
              simp only [cond_true, Option.some.injEq] at h
              subst h
              have ea : args = #[x] := by apply Array.ext'; simpa using hargs
              have et : argTypes = #[t] := by apply Array.ext'; simpa using hts
              subst ea; subst et
              obtain ⟨dd, hu, hdd⟩ := descIs_ok hE.tab hq
              obtain ⟨e', rfl⟩ : ∃ e', dd = .slice e' := by cases dd <;> simp_all [isSliceD]
              have hxr := ev_rel hB x
              rw [hx] at hxr
              simp only [AVrel] at hxr
              have hval : ∃ ad cap, a.eval x = .slice ad n cap := by
                rcases views_row hB hk with ⟨h1, h2⟩ | ⟨b, cap, cur, hv, _⟩
                · exact ⟨none, 0, by rw [hxr.1, h1, h2]⟩
                · exact ⟨_, cap, by rw [hxr.1, hv]⟩
              obtain ⟨ad, cap, hval⟩ := hval
              refine wp_value (v := .int .i64 (n : Int)) (w' := w) ?_ (hK _ _ (Rel.ofB (hB.quiet hd ⟨rfl, rfl, rfl⟩ (one_i64 n (views_bound hB hk)))))
              simp [execOp, resolve, invoke, builtin, hval, Builtin.len_, run_underlying hu, goInt]
          · cases h
        · cases h
      · cases h
    · rename_i f
      have hf := ev_rel hB f
      have key : ∀ (fid : FuncId) (first caps : List AV) (base : Nat), ev st.t f = .fn (.func fid) first caps → actCallV E st.h base fid (first ++ (args.toList.map (ev st.t)) ++ caps) = some out →
          Oper.wp P { dst, op := .call { callee := .value f, args, argTypes }, type, pos, after, guard } a w K Q := by
        intro fid first caps base hfv hact
        rw [hfv] at hf; simp only [AVrel] at hf
        obtain ⟨a1, a2, hfe, r1, r2⟩ := hf
        unfold actCallV at hact
        split at hact
        · rename_i s hs
          split at hact
          · rename_i pre res bs hsv
            cases hq : (Nat.ble bs.length 100 && resOk bs.length res && viewsOk bs.length bs) with
            | false => simp [hq] at hact
            | true =>
              simp only [hq, cond_true, Option.some.injEq] at hact
              subst hact
              simp only [Bool.and_eq_true] at hq
              obtain ⟨hv, hfn⟩ := hE.sig fid s hs
              have hargs := AVrels_append _ _ _ _ (AVrels_append _ _ _ _ r1 (ev_rels hB args.toList)) r2
              obtain ⟨p1, p2⟩ := purs_rel (A' := frozenA A β (purs st.h (first ++ (args.toList.map (ev st.t)) ++ caps)).2) hB (fun b h => .inl h) _ _ hargs (fun k hk b hb => .inr ⟨k, hk, hb⟩)
              have hbd : ∀ b, frozenA A β (purs st.h (first ++ (args.toList.map (ev st.t)) ++ caps)).2 b → b < w.heap.size := by
                intro b h
                rcases h with h | ⟨j, hj, hb⟩
                · exact hB.bound b h
                · obtain ⟨e', r', l', f', hr⟩ := p2 j hj
                  exact live_lt hB (by simp [hr]) hb
              have hcall := hv w _ β _ _ pre res bs hbd p1 hsv (mem0 hc)
              have hrun : (execOp a.eval { dst, op := .call { callee := .value f, args, argTypes }, type, pos, after, guard }).run P w = .ok (.enter fid (a1.toList ++ args.toList.map a.eval ++ a2.toList).toArray) w := by
                have e : (a1 ++ args.map a.eval) ++ a2 = (a1.toList ++ args.toList.map a.eval ++ a2.toList).toArray := by
                  apply Array.ext'; simp
                have := hfn (a1 ++ args.map a.eval ++ a2) w
                rw [e] at this
                simp only [execOp, resolve, hfe, Deferred.ofValue, Sem.run_bind, Sem.run_pure, Result.andThen_ok, invoke, e, this]
              unfold Oper.wp
              rw [hrun]
              simp only [Oper.upon_enter]
              refine hcall.mono fun e w' ⟨v, he, A1, β1, hpost⟩ => ?_
              subst he
              exact hK _ _ (hB.callV hd p2 hnew hq.1.2 hq.2 hpost)
          · cases hact
        · cases hact
      split at h
      · rename_i fid first caps d hfv
        exact key fid first caps _ hfv h
      · rename_i fid first caps hfv
        exact key fid first caps _ hfv h
      · cases h
    · cases h
  · cases h
end
end Go.Vg
/-
  A VERIFIED VC GENERATOR, part S: regions and code: the generator itself (no proof in here).
-/
namespace Go.Vg
open Go

mutual
/-- nothing is said any more of the keys of p -/
def scrubP (p : Nat → Bool) : AV → AV
  | .own k => bif p k then .junk else .own k
  | .pre k n => bif p k then .junk else .pre k n
  | .view k sz off n => bif p k then .junk else .view k sz off n
  | .ref k off => bif p k then .junk else .ref k off
  | .elem k sz i j => bif p k then .junk else .elem k sz i j
  | .agg cs => .agg (scrubPL p cs)
  | .tup vs => .tup (scrubPL p vs)
  | .fn f first caps => .fn f (scrubPL p first) (scrubPL p caps)
  | a => a
def scrubPL (p : Nat → Bool) : List AV → List AV
  | [] => []
  | a :: as => scrubP p a :: scrubPL p as
end
def scrubPJ (p : Nat → Bool) : Option Nat → Option Nat
  | some k => bif p k then none else some k
  | none => none
def scrubPB (p : Nat → Bool) : AB → AB
  | .cells cs => .cells (scrubPL p cs)
  | .views e j n m sz => .views e (scrubPJ p j) n m sz
  | b => b
def scrubPO (p : Nat → Bool) : Option AB → Option AB
  | some b => some (scrubPB p b)
  | none => none

def KS.has (kb : Nat) : KS → Nat → Bool
  | .one j, k => Nat.beq k j
  | .dst d, k => Nat.beq k (kb + d) || (Nat.ble (callBase (kb + d)) k && Nat.blt k (callBase (kb + d) + 100))
def inK (kb : Nat) : List KS → Nat → Bool
  | [], _ => false
  | x :: r, k => x.has kb k || inK kb r k

/-! ### regions -/
def gslot (ops : List Oper) (j : Nat) : Option Nat := match ops[j]? with
  | some o => o.dst
  | none => none
/-- is operation i asked for by a guard? -/
def isGuard (ops : List Oper) (i : Nat) : Bool := ops.any fun o => match o.guard with
  | some (j, _) => Nat.beq j i
  | none => false
/-- is the operation wanted? (none: that is not known) -/
def grd (ops : List Oper) (t : Nat → AV) (o : Oper) : Option Bool := match o.guard with
  | none => some true
  | some (j, want) => match gslot ops j with
    | none => none
    | some g => match t g with
      | .tt => some want
      | .ff => some (!want)
      | .undef => some false
      | _ => none
def dsts : List Oper → List Nat
  | [] => []
  | o :: r => match o.dst with
    | some d => d :: dsts r
    | none => dsts r

mutual
def keysAV : AV → List Nat
  | .own k | .pre k _ | .view k _ _ _ | .ref k _ | .elem k _ _ _ => [k]
  | .agg cs => keysAVs cs
  | .tup vs => keysAVs vs
  | .fn _ first caps => keysAVs first ++ keysAVs caps
  | _ => []
def keysAVs : List AV → List Nat
  | [] => []
  | a :: as => keysAV a ++ keysAVs as
end
def keysAB : AB → List Nat
  | .cells cs => keysAVs cs
  | .views _ (some j) _ _ _ => [j]
  | _ => []
def keysABs : List (Nat × AB) → List Nat
  | [] => []
  | (_, b) :: r => keysAB b ++ keysABs r
def Out.wr (o : Out) : List Nat := o.upd.map (·.1) ++ (o.del ++ o.new.map (·.1))
def Out.pay (o : Out) : List Nat := keysAV o.res ++ (keysABs o.upd ++ keysABs o.new)
def Out.skip : Out := { cond := [], res := .undef }
def disj (a b : List Nat) : Bool := a.all fun k => !hmem b k

/-- what came up in a region: the operation, what it did (none: it was skipped), which keys it looked at -/
structure Ev where
  i : Nat
  o : Oper
  out : Option Out
  kr : List Nat
  pre : List Nat
def Ev.eff (e : Ev) : Out := match e.out with
  | some out => out
  | none => .skip

def krOf (st : St) (o : Oper) : List Nat := (match o.dst with
  | some d => st.kb + d
  | none => st.kb) :: keysAVs (o.op.operands.toList.map (ev st.t))
def slotsOf : List Operand → List Nat
  | [] => []
  | .tmp i :: r => i :: slotsOf r
  | _ :: r => slotsOf r
def looks (ops : List Oper) (o : Oper) : List Nat := (match o.guard with
  | some (j, _) => match gslot ops j with
    | some g => [g]
    | none => []
  | none => []) ++ slotsOf o.op.operands.toList
/-- it waits for e, perhaps by way of others -/
def waits (f e : Ev) : Bool := hmem f.pre e.i
def addAll : List Nat → List Nat → List Nat
  | [], b => b
  | k :: r, b => bif hmem b k then addAll r b else addAll r (k :: b)
def preIn (k : Nat) : List Ev → List Nat
  | [] => []
  | e :: r => bif Nat.beq e.i k then e.pre else preIn k r
/-- all that an operation waits for (tr: what came up) -/
def preOf (tr : List Ev) : List Edge → List Nat
  | [] => []
  | x :: r => bif Region.binds .any x then addAll (x.on :: preIn x.on tr) (preOf tr r) else preOf tr r
def offSlot (l : List Nat) : Option Nat → Bool
  | some d => !hmem l d
  | none => true
def apartE (ops : List Oper) (e f : Ev) : Bool :=
  offSlot (looks ops f.o) e.o.dst && offSlot (looks ops e.o) f.o.dst &&
  (match e.o.dst, f.o.dst with
    | some d, some d' => !Nat.beq d d'
    | _, _ => true) &&
  disj e.eff.wr f.kr && disj f.eff.wr e.kr && disj e.eff.wr f.eff.wr && disj e.eff.pay (f.eff.new.map (·.1)) && disj f.eff.pay (e.eff.new.map (·.1))
/-- behind what came up already (tr), this one either waits, or is apart; what it waits for is behind it; its new keys are those of its slot; nothing that came up speaks of them -/
def evOk (kb : Nat) (dr : Bool) (ops : List Oper) (tr : List Ev) (f : Ev) : Bool :=
  bif dr then (tr.all fun e => disj e.eff.pay (f.eff.new.map (·.1)) && (waits f e || apartE ops e f)) && (f.o.after.toList.all fun x => !Region.binds .any x || Nat.blt x.on f.i) &&
    (f.eff.new.all fun x => inK kb ((dsts ops).map .dst) x.1) else true

def litV : AV → AV
  | .bool b => bif b then .tt else .ff
  | a => a
def St.lit (st : St) (d : Nat) (a : AV) : St := { st with t := fun i => bif Nat.beq i d then a else st.t i, dirty := [], news := [], dels := [] }
def St.clear (st : St) : St := { st with dirty := [], news := [], dels := [] }

/-- of two ways through one piece of code, one state -/
def mergeSt (b : Bool) (W : List Nat) (base s1 s2 : St) : Option St :=
  match s1.dels, s2.dels with
  | [], [] => some { base with
      t := fun i => bif hmem W i then mergeV b (s1.t i) (s2.t i) else scrubP (inK base.kb (s1.news ++ s2.news)) (base.t i)
      h := fun k => bif hmem (s1.dirty ++ s2.dirty) k then mergeB b (s1.h k) (s2.h k) else scrubPO (inK base.kb (s1.news ++ s2.news)) (base.h k)
      dirty := (s1.dirty ++ s2.dirty) ++ base.dirty
      news := base.news ++ (s1.news ++ s2.news) }
  | _, _ => none

def mergeC (b : Bool) (c1 c2 : List Prop) : List Prop := match c1, c2 with
  | [], [] => []
  | _, _ => [(b = true → conj c1) ∧ (b = false → conj c2)]

def both (b : Bool) (W : List Nat) (base : St) (r1 r2 : Option (List Prop × St)) : Option (List Prop × St) := match r1, r2 with
  | some (c1, s1), some (c2, s2) => match mergeSt b W base s1 s2 with
    | some s => some (mergeC b c1 c2, s)
    | none => none
  | _, _ => none

def andThenC (c : List Prop) : Option (List Prop × St) → Option (List Prop × St)
  | some (c', s) => some (c ++ c', s)
  | none => none

/-- what follows an operation that may be a guard: if it yields a Bool, two ways -/
def fork (g : Bool) (W : List Nat) (d : Option Nat) (st : St) (next : St → Option (List Prop × St)) : Option (List Prop × St) := match d with
  | some d => bif g then (match st.t d with
    | .bool b => both b (d :: W) st (next (st.lit d .tt)) (next (st.lit d .ff))
    | _ => next st) else next st
  | none => next st

/-- the operations of a region, one behind the other (ops: all of them; dr: their order is drawn; i: the next one's number; tr: what came up) -/
def runO (E : Env) (dr : Bool) (ops : List Oper) : Nat → List Ev → List Oper → St → Option (List Prop × St)
  | _, _, [], st => some ([], st)
  | i, tr, o :: rest, st => match grd ops st.t o with
    | none => none
    | some false => bif dstOk st o && evOk st.kb dr ops tr ⟨i, o, none, krOf st o, preOf tr o.after.toList⟩ then
        runO E dr ops (i + 1) (⟨i, o, none, krOf st o, preOf tr o.after.toList⟩ :: tr) rest (st.put o.dst .skip) else none
    | some true => match act E st o with
      | none => none
      | some out => bif dstOk st o && (newOk st.h out.new && evOk st.kb dr ops tr ⟨i, o, some out, krOf st o, preOf tr o.after.toList⟩) then
          andThenC out.cond (fork (isGuard ops i) (dsts rest) o.dst (st.put o.dst out) (runO E dr ops (i + 1) (⟨i, o, some out, krOf st o, preOf tr o.after.toList⟩ :: tr) rest)) else none

/-- ahead of a region that draws its order: nothing is said of the keys that it may make -/
def St.ahead (st : St) (W : List Nat) : St := { st with
  t := fun i => scrubP (inK st.kb (W.map .dst)) (st.t i)
  h := fun k => scrubPO (inK st.kb (W.map .dst)) (st.h k)
  news := st.news ++ W.map .dst }
def runR (E : Env) (dr : Bool) (ops : List Oper) (st : St) : Option (List Prop × St) :=
  bif dr then runO E true ops 0 [] ops (st.ahead (dsts ops)) else runO E false ops 0 [] ops st

/-! ### code -/
inductive Ex where
  | norm
  | exit (i : Nat)
  | ret

def wrC : Code → List Nat
  | .region _ ops _ => dsts ops.toList
  | .seq x y => wrC x ++ wrC y
  | .cond _ x y => wrC x ++ wrC y
  | .block _ b => wrC b
  | .loop b => wrC b
  | _ => []

/-- straight code: its only way out is its end -/
def straight : Code → Bool
  | .skip => true
  | .region _ _ _ => true
  | .seq x y => straight x && straight y
  | .cond _ x y => straight x && straight y
  | .block _ b => straight b
  | _ => false

def runC (E : Env) : Code → St → Option (List Prop × St)
  | .skip, st => some ([], st)
  | .region _ ops d, st => runR E d ops.toList st
  | .seq x y, st => match runC E x st with
    | some (c, st') => andThenC c (runC E y st')
    | none => none
  | .cond c x y, st => match ev st.t c with
    | .tt => runC E x st
    | .ff => runC E y st
    | .bool b => both b (wrC x ++ wrC y) st (runC E x st.clear) (runC E y st.clear)
    | _ => none
  | .block _ b, st => runC E b st
  | _, _ => none

def conjK : List Prop → Prop → Prop
  | [], k => k
  | p :: ps, k => p ∧ conjK ps k

/-- where a row of our own is held: in a slot, or in a variable's cell -/
inductive Loc where
  | slot (i : Nat)
  | cell (k off : Nat)

structure LoopAnn where
  τ : Type
  slots : List (Nat × (τ → AV))
  keys : List (Nat × (τ → AB)) := []
  ren : List (Loc × Nat) := []
  inv : τ → Prop
  meas : τ → Nat

def lookS {α β : Type} (l : List (Nat × (α → β))) (k : Nat) : Option (α → β) := match l with
  | [] => none
  | (j, a) :: r => bif Nat.beq k j then some a else lookS r k

def locAV (st : St) : Loc → AV
  | .slot i => st.t i
  | .cell k off => match st.h k with
    | some (.cells cs) => cs.getD off .junk
    | _ => .junk

/-- for each key of the loop's head that is renamed: the key that it has here (none: there is no row yet, the slice is nil) -/
def sources (st : St) : List (Loc × Nat) → Option (List (Nat × Option Nat))
  | [] => some []
  | (l, K) :: r => match locAV st l, sources st r with
    | .own k, some s => some ((K, some k) :: s)
    | .nil, some s => some ((K, none) :: s)
    | _, _ => none
def srcKeys : List (Nat × Option Nat) → List Nat
  | [] => []
  | (_, some k) :: r => k :: srcKeys r
  | (_, none) :: r => srcKeys r
def lookK (s : List (Nat × Option Nat)) (k : Nat) : Option (Option Nat) := match s with
  | [] => none
  | (j, a) :: r => bif Nat.beq k j then some a else lookK r k
def nodupB : List Nat → Bool
  | [] => true
  | k :: r => !(hmem r k) && nodupB r

/-- the keys of which the head of a loop says nothing but what is listed -/
def headKS (L : LoopAnn) (W : List Nat) : List KS := W.map .dst ++ L.ren.map (fun x => .one x.2)

/-- the state at the head of a loop -/
def headSt (L : LoopAnn) (W : List Nat) (base : St) (x : L.τ) : St :=
  { base with
    t := fun i => match lookS L.slots i with
      | some f => f x
      | none => bif hmem W i then .junk else scrubP (inK base.kb (headKS L W)) (base.t i)
    h := fun k => match lookS L.keys k with
      | some f => some (f x)
      | none => bif inK base.kb (headKS L W) k then none else scrubPO (inK base.kb (headKS L W)) (base.h k)
    dirty := [], news := [], dels := [] }

mutual
/-- when does what is known of a value give what is asked of it? (s: renamed keys, asked for by the left one) -/
def avm (s : List (Nat × Option Nat)) (bad : Nat → Bool) : AV → AV → List Prop
  | _, .junk => []
  | .undef, .undef => []
  | .int k n, .int k' m => if k = k' then [n = m] else [False]
  | .tt, .tt => []
  | .ff, .ff => []
  | .tt, .bool b => [true = b]
  | .ff, .bool b => [false = b]
  | .bool b, .bool c => [b = c]
  | .str a, .str b => [a = b]
  | .nil, .nil => []
  | .nilp, .nilp => []
  | .nilf, .nilf => []
  | .nil, .sl r l => [([] : List (Row r)) = l]
  | .sl r l, .sl r' l' => match castL r r' l with
    | some m => [m = l']
    | none => [False]
  | .full r l, .sl r' l' => match castL r r' l with
    | some m => [m = l']
    | none => [False]
  | .own k, .own K => match lookK s K with
    | some (some j) => bif Nat.beq k j then [] else [False]
    | some none => [False]
    | none => bif Nat.beq k K && !(bad K) then [] else [False]
  | .nil, .own K => match lookK s K with
    | some none => []
    | _ => [False]
  | .ref k o, .ref k' o' => bif Nat.beq k k' && !(bad k') then [o = o'] else [False]
  | .agg xs, .agg ys => avms s bad xs ys
  | .tup xs, .tup ys => avms s bad xs ys
  | .fn f xs us, .fn f' ys vs => if f = f' then avms s bad xs ys ++ avms s bad us vs else [False]
  | _, _ => [False]
def avms (s : List (Nat × Option Nat)) (bad : Nat → Bool) : List AV → List AV → List Prop
  | [], [] => []
  | x :: xs, y :: ys => avm s bad x y ++ avms s bad xs ys
  | _, _ => [False]
end
/-- is what is asked for as key K here key k? -/
def keyIs (s : List (Nat × Option Nat)) (bad : Nat → Bool) (k K : Nat) : Bool := match lookK s K with
  | some (some j) => Nat.beq k j
  | some none => false
  | none => Nat.beq k K && !bad K
def abm (s : List (Nat × Option Nat)) (bad : Nat → Bool) : Option AB → AB → List Prop
  | some (.cells xs), .cells ys => avms s bad xs ys
  | some (.row e r l fr), .row e' r' l' fr' => match castL r r' l with
    | some m => bif Nat.beq e e' && (fr == fr') then [m = l'] else [False]
    | none => [False]
  | some (.row e r l false), .views e' _ n m _ => bif Nat.beq e e' && Nat.beq r.length 1 then [l.length = n, m = 0] else [False]
  | some (.views e (some j) n m sz), .views e' (some j') n' m' sz' => bif Nat.beq e e' && keyIs s bad j j' then [n = n', m = m', sz = sz'] else [False]
  | _, _ => [False]

def slotsM {τ : Type} (s : List (Nat × Option Nat)) (bad : Nat → Bool) (st : St) (x : τ) : List (Nat × (τ → AV)) → List Prop
  | [] => []
  | (i, f) :: r => avm s bad (st.t i) (f x) ++ slotsM s bad st x r
def keysM {τ : Type} (s : List (Nat × Option Nat)) (bad : Nat → Bool) (st : St) (x : τ) : List (Nat × (τ → AB)) → List Prop
  | [] => []
  | (K, f) :: r => (match lookK s K with
    | some (some k) => abm s bad (st.h k) (f x)
    | some none => match f x with
      | .row _ _ l false => [[] = l]
      | _ => [False]
    | none => bif bad K then [False] else abm s bad (st.h K) (f x)) ++ keysM s bad st x r

/-- may the state st be taken for the loop's head (base: the state ahead of the loop)? what may be asked ahead of any proof -/
def headOk (L : LoopAnn) (W : List Nat) (base st : St) (s : List (Nat × Option Nat)) : Bool :=
  nodupB (L.ren.map (·.2)) && nodupB (srcKeys s) &&
  -- the slots that are listed are the loop's own; every renamed key is listed; a key that is listed is renamed, or there ahead of the loop
  (L.slots.all fun x => hmem W x.1) &&
  (L.ren.all fun x => (lookS L.keys x.2).isSome) &&
  (L.keys.all fun x => (lookK s x.1).isSome || !(inK base.kb (headKS L W) x.1)) &&
  -- a row that is renamed is the loop's own, or one of the renamed
  ((srcKeys s).all fun k => inK base.kb (headKS L W) k) &&
  -- what turned is listed, or the loop's own
  (st.dirty.all fun k => (lookS L.keys k).isSome || inK base.kb (headKS L W) k)
def newsOk (L : LoopAnn) (W : List Nat) (base : St) (news : List KS) : Bool :=
  news.all fun x => match x with
    | .one k => inK base.kb (headKS L W) k
    | .dst d => hmem W d


/-! ### the generator -/
def inBl (id : Nat) (K : Ex → St → Prop) (e : Ex) (st : St) : Prop := match e with
  | .exit j => bif Nat.beq j id then K .norm st else K (.exit j) st
  | e => K e st

def matches_ (L : LoopAnn) (W : List Nat) (base st : St) (s : List (Nat × Option Nat)) (x : L.τ) : List Prop :=
  slotsM s (inK base.kb (headKS L W)) st x L.slots ++ keysM s (inK base.kb (headKS L W)) st x L.keys

/-- the state st may be taken for a state at the loop's head, one with P -/
def toHead (L : LoopAnn) (W : List Nat) (base st : St) (P : L.τ → Prop) : Prop := match sources st L.ren with
  | none => False
  | some s => bif headOk L W base st s then ∃ x, conj (matches_ L W base st s x) ∧ P x else False

/-- a state that left a loop: what the loop did is the loop's to tell -/
def St.back (L : LoopAnn) (W : List Nat) (base st : St) : St :=
  { st with dirty := st.dirty ++ (L.keys.map (·.1) ++ base.dirty), news := base.news ++ (headKS L W ++ st.news) }
def atRound (L : LoopAnn) (W : List Nat) (base : St) (x : L.τ) (K : Ex → St → Prop) (e : Ex) (st : St) : Prop := match e with
  | .norm => bif newsOk L W base st.news then toHead L W base st fun x' => L.inv x' ∧ L.meas x' < L.meas x else False
  | e => K e (St.back L W base st)

def loopVC (L : LoopAnn) (W : List Nat) (K : Ex → St → Prop) (body : (Ex → St → Prop) → St → Prop) (st : St) : Prop :=
  toHead L W st st.clear L.inv ∧ ∀ x, L.inv x → body (atRound L W st x K) (headSt L W st x)

def thenK (E : Ex → St → Prop) (next : St → Prop) (e : Ex) (st : St) : Prop := match e with
  | .norm => next st
  | e => E e st

/-- one state behind a cond, if one there is -/
def oneC (E : Env) (c : Operand) (x y : Code) (st : St) : Option (List Prop × St) :=
  bif straight x && straight y then runC E (.cond c x y) st else none

def vcg (E : Env) (L : Nat → Option LoopAnn) : Code → (Ex → St → Prop) → St → Prop
  | .skip, K, st => K .norm st
  | .region _ ops d, K, st => match runR E d ops.toList st with
    | some (c, st') => conjK c (K .norm st')
    | none => False
  | .seq x y, K, st => vcg E L x (thenK K (vcg E L y K)) st
  | .cond c x y, K, st => match oneC E c x y st with
    | some (cs, st') => conjK cs (K .norm st')
    | none => match ev st.t c with
      | .tt => vcg E L x K st
      | .ff => vcg E L y K st
      | .bool b => (b = true → vcg E L x K st) ∧ (b = false → vcg E L y K st)
      | _ => False
  | .block id (.loop b), K, st => match L id with
    | some A => loopVC A (wrC b) (inBl id K) (vcg E L b) st
    | none => False
  | .block id b, K, st => vcg E L b (inBl id K) st
  | .exit i, K, st => K (.exit i) st
  | .ret, K, st => K .ret st
  | _, _, _ => False

/-! ### functions -/
def St.init (n : Nat) (avs : List AV) : St := { t := fun i => avs.getD i .undef, h := fun _ => none, dirty := [], news := [], dels := [], n := n, kb := 0 }

def resParts (T : Tab) (st : St) : List ResultVar → Option (List AV)
  | [] => some []
  | .tmp t :: r => match resParts T st r with
    | some l => some (st.t t :: l)
    | none => none
  | .cell a ty :: r => match st.t a with
    | .ref k off => match actLoad T st.h ty (.ref k off), resParts T st r with
      | some out, some l => some (out.res :: l)
      | _, _ => none
    | _ => none
def resOf : List AV → AV
  | [a] => a
  | as => .tup as

/-- n pieces of sz each -/
def gridOf {α : Type} (sz n : Nat) (l : List α) : List (List α) := (List.range n).map fun i => (l.drop (i * sz)).take sz
/-- slices into one row of ours, handed out as data -/
def gridM (h : Heap) (r : List Ty) (l : List (Row r)) (k : Nat) : List Prop × List Nat := match h k with
  | some (.views _ (some j) n m sz) => match h j with
    | some (.row _ row2 bytes _) => bif Nat.beq row2.length 1 then (match castL [.slice row2] r (gridOf sz n bytes) with
      | some g => ([m = n, g = l], [k, j])
      | none => ([False], [])) else ([False], [])
    | _ => ([False], [])
  | _ => (avm [] (fun _ => true) (pur1 h (.own k)).1 (.sl r l), (pur1 h (.own k)).2)
mutual
/-- which key is row i of the result? -/
def resSrc : AV → AV → List (Nat × Option Nat)
  | .own i, .own k => [(i, some k)]
  | .own i, .nil => [(i, none)]
  | .agg xs, .agg ys => resSrcs xs ys
  | .tup xs, .tup ys => resSrcs xs ys
  | _, _ => []
def resSrcs : List AV → List AV → List (Nat × Option Nat)
  | x :: xs, y :: ys => resSrc x y ++ resSrcs xs ys
  | _, _ => []
end
mutual
/-- when does what is known of a result give what is asked of it? and which rows of our own are handed out as data -/
def resM (h : Heap) (s : List (Nat × Option Nat)) : AV → AV → List Prop × List Nat
  | .own i, .own k => (match lookK s i with
    | some (some j) => bif Nat.beq k j then [] else [False]
    | _ => [False], [])
  | .own i, .nil => (match lookK s i with
    | some none => []
    | _ => [False], [])
  | .sl r l, .own k => gridM h r l k
  | .agg xs, .agg ys => resMs h s xs ys
  | .tup xs, .tup ys => resMs h s xs ys
  | x, y => (avm [] (fun _ => true) (pur1 h y).1 x, (pur1 h y).2)
def resMs (h : Heap) (s : List (Nat × Option Nat)) : List AV → List AV → List Prop × List Nat
  | [], [] => ([], [])
  | x :: xs, y :: ys => ((resM h s x y).1 ++ (resMs h s xs ys).1, (resM h s x y).2 ++ (resMs h s xs ys).2)
  | _, _ => ([False], [])
end
def rowsM (h : Heap) (s : List (Nat × Option Nat)) : Nat → List AB → List Prop
  | _, [] => []
  | i, b :: bs => (match lookK s i with
    | some (some k) => abm s (fun _ => true) (h k) b
    | some none => match b with
      | .row _ _ l false => [[] = l]
      | _ => [False]
    | none => [False]) ++ rowsM h s (i + 1) bs

/-- the rows that rows of slices lie in -/
def srcMore (h : Heap) (s : List (Nat × Option Nat)) : Nat → List AB → List (Nat × Option Nat)
  | _, [] => []
  | i, .views _ (some j) _ _ _ :: bs => (match lookK s i with
    | some (some k) => match h k with
      | some (.views _ (some j') _ _ _) => [(j, some j')]
      | _ => []
    | _ => []) ++ srcMore h s (i + 1) bs
  | i, _ :: bs => srcMore h s (i + 1) bs
def srcAll (h : Heap) (want r : AV) (bs : List AB) : List (Nat × Option Nat) := resSrc want r ++ srcMore h (resSrc want r) 0 bs

def retM (T : Tab) (st : St) (rs : List ResultVar) (want : AV) (bs : List AB) : Prop := match resParts T st rs with
  | none => False
  | some as => bif nodupB (srcKeys (srcAll st.h want (resOf as) bs)) && ((resM st.h (srcAll st.h want (resOf as) bs) want (resOf as)).2.all fun k => !hmem (srcKeys (srcAll st.h want (resOf as) bs)) k) && viewsOk bs.length bs then
      conj ((resM st.h (srcAll st.h want (resOf as) bs) want (resOf as)).1 ++ rowsM st.h (srcAll st.h want (resOf as) bs) 0 bs) else False

def atRet (T : Tab) (rs : List ResultVar) (want : AV) (bs : List AB) (e : Ex) (st : St) : Prop := match e with
  | .norm => retM T st rs want bs
  | .ret => retM T st rs want bs
  | _ => False

def vcFn (E : Env) (L : Nat → Option LoopAnn) (c : Code) (n : Nat) (rs : List ResultVar) (avs : List AV) (want : AV) (bs : List AB) : Prop :=
  bif Nat.ble avs.length n then vcg E L c (atRet E.T rs want bs) (St.init n avs) else False

end Go.Vg
/-
  A VERIFIED VC GENERATOR, part T: regions, in the order of their text: what the generator's run of them says.
-/
namespace Go.Vg
open Go

section
variable {P : Program} {C : Ctx} {A : Nat → Prop} {β : Nat → Value} {w : World}

mutual
theorem AVrel_scrubP (p : Nat → Bool) {β' : Nat → Value} (hβ : ∀ k, p k = false → β' k = β k) : ∀ (a : AV) (v : Value), AVrel w A β v a → AVrel w A β' v (scrubP p a)
  | .junk, _, hr => by simp [scrubP, AVrel]
  | .undef, _, hr => by simpa only [scrubP, AVrel] using hr
  | .int _ _, _, hr => by simpa only [scrubP, AVrel] using hr
  | .bool _, _, hr => by simpa only [scrubP, AVrel] using hr
  | .tt, _, hr => by simpa only [scrubP, AVrel] using hr
  | .ff, _, hr => by simpa only [scrubP, AVrel] using hr
  | .str _, _, hr => by simpa only [scrubP, AVrel] using hr
  | .nil, _, hr => by simpa only [scrubP, AVrel] using hr
  | .nilp, _, hr => by simpa only [scrubP, AVrel] using hr
  | .nilf, _, hr => by simpa only [scrubP, AVrel] using hr
  | .sl _ _, _, hr => by simpa only [scrubP, AVrel] using hr
  | .full _ _, _, hr => by simpa only [scrubP, AVrel] using hr
  | .selem _ _ _, _, hr => by simpa only [scrubP, AVrel] using hr
  | .own k, v, hr => by
    simp only [scrubP]
    cases hk : p k with
    | true => simp [AVrel]
    | false => simp only [cond_false]; simpa only [AVrel, hβ k hk] using hr
  | .pre k n, v, hr => by
    simp only [scrubP]
    cases hk : p k with
    | true => simp [AVrel]
    | false => simp only [cond_false]; simpa only [AVrel, hβ k hk] using hr
  | .view k sz off n, v, hr => by
    simp only [scrubP]
    cases hk : p k with
    | true => simp [AVrel]
    | false => simp only [cond_false]; simpa only [AVrel, hβ k hk] using hr
  | .ref k off, v, hr => by
    simp only [scrubP]
    cases hk : p k with
    | true => simp [AVrel]
    | false => simp only [cond_false]; simpa only [AVrel, hβ k hk] using hr
  | .elem k sz i j, v, hr => by
    simp only [scrubP]
    cases hk : p k with
    | true => simp [AVrel]
    | false => simp only [cond_false]; simpa only [AVrel, hβ k hk] using hr
  | .agg cs, v, hr => by
    simp only [scrubP, AVrel] at hr ⊢
    obtain ⟨arr, h1, h2⟩ := hr
    exact ⟨arr, h1, AVrels_scrubP p hβ cs _ h2⟩
  | .tup cs, v, hr => by
    simp only [scrubP, AVrel] at hr ⊢
    obtain ⟨arr, h1, h2⟩ := hr
    exact ⟨arr, h1, AVrels_scrubP p hβ cs _ h2⟩
  | .fn f first caps, v, hr => by
    simp only [scrubP, AVrel] at hr ⊢
    obtain ⟨a1, a2, h1, h2, h3⟩ := hr
    exact ⟨a1, a2, h1, AVrels_scrubP p hβ first _ h2, AVrels_scrubP p hβ caps _ h3⟩
theorem AVrels_scrubP (p : Nat → Bool) {β' : Nat → Value} (hβ : ∀ k, p k = false → β' k = β k) : ∀ (as : List AV) (vs : List Value), AVrels w A β vs as → AVrels w A β' vs (scrubPL p as)
  | [], _, hr => by simpa only [scrubPL, AVrels] using hr
  | a :: as, vs, hr => by
    simp only [scrubPL, AVrels] at hr ⊢
    obtain ⟨v, vs', h1, h2, h3⟩ := hr
    exact ⟨v, vs', h1, AVrel_scrubP p hβ a v h2, AVrels_scrubP p hβ as vs' h3⟩
end

theorem BR_scrubP (p : Nat → Bool) {k : Nat} {ab : AB} (h : BR w A β k ab) : BR w A β k (scrubPB p ab) := by
  cases ab with
  | cells cs =>
    obtain ⟨b, arr, e, h1, h2, h3, h4, h5⟩ := h
    exact ⟨b, arr, e, h1, h2, h3, AVrels_scrubP p (fun _ _ => rfl) _ _ h4, h5⟩
  | row e row l fr => exact h
  | views e j n m sz =>
    obtain ⟨xs, h1, h2, h3⟩ := h
    refine ⟨xs, h1, h2, fun j' hj' i hi => ?_⟩
    cases j with
    | none => simp [scrubPJ] at hj'
    | some j0 =>
      simp only [scrubPJ] at hj'
      cases hp : p j0 with
      | true => rw [hp] at hj'; simp at hj'
      | false =>
        rw [hp] at hj'
        exact h3 j' hj' i hi

mutual
theorem scrubP_scrubP (p q : Nat → Bool) : ∀ a, scrubP q (scrubP p a) = scrubP (fun k => p k || q k) a
  | .own k => by cases hk : p k <;> simp [scrubP, hk]
  | .pre k _ => by cases hk : p k <;> simp [scrubP, hk]
  | .view k _ _ _ => by cases hk : p k <;> simp [scrubP, hk]
  | .ref k _ => by cases hk : p k <;> simp [scrubP, hk]
  | .elem k _ _ _ => by cases hk : p k <;> simp [scrubP, hk]
  | .agg cs => by simp [scrubP, scrubPL_scrubPL p q cs]
  | .tup cs => by simp [scrubP, scrubPL_scrubPL p q cs]
  | .fn f first caps => by simp [scrubP, scrubPL_scrubPL p q first, scrubPL_scrubPL p q caps]
  | .junk | .undef | .int _ _ | .bool _ | .tt | .ff | .str _ | .nil | .nilp | .nilf | .sl _ _ | .full _ _ | .selem _ _ _ => by simp [scrubP]
theorem scrubPL_scrubPL (p q : Nat → Bool) : ∀ as, scrubPL q (scrubPL p as) = scrubPL (fun k => p k || q k) as
  | [] => rfl
  | a :: as => by simp [scrubPL, scrubP_scrubP p q a, scrubPL_scrubPL p q as]
end
theorem scrubPJ_scrubPJ (p q : Nat → Bool) (j : Option Nat) : scrubPJ q (scrubPJ p j) = scrubPJ (fun k => p k || q k) j := by
  cases j with
  | none => rfl
  | some k => cases hp : p k <;> simp [scrubPJ, hp]
theorem scrubPB_scrubPB (p q : Nat → Bool) (b : AB) : scrubPB q (scrubPB p b) = scrubPB (fun k => p k || q k) b := by
  cases b <;> simp [scrubPB, scrubPL_scrubPL, scrubPJ_scrubPJ]
theorem scrubPO_scrubPO (p q : Nat → Bool) (b : Option AB) : scrubPO q (scrubPO p b) = scrubPO (fun k => p k || q k) b := by
  cases b <;> simp [scrubPO, scrubPB_scrubPB]

mutual
theorem scrub_eq (d : Nat) : ∀ a, scrub d a = scrubP (fun k => Nat.beq k d) a
  | .own k => rfl
  | .pre k _ => rfl
  | .view k _ _ _ => rfl
  | .ref k _ => rfl
  | .elem k _ _ _ => rfl
  | .agg cs => by simp [scrub, scrubP, scrubL_eq d cs]
  | .tup cs => by simp [scrub, scrubP, scrubL_eq d cs]
  | .fn f first caps => by simp [scrub, scrubP, scrubL_eq d first, scrubL_eq d caps]
  | .junk | .undef | .int _ _ | .bool _ | .tt | .ff | .str _ | .nil | .nilp | .nilf | .sl _ _ | .full _ _ | .selem _ _ _ => by simp [scrub, scrubP]
theorem scrubL_eq (d : Nat) : ∀ as, scrubL d as = scrubPL (fun k => Nat.beq k d) as
  | [] => rfl
  | a :: as => by simp [scrubL, scrubPL, scrub_eq d a, scrubL_eq d as]
end
mutual
theorem scrubP_none : ∀ a, scrubP (fun _ => false) a = a
  | .own k => rfl
  | .pre k _ => rfl
  | .view k _ _ _ => rfl
  | .ref k _ => rfl
  | .elem k _ _ _ => rfl
  | .agg cs => by simp [scrubP, scrubPL_none cs]
  | .tup cs => by simp [scrubP, scrubPL_none cs]
  | .fn f first caps => by simp [scrubP, scrubPL_none first, scrubPL_none caps]
  | .junk | .undef | .int _ _ | .bool _ | .tt | .ff | .str _ | .nil | .nilp | .nilf | .sl _ _ | .full _ _ | .selem _ _ _ => by simp [scrubP]
theorem scrubPL_none : ∀ as, scrubPL (fun _ => false) as = as
  | [] => rfl
  | a :: as => by simp [scrubPL, scrubP_none a, scrubPL_none as]
end
theorem scrubPJ_none (j : Option Nat) : scrubPJ (fun _ => false) j = j := by cases j <;> rfl
theorem scrubPB_none (b : AB) : scrubPB (fun _ => false) b = b := by cases b <;> simp [scrubPB, scrubPL_none, scrubPJ_none]
theorem scrubPO_none (b : Option AB) : scrubPO (fun _ => false) b = b := by cases b <;> simp [scrubPO, scrubPB_none]

def inNew : List (Nat × AB) → Nat → Bool
  | [], _ => false
  | (j, _) :: r, k => Nat.beq k j || inNew r k
theorem scrubs_eq : ∀ (new : List (Nat × AB)) (a : AV), scrubs new a = scrubP (inNew new) a
  | [], a => by
    have : inNew [] = fun _ => false := rfl
    rw [this, scrubP_none]; rfl
  | (j, b) :: r, a => by
    simp only [scrubs]
    rw [scrubs_eq r, scrub_eq, scrubP_scrubP]
    rfl
theorem scrubBs_eq (new : List (Nat × AB)) (b : AB) : scrubBs new b = scrubPB (inNew new) b := by
  induction new generalizing b with
  | nil =>
    have : inNew [] = fun _ => false := rfl
    rw [this, scrubPB_none]; rfl
  | cons x r ih =>
    obtain ⟨k0, y⟩ := x
    simp only [scrubBs]
    rw [ih]
    cases b with
    | cells cs => simp only [scrubB, scrubL_eq, scrubPB, scrubPL_scrubPL]; rfl
    | row _ _ _ _ => rfl
    | views e j n m sz =>
      have : scrubJ k0 j = scrubPJ (fun k => Nat.beq k k0) j := by cases j <;> rfl
      simp only [scrubB, this, scrubPB, scrubPJ_scrubPJ]; rfl
theorem inNew_hfind : ∀ (new : List (Nat × AB)) (k : Nat), inNew new k = (hfind new k).isSome
  | [], _ => rfl
  | (j, b) :: r, k => by
    simp only [inNew, hfind, inNew_hfind r k]
    cases Nat.beq k j <;> simp

/-- what one way through a piece of code left as it was: W: the slots that it may write -/
structure From (W : List Nat) (base s : St) : Prop where
  keep : ∃ p, (∀ k, p k = true → inK base.kb s.news k = true) ∧ (∀ i, hmem W i = false → s.t i = scrubP p (base.t i)) ∧
    ∀ k, hmem s.dirty k = false → s.h k = scrubPO p (base.h k)
  n : s.n = base.n
  kb : s.kb = base.kb
  dirty : ∀ k, hmem base.dirty k = true → hmem s.dirty k = true
  news : ∀ k, inK base.kb base.news k = true → inK base.kb s.news k = true

theorem hmem_append : ∀ (a b : List Nat) (k : Nat), hmem (a ++ b) k = (hmem a k || hmem b k)
  | [], _, _ => rfl
  | j :: a, b, k => by simp only [List.cons_append, hmem, hmem_append a b k, Bool.or_assoc]
theorem inK_append (kb : Nat) : ∀ (a b : List KS) (k : Nat), inK kb (a ++ b) k = (inK kb a k || inK kb b k)
  | [], _, _ => rfl
  | j :: a, b, k => by simp only [List.cons_append, inK, inK_append kb a b k, Bool.or_assoc]

theorem From.refl (W : List Nat) (s : St) : From W s s :=
  ⟨⟨fun _ => false, by simp, fun i _ => (scrubP_none _).symm, fun k _ => (scrubPO_none _).symm⟩, rfl, rfl, fun _ h => h, fun _ h => h⟩

theorem From.trans {W W' : List Nat} {s0 s1 s2 : St} (h1 : From W s0 s1) (h2 : From W' s1 s2) : From (W ++ W') s0 s2 := by
  obtain ⟨p, a1, a2, a3⟩ := h1.keep
  obtain ⟨q, b1, b2, b3⟩ := h2.keep
  refine ⟨⟨fun k => p k || q k, fun k hk => ?_, fun i hi => ?_, fun k hk => ?_⟩, h2.n.trans h1.n, h2.kb.trans h1.kb, fun k h => h2.dirty k (h1.dirty k h), fun k h => ?_⟩
  · rcases Bool.or_eq_true _ _ |>.mp hk with h | h
    · have := h2.news k (by rw [h1.kb]; exact a1 k h)
      rwa [h1.kb] at this
    · have := b1 k h
      rwa [h1.kb] at this
  · rw [hmem_append, Bool.or_eq_false_iff] at hi
    rw [b2 i hi.2, a2 i hi.1, scrubP_scrubP]
  · have hk1 : hmem s1.dirty k = false := by
      cases h : hmem s1.dirty k with
      | false => rfl
      | true => rw [h2.dirty k h] at hk; cases hk
    rw [b3 k hk, a3 k hk1, scrubPO_scrubPO]
  · have := h2.news k (by rw [h1.kb]; exact h1.news k h)
    rwa [h1.kb] at this

theorem From.mono {W W' : List Nat} {s0 s1 : St} (h : From W s0 s1) (hw : ∀ i, hmem W' i = false → hmem W i = false) : From W' s0 s1 := by
  obtain ⟨p, a1, a2, a3⟩ := h.keep
  exact ⟨⟨p, a1, fun i hi => a2 i (hw i hi), a3⟩, h.n, h.kb, h.dirty, h.news⟩

theorem inK_ones (kb : Nat) : ∀ (new : List (Nat × AB)) (k : Nat), inK kb (new.map fun x => KS.one x.1) k = inNew new k
  | [], _ => rfl
  | (j, b) :: r, k => by simp only [List.map_cons, inK, inNew, KS.has, inK_ones kb r k]
theorem hfind_none_of : ∀ (l : List (Nat × AB)) (k : Nat), hmem (l.map (·.1)) k = false → hfind l k = none
  | [], _, _ => rfl
  | (j, b) :: r, k, h => by
    simp only [List.map_cons, hmem, Bool.or_eq_false_iff] at h
    simp only [hfind, h.1, cond_false]
    exact hfind_none_of r k h.2

theorem From.put (st : St) (d : Option Nat) (out : Out) (W : List Nat) (hd : ∀ t, d = some t → hmem W t = true) : From W st (st.put d out) := by
  refine ⟨⟨inNew out.new, fun k hk => ?_, fun i hi => ?_, fun k hk => ?_⟩, rfl, rfl, fun k hk => ?_, fun k hk => ?_⟩
  · show inK st.kb (st.news ++ _) k = true
    rw [inK_append, inK_ones, hk]; simp
  · cases d with
    | none => exact scrubs_eq _ _
    | some t =>
      show (bif Nat.beq i t then out.res else scrubs out.new (st.t i)) = _
      have : Nat.beq i t = false := nbeq_false (fun h => by subst h; rw [hd i rfl] at hi; cases hi)
      rw [this]; exact scrubs_eq _ _
  · have hk' : hmem (out.upd.map (·.1)) k = false ∧ hmem out.del k = false ∧ hmem (out.new.map (·.1)) k = false := by
      simp only [St.put, hmem_append, Bool.or_eq_false_iff] at hk
      exact ⟨hk.1, hk.2.1, hk.2.2.1⟩
    show newH st.h out k = _
    simp only [newH, hfind_none_of _ _ hk'.2.2, hk'.2.1, cond_false, hfind_none_of _ _ hk'.1]
    cases st.h k with
    | none => rfl
    | some b => simp only [scrubPO, scrubBs_eq]
  · simp only [St.put, hmem_append, hk, Bool.or_true]
  · show inK st.kb (st.news ++ _) k = true
    rw [inK_append, hk]; rfl

theorem mergeB_rel (b : Bool) {k : Nat} {x y : Option AB} {ab : AB} (h : mergeB b x y = some ab) : (if b then x else y).isSome ∧
    ∀ c, (if b then x else y) = some c → BR w A β k c → BR w A β k ab := by
  unfold mergeB at h
  split at h
  · rename_i xs ys
    cases hl : Nat.beq xs.length ys.length with
    | false => simp [hl] at h
    | true =>
      simp only [hl, cond_true, Option.some.injEq] at h
      subst h
      refine ⟨by cases b <;> rfl, fun c hc hr => ?_⟩
      have hc' : c = .cells (if b then xs else ys) := by cases b <;> simp_all
      subst hc'
      obtain ⟨g, arr, e, h1, h2, h3, h4, h5⟩ := hr
      refine ⟨g, arr, e, h1, h2, h3, AVrels_merge b xs ys _ (Nat.eq_of_beq_eq_true hl) ?_, h5⟩
      cases b <;> simpa using h4
  · rename_i e r l fr e' r' m fr'
    split at h
    · rename_i m' hm
      cases hq : (Nat.beq e e' && (fr == fr')) with
      | false => simp [hq] at h
      | true =>
        simp only [hq, cond_true, Option.some.injEq] at h
        subst h
        simp only [Bool.and_eq_true, beq_iff_eq] at hq
        have he := Nat.eq_of_beq_eq_true hq.1
        have hf := hq.2
        subst he; subst hf
        unfold castL at hm
        split at hm
        · rename_i hr
          have hrr := Ty.eq_of_beqL _ _ hr
          subst hrr
          simp only [Option.some.injEq] at hm
          subst hm
          refine ⟨by cases b <;> rfl, fun c hc hr => ?_⟩
          cases b <;> (simp at hc; subst hc; exact hr)
        · cases hm
    · cases h
  · cases h

/-- the way that was taken says what the merged state says -/
theorem RelB.merge {b : Bool} {W : List Nat} {base b1 b2 s1 s2 m : St} {a : Act} (hm : mergeSt b W base s1 s2 = some m)
    (f1 : From W b1 s1) (e1 : ∀ i, hmem W i = false → b1.t i = base.t i) (g1 : b1.h = base.h) (n1 : b1.n = base.n) (k1 : b1.kb = base.kb)
    (f2 : From W b2 s2) (e2 : ∀ i, hmem W i = false → b2.t i = base.t i) (g2 : b2.h = base.h) (n2 : b2.n = base.n) (k2 : b2.kb = base.kb)
    (hB : RelB C A β (if b then s1 else s2) a w) : RelB C A β m a w := by
  unfold mergeSt at hm
  split at hm
  · simp only [Option.some.injEq] at hm
    subst hm
    -- the unwritten slots and blocks, weakened
    have ht : ∀ i, hmem W i = false → ∀ v, AVrel w A β v ((if b then s1 else s2).t i) → AVrel w A β v (scrubP (inK base.kb (s1.news ++ s2.news)) (base.t i)) := by
      intro i hi v h
      have h' := AVrel_scrubP (β' := β) (inK base.kb (s1.news ++ s2.news)) (fun _ _ => rfl) _ _ h
      obtain ⟨p1, a1, a2, _⟩ := f1.keep
      obtain ⟨p2, c1, c2, _⟩ := f2.keep
      cases b with
      | true =>
        simp only [if_true, a2 i hi, e1 i hi, scrubP_scrubP] at h'
        have : (fun k => p1 k || inK base.kb (s1.news ++ s2.news) k) = inK base.kb (s1.news ++ s2.news) := by
          funext k
          cases hp : p1 k with
          | false => rfl
          | true => rw [inK_append, ← k1, a1 k hp]; rfl
        rwa [this] at h'
      | false =>
        simp only [Bool.false_eq_true, if_false, c2 i hi, e2 i hi, scrubP_scrubP] at h'
        have : (fun k => p2 k || inK base.kb (s1.news ++ s2.news) k) = inK base.kb (s1.news ++ s2.news) := by
          funext k
          cases hp : p2 k with
          | false => rfl
          | true => rw [inK_append, ← k2, c1 k hp]; simp
        rwa [this] at h'
    have hh : ∀ k, hmem (s1.dirty ++ s2.dirty) k = false → ∀ ab, scrubPO (inK base.kb (s1.news ++ s2.news)) (base.h k) = some ab → ∃ c, (if b then s1 else s2).h k = some c ∧ (BR w A β k c → BR w A β k ab) := by
      intro k hk ab h
      rw [hmem_append, Bool.or_eq_false_iff] at hk
      obtain ⟨p1, a1, _, a3⟩ := f1.keep
      obtain ⟨p2, c1, _, c3⟩ := f2.keep
      cases hb : base.h k with
      | none => rw [hb] at h; simp [scrubPO] at h
      | some x =>
        rw [hb] at h
        simp only [scrubPO, Option.some.injEq] at h
        subst h
        cases b with
        | true =>
          refine ⟨scrubPB p1 x, by simp only [if_true, a3 k hk.1, g1, hb, scrubPO], fun hr => ?_⟩
          have h' := BR_scrubP (inK base.kb (s1.news ++ s2.news)) hr
          rw [scrubPB_scrubPB] at h'
          have : (fun k => p1 k || inK base.kb (s1.news ++ s2.news) k) = inK base.kb (s1.news ++ s2.news) := by
            funext k
            cases hp : p1 k with
            | false => rfl
            | true => rw [inK_append, ← k1, a1 k hp]; rfl
          rwa [this] at h'
        | false =>
          refine ⟨scrubPB p2 x, by simp only [Bool.false_eq_true, if_false, c3 k hk.2, g2, hb, scrubPO], fun hr => ?_⟩
          have h' := BR_scrubP (inK base.kb (s1.news ++ s2.news)) hr
          rw [scrubPB_scrubPB] at h'
          have : (fun k => p2 k || inK base.kb (s1.news ++ s2.news) k) = inK base.kb (s1.news ++ s2.news) := by
            funext k
            cases hp : p2 k with
            | false => rfl
            | true => rw [inK_append, ← k2, c1 k hp]; simp
          rwa [this] at h'
    -- a key that lives behind the merge lives on the way
    have hl : ∀ k ab, (bif hmem (s1.dirty ++ s2.dirty) k then mergeB b (s1.h k) (s2.h k) else scrubPO (inK base.kb (s1.news ++ s2.news)) (base.h k)) = some ab →
        ∃ c, (if b then s1 else s2).h k = some c ∧ (BR w A β k c → BR w A β k ab) := by
      intro k ab h
      cases hd : hmem (s1.dirty ++ s2.dirty) k with
      | false => rw [hd] at h; exact hh k hd ab h
      | true =>
        rw [hd] at h
        simp only [cond_true] at h
        obtain ⟨x1, x2⟩ := mergeB_rel (w := w) (A := A) (β := β) (k := k) b h
        obtain ⟨c, hc⟩ := Option.isSome_iff_exists.1 x1
        refine ⟨c, by cases b <;> simpa using hc, x2 c hc⟩
    have hlive : ∀ k, (bif hmem (s1.dirty ++ s2.dirty) k then mergeB b (s1.h k) (s2.h k) else scrubPO (inK base.kb (s1.news ++ s2.news)) (base.h k)).isSome → ((if b then s1 else s2).h k).isSome := by
      intro k hk
      obtain ⟨ab, hab⟩ := Option.isSome_iff_exists.1 hk
      obtain ⟨c, hc, _⟩ := hl k ab hab
      simp [hc]
    refine ⟨hB.defers, ?_, ?_, ?_, fun k k' b' h1 h2 => hB.apart k k' b' (hlive k h1) (hlive k' h2), hB.bound, hB.frame, hB.old, hB.base, fun k b' h1 => hB.mine k b' (hlive k h1)⟩
    · rw [hB.size]; cases b
      · exact f2.n.trans n2
      · exact f1.n.trans n1
    · intro i
      have hi := hB.tmps i
      show AVrel w A β _ (bif hmem W i then mergeV b (s1.t i) (s2.t i) else _)
      cases hW : hmem W i with
      | false => exact ht i hW _ hi
      | true =>
        refine AVrel_mergeV b _ _ ?_
        cases b <;> simpa using hi
    · intro k ab hab
      obtain ⟨c, hc, hr⟩ := hl k ab hab
      exact hr (hB.blocks k c hc)
  · cases hm

theorem From.merge {b : Bool} {W : List Nat} {base s1 s2 m : St} (hm : mergeSt b W base s1 s2 = some m) : From W base m := by
  unfold mergeSt at hm
  split at hm
  · simp only [Option.some.injEq] at hm
    subst hm
    refine ⟨⟨inK base.kb (s1.news ++ s2.news), fun k hk => ?_, fun i hi => ?_, fun k hk => ?_⟩, rfl, rfl, fun k hk => ?_, fun k hk => ?_⟩
    · simp only [inK_append] at hk ⊢; simp [hk]
    · simp only [hi, cond_false]
    · simp only [hmem_append, Bool.or_eq_false_iff] at hk
      simp only [hmem_append, hk.1.1, hk.1.2, Bool.or_self, cond_false]
    · simp only [hmem_append, hk, Bool.or_true]
    · simp only [inK_append, hk, Bool.true_or]
  · cases hm
end
end Go.Vg
/-
  A VERIFIED VC GENERATOR, part U: what came up in a region, operation by operation.
-/
namespace Go.Vg
open Go

/-- two states that say the same -/
def SEq (s r : St) : Prop := s.t = r.t ∧ s.h = r.h ∧ s.n = r.n ∧ s.kb = r.kb
theorem SEq.refl (s : St) : SEq s s := ⟨rfl, rfl, rfl, rfl⟩
theorem SEq.symm {s r : St} (h : SEq s r) : SEq r s := ⟨h.1.symm, h.2.1.symm, h.2.2.1.symm, h.2.2.2.symm⟩
theorem SEq.trans {s r q : St} (h : SEq s r) (g : SEq r q) : SEq s q := ⟨h.1.trans g.1, h.2.1.trans g.2.1, h.2.2.1.trans g.2.2.1, h.2.2.2.trans g.2.2.2⟩

def litAt (g : Bool) (d : Option Nat) (st : St) : St := match d with
  | some d => bif g then { st with t := fun i => bif Nat.beq i d then litV (st.t i) else st.t i } else st
  | none => st

/-- e comes up in s, and leaves s' -/
structure Fires (E : Env) (ops : List Oper) (e : Ev) (s s' : St) : Prop where
  op : ops[e.i]? = some e.o
  dst : dstOk s e.o = true
  kr : e.kr = krOf s e.o
  step : match e.out with
    | none => grd ops s.t e.o = some false
    | some out => grd ops s.t e.o = some true ∧ act E s e.o = some out ∧ newOk s.h out.new = true ∧ ∀ p ∈ out.cond, p
  next : SEq s' (litAt (isGuard ops e.i) e.o.dst (s.put e.o.dst e.eff))

def Exec (E : Env) (ops : List Oper) : List Ev → St → St → Prop
  | [], s, s' => SEq s' s
  | e :: es, s, s' => ∃ s1, Fires E ops e s s1 ∧ Exec E ops es s1 s'

def AllOk (kb : Nat) (ops : List Oper) : List Ev → List Ev → Prop
  | _, [] => True
  | tr, f :: es => evOk kb true ops tr f = true ∧ f.pre = preOf tr f.o.after.toList ∧ AllOk kb ops (f :: tr) es

section
variable {P : Program} {C : Ctx} {A : Nat → Prop} {β : Nat → Value} {st : St} {a : Act} {w : World} {E : Env}

theorem RelB.seq {s r : St} (hB : RelB C A β s a w) (h : SEq r s) : RelB C A β r a w := by
  obtain ⟨h1, h2, h3, h4⟩ := h
  refine ⟨hB.defers, by rw [h3]; exact hB.size, by rw [h1]; exact hB.tmps, by rw [h2]; exact hB.blocks, by rw [h2]; exact hB.apart, hB.bound, hB.frame, hB.old, hB.base, by rw [h2]; exact hB.mine⟩

theorem litV_rel {x : AV} {v : Value} (h : AVrel w A β v x) : AVrel w A β v (litV x) := by
  cases x with
  | bool b => cases b <;> simpa [litV, AVrel] using h
  | _ => exact h

theorem RelB.lit (g : Bool) (d : Option Nat) (hB : RelB C A β st a w) : RelB C A β (litAt g d st) a w := by
  cases d with
  | none => exact hB
  | some d =>
    cases g with
    | false => exact hB
    | true =>
      refine ⟨hB.defers, hB.size, fun i => ?_, hB.blocks, hB.apart, hB.bound, hB.frame, hB.old, hB.base, hB.mine⟩
      show AVrel w A β _ (bif Nat.beq i d then litV (st.t i) else st.t i)
      cases Nat.beq i d with
      | false => exact hB.tmps i
      | true => exact litV_rel (hB.tmps i)

theorem SEq.litAt {s r : St} (h : SEq s r) (g : Bool) (d : Option Nat) : SEq (litAt g d s) (litAt g d r) := by
  obtain ⟨h1, h2, h3, h4⟩ := h
  cases d with
  | none => exact ⟨h1, h2, h3, h4⟩
  | some d =>
    cases g with
    | false => exact ⟨h1, h2, h3, h4⟩
    | true => exact ⟨by simp only [Vg.litAt, cond_true, h1], h2, h3, h4⟩

theorem getD_some {a : Array Value} {i : Nat} {v : Value} (h : a.getD i undef = v) (hv : v ≠ undef) : a[i]? = some v := by
  rw [Array.getD_eq_getD_getElem?] at h
  cases hi : a[i]? with
  | none => rw [hi] at h; exact absurd h.symm hv
  | some x => rw [hi] at h; simpa using h

theorem grd_true (hB : RelB C A β st a w) {ops : Array Oper} {o : Oper} {x : Bool} (h : grd ops.toList st.t o = some x) : Region.wanted o (yielded ops a.tmps) = x := by
  unfold grd at h
  unfold Region.wanted
  cases hg : o.guard with
  | none => rw [hg] at h; simpa using h
  | some jw =>
    obtain ⟨j, want⟩ := jw
    rw [hg] at h
    simp only at h ⊢
    unfold gslot at h
    cases ho : ops[j]? with
    | none => simp [ho] at h
    | some oj =>
      simp only [Array.getElem?_toList, ho] at h
      cases hd : oj.dst with
      | none => simp [hd] at h
      | some g =>
        simp only [hd] at h
        have ht := hB.tmps g
        cases hv : st.t g with
        | tt =>
          rw [hv] at ht; simp only [AVrel] at ht
          simp only [hv, Option.some.injEq] at h
          have := getD_some ht (by simp [undef])
          simp only [yielded, ho, hd, Option.bind_some, this]
          cases want <;> simp_all
        | ff =>
          rw [hv] at ht; simp only [AVrel] at ht
          simp only [hv, Option.some.injEq] at h
          have := getD_some ht (by simp [undef])
          simp only [yielded, ho, hd, Option.bind_some, this]
          cases want <;> simp_all
        | undef =>
          rw [hv] at ht; simp only [AVrel] at ht
          simp only [hv, Option.some.injEq] at h
          have : yielded ops a.tmps j = none := by
            simp only [yielded, ho, hd, Option.bind_some]
            cases hx : a.tmps[g]? with
            | none => rfl
            | some v =>
              rw [Array.getD_eq_getD_getElem?, hx] at ht
              simp only [Option.getD_some] at ht
              subst ht
              rfl
          rw [this, ← h]; rfl
        | _ => rw [hv] at h; simp at h

/-- an operation that is not wanted -/
theorem RelB.skipped (hB : RelB C A β st a w) {d : Option Nat} (hd : ∀ t, d = some t → t < st.n) : RelB C A β (st.put d .skip) (a.put d undef) w :=
  hB.pure hd (c := []) (r := .undef) (by simp [AVrel])

theorem dstOk_lt {o : Oper} (h : dstOk st o = true) : ∀ t, o.dst = some t → t < st.n := by
  intro t ht
  unfold dstOk at h
  rw [ht] at h
  exact Nat.le_of_ble_eq_true h

theorem fires_sound (hE : EnvOk P E) {ops : Array Oper} {e : Ev} {s s' : St} (hf : Fires E ops.toList e s s') (hR : Rel C s a w) {K : Act → World → Prop} {Q : Exit → Act → World → Prop}
    (hK : ∀ a' w', Rel C s' a' w' → K a' w') : wpOp P ops Q e.i K a w := by
  obtain ⟨A, β, hB⟩ := hR
  have ho : ops[e.i]? = some e.o := by have := hf.op; simpa using this
  unfold wpOp
  simp only [ho]
  have hst := hf.step
  have hnext := hf.next
  unfold Ev.eff at hnext
  cases hout : e.out with
  | none =>
    rw [hout] at hst hnext
    rw [grd_true hB hst]
    simp only [Bool.false_eq_true, if_false]
    exact hK _ _ ⟨A, β, ((hB.skipped (dstOk_lt hf.dst)).lit _ _).seq hnext⟩
  | some out =>
    rw [hout] at hst hnext
    obtain ⟨h1, h2, h3, h4⟩ := hst
    rw [grd_true hB h1]
    simp only [if_true]
    refine .inl (act_sound hE hB h2 hf.dst h3 h4 fun a' w' hR' => ?_)
    obtain ⟨A', β', hB'⟩ := hR'
    exact hK _ _ ⟨A', β', (hB'.lit _ _).seq hnext⟩

theorem wpOps_exec (hE : EnvOk P E) {ops : Array Oper} {Q : Exit → Act → World → Prop} : ∀ (es : List Ev) (s s' : St) (a : Act) (w : World), Exec E ops.toList es s s' → Rel C s a w →
    (∀ a' w', Rel C s' a' w' → Q .normal a' w') → wpOps P ops Q (es.map (·.i)) a w
  | [], s, s', a, w, hx, hR, hQ => by
    obtain ⟨A, β, hB⟩ := hR
    exact hQ _ _ ⟨A, β, hB.seq hx⟩
  | e :: es, s, s', a, w, hx, hR, hQ => by
    obtain ⟨s1, h1, h2⟩ := hx
    rw [List.map_cons, wpOps_cons]
    exact fires_sound hE h1 hR fun a' w' hR' => wpOps_exec hE es s1 s' a' w' h2 hR' hQ

theorem conj_all : ∀ (ps : List Prop), conj ps → ∀ p ∈ ps, p
  | [], _, p, hp => by cases hp
  | [q], h, p, hp => by
    rcases List.mem_cons.1 hp with rfl | hp
    · exact h
    · cases hp
  | q :: r :: rs, h, p, hp => by
    rcases List.mem_cons.1 hp with rfl | hp
    · exact h.1
    · exact conj_all (r :: rs) h.2 p hp

theorem both_inv {b : Bool} {W : List Nat} {base : St} {r1 r2 : Option (List Prop × St)} {cs : List Prop} {m : St} (h : both b W base r1 r2 = some (cs, m)) :
    ∃ c1 s1 c2 s2, r1 = some (c1, s1) ∧ r2 = some (c2, s2) ∧ mergeSt b W base s1 s2 = some m ∧ cs = mergeC b c1 c2 := by
  unfold both at h
  split at h
  · rename_i c1 s1 c2 s2
    split at h
    · rename_i s hs
      simp only [Option.some.injEq, Prod.mk.injEq] at h
      exact ⟨c1, s1, c2, s2, rfl, rfl, by rw [hs, h.2], h.1.symm⟩
    · cases h
  · cases h

theorem mergeC_all {b : Bool} {c1 c2 : List Prop} (h : ∀ p ∈ mergeC b c1 c2, p) : (b = true → ∀ p ∈ c1, p) ∧ (b = false → ∀ p ∈ c2, p) := by
  unfold mergeC at h
  split at h
  · exact ⟨fun _ p hp => (by cases hp), fun _ p hp => (by cases hp)⟩
  · have := h _ (List.mem_cons_self ..)
    exact ⟨fun hb => conj_all _ (this.1 hb), fun hb => conj_all _ (this.2 hb)⟩

theorem andThenC_inv {c : List Prop} {r : Option (List Prop × St)} {cs : List Prop} {m : St} (h : andThenC c r = some (cs, m)) : ∃ c', r = some (c', m) ∧ cs = c ++ c' := by
  unfold andThenC at h
  split at h
  · rename_i c' s
    simp only [Option.some.injEq, Prod.mk.injEq] at h
    exact ⟨c', by rw [h.2], h.1.symm⟩
  · cases h

theorem lit_seq_tt {d : Nat} {b : Bool} (hv : st.t d = .bool b) : SEq (st.lit d (bif b then .tt else .ff)) (litAt true (some d) st) := by
  refine ⟨?_, rfl, rfl, rfl⟩
  funext i
  simp only [St.lit, litAt, cond_true]
  by_cases hi : i = d
  · subst hi; simp only [nbeq_true, cond_true, hv, litV]
  · simp only [nbeq_false hi, cond_false]
theorem lit_seq_id {d : Nat} (hv : ∀ b, st.t d ≠ .bool b) : SEq st (litAt true (some d) st) := by
  refine ⟨?_, rfl, rfl, rfl⟩
  funext i
  simp only [litAt, cond_true]
  by_cases hi : i = d
  · subst hi
    simp only [nbeq_true, cond_true]
    cases hx : st.t i with
    | bool b => exact absurd hx (hv b)
    | _ => rfl
  · simp only [nbeq_false hi, cond_false]

theorem fork_from {g : Bool} {W : List Nat} {d : Option Nat} {next : St → Option (List Prop × St)} {cs : List Prop} {m : St} (h : fork g W d st next = some (cs, m))
    (hF : ∀ s0 c s, next s0 = some (c, s) → From W s0 s) {W' : List Nat} (hW : ∀ i, hmem W' i = false → hmem W i = false) (ht : ∀ t, d = some t → hmem W' t = true) : From W' st m := by
  unfold fork at h
  cases d with
  | none => exact (hF _ _ _ h).mono hW
  | some d =>
    simp only at h
    cases g with
    | false => exact (hF _ _ _ h).mono hW
    | true =>
      simp only [cond_true] at h
      split at h
      · rename_i b hv
        obtain ⟨c1, s1, c2, s2, r1, r2, hm, rfl⟩ := both_inv h
        refine (From.merge hm).mono fun i hi => ?_
        simp only [hmem, Bool.or_eq_false_iff]
        refine ⟨nbeq_false fun h => ?_, hW i hi⟩
        subst h
        rw [ht i rfl] at hi; cases hi
      · exact (hF _ _ _ h).mono hW

theorem fork_run {g : Bool} {W : List Nat} {d : Option Nat} {next : St → Option (List Prop × St)} {cs : List Prop} {m : St} (h : fork g W d st next = some (cs, m)) (hcs : ∀ p ∈ cs, p)
    (hF : ∀ s0 c s, next s0 = some (c, s) → From W s0 s) :
    ∃ s0 c s, SEq s0 (litAt g d st) ∧ next s0 = some (c, s) ∧ (∀ p ∈ c, p) ∧ (∀ (C : Ctx) A β a w, RelB C A β s a w → RelB C A β m a w) := by
  unfold fork at h
  cases d with
  | none => exact ⟨st, cs, m, SEq.refl _, h, hcs, fun _ _ _ _ _ hB => hB⟩
  | some d =>
    simp only at h
    cases g with
    | false => exact ⟨st, cs, m, SEq.refl _, h, hcs, fun _ _ _ _ _ hB => hB⟩
    | true =>
      simp only [cond_true] at h
      split at h
      · rename_i b hv
        obtain ⟨c1, s1, c2, s2, r1, r2, hm, rfl⟩ := both_inv h
        have hc := mergeC_all hcs
        have e : ∀ x, ∀ i, hmem (d :: W) i = false → (st.lit d x).t i = st.t i := by
          intro x i hi
          simp only [hmem, Bool.or_eq_false_iff] at hi
          simp only [St.lit, hi.1, cond_false]
        refine ⟨st.lit d (bif b then .tt else .ff), if b then c1 else c2, if b then s1 else s2, lit_seq_tt hv, ?_, ?_, fun C A β a w hB => ?_⟩
        · cases b
          · exact r2
          · exact r1
        · cases b
          · exact hc.2 rfl
          · exact hc.1 rfl
        · have f1 := hF _ _ _ r1
          have f2 := hF _ _ _ r2
          exact hB.merge hm (f1.mono fun i hi => by simp only [hmem, Bool.or_eq_false_iff] at hi; exact hi.2) (e _) rfl rfl rfl
            (f2.mono fun i hi => by simp only [hmem, Bool.or_eq_false_iff] at hi; exact hi.2) (e _) rfl rfl rfl
      · rename_i hv
        exact ⟨st, cs, m, lit_seq_id (fun b hb => hv b hb), h, hcs, fun _ _ _ _ _ hB => hB⟩

theorem dsts_mem {o : Oper} {rest : List Oper} : ∀ t, o.dst = some t → hmem (dsts (o :: rest)) t = true := by
  intro t ht
  simp only [dsts, ht, hmem, nbeq_true, Bool.true_or]
theorem dsts_tail {o : Oper} {rest : List Oper} : ∀ i, hmem (dsts (o :: rest)) i = false → hmem (dsts rest) i = false := by
  intro i hi
  unfold dsts at hi
  split at hi
  · simp only [hmem, Bool.or_eq_false_iff] at hi; exact hi.2
  · exact hi

theorem runO_from {dr : Bool} {ops : List Oper} : ∀ (rest : List Oper) (i : Nat) (tr : List Ev) (st : St) (cs : List Prop) (m : St), runO E dr ops i tr rest st = some (cs, m) → From (dsts rest) st m
  | [], i, tr, st, cs, m, h => by
    simp only [runO, Option.some.injEq, Prod.mk.injEq] at h
    rw [← h.2]; exact From.refl _ _
  | o :: rest, i, tr, st, cs, m, h => by
    have hidem : ∀ W i, hmem W i = false → hmem (W ++ W) i = false := fun W i hi => by simp [hmem_append, hi]
    simp only [runO] at h
    split at h
    · cases h
    · cases hq : (dstOk st o && evOk st.kb dr ops tr ⟨i, o, none, krOf st o, preOf tr o.after.toList⟩) with
      | false => simp [hq] at h
      | true =>
        simp only [hq, cond_true] at h
        have := runO_from rest _ _ _ _ _ h
        exact ((From.put st o.dst .skip _ dsts_mem).trans (this.mono dsts_tail)).mono (hidem _)
    · split at h
      · cases h
      · rename_i out hact
        cases hq : (dstOk st o && (newOk st.h out.new && evOk st.kb dr ops tr ⟨i, o, some out, krOf st o, preOf tr o.after.toList⟩)) with
        | false => simp [hq] at h
        | true =>
          simp only [hq, cond_true] at h
          obtain ⟨c', h', _⟩ := andThenC_inv h
          have := fork_from h' (fun s0 c s hn => runO_from rest _ _ _ _ _ hn) dsts_tail dsts_mem
          exact ((From.put st o.dst out _ dsts_mem).trans this).mono (hidem _)

theorem litAt_undef {g : Bool} {d : Option Nat} : SEq (litAt g d (st.put d .skip)) (st.put d .skip) := by
  cases d with
  | none => exact SEq.refl _
  | some d =>
    cases g with
    | false => exact SEq.refl _
    | true =>
      refine ⟨?_, rfl, rfl, rfl⟩
      funext i
      simp only [litAt, cond_true, St.put, Out.skip]
      by_cases hi : i = d
      · subst hi; simp only [nbeq_true, cond_true, litV]
      · simp only [nbeq_false hi, cond_false]

theorem evOk_true {kb : Nat} {dr : Bool} {ops : List Oper} {tr : List Ev} {f : Ev} (h : evOk kb dr ops tr f = true) (hd : dr = true) : evOk kb true ops tr f = true := by subst hd; exact h

/-- **what the generator's run of a region says: as its guards go, its operations come up one by one** -/
theorem runO_exec {dr : Bool} {ops : List Oper} : ∀ (rest : List Oper) (i : Nat) (tr : List Ev) (st : St) (cs : List Prop) (m : St), runO E dr ops i tr rest st = some (cs, m) → (∀ p ∈ cs, p) →
    (∀ k, rest[k]? = ops[i + k]?) →
    ∃ es sl, Exec E ops es st sl ∧ es.map (·.i) = List.range' i rest.length ∧ (dr = true → AllOk st.kb ops tr es) ∧ ∀ (C : Ctx) A β a w, RelB C A β sl a w → RelB C A β m a w
  | [], i, tr, st, cs, m, h, hcs, hl => by
    simp only [runO, Option.some.injEq, Prod.mk.injEq] at h
    exact ⟨[], st, SEq.refl _, rfl, fun _ => trivial, fun _ _ _ _ _ hB => by rw [← h.2]; exact hB⟩
  | o :: rest, i, tr, st, cs, m, h, hcs, hl => by
    have h0 : ops[i]? = some o := by simpa using (hl 0).symm
    have hl' : ∀ k, rest[k]? = ops[i + 1 + k]? := fun k => by have := hl (k + 1); simpa [Nat.add_assoc, Nat.add_comm 1 k] using this
    simp only [runO] at h
    split at h
    · cases h
    · rename_i hg
      cases hq : (dstOk st o && evOk st.kb dr ops tr ⟨i, o, none, krOf st o, preOf tr o.after.toList⟩) with
      | false => simp [hq] at h
      | true =>
        simp only [hq, cond_true] at h
        rw [Bool.and_eq_true] at hq
        obtain ⟨es, sl, h1, h2, h3, h4⟩ := runO_exec rest _ _ _ _ _ h hcs hl'
        refine ⟨⟨i, o, none, krOf st o, preOf tr o.after.toList⟩ :: es, sl, ⟨st.put o.dst .skip, ⟨h0, hq.1, rfl, hg, litAt_undef.symm⟩, h1⟩, ?_, fun hd => ⟨evOk_true hq.2 hd, rfl, h3 hd⟩, h4⟩
        rw [List.map_cons, h2, List.length_cons, List.range'_succ]
    · rename_i hg
      split at h
      · cases h
      · rename_i out hact
        cases hq : (dstOk st o && (newOk st.h out.new && evOk st.kb dr ops tr ⟨i, o, some out, krOf st o, preOf tr o.after.toList⟩)) with
        | false => simp [hq] at h
        | true =>
          simp only [hq, cond_true] at h
          rw [Bool.and_eq_true, Bool.and_eq_true] at hq
          obtain ⟨c', h', rfl⟩ := andThenC_inv h
          obtain ⟨s0, c, s, e1, e2, e3, e4⟩ := fork_run h' (fun p hp => hcs p (List.mem_append_right _ hp)) (fun s0 c s hn => runO_from rest _ _ _ _ _ hn)
          obtain ⟨es, sl, h1, h2, h3, h4⟩ := runO_exec rest _ _ _ _ _ e2 e3 hl'
          refine ⟨⟨i, o, some out, krOf st o, preOf tr o.after.toList⟩ :: es, sl, ⟨s0, ⟨h0, hq.1, rfl, ⟨hg, hact, hq.2.1, fun p hp => hcs p (List.mem_append_left _ hp)⟩, e1⟩, h1⟩, ?_, fun hd => ⟨evOk_true hq.2.2 hd, rfl, by have := h3 hd; rw [show s0.kb = st.kb from e1.2.2.2.trans (by cases o.dst <;> cases isGuard ops i <;> rfl)] at this; exact this⟩, fun C A β a w hB => e4 _ _ _ _ _ (h4 _ _ _ _ _ hB)⟩
          rw [List.map_cons, h2, List.length_cons, List.range'_succ]

/-- a region that keeps the order of its text -/
theorem region_text (hE : EnvOk P E) {id : Nat} {ops : Array Oper} {cs : List Prop} {m : St} (h : runR E false ops.toList st = some (cs, m)) (hcs : ∀ p ∈ cs, p)
    (hR : Rel C st a w) {Q : Exit → Act → World → Prop} (hQ : ∀ a' w', Rel C m a' w' → Q .normal a' w') : (Code.region id ops false).wp P Q a w := by
  simp only [runR, cond_false] at h
  obtain ⟨es, sl, h1, h2, _, h4⟩ := runO_exec ops.toList 0 [] st cs m h hcs (fun k => by simp)
  refine wp_region ?_
  have := wpOps_exec (Q := Q) hE es st sl a w h1 hR (fun a' w' ⟨A, β, hB⟩ => hQ _ _ ⟨A, β, h4 _ _ _ _ _ hB⟩)
  rw [h2] at this
  rwa [Array.length_toList, ← List.range_eq_range'] at this

theorem From.ahead (st : St) (W : List Nat) : From W st (st.ahead W) := by
  refine ⟨⟨inK st.kb (W.map .dst), fun k hk => ?_, fun i _ => rfl, fun k _ => rfl⟩, rfl, rfl, fun k h => h, fun k h => ?_⟩
  · simp only [St.ahead, inK_append, hk, Bool.or_true]
  · simp only [St.ahead, inK_append, h, Bool.true_or]
theorem runR_from {dr : Bool} {ops : List Oper} {st : St} {cs : List Prop} {m : St} (h : runR E dr ops st = some (cs, m)) : From (dsts ops) st m := by
  unfold runR at h
  cases dr with
  | false => exact runO_from _ _ _ _ _ _ h
  | true => exact ((From.ahead st _).trans (runO_from _ _ _ _ _ _ h)).mono (fun i hi => by simp [hmem_append, hi])
theorem RelB.ahead (hB : RelB C A β st a w) (W : List Nat) : RelB C A β (st.ahead W) a w := by
  have hl : ∀ k ab, (st.ahead W).h k = some ab → ∃ c, st.h k = some c ∧ ab = scrubPB (inK st.kb (W.map .dst)) c := by
    intro k ab h
    simp only [St.ahead] at h
    cases hk : st.h k with
    | none => rw [hk] at h; cases h
    | some c => rw [hk] at h; simp only [scrubPO, Option.some.injEq] at h; exact ⟨c, rfl, h.symm⟩
  have hs : ∀ k, ((st.ahead W).h k).isSome → (st.h k).isSome := by
    intro k h
    obtain ⟨ab, hab⟩ := Option.isSome_iff_exists.1 h
    obtain ⟨c, hc, _⟩ := hl k ab hab
    simp [hc]
  refine ⟨hB.defers, hB.size, fun i => AVrel_scrubP _ (fun _ _ => rfl) _ _ (hB.tmps i), fun k ab h => ?_, fun k k' b h1 h2 => hB.apart k k' b (hs k h1) (hs k' h2), hB.bound, hB.frame, hB.old, hB.base, fun k b h => hB.mine k b (hs k h)⟩
  obtain ⟨c, hc, rfl⟩ := hl k ab h
  exact BR_scrubP _ (hB.blocks k c hc)
end
end Go.Vg
