/- DictBetween: for every input the given Go function returns true and leaves its arguments as they were. Conditions: none. -/
import Derived.Test.YtepaodgmfpbapaaDoorPartD
import Derived.Shelf.SlicesG.Clone
import Derived.Shelf.SlSortCmp.NoneTotal
import Derived.Shelf.SlIter.Nil
import Derived.Shelf.SortM.Plain
import Derived.Shelf.SortM.SortNone
import Derived.Test.YtepaodgmfpbapaaDoorProg
import Derived.Lib.Small
import Derived.Lib.Walk
import Derived.Sort.Walk0
import Derived.Laws.Cover1
import Derived.Maps.GroupsBeside
import Derived.Sort.KeysCollected
import Derived.WalkKit
import Derived.Test.YtepaodgmfpbapaaDoorCards
import Derived.Test.YtepaodgmfpbapaaDoorTie
import Derived.Deep.DeepHandedRow
import Derived.ProofKit
import Derived.OpenShut
set_option linter.unusedVariables false
set_option linter.unusedSimpArgs false
section
namespace Go.Vg
open Go Go.Shelf Go.RowKit Go.Proofs
def encS (s : List UInt8) : Value := .string ⟨s.toArray⟩
section
variable {w w' : World} {A : Nat → Prop} {G : Nat → Option GD}
theorem rdl_str : ∀ (l : List (List UInt8)) (cs : List Value), RdL (RdV w A [.str]) cs l → cs = l.map encS ∧ ∀ s ∈ l, s.length ≤ maxLen
  | [], cs, h => by simp only [RdL] at h; simp [h]
  | s :: l, cs, ⟨c1, c2, hc, h1, h2⟩ => by
    subst hc
    simp only [RdV] at h1
    obtain ⟨v, vs', rfl, hv, rfl⟩ := h1
    simp only [Rd] at hv
    obtain ⟨g1, g2⟩ := rdl_str l c2 h2
    obtain ⟨rfl, hl⟩ := hv
    refine ⟨by rw [g1]; rfl, fun s' hs' => ?_⟩
    rcases List.mem_cons.1 hs' with rfl | hs'
    · exact hl
    · exact g2 s' hs'
theorem rdl_str' : ∀ (l : List (List UInt8)), (∀ s ∈ l, s.length ≤ maxLen) → RdL (RdV w A [.str]) (l.map encS) l
  | [], _ => rfl
  | s :: l, h => ⟨[encS s], l.map encS, rfl, by
      simp only [RdV]
      exact ⟨_, [], rfl, by simp only [Rd]; exact ⟨rfl, h s (by simp)⟩, rfl⟩, rdl_str' l fun s' hs' => h s' (by simp [hs'])⟩
theorem rdl_int : ∀ (l : List Int) (cs : List Value), RdL (RdV w A [.int .i64]) cs l → cs = l.map (Value.int .i64) ∧ ∀ z ∈ l, lo .i64 ≤ z ∧ z ≤ hi .i64
  | [], cs, h => by simp only [RdL] at h; simp [h]
  | s :: l, cs, ⟨c1, c2, hc, h1, h2⟩ => by
    subst hc
    simp only [RdV] at h1
    obtain ⟨v, vs', rfl, hv, rfl⟩ := h1
    simp only [Rd] at hv
    obtain ⟨g1, g2⟩ := rdl_int l c2 h2
    obtain ⟨rfl, hl⟩ := hv
    refine ⟨by rw [g1]; rfl, fun s' hs' => ?_⟩
    rcases List.mem_cons.1 hs' with rfl | hs'
    · exact hl
    · exact g2 s' hs'
theorem rdl_int' : ∀ (l : List Int), (∀ z ∈ l, lo .i64 ≤ z ∧ z ≤ hi .i64) → RdL (RdV w A [.int .i64]) (l.map (Value.int .i64)) l
  | [], _ => rfl
  | s :: l, h => ⟨[.int .i64 s], l.map (Value.int .i64), rfl, by
      simp only [RdV]
      exact ⟨_, [], rfl, by simp only [Rd]; exact ⟨rfl, h s (by simp)⟩, rfl⟩, rdl_int' l fun s' hs' => h s' (by simp [hs'])⟩
theorem post_row {e : Nat} {row : List Ty} {l : List (Row row)} {v : Value} {xs : List Value} (hA : ∀ b, A b → b < w.heap.size) (hb : Below w.heap.size w w') (ho : w'.ownsRow w.heap.size e row.length v l.length xs) (hr : RdL (RdV w' A row) xs l) :
    ∃ A' β', CallPost w A w' v (.own 0) [.row e row l false] A' β' := by
  have hblk : ∀ b, blkOf v = some b → w.heap.size ≤ b := by
    intro b hb'
    rcases ho.2 with ⟨rfl, _⟩ | ⟨g, cap, cur, rfl, hg, _⟩
    · cases hb'
    · simp only [blkOf, Option.some.injEq] at hb'; omega
  have h1 : v.oneCell' = true := by
    rcases ho.2 with ⟨rfl, _⟩ | ⟨g, cap, cur, rfl, hg, _⟩ <;> rfl
  have ho0 : w'.ownsRow 0 e row.length v l.length xs := by
    refine ⟨ho.1, ?_⟩
    rcases ho.2 with h | ⟨g, cap, cur, g1, g2, g3⟩
    · exact .inl h
    · exact .inr ⟨g, cap, cur, g1, Nat.zero_le _, g3⟩
  refine ⟨A, fun _ => v, { os := hb.os, tape := hb.tape, output := hb.output, size := hb.size, same := hb.block, mono := fun _ h => h, old := fun _ _ h => h, bound := fun b h => Nat.lt_of_lt_of_le (hA b h) hb.size, res := ?_, rows := ?_, apart := ?_ }⟩
  · simp only [AVrel]; exact ⟨trivial, h1⟩
  · intro i ab hi
    match i, hi with
    | 0, hi =>
      simp only [List.getElem?_cons_zero, Option.some.injEq] at hi
      subst hi
      refine ⟨⟨xs, ho0, hr, fun b hb' => ?_⟩, hblk⟩
      simp only [Bool.false_eq_true, if_false]
      intro hAb
      have := hA b hAb
      have := hblk b hb'
      omega
    | i + 1, hi => simp at hi
  · intro i j b hi hj _ _
    simp at hi hj; omega
end
theorem getD_map_lt {α γ : Type} (f : α → γ) (l : List α) (j : Nat) (d : γ) (hj : j < l.length) : (l.map f).getD j d = f l[j] := by
  rw [List.getD_eq_getElem?_getD, List.getElem?_map, List.getElem?_eq_getElem hj]; rfl
theorem calls_of_nil {P : Program} {f : FuncId} {args : Array Value} {w : World} {A : Nat → Prop} {e : Nat} {row : List Ty} (hA : ∀ b, A b → b < w.heap.size)
    (h : Calls P f args w fun e w' => e = .returned (.slice none 0 0) ∧ w' = w) : Calls P f args w fun ex w' => ∃ v, ex = .returned v ∧ ∃ A' β', CallPost w A w' v (.own 0) [.row e row [] false] A' β' :=
  h.mono fun ex w' ⟨he, hw⟩ => by
    subst hw
    exact ⟨_, he, post_row (xs := []) hA (Below.refl _ _) ⟨by simp, .inl ⟨rfl, rfl⟩⟩ rfl⟩
theorem calls_of_row {P : Program} {f : FuncId} {args : Array Value} {w : World} {A : Nat → Prop} {e : Nat} {row : List Ty} {l : List (Row row)} {xs : List Value} (hA : ∀ b, A b → b < w.heap.size)
    (hr : ∀ w', RdL (RdV w' A row) xs l)
    (h : Calls P f args w fun ex w' => ∃ v', ex = .returned v' ∧ w'.ownsRow w.heap.size e row.length v' l.length xs ∧ v' ≠ .slice none 0 0 ∧ Below w.heap.size w w') :
    Calls P f args w fun ex w' => ∃ v, ex = .returned v ∧ ∃ A' β', CallPost w A w' v (.own 0) [.row e row l false] A' β' :=
  h.mono fun ex w' ⟨v', he, ho, _, hb⟩ => ⟨v', he, post_row hA hb ho (hr w')⟩
theorem args_one {w : World} {A : Nat → Prop} {β : Nat → Value} {row : List Ty} {args : List Value} {l : List (Row row)} (h : AVrels w A β args [.sl row l]) : ∃ a cap cs, args = [.slice a l.length cap] ∧ l.length ≤ cap ∧ cap ≤ maxLen ∧ RdL (RdV w A row) cs l ∧
      (cs ≠ [] → ∃ b o, a = some ⟨b, o, none⟩ ∧ A b ∧ w.rangeAt b o cs) := by
  simp only [AVrels] at h
  obtain ⟨v, vs', rfl, hv, rfl⟩ := h
  simp only [AVrel, Rd] at hv
  obtain ⟨a, cap, cs, rfl, h1, h2, h3, h4⟩ := hv
  exact ⟨a, cap, cs, rfl, h1, h2, h3, h4⟩
theorem valid_clone_str {P : Program} {ρ : Ren} {G : Nat → Option GD} (L : SlLaysN.n42 P ρ) {F : Row (PS.flat [.one (.slice [.str])]) → Prop × AV × List AB}
    (hF : ∀ l : List (List UInt8), F l = (l.length ≤ 1099511627776, .own 0, [.row (ρ.t 26) [.str] l false])) : Valid P G (ρ.f 42) (sigOf [.one (.slice [.str])] F) := by
  intro w A β args avs pre res bs hA hG hargs hs hp
  unfold sigOf at hs
  split at hs
  · rename_i x hx
    change List (List UInt8) at x
    have hs' := hs
    rw [hF x] at hs'
    simp only [Option.some.injEq, Prod.mk.injEq] at hs'
    obtain ⟨rfl, rfl, rfl⟩ := hs'
    obtain ⟨g1, g2⟩ := backD_rel _ hx hargs
    obtain ⟨a, cap, cs, rfl, h1, h2, h3, h4⟩ := args_one (row := [.str]) (l := x) g1
    obtain ⟨rfl, hl⟩ := rdl_str x cs h3
    cases x with
    | nil => cases a with
      | none => exact calls_of_nil hA (AnyG.slices_Clone_string_nil L 0 cap w)
      | some ad => exact calls_of_row (xs := []) hA (fun _ => rfl) (AnyG.slices_Clone_string_zero L ad cap w)
    | cons s x =>
      obtain ⟨b, o, rfl, hAb, hr⟩ := h4 (by simp)
      refine calls_of_row (xs := (s :: x).map encS) hA (fun _ => rdl_str' _ hl) ?_
      have := AnyG.slices_Clone_string L b o (s :: x).length cap ((s :: x).map fun s => ⟨s.toArray⟩) w (by simp) (by omega) (fun j hj => by
        refine hr j _ ?_
        simp only [List.length_map] at hj
        rw [getD_map_lt _ _ _ _ hj, List.getElem?_map, List.getElem?_eq_getElem hj]
        rfl)
      have e1 : (((s :: x).map fun s => (⟨s.toArray⟩ : ByteArray)).take (s :: x).length).map Value.string = (s :: x).map encS := by
        rw [List.take_of_length_le (by simp), List.map_map]; rfl
      rw [e1] at this
      exact this
  · cases hs
theorem valid_clone_int {P : Program} {ρ : Ren} {G : Nat → Option GD} (L : SlLaysN.n41 P ρ) {F : Row (PS.flat [.one (.slice [.int .i64])]) → Prop × AV × List AB}
    (hF : ∀ l : List Int, F l = (l.length ≤ 1099511627776, .own 0, [.row (ρ.t 23) [.int .i64] l false])) : Valid P G (ρ.f 41) (sigOf [.one (.slice [.int .i64])] F) := by
  intro w A β args avs pre res bs hA hG hargs hs hp
  unfold sigOf at hs
  split at hs
  · rename_i x hx
    change List Int at x
    have hs' := hs
    rw [hF x] at hs'
    simp only [Option.some.injEq, Prod.mk.injEq] at hs'
    obtain ⟨rfl, rfl, rfl⟩ := hs'
    obtain ⟨g1, g2⟩ := backD_rel _ hx hargs
    obtain ⟨a, cap, cs, rfl, h1, h2, h3, h4⟩ := args_one (row := [.int .i64]) (l := x) g1
    obtain ⟨rfl, hl⟩ := rdl_int x cs h3
    cases x with
    | nil => cases a with
      | none => exact calls_of_nil hA (AnyG.slices_Clone_int_nil L 0 cap w)
      | some ad => exact calls_of_row (xs := []) hA (fun _ => rfl) (AnyG.slices_Clone_int_zero L ad cap w)
    | cons s x =>
      obtain ⟨b, o, rfl, hAb, hr⟩ := h4 (by simp)
      refine calls_of_row (xs := (s :: x).map (Value.int .i64)) hA (fun _ => rdl_int' _ hl) ?_
      have := AnyG.slices_Clone_int L b o (s :: x).length cap (s :: x) w (by simp) (by omega) (fun j hj => by
        refine hr j _ ?_
        rw [List.getElem?_map, List.getElem?_eq_getElem hj]
        simp [List.getD, List.getElem?_eq_getElem hj])
      rw [List.take_of_length_le (by simp)] at this
      exact this
  · cases hs
end Go.Vg
end
section
namespace Go.Vg
open Go Go.Shelf Go.RowKit Go.Proofs Go.Sort Go.Lib
theorem cmpS_lt (a b : List UInt8) : ltOf S.cmpS a b = Op.bytesLess a b := by
  unfold ltOf S.cmpS
  by_cases h : Op.bytesLess a b
  · simp [h]
  · simp only [h]
    by_cases h2 : Op.bytesLess b a <;> simp [h2]
theorem cmpS_swo : SWO (ltOf S.cmpS) where
  irrefl x := by rw [cmpS_lt]; exact S.bl_irrefl x
  trans x y z h1 h2 := by rw [cmpS_lt] at *; exact S.bl_trans _ _ _ h1 h2
  ntrans x y z h1 h2 := by
    rw [cmpS_lt] at *
    cases h : Op.bytesLess x z with
    | false => rfl
    | true =>
      rcases S.bl_tri x y with t | t | t
      · rw [t] at h1; cases h1
      · subst t; rw [h] at h2; cases h2
      · rw [S.bl_trans _ _ _ t h] at h2; cases h2
theorem cmpS_total (x y : List UInt8) (h1 : ltOf S.cmpS x y = false) (h2 : ltOf S.cmpS y x = false) : x = y := by
  rw [cmpS_lt] at *
  rcases S.bl_tri x y with t | t | t
  · rw [t] at h1; cases h1
  · exact t
  · rw [t] at h2; cases h2
theorem heap_putRow {α : Type} [Inhabited α] (enc : α → Value) (w : World) (blk off : Nat) (d : Array α) {c : Array Value} {e : TypeId} {fr : Nat × Nat} (h : w.heap[blk]? = some (.cells c e fr)) :
    (putRow enc w blk off d).heap[blk]? = some (.cells (putCells enc off d c) e fr) := by
  unfold putRow mapBlock
  simp [Array.getElem?_modify, h, onCells]
theorem heap_putRow_ne {α : Type} [Inhabited α] (enc : α → Value) (w : World) (blk off k : Nat) (d : Array α) (h : k ≠ blk) : (putRow enc w blk off d).heap[k]? = w.heap[k]? := by
  unfold putRow mapBlock
  simp [Array.getElem?_modify, Ne.symm h]
theorem size_putRow {α : Type} [Inhabited α] (enc : α → Value) (w : World) (blk off : Nat) (d : Array α) : (putRow enc w blk off d).heap.size = w.heap.size := by
  unfold putRow mapBlock
  simp
theorem putCells_take (l : List (List UInt8)) (c : Array Value) (h : l.length ≤ c.size) : (putCells encS 0 l.toArray c).toList.take l.length = l.map encS := by
  apply List.ext_getElem?
  intro k
  rw [List.getElem?_take]
  by_cases hk : k < l.length
  · rw [if_pos hk, List.getElem?_map, List.getElem?_eq_getElem hk, Array.getElem?_toList]
    simp only [putCells, Array.getElem?_mapIdx, Array.getElem?_eq_getElem (show k < c.size by omega), Option.map_some]
    rw [if_pos ⟨Nat.zero_le _, by simpa using hk⟩]
    simp [hk]
  · rw [if_neg hk, List.getElem?_eq_none (by simp; omega)]
theorem putCells_size {α : Type} [Inhabited α] (enc : α → Value) (d : Array α) (c : Array Value) : (putCells enc 0 d c).size = c.size := by simp [putCells]
theorem valid_sort_str {P : Program} {ρ : Ren} {G : Nat → Option GD} (L : SlLaysF.n6 P ρ) {g e : Nat} (eg : ∀ args w, (callFunc g args).run P w = .ok (.enter g args) w)
    (hcmp : ∀ (x y : List UInt8) (w : World), Calls P g #[encS x, encS y] w fun e w' => e = .returned (.int .i64 (S.cmpS x y)) ∧ w' = w)
    {F : Row (TA.tyss [.own 50000, .fn (.func g) [] []]) → BsD [.row e [.str]] → HRes}
    (hF : ∀ l : List (List UInt8), F () (l, ()) = { pre := l.length ≤ 1099511627776, res := .tup [], heap := [some (.row e [.str] (S.sortS l) false)], new := [] }) :
    ValidH P G (ρ.f 6) (hsigOf [.own 50000, .fn (.func g) [] []] [.row e [.str]] F) := by
  intro w A β args avs hs r hA hG hargs hbr hap hsr hp hlen h100
  unfold hsigOf at hsr
  split at hsr
  · rename_i cs hcs
    split at hsr
    · rename_i x y hx hy
      obtain ⟨l, u⟩ := y
      simp only [Option.some.injEq] at hsr
      have hxu : x = () := rfl
      subst hxu
      rw [hF l] at hsr
      subst hsr
      obtain ⟨g1, g2⟩ := TAs_data hcs hx hargs
      obtain ⟨q1, q2, q3⟩ := BsD_rel (w := w) (A := A) (β := β) [.row e [.str]] hs (l, u) 50000 hy hbr
      have hb := q2 0 (.row e [.str] l false) rfl
      have hlen1 : hs.length = 1 := by rw [← q1]; rfl
      simp only [TA.puts, TA.put, AVrels] at g1
      obtain ⟨v0, vs', rfl, hv0, v1, vs'', rfl, hv1, rfl⟩ := g1
      simp only [AVrel] at hv0 hv1
      obtain ⟨hv0, hone⟩ := hv0
      obtain ⟨a1, a2, rfl, ha1, ha2⟩ := hv1
      simp only [TA.puts, AVrels, List.drop_nil, List.take_nil] at ha1 ha2
      have ea1 : a1 = #[] := by apply Array.ext'; simpa using ha1
      have ea2 : a2 = #[] := by apply Array.ext'; simpa using ha2
      subst ea1; subst ea2
      obtain ⟨xs, ho, hrd, hnA⟩ := hb
      obtain ⟨rfl, hl⟩ := rdl_str l xs hrd
      have hsl : ∀ s ∈ S.sortS l, s.length ≤ maxLen := fun s hs' => hl s ((List.mergeSort_perm l _).subset hs')
      have hslen : (S.sortS l).length = l.length := (List.mergeSort_perm l _).length_eq
      simp only [Bool.false_eq_true, if_false] at hnA
      rcases ho.2 with ⟨hn1, hn2⟩ | ⟨g0, cap, cur, hv, _, hg0, hcap, hcap2, hsz, htk⟩
      ·
        have hl0 : l = [] := List.length_eq_zero_iff.1 hn2
        subst hl0
        rw [hv0, hn1]
        have hs0 : S.sortS [] = [] := List.length_eq_zero_iff.1 hslen
        rw [hs0]
        refine (AnyF.slices_SortFunc_none { L with } none 0 (.func (.func g) #[] #[]) w).mono fun ex w' ⟨he, hw⟩ => ?_
        subst hw
        refine ⟨_, he, A, β, { os := rfl, tape := rfl, output := rfl, size := Nat.le_refl _, same := fun _ _ _ => rfl, mono := fun b h => ⟨h, rfl⟩, old := fun _ _ h => .inl h, bound := hA, res := by simp only [AVrel]; exact ⟨#[], rfl, by simp [AVrels]⟩, kept := ?_, rows := ?_, apart := ?_ }⟩
        · intro i ab hi
          match i, hi with
          | 0, hi =>
            simp only [List.getElem?_cons_zero, Option.some.injEq] at hi
            subst hi
            exact ⟨⟨_, ho, hrd, by simpa using hnA⟩, rfl⟩
          | i + 1, hi => simp at hi
        · intro j ab hj; simp at hj
        · intro k k' b hk hk' _ _
          rcases hk with ⟨i, ab, rfl, _, hi⟩ | ⟨j, _, hj⟩
          · rcases hk' with ⟨i', ab', rfl, _, hi'⟩ | ⟨j, _, hj⟩
            · match i, i', hi, hi' with
              | 0, 0, _, _ => rfl
              | i + 1, _, hi, _ => simp at hi
              | 0, i + 1, _, hi' => simp at hi'
            · simp at hj
          · simp at hj
      · have hg0lt : g0 < w.heap.size := (Array.getElem?_eq_some_iff.1 hg0).1
        simp only [List.length_cons, List.length_nil, Nat.zero_add, Nat.mul_one] at hsz htk
        have hcur : ∀ j, j < l.length → cur[j]? = some (encS (l.toArray)[j]!) := fun j hj => by
          have h1 : (cur.toList.take l.length)[j]? = some (encS l[j]) := by rw [htk, List.getElem?_map, List.getElem?_eq_getElem hj]; rfl
          rw [List.getElem?_take, if_pos hj, Array.getElem?_toList] at h1
          rw [h1]; simp [hj]
        have hH : Holds encS w g0 0 l.toArray := fun j hj => by
          have hj' : j < l.length := by simpa using hj
          refine ⟨?_, ?_⟩
          · simp only [World.cell?, hg0]
            simpa using hcur j hj'
          · simp only [World.frozen?, hg0]
            simp
        rw [hv0, hv]
        have hc := Any.slices_SortFunc_total L encS (fun _ => rfl) S.cmpS cmpS_swo g #[] g0 0 cap l.toArray w eg (fun m os dk _ x y => (hcmp x y _).mono fun ex w' ⟨he, hw⟩ => ⟨he, 0, #[], by rw [hw]; rfl⟩) hH hg0lt (by simp only [List.size_toArray]; omega) cmpS_total
        have e1 : (l.toArray.toList.mergeSort fun x y => !(ltOf S.cmpS) y x) = S.sortS l := by
          unfold S.sortS
          simp only [List.toList_toArray, cmpS_lt]
        rw [e1] at hc
        refine hc.mono fun ex w' ⟨he, n, os, hw⟩ => ?_
        have hw0 : (putRow encS (Go.Sort.ahead w n) g0 0 (S.sortS l).toArray).heap[g0]? = some (.cells (putCells encS 0 (S.sortS l).toArray cur) e (0, 0)) := heap_putRow encS (Go.Sort.ahead w n) g0 0 _ hg0
        have hg1 : w'.heap[g0]? = some (.cells (putCells encS 0 (S.sortS l).toArray cur) e (0, 0)) := by
          rw [hw]; unfold sortWorld grow
          simp only
          rw [Array.getElem?_append_left (by rw [size_putRow]; exact hg0lt)]
          exact hw0
        have hsame : ∀ b, b < w.heap.size → b ≠ g0 → w'.heap[b]? = w.heap[b]? := fun b hb hne => by
          rw [hw]; unfold sortWorld grow
          simp only
          rw [Array.getElem?_append_left (by rw [size_putRow]; exact hb), heap_putRow_ne encS (Go.Sort.ahead w n) g0 0 b _ hne]
          rfl
        have hsize : w.heap.size ≤ w'.heap.size := by
          rw [hw]; unfold sortWorld grow
          simp only [Array.size_append, size_putRow]
          exact Nat.le_add_right _ _
        have hHM : HM β 1 g0 := ⟨0, by omega, by rw [show β (50000 + 0) = β 50000 from rfl, hv]; rfl⟩
        have hnA0 : ¬ A g0 := hnA g0 (by rw [hv]; rfl)
        refine ⟨_, he, A, β, { os := by rw [hw]; rfl, tape := by rw [hw]; rfl, output := by rw [hw]; rfl, size := hsize, same := ?_, mono := ?_, old := fun _ _ h => .inl h, bound := fun b h => Nat.lt_of_lt_of_le (hA b h) hsize, res := by simp only [AVrel]; exact ⟨#[], rfl, by simp [AVrels]⟩, kept := ?_, rows := ?_, apart := ?_ }⟩
        · intro b hb hne
          rw [hlen1] at hne
          exact hsame b hb (fun h => hne (h ▸ hHM))
        · intro b hAb
          exact ⟨hAb, hsame b (hA b hAb) (fun h => hnA0 (h ▸ hAb))⟩
        · intro i ab hi
          match i, hi with
          | 0, hi =>
            simp only [List.getElem?_cons_zero, Option.some.injEq] at hi
            subst hi
            refine ⟨⟨(S.sortS l).map encS, ⟨by simp, .inr ⟨g0, cap, _, ?_, Nat.zero_le _, hg1, by omega, hcap2, by rw [putCells_size]; simpa using hsz, ?_⟩⟩, rdl_str' _ hsl, by simpa using hnA⟩, rfl⟩
            · rw [hslen]; exact hv
            · have := putCells_take (S.sortS l) cur (by omega)
              simpa using this
          | i + 1, hi => simp at hi
        · intro j ab hj; simp at hj
        · intro k k' b hk hk' _ _
          rcases hk with ⟨i, ab, rfl, _, hi⟩ | ⟨j, _, hj⟩
          · rcases hk' with ⟨i', ab', rfl, _, hi'⟩ | ⟨j, _, hj⟩
            · match i, i', hi, hi' with
              | 0, 0, _, _ => rfl
              | i + 1, _, hi, _ => simp at hi
              | 0, i + 1, _, hi' => simp at hi'
            · simp at hj
          · simp at hj
    · cases hsr
  · cases hsr
end Go.Vg
end
section
namespace Go.Proofs
open Go.Shelf
def Tryd.keys59_ren : Go.Shelf.Ren := ⟨fun | 7 => 22 | 10 => 38 | n => n, fun | 23 => 58 | 26 => 9 | 3 => 44 | 28 => 63 | 0 => 0 | 27 => 62 | 33 => 67 | 4 => 4 | n => n, fun | n => n⟩
theorem Tryd.keys59 : Go.Proofs.SlLaysZ.n7 Tryd.prog Tryd.keys59_ren := {
  mixed := by kernel_rfl
  f7 := ⟨Tryd.f22.name, by decide, Tryd.func22.trans (congrArg some (by kernel_rfl))⟩
  f10 := ⟨Tryd.f38.name, by decide, Tryd.func38.trans (congrArg some (by kernel_rfl))⟩
  t0 := Tryd.underlying0
  a0 := Tryd.isAgg0
  z0 := Tryd.sizeOf0
  v0 := Tryd.zeroValue0
  t4 := Tryd.underlying4
  a4 := Tryd.isAgg4
  z4 := Tryd.sizeOf4
  v4 := Tryd.zeroValue4
  t23 := Tryd.underlying58
  a23 := Tryd.isAgg58
  z23 := Tryd.sizeOf58
  v23 := Tryd.zeroValue58
  t26 := Tryd.underlying9
  a26 := Tryd.isAgg9
  z26 := Tryd.sizeOf9
  v26 := Tryd.zeroValue9
  t27 := Tryd.underlying62
  a27 := Tryd.isAgg62
  z27 := Tryd.sizeOf62
  v27 := Tryd.zeroValue62
  t28 := Tryd.underlying63
  a28 := Tryd.isAgg63
  z28 := Tryd.sizeOf63
  v28 := Tryd.zeroValue63
  t33 := Tryd.underlying67
  a33 := Tryd.isAgg67
  z33 := Tryd.sizeOf67
  v33 := Tryd.zeroValue67 }
def Tryd.sorted58_ren : Go.Shelf.Ren := ⟨fun | 6 => 21 | 8 => 36 | 9 => 37 | 11 => 53 | 13 => 55 | 12 => 54 | 23 => 73 | 24 => 74 | 14 => 64 | 15 => 65 | 16 => 66 | 17 => 67 | 18 => 68 | 19 => 69 | 20 => 70 | 21 => 71 | 22 => 72 | 25 => 88 | 26 => 89 | 27 => 90 | 28 => 91 | 29 => 92 | 30 => 52 | 31 => 97 | n => n, fun | 26 => 9 | 28 => 63 | 24 => 59 | 0 => 0 | 3 => 3 | 37 => 92 | 48 => 94 | 50 => 118 | 4 => 4 | 40 => 111 | 39 => 110 | 45 => 37 | 5 => 5 | 9 => 9 | 51 => 131 | 55 => 135 | 57 => 140 | 58 => 102 | 33 => 67 | n => n, fun | n => n⟩
theorem Tryd.sorted58 : Go.Proofs.SlLaysZ.n6 Tryd.prog Tryd.sorted58_ren := {
  mixed := by kernel_rfl
  f6 := ⟨Tryd.f21.name, by decide, Tryd.func21.trans (congrArg some (by kernel_rfl))⟩
  f8 := ⟨Tryd.f36.name, by decide, Tryd.func36.trans (congrArg some (by kernel_rfl))⟩
  f11 := ⟨Tryd.f53.name, by decide, Tryd.func53.trans (congrArg some (by kernel_rfl))⟩
  t0 := Tryd.underlying0
  a0 := Tryd.isAgg0
  z0 := Tryd.sizeOf0
  v0 := Tryd.zeroValue0
  t24 := Tryd.underlying59
  a24 := Tryd.isAgg59
  z24 := Tryd.sizeOf59
  v24 := Tryd.zeroValue59
  t26 := Tryd.underlying9
  a26 := Tryd.isAgg9
  z26 := Tryd.sizeOf9
  v26 := Tryd.zeroValue9
  t28 := Tryd.underlying63
  a28 := Tryd.isAgg63
  z28 := Tryd.sizeOf63
  v28 := Tryd.zeroValue63
  i26 := by kernel_rfl }
def Tryd.sort87_ren : Go.Shelf.Ren := ⟨fun | 6 => 37 | 8 => 55 | 9 => 54 | 19 => 73 | 20 => 74 | 21 => 64 | 22 => 65 | 23 => 66 | 24 => 67 | 25 => 68 | 26 => 69 | 27 => 70 | 28 => 71 | 29 => 72 | 36 => 88 | 31 => 89 | 32 => 90 | 37 => 91 | 38 => 92 | 39 => 52 | 41 => 97 | n => n, fun | 27 => 59 | 29 => 9 | 3 => 3 | 32 => 92 | 26 => 59 | 0 => 0 | 44 => 94 | 46 => 118 | 4 => 4 | 36 => 111 | 35 => 110 | 41 => 37 | 5 => 5 | 9 => 9 | 53 => 131 | 57 => 135 | 63 => 140 | 64 => 102 | n => n, fun | n => n⟩
theorem Tryd.sort87 : Go.Proofs.SlLaysM.n6 Tryd.prog Tryd.sort87_ren := {
  mixed := by kernel_rfl
  f6 := ⟨Tryd.f37.name, by decide, Tryd.func37.trans (congrArg some (by kernel_rfl))⟩
  f8 := Tryd.func55.trans (congrArg some (by kernel_rfl))
  f9 := ⟨Tryd.f54.name, by decide, Tryd.func54.trans (congrArg some (by kernel_rfl))⟩
  f19 := Tryd.func73.trans (congrArg some (by kernel_rfl))
  f20 := Tryd.func74.trans (congrArg some (by kernel_rfl))
  f21 := ⟨Tryd.f64.name, by decide, Tryd.func64.trans (congrArg some (by kernel_rfl))⟩
  f22 := ⟨Tryd.f65.name, by decide, Tryd.func65.trans (congrArg some (by kernel_rfl))⟩
  f23 := ⟨Tryd.f66.name, by decide, Tryd.func66.trans (congrArg some (by kernel_rfl))⟩
  f24 := ⟨Tryd.f67.name, by decide, Tryd.func67.trans (congrArg some (by kernel_rfl))⟩
  f25 := ⟨Tryd.f68.name, by decide, Tryd.func68.trans (congrArg some (by kernel_rfl))⟩
  f26 := ⟨Tryd.f69.name, by decide, Tryd.func69.trans (congrArg some (by kernel_rfl))⟩
  f27 := ⟨Tryd.f70.name, by decide, Tryd.func70.trans (congrArg some (by kernel_rfl))⟩
  f28 := ⟨Tryd.f71.name, by decide, Tryd.func71.trans (congrArg some (by kernel_rfl))⟩
  f29 := ⟨Tryd.f72.name, by decide, Tryd.func72.trans (congrArg some (by kernel_rfl))⟩
  f31 := Tryd.func89.trans (congrArg some (by kernel_rfl))
  f32 := Tryd.func90.trans (congrArg some (by kernel_rfl))
  f36 := ⟨Tryd.f88.name, by decide, Tryd.func88.trans (congrArg some (by kernel_rfl))⟩
  f37 := ⟨Tryd.f91.name, by decide, Tryd.func91.trans (congrArg some (by kernel_rfl))⟩
  f38 := ⟨Tryd.f92.name, by decide, Tryd.func92.trans (congrArg some (by kernel_rfl))⟩
  f39 := ⟨Tryd.f52.name, by decide, Tryd.func52.trans (congrArg some (by kernel_rfl))⟩
  f41 := ⟨Tryd.f97.name, by decide, Tryd.func97.trans (congrArg some (by kernel_rfl))⟩
  t0 := Tryd.underlying0
  a0 := Tryd.isAgg0
  z0 := Tryd.sizeOf0
  v0 := Tryd.zeroValue0
  t3 := Tryd.underlying3
  a3 := Tryd.isAgg3
  z3 := Tryd.sizeOf3
  v3 := Tryd.zeroValue3
  t4 := Tryd.underlying4
  a4 := Tryd.isAgg4
  z4 := Tryd.sizeOf4
  v4 := Tryd.zeroValue4
  t5 := Tryd.underlying5
  a5 := Tryd.isAgg5
  z5 := Tryd.sizeOf5
  v5 := Tryd.zeroValue5
  t9 := Tryd.underlying9
  a9 := Tryd.isAgg9
  z9 := Tryd.sizeOf9
  v9 := Tryd.zeroValue9
  t26 := Tryd.underlying59
  a26 := Tryd.isAgg59
  z26 := Tryd.sizeOf59
  v26 := Tryd.zeroValue59
  t27 := Tryd.underlying59
  a27 := Tryd.isAgg59
  z27 := Tryd.sizeOf59
  v27 := Tryd.zeroValue59
  t29 := Tryd.underlying9
  a29 := Tryd.isAgg9
  z29 := Tryd.sizeOf9
  v29 := Tryd.zeroValue9
  t32 := Tryd.underlying92
  a32 := Tryd.isAgg92
  z32 := Tryd.sizeOf92
  v32 := Tryd.zeroValue92
  t35 := Tryd.underlying110
  a35 := Tryd.isAgg110
  z35 := Tryd.sizeOf110
  v35 := Tryd.zeroValue110
  t36 := Tryd.underlying111
  a36 := Tryd.isAgg111
  z36 := Tryd.sizeOf111
  v36 := Tryd.zeroValue111
  t41 := Tryd.underlying37
  a41 := Tryd.isAgg37
  z41 := Tryd.sizeOf37
  v41 := Tryd.zeroValue37
  t44 := Tryd.underlying94
  a44 := Tryd.isAgg94
  z44 := Tryd.sizeOf94
  v44 := Tryd.zeroValue94
  t46 := Tryd.underlying118
  a46 := Tryd.isAgg118
  z46 := Tryd.sizeOf118
  v46 := Tryd.zeroValue118
  t53 := Tryd.underlying131
  a53 := Tryd.isAgg131
  z53 := Tryd.sizeOf131
  v53 := Tryd.zeroValue131
  t57 := Tryd.underlying135
  a57 := Tryd.isAgg135
  z57 := Tryd.sizeOf135
  v57 := Tryd.zeroValue135
  t63 := Tryd.underlying140
  a63 := Tryd.isAgg140
  z63 := Tryd.sizeOf140
  v63 := Tryd.zeroValue140
  t64 := Tryd.underlying102
  a64 := Tryd.isAgg102
  z64 := Tryd.sizeOf102
  v64 := Tryd.zeroValue102 }
def Tryd.clone_str_ren : Go.Shelf.Ren := ⟨fun | 42 => 44 | n => n, fun | 25 => 59 | 26 => 9 | 4 => 4 | n => n, fun | n => n⟩
theorem Tryd.clone_str : Go.Proofs.SlLaysN.n42 Tryd.prog Tryd.clone_str_ren := {
  mixed := by kernel_rfl
  f42 := ⟨Tryd.f44.name, by decide, Tryd.func44.trans (congrArg some (by kernel_rfl))⟩
  t4 := Tryd.underlying4
  a4 := Tryd.isAgg4
  z4 := Tryd.sizeOf4
  v4 := Tryd.zeroValue4
  t25 := Tryd.underlying59
  a25 := Tryd.isAgg59
  z25 := Tryd.sizeOf59
  v25 := Tryd.zeroValue59
  t26 := Tryd.underlying9
  a26 := Tryd.isAgg9
  z26 := Tryd.sizeOf9
  v26 := Tryd.zeroValue9
  i26 := by kernel_rfl }
def Tryd.clone_int_ren : Go.Shelf.Ren := ⟨fun | 41 => 23 | n => n, fun | 22 => 44 | 23 => 3 | 4 => 4 | n => n, fun | n => n⟩
theorem Tryd.clone_int : Go.Proofs.SlLaysN.n41 Tryd.prog Tryd.clone_int_ren := {
  mixed := by kernel_rfl
  f41 := ⟨Tryd.f23.name, by decide, Tryd.func23.trans (congrArg some (by kernel_rfl))⟩
  t4 := Tryd.underlying4
  a4 := Tryd.isAgg4
  z4 := Tryd.sizeOf4
  v4 := Tryd.zeroValue4
  t22 := Tryd.underlying44
  a22 := Tryd.isAgg44
  z22 := Tryd.sizeOf44
  v22 := Tryd.zeroValue44
  t23 := Tryd.underlying3
  a23 := Tryd.isAgg3
  z23 := Tryd.sizeOf3
  v23 := Tryd.zeroValue3
  i23 := by kernel_rfl }
def Tryd.sortf_ren : Go.Shelf.Ren := ⟨fun | 6 => 45 | 15 => 55 | 14 => 60 | 28 => 73 | 29 => 74 | 20 => 77 | 21 => 78 | 22 => 79 | 23 => 80 | 24 => 81 | 25 => 82 | 26 => 83 | 27 => 84 | 46 => 94 | 47 => 89 | 48 => 90 | 49 => 95 | 50 => 96 | 57 => 99 | n => n, fun | 22 => 59 | 24 => 9 | 25 => 76 | 3 => 3 | 39 => 92 | 0 => 0 | 53 => 94 | 55 => 118 | 4 => 4 | 46 => 111 | 45 => 110 | 50 => 37 | 5 => 5 | 9 => 9 | 66 => 131 | 70 => 135 | 76 => 140 | 77 => 102 | n => n, fun | n => n⟩
theorem Tryd.sortf : Go.Proofs.SlLaysF.n6 Tryd.prog Tryd.sortf_ren := {
  mixed := by kernel_rfl
  f6 := ⟨Tryd.f45.name, by decide, Tryd.func45.trans (congrArg some (by kernel_rfl))⟩
  f14 := ⟨Tryd.f60.name, by decide, Tryd.func60.trans (congrArg some (by kernel_rfl))⟩
  f15 := Tryd.func55.trans (congrArg some (by kernel_rfl))
  f20 := ⟨Tryd.f77.name, by decide, Tryd.func77.trans (congrArg some (by kernel_rfl))⟩
  f21 := ⟨Tryd.f78.name, by decide, Tryd.func78.trans (congrArg some (by kernel_rfl))⟩
  f22 := ⟨Tryd.f79.name, by decide, Tryd.func79.trans (congrArg some (by kernel_rfl))⟩
  f23 := ⟨Tryd.f80.name, by decide, Tryd.func80.trans (congrArg some (by kernel_rfl))⟩
  f24 := ⟨Tryd.f81.name, by decide, Tryd.func81.trans (congrArg some (by kernel_rfl))⟩
  f25 := ⟨Tryd.f82.name, by decide, Tryd.func82.trans (congrArg some (by kernel_rfl))⟩
  f26 := ⟨Tryd.f83.name, by decide, Tryd.func83.trans (congrArg some (by kernel_rfl))⟩
  f27 := ⟨Tryd.f84.name, by decide, Tryd.func84.trans (congrArg some (by kernel_rfl))⟩
  f28 := Tryd.func73.trans (congrArg some (by kernel_rfl))
  f29 := Tryd.func74.trans (congrArg some (by kernel_rfl))
  f46 := ⟨Tryd.f94.name, by decide, Tryd.func94.trans (congrArg some (by kernel_rfl))⟩
  f47 := Tryd.func89.trans (congrArg some (by kernel_rfl))
  f48 := Tryd.func90.trans (congrArg some (by kernel_rfl))
  f49 := ⟨Tryd.f95.name, by decide, Tryd.func95.trans (congrArg some (by kernel_rfl))⟩
  f50 := ⟨Tryd.f96.name, by decide, Tryd.func96.trans (congrArg some (by kernel_rfl))⟩
  f57 := ⟨Tryd.f99.name, by decide, Tryd.func99.trans (congrArg some (by kernel_rfl))⟩
  t0 := Tryd.underlying0
  a0 := Tryd.isAgg0
  z0 := Tryd.sizeOf0
  v0 := Tryd.zeroValue0
  t3 := Tryd.underlying3
  a3 := Tryd.isAgg3
  z3 := Tryd.sizeOf3
  v3 := Tryd.zeroValue3
  t4 := Tryd.underlying4
  a4 := Tryd.isAgg4
  z4 := Tryd.sizeOf4
  v4 := Tryd.zeroValue4
  t5 := Tryd.underlying5
  a5 := Tryd.isAgg5
  z5 := Tryd.sizeOf5
  v5 := Tryd.zeroValue5
  t9 := Tryd.underlying9
  a9 := Tryd.isAgg9
  z9 := Tryd.sizeOf9
  v9 := Tryd.zeroValue9
  t22 := Tryd.underlying59
  a22 := Tryd.isAgg59
  z22 := Tryd.sizeOf59
  v22 := Tryd.zeroValue59
  a24 := Tryd.isAgg9
  z24 := Tryd.sizeOf9
  t25 := Tryd.underlying76
  a25 := Tryd.isAgg76
  z25 := Tryd.sizeOf76
  v25 := Tryd.zeroValue76
  t39 := Tryd.underlying92
  a39 := Tryd.isAgg92
  z39 := Tryd.sizeOf92
  v39 := Tryd.zeroValue92
  t45 := Tryd.underlying110
  a45 := Tryd.isAgg110
  z45 := Tryd.sizeOf110
  v45 := Tryd.zeroValue110
  t46 := Tryd.underlying111
  a46 := Tryd.isAgg111
  z46 := Tryd.sizeOf111
  v46 := Tryd.zeroValue111
  t50 := Tryd.underlying37
  a50 := Tryd.isAgg37
  z50 := Tryd.sizeOf37
  v50 := Tryd.zeroValue37
  t53 := Tryd.underlying94
  a53 := Tryd.isAgg94
  z53 := Tryd.sizeOf94
  v53 := Tryd.zeroValue94
  t55 := Tryd.underlying118
  a55 := Tryd.isAgg118
  z55 := Tryd.sizeOf118
  v55 := Tryd.zeroValue118
  t66 := Tryd.underlying131
  a66 := Tryd.isAgg131
  z66 := Tryd.sizeOf131
  v66 := Tryd.zeroValue131
  t70 := Tryd.underlying135
  a70 := Tryd.isAgg135
  z70 := Tryd.sizeOf135
  v70 := Tryd.zeroValue135
  t76 := Tryd.underlying140
  a76 := Tryd.isAgg140
  z76 := Tryd.sizeOf140
  v76 := Tryd.zeroValue140
  t77 := Tryd.underlying102
  a77 := Tryd.isAgg102
  z77 := Tryd.sizeOf102
  v77 := Tryd.zeroValue102 }
end Go.Proofs
end
section
namespace Go.Proofs
open Go.RowKit Go.Maps Go.Sort Go.Shelf
theorem Tryd.sorts58 (m : Nat) : AnyZ.SortsIn Tryd.prog Tryd.sorted58_ren Fence.wide m :=
  ⟨fun blk off cap ss W hH hblk hsz => callsIn_wide.2 (AnyM.slices_Sort_string Tryd.sort87 blk off cap ss W hH hblk hsz),
   fun p cap W => callsIn_wide.2 (AnyM.slices_Sort_string_none Tryd.sort87 p cap W)⟩
theorem Tryd.maps_Keys_59 (mb : Option Nat) (W : World) : CallsIn Fence.wide 5 Tryd.prog 22 #[.map mb] W fun e w' => e = .returned (.func (.func 38) #[] #[.pointer (some ⟨W.heap.size, 0, none⟩)]) ∧ w' = W.alloc (.cells #[.map mb] 58) :=
  AnyZ.keys_in Tryd.keys59 Fence.wide 5 trivial rfl mb W
set_option maxHeartbeats 1000000 in
theorem Tryd.slices_Sorted_keys_58_59 {H : Type} (b nn : Nat) (D0 : DataW H) (R : Value → Option (DataW H × List MemPlace)) (w : World) (hown : w.ownsMap Tryd.prog 9 R b nn D0) (hmax : Maps.size D0 ≤ maxLen) (hbytes : Maps.size D0 * 16 ≤ 140737488355328) :
    CallsIn Fence.wide 5 Tryd.prog 21 #[.func (.func 38) #[] #[.pointer (some ⟨w.heap.size, 0, none⟩)]] (w.alloc (.cells #[.map (some b)] 58)) fun e w' => ∃ (v : Value) (ss : List (List UInt8)), e = .returned v ∧ ss.Perm (strKeys D0) ∧
      w'.ownsRow (w.alloc (.cells #[.map (some b)] 58)).heap.size 9 1 v ss.length ((ss.mergeSort (fun x y => decide (x ≤ y))).map encStr) ∧ (v = .slice none 0 0 ↔ ss = []) ∧ Below (w.alloc (.cells #[.map (some b)] 58)).heap.size (w.alloc (.cells #[.map (some b)] 58)) w' := by
  have hbl := hown.lt
  have hseq : SeqGives Fence.wide 2 Tryd.prog 38 #[.pointer (some ⟨w.heap.size, 0, none⟩)] encStr (fun ss => ss.Perm (strKeys D0)) (Maps.size D0) (w.alloc (.cells #[.map (some b)] 58)) :=
    AnyZ.keys_gives (ρ := Tryd.keys59_ren) { Tryd.keys59 with } Fence.wide _ trivial rfl (by omega) w.heap.size b nn D0 _ (by simp) (by simp) (by
      obtain ⟨es, clock, hb, Ft, hs, hD⟩ := hown
      exact ⟨es, clock, (Below.heap_alloc _ _ b hbl).trans hb, Ft, hs, hD⟩)
  exact AnyZ.sorted_in Tryd.sorted58 Fence.wide 5 trivial trivial trivial trivial rfl (by omega) (Tryd.sorts58 _) (enters_of Tryd.func37 (by kernel_rfl) rfl) 38 #[.pointer (some ⟨w.heap.size, 0, none⟩)] trivial (enters_of Tryd.func38 (by kernel_rfl) rfl) _ _ hmax hbytes _ hseq
end Go.Proofs
end
section
namespace Go.Proofs
open Go.Shelf Go.RowKit Go.Lib Go.Sort
theorem cmpS_1 {x y : List UInt8} (h : Op.bytesLess x y = true) : S.cmpS x y = -1 := by unfold S.cmpS; rw [if_pos h]
theorem cmpS_2 {x y : List UInt8} (h : Op.bytesLess x y = false) (h2 : (!x == y) = true) : S.cmpS x y = 1 := by
  have hne : x ≠ y := by simpa using h2
  unfold S.cmpS
  rw [h]
  rcases S.bl_tri x y with t | t | t
  · rw [t] at h; cases h
  · exact absurd t hne
  · rw [t]; rfl
theorem cmpS_3 {x y : List UInt8} (h : Op.bytesLess x y = false) (h2 : (!x == y) = false) : S.cmpS x y = 0 := by
  have he : x = y := by simpa using h2
  subst he
  unfold S.cmpS
  rw [h]; rfl
theorem Tryd.cmp_isNaN (x : ByteArray) (w : World) : Calls Tryd.prog 52 #[.string x] w fun e w' => e = .returned (.bool false) ∧ w' = w := by
  go_enter Tryd.func52, Tryd.ntmps52
  go_wp2
  go_ret
  exact ⟨by simp, rfl⟩
set_option maxHeartbeats 1000000 in
theorem Tryd.cmp_Compare (x y : List UInt8) (w : World) : Calls Tryd.prog 35 #[Vg.encS x, Vg.encS y] w fun e w' => e = .returned (.int .i64 (S.cmpS x y)) ∧ w' = w := by
  unfold Vg.encS
  go_enter Tryd.func35, Tryd.ntmps35
  go_wp2_with (go_at_call 52; refine (Tryd.cmp_isNaN _ _).mono ?_; rintro e w' ⟨rfl, rfl⟩)
  all_goals go_ret
  all_goals refine ⟨?_, rfl⟩
  all_goals first
    | (rw [cmpS_1 (by assumption)]; rfl)
    | (rw [cmpS_2 (by assumption) (by assumption)]; rfl)
    | (rw [cmpS_3 (by assumption) (by assumption)]; rfl)
theorem Tryd.v_sort {G : Nat → Option Vg.GD} {F : Vg.Row (Vg.TA.tyss [.own 50000, .fn (.func 35) [] []]) → Vg.BsD [.row 9 [.str]] → Vg.HRes}
    (hF : ∀ l : List (List UInt8), F () (l, ()) = { pre := l.length ≤ 1099511627776, res := .tup [], heap := [some (.row 9 [.str] (S.sortS l) false)], new := [] }) :
    Vg.ValidH Tryd.prog G 45 (Vg.hsigOf [.own 50000, .fn (.func 35) [] []] [.row 9 [.str]] F) :=
  Vg.valid_sort_str Tryd.sortf (enters_of Tryd.func35 (by kernel_rfl) rfl) Tryd.cmp_Compare hF
end Go.Proofs
end
section
namespace Go.DM
open Go Go.Vg Go.Maps Go.RowKit Go.ChangeShapes
section
variable {H : Type}
def items : DataW H → List Int
  | .slice ls _ => ls.filterMap fun d => match d with | .lit (.int _ z) => some z | _ => none
  | _ => []
theorem items_lits (zs : List Int) : items (H := H) (.slice (lits .i64 zs) []) = zs := by
  induction zs with
  | nil => rfl
  | cons z zs ih =>
    simp only [items, lits, List.map_cons, List.filterMap_cons] at ih ⊢
    rw [ih]
theorem items_row {w : World} {base : Nat} {e : TypeId} {v : Value} {zs : List Int} (h : w.ownsInts base e .i64 v zs) : items (H := H) (rowDatum .i64 v zs) = zs := by
  rcases h.datum (H := H) with ⟨h1, h2⟩ | h1
  · rw [h1, h2]; rfl
  · rw [h1]; exact items_lits zs
def Repr (D : DataW H) (m : List UInt8 → List Int) : Prop := IsMap D ∧ ∀ s, items (D.atKey (.string s) .nil) = m s ∧ (has D (.string s) = true ↔ m s ≠ [])
theorem Repr.empty : Repr (H := H) (.map []) (fun _ => []) := ⟨isMap_empty, fun s => ⟨rfl, by simp [has]⟩⟩
theorem Repr.ext {D : DataW H} {m m' : List UInt8 → List Int} (h : Repr D m) (e : ∀ s, m s = m' s) : Repr D m' := by
  rw [← funext e]; exact h
theorem Repr.put {D : DataW H} {m m' : List UInt8 → List Int} (h : Repr D m) {t : List UInt8} {w : World} {base : Nat} {e : TypeId} {v : Value} {zs : List Int} (ho : w.ownsInts base e .i64 v zs) (hz : zs ≠ [])
    (h1 : m' t = zs) (h2 : ∀ s, s ≠ t → m' s = m s) : Repr (D.put (.string t) (rowDatum .i64 v zs)) m' := by
  refine ⟨h.1.put _ _, fun s => ?_⟩
  by_cases hs : s = t
  · subst hs
    refine ⟨?_, ?_⟩
    · rw [atKey_put_same h.1 (by trivial), items_row ho, h1]
    · rw [has_put_same h.1 (by trivial), h1]; simp [hz]
  · have hne : Lit.string s ≠ Lit.string t := fun hh => hs (by injection hh)
    rw [atKey_put_other hne, has_put_other hne, h2 s hs]
    exact h.2 s
theorem rd_ints {w : World} {Q : Nat → Prop} {base : Nat} {e : TypeId} {v : Value} {zs : List Int} (h : w.ownsInts base e .i64 v zs) (hq : ∀ g, v.ownBlock = some g → Q g) : Rd w Q (.slice [.int .i64]) v zs := by
  obtain ⟨ho, hw⟩ := h
  have hz : ∀ z ∈ zs, lo .i64 ≤ z ∧ z ≤ hi .i64 := fun z hz => by
    have := hw z hz
    simp [Lit.wf, IntKind.min, IntKind.max, IntKind.signed, IntKind.bits] at this
    simp only [lo, hi]; omega
  simp only [Rd]
  rcases ho.2 with ⟨rfl, h0⟩ | ⟨g, cap, cur, rfl, hg, hh, hn, hc, hsz, htk⟩
  · have : zs = [] := List.length_eq_zero_iff.1 h0
    subst this
    exact ⟨none, 0, [], rfl, Nat.le_refl _, Nat.zero_le _, rfl, fun h => absurd rfl h⟩
  · refine ⟨some ⟨g, 0, none⟩, cap, zs.map (Value.int .i64), rfl, hn, hc, rdl_int' zs hz, fun _ => ⟨g, 0, rfl, hq g rfl, fun j v hj => ?_⟩⟩
    have := ho.cells (g := g) rfl j v hj
    rwa [Addr.add_mid] at this
end
end Go.DM
namespace Go.DM
open Go Go.Vg Go.Maps Go.RowKit Go.ChangeShapes
section
variable {H : Type} {P : Program}
theorem cell_alloc_alloc (w : World) (c : Array Value) (e : TypeId) (o : Obj) (j : Nat) : ((w.alloc (.cells c e)).alloc o).cell? ⟨w.heap.size, j, none⟩ = c[j]? := by
  have h1 : ((w.alloc (.cells c e)).alloc o).heap[w.heap.size]? = some (.cells c e (0, 0)) := by
    rw [((World.grownBy_alloc (w.alloc (.cells c e)) o none).block w.heap.size (by simp) (by simp))]
    exact (MapKept.heap_alloc w _).1
  simp [World.cell?, h1]
theorem row_form {w : World} {base : Nat} {e : TypeId} {size : Nat} {v : Value} {n : Nat} {xs : List Value} (h : w.ownsRow base e size v n xs) : ∃ av cp, v = .slice av n cp ∧ (0 < n → ∃ g, av = some ⟨g, 0, none⟩ ∧ base ≤ g ∧ g < w.heap.size) := by
  have hl := h.lt
  rcases h.2 with ⟨rfl, h0⟩ | ⟨g, cap, cur, rfl, hg, _⟩
  · exact ⟨none, 0, by rw [h0], fun h => by omega⟩
  · exact ⟨_, cap, rfl, fun _ => ⟨g, rfl, hl g rfl⟩⟩
theorem grown_of_below {w w' : World} (h : Below w.heap.size w w') : w.grownBy w' none := ⟨h.os, h.tape, h.output, h.size, fun i hi _ => h.block i hi⟩
theorem groups_below {w w' : World} {k : TypeId} {base : Nat} {e : TypeId} {q : IntKind} {b n : Nat} {D : DataW H} (h : w.ownsGroups P k base e q b n D) (hb : Below w.heap.size w w') : w'.ownsGroups P k base e q b n D :=
  h.kept (grown_of_below hb) (by simp) (fun es clock _ x _ => by cases x.val.ownBlock <;> simp)
theorem groups_lt {w : World} {k : TypeId} {base : Nat} {e : TypeId} {q : IntKind} {b n : Nat} {D : DataW H} (h : w.ownsGroups P k base e q b n D) : b < w.heap.size := by
  obtain ⟨es, clock, hb, _⟩ := h
  exact (Array.getElem?_eq_some_iff.1 hb).1
theorem shuns_new {w w' : World} {k : TypeId} {base : Nat} {e : TypeId} {q : IntKind} {b n : Nat} {D : DataW H} (h : w.ownsGroups P k base e q b n D) (hb : Below w.heap.size w w') {No : Nat → Prop} (hn : ∀ g, No g → w.heap.size ≤ g) : w'.Shuns b No := by
  have h1 : w.Shuns b (fun _ => False) := fun _ _ _ _ _ _ _ hf => hf
  exact (h1.reno (No' := No) h (fun g hg => .inr (hn g hg))).kept (grown_of_below hb) (groups_lt h) (by simp)
theorem row_cell {w : World} {base : Nat} {e : TypeId} {g cp : Nat} {n : Nat} {l : List (List UInt8)} (h : w.ownsRow base e 1 (.slice (some ⟨g, 0, none⟩) n cp) n (l.map encS)) {j : Nat} (hj : j < l.length) : w.cell? ⟨g, 0 + j, none⟩ = some (encS (l.getD j [])) := by
  have := h.cells (g := g) rfl j (encS (l.getD j [])) (by rw [List.getElem?_map, List.getElem?_eq_getElem hj, List.getD_eq_getElem?_getD, List.getElem?_eq_getElem hj]; rfl)
  rwa [Addr.add_mid] at this
end
end Go.DM
namespace Go.DM
open Go Go.Vg Go.Maps Go.RowKit Go.ChangeShapes
section
variable {H : Type} {P : Program}
theorem cell_gr {w w' : World} {row : Option Nat} (h : w.grownBy w' row) {a : Addr} {v : Value} (hl : a.block < w.heap.size) (hn : some a.block ≠ row) (hc : w.cell? a = some v) : w'.cell? a = some v :=
  (World.cell?_of_block (h.block _ hl hn)).trans hc
theorem key_str {k : TypeId} (hk : P.underlying k = some .string) {s : List UInt8} (h : s.length ≤ maxLen) : keyOf P k (.string ⟨s.toArray⟩) = some (.string s) := by
  have := Go.WideMaps.keyOf_string_mk (P := P) (k := k) (s := ⟨s.toArray⟩) hk (by simpa [ByteArray.size] using h)
  simpa using this
theorem hno_of {wr : World} {b g : Nat} {v v' : Value} {o : Obj} {n cp : Nat} (hsh : ∀ No : Nat → Prop, wr.Shuns b No → ∀ g, v.ownBlock = some g → ¬ No g) (hs : wr.Shuns b (fun g' => (Value.slice (some ⟨g, 0, none⟩) n cp).ownBlock = some g'))
    (hloc : v'.ownBlock = v.ownBlock ∨ v'.ownBlock = some (wr.alloc o).heap.size) (hg : g < wr.heap.size) : ∀ g', v'.ownBlock = some g' → ¬ ((Value.slice (some ⟨g, 0, none⟩) n cp).ownBlock = some g') := fun g' hg' hh => by
  rcases hloc with h | h
  · rw [h] at hg'
    exact hsh _ hs g' hg' hh
  · rw [h] at hg'
    simp only [Value.ownBlock, Option.some.injEq] at hg' hh
    simp at hg'
    omega
end
end Go.DM
namespace Go.DM
open Go Go.Vg Go.Maps Go.RowKit Go.ChangeShapes
section
variable {H : Type} {P : Program}
theorem map_of_groups {w : World} {k : TypeId} {base : Nat} {e : TypeId} {q : IntKind} {b n : Nat} {D : DataW H} (h : w.ownsGroups P k base e q b n D) : w.ownsMap P k (rowElem w base e q) b n D := by
  obtain ⟨es, clock, hb, F, hs, hD, _⟩ := h
  exact ⟨es, clock, hb, F, hs, hD⟩
theorem map_size {w : World} {k : TypeId} {R : Value → Option (DataW H × List MemPlace)} {b n : Nat} {D : DataW H} (h : w.ownsMap P k R b n D) : Maps.size D ≤ n := by
  obtain ⟨es, clock, hb, F, hs, rfl⟩ := h
  rw [size_eq, length_sorted]
  simpa using hs
theorem makeK_mem (docs : List (List UInt8)) (a b : Int) (x : List UInt8) : x ∈ S.makeK docs a b ↔ S.grp docs a (b - a).toNat 0 x ≠ [] := by
  unfold S.makeK
  rw [S.sorted_mem, S.allTo_mem]
  simp [S.grp]
theorem keys_law {w : World} {R : Value → Option (DataW H × List MemPlace)} {k : TypeId} {b n : Nat} {D : DataW H} (h : w.ownsMap P k R b n D) (K : Keyed P k) (hk : P.underlying k = some .string) {docs : List (List UInt8)} {f t : Int}
    (hr : Repr D (S.grp docs f (t - f).toNat 0)) {ss : List (List UInt8)} (hs : ss.Perm (strKeys D)) : ss.mergeSort (fun x y => decide (x ≤ y)) = S.makeK docs f t ∧ ss.length = (S.makeK docs f t).length ∧ (∀ s ∈ S.makeK docs f t, s.length ≤ maxLen) ∧ (S.makeK docs f t).length ≤ n := by
  obtain ⟨es, hD, hpw, _⟩ := h.entries K
  obtain ⟨es', hD', hko⟩ := h.keysOf
  have hle := strKeys_le h hk
  have hsz := map_size h
  obtain rfl : es = es' := by rw [hD] at hD'; simpa using hD'
  subst hD
  have hi : S.incr (S.makeK docs f t) := S.sorted_incr _
  have hp0 := perm_strKeys hpw (fun p hp => by obtain ⟨v, hv⟩ := hko p hp; obtain ⟨x, _, hx, _⟩ := Maps.keyOf_str hk hv; exact ⟨x, hx⟩) (S.incr_nodup hi) (fun x => by rw [makeK_mem, (hr.2 x).2])
  have hp1 := hs.trans hp0.symm
  have hlen : (S.makeK docs f t).length ≤ n := by
    rw [hp0.length_eq]
    simpa [strKeys, size_eq] using hsz
  refine ⟨?_, hp1.length_eq, fun s hs' => hle s (hp0.subset hs'), hlen⟩
  have e1 : ss.mergeSort leB = (S.makeK docs f t).mergeSort leB := mergeSort_of_perm hp1
  have e2 : (S.makeK docs f t).mergeSort leB = S.makeK docs f t := by
    refine List.mergeSort_of_pairwise (hi.imp fun {a b} hab => ?_)
    rw [Go.Proofs.bytesLess_eq] at hab
    simp only [leB, decide_eq_true_eq] at hab ⊢
    exact List.le_of_lt hab
  exact e1.trans e2
end
end Go.DM
namespace Go.DM
open Go Go.Vg Go.Maps Go.RowKit Go.ChangeShapes
section
variable {H : Type} {P : Program}
theorem rd_entry {w : World} {Q : Nat → Prop} {s : List UInt8} {v : Value} {zs : List Int} (hs : s.length ≤ maxLen) (hv : Rd w Q (.slice [.int .i64]) v zs) : RdV w Q [.str, .slice [.int .i64]] [.string ⟨s.toArray⟩, v] (s, zs) := by
  simp only [RdV]
  refine ⟨_, [v], rfl, ?_, v, [], rfl, hv, rfl⟩
  simp only [Rd]
  exact ⟨rfl, hs⟩
theorem rdl_snoc {α : Type} {R : List Value → α → Prop} : ∀ (l : List α) (cs : List Value) (c : List Value) (x : α), RdL R cs l → R c x → RdL R (cs ++ c) (l ++ [x])
  | [], cs, c, x, h, hx => by
    simp only [RdL] at h
    subst h
    exact ⟨c, [], by simp, hx, rfl⟩
  | y :: l, cs, c, x, ⟨c1, c2, hc, h1, h2⟩, hx => by
    subst hc
    exact ⟨c1, c2 ++ c, by simp, h1, rdl_snoc l c2 c x h2 hx⟩
theorem rd_back {w w' : World} {base : Nat} {e : TypeId} {v : Value} {zs : List Int} {Q : Nat → Prop} (h : w'.ownsInts base e .i64 v zs) (hb : Below w.heap.size w w') (hl : ∀ g, v.ownBlock = some g → g < w.heap.size) (hq : ∀ g, base ≤ g → g < w.heap.size → Q g) : Rd w Q (.slice [.int .i64]) v zs := by
  have h' : w.ownsInts base e .i64 v zs := by
    refine ⟨⟨h.1.1, ?_⟩, h.2⟩
    rcases h.1.2 with hn | ⟨g, cap, cur, rfl, hg, hh, rest⟩
    · exact .inl hn
    · exact .inr ⟨g, cap, cur, rfl, hg, (hb.block g (hl g rfl)).symm.trans hh, rest⟩
  exact rd_ints h' (fun g hg => hq g (h'.1.lt g hg).1 (hl g hg))
theorem entry_cells (w : World) (a b : Value) (t : TypeId) : ∀ j u, [a, b][j]? = some u → (w.alloc (.cells #[a, b] t)).cell? ((⟨w.heap.size, 0, none⟩ : Addr).add j) = some u := by
  intro j u hj
  rw [Addr.add_mid, Nat.zero_add]
  have h1 : (w.alloc (.cells #[a, b] t)).heap[w.heap.size]? = some (.cells #[a, b] t (0, 0)) := (MapKept.heap_alloc w _).1
  simp only [World.cell?, h1]
  simpa using hj
end
end Go.DM
end
section
namespace Go.Proofs
open Go Go.Vg Go.Maps Go.RowKit Go.ChangeShapes Go.DM Go.WideMaps
theorem Tryd.law9 : Keyed Tryd.prog 9 := string_keyed Tryd.underlying9
theorem Tryd.info3 : (Tryd.prog.info? 3).map (fun i => (i.zero, i.size, i.bytes)) = some (some (.int .i64 0), 1, 8) := by kernel_rfl
theorem Tryd.info87 : (Tryd.prog.info? 46).map (fun i => (i.zero, i.size, i.bytes)) = some (some (.agg #[.string ⟨#[]⟩, .slice none 0 0]), 2, 40) := by kernel_rfl
theorem Tryd.zero28 (w : World) : (zeroValue 44).run Tryd.prog w = .ok (.slice none 0 0) w := by kernel_rfl
theorem Tryd.keys_at (mb : Option Nat) (W : World) : Calls Tryd.prog 22 #[.map mb] W fun e w' => e = .returned (.func (.func 38) #[] #[.pointer (some ⟨W.heap.size, 0, none⟩)]) ∧ w' = W.alloc (.cells #[.map mb] 58) := callsIn_wide.1 (Tryd.maps_Keys_59 mb W)
set_option maxRecDepth 100000 in
set_option maxHeartbeats 4000000 in
theorem Tryd.make_walk {H : Type} (docs : List (List UInt8)) (f t : Int) (da : Option Addr) (cap : Nat) (w : World)
    (hp : S.makePre docs f t) (h4 : ∀ j, (docs.getD j []).length ≤ 2000) (dv : Nat → Value)
    (hd : ∀ j, j < docs.length → ∃ b o aj cj, da = some ⟨b, o, none⟩ ∧ b < w.heap.size ∧ w.cell? ⟨b, o + j, none⟩ = some (dv j) ∧ dv j = .slice aj (docs.getD j []).length cj)
    (hset : ∀ (j : Nat) (W : World), j < docs.length → Below w.heap.size w W → Calls Tryd.prog 20 #[dv j] W fun e w' => ∃ v, e = .returned v ∧ w'.ownsRow W.heap.size 9 1 v (S.setK docs 0 j).length ((S.setK docs 0 j).map encS) ∧ Below W.heap.size W w')
    (hterm : ∀ (j : Nat), ∀ s ∈ S.setK docs 0 j, s.length ≤ maxLen) :
    Calls Tryd.prog 11 #[.slice da docs.length cap, .agg #[.int .i64 f, .int .i64 t]] w fun e w' => ∃ v xs W1, e = .returned (.tuple #[v, .int .i64 0]) ∧ Below w.heap.size w w' ∧ Below W1.heap.size W1 w' ∧ w.heap.size ≤ W1.heap.size ∧
      w'.ownsRow W1.heap.size 46 2 v (S.make docs f t).length xs ∧ RdL (RdV W1 (fun b => w.heap.size ≤ b ∧ b < W1.heap.size) [.str, .slice [.int .i64]]) xs (S.make docs f t) := by
  have hmm := @run_makeMap Tryd.prog
  have h0 : 0 ≤ f := hp.1
  have h1 : f ≤ t := hp.2.1
  have h2 : t ≤ docs.length := hp.2.2.1
  have h3 : docs.length ≤ 1000 := hp.2.2.2.1
  obtain ⟨i0, hi, hz0, hz1, hz2⟩ := info_parts Tryd.info3
  obtain ⟨i1, hi1, hy0, hy1, hy2⟩ := info_parts Tryd.info87
  go_enter Tryd.func11, Tryd.ntmps11
  go_wp2
  go_loopw [39] (fun i wr => ∃ k : Nat, k ≤ docs.length ∧ i = .int .i64 k ∧ wr = w.alloc (.cells #[.int .i64 f, .int .i64 t] 43))
    (fun i _ => docs.length - (intOf i).toNat)
  case atStart => exact ⟨0, Nat.zero_le _, rfl, rfl⟩
  case round =>
    obtain ⟨k, hk, rfl, rfl⟩ := hrel
    by_cases hlt : k < docs.length
    · obtain ⟨b, o, aj, cj, rfl, hb, hc, hv⟩ := hd k hlt
      rw [hv] at hc
      have hl := h4 k
      generalize (docs.getD k []).length = n at hc hl
      have hc' : (w.alloc (.cells #[.int .i64 f, .int .i64 t] 43)).cell? ⟨b, o + k, none⟩ = some (.slice aj n cj) := by
        rw [← hc]; exact World.cell?_of_block ((World.grownBy_alloc w _ none).block b hb (by simp))
      clear hd hset
      go_wp2
      go_roundw
      case rel => exact ⟨k + 1, by omega, by go_num, by first | rfl | trivial⟩
      case measure => simp [intOf]; omega
    · have : k = docs.length := by omega
      subst this
      clear hlt
      go_wp2
      go_loopw [9] (fun i wr => ∃ k : Nat, i = .int .i64 (f + k) ∧ f + k ≤ t ∧ ∃ (m : Nat) (D : DataW H), m ≤ 4000 * k ∧ wr.ownsGroups Tryd.prog 9 (w.heap.size + 2) 3 .i64 (w.heap.size + 1) m D ∧ Repr D (S.grp docs f k 0) ∧
          Below w.heap.size w wr ∧ wr.cell? ⟨w.heap.size, 1, none⟩ = some (.int .i64 t) ∧ w.heap.size + 2 ≤ wr.heap.size)
        (fun i _ => (t - intOf i).toNat)
      case atStart =>
        have hsz : (w.alloc (.cells #[.int .i64 f, .int .i64 t] 43)).heap.size = w.heap.size + 1 := by simp
        have hg := World.ownsGroups_made (H := H) (w.alloc (.cells #[.int .i64 f, .int .i64 t] 43)) Tryd.prog 9 3 .i64
        rw [hsz] at hg
        refine ⟨0, by simp, by simpa using h1, 0, _, Nat.le_refl _, hg, Repr.empty.ext (fun s => (S.grp_0 docs f s).symm), ((Below.refl _ _).alloc (Nat.le_refl _) _).alloc (by simp) _, ?_, by simp⟩
        rw [cell_alloc_alloc]; rfl
      case round =>
        obtain ⟨k, rfl, hk, m, D, hm, hown, hrep, hnx, hbox, hws⟩ := hrel
        by_cases hlt : f + k < t
        · obtain ⟨n, hn⟩ : ∃ n : Nat, f + (k : Int) = n := ⟨(f + k).toNat, by omega⟩
          have hnl : n < docs.length := by omega
          obtain ⟨b, o, aj, cj, rfl, hb, hc, hv⟩ := hd n hnl
          have hs := hset n wr hnl hnx
          rw [hv] at hs hc
          have hc' : wr.cell? ⟨b, o + n, none⟩ = some (.slice aj (docs.getD n []).length cj) := (hnx.cell (by exact hb)).trans hc
          have eL : S.setK docs 0 n = S.setK docs f k := by unfold S.setK; rw [hn]; simp
          rw [eL] at hs
          have hterm' := hterm n
          rw [eL] at hterm'
          obtain ⟨w0r, rfl⟩ : ∃ x, x = wr := ⟨wr, rfl⟩
          have hL : (S.setK docs f k).length ≤ 4000 := by unfold S.setK; exact S.doc_sorted hp _
          simp only [hn] at hk ⊢
          generalize (docs.getD n []).length = dl at hc' hs
          clear hd hset hc hv
          go_wp2_with (first
            | (go_at_call 20; refine hs.mono ?_; rintro e w1 ⟨vs, rfl, hrow, hb1⟩; obtain ⟨av, cp, rfl, hav⟩ := row_form hrow)
            | go_in)
          have hgrp1 := groups_below hown hb1
          have hsh1 : w1.Shuns (w.heap.size + 1) (fun g => (Value.slice av (S.setK docs f k).length cp).ownBlock = some g) := shuns_new hown hb1 (fun g hg => (hrow.lt g hg).1)
          have hnx1 : Below w.heap.size w w1 := hnx.trans (hb1.mono (by omega))
          have hbox1 : w1.cell? ⟨w.heap.size, 1, none⟩ = some (.int .i64 t) := (hb1.cell (by show w.heap.size < w0r.heap.size; omega)).trans hbox
          have hwr1 : w0r.heap.size ≤ w1.heap.size := hb1.size
          clear hs hb1 hc'
          go_loopw [62] (fun i wq => ∃ j : Nat, i = .int .i64 j ∧ j ≤ (S.setK docs f k).length ∧ ∃ (m2 : Nat) (D2 : DataW H), m2 ≤ m + j ∧ wq.ownsGroups Tryd.prog 9 (w.heap.size + 2) 3 .i64 (w.heap.size + 1) m2 D2 ∧ Repr D2 (S.grp docs f k j) ∧
              wq.Shuns (w.heap.size + 1) (fun g => (Value.slice av (S.setK docs f k).length cp).ownBlock = some g) ∧ Below w.heap.size w wq ∧ wq.cell? ⟨w.heap.size, 1, none⟩ = some (.int .i64 t) ∧
              wq.ownsRow w0r.heap.size 9 1 (.slice av (S.setK docs f k).length cp) (S.setK docs f k).length ((S.setK docs f k).map encS) ∧ w0r.heap.size ≤ wq.heap.size)
            (fun i _ => (S.setK docs f k).length - (intOf i).toNat)
          case atStart => exact ⟨0, rfl, Nat.zero_le _, m, D, by omega, hgrp1, hrep, hsh1, hnx1, hbox1, hrow, hwr1⟩
          case round =>
            obtain ⟨j, rfl, hj, m2, D2, hm2, hown2, hrep2, hsh2, hnx2, hbox2, hrow2, hwq⟩ := hrel
            by_cases hjl : j < (S.setK docs f k).length
            · obtain ⟨g, rfl, hg1, hg2⟩ := hav (by omega)
              have hcell := row_cell hrow2 hjl
              rw [Nat.zero_add] at hcell
              have hkey := key_str (P := Tryd.prog) Tryd.underlying9 (hterm' _ (S.getD_mem _ j [] hjl))
              have hhit := S.grp_hit (docs := docs) (a := f) (k := k) hjl
              have hmiss := fun s => S.grp_miss (docs := docs) (a := f) (k := k) (j := j) hjl (s := s)
              have hglen := S.grp_len docs f k j ((S.setK docs f k).getD j [])
              unfold Vg.encS at hcell
              generalize (S.setK docs f k).getD j [] = sj at hcell hkey hhit hmiss hglen
              have hg2' : g < wr.heap.size := (hrow2.lt g rfl).2
              have hmm2 : m2 < maxLen := by unfold maxLen; omega
              clear hterm hterm' hav
              go_wp2_with (first
                | (at_lookup; refine wpList_lookup_groups_shuns _ rfl _ _ 58 rfl 9 44 3 .i64 Tryd.law9 Tryd.underlying58 (Tryd.zero28 _) (w.heap.size + 2) (w.heap.size + 1) m2 _ rfl hown2 hmm2 _ _ rfl hkey ?_; intro v zs hat hoi hzl hback hsh)
                | (at_builtin; refine wpList_append_own_at _ rfl _ _ 44 rfl (w.heap.size + 2) 3 i0 (.int .i64 0) 1 8 Tryd.underlying44 hi hz0 hz1 hz2 rfl (by decide) _ _ _ rfl (hoi.1.alloc _) ⟨wr.heap.size, 0, none⟩ 1 1 [.int .i64 n] rfl rfl (cell_one_new _ _ _) (ints_oneCell .i64 [(n : Int)]) (by unfold maxLen; omega) (by omega) (by simp; omega) ?_; intro v' w3 hown3 hgrow hnil hloc)
                | (at_mapUpdate; have hno := hno_of hsh hsh2 hloc hg2'; refine wpList_mapUpdate_back_shuns _ rfl _ _ _ 58 rfl Tryd.law9 Tryd.underlying58 hkey hown2 hmm2 hoi hsh2 hno hback rfl rfl rfl ((World.grownBy_alloc _ _ _).trans hgrow) (hoi.appended hown3 (WalkArith.wf_i64 (by omega))) (by simp; omega) (hloc.imp id (fun h => ⟨_, h, by simp⟩)) ?_; intro w4 hown4 hgrow4 hsh4)
                | go_in)
              have hall := (World.grownBy_alloc wr _ _).trans hgrow
              have hw3 : wr.heap.size ≤ w3.heap.size := hall.size
              have hvb : ∀ g', v.ownBlock = some g' → w.heap.size + 2 ≤ g' := fun g' hg' => (hoi.1.lt g' hg').1
              refine ⟨⟨j + 1, by go_num, by omega, m2 + 1, _, by omega, hown4, ?_, hsh4, ?_, ?_, ?_, ?_⟩, by simp [intOf]; omega⟩
              · refine hrep2.put (hoi.appended hown3 (WalkArith.wf_i64 (by omega))) (by simp) ?_ hmiss
                rw [hhit, hn]
                have := items_row (H := H) hoi
                rw [← hat, (hrep2.2 sj).1] at this
                rw [this]
              · exact hnx2.groups hoi hall hgrow4 hnx2.size (by omega) (by omega)
              · refine cell_gr hgrow4 (by show w.heap.size < w3.heap.size; omega) (by show some w.heap.size ≠ some (w.heap.size + 1); simp) (cell_gr hall (by show w.heap.size < wr.heap.size; omega) ?_ hbox2)
                show some w.heap.size ≠ v.ownBlock
                intro h
                have := hvb _ h.symm
                omega
              · refine (hrow2.kept hall (.inr ?_)).kept hgrow4 (.inr ?_)
                · intro h
                  exact hsh _ hsh2 g h.symm rfl
                · intro h
                  simp only [Value.ownBlock, Option.some.injEq] at h
                  omega
              · exact Nat.le_trans hwq (Nat.le_trans hw3 hgrow4.size)
            · have : j = (S.setK docs f k).length := by omega
              subst this
              clear hjl hterm hterm'
              have hrep3 := hrep2.ext (fun s => S.grp_next (docs := docs) (a := f) (k := k) (j := (S.setK docs f k).length) (by omega) s)
              clear hrep2
              go_wp2
              exact ⟨⟨k + 1, by rw [show f + ((k + 1 : Nat) : Int) = (n : Int) + 1 by omega], by omega, m2, D2, by omega, hown2, hrep3, hnx2, hbox2, by omega⟩, by simp [intOf]; omega⟩
        · have hk2 : t = f + k := by omega
          have hkk : (t - f).toNat = k := by omega
          have hmap := map_of_groups hown
          have hcS := callsIn_wide.1 (Tryd.slices_Sorted_keys_58_59 (w.heap.size + 1) m D _ wr hmap (by have := map_size hmap; unfold maxLen; omega) (by have := map_size hmap; omega))
          have hkl := fun (ss : List (List UInt8)) (hss : ss.Perm (strKeys D)) => keys_law (docs := docs) (f := f) (t := t) hmap Tryd.law9 Tryd.underlying9 (by rw [hkk]; exact hrep) hss
          obtain ⟨w0r, rfl⟩ : ∃ x, x = wr := ⟨wr, rfl⟩
          clear hd hset hterm
          subst hk2
          go_wp2_with (first
            | (go_at_call 22; refine (Tryd.keys_at _ _).mono ?_; rintro e w4 ⟨rfl, rfl⟩)
            | (go_at_call 21; refine hcS.mono ?_; rintro e w5 ⟨vs, ss, rfl, hS, hrow, hnil, hb5⟩; obtain ⟨hk3, hk4, hk5, hk6⟩ := hkl ss hS; rw [hk3, hk4] at hrow; obtain ⟨av, cp, rfl, hav⟩ := row_form hrow)
            | go_in)
          have hb5' : Below w0r.heap.size w0r w5 := ((Below.refl _ w0r).alloc (Nat.le_refl _) _).trans (hb5.mono (by simp))
          have hown5 := groups_below hown hb5'
          have hnx5 : Below w.heap.size w w5 := hnx.trans (hb5'.mono (by omega))
          have hsz5 : w0r.heap.size ≤ w5.heap.size := hb5'.size
          clear hcS hkl hmap hb5 hown hS hnil hk3
          go_loopw [12, 79] (fun d i wq => ∃ j : Nat, i = .int .i64 j ∧ j ≤ (S.makeK docs f (f + k)).length ∧ ∃ xs, wq.ownsRow w5.heap.size 46 2 d j xs ∧
              RdL (RdV w5 (fun b => w.heap.size ≤ b ∧ b < w5.heap.size) [.str, .slice [.int .i64]]) xs (S.makeTo docs f (f + k) j) ∧ Below w5.heap.size w5 wq)
            (fun _ i _ => (S.makeK docs f (f + k)).length - (intOf i).toNat)
          case atStart => exact ⟨0, rfl, Nat.zero_le _, [], World.ownsRow_nil _ _ _ _, rfl, Below.refl _ _⟩
          case round =>
            obtain ⟨j, rfl, hj, xs, hrowd, hrdl, hbq⟩ := hrel
            by_cases hjl : j < (S.makeK docs f (f + k)).length
            · obtain ⟨g, rfl, hg1, hg2⟩ := hav (by omega)
              have hcell5 := row_cell hrow hjl
              have hcell : wr.cell? ⟨g, 0 + j, none⟩ = some (Vg.encS ((S.makeK docs f (f + k)).getD j [])) := (hbq.cell hg2).trans hcell5
              rw [Nat.zero_add] at hcell
              have hkl := hk5 _ (S.getD_mem _ j [] hjl)
              have hkey := key_str (P := Tryd.prog) Tryd.underlying9 hkl
              have hsucc := fun tt (ht : (S.makeK docs f (f + k)).getD j [] = tt) => S.makeTo_succ (docs := docs) (a := f) (b := f + k) (k := j) (j := k) hjl hkk.symm ht
              unfold Vg.encS at hcell
              have hownq := groups_below hown5 hbq
              have hshq : wr.Shuns (w.heap.size + 1) (fun g => w5.heap.size ≤ g) := shuns_new hown5 hbq (fun g hg => hg)
              have hat0 := fun s => (hrep.2 s).1
              generalize (S.makeK docs f (f + k)).getD j [] = sj at hcell hkey hkl hsucc
              have hmm2 : m < maxLen := by unfold maxLen; omega
              clear hcell5 hk5
              go_wp2_with (first
                | (at_lookup; refine wpList_lookup_groups_shuns _ rfl _ _ 58 rfl 9 44 3 .i64 Tryd.law9 Tryd.underlying58 (Tryd.zero28 _) (w.heap.size + 2) (w.heap.size + 1) m _ rfl hownq hmm2 _ _ rfl hkey ?_; intro v zs hat hoi hzl hback hsh; obtain ⟨av2, cp2, rfl, hav2⟩ := row_form hoi.1)
                | (at_builtin; refine wpList_append_own_at _ rfl _ _ 32 rfl w5.heap.size 46 i1 (.agg #[.string ⟨#[]⟩, .slice none 0 0]) 2 40 Tryd.underlying32 hi1 hy0 hy1 hy2 rfl (by decide) _ j xs rfl (hrowd.alloc _) ⟨wr.heap.size, 0, none⟩ 1 1 [.string ⟨sj.toArray⟩, .slice av2 zs.length cp2] rfl rfl (entry_cells _ _ _ _) (by intro u hu; simp at hu; rcases hu with rfl | rfl <;> rfl) (by unfold maxLen; omega) (by omega) (by have := hbq.size; simp; omega) ?_; intro v' w6 hown6 hgrow hnil hloc)
                | go_in)
              have hrd : Rd w5 (fun b => w.heap.size ≤ b ∧ b < w5.heap.size) (.slice [.int .i64]) (.slice av2 zs.length cp2) zs :=
                rd_back hoi hbq (fun g' hg' => by have := hsh _ hshq g' hg'; omega) (fun g' h1 h2 => ⟨by omega, h2⟩)
              have hz : zs = S.docsTo docs f sj k := by
                have e1 := items_row (H := H) hoi
                rw [← hat, hat0] at e1
                rw [← e1]; simp [S.grp]
              have hall := (World.grownBy_alloc wr (.cells #[.string ⟨sj.toArray⟩, .slice av2 zs.length cp2] 46) _).trans hgrow
              refine ⟨⟨j + 1, by go_num, by omega, xs ++ [.string ⟨sj.toArray⟩, .slice av2 zs.length cp2], hown6, ?_, ?_⟩, by simp [intOf]; omega⟩
              · rw [← hsucc sj rfl, ← hz]
                exact rdl_snoc _ _ _ _ hrdl (rd_entry hkl hrd)
              · exact hbq.grown hall hbq.size (fun g' hg' => (hrowd.lt g' hg').1)
            · have hje : j = (S.makeK docs f (f + k)).length := by omega
              subst hje
              rw [S.makeTo_end (by omega)] at hrdl
              clear hav hk5
              go_wp2
              go_ret2
              refine ⟨_, xs, w5, rfl, hnx5.trans (hbq.mono (by omega)), hbq, by omega, ?_, hrdl⟩
              have hml : (S.make docs f (f + k)).length = (S.makeK docs f (f + k)).length := by simp [S.make]
              rw [hml]
              exact hrowd
set_option maxRecDepth 100000 in
set_option maxHeartbeats 4000000 in
theorem Tryd.make_bad1 (docs : List (List UInt8)) (f t : Int) (da : Option Addr) (cap : Nat) (w : World) (hc : 1000 < docs.length ∨ f < 0 ∨ t < f ∨ (docs.length : Int) < t) :
    Calls Tryd.prog 11 #[.slice da docs.length cap, .agg #[.int .i64 f, .int .i64 t]] w fun e w' => e = .returned (.tuple #[.slice none 0 0, .int .i64 1]) ∧ Below w.heap.size w w' := by
  generalize docs.length = n at hc
  go_enter Tryd.func11, Tryd.ntmps11
  go_wp2
  all_goals (go_ret2; exact ⟨rfl, (Below.refl _ _).alloc (Nat.le_refl _) _⟩)
set_option maxRecDepth 100000 in
set_option maxHeartbeats 4000000 in
theorem Tryd.make_bad2 (docs : List (List UInt8)) (f t : Int) (da : Option Addr) (cap : Nat) (w : World) (h0 : 0 ≤ f) (h1 : f ≤ t) (h2 : t ≤ docs.length) (h3 : docs.length ≤ 1000) (dv : Nat → Value)
    (hd : ∀ j, j < docs.length → ∃ b o aj cj, da = some ⟨b, o, none⟩ ∧ b < w.heap.size ∧ w.cell? ⟨b, o + j, none⟩ = some (dv j) ∧ dv j = .slice aj (docs.getD j []).length cj)
    (hc : ¬ ∀ j, j < docs.length → (docs.getD j []).length ≤ 2000) :
    Calls Tryd.prog 11 #[.slice da docs.length cap, .agg #[.int .i64 f, .int .i64 t]] w fun e w' => e = .returned (.tuple #[.slice none 0 0, .int .i64 1]) ∧ Below w.heap.size w w' := by
  go_enter Tryd.func11, Tryd.ntmps11
  go_wp2
  go_loopw [39] (fun i wr => ∃ k : Nat, k ≤ docs.length ∧ i = .int .i64 k ∧ wr = w.alloc (.cells #[.int .i64 f, .int .i64 t] 43) ∧ ∀ j, j < k → (docs.getD j []).length ≤ 2000)
    (fun i _ => docs.length - (intOf i).toNat)
  case atStart => exact ⟨0, Nat.zero_le _, rfl, rfl, fun j hj => by omega⟩
  case round =>
    obtain ⟨k, hk, rfl, rfl, hall⟩ := hrel
    by_cases hlt : k < docs.length
    · obtain ⟨b, o, aj, cj, rfl, hb, hcl, hv⟩ := hd k hlt
      rw [hv] at hcl
      have hc' : (w.alloc (.cells #[.int .i64 f, .int .i64 t] 43)).cell? ⟨b, o + k, none⟩ = some (.slice aj (docs.getD k []).length cj) := by
        rw [← hcl]; exact World.cell?_of_block ((World.grownBy_alloc w _ none).block b hb (by simp))
      clear hd hcl hv hc
      by_cases hl : (docs.getD k []).length ≤ 2000
      · have hall' : ∀ j, j < k + 1 → (docs.getD j []).length ≤ 2000 := fun j hj => by
          by_cases e : j = k
          · subst e; exact hl
          · exact hall j (by omega)
        clear hall
        generalize (docs.getD k []).length = n at hc' hl
        go_wp2
        go_roundw
        case rel => exact ⟨k + 1, by omega, by go_num, by first | rfl | trivial, hall'⟩
        case measure => simp [intOf]; omega
      · clear hall
        generalize (docs.getD k []).length = n at hc' hl
        go_wp2
        go_ret2
        exact ⟨rfl, (Below.refl _ _).alloc (Nat.le_refl _) _⟩
    · exact absurd (fun j hj => hall j (by omega)) hc
end Go.Proofs
end
section
namespace Go.S
theorem term_short {docs : List (List UInt8)} {a : Int} {j : Nat} : ∀ s ∈ setK docs a j, s.length ≤ maxLen := fun s hs => by
  have h1 := (sorted_mem _ _).1 hs
  simp only [terms, List.mem_map] at h1
  obtain ⟨w, _, rfl⟩ := h1
  have := termF_le w [] (by simp)
  unfold termOf maxLen
  omega
theorem fair_pre {docs : List (List UInt8)} {f t : Int} (h : fairD docs f t = true) : makePre docs f t ∧ ∀ j, (docs.getD j []).length ≤ 2000 := by
  simp only [fairD, Bool.and_eq_true, List.all_eq_true, decide_eq_true_eq] at h
  obtain ⟨h1, h2, h3, h4, h5⟩ := h
  refine ⟨⟨h3, h4, h5, by omega, fun d hd => by have := h1 d hd; omega⟩, fun j => ?_⟩
  by_cases hj : j < docs.length
  · have := h1 _ (getD_mem docs j [] hj)
    omega
  · rw [List.getD_eq_getElem?_getD, List.getElem?_eq_none (by omega)]; simp
end Go.S
namespace Go.DM
open Go Go.Vg Go.Maps Go.RowKit Go.Proofs
theorem rdl_at {w : World} {A : Nat → Prop} {τ : Ty} : ∀ (l : List (D τ)) (cs : List Value), RdL (RdV w A [τ]) cs l → cs.length = l.length ∧ ∀ (j : Nat) (x : D τ), l[j]? = some x → Rd w A τ (cs.getD j undef) x
  | [], cs, h => by simp only [RdL] at h; subst h; exact ⟨rfl, fun j x hx => by simp at hx⟩
  | y :: l, cs, ⟨c1, c2, hc, h1, h2⟩ => by
    subst hc
    simp only [RdV] at h1
    obtain ⟨v, vs', rfl, hv, rfl⟩ := h1
    obtain ⟨g1, g2⟩ := rdl_at l c2 h2
    refine ⟨by simp [g1], fun j x hx => ?_⟩
    cases j with
    | zero => simp at hx; subst hx; exact hv
    | succ j => simpa using g2 j x (by simpa using hx)
theorem argsD_bytes (b : List UInt8) : argsD [.one (.slice [.int .u8])] [.sl [.int .u8] b] = some b := rfl
set_option maxRecDepth 100000 in
theorem make_valid {G : Nat → Option GD} {Fs : Row (PS.flat [.one (.slice [.int .u8])]) → Prop × AV × List AB} (hset : Valid Tryd.prog G 20 (sigOf [.one (.slice [.int .u8])] Fs))
    (hFs : ∀ b : List UInt8, Fs b = (S.small b, .own 0, [.row 9 [.str] (S.sorted (S.terms b)) false]))
    {F : Row (PS.flat [.one (.slice [.slice [.int .u8]]), .agg [.int .i64, .int .i64]]) → Prop × AV × List AB}
    (hF : ∀ (docs : List (List UInt8)) (f t : Int), F (docs, f, t) = (True, .tup [.sl [.str, .slice [.int .i64]] (S.dMake docs f t).1, .int .i64 ((S.dMake docs f t).2 : Int)], [])) :
    Valid Tryd.prog G 11 (sigOf [.one (.slice [.slice [.int .u8]]), .agg [.int .i64, .int .i64]] F) := by
  intro w A β args avs pre res bs hA hG hargs hs hp
  unfold sigOf at hs
  split at hs
  · rename_i x hx
    obtain ⟨docs, f, t⟩ := x
    change List (List UInt8) at docs
    change Int at f
    change Int at t
    have hs' := hs
    rw [hF docs f t] at hs'
    simp only [Option.some.injEq, Prod.mk.injEq] at hs'
    obtain ⟨rfl, rfl, rfl⟩ := hs'
    obtain ⟨g1, g2⟩ := backD_rel _ hx hargs
    clear hs hp hx hargs g2
    change AVrels w A β args [.sl [.slice [.int .u8]] docs, .agg [.int .i64 f, .int .i64 t]] at g1
    simp only [AVrels, AVrel] at g1
    obtain ⟨vd, vs', rfl, hvd, va, vs'', rfl, ⟨arr, rfl, harr⟩, rfl⟩ := g1
    obtain ⟨u1, us, e1, ⟨rfl, hf⟩, u2, us', rfl, ⟨rfl, ht⟩, rfl⟩ := harr
    obtain rfl : arr = #[.int .i64 f, .int .i64 t] := by apply Array.ext'; simpa using e1
    simp only [Rd] at hvd
    obtain ⟨a, cap, cs, rfl, hcap, hcap2, hrdl, hmem⟩ := hvd
    obtain ⟨hcl, hcs⟩ := rdl_at (τ := .slice [.int .u8]) docs cs hrdl
    have hd : ∀ j, j < docs.length → ∃ b o aj cj, a = some ⟨b, o, none⟩ ∧ b < w.heap.size ∧ w.cell? ⟨b, o + j, none⟩ = some (cs.getD j undef) ∧ cs.getD j undef = .slice aj (docs.getD j []).length cj := by
      intro j hj
      obtain ⟨b, o, rfl, hAb, hr⟩ := hmem (by intro h; rw [h] at hcl; simp at hcl; omega)
      have h1 := hcs j (docs.getD j []) (by rw [List.getD_eq_getElem?_getD, List.getElem?_eq_getElem hj]; rfl)
      simp only [Rd] at h1
      obtain ⟨aj, cj, cs', h2, _⟩ := h1
      refine ⟨b, o, aj, cj, rfl, hA b hAb, hr j _ ?_, h2⟩
      rw [List.getD_eq_getElem?_getD, List.getElem?_eq_getElem (by omega)]; rfl
    show Calls Tryd.prog 11 #[.slice a docs.length cap, .agg #[.int .i64 f, .int .i64 t]] w _
    have bad : Calls Tryd.prog 11 #[.slice a docs.length cap, .agg #[.int .i64 f, .int .i64 t]] w (fun e w' => e = .returned (.tuple #[.slice none 0 0, .int .i64 1]) ∧ Below w.heap.size w w') → S.fairD docs f t = false →
        Calls Tryd.prog 11 #[.slice a docs.length cap, .agg #[.int .i64 f, .int .i64 t]] w (fun e w' => ∃ v, e = .returned v ∧ ∃ A' β', CallPost w A w' v (.tup [.sl [.str, .slice [.int .i64]] (S.dMake docs f t).1, .int .i64 ((S.dMake docs f t).2 : Int)]) [] A' β') := by
      intro hc hb
      refine hc.mono fun e w' ⟨he, hbl⟩ => ⟨_, he, A, β, { os := hbl.os, tape := hbl.tape, output := hbl.output, size := hbl.size, same := hbl.block, mono := fun _ h => h, old := fun _ _ h => h, bound := fun b h => Nat.lt_of_lt_of_le (hA b h) hbl.size, res := ?_, rows := fun i ab hi => by simp at hi, apart := fun i j b hi => by simp at hi }⟩
      have e2 : S.dMake docs f t = ([], 1) := by unfold S.dMake; rw [hb]; rfl
      rw [e2]
      simp only [AVrel, AVrels]
      refine ⟨_, rfl, _, _, rfl, ?_, _, _, rfl, ⟨rfl, by simp only [lo, hi]; omega⟩, rfl⟩
      simp only [Rd]
      exact ⟨none, 0, [], rfl, Nat.le_refl _, Nat.zero_le _, rfl, fun h => absurd rfl h⟩
    cases hfair : S.fairD docs f t with
    | false =>
      refine bad ?_ hfair
      by_cases hc : 1000 < docs.length ∨ f < 0 ∨ t < f ∨ (docs.length : Int) < t
      · exact Tryd.make_bad1 docs f t a cap w hc
      · refine Tryd.make_bad2 docs f t a cap w (by omega) (by omega) (by omega) (by omega) _ hd fun hall => ?_
        have : S.fairD docs f t = true := by
          simp only [S.fairD, Bool.and_eq_true, List.all_eq_true, decide_eq_true_eq]
          refine ⟨fun d hd' => ?_, by omega, by omega, by omega, by omega⟩
          obtain ⟨i, hi', rfl⟩ := List.getElem_of_mem hd'
          have := hall i hi'
          rw [List.getD_eq_getElem?_getD, List.getElem?_eq_getElem hi'] at this
          simp only [Option.getD_some] at this
          omega
        rw [this] at hfair; cases hfair
    | true =>
      obtain ⟨hmp, h4⟩ := S.fair_pre hfair
      have hset' : ∀ (j : Nat) (W : World), j < docs.length → Below w.heap.size w W → Calls Tryd.prog 20 #[cs.getD j undef] W fun e w' => ∃ v, e = .returned v ∧ w'.ownsRow W.heap.size 9 1 v (S.setK docs 0 j).length ((S.setK docs 0 j).map Vg.encS) ∧ Below W.heap.size W w' := by
        intro j W hj hW
        have hk : Keeps w W A A := fun b hb => ⟨hb, hW.block b (hA b hb)⟩
        have h1 := Rd_mono hk _ _ _ (hcs j (docs.getD j []) (by rw [List.getD_eq_getElem?_getD, List.getElem?_eq_getElem hj]; rfl))
        have h2 := hset W A β [cs.getD j undef] [.sl [.int .u8] (docs.getD j [])] (S.small (docs.getD j [])) (.own 0) [.row 9 [.str] (S.sorted (S.terms (docs.getD j []))) false]
          (fun b hb => Nat.lt_of_lt_of_le (hA b hb) hW.size) (fun i d hi => (hG i d hi).mono hk) (by simp only [AVrels, AVrel]; exact ⟨_, _, rfl, h1, rfl⟩)
          (by unfold sigOf; rw [argsD_bytes]; simp only [hFs]) (by have := h4 j; unfold S.small; omega)
        refine h2.mono fun e w' ⟨v, he, A', β', hpost⟩ => ⟨v, he, ?_, hpost.os, hpost.tape, hpost.output, hpost.size, hpost.same⟩
        have hr := hpost.res
        simp only [AVrel] at hr
        obtain ⟨⟨xs, ho, hrd, _⟩, hblk⟩ := hpost.rows 0 _ rfl
        obtain ⟨rfl, _⟩ := rdl_str _ xs hrd
        have eK : S.setK docs 0 j = S.sorted (S.terms (docs.getD j [])) := by unfold S.setK; simp
        rw [eK, hr.1]
        refine ⟨ho.1, ?_⟩
        rcases ho.2 with hn | ⟨g, cap', cur, hv, _, rest⟩
        · exact .inl hn
        · exact .inr ⟨g, cap', cur, hv, hblk g (by rw [hv]; rfl), rest⟩
      refine (Tryd.make_walk (H := Unit) docs f t a cap w hmp h4 _ hd hset' (fun j s hs => S.term_short s hs)).mono fun e w' ⟨v, xs, W1, he, hbl, hbl1, hW1, ho, hrd⟩ => ?_
      have e2 : S.dMake docs f t = (S.make docs f t, 0) := by unfold S.dMake; rw [hfair]; rfl
      rw [e2]
      refine ⟨_, he, fun b => A b ∨ (w.heap.size ≤ b ∧ b < w'.heap.size), β, { os := hbl.os, tape := hbl.tape, output := hbl.output, size := hbl.size, same := hbl.block, mono := fun _ h => .inl h, old := fun b hb h => ?_, bound := fun b h => ?_, res := ?_, rows := fun i ab hi => by simp at hi, apart := fun i j b hi => by simp at hi }⟩
      · rcases h with h | h
        · exact h
        · omega
      · rcases h with h | h
        · exact Nat.lt_of_lt_of_le (hA b h) hbl.size
        · exact h.2
      · simp only [AVrel, AVrels]
        refine ⟨_, rfl, _, _, rfl, ?_, _, _, rfl, ⟨rfl, by simp only [lo, hi]; omega⟩, rfl⟩
        have hk : Keeps W1 w' (fun b => w.heap.size ≤ b ∧ b < W1.heap.size) (fun b => A b ∨ (w.heap.size ≤ b ∧ b < w'.heap.size)) := fun b hb => ⟨.inr ⟨hb.1, Nat.lt_of_lt_of_le hb.2 hbl1.size⟩, hbl1.block b hb.2⟩
        have hrd' := RdL_mono (fun c x hx => RdV_mono hk _ c x hx) _ _ hrd
        simp only [Rd]
        rcases ho.2 with ⟨rfl, h0⟩ | ⟨g, cap', cur, rfl, hg, hh, hn, hc, hsz, htk⟩
        · have hm0 : S.make docs f t = [] := List.length_eq_zero_iff.1 h0
          rw [hm0]
          exact ⟨none, 0, [], rfl, Nat.le_refl _, Nat.zero_le _, rfl, fun h => absurd rfl h⟩
        · refine ⟨some ⟨g, 0, none⟩, cap', xs, rfl, hn, hc, hrd', fun _ => ⟨g, 0, rfl, .inr ⟨by omega, (Array.getElem?_eq_some_iff.1 hh).1⟩, fun j u hj => ?_⟩⟩
          have := ho.cells (g := g) rfl j u hj
          rwa [Addr.add_mid] at this
  · cases hs
end Go.DM
end
section
set_option linter.unusedVariables false
set_option maxHeartbeats 0
set_option maxRecDepth 100000
namespace Go.J
open Go.Proofs
open Go Vg
theorem mixed : Tryd.prog.follows .mixedOrders = true := by kernel_rfl
theorem ok_E0 : EnvOk Tryd.prog E0 := EnvOk.none G0 (TabOk.of tab_ok)
theorem v_a0 : Valid Tryd.prog G0 98 s_a0 := valid_sigOf ok_E0 mixed p_a0 L_a0 Tryd.func98 (c := body Tryd.f98) (by kernel_rfl) (by
  rintro ⟨x, k⟩ hp hf
  have h := H_a0 x k hp hf
  with_reducible refine Eq.mp ?_ h
  kernel_rfl)
theorem ok_E_a0 : EnvOk Tryd.prog E_a0 := EnvOk.cons ok_E0 v_a0 (FnOk.of Tryd.func98 (c := body Tryd.f98) (by kernel_rfl) (by kernel_rfl))
theorem v_a1 : Valid Tryd.prog G0 58 s_a1 := valid_sigOf ok_E_a0 mixed p_a1 L_a1 Tryd.func58 (c := body Tryd.f58) (by kernel_rfl) (by
  rintro ⟨⟩ hp hf
  have h := H_a1  hp hf
  with_reducible refine Eq.mp ?_ h
  kernel_rfl)
theorem ok_E_a1 : EnvOk Tryd.prog E_a1 := EnvOk.cons ok_E_a0 v_a1 (FnOk.of Tryd.func58 (c := body Tryd.f58) (by kernel_rfl) (by kernel_rfl))
theorem v_a2 : Valid Tryd.prog G0 75 s_a2 := valid_sigOf ok_E_a1 mixed p_a2 L_a2 Tryd.func75 (c := body Tryd.f75) (by kernel_rfl) (by
  rintro ⟨s1, s2, s3, s4, s5, s6, s7, s8, s9, s10⟩ hp hf
  have h := H_a2 s1 s2 s3 s4 s5 s6 s7 s8 s9 s10 hp hf
  with_reducible refine Eq.mp ?_ h
  kernel_rfl)
theorem ok_E_a2 : EnvOk Tryd.prog E_a2 := EnvOk.cons ok_E_a1 v_a2 (FnOk.of Tryd.func75 (c := body Tryd.f75) (by kernel_rfl) (by kernel_rfl))
theorem v_a3 : Valid Tryd.prog G0 93 s_a3 := valid_sigOf ok_E_a2 mixed p_a3 L_a3 Tryd.func93 (c := body Tryd.f93) (by kernel_rfl) (by
  rintro ⟨u1, u2, u3, u4, u5, u6, u7, u8, p⟩ hp hf
  have h := H_a3 u1 u2 u3 u4 u5 u6 u7 u8 p hp hf
  with_reducible refine Eq.mp ?_ h
  kernel_rfl)
theorem ok_E_a3 : EnvOk Tryd.prog E_a3 := EnvOk.cons ok_E_a2 v_a3 (FnOk.of Tryd.func93 (c := body Tryd.f93) (by kernel_rfl) (by kernel_rfl))
theorem v_a4 : Valid Tryd.prog G0 76 s_a4 := valid_sigOf ok_E_a3 mixed p_a4 L_a4 Tryd.func76 (c := body Tryd.f76) (by kernel_rfl) (by
  rintro ⟨u1, u2, u3, u4, u5, u6, u7, u8, b⟩ hp hf
  have h := H_a4 u1 u2 u3 u4 u5 u6 u7 u8 b hp hf
  with_reducible refine Eq.mp ?_ h
  kernel_rfl)
theorem ok_E_a4 : EnvOk Tryd.prog E_a4 := EnvOk.cons ok_E_a3 v_a4 (FnOk.of Tryd.func76 (c := body Tryd.f76) (by kernel_rfl) (by kernel_rfl))
theorem v_a5 : Valid Tryd.prog G0 57 s_a5 := valid_sigOf ok_E_a4 mixed p_a5 L_a5 Tryd.func57 (c := body Tryd.f57) (by kernel_rfl) (by
  rintro ⟨s1, s2, s3, s4, s5, s6, s7, s8, s9, s10, b⟩ hp hf
  have h := H_a5 s1 s2 s3 s4 s5 s6 s7 s8 s9 s10 b hp hf
  with_reducible refine Eq.mp ?_ h
  kernel_rfl)
theorem ok_E_a5 : EnvOk Tryd.prog E_a5 := EnvOk.cons ok_E_a4 v_a5 (FnOk.of Tryd.func57 (c := body Tryd.f57) (by kernel_rfl) (by kernel_rfl))
theorem v_a6 : Valid Tryd.prog G0 56 s_a6 := valid_sigOf ok_E_a5 mixed p_a6 L_a6 Tryd.func56 (c := body Tryd.f56) (by kernel_rfl) (by
  rintro ⟨s1, s2, s3, s4, s5, s6, s7, s8, s9, s10⟩ hp hf
  have h := H_a6 s1 s2 s3 s4 s5 s6 s7 s8 s9 s10 hp hf
  with_reducible refine Eq.mp ?_ h
  kernel_rfl)
theorem ok_E_a6 : EnvOk Tryd.prog E_a6 := EnvOk.cons ok_E_a5 v_a6 (FnOk.of Tryd.func56 (c := body Tryd.f56) (by kernel_rfl) (by kernel_rfl))
theorem v_a7 : Valid Tryd.prog G0 42 s_a7 := valid_sigOf ok_E_a6 mixed p_a7 L_a7 Tryd.func42 (c := body Tryd.f42) (by kernel_rfl) (by
  rintro b hp hf
  have h := H_a7 b hp hf
  with_reducible refine Eq.mp ?_ h
  kernel_rfl)
theorem ok_E_a7 : EnvOk Tryd.prog E_a7 := EnvOk.cons ok_E_a6 v_a7 (FnOk.of Tryd.func42 (c := body Tryd.f42) (by kernel_rfl) (by kernel_rfl))
theorem v_a8 : Valid Tryd.prog G0 27 s_a8 := valid_sigOf ok_E_a7 mixed p_a8 L_a8 Tryd.func27 (c := body Tryd.f27) (by kernel_rfl) (by
  rintro b hp hf
  have h := H_a8 b hp hf
  with_reducible refine Eq.mp ?_ h
  kernel_rfl)
theorem ok_E_a8 : EnvOk Tryd.prog E_a8 := EnvOk.cons ok_E_a7 v_a8 (FnOk.of Tryd.func27 (c := body Tryd.f27) (by kernel_rfl) (by kernel_rfl))
theorem v_a9 : ValidH Tryd.prog G0 39 s_a9 := valid_hsigOf ok_E_a8 mixed p_a9 q_a9 L_a9 Tryd.func39 (c := body Tryd.f39) (by kernel_rfl) (by
  rintro v ⟨l, ⟨⟩⟩ hp hf hg
  have h := H_a9 v l hp hf hg
  with_reducible refine Eq.mp ?_ h
  kernel_rfl)
theorem cv_a9 : ValidH Tryd.prog G0 39 c_a9 := v_a9
theorem ok_E_a9 : EnvOk Tryd.prog E_a9 := EnvOk.consH ok_E_a8 cv_a9 (FnOk.of Tryd.func39 (c := body Tryd.f39) (by kernel_rfl) (by kernel_rfl))
theorem v_a10 : ValidH Tryd.prog G0 26 s_a10 := valid_hsigOf ok_E_a9 mixed p_a10 q_a10 L_a10 Tryd.func26 (c := body Tryd.f26) (by kernel_rfl) (by
  rintro s ⟨l, ⟨⟩⟩ hp hf hg
  have h := H_a10 s l hp hf hg
  with_reducible refine Eq.mp ?_ h
  kernel_rfl)
theorem cv_a10 : ValidH Tryd.prog G0 26 c_a10 := v_a10
theorem ok_E_a10 : EnvOk Tryd.prog E_a10 := EnvOk.consH ok_E_a9 cv_a10 (FnOk.of Tryd.func26 (c := body Tryd.f26) (by kernel_rfl) (by kernel_rfl))
theorem v_a11 : Valid Tryd.prog G0 41 s_a11 := valid_sigOf ok_E_a10 mixed p_a11 L_a11 Tryd.func41 (c := body Tryd.f41) (by kernel_rfl) (by
  rintro ⟨b, v⟩ hp hf
  have h := H_a11 b v hp hf
  with_reducible refine Eq.mp ?_ h
  kernel_rfl)
theorem ok_E_a11 : EnvOk Tryd.prog E_a11 := EnvOk.cons ok_E_a10 v_a11 (FnOk.of Tryd.func41 (c := body Tryd.f41) (by kernel_rfl) (by kernel_rfl))
theorem v_a12 : Valid Tryd.prog G0 15 s_a12 := valid_sigOf ok_E_a11 mixed p_a12 L_a12 Tryd.func15 (c := body Tryd.f15) (by kernel_rfl) (by
  rintro ⟨b, s⟩ hp hf
  have h := H_a12 b s hp hf
  with_reducible refine Eq.mp ?_ h
  kernel_rfl)
theorem ok_E_a12 : EnvOk Tryd.prog E_a12 := EnvOk.cons ok_E_a11 v_a12 (FnOk.of Tryd.func15 (c := body Tryd.f15) (by kernel_rfl) (by kernel_rfl))
theorem v_a13 : Valid Tryd.prog G0 30 s_a13 := valid_sigOf ok_E_a12 mixed p_a13 L_a13 Tryd.func30 (c := body Tryd.f30) (by kernel_rfl) (by
  rintro ⟨r1, r2, r3⟩ hp hf
  have h := H_a13 r1 r2 r3 hp hf
  with_reducible refine Eq.mp ?_ h
  kernel_rfl)
theorem ok_E_a13 : EnvOk Tryd.prog E_a13 := EnvOk.cons ok_E_a12 v_a13 (FnOk.of Tryd.func30 (c := body Tryd.f30) (by kernel_rfl) (by kernel_rfl))
theorem v_a14 : Valid Tryd.prog G0 28 s_a14 := valid_sigOf ok_E_a13 mixed p_a14 L_a14 Tryd.func28 (c := body Tryd.f28) (by kernel_rfl) (by
  rintro ⟨r1, r2, r3⟩ hp hf
  have h := H_a14 r1 r2 r3 hp hf
  with_reducible refine Eq.mp ?_ h
  kernel_rfl)
theorem ok_E_a14 : EnvOk Tryd.prog E_a14 := EnvOk.cons ok_E_a13 v_a14 (FnOk.of Tryd.func28 (c := body Tryd.f28) (by kernel_rfl) (by kernel_rfl))
theorem v_a15 : Valid Tryd.prog G0 40 s_a15 := valid_sigOf ok_E_a14 mixed p_a15 L_a15 Tryd.func40 (c := body Tryd.f40) (by kernel_rfl) (by
  rintro ⟨b, p⟩ hp hf
  have h := H_a15 b p hp hf
  with_reducible refine Eq.mp ?_ h
  kernel_rfl)
theorem ok_E_a15 : EnvOk Tryd.prog E_a15 := EnvOk.cons ok_E_a14 v_a15 (FnOk.of Tryd.func40 (c := body Tryd.f40) (by kernel_rfl) (by kernel_rfl))
theorem v_a16 : Valid Tryd.prog G0 29 s_a16 := valid_sigOf ok_E_a15 mixed p_a16 L_a16 Tryd.func29 (c := body Tryd.f29) (by kernel_rfl) (by
  rintro ⟨b, p, most⟩ hp hf
  have h := H_a16 b p most hp hf
  with_reducible refine Eq.mp ?_ h
  kernel_rfl)
theorem ok_E_a16 : EnvOk Tryd.prog E_a16 := EnvOk.cons ok_E_a15 v_a16 (FnOk.of Tryd.func29 (c := body Tryd.f29) (by kernel_rfl) (by kernel_rfl))
theorem v_a17 : Valid Tryd.prog G0 16 s_a17 := valid_sigOf ok_E_a16 mixed p_a17 L_a17 Tryd.func16 (c := body Tryd.f16) (by kernel_rfl) (by
  rintro ⟨r1, r2, r3, most⟩ hp hf
  have h := H_a17 r1 r2 r3 most hp hf
  with_reducible refine Eq.mp ?_ h
  kernel_rfl)
theorem ok_E_a17 : EnvOk Tryd.prog E_a17 := EnvOk.cons ok_E_a16 v_a17 (FnOk.of Tryd.func16 (c := body Tryd.f16) (by kernel_rfl) (by kernel_rfl))
theorem v_a18 : Valid Tryd.prog G0 17 s_a18 := valid_sigOf ok_E_a17 mixed p_a18 L_a18 Tryd.func17 (c := body Tryd.f17) (by kernel_rfl) (by
  rintro ⟨r1, r2, r3⟩ hp hf
  have h := H_a18 r1 r2 r3 hp hf
  with_reducible refine Eq.mp ?_ h
  kernel_rfl)
theorem ok_E_a18 : EnvOk Tryd.prog E_a18 := EnvOk.cons ok_E_a17 v_a18 (FnOk.of Tryd.func17 (c := body Tryd.f17) (by kernel_rfl) (by kernel_rfl))
theorem v_a19 : Valid Tryd.prog G0 18 s_a19 := valid_sigOf ok_E_a18 mixed p_a19 L_a19 Tryd.func18 (c := body Tryd.f18) (by kernel_rfl) (by
  rintro ⟨r1, r2, r3⟩ hp hf
  have h := H_a19 r1 r2 r3 hp hf
  with_reducible refine Eq.mp ?_ h
  kernel_rfl)
theorem ok_E_a19 : EnvOk Tryd.prog E_a19 := EnvOk.cons ok_E_a18 v_a19 (FnOk.of Tryd.func18 (c := body Tryd.f18) (by kernel_rfl) (by kernel_rfl))
theorem v_a20 : Valid Tryd.prog G0 59 s_a20 := valid_sigOf ok_E_a19 mixed p_a20 L_a20 Tryd.func59 (c := body Tryd.f59) (by kernel_rfl) (by
  rintro ⟨kind, parts⟩ hp hf
  have h := H_a20 kind parts hp hf
  with_reducible refine Eq.mp ?_ h
  kernel_rfl)
theorem ok_E_a20 : EnvOk Tryd.prog E_a20 := EnvOk.cons ok_E_a19 v_a20 (FnOk.of Tryd.func59 (c := body Tryd.f59) (by kernel_rfl) (by kernel_rfl))
theorem v_a21 : Valid Tryd.prog G0 43 s_a21 := valid_sigOf ok_E_a20 mixed p_a21 L_a21 Tryd.func43 (c := body Tryd.f43) (by kernel_rfl) (by
  rintro b hp hf
  have h := H_a21 b hp hf
  with_reducible refine Eq.mp ?_ h
  kernel_rfl)
theorem ok_E_a21 : EnvOk Tryd.prog E_a21 := EnvOk.cons ok_E_a20 v_a21 (FnOk.of Tryd.func43 (c := body Tryd.f43) (by kernel_rfl) (by kernel_rfl))
theorem v_a22 : Valid Tryd.prog G0 32 s_a22 := valid_sigOf ok_E_a21 mixed p_a22 L_a22 Tryd.func32 (c := body Tryd.f32) (by kernel_rfl) (by
  rintro b hp hf
  have h := H_a22 b hp hf
  with_reducible refine Eq.mp ?_ h
  kernel_rfl)
theorem ok_E_a22 : EnvOk Tryd.prog E_a22 := EnvOk.cons ok_E_a21 v_a22 (FnOk.of Tryd.func32 (c := body Tryd.f32) (by kernel_rfl) (by kernel_rfl))
theorem v_a23 : Valid Tryd.prog G0 85 s_a23 := valid_sigOf ok_E_a22 mixed p_a23 L_a23 Tryd.func85 (c := body Tryd.f85) (by kernel_rfl) (by
  rintro c hp hf
  have h := H_a23 c hp hf
  with_reducible refine Eq.mp ?_ h
  kernel_rfl)
theorem ok_E_a23 : EnvOk Tryd.prog E_a23 := EnvOk.cons ok_E_a22 v_a23 (FnOk.of Tryd.func85 (c := body Tryd.f85) (by kernel_rfl) (by kernel_rfl))
theorem v_a24 : Valid Tryd.prog G0 86 s_a24 := valid_sigOf ok_E_a23 mixed p_a24 L_a24 Tryd.func86 (c := body Tryd.f86) (by kernel_rfl) (by
  rintro c hp hf
  have h := H_a24 c hp hf
  with_reducible refine Eq.mp ?_ h
  kernel_rfl)
theorem ok_E_a24 : EnvOk Tryd.prog E_a24 := EnvOk.cons ok_E_a23 v_a24 (FnOk.of Tryd.func86 (c := body Tryd.f86) (by kernel_rfl) (by kernel_rfl))
theorem v_a25 : Valid Tryd.prog G0 87 s_a25 := valid_sigOf ok_E_a24 mixed p_a25 L_a25 Tryd.func87 (c := body Tryd.f87) (by kernel_rfl) (by
  rintro c hp hf
  have h := H_a25 c hp hf
  with_reducible refine Eq.mp ?_ h
  kernel_rfl)
theorem ok_E_a25 : EnvOk Tryd.prog E_a25 := EnvOk.cons ok_E_a24 v_a25 (FnOk.of Tryd.func87 (c := body Tryd.f87) (by kernel_rfl) (by kernel_rfl))
theorem v_a26 : Valid Tryd.prog G0 62 s_a26 := valid_sigOf ok_E_a25 mixed p_a26 L_a26 Tryd.func62 (c := body Tryd.f62) (by kernel_rfl) (by
  rintro c hp hf
  have h := H_a26 c hp hf
  with_reducible refine Eq.mp ?_ h
  kernel_rfl)
theorem ok_E_a26 : EnvOk Tryd.prog E_a26 := EnvOk.cons ok_E_a25 v_a26 (FnOk.of Tryd.func62 (c := body Tryd.f62) (by kernel_rfl) (by kernel_rfl))
theorem v_a27 : Valid Tryd.prog G0 61 s_a27 := valid_sigOf ok_E_a26 mixed p_a27 L_a27 Tryd.func61 (c := body Tryd.f61) (by kernel_rfl) (by
  rintro b hp hf
  have h := H_a27 b hp hf
  with_reducible refine Eq.mp ?_ h
  kernel_rfl)
theorem ok_E_a27 : EnvOk Tryd.prog E_a27 := EnvOk.cons ok_E_a26 v_a27 (FnOk.of Tryd.func61 (c := body Tryd.f61) (by kernel_rfl) (by kernel_rfl))
theorem v_a28 : Valid Tryd.prog G0 48 s_a28 := valid_sigOf ok_E_a27 mixed p_a28 L_a28 Tryd.func48 (c := body Tryd.f48) (by kernel_rfl) (by
  rintro b hp hf
  have h := H_a28 b hp hf
  with_reducible refine Eq.mp ?_ h
  kernel_rfl)
theorem ok_E_a28 : EnvOk Tryd.prog E_a28 := EnvOk.cons ok_E_a27 v_a28 (FnOk.of Tryd.func48 (c := body Tryd.f48) (by kernel_rfl) (by kernel_rfl))
theorem v_a29 : Valid Tryd.prog G0 49 s_a29 := valid_sigOf ok_E_a28 mixed p_a29 L_a29 Tryd.func49 (c := body Tryd.f49) (by kernel_rfl) (by
  rintro c hp hf
  have h := H_a29 c hp hf
  with_reducible refine Eq.mp ?_ h
  kernel_rfl)
theorem ok_E_a29 : EnvOk Tryd.prog E_a29 := EnvOk.cons ok_E_a28 v_a29 (FnOk.of Tryd.func49 (c := body Tryd.f49) (by kernel_rfl) (by kernel_rfl))
theorem v_a30 : Valid Tryd.prog G0 50 s_a30 := valid_sigOf ok_E_a29 mixed p_a30 L_a30 Tryd.func50 (c := body Tryd.f50) (by kernel_rfl) (by
  rintro c hp hf
  have h := H_a30 c hp hf
  with_reducible refine Eq.mp ?_ h
  kernel_rfl)
theorem ok_E_a30 : EnvOk Tryd.prog E_a30 := EnvOk.cons ok_E_a29 v_a30 (FnOk.of Tryd.func50 (c := body Tryd.f50) (by kernel_rfl) (by kernel_rfl))
theorem v_a31 : Valid Tryd.prog G0 63 s_a31 := valid_sigOf ok_E_a30 mixed p_a31 L_a31 Tryd.func63 (c := body Tryd.f63) (by kernel_rfl) (by
  rintro c hp hf
  have h := H_a31 c hp hf
  with_reducible refine Eq.mp ?_ h
  kernel_rfl)
theorem ok_E_a31 : EnvOk Tryd.prog E_a31 := EnvOk.cons ok_E_a30 v_a31 (FnOk.of Tryd.func63 (c := body Tryd.f63) (by kernel_rfl) (by kernel_rfl))
theorem v_a32 : Valid Tryd.prog G0 51 s_a32 := valid_sigOf ok_E_a31 mixed p_a32 L_a32 Tryd.func51 (c := body Tryd.f51) (by kernel_rfl) (by
  rintro u hp hf
  have h := H_a32 u hp hf
  with_reducible refine Eq.mp ?_ h
  kernel_rfl)
theorem ok_E_a32 : EnvOk Tryd.prog E_a32 := EnvOk.cons ok_E_a31 v_a32 (FnOk.of Tryd.func51 (c := body Tryd.f51) (by kernel_rfl) (by kernel_rfl))
theorem v_a33 : Valid Tryd.prog G0 34 s_a33 := valid_sigOf ok_E_a32 mixed p_a33 L_a33 Tryd.func34 (c := body Tryd.f34) (by kernel_rfl) (by
  rintro b hp hf
  have h := H_a33 b hp hf
  with_reducible refine Eq.mp ?_ h
  kernel_rfl)
theorem ok_E_a33 : EnvOk Tryd.prog E_a33 := EnvOk.cons ok_E_a32 v_a33 (FnOk.of Tryd.func34 (c := body Tryd.f34) (by kernel_rfl) (by kernel_rfl))
theorem v_a34 : Valid Tryd.prog G0 25 s_a34 := valid_sigOf ok_E_a33 mixed p_a34 L_a34 Tryd.func25 (c := body Tryd.f25) (by kernel_rfl) (by
  rintro s hp hf
  have h := H_a34 s hp hf
  with_reducible refine Eq.mp ?_ h
  kernel_rfl)
theorem ok_E_a34 : EnvOk Tryd.prog E_a34 := EnvOk.cons ok_E_a33 v_a34 (FnOk.of Tryd.func25 (c := body Tryd.f25) (by kernel_rfl) (by kernel_rfl))
theorem v_a35 : Valid Tryd.prog G0 52 s_a35 := valid_sigOf ok_E_a34 mixed p_a35 L_a35 Tryd.func52 (c := body Tryd.f52) (by kernel_rfl) (by
  rintro s hp hf
  have h := H_a35 s hp hf
  with_reducible refine Eq.mp ?_ h
  kernel_rfl)
theorem ok_E_a35 : EnvOk Tryd.prog E_a35 := EnvOk.cons ok_E_a34 v_a35 (FnOk.of Tryd.func52 (c := body Tryd.f52) (by kernel_rfl) (by kernel_rfl))
theorem v_a36 : Valid Tryd.prog G0 35 s_a36 := valid_sigOf ok_E_a35 mixed p_a36 L_a36 Tryd.func35 (c := body Tryd.f35) (by kernel_rfl) (by
  rintro ⟨a, b⟩ hp hf
  have h := H_a36 a b hp hf
  with_reducible refine Eq.mp ?_ h
  kernel_rfl)
theorem ok_E_a36 : EnvOk Tryd.prog E_a36 := EnvOk.cons ok_E_a35 v_a36 (FnOk.of Tryd.func35 (c := body Tryd.f35) (by kernel_rfl) (by kernel_rfl))
theorem v_a37 : ValidH Tryd.prog G0 47 s_a37 := valid_hsigOf ok_E_a36 mixed p_a37 q_a37 L_a37 Tryd.func47 (c := body Tryd.f47) (by kernel_rfl) (by
  rintro ⟨a, b⟩ ⟨⟨⟩, ⟨⟩⟩ hp hf hg
  have h := H_a37 a b hp hf hg
  with_reducible refine Eq.mp ?_ h
  kernel_rfl)
theorem cv_a37 : ValidH Tryd.prog G0 47 c_a37 := v_a37
theorem ok_E_a37 : EnvOk Tryd.prog E_a37 := EnvOk.consH ok_E_a36 cv_a37 (FnOk.of Tryd.func47 (c := body Tryd.f47) (by kernel_rfl) (by kernel_rfl))
theorem v_a38 : ValidH Tryd.prog G0 46 s_a38 := valid_hsigOf ok_E_a37 mixed p_a38 q_a38 L_a38 Tryd.func46 (c := body Tryd.f46) (by kernel_rfl) (by
  rintro ⟨⟩ ⟨l, ⟨⟨⟩, ⟨⟩⟩⟩ hp hf hg
  have h := H_a38 l hp hf hg
  with_reducible refine Eq.mp ?_ h
  kernel_rfl)
theorem cv_a38 : ValidH Tryd.prog G0 46 c_a38 := v_a38
theorem ok_E_a38 : EnvOk Tryd.prog E_a38 := EnvOk.consH ok_E_a37 cv_a38 (FnOk.of Tryd.func46 (c := body Tryd.f46) (by kernel_rfl) (by kernel_rfl))
theorem v_a39 : Valid Tryd.prog G0 44 s_a39 := Vg.valid_clone_str Tryd.clone_str (fun _ => rfl)
theorem ok_E_a39 : EnvOk Tryd.prog E_a39 := EnvOk.cons ok_E_a38 v_a39 (FnOk.of Tryd.func44 (c := body Tryd.f44) (by kernel_rfl) (by kernel_rfl))
theorem v_a40 : Valid Tryd.prog G0 23 s_a40 := Vg.valid_clone_int Tryd.clone_int (fun _ => rfl)
theorem ok_E_a40 : EnvOk Tryd.prog E_a40 := EnvOk.cons ok_E_a39 v_a40 (FnOk.of Tryd.func23 (c := body Tryd.f23) (by kernel_rfl) (by kernel_rfl))
theorem v_a41 : ValidH Tryd.prog G0 45 s_a41 := Tryd.v_sort (fun _ => rfl)
theorem cv_a41 : ValidH Tryd.prog G0 45 c_a41 := v_a41
theorem ok_E_a41 : EnvOk Tryd.prog E_a41 := EnvOk.consH ok_E_a40 cv_a41 (FnOk.of Tryd.func45 (c := body Tryd.f45) (by kernel_rfl) (by kernel_rfl))
theorem v_a42 : ValidH Tryd.prog G0 33 s_a42 := valid_hsigOf ok_E_a41 mixed p_a42 q_a42 L_a42 Tryd.func33 (c := body Tryd.f33) (by kernel_rfl) (by
  rintro l ⟨⟩ hp hf hg
  have h := H_a42 l hp hf hg
  with_reducible refine Eq.mp ?_ h
  kernel_rfl)
theorem cv_a42 : ValidH Tryd.prog G0 33 c_a42 := v_a42
theorem ok_E_a42 : EnvOk Tryd.prog E_a42 := EnvOk.consH ok_E_a41 cv_a42 (FnOk.of Tryd.func33 (c := body Tryd.f33) (by kernel_rfl) (by kernel_rfl))
theorem v_a43 : Valid Tryd.prog G0 20 s_a43 := valid_sigOf ok_E_a42 mixed p_a43 L_a43 Tryd.func20 (c := body Tryd.f20) (by kernel_rfl) (by
  rintro b hp hf
  have h := H_a43 b hp hf
  with_reducible refine Eq.mp ?_ h
  kernel_rfl)
theorem ok_E_a43 : EnvOk Tryd.prog E_a43 := EnvOk.cons ok_E_a42 v_a43 (FnOk.of Tryd.func20 (c := body Tryd.f20) (by kernel_rfl) (by kernel_rfl))
theorem v_a44 : Valid Tryd.prog G0 24 s_a44 := valid_sigOf ok_E_a43 mixed p_a44 L_a44 Tryd.func24 (c := body Tryd.f24) (by kernel_rfl) (by
  rintro l hp hf
  have h := H_a44 l hp hf
  with_reducible refine Eq.mp ?_ h
  kernel_rfl)
theorem ok_E_a44 : EnvOk Tryd.prog E_a44 := EnvOk.cons ok_E_a43 v_a44 (FnOk.of Tryd.func24 (c := body Tryd.f24) (by kernel_rfl) (by kernel_rfl))
theorem v_a45 : Valid Tryd.prog G0 31 s_a45 := valid_sigOf ok_E_a44 mixed p_a45 L_a45 Tryd.func31 (c := body Tryd.f31) (by kernel_rfl) (by
  rintro l hp hf
  have h := H_a45 l hp hf
  with_reducible refine Eq.mp ?_ h
  kernel_rfl)
theorem ok_E_a45 : EnvOk Tryd.prog E_a45 := EnvOk.cons ok_E_a44 v_a45 (FnOk.of Tryd.func31 (c := body Tryd.f31) (by kernel_rfl) (by kernel_rfl))
theorem v_a46 : Valid Tryd.prog G0 19 s_a46 := valid_sigOf ok_E_a45 mixed p_a46 L_a46 Tryd.func19 (c := body Tryd.f19) (by kernel_rfl) (by
  rintro l hp hf
  have h := H_a46 l hp hf
  with_reducible refine Eq.mp ?_ h
  kernel_rfl)
theorem ok_E_a46 : EnvOk Tryd.prog E_a46 := EnvOk.cons ok_E_a45 v_a46 (FnOk.of Tryd.func19 (c := body Tryd.f19) (by kernel_rfl) (by kernel_rfl))
theorem v_a47 : Valid Tryd.prog G0 12 s_a47 := valid_sigOf ok_E_a46 mixed p_a47 L_a47 Tryd.func12 (c := body Tryd.f12) (by kernel_rfl) (by
  rintro ⟨a, b⟩ hp hf
  have h := H_a47 a b hp hf
  with_reducible refine Eq.mp ?_ h
  kernel_rfl)
theorem ok_E_a47 : EnvOk Tryd.prog E_a47 := EnvOk.cons ok_E_a46 v_a47 (FnOk.of Tryd.func12 (c := body Tryd.f12) (by kernel_rfl) (by kernel_rfl))
theorem v_a48 : Valid Tryd.prog G0 14 s_a48 := valid_sigOf ok_E_a47 mixed p_a48 L_a48 Tryd.func14 (c := body Tryd.f14) (by kernel_rfl) (by
  rintro d hp hf
  have h := H_a48 d hp hf
  with_reducible refine Eq.mp ?_ h
  kernel_rfl)
theorem ok_E_a48 : EnvOk Tryd.prog E_a48 := EnvOk.cons ok_E_a47 v_a48 (FnOk.of Tryd.func14 (c := body Tryd.f14) (by kernel_rfl) (by kernel_rfl))
theorem v_a49 : Valid Tryd.prog G0 6 s_a49 := valid_sigOf ok_E_a48 mixed p_a49 L_a49 Tryd.func6 (c := body Tryd.f6) (by kernel_rfl) (by
  rintro ⟨l1, l2, l3⟩ hp hf
  have h := H_a49 l1 l2 l3 hp hf
  with_reducible refine Eq.mp ?_ h
  kernel_rfl)
theorem ok_E_a49 : EnvOk Tryd.prog E_a49 := EnvOk.cons ok_E_a48 v_a49 (FnOk.of Tryd.func6 (c := body Tryd.f6) (by kernel_rfl) (by kernel_rfl))
theorem v_a50 : Valid Tryd.prog G0 7 s_a50 := valid_sigOf ok_E_a49 mixed p_a50 L_a50 Tryd.func7 (c := body Tryd.f7) (by kernel_rfl) (by
  rintro b hp hf
  have h := H_a50 b hp hf
  with_reducible refine Eq.mp ?_ h
  kernel_rfl)
theorem ok_E_a50 : EnvOk Tryd.prog E_a50 := EnvOk.cons ok_E_a49 v_a50 (FnOk.of Tryd.func7 (c := body Tryd.f7) (by kernel_rfl) (by kernel_rfl))
theorem v_a51 : Valid Tryd.prog G0 9 s_a51 := valid_sigOf ok_E_a50 mixed p_a51 L_a51 Tryd.func9 (c := body Tryd.f9) (by kernel_rfl) (by
  rintro d hp hf
  have h := H_a51 d hp hf
  with_reducible refine Eq.mp ?_ h
  kernel_rfl)
theorem ok_E_a51 : EnvOk Tryd.prog E_a51 := EnvOk.cons ok_E_a50 v_a51 (FnOk.of Tryd.func9 (c := body Tryd.f9) (by kernel_rfl) (by kernel_rfl))
theorem v_a52 : Valid Tryd.prog G0 10 s_a52 := valid_sigOf ok_E_a51 mixed p_a52 L_a52 Tryd.func10 (c := body Tryd.f10) (by kernel_rfl) (by
  rintro ⟨d, t⟩ hp hf
  have h := H_a52 d t hp hf
  with_reducible refine Eq.mp ?_ h
  kernel_rfl)
theorem ok_E_a52 : EnvOk Tryd.prog E_a52 := EnvOk.cons ok_E_a51 v_a52 (FnOk.of Tryd.func10 (c := body Tryd.f10) (by kernel_rfl) (by kernel_rfl))
theorem v_a53 : Valid Tryd.prog G0 13 s_a53 := valid_sigOf ok_E_a52 mixed p_a53 L_a53 Tryd.func13 (c := body Tryd.f13) (by kernel_rfl) (by
  rintro ⟨d, t⟩ hp hf
  have h := H_a53 d t hp hf
  with_reducible refine Eq.mp ?_ h
  kernel_rfl)
theorem ok_E_a53 : EnvOk Tryd.prog E_a53 := EnvOk.cons ok_E_a52 v_a53 (FnOk.of Tryd.func13 (c := body Tryd.f13) (by kernel_rfl) (by kernel_rfl))
theorem v_a54 : Valid Tryd.prog G0 11 s_a54 := Go.DM.make_valid v_a43 (fun _ => rfl) (fun _ _ _ => rfl)
theorem ok_E_a54 : EnvOk Tryd.prog E_a54 := EnvOk.cons ok_E_a53 v_a54 (FnOk.of Tryd.func11 (c := body Tryd.f11) (by kernel_rfl) (by kernel_rfl))
theorem v_a55 : Valid Tryd.prog G0 8 s_a55 := valid_sigOf ok_E_a54 mixed p_a55 L_a55 Tryd.func8 (c := body Tryd.f8) (by kernel_rfl) (by
  rintro d hp hf
  have h := H_a55 d hp hf
  with_reducible refine Eq.mp ?_ h
  kernel_rfl)
theorem ok_E_a55 : EnvOk Tryd.prog E_a55 := EnvOk.cons ok_E_a54 v_a55 (FnOk.of Tryd.func8 (c := body Tryd.f8) (by kernel_rfl) (by kernel_rfl))
theorem v_a56 : Valid Tryd.prog G0 5 s_a56 := valid_sigOf ok_E_a55 mixed p_a56 L_a56 Tryd.func5 (c := body Tryd.f5) (by kernel_rfl) (by
  rintro ⟨⟩ hp hf
  have h := H_a56  hp hf
  with_reducible refine Eq.mp ?_ h
  kernel_rfl)
theorem ok_E_a56 : EnvOk Tryd.prog E_a56 := EnvOk.cons ok_E_a55 v_a56 (FnOk.of Tryd.func5 (c := body Tryd.f5) (by kernel_rfl) (by kernel_rfl))
theorem v_a58 : Valid Tryd.prog G0 4 s_a58 := valid_sigOf ok_E_a56 mixed p_a58 L_a58 Tryd.func4 (c := body Tryd.f4) (by kernel_rfl) (by
  rintro ⟨d, s⟩ hp hf
  have h := H_a58 d s hp hf
  with_reducible refine Eq.mp ?_ h
  kernel_rfl)
end Go.J
end
section
set_option linter.unusedVariables false
namespace Go.Proofs.YtepaodgmfpbapaaDoor
open Go Go.Vg Go.ChangeShapes Go.WideShapes Go.ChangeAt Go.RowKit
theorem own : ownKnob Tryd.prog.godebug = none := by kernel_rfl
theorem laidOut : laidOutB Tryd.prog = true := by kernel_rfl
set_option maxRecDepth 100000 in
theorem laidG {W : World} (h : laidMet Tryd.prog [("rubrick/sha.begin", Rows.laid_rubrick_sha_begin), ("rubrick/sha.rounds", Rows.laid_rubrick_sha_rounds), ("rubrick/utf.letters", Rows.laid_rubrick_utf_letters), ("rubrick/utf.shifts", Rows.laid_rubrick_utf_shifts)] W) : ∀ i d, Go.J.G0 i = some d → LaidG W (fun b => b < W.heap.size) i d := by
  intro i d hd
  match i, hd with
  | 0, hd =>
    cases hd
    exact laid_rows (k := .i64) (zss := [[65, 90], [97, 122], [192, 214], [216, 246], [248, 255], [913, 929], [931, 937], [945, 969], [1024, 1119]]) h (.tail _ (.tail _ (.head _))) (by kernel_rfl) (by kernel_rfl) Tryd.underlying106 Tryd.underlying105 (by kernel_rfl) (by kernel_rfl) rfl (fun i f hf => by
      match i, hf with
      | 0, hf => cases hf; exact ⟨rfl, Tryd.underlying3, by kernel_rfl⟩
      | 1, hf => cases hf; exact ⟨rfl, Tryd.underlying3, by kernel_rfl⟩
      | i + 2, hf => simp at hf) (by decide) (by decide) (by simp [allOk, intsOk, lo, hi, Row.hd, Row.tl, DI.toInt])
  | 1, hd =>
    cases hd
    exact laid_ints (k := .u32) (zs := [1779033703, 3144134277, 1013904242, 2773480762, 1359893119, 2600822924, 528734635, 1541459225]) h (.head _) (by kernel_rfl) (by kernel_rfl) Tryd.underlying95 Tryd.underlying94 (by kernel_rfl) (by kernel_rfl) (by decide) (by simp [allOk, intsOk, lo, hi, Row.hd, Row.tl, DI.toInt])
  | 2, hd =>
    cases hd
    exact laid_rows (k := .i64) (zss := [[65, 90, 32], [192, 214, 32], [216, 222, 32], [913, 929, 32], [931, 937, 32], [1024, 1039, 80], [1040, 1071, 32]]) h (.tail _ (.tail _ (.tail _ (.head _)))) (by kernel_rfl) (by kernel_rfl) Tryd.underlying130 Tryd.underlying129 (by kernel_rfl) (by kernel_rfl) rfl (fun i f hf => by
      match i, hf with
      | 0, hf => cases hf; exact ⟨rfl, Tryd.underlying3, by kernel_rfl⟩
      | 1, hf => cases hf; exact ⟨rfl, Tryd.underlying3, by kernel_rfl⟩
      | 2, hf => cases hf; exact ⟨rfl, Tryd.underlying3, by kernel_rfl⟩
      | i + 3, hf => simp at hf) (by decide) (by decide) (by simp [allOk, intsOk, lo, hi, Row.hd, Row.tl, DI.toInt])
  | 3, hd =>
    cases hd
    exact laid_ints (k := .u32) (zs := [1116352408, 1899447441, 3049323471, 3921009573, 961987163, 1508970993, 2453635748, 2870763221, 3624381080, 310598401, 607225278, 1426881987, 1925078388, 2162078206, 2614888103, 3248222580, 3835390401, 4022224774, 264347078, 604807628, 770255983, 1249150122, 1555081692, 1996064986, 2554220882, 2821834349, 2952996808, 3210313671, 3336571891, 3584528711, 113926993, 338241895, 666307205, 773529912, 1294757372, 1396182291, 1695183700, 1986661051, 2177026350, 2456956037, 2730485921, 2820302411, 3259730800, 3345764771, 3516065817, 3600352804, 4094571909, 275423344, 430227734, 506948616, 659060556, 883997877, 958139571, 1322822218, 1537002063, 1747873779, 1955562222, 2024104815, 2227730452, 2361852424, 2428436474, 2756734187, 3204031479, 3329325298]) h (.tail _ (.head _)) (by kernel_rfl) (by kernel_rfl) Tryd.underlying142 Tryd.underlying94 (by kernel_rfl) (by kernel_rfl) (by decide) (by simp [allOk, intsOk, lo, hi, Row.hd, Row.tl, DI.toInt, S.K256])
  | _ + 4, hd => cases hd
def tab0 (w : World) (cs : Array Value) : World := { w with heap := w.heap.modify 0 fun
    | .cells _ t frozen => .cells cs t frozen
    | o => o }
def tab1 (w : World) (cs : Array Value) : World := { w with heap := w.heap.modify 1 fun
    | .cells _ t frozen => .cells cs t frozen
    | o => o }
def tab2 (w : World) (cs : Array Value) : World := { w with heap := w.heap.modify 2 fun
    | .cells _ t frozen => .cells cs t frozen
    | o => o }
def tab3 (w : World) (cs : Array Value) : World := { w with heap := w.heap.modify 3 fun
    | .cells _ t frozen => .cells cs t frozen
    | o => o }
noncomputable def laidWorld (os : Os) : World := tab3 (tab2 (tab1 (tab0 (World.holding Tryd.prog os ⟨#[], #[], []⟩) #[.int .i64 65, .int .i64 90, .int .i64 97, .int .i64 122, .int .i64 192, .int .i64 214, .int .i64 216, .int .i64 246, .int .i64 248, .int .i64 255, .int .i64 913, .int .i64 929, .int .i64 931, .int .i64 937, .int .i64 945, .int .i64 969, .int .i64 1024, .int .i64 1119]) #[.int .u32 1779033703, .int .u32 3144134277, .int .u32 1013904242, .int .u32 2773480762, .int .u32 1359893119, .int .u32 2600822924, .int .u32 528734635, .int .u32 1541459225]) #[.int .i64 65, .int .i64 90, .int .i64 32, .int .i64 192, .int .i64 214, .int .i64 32, .int .i64 216, .int .i64 222, .int .i64 32, .int .i64 913, .int .i64 929, .int .i64 32, .int .i64 931, .int .i64 937, .int .i64 32, .int .i64 1024, .int .i64 1039, .int .i64 80, .int .i64 1040, .int .i64 1071, .int .i64 32]) #[.int .u32 1116352408, .int .u32 1899447441, .int .u32 3049323471, .int .u32 3921009573, .int .u32 961987163, .int .u32 1508970993, .int .u32 2453635748, .int .u32 2870763221, .int .u32 3624381080, .int .u32 310598401, .int .u32 607225278, .int .u32 1426881987, .int .u32 1925078388, .int .u32 2162078206, .int .u32 2614888103, .int .u32 3248222580, .int .u32 3835390401, .int .u32 4022224774, .int .u32 264347078, .int .u32 604807628, .int .u32 770255983, .int .u32 1249150122, .int .u32 1555081692, .int .u32 1996064986, .int .u32 2554220882, .int .u32 2821834349, .int .u32 2952996808, .int .u32 3210313671, .int .u32 3336571891, .int .u32 3584528711, .int .u32 113926993, .int .u32 338241895, .int .u32 666307205, .int .u32 773529912, .int .u32 1294757372, .int .u32 1396182291, .int .u32 1695183700, .int .u32 1986661051, .int .u32 2177026350, .int .u32 2456956037, .int .u32 2730485921, .int .u32 2820302411, .int .u32 3259730800, .int .u32 3345764771, .int .u32 3516065817, .int .u32 3600352804, .int .u32 4094571909, .int .u32 275423344, .int .u32 430227734, .int .u32 506948616, .int .u32 659060556, .int .u32 883997877, .int .u32 958139571, .int .u32 1322822218, .int .u32 1537002063, .int .u32 1747873779, .int .u32 1955562222, .int .u32 2024104815, .int .u32 2227730452, .int .u32 2361852424, .int .u32 2428436474, .int .u32 2756734187, .int .u32 3204031479, .int .u32 3329325298]
theorem dictBetween_valid : Valid Tryd.prog Go.J.G0 4 (sigOf Go.J.p_a58 fun _ => (True, .bool true, [])) := Go.J.v_a58
theorem dictBetween_laid_met (os : Os) : laidMet Tryd.prog Rows.dictBetweenRow.laid ((laidWorld os).forCall (fun _ _ => 0) ⟨#[], #[.slice none 0 0, .string ⟨#[]⟩], []⟩).memory :=
  laidMet_of_run' 8 (by kernel_rfl) (by kernel_rfl)
theorem dictBetween_reads (os : Os) {H : Type} (enc : TypeId × Value → H) : ∃ places, DataW.whole enc Tryd.prog ((laidWorld os).forCall (fun _ _ => 0) ⟨#[], #[.slice none 0 0, .string ⟨#[]⟩], []⟩).memory Tryd.f4.params.toList Rows.dictBetweenSpec.vars false (#[.slice none 0 0, .string ⟨#[]⟩] : Array Value).toList 8 = some ([.nil, .lit (.string [])], [], places) :=
  ⟨[], by kernel_rfl⟩
set_option maxRecDepth 100000 in
theorem dictBetween_lifted (os : Os) (started : os.Started) (H : Type) (enc : TypeId × Value → H) (F : Stop.Interp) :
    ReturnsInHanded {} Tryd.checked os 4 .any ((OpenSpec.ofChange Rows.dictBetweenSpec).preRow enc Tryd.prog Tryd.f4 Rows.dictBetweenRow.domain false Rows.dictBetweenRow.laid) (((OpenSpec.ofChange Rows.dictBetweenSpec).at F).post enc Tryd.prog Tryd.f4 false true false false) := by
  obtain ⟨places, hx⟩ := dictBetween_reads os enc
  refine returnsInHanded_of_row (C := Tryd.checked) (s := OpenSpec.ofChange Rows.dictBetweenSpec) own started (by kernel_rfl) Tryd.func4
    (witness_row_at (enc := enc) (C := Tryd.checked) false (laidWorld os) #[.slice none 0 0, .string ⟨#[]⟩] rfl (by kernel_rfl) (by kernel_rfl) (by kernel_rfl)
      (OpenSpec.preRow_of_cond 8 hx (by kernel_rfl) (fun k hk => by cases hk) (by kernel_rfl) (dictBetween_laid_met os))) ?_
  intro W base args ds gs before hval hW _ _ _ hL _ _
  refine law_contract (s := Rows.dictBetweenSpec) (TabOk.of tab_ok) laidOut dictBetween_valid (show PS.ofs tab Tryd.f4.params.toList = _ by kernel_rfl) (by kernel_rfl) (show Tryd.f4.resultTypes = #[4] by kernel_rfl) Tryd.underlying4 rfl ?_ (laidG hL) hval hW
  intro H ds hds
  have hn : Tryd.f4.params.toList.length = 2 := by kernel_rfl
  rw [hn] at hds
  match ds, hds with
  | [d0, d1], _ => rfl
theorem dictBetween_said : Rows.DictBetweenSaid :=
  OpenClaim.holds_of_cond 4 Tryd.f4 rfl rfl rfl rfl rfl rfl rfl ⟨rfl, rfl, rfl, rfl, rfl⟩ rfl rfl rfl rfl rfl (by kernel_rfl) Tryd.func4 (by kernel_rfl)
    (of_decide_eq_true (by kernel_rfl)) (by unfold Func.isWrapper; first | (rw [if_pos (by decide +kernel)]; kernel_rfl) | (rw [if_neg (by decide +kernel)]; exact ⟨rfl, rfl⟩))
    (fun os started H enc _ F => by rw [OpenClaim.pre_eq_preRow]; exact dictBetween_lifted os started H enc F)
theorem dictBetween_plain (f : FuncId) (fn : Func) (hf : Tryd.pinned.checked.prog.funcNamed "rubrick/rubricklaw10.DictBetween" = some f) (hfn : Tryd.pinned.checked.prog.funcs[f]? = some fn) :
    false = Tryd.pinned.checked.prog.looks [] ∧ ∀ (j : Nat) t, fn.params[j]? = some t → Tryd.pinned.checked.prog.wantsStandIn t = false := by
  obtain rfl : f = 4 := Option.some.inj ((show Tryd.prog.funcNamed "rubrick/rubricklaw10.DictBetween" = some 4 by kernel_rfl).symm.trans hf) |>.symm
  obtain rfl : fn = Tryd.f4 := (Option.some.inj (Tryd.func4.symm.trans hfn)).symm
  refine ⟨by kernel_rfl, fun j t ht => ?_⟩
  have h1 : (Tryd.f4.params.toList.all fun t => !Tryd.prog.wantsStandIn t) = true := by kernel_rfl
  have h2 := List.all_eq_true.1 h1 t (by simpa using Array.mem_of_getElem? ht)
  have h3 : Tryd.prog.wantsStandIn t = false := by simpa using h2
  exact h3
theorem dictBetween_card : Rows.DictBetweenCardSaid :=
  Claim7.holds_tied_plain_at .later [] _ _ _ _ dictBetween_said (fun _ h => by cases h) (by kernel_rfl) (fun _ h => by cases h) dictBetween_row_tie rfl ⟨rfl, rfl⟩ (by kernel_rfl) rfl dictBetween_plain (by kernel_rfl)
#print axioms dictBetween_card
end Go.Proofs.YtepaodgmfpbapaaDoor
end
