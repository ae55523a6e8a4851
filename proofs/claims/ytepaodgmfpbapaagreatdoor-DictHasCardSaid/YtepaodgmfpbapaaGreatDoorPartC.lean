import Derived.Test.YtepaodgmfpbapaaGreatDoorPartB
import Derived.WalkKit
import Derived.ProofKit
import Derived.OpenShut
import Derived.SizedLaws
set_option linter.unusedVariables false
set_option linter.unusedSimpArgs false
section
namespace Go.Vg
open Go
section
variable {P : Program} {C : Ctx} {E : Env} {A A' : Nat → Prop} {β β' : Nat → Value} {st : St} {a : Act} {w : World} {T : Tab}
theorem keyed_all : Keyed (fun _ => true) [] β β' := ⟨fun K k h => (by cases h), fun K h => (by cases h), fun K _ h => (by cases h), fun K h => (by cases h)⟩
def resGet (tmps : Array Value) : ResultVar → Sem Value
  | .tmp t => pure (tmps.getD t undef)
  | .cell x t => do loadVar t (← asAddr (tmps.getD x undef))
theorem results_eq (fn : Func) (tmps : Array Value) : results fn tmps = (do
    let vs ← fn.results.mapM (resGet tmps)
    pure (if h : vs.size = 1 then vs[0] else .tuple vs)) := by
  unfold results
  congr
theorem parts_sound (hT : TabOk T P) (hB : RelB C A β st a w) : ∀ (rs : List ResultVar) (as_ : List AV), resParts T st rs = some as_ →
    ∃ vs, (rs.mapM (resGet a.tmps)).run P w = .ok vs w ∧ AVrels w A β vs as_
  | [], as_, h => by
    simp only [resParts, Option.some.injEq] at h
    subst h
    exact ⟨[], by simp, by simp [AVrels]⟩
  | .tmp t :: rs, as_, h => by
    simp only [resParts] at h
    split at h
    · rename_i l hl
      simp only [Option.some.injEq] at h
      subst h
      obtain ⟨vs, h1, h2⟩ := parts_sound hT hB rs l hl
      refine ⟨a.tmps.getD t undef :: vs, ?_, ?_⟩
      · simp only [List.mapM_cons, resGet, Sem.run_bind, Sem.run_pure, Result.andThen_ok, h1]
      · simp only [AVrels]
        exact ⟨_, _, rfl, hB.tmps t, h2⟩
    · cases h
  | .cell x t :: rs, as_, h => by
    simp only [resParts] at h
    split at h
    · rename_i k off hk
      split at h
      · rename_i out l ho hl
        simp only [Option.some.injEq] at h
        subst h
        obtain ⟨vs, h1, h2⟩ := parts_sound hT hB rs l hl
        have hx := hB.tmps x
        rw [hk] at hx
        have hcond : out.cond = [] := by
          simp only [actLoad] at ho
          split at ho
          · split at ho
            · simp only [Option.some.injEq] at ho; subst ho; rfl
            · cases ho
          · cases ho
        obtain ⟨_, v, g1, g2⟩ := sound_load hT hB hx ho (by rw [hcond]; intro p hp; cases hp)
        simp only [AVrel] at hx
        obtain ⟨b, hb1, hb2⟩ := hx
        refine ⟨v :: vs, ?_, ?_⟩
        · rw [hb2] at g1
          simp only [Instr.loadAt, Instr.sureAddr, Sem.run_bind, Sem.run_pure, Result.andThen_ok] at g1
          have ha : (asAddr (a.tmps.getD x undef)).run P w = .ok ⟨b, off, none⟩ w := by simp only [hb2, asAddr, Sem.run_pure]
          simp only [List.mapM_cons, resGet, Sem.run_bind, ha, Sem.run_pure, Result.andThen_ok, g1, h1]
        · simp only [AVrels]
          exact ⟨_, _, rfl, g2, h2⟩
      · cases h
    · cases h
theorem RdL_pts {α : Type} {R : List Value → α → Prop} : ∀ (xs : List Value) (l : List α), xs.length = l.length → (∀ (i : Nat) (v : Value) (x : α), xs[i]? = some v → l[i]? = some x → R [v] x) → RdL R xs l
  | [], [], _, _ => by simp [RdL]
  | v :: xs, x :: l, hl, h => by
    simp only [RdL]
    exact ⟨[v], xs, rfl, h 0 v x rfl rfl, RdL_pts xs l (by simpa using hl) fun i v x h1 h2 => h (i + 1) v x (by simpa using h1) (by simpa using h2)⟩
  | [], _ :: _, hl, _ => by simp at hl
  | _ :: _, [], hl, _ => by simp at hl
theorem gridM_sound (hB : RelB C A β st a w) (hA : ∀ b, A b → A' b) (r : List Ty) (l : List (Row r)) (k : Nat) (v : Value) (h : ∀ p ∈ (gridM st.h r l k).1, p) (hF : ∀ k' ∈ (gridM st.h r l k).2, ∀ b, blkOf (β k') = some b → A' b)
    (hr : AVrel w A β v (.own k)) : AVrel w A' β' v (.sl r l) ∧ ∀ k' ∈ (gridM st.h r l k).2, (st.h k').isSome := by
  generalize he : gridM st.h r l k = g at h hF ⊢
  unfold gridM at he
  split at he
  · rename_i e j n m sz hk
    split at he
    · rename_i e2 row2 bytes fr hj
      cases hb : Nat.beq row2.length 1 with
      | false => rw [hb] at he; subst he; exact (one_mem h).elim
      | true =>
        rw [hb] at he
        have hr2 := Nat.eq_of_beq_eq_true hb
        simp only [cond_true] at he
        split at he
        · rename_i g' hg
          subst he
          obtain ⟨er, hge⟩ := castL_inv hg
          subst er
          subst hge
          have hmn : m = n := h _ (List.mem_cons_self ..)
          have hgl : gridOf sz n bytes = l := h _ (List.mem_cons_of_mem _ (List.mem_cons_self ..))
          subst hmn; subst hgl
          have hFk : ∀ b, blkOf (β k) = some b → A' b := hF k (by simp)
          have hFj : ∀ b, blkOf (β j) = some b → A' b := hF j (by simp)
          refine ⟨?_, fun k' hk' => ?_⟩
          · simp only [AVrel] at hr
            obtain ⟨rfl, _⟩ := hr
            have hlen : (gridOf sz m bytes).length = m := by simp [gridOf]
            simp only [AVrel, Rd]
            rcases views_row hB hk with ⟨h1, h2⟩ | ⟨b, cap, cur, h1, h2, h3, h4, h5, h6, h7⟩
            · subst h2
              exact ⟨none, 0, [], by rw [h1]; simp [gridOf], by simp [gridOf], by simp, by simp [gridOf, RdL], by simp⟩
            · refine ⟨_, cap, cur.toList.take m, by rw [h1, hlen], by rw [hlen]; exact h3, h4, ?_, fun _ => ⟨b, 0, rfl, hFk b (by rw [h1]; rfl), ?_⟩⟩
              · refine RdL_pts _ _ (by rw [hlen, List.length_take]; simp; omega) fun i u x hu hx => ?_
                have hi : i < m := by
                  have := (List.getElem?_eq_some_iff.1 hx).1
                  omega
                obtain ⟨v', e1, e3⟩ := h7 j rfl i hi
                rw [hu] at e1
                simp only [Option.some.injEq] at e1
                subst e1
                have hx' : x = (bytes.drop (i * sz)).take sz := by
                  simp only [gridOf, List.getElem?_map, List.getElem?_range hi, Option.map_some, Option.some.injEq] at hx
                  exact hx.symm
                have hp := (pur1_rel (A' := A') hB e3 hA (fun q hq => by
                  have hq' := pur1_keys _ q hq
                  simp only [keysAV, List.mem_singleton] at hq'
                  subst hq'
                  exact hFj)).1
                simp only [pur1, hj, hr2, nbeq_true, cond_true, AVrel] at hp
                simp only [RdV]
                refine ⟨u, [], rfl, ?_, rfl⟩
                rw [hx']
                exact hp
              · intro q u hq
                rw [List.getElem?_take] at hq
                split at hq
                · simp [World.cell?, h2]; simpa using hq
                · cases hq
          · simp only [List.mem_cons, List.not_mem_nil, or_false] at hk'
            rcases hk' with rfl | rfl
            · simp [hk]
            · simp [hj]
        · subst he; exact (one_mem h).elim
    · subst he; exact (one_mem h).elim
  · subst he
    obtain ⟨g1, g2⟩ := pur1_rel hB hr hA hF
    exact ⟨avm_sound keyed_all _ _ _ h g1, fun k hk => by obtain ⟨e, row, l, fr, hr⟩ := g2 k hk; simp [hr]⟩
mutual
theorem resM_sound (hB : RelB C A β st a w) {s : List (Nat × Option Nat)} (hA : ∀ b, A b → A' b) (h1 : ∀ i k, lookK s i = some (some k) → β' i = β k) (h2 : ∀ i, lookK s i = some none → β' i = nilV) : ∀ (x y : AV) (v : Value),
    (∀ p ∈ (resM st.h s x y).1, p) → (∀ k ∈ (resM st.h s x y).2, ∀ b, blkOf (β k) = some b → A' b) → AVrel w A β v y → AVrel w A' β' v x ∧ ∀ k ∈ (resM st.h s x y).2, (st.h k).isSome
  | x, y, v, h, hF, hr => by
    generalize he : resM st.h s x y = r at h hF ⊢
    unfold resM at he
    split at he
    · rename_i i k
      subst he
      simp only at h hF ⊢
      refine ⟨?_, fun k hk => (by cases hk)⟩
      simp only [AVrel] at hr ⊢
      split at h
      · rename_i j hj
        cases hb : Nat.beq k j with
        | false => rw [hb] at h; exact (one_mem h).elim
        | true =>
          have := Nat.eq_of_beq_eq_true hb
          subst this
          rw [h1 i k hj]; exact hr
      · exact (one_mem h).elim
    · rename_i i
      subst he
      simp only at h hF ⊢
      refine ⟨?_, fun k hk => (by cases hk)⟩
      simp only [AVrel] at hr ⊢
      split at h
      · rename_i hj
        rw [h2 i hj]
        subst hr
        exact ⟨rfl, rfl⟩
      · exact (one_mem h).elim
    · rename_i r0 l0 k
      subst he
      exact gridM_sound hB hA r0 l0 k v h hF hr
    · rename_i xs ys
      subst he
      simp only [AVrel] at hr ⊢
      obtain ⟨arr, e1, e2⟩ := hr
      obtain ⟨g1, g2⟩ := resMs_sound hB hA h1 h2 xs ys _ h hF e2
      exact ⟨⟨arr, e1, g1⟩, g2⟩
    · rename_i xs ys
      subst he
      simp only [AVrel] at hr ⊢
      obtain ⟨arr, e1, e2⟩ := hr
      obtain ⟨g1, g2⟩ := resMs_sound hB hA h1 h2 xs ys _ h hF e2
      exact ⟨⟨arr, e1, g1⟩, g2⟩
    · subst he
      obtain ⟨g1, g2⟩ := pur1_rel hB hr hA hF
      exact ⟨avm_sound keyed_all _ _ _ h g1, fun k hk => by obtain ⟨e, row, l, fr, hr⟩ := g2 k hk; simp [hr]⟩
theorem resMs_sound (hB : RelB C A β st a w) {s : List (Nat × Option Nat)} (hA : ∀ b, A b → A' b) (h1 : ∀ i k, lookK s i = some (some k) → β' i = β k) (h2 : ∀ i, lookK s i = some none → β' i = nilV) : ∀ (xs ys : List AV) (vs : List Value),
    (∀ p ∈ (resMs st.h s xs ys).1, p) → (∀ k ∈ (resMs st.h s xs ys).2, ∀ b, blkOf (β k) = some b → A' b) → AVrels w A β vs ys → AVrels w A' β' vs xs ∧ ∀ k ∈ (resMs st.h s xs ys).2, (st.h k).isSome
  | [], [], vs, _, _, hr => by
    simp only [AVrels] at hr ⊢
    exact ⟨hr, fun k hk => by simp [resMs] at hk⟩
  | x :: xs, y :: ys, vs, h, hF, hr => by
    simp only [resMs] at h hF ⊢
    obtain ⟨g1, g2⟩ := conj_append h
    simp only [AVrels] at hr ⊢
    obtain ⟨v, vs', e, r1, r2⟩ := hr
    obtain ⟨q1, q2⟩ := resM_sound hB hA h1 h2 x y v g1 (fun k hk => hF k (List.mem_append_left _ hk)) r1
    obtain ⟨q3, q4⟩ := resMs_sound hB hA h1 h2 xs ys vs' g2 (fun k hk => hF k (List.mem_append_right _ hk)) r2
    refine ⟨⟨v, vs', e, q1, q3⟩, fun k hk => ?_⟩
    rcases List.mem_append.1 hk with hk | hk
    · exact q2 k hk
    · exact q4 k hk
  | [], _ :: _, vs, h, _, _ => by simp only [resMs] at h; exact (one_mem h).elim
  | _ :: _, [], vs, h, _, _ => by simp only [resMs] at h; exact (one_mem h).elim
end
def rowC (h : Heap) (s : List (Nat × Option Nat)) (i : Nat) (b : AB) : List Prop := match lookK s i with
  | some (some k) => abm s (fun _ => true) (h k) b
  | some none => match b with
    | .row _ _ l false => [[] = l]
    | _ => [False]
  | none => [False]
theorem rowsM_mem {h : Heap} {s : List (Nat × Option Nat)} : ∀ (bs : List AB) (i j : Nat) (b : AB), bs[j]? = some b → ∀ p ∈ rowC h s (i + j) b, p ∈ rowsM h s i bs
  | b0 :: bs, i, 0, b, hb, p, hp => by
    simp only [List.getElem?_cons_zero, Option.some.injEq] at hb
    subst hb
    simp only [rowsM, List.mem_append]
    exact .inl hp
  | b0 :: bs, i, j + 1, b, hb, p, hp => by
    simp only [rowsM, List.mem_append]
    refine .inr (rowsM_mem bs (i + 1) j b (by simpa using hb) p ?_)
    rw [show i + 1 + j = i + (j + 1) by omega]; exact hp
theorem RelB.init {G : Nat → Option GD} {args : List Value} {avs : List AV} {n : Nat} (hA : ∀ b, A b → b < w.heap.size) (hG : ∀ i d, G i = some d → LaidG w A i d) (hr : AVrels w A β args avs) (hn : avs.length ≤ n) :
    RelB ⟨w, A, fun _ => False, G, β⟩ A β (St.init G n avs) { tmps := args.toArray ++ Array.replicate (n - args.toArray.size) undef, defers := [] } w := by
  have hlen := AVrels_length avs args hr
  have hget : ∀ (as_ : List AV) (vs : List Value) (i : Nat), AVrels w A β vs as_ → AVrel w A β (vs.getD i undef) (as_.getD i .undef) := by
    intro as_
    induction as_ with
    | nil => intro vs i h; simp only [AVrels] at h; subst h; simp [AVrel]
    | cons x as_ ih =>
      intro vs i h
      simp only [AVrels] at h
      obtain ⟨v, vs', rfl, h1, h2⟩ := h
      cases i with
      | zero => simpa using h1
      | succ i => simpa using ih vs' i h2
  refine ⟨rfl, ?_, fun i => ?_, fun k ab h => (by cases h), fun k k' b h => (by cases h), hA, ⟨rfl, rfl, rfl, Nat.le_refl _, fun b _ _ => rfl⟩, fun b _ h => .inl h, fun b h => h, fun k b h => (by cases h), fun i d h => h, hG, fun k _ => rfl⟩
  · simp [St.init]; omega
  · have := hget avs args i hr
    show AVrel w A β _ (avs.getD i .undef)
    have e : (args.toArray ++ Array.replicate (n - args.toArray.size) undef).getD i undef = args.getD i undef := by
      rw [Array.getD_eq_getD_getElem?]
      by_cases hi : i < args.length
      · rw [Array.getElem?_append_left (by simpa using hi)]
        simp [List.getD]
      · rw [Array.getElem?_append_right (by simpa using hi)]
        simp only [Array.getElem?_replicate, List.getD, List.getElem?_eq_none (Nat.not_lt.1 hi)]
        split <;> rfl
    rw [e]; exact this
theorem ret_sound (hT : TabOk T P) {fn : Func} {w0 : World} {A0 : Nat → Prop} {G : Nat → Option GD} {β0 : Nat → Value} (hB : RelB ⟨w0, A0, fun _ => False, G, β0⟩ A β st a w) {want : AV} {bs : List AB} (h : retM T st fn.results.toList want bs) :
    ∃ v, (results fn a.tmps).run P w = .ok v w ∧ ∃ A' β', CallPost w0 A0 w v want bs A' β' := by
  unfold retM at h
  split at h
  · exact h.elim
  · rename_i as_ has
    cases hq : (nodupB (srcKeys (srcAll st.h want (resOf as_) bs)) && ((resM st.h (srcAll st.h want (resOf as_) bs) want (resOf as_)).2.all fun k => !hmem (srcKeys (srcAll st.h want (resOf as_) bs)) k) && viewsOk bs.length bs) with
    | false => rw [hq] at h; exact h.elim
    | true =>
      rw [hq] at h
      simp only [cond_true] at h
      simp only [Bool.and_eq_true, List.all_eq_true] at hq
      obtain ⟨⟨q1, q2⟩, q3⟩ := hq
      obtain ⟨c1, c2⟩ := conj_append (conj_all _ h)
      generalize hs : srcAll st.h want (resOf as_) bs = s at *
      obtain ⟨vs, p1, p2⟩ := parts_sound hT hB fn.results.toList as_ has
      have hv : ∃ v, (results fn a.tmps).run P w = .ok v w ∧ AVrel w A β v (resOf as_) := by
        have hl := AVrels_length as_ vs p2
        refine ⟨if h : vs.toArray.size = 1 then vs.toArray[0] else .tuple vs.toArray, ?_, ?_⟩
        · rw [results_eq, Array.mapM_eq_mapM_toList]
          simp only [Sem.run_bind, map_eq_pure_bind, p1, Result.andThen_ok, Sem.run_pure]
        · match as_, vs, hl, p2 with
          | [x], [v], _, p2 =>
            simp only [AVrels] at p2
            obtain ⟨v', vs', e, g1, _⟩ := p2
            simp only [List.cons.injEq] at e
            rw [e.1]
            simpa [resOf] using g1
          | [], [], _, p2 =>
            simp only [resOf]
            simp [AVrel, AVrels]
          | x :: y :: l, v :: u :: m, _, p2 =>
            have hne : ¬ (v :: u :: m).toArray.size = 1 := by simp
            rw [dif_neg hne]
            simp only [resOf, AVrel]
            exact ⟨_, rfl, by simpa using p2⟩
      obtain ⟨v, hv1, hv2⟩ := hv
      let F := (resM st.h s want (resOf as_)).2
      let β2 : Nat → Value := fun i => match lookK s i with
        | some (some k) => β k
        | _ => nilV
      obtain ⟨r1, r2⟩ := resM_sound (A' := frozenA A β F) (β' := β2) hB (fun b hb => .inl hb) (fun i k hk => by simp only [β2, hk]) (fun i hk => by simp only [β2, hk]) want (resOf as_) v c1 (fun k hk b hb => .inr ⟨k, hk, hb⟩) hv2
      have hK : Keeps w w A (frozenA A β F) := fun b hb => ⟨.inl hb, rfl⟩
      have hrow : ∀ i ab, bs[i]? = some ab → BR w (frozenA A β F) β2 i ab ∧ (β2 i = nilV ∨ ∃ k, lookK s i = some (some k) ∧ β2 i = β k ∧ (st.h k).isSome) := by
        intro i ab hi
        have hc : ∀ p ∈ rowC st.h s i ab, p := fun p hp => c2 p (rowsM_mem bs 0 i ab hi p (by rw [Nat.zero_add]; exact hp))
        unfold rowC at hc
        have hkeyed : Keyed (fun _ => true) s β β2 := ⟨fun K k h => by simp only [β2, h], fun K h => by simp only [β2, h], fun K _ h => (by cases h), fun K h => (by cases h)⟩
        have hfin : ∀ k c, lookK s i = some (some k) → st.h k = some c → BR w A β2 i ab → BR w (frozenA A β F) β2 i ab := by
          intro k c hk hc' hbr
          have hβ2 : β2 i = β k := by simp only [β2, hk]
          have hno : ∀ b, blkOf (β2 i) = some b → ¬ A b → ¬ frozenA A β F b := by
            rintro b hb hnA (hAb | ⟨j, hj, hjb⟩)
            · exact hnA hAb
            · rw [hβ2] at hb
              have : j = k := hB.apart j k b (r2 j hj) (by simp [hc']) hjb hb
              subst this
              have hnk := q2 j hj
              rw [Bool.not_eq_true'] at hnk
              exact hmem_false.1 hnk (srcKeys_mem s i j hk)
          rcases viewsOk_get bs i ab q3 hi with ⟨e, row, l, rfl⟩ | ⟨e, j, n, m, sz, rfl, _⟩
          · obtain ⟨xs, x1, x2, x3⟩ := hbr
            refine ⟨xs, x1, RdL_mono (fun c x hx => RdV_mono hK row c x hx) l xs x2, fun b hb => ?_⟩
            have := x3 b hb
            simp only [Bool.false_eq_true, if_false] at this ⊢
            exact hno b hb this
          · obtain ⟨xs, x1, x2, x3⟩ := hbr
            refine ⟨xs, x1, fun b hb => hno b hb (x2 b hb), fun j' hj' i' hi' => ?_⟩
            obtain ⟨v, e1, e2⟩ := x3 j' hj' i' hi'
            exact ⟨v, e1, view_β rfl e2⟩
        split at hc
        · rename_i k hk
          obtain ⟨c, hc'⟩ := abm_live hc
          rw [hc'] at hc
          have hβ2 : β2 i = β k := by simp only [β2, hk]
          have hbr := abm_sound (β' := β2) hkeyed hβ2 hc (hB.blocks k c hc')
          exact ⟨hfin k c hk hc' hbr, .inr ⟨k, hk, hβ2, by simp [hc']⟩⟩
        · rename_i hk
          have hβ2 : β2 i = nilV := by simp only [β2, hk]
          split at hc
          · exact ⟨BR_nil hβ2 (one_mem hc), .inl hβ2⟩
          · exact (one_mem hc).elim
        · exact (one_mem hc).elim
      have hlive : ∀ i ab b, bs[i]? = some ab → blkOf (β2 i) = some b → ∃ k, lookK s i = some (some k) ∧ blkOf (β k) = some b ∧ (st.h k).isSome := by
        intro i ab b hi hb
        rcases (hrow i ab hi).2 with hn | ⟨k, h1, h2, h3⟩
        · rw [hn] at hb; simp [nilV, blkOf] at hb
        · exact ⟨k, h1, by rw [← h2]; exact hb, h3⟩
      refine ⟨v, hv1, frozenA A β F, β2, ⟨hB.frame.os, hB.frame.tape, hB.frame.output, hB.frame.size, fun b hb => hB.frame.block b hb (fun h => h), fun b hb => .inl (hB.base b hb), fun b hb hA' => ?_, fun b hb => ?_, r1, fun i ab hi => ⟨(hrow i ab hi).1, fun b hb => ?_⟩, fun i j b hi hj hb hb' => ?_⟩⟩
      · rcases hA' with hA' | ⟨j, hj, hjb⟩
        · rcases hB.old b hb hA' with h | h
          · exact h
          · exact h.elim
        · rcases hB.mine j b (r2 j hj) hjb with h | h
          · exact absurd hb (Nat.not_lt.2 h)
          · exact h.elim
      · rcases hb with hb | ⟨j, hj, hjb⟩
        · exact hB.bound b hb
        · exact live_lt hB (r2 j hj) hjb
      · obtain ⟨k, _, g2, g3⟩ := hlive i ab b hi hb
        rcases hB.mine k b g3 g2 with h | h
        · exact h
        · exact h.elim
      · obtain ⟨x, hx⟩ : ∃ x, bs[i]? = some x := ⟨_, List.getElem?_eq_getElem hi⟩
        obtain ⟨y, hy⟩ : ∃ y, bs[j]? = some y := ⟨_, List.getElem?_eq_getElem hj⟩
        obtain ⟨k, g1, g2, g3⟩ := hlive i x b hx hb
        obtain ⟨k', g1', g2', g3'⟩ := hlive j y b hy hb'
        have : k = k' := hB.apart k k' b g3 g3' g2 g2'
        subst this
        exact lookK_inj s q1 i j k g1 g1'
theorem valid_of_vc (hE : EnvOk P E) (hm : P.follows .mixedOrders = true) {f : FuncId} {fn : Func} {c : Code} {s : Sig} (L : List AV → Nat → Option LoopAnn) (hf : P.funcs[f]? = some fn) (hb : fn.body = some c)
    (h : ∀ avs pre res bs, s avs = some (pre, res, bs) → pre → vcFn E (L avs) c fn.ntmps fn.results.toList avs res bs) : Valid P E.glob f s := by
  intro w A β args avs pre res bs hA hG hargs hs hp
  have hvc := h avs pre res bs hs hp
  unfold vcFn at hvc
  cases hn : Nat.ble avs.length fn.ntmps with
  | false => rw [hn] at hvc; exact hvc.elim
  | true =>
    rw [hn] at hvc
    refine calls_of_wp hf hb (vcg_sound (C := ⟨w, A, fun _ => False, E.glob, β⟩) ⟨hE, rfl⟩ hm c _ _ _ w _ hvc ⟨A, β, RelB.init hA hG hargs (Nat.le_of_ble_eq_true hn)⟩ ?_)
    intro e st' a' w' hk _ hR
    obtain ⟨A', β', hB⟩ := hR
    have key : retM E.T st' fn.results.toList res bs → bodyPost P fn (fun e w' => ∃ v, e = .returned v ∧ ∃ A' β', CallPost w A w' v res bs A' β') .ret a' w' := by
      intro hk
      obtain ⟨v, h1, A2, β2, h2⟩ := ret_sound hE.tab hB hk
      exact ⟨hB.defers, v, h1, v, rfl, A2, β2, h2⟩
    cases e with
    | norm => exact key hk
    | ret => exact key hk
    | exit i => exact hk.elim
end
end Go.Vg
end
section
namespace Go.Vg
open Go
@[reducible] def nilL (α : Type) : List α := []
mutual
def D.ok : (t : Ty) → D t → Prop
  | .int k, x => lo k ≤ DI.toInt k x ∧ DI.toInt k x ≤ hi k
  | .bool, _ => True
  | .str, s => s.length ≤ 9223372036854775807
  | .slice row, l => l.length ≤ 9223372036854775807 ∧ ∀ x, x ∈ l → Row.ok row x
def Row.ok : (ts : List Ty) → Row ts → Prop
  | [], _ => True
  | t :: ts, x => D.ok t (Row.hd x) ∧ Row.ok ts (Row.tl x)
end
mutual
def AV.facts : AV → Prop
  | .int k n => lo k ≤ n ∧ n ≤ hi k
  | .str s => s.length ≤ 9223372036854775807
  | .sl row l => D.ok (.slice row) l
  | .full row l => D.ok (.slice row) l
  | .agg cs => factsL cs
  | .tup cs => factsL cs
  | _ => True
def factsL : List AV → Prop
  | [] => True
  | a :: as_ => a.facts ∧ factsL as_
end
section
variable {P : Program} {E : Env} {w : World} {A : Nat → Prop} {β : Nat → Value}
theorem RdL_ok {α : Type} {R : List Value → α → Prop} {p : α → Prop} (h : ∀ c x, R c x → p x) : ∀ (l : List α) (cs : List Value), RdL R cs l → ∀ x, x ∈ l → p x
  | [], _, _, x, hx => by cases hx
  | y :: l, _, ⟨c1, c2, hc, h1, h2⟩, x, hx => by
    rcases List.mem_cons.1 hx with rfl | hx
    · exact h _ _ h1
    · exact RdL_ok h l c2 h2 x hx
mutual
theorem Rd_ok : ∀ (t : Ty) (v : Value) (x : D t), Rd w A t v x → D.ok t x
  | .int k, v, x, h => by simp only [Rd] at h; simp only [D.ok]; exact h.2
  | .bool, v, x, h => by simp only [D.ok]
  | .str, v, s, h => by simp only [Rd] at h; simp only [D.ok]; exact h.2
  | .slice row, v, l, h => by
    simp only [Rd] at h
    obtain ⟨a, cap, cs, h1, h2, h3, h4, h5⟩ := h
    simp only [D.ok]
    exact ⟨Nat.le_trans h2 h3, RdL_ok (fun c x hx => RdV_ok row c x hx) l cs h4⟩
theorem RdV_ok : ∀ (ts : List Ty) (vs : List Value) (x : Row ts), RdV w A ts vs x → Row.ok ts x
  | [], vs, x, h => by simp only [Row.ok]
  | t :: ts, vs, x, h => by
    simp only [RdV] at h
    obtain ⟨v, vs', h1, h2, h3⟩ := h
    simp only [Row.ok]
    exact ⟨Rd_ok t v _ h2, RdV_ok ts vs' _ h3⟩
end
mutual
theorem AVrel_facts : ∀ (a : AV) (v : Value), AVrel w A β v a → a.facts
  | .int k n, v, h => by simp only [AVrel] at h; simp only [AV.facts]; exact h.2
  | .str s, v, h => by simp only [AVrel] at h; simp only [AV.facts]; exact h.2
  | .sl row l, v, h => by simp only [AVrel] at h; simp only [AV.facts]; exact Rd_ok _ _ _ h
  | .full row l, v, h => by simp only [AVrel] at h; simp only [AV.facts]; exact Rd_ok _ _ _ h.1
  | .agg cs, v, h => by
    simp only [AVrel] at h
    obtain ⟨arr, _, h2⟩ := h
    simp only [AV.facts]
    exact AVrels_facts cs _ h2
  | .tup cs, v, h => by
    simp only [AVrel] at h
    obtain ⟨arr, _, h2⟩ := h
    simp only [AV.facts]
    exact AVrels_facts cs _ h2
  | .junk, _, _ | .undef, _, _ | .bool _, _, _ | .tt, _, _ | .ff, _, _ | .nil, _, _ | .nilp, _, _ | .nilf, _, _ | .selem _ _ _, _, _ | .parr _ _, _, _ | .own _, _, _ | .pre _ _, _, _ | .view _ _ _ _, _, _ | .ref _ _, _, _ | .elem _ _ _ _, _, _ | .fn _ _ _, _, _ => by simp only [AV.facts]
theorem AVrels_facts : ∀ (as_ : List AV) (vs : List Value), AVrels w A β vs as_ → factsL as_
  | [], _, _ => by simp only [factsL]
  | a :: as_, vs, h => by
    simp only [AVrels] at h
    obtain ⟨v, vs', _, h1, h2⟩ := h
    simp only [factsL]
    exact ⟨AVrel_facts a v h1, AVrels_facts as_ vs' h2⟩
end
end
def Tab.Ok (P : Program) : Tab → Prop
  | .leaf => True
  | .node l k v r => l.Ok P ∧ r.Ok P ∧ P.underlying k = some v.desc ∧ strOk P k v.desc ∧ ∃ i, P.info? k = some i ∧ i.size = v.size ∧ i.bytes = v.bytes ∧ i.zero = some v.zero
theorem Tab.Ok.at {P : Program} {T : Tab} (h : T.Ok P) : ∀ t te, T.find t = some te → (P.underlying t = some te.desc ∧ ∃ i, P.info? t = some i ∧ i.size = te.size ∧ i.bytes = te.bytes ∧ i.zero = some te.zero) ∧ strOk P t te.desc := by
  induction T with
  | leaf => intro t te ht; cases ht
  | node l k v r ihl ihr =>
    obtain ⟨h1, h2, h3, h5, h4⟩ := h
    intro t te ht
    simp only [Tab.find] at ht
    cases hb : Nat.beq t k with
    | true =>
      rw [hb] at ht
      simp only [cond_true, Option.some.injEq] at ht
      have := Nat.eq_of_beq_eq_true hb
      subst this; subst ht
      exact ⟨⟨h3, h4⟩, h5⟩
    | false =>
      rw [hb] at ht
      simp only [cond_false] at ht
      cases hl : Nat.blt t k with
      | true => rw [hl] at ht; exact ihl h1 t te ht
      | false => rw [hl] at ht; exact ihr h2 t te ht
theorem TabOk.of {P : Program} {T : Tab} (h : T.Ok P) : TabOk T P := ⟨fun t te ht => (h.at t te ht).1, fun t te ht => (h.at t te ht).2⟩
end Go.Vg
end
section
namespace Go.Vg
open Go
inductive PS where
  | one (t : Ty)
  | agg (ts : List Ty)
@[reducible] def PS.flat : List PS → List Ty
  | [] => []
  | .one t :: ps => t :: PS.flat ps
  | .agg ts :: ps => ts ++ PS.flat ps
def PS.cells : List PS → List AV → Option (List AV)
  | [], [] => some []
  | .one _ :: ps, a :: as_ => match PS.cells ps as_ with
    | some l => some (a :: l)
    | none => none
  | .agg ts :: ps, .agg cs :: as_ => bif Nat.beq cs.length ts.length then match PS.cells ps as_ with
    | some l => some (cs ++ l)
    | none => none
    else none
  | _, _ => none
def PS.group : List PS → List AV → List AV
  | [], _ => []
  | .one _ :: ps, cs => cs.headD .junk :: PS.group ps cs.tail
  | .agg ts :: ps, cs => .agg (cs.take ts.length) :: PS.group ps (cs.drop ts.length)
def argsD (ps : List PS) (avs : List AV) : Option (Row (PS.flat ps)) := match PS.cells ps avs with
  | some cs => toRow (PS.flat ps) cs
  | none => none
def backD (ps : List PS) (x : Row (PS.flat ps)) : List AV := PS.group ps (rowAVs (PS.flat ps) x)
def sigOf (ps : List PS) (f : Row (PS.flat ps) → Prop × AV × List AB) : Sig := fun avs => match argsD ps avs with
  | some x => some (f x)
  | none => none
section
variable {P : Program} {E : Env} {w : World} {A : Nat → Prop} {β : Nat → Value}
theorem AVrels_append_of : ∀ (as_ bs : List AV) (us vs : List Value), AVrels w A β us as_ → AVrels w A β vs bs → AVrels w A β (us ++ vs) (as_ ++ bs)
  | [], bs, us, vs, h, g => by
    simp only [AVrels] at h; subst h; simpa using g
  | a :: as_, bs, us, vs, h, g => by
    simp only [AVrels] at h
    obtain ⟨v, us', rfl, h1, h2⟩ := h
    simp only [List.cons_append, AVrels]
    exact ⟨v, us' ++ vs, rfl, h1, AVrels_append_of as_ bs us' vs h2 g⟩
theorem AVrels_split_of : ∀ (as_ bs : List AV) (vs : List Value), AVrels w A β vs (as_ ++ bs) → ∃ us ws, vs = us ++ ws ∧ AVrels w A β us as_ ∧ AVrels w A β ws bs
  | [], bs, vs, h => ⟨[], vs, rfl, by simp [AVrels], h⟩
  | a :: as_, bs, vs, h => by
    simp only [List.cons_append, AVrels] at h
    obtain ⟨v, vs', rfl, h1, h2⟩ := h
    obtain ⟨us, ws, rfl, h3, h4⟩ := AVrels_split_of as_ bs vs' h2
    exact ⟨v :: us, ws, rfl, by simp only [AVrels]; exact ⟨v, us, rfl, h1, h3⟩, h4⟩
theorem AVrels_len (as_ : List AV) (vs : List Value) (h : AVrels w A β vs as_) : vs.length = as_.length := (AVrels_length as_ vs h).symm ▸ rfl
theorem pscells_rel : ∀ (ps : List PS) (avs cs : List AV) (args : List Value), PS.cells ps avs = some cs → AVrels w A β args avs →
    cs.length = (PS.flat ps).length ∧ ∃ vs, AVrels w A β vs cs ∧ ∀ cs', cs'.length = cs.length → AVrels w A β vs cs' → AVrels w A β args (PS.group ps cs')
  | [], [], cs, args, h, hr => by
    simp only [PS.cells, Option.some.injEq] at h
    subst h
    exact ⟨rfl, [], by simp [AVrels], fun cs' _ _ => by simpa only [PS.group] using hr⟩
  | .one t :: ps, a :: as_, cs, args, h, hr => by
    simp only [PS.cells] at h
    split at h
    · rename_i l hl
      simp only [Option.some.injEq] at h
      subst h
      simp only [AVrels] at hr
      obtain ⟨v, args', rfl, h1, h2⟩ := hr
      obtain ⟨g1, vs, g2, g3⟩ := pscells_rel ps as_ l args' hl h2
      refine ⟨by simp [PS.flat, g1], v :: vs, by simp only [AVrels]; exact ⟨v, vs, rfl, h1, g2⟩, fun cs' hl' hr' => ?_⟩
      cases cs' with
      | nil => simp at hl'
      | cons c cs' =>
        simp only [AVrels] at hr'
        obtain ⟨v', vs', e, r1, r2⟩ := hr'
        simp only [List.cons.injEq] at e
        obtain ⟨rfl, rfl⟩ := e
        simp only [PS.group, List.headD, List.tail, AVrels]
        exact ⟨v, args', rfl, r1, g3 cs' (by simpa using hl') r2⟩
    · cases h
  | .agg ts :: ps, a :: as_, cs, args, h, hr => by
    cases a with
    | agg cs0 =>
      simp only [PS.cells] at h
      cases hb : Nat.beq cs0.length ts.length with
      | false => rw [hb] at h; cases h
      | true =>
        rw [hb] at h
        have hlen := Nat.eq_of_beq_eq_true hb
        simp only [cond_true] at h
        split at h
        · rename_i l hl
          simp only [Option.some.injEq] at h
          subst h
          simp only [AVrels] at hr
          obtain ⟨v, args', rfl, h1, h2⟩ := hr
          simp only [AVrel] at h1
          obtain ⟨arr, rfl, h1⟩ := h1
          obtain ⟨g1, vs, g2, g3⟩ := pscells_rel ps as_ l args' hl h2
          refine ⟨by simp [PS.flat, g1, hlen], arr.toList ++ vs, AVrels_append_of _ _ _ _ h1 g2, fun cs' hl' hr' => ?_⟩
          have hk : (cs'.take ts.length).length = ts.length := by rw [List.length_take]; simp at hl'; omega
          obtain ⟨us, ws, e, r1, r2⟩ := AVrels_split_of (cs'.take ts.length) (cs'.drop ts.length) _ (by rw [List.take_append_drop]; exact hr')
          have hu : us.length = arr.toList.length := by
            rw [AVrels_len _ _ r1, hk, AVrels_len _ _ h1, hlen]
          obtain ⟨e1, e2⟩ := List.append_inj e hu.symm
          subst e1; subst e2
          simp only [PS.group, AVrels, AVrel]
          exact ⟨_, args', rfl, ⟨arr, rfl, r1⟩, g3 _ (by simp at hl' ⊢; omega) r2⟩
        · cases h
    | _ => simp [PS.cells] at h
  | [], _ :: _, cs, args, h, _ => by simp [PS.cells] at h
  | .one _ :: _, [], cs, args, h, _ => by simp [PS.cells] at h
  | .agg _ :: _, [], cs, args, h, _ => by simp [PS.cells] at h
theorem backD_rel (ps : List PS) {avs : List AV} {args : List Value} {x : Row (PS.flat ps)} (h : argsD ps avs = some x) (hr : AVrels w A β args avs) :
    AVrels w A β args (backD ps x) ∧ Row.ok (PS.flat ps) x := by
  unfold argsD at h
  split at h
  · rename_i cs hcs
    obtain ⟨g1, vs, g2, g3⟩ := pscells_rel ps avs cs args hcs hr
    have hv := toRow_rel _ _ _ _ g2 h
    exact ⟨g3 _ (by rw [rowAVs_length, g1]) (rowAVs_rel _ _ _ hv), RdV_ok _ _ _ hv⟩
  · cases h
theorem valid_sigOf (hE : EnvOk P E) (hm : P.follows .mixedOrders = true) {f : FuncId} {fn : Func} {c : Code} (ps : List PS) {F : Row (PS.flat ps) → Prop × AV × List AB}
    (L : Row (PS.flat ps) → Nat → Option LoopAnn) (hf : P.funcs[f]? = some fn) (hb : fn.body = some c)
    (h : ∀ x, (F x).1 → Row.ok (PS.flat ps) x → vcFn E (L x) c fn.ntmps fn.results.toList (backD ps x) (F x).2.1 (F x).2.2) : Valid P E.glob f (sigOf ps F) := by
  intro w A β args avs pre res bs hA hG hargs hs hp
  unfold sigOf at hs
  split at hs
  · rename_i x hx
    simp only [Option.some.injEq] at hs
    obtain ⟨g1, g2⟩ := backD_rel ps hx hargs
    have hv : Valid P E.glob f (fun avs' => open Classical in if avs' = backD ps x then some (F x) else none) := by
      refine valid_of_vc hE hm (fun _ => L x) hf hb fun avs' pre' res' bs' hs' hp' => ?_
      split at hs'
      · rename_i e
        subst e
        simp only [Option.some.injEq] at hs'
        have := h x (by rw [hs']; exact hp') g2
        rw [hs'] at this
        exact this
      · cases hs'
    exact hv w A β args (backD ps x) pre res bs hA hG g1 (by simp only [if_true, hs]) hp
  · cases hs
theorem FnOk.of {f : FuncId} {fn : Func} {c : Code} (hf : P.funcs[f]? = some fn) (hb : fn.body = some c) (hn : (fn.name == "runtime.NumGoroutine") = false) : FnOk P f := by
  intro args w
  have hp : Sem.run P program w = .ok P w := rfl
  simp only [callFunc, Sem.run_bind, hp, Result.andThen_ok, hf, hn, hb, Option.isNone_some]
  rfl
def Env.cons (f : Nat) (s : Sig) (E : Env) : Env := { E with sig := fun g => bif Nat.beq g f then some s else E.sig g }
theorem EnvOk.cons (hE : EnvOk P E) {f : FuncId} {s : Sig} (h : Valid P E.glob f s) (hf : FnOk P f) : EnvOk P (E.cons f s) := by
  refine ⟨hE.tab, fun g t hg => ?_, hE.hsig⟩
  simp only [Env.cons] at hg
  cases hb : Nat.beq g f with
  | true =>
    rw [hb] at hg
    simp only [cond_true, Option.some.injEq] at hg
    have := Nat.eq_of_beq_eq_true hb
    subst this; subst hg
    exact ⟨h, hf⟩
  | false =>
    rw [hb] at hg
    exact hE.sig g t hg
theorem EnvOk.none {T : Tab} (G : Nat → Option GD) (hT : TabOk T P) : EnvOk P { T := T, sig := fun _ => none, glob := G } := ⟨hT, fun f s h => (by cases h), fun f m s h => (by cases h)⟩
end
end Go.Vg
end
section
namespace Go.Vg
open Go
def fieldsB (T : Tab) (off : Nat) : List Field → Bool
  | [] => true
  | f :: fs => Nat.beq f.offset off && (match T.find f.type with
    | some te => fieldsB T (off + te.size) fs
    | none => false)
def sumB (T : Tab) : List Field → Nat
  | [] => 0
  | f :: fs => (match T.find f.type with
    | some te => te.size
    | none => 0) + sumB T fs
def flatB (T : Tab) : Nat → TypeId → Bool
  | 0, _ => false
  | n + 1, t => match T.find t with
    | none => false
    | some te => match te.desc with
      | .slice e => flatB T n e && (match T.find e with
        | some ee => Nat.blt 0 ee.size
        | none => false)
      | .struct fs => fieldsB T 0 fs.toList && Nat.beq te.size (sumB T fs.toList) && fs.toList.all (fun f => flatB T n f.type)
      | .array k e => flatB T n e && (match T.find e with
        | some ee => Nat.beq te.size (k * ee.size)
        | none => false)
      | _ => true
section
variable {P : Program} {E : Env} {w : World} {A : Nat → Prop} {T : Tab} {H : Type} {enc : TypeId × Value → H} {sp : Nat → Bool} {held : Bool}
theorem TabOk.cells (hT : TabOk T P) {t : TypeId} {te : TE} (h : T.find t = some te) : P.cellsOf t = te.size := by
  obtain ⟨_, i, h1, h2, _⟩ := hT.ok t te h
  simp [Program.cellsOf, h1, h2]
theorem RdV_append_ex : ∀ (r1 r2 : List Ty) (c1 c2 : List Value) (x : Row r1) (y : Row r2), RdV w A r1 c1 x → RdV w A r2 c2 y → ∃ z : Row (r1 ++ r2), RdV w A (r1 ++ r2) (c1 ++ c2) z
  | [], r2, c1, c2, x, y, h1, h2 => by
    simp only [RdV] at h1; subst h1
    exact ⟨y, h2⟩
  | t :: ts, r2, c1, c2, x, y, h1, h2 => by
    simp only [RdV] at h1
    obtain ⟨v, vs, rfl, g1, g2⟩ := h1
    obtain ⟨z, hz⟩ := RdV_append_ex ts r2 vs c2 _ y g2 h2
    refine ⟨Row.mk (Row.hd x) z, ?_⟩
    show RdV w A (t :: (ts ++ r2)) (v :: (vs ++ c2)) (Row.mk (Row.hd x) z)
    simp only [RdV]
    exact ⟨v, vs ++ c2, rfl, by rw [hd_mk]; exact g1, by rw [tl_mk]; exact hz⟩
theorem build_ex {row : List Ty} {sz : Nat} {a : Addr} (hsz : 0 < sz) : ∀ (k : Nat), (∀ i, i < k → ∃ cs' r, cs'.length = sz ∧ (∀ j, j < sz → w.cell? ((a.add (i * sz)).add j) = cs'[j]?) ∧ RdV w A row cs' r) →
    ∃ (l : List (Row row)) (cs : List Value), l.length = k ∧ cs.length = k * sz ∧ RdL (RdV w A row) cs l ∧ (∀ j, j < k * sz → w.cell? (a.add j) = cs[j]?)
  | 0, _ => ⟨[], [], rfl, by simp, by simp [RdL], fun j hj => by simp at hj⟩
  | k + 1, h => by
    obtain ⟨l, cs, h1, h2, h3, h4⟩ := build_ex hsz k fun i hi => h i (by omega)
    obtain ⟨cs', r, g1, g2, g3⟩ := h k (by omega)
    refine ⟨l ++ [r], cs ++ cs', by simp [h1], by simp [h2, g1, Nat.add_mul], RdL_append l [r] cs cs' h3 ⟨cs', [], by simp, g3, by simp [RdL]⟩, fun j hj => ?_⟩
    by_cases hlt : j < k * sz
    · rw [h4 j hlt, List.getElem?_append_left (by omega)]
    · rw [List.getElem?_append_right (by omega), h2, ← g2 (j - k * sz) (by rw [Nat.add_mul] at hj; omega)]
      congr 1
      simp only [Addr.add]
      by_cases hk : k * sz = 0
      · simp [hk]
      · by_cases hj0 : j - k * sz = 0
        · have : j = k * sz := by omega
          subst this; simp [hk]
        · have hj1 : ¬ j = 0 := by omega
          rw [if_neg hj1, if_neg hk, if_neg hj0]
          simp only [Addr.mk.injEq, true_and, and_true]
          omega
theorem fields_ex (hT : TabOk T P) {n m : Nat} (cs : List Value)
    (ih : ∀ t row (cs : List Value) x, rowOf T n t = some row → flatB T n t = true → DataW.trod enc P w 0 sp held m t cs = some x → ∃ r : Row row, RdV w A row cs r) :
    ∀ (fs : List Field) (off : Nat) (row : List Ty), fs.foldr (fun f acc => catO (rowOf T n f.type) acc) (some []) = some row → fieldsB T off fs = true → (fs.all fun f => flatB T n f.type) = true →
      (∀ f ∈ fs, ∃ x, DataW.trod enc P w 0 sp held m f.type ((cs.drop f.offset).take (P.cellsOf f.type)) = some x) → cs.length = off + sumB T fs →
      ∃ r : Row row, RdV w A row (cs.drop off) r
  | [], off, row, hr, _, _, _, hl => by
    simp only [List.foldr_nil, Option.some.injEq] at hr
    subst hr
    exact ⟨(), by simp only [RdV]; simp [sumB] at hl; exact List.drop_eq_nil_of_le (by omega)⟩
  | f :: fs, off, row, hr, hf, ha, hx, hl => by
    simp only [List.foldr_cons] at hr
    generalize hrest : fs.foldr (fun f acc => catO (rowOf T n f.type) acc) (some []) = rest at hr
    unfold catO at hr
    split at hr
    · rename_i r1 r2 h1
      simp only [Option.some.injEq] at hr
      subst hr
      simp only [fieldsB, Bool.and_eq_true] at hf
      obtain ⟨hf1, hf2⟩ := hf
      have ho := Nat.eq_of_beq_eq_true hf1
      simp only [List.all_cons, Bool.and_eq_true] at ha
      split at hf2
      · rename_i te hte
        have hc := hT.cells hte
        obtain ⟨x, hx1⟩ := hx f (List.mem_cons_self ..)
        rw [hc, ho] at hx1
        obtain ⟨y, hy⟩ := ih _ _ _ _ h1 ha.1 hx1
        simp only [sumB, hte] at hl
        obtain ⟨z, hz⟩ := fields_ex hT cs ih fs (off + te.size) r2 hrest hf2 ha.2 (fun g hg => hx g (List.mem_cons_of_mem _ hg)) (by omega)
        obtain ⟨u, hu⟩ := RdV_append_ex _ _ _ _ _ _ hy hz
        refine ⟨u, ?_⟩
        have : (cs.drop off).take te.size ++ cs.drop (off + te.size) = cs.drop off := by
          rw [← List.drop_drop, List.take_append_drop]
        rw [this] at hu; exact hu
      · cases hf2
    · cases hr
theorem array_ex {r : List Ty} (cs : List Value) (sz : Nat) : ∀ (k off : Nat), (∀ i, i < k → ∃ x : Row r, RdV w A r ((cs.drop (off + i * sz)).take sz) x) → cs.length = off + k * sz →
    ∃ x : Row ((List.replicate k r).flatten), RdV w A ((List.replicate k r).flatten) (cs.drop off) x
  | 0, off, _, hl => ⟨(), by
    show RdV w A [] _ _
    simp only [RdV]; exact List.drop_eq_nil_of_le (by omega)⟩
  | k + 1, off, h, hl => by
    obtain ⟨x, hx⟩ := h 0 (by omega)
    rw [Nat.zero_mul, Nat.add_zero] at hx
    obtain ⟨y, hy⟩ := array_ex cs sz k (off + sz) (fun i hi => by
      obtain ⟨z, hz⟩ := h (i + 1) (by omega)
      refine ⟨z, ?_⟩
      rw [show off + sz + i * sz = off + (i + 1) * sz by rw [Nat.add_mul]; omega]; exact hz) (by rw [Nat.add_mul] at hl; omega)
    obtain ⟨u, hu⟩ := RdV_append_ex _ _ _ _ _ _ hx hy
    have e : (cs.drop off).take sz ++ cs.drop (off + sz) = cs.drop off := by rw [← List.drop_drop, List.take_append_drop]
    rw [e] at hu
    exact ⟨u, hu⟩
theorem RdV_single {t : Ty} {v : Value} {x : D t} (h : Rd w A t v x) : RdV w A [t] [v] (Row.mk x ()) := by
  simp only [RdV]
  exact ⟨v, [], rfl, by rw [hd_mk]; exact h, rfl⟩
theorem trod_rdv (hT : TabOk T P) (hA : ∀ b, b < w.heap.size → A b) : ∀ (n m : Nat) (t : TypeId) (row : List Ty) (cs : List Value) (x : DataW H × List MemPlace), rowOf T n t = some row → flatB T n t = true →
    DataW.trod enc P w 0 sp held m t cs = some x → ∃ r : Row row, RdV w A row cs r
  | 0, m, t, row, cs, x, hr, _, _ => by simp [rowOf] at hr
  | n + 1, m, t, row, cs, x, hr, hf, h => by
    unfold rowOf at hr
    unfold flatB at hf
    split at hr
    · cases hr
    · rename_i te hte
      rw [hte] at hf
      obtain ⟨hu, _⟩ := hT.ok t te hte
      have hcs := hT.cells hte
      simp only at hf
      split at hr
      · rename_i k hd
        simp only [Option.some.injEq] at hr; subst hr
        rw [hd] at hu
        obtain ⟨z, rfl, _, hw⟩ := DataW.trod_int hu h
        have hz : lo k ≤ z ∧ z ≤ hi k := by
          cases k <;> simpa [Lit.wf, IntKind.min, IntKind.max, IntKind.signed, IntKind.bits, lo, hi] using hw
        refine ⟨Row.mk (DI.ofInt k z : D (.int k)) (), RdV_single ?_⟩
        simp only [Rd, DI_ofInt hz]
        exact ⟨trivial, hz⟩
      · rename_i hd
        simp only [Option.some.injEq] at hr; subst hr
        rw [hd] at hu
        obtain ⟨b, rfl, _⟩ := DataW.trod_bool hu h
        exact ⟨Row.mk (b : D .bool) (), RdV_single (by simp only [Rd])⟩
      · rename_i hd
        simp only [Option.some.injEq] at hr; subst hr
        rw [hd] at hu
        obtain ⟨s, rfl, _, hs⟩ := DataW.trod_string hu h
        refine ⟨Row.mk (s.data.toList : D .str) (), RdV_single ?_⟩
        simp only [Rd]
        exact ⟨trivial, by simpa using hs⟩
      · rename_i e hd
        split at hr
        · rename_i r hre
          simp only [Option.some.injEq] at hr; subst hr
          rw [hd] at hu hf
          simp only [Bool.and_eq_true] at hf
          obtain ⟨hf1, hf2⟩ := hf
          split at hf2
          · rename_i ee hee
            have hsz : 0 < ee.size := by simpa using hf2
            have hce := hT.cells hee
            rcases DataW.trod_slice hu h with ⟨rfl, _⟩ | ⟨a, len, cap, elems, rest, m', _, rfl, _, hb, hl, hm, hlen, hel, _⟩
            · refine ⟨Row.mk (([] : List (Row r)) : D (.slice r)) (), RdV_single ?_⟩
              simp only [Rd]
              exact ⟨none, 0, [], rfl, by simp, by simp, by simp [RdL], by simp⟩
            · rw [hce] at hel
              obtain ⟨l, cs, g1, g2, g3, g4⟩ := build_ex (w := w) (A := A) (row := r) (a := a) hsz len fun i hi => by
                have h1 := hel i hi
                rw [List.getElem?_eq_getElem (by omega), Option.bind_eq_some_iff] at h1
                obtain ⟨cs', c1, c2⟩ := h1
                obtain ⟨_, d1, d2⟩ := World.cells?_some c1
                obtain ⟨y, hy⟩ := trod_rdv hT hA n m' e r cs' _ hre hf1 c2
                exact ⟨cs', y, d1, d2, hy⟩
              refine ⟨Row.mk (l : D (.slice r)) (), RdV_single ?_⟩
              simp only [Rd]
              refine ⟨some a, cap, cs, by rw [g1], by rw [g1]; exact hl, hm, g3, fun hne => ?_⟩
              have hpos : 0 < len * ee.size := by
                rw [← g2]; exact List.length_pos_iff.2 hne
              have h0 := g4 0 hpos
              rw [List.getElem?_eq_getElem (by omega)] at h0
              obtain ⟨b, o, s⟩ := a
              simp only [Addr.add, if_true, World.cell?] at h0
              have hs : s = none := by
                cases s with
                | none => rfl
                | some q => simp at h0; split at h0 <;> cases h0
              subst hs
              refine ⟨b, o, rfl, hA b ?_, fun j v hj => ?_⟩
              · split at h0
                · rename_i hb'
                  exact (Array.getElem?_eq_some_iff.1 hb').1
                · cases h0
              · have hjl := (List.getElem?_eq_some_iff.1 hj).1
                have := g4 j (by omega)
                rw [hj] at this
                rw [← this]
                congr 1
                simp only [Addr.add]
                split <;> simp_all
          · cases hf2
        · cases hr
      · rename_i fs hd
        rw [hd] at hu hf
        simp only [Bool.and_eq_true] at hf
        obtain ⟨⟨hf1, hf2⟩, hf3⟩ := hf
        obtain ⟨xs, m', _, _, hl, hxl, hx⟩ := DataW.trod_struct hu h
        have := fields_ex (A := A) hT cs (fun t row cs x h1 h2 h3 => trod_rdv hT hA n m' t row cs x h1 h2 h3) fs.toList 0 row hr hf1 hf3 (fun f hf => by
          obtain ⟨i, hi⟩ := List.getElem?_of_mem hf
          have := hx i f (by simpa using hi)
          rw [this]
          have hlt : i < xs.length := by rw [hxl]; have := (List.getElem?_eq_some_iff.1 hi).1; simpa using this
          exact ⟨_, List.getElem?_eq_getElem hlt⟩) (by rw [hl, hcs, Nat.eq_of_beq_eq_true hf2]; omega)
        simpa using this
      · rename_i k e hd
        rw [hd] at hu hf
        split at hr
        · rename_i r hre
          simp only [Option.some.injEq] at hr; subst hr
          simp only [Bool.and_eq_true] at hf
          obtain ⟨hf1, hf2⟩ := hf
          split at hf2
          · rename_i ee hee
            have hce := hT.cells hee
            obtain ⟨xs, m', _, _, hl, hxl, hx⟩ := DataW.trod_array hu h
            have := array_ex (w := w) (A := A) (r := r) cs ee.size k 0 (fun i hi => by
              have h1 := hx i hi
              rw [List.getElem?_eq_getElem (by omega), hce] at h1
              obtain ⟨y, hy⟩ := trod_rdv hT hA n m' e r _ _ hre hf1 h1
              exact ⟨y, by simpa using hy⟩) (by rw [hl, hcs, Nat.eq_of_beq_eq_true hf2]; omega)
            simpa using this
          · cases hf2
        · cases hr
      · cases hr
end
end Go.Vg
end
section
namespace Go.Vg
open Go Go.ChangeShapes Go.WideShapes Go.ChangeAt Go.RowKit
def PS.of (T : Tab) (t : TypeId) : Option PS := match T.find t, rowOf T tyFuel t with
  | some te, some row => bif flatB T tyFuel t then (bif te.desc.isAggr then some (.agg row) else match row with
    | [u] => some (.one u)
    | _ => none) else none
  | _, _ => none
def PS.ofs (T : Tab) : List TypeId → Option (List PS)
  | [] => some []
  | t :: ts => match PS.of T t, PS.ofs T ts with
    | some p, some ps => some (p :: ps)
    | _, _ => none
section
variable {P : Program} {E : Env} {w : World} {A : Nat → Prop} {β : Nat → Value} {T : Tab} {H : Type} {enc : TypeId × Value → H} {sp : Nat → Bool} {held : Bool}
theorem toD_ofD : ∀ (t : Ty) (x : D t), ∃ y, toD t (ofD t x) = some y
  | .int k, x => ⟨_, by simp [ofD, toD]; rfl⟩
  | .bool, b => ⟨b, rfl⟩
  | .str, s => ⟨s, rfl⟩
  | .slice row, l => by
    simp only [ofD, toD, castL]
    have : Ty.beqL row row = true := by
      have : ∀ (r : List Ty), Ty.beqL r r = true := fun r => beqL_refl' r
      exact this row
    rw [dif_pos this]
    exact ⟨_, rfl⟩
where
  beq_refl' : ∀ (t : Ty), Ty.beq t t = true
    | .int k => by simp [Ty.beq]
    | .bool => rfl
    | .str => rfl
    | .slice r => by simp only [Ty.beq]; exact beqL_refl' r
  beqL_refl' : ∀ (r : List Ty), Ty.beqL r r = true
    | [] => rfl
    | t :: ts => by simp only [Ty.beqL, beq_refl' t, beqL_refl' ts, Bool.and_self]
theorem toRow_rowAVs : ∀ (ts : List Ty) (x : Row ts) (us : List Ty) (as_ : List AV) (z : Row us), toRow us as_ = some z → ∃ y, toRow (ts ++ us) (rowAVs ts x ++ as_) = some y
  | [], x, us, as_, z, h => ⟨z, h⟩
  | t :: ts, x, us, as_, z, h => by
    obtain ⟨d, hd⟩ := toD_ofD t (Row.hd x)
    obtain ⟨y, hy⟩ := toRow_rowAVs ts (Row.tl x) us as_ z h
    refine ⟨Row.mk d y, ?_⟩
    show toRow (t :: (ts ++ us)) (ofD t (Row.hd x) :: (rowAVs ts (Row.tl x) ++ as_)) = _
    simp only [toRow, hd, hy]
theorem open_args (hT : TabOk T P) (hA : ∀ b, b < w.heap.size → A b) : ∀ (ts : List TypeId) (ps : List PS) (vs : List Value) (ds : List (DataW H)) (q : List MemPlace), PS.ofs T ts = some ps →
    (∀ (j : Nat) t v, ts[j]? = some t → vs[j]? = some v → ∃ b, Value.okWide P w .any b t v) →
    DataW.TrodAll enc P w 0 sp held ts vs ds q → ds.length = ts.length ∧ ∃ avs cs z, AVrels w A β vs avs ∧ PS.cells ps avs = some cs ∧ toRow (PS.flat ps) cs = some z
  | [], ps, vs, ds, q, hp, _, h => by
    simp only [PS.ofs, Option.some.injEq] at hp; subst hp
    cases vs with
    | nil =>
      cases ds with
      | nil => exact ⟨rfl, [], [], (), by simp only [AVrels], rfl, rfl⟩
      | cons _ _ => simp [DataW.TrodAll] at h
    | cons _ _ => simp [DataW.TrodAll] at h
  | t :: ts, ps, vs, ds, q, hp, hok, h => by
    simp only [PS.ofs] at hp
    split at hp
    · rename_i p ps' h1 h2
      simp only [Option.some.injEq] at hp; subst hp
      match vs, ds, h with
      | v :: vs, d :: ds, h =>
        simp only [DataW.TrodAll] at h
        obtain ⟨q1, q2, g1, g2, _⟩ := h
        obtain ⟨k1, avs, cs, z, k2, k3, k4⟩ := open_args hT hA ts ps' vs ds q2 h2 (fun j t' v' hj hv => hok (j + 1) t' v' (by simpa using hj) (by simpa using hv)) g2
        refine ⟨by simp [k1], ?_⟩
        obtain ⟨b, hv⟩ := hok 0 t v rfl rfl
        obtain ⟨m, hm⟩ := g1
        unfold PS.of at h1
        split at h1
        · rename_i te row hte hrow
          cases hfl : flatB T tyFuel t with
          | false => rw [hfl] at h1; cases h1
          | true =>
            rw [hfl] at h1
            simp only [cond_true] at h1
            obtain ⟨hu, _⟩ := hT.ok t te hte
            obtain ⟨r, hr⟩ := trod_rdv (A := A) hT hA tyFuel m t row _ _ hrow hfl hm
            have hrel := rowAVs_rel (β := β) _ _ _ hr
            cases hag : te.desc.isAggr with
            | true =>
              rw [hag] at h1
              simp only [cond_true, Option.some.injEq] at h1
              subst h1
              have : ∃ arr : Array Value, v = .agg arr := by
                unfold Value.okWide at hv
                rw [hu] at hv
                cases hd : te.desc with
                | struct fs => rw [hd] at hv; obtain ⟨arr, e, _⟩ := hv; exact ⟨arr, e⟩
                | array k e => rw [hd] at hv; obtain ⟨arr, e, _⟩ := hv; exact ⟨arr, e⟩
                | _ => rw [hd] at hag; cases hag
              obtain ⟨arr, rfl⟩ := this
              obtain ⟨y, hy⟩ := toRow_rowAVs row r _ _ z k4
              refine ⟨.agg (rowAVs row r) :: avs, rowAVs row r ++ cs, y, ?_, ?_, hy⟩
              · simp only [AVrels, AVrel]
                exact ⟨_, vs, rfl, ⟨arr, rfl, hrel⟩, k2⟩
              · simp only [PS.cells, rowAVs_length, k3, nbeq_true, cond_true]
            | false =>
              rw [hag] at h1
              simp only [cond_false] at h1
              split at h1
              · rename_i u
                simp only [Option.some.injEq] at h1
                subst h1
                obtain ⟨y, hy⟩ := toRow_rowAVs [u] r _ _ z k4
                have hc : v.cells.toList = [v] := by
                  unfold Value.okWide at hv
                  rw [hu] at hv
                  cases v with
                  | agg arr =>
                    exfalso
                    cases hd : te.desc <;> rw [hd] at hu hv hag <;> simp_all [Cell.okWide, Cell.ok, TypeDesc.isAggr]
                  | _ => rfl
                rw [hc] at hrel
                simp only [rowAVs, AVrels] at hrel
                obtain ⟨v', vs', e, e1, _⟩ := hrel
                simp only [List.cons.injEq] at e
                obtain ⟨rfl, _⟩ := e
                refine ⟨ofD u (Row.hd r) :: avs, ofD u (Row.hd r) :: cs, y, ?_, ?_, hy⟩
                · simp only [AVrels]
                  exact ⟨_, vs, rfl, e1, k2⟩
                · simp only [PS.cells, k3]
              · cases h1
        · cases h1
      | [], _ :: _, h => simp [DataW.TrodAll] at h
      | [], [], h => simp [DataW.TrodAll] at h
      | _ :: _, [], h => simp [DataW.TrodAll] at h
    · cases hp
theorem args_stay (hl : laidOutB P = true) {W W' : World} (hb : Below W.heap.size W W') : ∀ (ts : List TypeId) (vs : List Value) (ds : List (DataW H)) (q : List MemPlace), (∀ t ∈ ts, P.readableRec t = true ∧ t < P.types.size) →
    DataW.TrodAll enc P W 0 (fun _ => true) true ts vs ds q → (∀ x ∈ q, x.block < W.heap.size) → DataW.TrodAll enc P W' 0 (fun b => decide (b < W.heap.size)) true ts vs ds q
  | [], [], [], q, _, h, _ => h
  | t :: ts, v :: vs, d :: ds, q, ht, h, hq => by
    simp only [DataW.TrodAll] at h ⊢
    obtain ⟨q1, q2, g1, g2, rfl⟩ := h
    exact ⟨q1, q2, Below.trod hl (ht t (List.mem_cons_self ..)).1 (ht t (List.mem_cons_self ..)).2 g1 hb (fun x hx => hq x (List.mem_append_left _ hx)),
      args_stay hl hb ts vs ds q2 (fun u hu => ht u (List.mem_cons_of_mem _ hu)) g2 (fun x hx => hq x (List.mem_append_right _ hx)), rfl⟩
  | [], _ :: _, _, _, _, h, _ => by simp [DataW.TrodAll] at h
  | [], [], _ :: _, _, _, h, _ => by simp [DataW.TrodAll] at h
  | _ :: _, [], _, _, _, h, _ => by simp [DataW.TrodAll] at h
  | _ :: _, _ :: _, [], _, _, h, _ => by simp [DataW.TrodAll] at h
theorem law_contract (hT : TabOk T P) (hl : laidOutB P = true) {G : Nat → Option GD} {f : FuncId} {fn : Func} {s : ChangeSpec} {ps : List PS} (hv : Valid P G f (sigOf ps fun _ => (True, .bool true, [])))
    (hps : PS.ofs T fn.params.toList = some ps) (hrows : (fn.params.toList.all fun t => P.readableRec t && decide (t < P.types.size)) = true) {tb : TypeId} (hres : fn.resultTypes = #[tb]) (htb : P.underlying tb = some .bool)
    (hsv : s.vars = []) (hs : ∀ (H : Type) (ds : List (DataW H)), ds.length = fn.params.toList.length → s.fn H ds = { results := [.lit (.bool true)], args := ds })
    {W : World} {base : Nat} {args : Array Value} {ds gs : List (DataW H)} {before : List MemPlace} (hG : ∀ i d, G i = some d → LaidG W (fun b => b < W.heap.size) i d)
    (hval : ∀ (j : Nat) t v, fn.params[j]? = some t → args[j]? = some v → Value.okWide P W .any base t v)
    (hW : DataW.Whole enc P fn.params.toList s.vars false W args.toList ds gs before) :
    Calls P f args W fun e W' => ∃ v, e = .returned v ∧ s.post enc P fn false true false false W args v W' := by
  have hW' := hW
  obtain ⟨p, q, hA, hV, rfl, hfz, hnd⟩ := hW
  rw [hsv] at hV
  have hV' : gs = [] ∧ q = [] := by
    cases gs with
    | nil => exact ⟨rfl, by simpa [DataW.TrodVars] using hV⟩
    | cons _ _ => simp [DataW.TrodVars] at hV
  obtain ⟨rfl, rfl⟩ := hV'
  simp only [List.append_nil] at hW'
  obtain ⟨hlen, avs, cs, z, k1, k2, k3⟩ := open_args (β := fun _ => undef) (A := fun b => b < W.heap.size) hT (fun b hb => hb) _ ps _ _ _ hps (fun j t v hj hv => ⟨base, hval j t v (by simpa using hj) (by simpa using hv)⟩) hA
  have hc := hv W (fun b => b < W.heap.size) (fun _ => undef) args.toList avs True (.bool true) [] (fun b hb => hb) hG k1 (by simp only [sigOf, argsD, k2, k3]) trivial
  rw [Array.toArray_toList] at hc
  refine hc.mono ?_
  rintro e W' ⟨v, rfl, A', β', hp⟩
  have hvt := hp.res
  simp only [AVrel] at hvt
  subst hvt
  have hb : Below W.heap.size W W' := ⟨hp.os, hp.tape, hp.output, hp.size, fun k hk => hp.same k hk⟩
  have hlt : ∀ x ∈ p, x.block < W.heap.size := fun x hx => by simpa using hW'.lt x hx
  rw [List.all_eq_true] at hrows
  have hargs := args_stay hl hb fn.params.toList args.toList ds p (fun t ht => by
    have := hrows t ht
    simp only [Bool.and_eq_true, decide_eq_true_eq] at this
    exact this) hA hlt
  have hsp := hs H ds hlen
  refine ⟨_, rfl, ds, [], p, [], p, [], hW', ?_, ?_, ?_, hb.frame _, fun h => by cases h⟩
  · rw [hres]
    simp only [List.append_nil, hsp, Value.resultList]
    exact trodAll_mk1 (shut_bool htb true)
  · simp only [List.append_nil, hsp]
    exact hargs
  · rw [hsv]
    simp only [List.append_nil, hsp]
    rfl
end
end Go.Vg
end
section
namespace Go.V
theorem bor {a b : Bool} : ((bif a then true else b) = true) = (a = true ∨ b = true) := by cases a <;> simp
theorem bor_f {a b : Bool} : ((bif a then true else b) = false) = (a = false ∧ b = false) := by cases a <;> simp
theorem band {a b : Bool} : ((bif a then b else false) = true) = (a = true ∧ b = true) := by cases a <;> simp
theorem band_f {a b : Bool} : ((bif a then b else false) = false) = (a = false ∨ b = false) := by cases a <;> simp
end Go.V
namespace Go.S
theorem take_succ_getD {α : Type} (l : List α) (n : Nat) (d : α) (h : n < l.length) : l.take (n + 1) = l.take n ++ [l.getD n d] := by
  rw [List.take_add_one, List.getElem?_eq_getElem h]; simp [List.getD, List.getElem?_eq_getElem h]
theorem getD_mem {α : Type} (l : List α) (n : Nat) (d : α) (h : n < l.length) : l.getD n d ∈ l := by
  simp [List.getD, List.getElem?_eq_getElem h]
end Go.S
namespace Go.S
theorem fill_set {α : Type} (l : List α) (z x : α) (n m : Nat) (hl : l.length = n) (hn : n < m) : (l ++ List.replicate (m - n) z).set n x = l ++ [x] ++ List.replicate (m - (n + 1)) z := by
  rw [List.set_append_right _ _ (by omega), hl, Nat.sub_self, show m - n = (m - (n + 1)) + 1 by omega, List.replicate_succ, List.set_cons_zero]
  simp
end Go.S
end
section
namespace Go.Vg
open Go
def St.initH (G : Nat → Option GD) (n : Nat) (avs : List AV) (hs : List AB) : St :=
  { St.init G n avs with h := fun k => bif Nat.ble 50000 k && Nat.blt k 60000 then hs[k - 50000]? else none }
def notFrozen : AB → Bool
  | .row _ _ _ true => false
  | _ => true
def kindOk : AB → Bool
  | .row _ _ _ false => true
  | .cells _ => true
  | .arr _ _ => true
  | _ => false
def kindO : Option AB → Bool
  | some b => kindOk b
  | none => true
def keptH (r : HRes) (k : Nat) : Bool := inP k && (match r.heap[k - 50000]? with
  | some (some _) => true
  | _ => false)
def badH (r : HRes) (k : Nat) : Bool := !(keptH r k)
def shrink1 (st : St) (k n e : Nat) (row : List Ty) (l : List (Row row)) : St :=
  { st with
    t := fun i => scrub 70000 (st.t i)
    h := fun j => bif Nat.beq j 70000 then some (.row e row (l.take n) false) else bif Nat.beq j k then none else match st.h j with
      | some b => some (scrubB 70000 b)
      | none => none }
def shrinkV (st : St) (x : AV) : St × AV := match x with
  | .pre k n => match st.h k with
    | some (.row e row l false) => (shrink1 st k n e row l, .own 70000)
    | _ => (st, x)
  | _ => (st, x)
mutual
def resMH (h : Heap) (s : List (Nat × Option Nat)) (bad : Nat → Bool) : AV → AV → List Prop × List Nat
  | .sl r l, .own k => gridM h r l k
  | .agg xs, .agg ys => resMHs h s bad xs ys
  | .tup xs, .tup ys => resMHs h s bad xs ys
  | .own i, y => (avm s bad y (.own i), [])
  | x, y => (avm s bad (pur1 h y).1 x, (pur1 h y).2)
def resMHs (h : Heap) (s : List (Nat × Option Nat)) (bad : Nat → Bool) : List AV → List AV → List Prop × List Nat
  | [], [] => ([], [])
  | x :: xs, y :: ys => ((resMH h s bad x y).1 ++ (resMHs h s bad xs ys).1, (resMH h s bad x y).2 ++ (resMHs h s bad xs ys).2)
  | _, _ => ([False], [])
end
def abMH (h : Heap) (s : List (Nat × Option Nat)) (bad : Nat → Bool) : Option AB → AB → List Prop × List Nat
  | some (.cells xs), .cells ys => resMHs h s bad ys xs
  | o, b => (abm s bad o b, [])
def heapMH (h : Heap) (s : List (Nat × Option Nat)) (bad : Nat → Bool) : Nat → List (Option AB) → List Prop × List Nat
  | _, [] => ([], [])
  | i, some b :: bs => ((abMH h s bad (h (50000 + i)) b).1 ++ (heapMH h s bad (i + 1) bs).1, (abMH h s bad (h (50000 + i)) b).2 ++ (heapMH h s bad (i + 1) bs).2)
  | i, none :: bs => heapMH h s bad (i + 1) bs
def newC (h : Heap) (s : List (Nat × Option Nat)) (bad : Nat → Bool) (K : Nat) (b : AB) : List Prop × List Nat := match lookK s K with
  | some (some k) => abMH h s bad (h k) b
  | some none => match b with
    | .row _ _ l false => ([[] = l], [])
    | _ => ([False], [])
  | none => ([False], [])
def newMH (h : Heap) (s : List (Nat × Option Nat)) (bad : Nat → Bool) : Nat → List AB → List Prop × List Nat
  | _, [] => ([], [])
  | j, b :: bs => ((newC h s bad (60000 + j) b).1 ++ (newMH h s bad (j + 1) bs).1, (newC h s bad (60000 + j) b).2 ++ (newMH h s bad (j + 1) bs).2)
def heapSrc (h : Heap) : Nat → List (Option AB) → List (Nat × Option Nat)
  | _, [] => []
  | i, some (.cells ys) :: bs => (match h (50000 + i) with
    | some (.cells xs) => resSrcs ys xs
    | _ => []) ++ heapSrc h (i + 1) bs
  | i, _ :: bs => heapSrc h (i + 1) bs
def newSrc (h : Heap) (s : List (Nat × Option Nat)) : Nat → List AB → List (Nat × Option Nat)
  | _, [] => []
  | j, .cells ys :: bs => (match lookK s (60000 + j) with
    | some (some k) => match h k with
      | some (.cells xs) => resSrcs ys xs
      | _ => []
    | _ => []) ++ newSrc h s (j + 1) bs
  | j, _ :: bs => newSrc h s (j + 1) bs
def onlyNew (acc : List (Nat × Option Nat)) : List (Nat × Option Nat) → List (Nat × Option Nat)
  | [] => acc
  | (k, x) :: r => bif Nat.ble 60000 k && (match lookK acc k with | none => true | some _ => false) then onlyNew ((k, x) :: acc) r else onlyNew acc r
def srcH0 (h : Heap) (x : AV) (r : HRes) : List (Nat × Option Nat) := onlyNew [] (resSrc r.res x ++ heapSrc h 0 r.heap)
def srcN (h : Heap) (r : HRes) (s : List (Nat × Option Nat)) : List (Nat × Option Nat) := onlyNew s (newSrc h s 0 r.new)
def srcH (h : Heap) (x : AV) (r : HRes) : List (Nat × Option Nat) := srcN h r (srcN h r (srcH0 h x r))
def frzH (h : Heap) (s : List (Nat × Option Nat)) (x : AV) (r : HRes) : List Nat := (resMH h s (badH r) r.res x).2 ++ ((heapMH h s (badH r) 0 r.heap).2 ++ (newMH h s (badH r) 0 r.new).2)
def retMH2 (h : Heap) (x : AV) (r : HRes) (s : List (Nat × Option Nat)) : Prop :=
  bif nodupB (srcKeys s) && (((srcKeys s).all (badH r)) && ((s.all fun y => Nat.ble 60000 y.1) && (((frzH h s x r).all fun k => !hmem (srcKeys s) k && badH r k) && (r.new.all kindOk && r.heap.all kindO)))) then
    conj ((resMH h s (badH r) r.res x).1 ++ ((heapMH h s (badH r) 0 r.heap).1 ++ (newMH h s (badH r) 0 r.new).1)) else False
def retMH (T : Tab) (st : St) (rs : List ResultVar) (r : HRes) : Prop := match resParts T st rs with
  | none => False
  | some as_ => retMH2 (shrinkV st (resOf as_)).1.h (shrinkV st (resOf as_)).2 r (srcH (shrinkV st (resOf as_)).1.h (shrinkV st (resOf as_)).2 r)
def atRetH (T : Tab) (rs : List ResultVar) (r : HRes) (e : Ex) (st : St) : Prop := match e with
  | .norm => retMH T st rs r
  | .ret => retMH T st rs r
  | _ => False
def vcFnH (E : Env) (L : Nat → Option LoopAnn) (c : Code) (n : Nat) (rs : List ResultVar) (avs : List AV) (hs : List AB) (r : HRes) : Prop :=
  bif Nat.ble avs.length n then vcg E L c (atRetH E.T rs r) (St.initH E.glob n avs hs) else False
section
variable {P : Program} {C : Ctx} {E : Env} {A A' : Nat → Prop} {β β' : Nat → Value} {st : St} {a : Act} {w : World} {T : Tab}
theorem initH_get {G : Nat → Option GD} {n : Nat} {avs : List AV} {hs : List AB} {k : Nat} {ab : AB} (h : (St.initH G n avs hs).h k = some ab) : ∃ i, k = 50000 + i ∧ hs[i]? = some ab := by
  simp only [St.initH] at h
  cases hb : (Nat.ble 50000 k && Nat.blt k 60000) with
  | false => rw [hb] at h; cases h
  | true =>
    rw [hb] at h
    simp only [Bool.and_eq_true] at hb
    have := Nat.le_of_ble_eq_true hb.1
    exact ⟨k - 50000, by omega, h⟩
theorem RelB.initH {G : Nat → Option GD} {args : List Value} {avs : List AV} {hs : List AB} {n : Nat} (hA : ∀ b, A b → b < w.heap.size) (hG : ∀ i d, G i = some d → LaidG w A i d) (hr : AVrels w A β args avs) (hn : avs.length ≤ n)
    (hbr : ∀ i ab, hs[i]? = some ab → BR w A β (50000 + i) ab) (hap : ∀ i j b, i < hs.length → j < hs.length → blkOf (β (50000 + i)) = some b → blkOf (β (50000 + j)) = some b → i = j) :
    RelB ⟨w, A, HM β hs.length, G, β⟩ A β (St.initH G n avs hs) { tmps := args.toArray ++ Array.replicate (n - args.toArray.size) undef, defers := [] } w := by
  have hI := RelB.init (β := β) (G := G) (n := n) hA hG hr hn
  have hk : ∀ k, ((St.initH G n avs hs).h k).isSome → ∃ i, k = 50000 + i ∧ i < hs.length := by
    intro k hk
    obtain ⟨ab, hab⟩ := Option.isSome_iff_exists.1 hk
    obtain ⟨i, h1, h2⟩ := initH_get hab
    exact ⟨i, h1, (List.getElem?_eq_some_iff.1 h2).1⟩
  refine ⟨hI.defers, hI.size, hI.tmps, fun k ab h => ?_, fun k k' b h h' hb hb' => ?_, hI.bound, ⟨rfl, rfl, rfl, Nat.le_refl _, fun b _ _ => rfl⟩, fun b _ h => .inl h, fun b h => h, fun k b h hb => ?_, fun i d h => h, hG, fun k _ => rfl⟩
  · obtain ⟨i, rfl, h2⟩ := initH_get h
    exact hbr i ab h2
  · obtain ⟨i, rfl, h1⟩ := hk k h
    obtain ⟨j, rfl, h2⟩ := hk k' h'
    rw [hap i j b h1 h2 hb hb']
  · obtain ⟨i, rfl, h1⟩ := hk k h
    exact .inr ⟨i, h1, hb⟩
theorem HM_notA {hs : List AB} (hnf : ∀ ab ∈ hs, notFrozen ab = true) (hbr : ∀ i ab, hs[i]? = some ab → BR w A β (50000 + i) ab) : ∀ b, HM β hs.length b → ¬ A b := by
  rintro b ⟨i, hi, hb⟩
  have hg := List.getElem?_eq_getElem hi
  have h := hbr i _ hg
  have hn := hnf _ (List.getElem_mem hi)
  generalize hs[i] = ab at h hn
  cases ab with
  | cells cs =>
    obtain ⟨b', arr, e, h1, h2, h3, _⟩ := h
    rw [h1] at hb; simp only [blkOf, Option.some.injEq] at hb; subst hb; exact h3
  | arr row l =>
    obtain ⟨b', arr, e, h1, h2, h3, _⟩ := h
    rw [h1] at hb; simp only [blkOf, Option.some.injEq] at hb; subst hb; exact h3
  | views e j n m sz =>
    obtain ⟨xs, h1, h2, _⟩ := h
    exact h2 b hb
  | row e row l fr =>
    obtain ⟨xs, h1, h2, h3⟩ := h
    cases fr with
    | true => simp [notFrozen] at hn
    | false => simpa using h3 b hb
theorem RelB.shrink (hB : RelB C A β st a w) {k n e : Nat} {row : List Ty} {l : List (Row row)} {v : Value} (hk : st.h k = some (.row e row l false)) (hv : AVrel w A β v (.pre k n)) :
    RelB C A (setβ β 70000 v) (shrink1 st k n e row l) a w ∧ AVrel w A (setβ β 70000 v) v (.own 70000) := by
  obtain ⟨xs, o1, o2, o3⟩ := own_row hB hk
  have hsp := RdL_split l xs n o2
  have hown : w.ownsRow 0 e row.length v n (xs.take (n * row.length)) ∧ n ≤ l.length ∧ blkOf v = blkOf (β k) := by
    simp only [AVrel] at hv
    rcases hv with ⟨h1, h2, h3⟩ | ⟨b, mm, cap, h1, h2, h3⟩
    · subst h3; subst h2; rw [h1]
      exact ⟨by simpa using World.ownsRow_nil w 0 e row.length, by omega, rfl⟩
    · rcases o1.2 with ⟨g1, _⟩ | ⟨g, cap', cur, g1, g2, g3, g4, g5, g6, g7⟩
      · rw [h1] at g1; cases g1
      · rw [h1] at g1
        simp only [Value.slice.injEq, Option.some.injEq, Addr.mk.injEq, and_true] at g1
        obtain ⟨rfl, rfl, rfl⟩ := g1
        refine ⟨⟨?_, .inr ⟨b, cap, cur, h2, by omega, g3, by omega, g5, g6, ?_⟩⟩, h3, by rw [h1, h2]; rfl⟩
        · rw [List.length_take, o1.1]
          exact Nat.min_eq_left (Nat.mul_le_mul_right _ h3)
        · rw [← g7, List.take_take, Nat.min_eq_left (Nat.mul_le_mul_right _ h3)]
  obtain ⟨hown, hnl, hbv⟩ := hown
  have hone : v.oneCell' = true := by
    simp only [AVrel] at hv
    rcases hv with ⟨_, h2, _⟩ | ⟨b, mm, cap, _, h2, _⟩ <;> subst h2 <;> rfl
  have hs : ∀ j, ((shrink1 st k n e row l).h j).isSome → (j = 70000 ∧ setβ β 70000 v j = v) ∨ (j ≠ 70000 ∧ j ≠ k ∧ (st.h j).isSome ∧ setβ β 70000 v j = β j) := by
    intro j hj
    by_cases h7 : j = 70000
    · subst h7; exact .inl ⟨rfl, by simp [setβ]⟩
    · simp only [shrink1, nbeq_false h7, cond_false] at hj
      by_cases hjk : j = k
      · subst hjk; simp [nbeq_true] at hj
      · rw [nbeq_false hjk] at hj
        refine .inr ⟨h7, hjk, ?_, by simp [setβ, h7]⟩
        cases hh : st.h j with
        | none => rw [hh] at hj; cases hj
        | some x => rfl
  have hb2 : ∀ j b, ((shrink1 st k n e row l).h j).isSome → blkOf (setβ β 70000 v j) = some b → ∃ j', (st.h j').isSome ∧ blkOf (β j') = some b ∧ ((j = 70000 ∧ j' = k) ∨ (j ≠ 70000 ∧ j' = j ∧ j ≠ k)) := by
    intro j b hj hb
    rcases hs j hj with ⟨h1, h2⟩ | ⟨h1, h2, h3, h4⟩
    · rw [h2, hbv] at hb; exact ⟨k, by simp [hk], hb, .inl ⟨h1, rfl⟩⟩
    · rw [h4] at hb; exact ⟨j, h3, hb, .inr ⟨h1, rfl, h2⟩⟩
  refine ⟨⟨hB.defers, hB.size, fun i => AVrel_scrub 70000 v _ _ (hB.tmps i), fun j ab hj => ?_, fun j j' b h1 h2 g1 g2 => ?_, hB.bound, hB.frame, hB.old, hB.base, fun j b h1 g1 => ?_, hB.globs, hB.laid, fun j hj => ?_⟩, ?_⟩
  · by_cases h7 : j = 70000
    · subst h7
      simp only [shrink1, nbeq_true, cond_true, Option.some.injEq] at hj
      subst hj
      have e1 : setβ β 70000 v 70000 = v := by simp [setβ]
      simp only [BR, e1]
      refine ⟨_, ?_, hsp.1, fun b hb => ?_⟩
      · rw [List.length_take, Nat.min_eq_left hnl]; exact hown
      · rw [hbv] at hb; simpa using o3 b hb
    · simp only [shrink1, nbeq_false h7, cond_false] at hj
      by_cases hjk : j = k
      · subst hjk; simp [nbeq_true] at hj
      · rw [nbeq_false hjk] at hj
        cases hh : st.h j with
        | none => rw [hh] at hj; cases hj
        | some x =>
          rw [hh] at hj
          simp only [cond_false, Option.some.injEq] at hj
          subst hj
          exact BR_keep (new := [(70000, .cells [])]) (w' := w) (A' := A) (β' := setβ β 70000 v) (fun q hq => by
            have : ¬ q = 70000 := by rintro rfl; simp [hfind] at hq
            simp [setβ, this]) (by simp [setβ, h7]) (fun b _ => ⟨rfl, id⟩) (fun b hb => ⟨hb, rfl⟩) (hB.blocks j x hh)
  · obtain ⟨i, a1, a2, a3⟩ := hb2 j b h1 g1
    obtain ⟨i', b1, b2, b3⟩ := hb2 j' b h2 g2
    have := hB.apart i i' b a1 b1 a2 b2
    subst this
    rcases a3 with ⟨p1, p2⟩ | ⟨p1, p2, p3⟩ <;> rcases b3 with ⟨q1, q2⟩ | ⟨q1, q2, q3⟩
    · rw [p1, q1]
    · exact absurd (q2.symm.trans p2) q3
    · exact absurd (p2.symm.trans q2) p3
    · exact p2.symm.trans q2
  · obtain ⟨i, a1, a2, _⟩ := hb2 j b h1 g1
    exact hB.mine i b a1 a2
  · have : ¬ j = 70000 := by rintro rfl; simp [inP] at hj
    simp only [setβ, if_neg this]
    exact hB.held j hj
  · simp only [AVrel]
    exact ⟨by simp [setβ], hone⟩
theorem shrinkV_rel (hB : RelB C A β st a w) {x : AV} {v : Value} (hv : AVrel w A β v x) : ∃ β', RelB C A β' (shrinkV st x).1 a w ∧ AVrel w A β' v (shrinkV st x).2 := by
  unfold shrinkV
  split
  · rename_i k n
    split
    · rename_i e row l hk
      obtain ⟨h1, h2⟩ := hB.shrink hk hv
      exact ⟨_, h1, h2⟩
    · exact ⟨β, hB, hv⟩
  · exact ⟨β, hB, hv⟩
mutual
theorem resMH_sound (hB : RelB C A β st a w) {s : List (Nat × Option Nat)} {bad : Nat → Bool} (hA : ∀ b, A b → A' b) (hK : Keyed bad s β β') : ∀ (x y : AV) (v : Value),
    (∀ p ∈ (resMH st.h s bad x y).1, p) → (∀ k ∈ (resMH st.h s bad x y).2, ∀ b, blkOf (β k) = some b → A' b) → AVrel w A β v y → AVrel w A' β' v x ∧ ∀ k ∈ (resMH st.h s bad x y).2, (st.h k).isSome
  | x, y, v, h, hF, hr => by
    generalize he : resMH st.h s bad x y = r at h hF ⊢
    unfold resMH at he
    split at he
    · rename_i r0 l0 k
      subst he
      exact gridM_sound hB hA r0 l0 k v h hF hr
    · rename_i xs ys
      subst he
      simp only [AVrel] at hr ⊢
      obtain ⟨arr, e1, e2⟩ := hr
      obtain ⟨g1, g2⟩ := resMHs_sound hB hA hK xs ys _ h hF e2
      exact ⟨⟨arr, e1, g1⟩, g2⟩
    · rename_i xs ys
      subst he
      simp only [AVrel] at hr ⊢
      obtain ⟨arr, e1, e2⟩ := hr
      obtain ⟨g1, g2⟩ := resMHs_sound hB hA hK xs ys _ h hF e2
      exact ⟨⟨arr, e1, g1⟩, g2⟩
    · subst he
      exact ⟨AVrel_mono (fun b hb => ⟨hA b hb, rfl⟩) _ _ (avm_sound hK _ _ _ h hr), fun k hk => by cases hk⟩
    · subst he
      obtain ⟨g1, g2⟩ := pur1_rel hB hr hA hF
      exact ⟨avm_sound hK _ _ _ h g1, fun k hk => by obtain ⟨e, row, l, fr, hr⟩ := g2 k hk; simp [hr]⟩
theorem resMHs_sound (hB : RelB C A β st a w) {s : List (Nat × Option Nat)} {bad : Nat → Bool} (hA : ∀ b, A b → A' b) (hK : Keyed bad s β β') : ∀ (xs ys : List AV) (vs : List Value),
    (∀ p ∈ (resMHs st.h s bad xs ys).1, p) → (∀ k ∈ (resMHs st.h s bad xs ys).2, ∀ b, blkOf (β k) = some b → A' b) → AVrels w A β vs ys → AVrels w A' β' vs xs ∧ ∀ k ∈ (resMHs st.h s bad xs ys).2, (st.h k).isSome
  | [], [], vs, _, _, hr => by
    simp only [AVrels] at hr ⊢
    exact ⟨hr, fun k hk => by simp [resMHs] at hk⟩
  | x :: xs, y :: ys, vs, h, hF, hr => by
    simp only [resMHs] at h hF ⊢
    obtain ⟨g1, g2⟩ := conj_append h
    simp only [AVrels] at hr ⊢
    obtain ⟨v, vs', e, r1, r2⟩ := hr
    obtain ⟨q1, q2⟩ := resMH_sound hB hA hK x y v g1 (fun k hk => hF k (List.mem_append_left _ hk)) r1
    obtain ⟨q3, q4⟩ := resMHs_sound hB hA hK xs ys vs' g2 (fun k hk => hF k (List.mem_append_right _ hk)) r2
    refine ⟨⟨v, vs', e, q1, q3⟩, fun k hk => ?_⟩
    rcases List.mem_append.1 hk with hk | hk
    · exact q2 k hk
    · exact q4 k hk
  | [], _ :: _, vs, h, _, _ => by simp only [resMHs] at h; exact (one_mem h).elim
  | _ :: _, [], vs, h, _, _ => by simp only [resMHs] at h; exact (one_mem h).elim
end
theorem BR_up {k : Nat} {b : AB} (hA : ∀ b, A b → A' b) (hk : kindOk b = true) (hno : ∀ g, blkOf (β k) = some g → ¬ A g → ¬ A' g) (h : BR w A β k b) : BR w A' β k b := by
  have hK : Keeps w w A A' := fun b hb => ⟨hA b hb, rfl⟩
  cases b with
  | cells cs =>
    obtain ⟨g, arr, e, h1, h2, h3, h4, h5⟩ := h
    exact ⟨g, arr, e, h1, h2, hno g (by rw [h1]; rfl) h3, AVrels_mono hK _ _ h4, h5⟩
  | arr row l =>
    obtain ⟨g, arr, e, h1, h2, h3, h4⟩ := h
    exact ⟨g, arr, e, h1, h2, hno g (by rw [h1]; rfl) h3, RdL_mono (fun c x hx => RdV_mono hK row c x hx) l _ h4⟩
  | views e j n m sz => simp [kindOk] at hk
  | row e row l fr =>
    cases fr with
    | true => simp [kindOk] at hk
    | false =>
      obtain ⟨xs, x1, x2, x3⟩ := h
      refine ⟨xs, x1, RdL_mono (fun c x hx => RdV_mono hK row c x hx) l xs x2, fun b hb => ?_⟩
      have := x3 b hb
      simp only [Bool.false_eq_true, if_false] at this ⊢
      exact hno b hb this
theorem abMH_sound (hB : RelB C A β st a w) {s : List (Nat × Option Nat)} {bad : Nat → Bool} (hA : ∀ b, A b → A' b) (hK : Keyed bad s β β') {k K : Nat} {b : AB} (hk : β' K = β k) (hkind : kindOk b = true)
    (h : ∀ p ∈ (abMH st.h s bad (st.h k) b).1, p) (hF : ∀ q ∈ (abMH st.h s bad (st.h k) b).2, ∀ g, blkOf (β q) = some g → A' g) (hno : ∀ g, blkOf (β k) = some g → ¬ A g → ¬ A' g) : BR w A' β' K b := by
  generalize he : abMH st.h s bad (st.h k) b = r at h hF
  unfold abMH at he
  split at he
  · rename_i xs ys hst
    subst he
    obtain ⟨g, arr, e, h1, h2, h3, h4, h5⟩ := hB.blocks k _ hst
    obtain ⟨q1, _⟩ := resMHs_sound hB hA hK ys xs _ h hF h4
    exact ⟨g, arr, e, hk.trans h1, h2, hno g (by rw [h1]; rfl) h3, q1, h5⟩
  · subst he
    obtain ⟨c, hc⟩ := abm_live h
    rw [hc] at h
    exact BR_up hA hkind (by rw [hk]; exact hno) (abm_sound hK hk h (hB.blocks k c hc))
theorem abMH_live (hB : RelB C A β st a w) {s : List (Nat × Option Nat)} {bad : Nat → Bool} (hK : Keyed bad s β β') {k : Nat} {b : AB}
    (h : ∀ p ∈ (abMH st.h s bad (st.h k) b).1, p) : (st.h k).isSome ∧ ∀ q ∈ (abMH st.h s bad (st.h k) b).2, (st.h q).isSome := by
  generalize he : abMH st.h s bad (st.h k) b = r at h ⊢
  unfold abMH at he
  split at he
  · rename_i xs ys hst
    subst he
    obtain ⟨g, arr, e, h1, h2, h3, h4, h5⟩ := hB.blocks k _ hst
    exact ⟨by simp [hst], (resMHs_sound (A' := fun _ => True) hB (fun _ _ => trivial) hK ys xs _ h (fun _ _ _ _ => trivial) h4).2⟩
  · subst he
    obtain ⟨c, hc⟩ := abm_live h
    exact ⟨by simp [hc], fun q hq => by cases hq⟩
theorem heapMH_mem {h : Heap} {s : List (Nat × Option Nat)} {bad : Nat → Bool} : ∀ (bs : List (Option AB)) (i j : Nat) (b : AB), bs[j]? = some (some b) →
    (∀ p ∈ (abMH h s bad (h (50000 + (i + j))) b).1, p ∈ (heapMH h s bad i bs).1) ∧ ∀ p ∈ (abMH h s bad (h (50000 + (i + j))) b).2, p ∈ (heapMH h s bad i bs).2
  | some b0 :: bs, i, 0, b, hb => by
    simp only [List.getElem?_cons_zero, Option.some.injEq] at hb
    subst hb
    simp only [heapMH]
    exact ⟨fun p hp => List.mem_append_left _ hp, fun p hp => List.mem_append_left _ hp⟩
  | some b0 :: bs, i, j + 1, b, hb => by
    simp only [heapMH]
    have := heapMH_mem (h := h) (s := s) (bad := bad) bs (i + 1) j b (by simpa using hb)
    rw [show i + 1 + j = i + (j + 1) by omega] at this
    exact ⟨fun p hp => List.mem_append_right _ (this.1 p hp), fun p hp => List.mem_append_right _ (this.2 p hp)⟩
  | none :: bs, i, 0, b, hb => by simp at hb
  | none :: bs, i, j + 1, b, hb => by
    simp only [heapMH]
    have := heapMH_mem (h := h) (s := s) (bad := bad) bs (i + 1) j b (by simpa using hb)
    rwa [show i + 1 + j = i + (j + 1) by omega] at this
theorem heapMH_inv {h : Heap} {s : List (Nat × Option Nat)} {bad : Nat → Bool} : ∀ (bs : List (Option AB)) (i : Nat) (q : Nat), q ∈ (heapMH h s bad i bs).2 →
    ∃ (j : Nat) (b : AB), bs[j]? = some (some b) ∧ q ∈ (abMH h s bad (h (50000 + (i + j))) b).2
  | [], i, q, hq => by simp [heapMH] at hq
  | some b0 :: bs, i, q, hq => by
    simp only [heapMH, List.mem_append] at hq
    rcases hq with hq | hq
    · exact ⟨0, b0, rfl, hq⟩
    · obtain ⟨j, b, h1, h2⟩ := heapMH_inv bs (i + 1) q hq
      exact ⟨j + 1, b, by simpa using h1, by rwa [show i + 1 + j = i + (j + 1) by omega] at h2⟩
  | none :: bs, i, q, hq => by
    simp only [heapMH] at hq
    obtain ⟨j, b, h1, h2⟩ := heapMH_inv bs (i + 1) q hq
    exact ⟨j + 1, b, by simpa using h1, by rwa [show i + 1 + j = i + (j + 1) by omega] at h2⟩
theorem newMH_mem {h : Heap} {s : List (Nat × Option Nat)} {bad : Nat → Bool} : ∀ (bs : List AB) (i j : Nat) (b : AB), bs[j]? = some b →
    (∀ p ∈ (newC h s bad (60000 + (i + j)) b).1, p ∈ (newMH h s bad i bs).1) ∧ ∀ p ∈ (newC h s bad (60000 + (i + j)) b).2, p ∈ (newMH h s bad i bs).2
  | b0 :: bs, i, 0, b, hb => by
    simp only [List.getElem?_cons_zero, Option.some.injEq] at hb
    subst hb
    simp only [newMH]
    exact ⟨fun p hp => List.mem_append_left _ hp, fun p hp => List.mem_append_left _ hp⟩
  | b0 :: bs, i, j + 1, b, hb => by
    simp only [newMH]
    have := newMH_mem (h := h) (s := s) (bad := bad) bs (i + 1) j b (by simpa using hb)
    rw [show i + 1 + j = i + (j + 1) by omega] at this
    exact ⟨fun p hp => List.mem_append_right _ (this.1 p hp), fun p hp => List.mem_append_right _ (this.2 p hp)⟩
theorem newMH_inv {h : Heap} {s : List (Nat × Option Nat)} {bad : Nat → Bool} : ∀ (bs : List AB) (i : Nat) (q : Nat), q ∈ (newMH h s bad i bs).2 →
    ∃ (j : Nat) (b : AB), bs[j]? = some b ∧ q ∈ (newC h s bad (60000 + (i + j)) b).2
  | [], i, q, hq => by simp [newMH] at hq
  | b0 :: bs, i, q, hq => by
    simp only [newMH, List.mem_append] at hq
    rcases hq with hq | hq
    · exact ⟨0, b0, rfl, hq⟩
    · obtain ⟨j, b, h1, h2⟩ := newMH_inv bs (i + 1) q hq
      exact ⟨j + 1, b, by simpa using h1, by rwa [show i + 1 + j = i + (j + 1) by omega] at h2⟩
theorem results_val (hT : TabOk T P) {fn : Func} (hB : RelB C A β st a w) {as_ : List AV} (h : resParts T st fn.results.toList = some as_) : ∃ v, (results fn a.tmps).run P w = .ok v w ∧ AVrel w A β v (resOf as_) := by
  obtain ⟨vs, p1, p2⟩ := parts_sound hT hB fn.results.toList as_ h
  have hl := AVrels_length as_ vs p2
  refine ⟨if h : vs.toArray.size = 1 then vs.toArray[0] else .tuple vs.toArray, ?_, ?_⟩
  · rw [results_eq, Array.mapM_eq_mapM_toList]
    simp only [Sem.run_bind, map_eq_pure_bind, p1, Result.andThen_ok, Sem.run_pure]
  · match as_, vs, hl, p2 with
    | [x], [v], _, p2 =>
      simp only [AVrels] at p2
      obtain ⟨v', vs', e, g1, _⟩ := p2
      simp only [List.cons.injEq] at e
      rw [e.1]
      simpa [resOf] using g1
    | [], [], _, p2 =>
      simp only [resOf]
      simp [AVrel, AVrels]
    | x :: y :: l, v :: u :: m, _, p2 =>
      have hne : ¬ (v :: u :: m).toArray.size = 1 := by simp
      rw [dif_neg hne]
      simp only [resOf, AVrel]
      exact ⟨_, rfl, by simpa using p2⟩
theorem retH2_sound {w0 : World} {A0 : Nat → Prop} {G : Nat → Option GD} {β0 β1 : Nat → Value} {n : Nat} (hB : RelB ⟨w0, A0, HM β0 n, G, β0⟩ A β1 st a w) {r : HRes} {x : AV} {v : Value} {s : List (Nat × Option Nat)}
    (hn : r.heap.length = n) (hn100 : n ≤ 100) (hA0 : ∀ b, HM β0 n b → ¬ A0 b) (hAb : ∀ b, A0 b → b < w0.heap.size) (hv2 : AVrel w A β1 v x) (h : retMH2 st.h x r s) :
    ∃ A' β', HPost w0 A0 β0 n w v r A' β' := by
  unfold retMH2 at h
  cases hq : (nodupB (srcKeys s) && (((srcKeys s).all (badH r)) && ((s.all fun y => Nat.ble 60000 y.1) && (((frzH st.h s x r).all fun k => !hmem (srcKeys s) k && badH r k) && (r.new.all kindOk && r.heap.all kindO))))) with
  | false => rw [hq] at h; exact h.elim
  | true =>
    rw [hq] at h
    simp only [cond_true] at h
    simp only [Bool.and_eq_true, List.all_eq_true] at hq
    obtain ⟨q1, q2, q3, q4, q5, q6⟩ := hq
    obtain ⟨c1, c2⟩ := conj_append (conj_all _ h)
    obtain ⟨c2, c3⟩ := conj_append c2
    let F := frzH st.h s x r
    let β2 : Nat → Value := fun i => match lookK s i with
      | some (some k) => β1 k
      | some none => nilV
      | none => β1 i
    have h60 : ∀ K y, lookK s K = some y → 60000 ≤ K := by
      have : ∀ (l : List (Nat × Option Nat)), (∀ z ∈ l, Nat.ble 60000 z.1 = true) → ∀ K y, lookK l K = some y → 60000 ≤ K := by
        intro l
        induction l with
        | nil => intro _ K y h; cases h
        | cons z l ih =>
          intro hl K y h
          obtain ⟨z1, z2⟩ := z
          simp only [lookK] at h
          cases hb : Nat.beq K z1 with
          | true => rw [Nat.eq_of_beq_eq_true hb]; exact Nat.le_of_ble_eq_true (hl _ (List.mem_cons_self ..))
          | false => rw [hb] at h; exact ih (fun z hz => hl z (List.mem_cons_of_mem _ hz)) K y h
      exact this s q3
    have hkept : ∀ K, badH r K = false → inP K = true ∧ lookK s K = none ∧ ∃ ab, r.heap[K - 50000]? = some (some ab) := by
      intro K hK
      simp only [badH, keptH, Bool.not_eq_false', Bool.and_eq_true] at hK
      obtain ⟨k1, k2⟩ := hK
      refine ⟨k1, ?_, ?_⟩
      · cases hl : lookK s K with
        | none => rfl
        | some y =>
          have := h60 K y hl
          simp only [inP, Bool.and_eq_true] at k1
          have := Nat.le_of_ble_eq_true k1.2
          omega
      · split at k2
        · rename_i ab hab; exact ⟨ab, hab⟩
        · cases k2
    have hKd : Keyed (badH r) s β1 β2 := ⟨fun K k h => by simp only [β2, h], fun K h => by simp only [β2, h], fun K h _ => by simp only [β2, h], fun K h => by simp only [β2, (hkept K h).2.1]⟩
    have hheap : ∀ i ab, r.heap[i]? = some (some ab) → i < 100 ∧ badH r (50000 + i) = false ∧ β2 (50000 + i) = β1 (50000 + i) ∧ β1 (50000 + i) = β0 (50000 + i) := by
      intro i ab hi
      have hlt := (List.getElem?_eq_some_iff.1 hi).1
      have hip : inP (50000 + i) = true := by
        simp only [inP, Bool.and_eq_true]
        exact ⟨Nat.ble_eq_true_of_le (by omega), Nat.ble_eq_true_of_le (by omega)⟩
      have hb : badH r (50000 + i) = false := by
        simp only [badH, keptH, hip, Bool.true_and, Nat.add_sub_cancel_left, hi, Bool.not_true]
      exact ⟨by omega, hb, by simp only [β2, (hkept _ hb).2.1], hB.held _ hip⟩
    have hFlive : ∀ q ∈ F, (st.h q).isSome := by
      intro q hq
      simp only [F, frzH, List.mem_append] at hq
      rcases hq with hq | hq | hq
      · exact (resMH_sound (A' := fun _ => True) hB (fun _ _ => trivial) hKd r.res x v c1 (fun _ _ _ _ => trivial) hv2).2 q hq
      · obtain ⟨j, b, h1, h2⟩ := heapMH_inv _ _ _ hq
        have hm := heapMH_mem (h := st.h) (s := s) (bad := badH r) r.heap 0 j b h1
        exact (abMH_live hB hKd (fun p hp => c2 p (hm.1 p hp))).2 q h2
      · obtain ⟨j, b, h1, h2⟩ := newMH_inv _ _ _ hq
        have hm := newMH_mem (h := st.h) (s := s) (bad := badH r) r.new 0 j b h1
        have hc : ∀ p ∈ (newC st.h s (badH r) (60000 + (0 + j)) b).1, p := fun p hp => c3 p (hm.1 p hp)
        generalize hg : newC st.h s (badH r) (60000 + (0 + j)) b = g at hc h2
        unfold newC at hg
        split at hg
        · subst hg; exact (abMH_live hB hKd hc).2 q h2
        · split at hg <;> (subst hg; cases h2)
        · subst hg; cases h2
    have hFA : ∀ q ∈ F, ∀ b, blkOf (β1 q) = some b → frozenA A β1 F b := fun q hq b hb => .inr ⟨q, hq, hb⟩
    have hAA : ∀ b, A b → frozenA A β1 F b := fun b hb => .inl hb
    have hno : ∀ k, (st.h k).isSome → k ∉ F → ∀ g, blkOf (β1 k) = some g → ¬ A g → ¬ frozenA A β1 F g := by
      rintro k hk hkF g hg hnA (hAg | ⟨j, hj, hjg⟩)
      · exact hnA hAg
      · have := hB.apart j k g (hFlive j hj) hk hjg hg
        subst this
        exact hkF hj
    have hnotF : ∀ k, (k ∈ srcKeys s ∨ badH r k = false) → k ∉ F := by
      rintro k hk hF
      have h4 := q4 k hF
      rcases hk with hk | hk
      · have := hmem_mem.2 hk
        rw [this] at h4; simp at h4
      · rw [hk] at h4; simp at h4
    have hK1 : ∀ i ab, r.heap[i]? = some (some ab) → BR w (frozenA A β1 F) β2 (50000 + i) ab ∧ (st.h (50000 + i)).isSome := by
      intro i ab hi
      obtain ⟨_, hb, hβ, _⟩ := hheap i ab hi
      have hm := heapMH_mem (h := st.h) (s := s) (bad := badH r) r.heap 0 i ab hi
      rw [Nat.zero_add] at hm
      have hl := abMH_live (k := 50000 + i) hB hKd (fun p hp => c2 p (hm.1 p hp))
      have hkind : kindOk ab = true := q6 _ (List.mem_of_getElem? hi)
      exact ⟨abMH_sound hB hAA hKd hβ hkind (fun p hp => c2 p (hm.1 p hp)) (fun q hq => hFA q (by simp only [F, frzH, List.mem_append]; exact .inr (.inl (hm.2 q hq)))) (hno _ hl.1 (hnotF _ (.inr hb))), hl.1⟩
    have hN1 : ∀ j ab, r.new[j]? = some ab → BR w (frozenA A β1 F) β2 (60000 + j) ab ∧ (β2 (60000 + j) = nilV ∨ ∃ k, lookK s (60000 + j) = some (some k) ∧ β2 (60000 + j) = β1 k ∧ (st.h k).isSome) := by
      intro j ab hj
      have hm := newMH_mem (h := st.h) (s := s) (bad := badH r) r.new 0 j ab hj
      rw [Nat.zero_add] at hm
      have hc : ∀ p ∈ (newC st.h s (badH r) (60000 + j) ab).1, p := fun p hp => c3 p (hm.1 p hp)
      have hf : ∀ q ∈ (newC st.h s (badH r) (60000 + j) ab).2, q ∈ F := fun q hq => by simp only [F, frzH, List.mem_append]; exact .inr (.inr (hm.2 q hq))
      have hkind : kindOk ab = true := q5 _ (List.mem_of_getElem? hj)
      generalize hg : newC st.h s (badH r) (60000 + j) ab = g at hc hf
      unfold newC at hg
      split at hg
      · rename_i k hk
        subst hg
        have hβ : β2 (60000 + j) = β1 k := by simp only [β2, hk]
        have hl := abMH_live (k := k) hB hKd hc
        exact ⟨abMH_sound hB hAA hKd hβ hkind hc (fun q hq => hFA q (hf q hq)) (hno _ hl.1 (hnotF _ (.inl (srcKeys_mem s _ _ hk)))), .inr ⟨k, hk, hβ, hl.1⟩⟩
      · rename_i hk
        have hβ : β2 (60000 + j) = nilV := by simp only [β2, hk]
        split at hg
        · subst hg
          exact ⟨BR_nil hβ (one_mem hc), .inl hβ⟩
        · subst hg; exact (one_mem hc).elim
      · subst hg; exact (one_mem hc).elim
    have hres := (resMH_sound hB hAA hKd r.res x v c1 (fun q hq => hFA q (by simp only [F, frzH, List.mem_append]; exact .inl hq)) hv2).1
    have hlive : ∀ k b, liveK r k → blkOf (β2 k) = some b → ∃ k', (st.h k').isSome ∧ blkOf (β1 k') = some b ∧ ((badH r k = false ∧ k' = k) ∨ lookK s k = some (some k')) := by
      rintro k b (⟨i, ab, rfl, _, hi⟩ | ⟨j, rfl, hj⟩) hb
      · obtain ⟨_, h1, h2, _⟩ := hheap i ab hi
        rw [h2] at hb
        exact ⟨_, (hK1 i ab hi).2, hb, .inl ⟨h1, rfl⟩⟩
      · rcases (hN1 j _ (List.getElem?_eq_getElem hj)).2 with h | ⟨k, h1, h2, h3⟩
        · rw [h] at hb; simp [nilV, blkOf] at hb
        · rw [h2] at hb; exact ⟨k, h3, hb, .inr h1⟩
    refine ⟨frozenA A β1 F, β2, ⟨hB.frame.os, hB.frame.tape, hB.frame.output, hB.frame.size, fun b hb hM => hB.frame.block b hb hM, fun b hb => ⟨.inl (hB.base b hb), hB.frame.block b (hAb b hb) fun hM => hA0 b hM hb⟩, fun b hb hA' => ?_, fun b hb => ?_, hres, fun i ab hi => ⟨(hK1 i ab hi).1, (hheap i ab hi).2.2.1.trans (hheap i ab hi).2.2.2⟩, fun j ab hj => ⟨(hN1 j ab hj).1, fun b hb => ?_⟩, fun k k' b h1 h2 g1 g2 => ?_⟩⟩
    · rcases hA' with hA' | ⟨j, hj, hjb⟩
      · exact hB.old b hb hA'
      · rcases hB.mine j b (hFlive j hj) hjb with h | h
        · exact absurd hb (Nat.not_lt.2 h)
        · exact .inr h
    · rcases hb with hb | ⟨j, hj, hjb⟩
      · exact hB.bound b hb
      · exact live_lt hB (hFlive j hj) hjb
    · obtain ⟨k, g1, g2, _⟩ := hlive _ b (.inr ⟨j, rfl, (List.getElem?_eq_some_iff.1 hj).1⟩) hb
      exact hB.mine k b g1 g2
    · obtain ⟨j, a1, a2, a3⟩ := hlive k b h1 g1
      obtain ⟨j', b1, b2, b3⟩ := hlive k' b h2 g2
      have := hB.apart j j' b a1 b1 a2 b2
      subst this
      rcases a3 with ⟨p1, p2⟩ | p1 <;> rcases b3 with ⟨r1, r2⟩ | r1
      · exact p2.symm.trans r2
      · have := q2 j (srcKeys_mem s _ _ r1)
        rw [p2, p1] at this; cases this
      · have := q2 j (srcKeys_mem s _ _ p1)
        rw [r2, r1] at this; cases this
      · exact lookK_inj s q1 k k' j p1 r1
theorem retH_sound (hT : TabOk T P) {fn : Func} {w0 : World} {A0 : Nat → Prop} {G : Nat → Option GD} {β0 : Nat → Value} {n : Nat} (hB : RelB ⟨w0, A0, HM β0 n, G, β0⟩ A β st a w) {r : HRes}
    (hn : r.heap.length = n) (hn100 : n ≤ 100) (hA0 : ∀ b, HM β0 n b → ¬ A0 b) (hAb : ∀ b, A0 b → b < w0.heap.size) (h : retMH T st fn.results.toList r) :
    ∃ v, (results fn a.tmps).run P w = .ok v w ∧ ∃ A' β', HPost w0 A0 β0 n w v r A' β' := by
  unfold retMH at h
  split at h
  · exact h.elim
  · rename_i as_ has
    obtain ⟨v, hv1, hv2⟩ := results_val hT hB has
    obtain ⟨β1, hB, hv2⟩ := shrinkV_rel hB hv2
    exact ⟨v, hv1, retH2_sound hB hn hn100 hA0 hAb hv2 h⟩
theorem valid_of_vcH (hE : EnvOk P E) (hm : P.follows .mixedOrders = true) {f : FuncId} {fn : Func} {c : Code} {s : HSig} (L : List AV → List AB → Nat → Option LoopAnn) (hf : P.funcs[f]? = some fn) (hb : fn.body = some c)
    (hnf : ∀ avs hs r, s avs hs = some r → ∀ ab ∈ hs, notFrozen ab = true)
    (h : ∀ avs hs r, s avs hs = some r → r.pre → vcFnH E (L avs hs) c fn.ntmps fn.results.toList avs hs r) : ValidH P E.glob f s := by
  intro w A β args avs hs r hA hG hargs hbr hap hsr hp hlen h100
  have hvc := h avs hs r hsr hp
  unfold vcFnH at hvc
  cases hn : Nat.ble avs.length fn.ntmps with
  | false => rw [hn] at hvc; exact hvc.elim
  | true =>
    rw [hn] at hvc
    refine calls_of_wp hf hb (vcg_sound (C := ⟨w, A, HM β hs.length, E.glob, β⟩) ⟨hE, rfl⟩ hm c _ _ _ w _ hvc ⟨A, β, RelB.initH hA hG hargs (Nat.le_of_ble_eq_true hn) hbr hap⟩ ?_)
    intro e st' a' w' hk _ hR
    obtain ⟨A', β', hB⟩ := hR
    have key : retMH E.T st' fn.results.toList r → bodyPost P fn (fun e w' => ∃ v, e = .returned v ∧ ∃ A' β', HPost w A β hs.length w' v r A' β') .ret a' w' := by
      intro hk
      obtain ⟨v, h1, A2, β2, h2⟩ := retH_sound hE.tab hB hlen h100 (HM_notA (hnf avs hs r hsr) hbr) hA hk
      exact ⟨hB.defers, v, h1, v, rfl, A2, β2, h2⟩
    cases e with
    | norm => exact key hk
    | ret => exact key hk
    | exit i => exact hk.elim
end
end Go.Vg
end
section
namespace Go.Vg
open Go
inductive TA where
  | dat (t : Ty)
  | own (k : Nat)
  | ref (k off : Nat)
  | nil
  | nilp
  | nilf
  | agg (l : List TA)
  | fn (f : Fn) (first caps : List TA)
mutual
@[reducible] def TA.tys : TA → List Ty
  | .dat t => [t]
  | .agg l => TA.tyss l
  | .fn _ l m => TA.tyss l ++ TA.tyss m
  | _ => []
@[reducible] def TA.tyss : List TA → List Ty
  | [] => []
  | t :: ts => TA.tys t ++ TA.tyss ts
end
mutual
def TA.get : TA → AV → Option (List AV)
  | .dat _, a => some [a]
  | .own k, .own k' => bif Nat.beq k k' then some [] else none
  | .ref k o, .ref k' o' => bif Nat.beq k k' && Nat.beq o o' then some [] else none
  | .nil, .nil => some []
  | .nilp, .nilp => some []
  | .nilf, .nilf => some []
  | .agg l, .agg cs => TA.gets l cs
  | .fn f l m, .fn f' cs ds => if f = f' then catO (TA.gets l cs) (TA.gets m ds) else none
  | _, _ => none
def TA.gets : List TA → List AV → Option (List AV)
  | [], [] => some []
  | t :: ts, a :: as_ => catO (TA.get t a) (TA.gets ts as_)
  | _, _ => none
end
mutual
def TA.put : TA → List AV → AV
  | .dat _, cs => cs.headD .junk
  | .own k, _ => .own k
  | .ref k o, _ => .ref k o
  | .nil, _ => .nil
  | .nilp, _ => .nilp
  | .nilf, _ => .nilf
  | .agg l, cs => .agg (TA.puts l cs)
  | .fn f l m, cs => .fn f (TA.puts l (cs.take (TA.tyss l).length)) (TA.puts m (cs.drop (TA.tyss l).length))
def TA.puts : List TA → List AV → List AV
  | [], _ => []
  | t :: ts, cs => TA.put t (cs.take (TA.tys t).length) :: TA.puts ts (cs.drop (TA.tys t).length)
end
inductive TB where
  | row (e : Nat) (row : List Ty)
  | cells (l : List TA)
  | arr (row : List Ty)
@[reducible] def TB.D : TB → Type
  | .row _ r => List (Row r)
  | .cells l => Row (TA.tyss l)
  | .arr r => List (Row r)
@[reducible] def BsD : List TB → Type
  | [] => Unit
  | b :: bs => TB.D b × BsD bs
def TB.get : (b : TB) → AB → Option (TB.D b)
  | .row e r, .row e' r' l false => bif Nat.beq e e' then castL r' r l else none
  | .cells ts, .cells cs => match TA.gets ts cs with
    | some as_ => toRow (TA.tyss ts) as_
    | none => none
  | .arr r, .arr r' l => castL r' r l
  | _, _ => none
def TB.put : (b : TB) → TB.D b → AB
  | .row e r, l => .row e r l false
  | .cells ts, x => .cells (TA.puts ts (rowAVs (TA.tyss ts) x))
  | .arr r, l => .arr r l
def TB.ok : (b : TB) → TB.D b → Prop
  | .row _ r, l => D.ok (.slice r) l
  | .cells ts, x => Row.ok (TA.tyss ts) x
  | .arr _, _ => True
def BsD.get : (bs : List TB) → List AB → Option (BsD bs)
  | [], [] => some ()
  | b :: bs, h :: hs => match TB.get b h, BsD.get bs hs with
    | some x, some y => some (x, y)
    | _, _ => none
  | _, _ => none
def BsD.put : (bs : List TB) → BsD bs → List AB
  | [], _ => []
  | b :: bs, x => TB.put b x.1 :: BsD.put bs x.2
def BsD.ok : (bs : List TB) → BsD bs → Prop
  | [], _ => True
  | b :: bs, x => TB.ok b x.1 ∧ BsD.ok bs x.2
def hsigOf (ts : List TA) (bs : List TB) (F : Row (TA.tyss ts) → BsD bs → HRes) : HSig := fun avs hs => match TA.gets ts avs with
  | some cs => match toRow (TA.tyss ts) cs, BsD.get bs hs with
    | some x, some y => some (F x y)
    | _, _ => none
  | none => none
def hsigOr (s t : HSig) : HSig := fun avs hs => match s avs hs with
  | some r => some r
  | none => t avs hs
section
variable {P : Program} {E : Env} {w : World} {A : Nat → Prop} {β : Nat → Value}
theorem catO_some {α : Type} {a b : Option (List α)} {c : List α} (h : catO a b = some c) : ∃ x y, a = some x ∧ b = some y ∧ c = x ++ y := by
  cases a with
  | none => simp [catO] at h
  | some x =>
    cases b with
    | none => simp [catO] at h
    | some y => simp only [catO, Option.some.injEq] at h; exact ⟨x, y, rfl, rfl, h.symm⟩
theorem AVrels_cut {as_ bs cs' : List AV} {us vs : List Value} (h1 : AVrels w A β us as_) (hl : cs'.length = (as_ ++ bs).length) (h : AVrels w A β (us ++ vs) cs') :
    AVrels w A β us (cs'.take as_.length) ∧ AVrels w A β vs (cs'.drop as_.length) := by
  obtain ⟨us', ws, e, r1, r2⟩ := AVrels_split_of (cs'.take as_.length) (cs'.drop as_.length) _ (by rw [List.take_append_drop]; exact h)
  have hu : us'.length = us.length := by
    rw [AVrels_len _ _ r1, AVrels_len _ _ h1, List.length_take]
    simp at hl; omega
  obtain ⟨e1, e2⟩ := List.append_inj e hu.symm
  subst e1; subst e2
  exact ⟨r1, r2⟩
mutual
theorem TA_rel : ∀ (t : TA) (a : AV) (cs : List AV) (v : Value), TA.get t a = some cs → AVrel w A β v a →
    cs.length = (TA.tys t).length ∧ ∃ vs, AVrels w A β vs cs ∧ ∀ cs', cs'.length = cs.length → AVrels w A β vs cs' → AVrel w A β v (TA.put t cs')
  | t, a, cs, v, h, hr => by
    unfold TA.get at h
    split at h
    · simp only [Option.some.injEq] at h
      subst h
      refine ⟨rfl, [v], by simp only [AVrels]; exact ⟨v, [], rfl, hr, rfl⟩, fun cs' hl hr' => ?_⟩
      match cs', hl with
      | [c], _ =>
        simp only [AVrels] at hr'
        obtain ⟨v', vs', e, r1, r2⟩ := hr'
        simp only [List.cons.injEq] at e
        obtain ⟨rfl, rfl⟩ := e
        simpa only [TA.put, List.headD] using r1
    · rename_i k k'
      cases hb : Nat.beq k k' with
      | false => rw [hb] at h; cases h
      | true =>
        rw [hb] at h
        simp only [cond_true, Option.some.injEq] at h
        subst h
        have := Nat.eq_of_beq_eq_true hb
        subst this
        exact ⟨rfl, [], by simp [AVrels], fun cs' _ _ => by simpa only [TA.put] using hr⟩
    · rename_i k o k' o'
      cases hb : (Nat.beq k k' && Nat.beq o o') with
      | false => rw [hb] at h; cases h
      | true =>
        rw [hb] at h
        simp only [cond_true, Option.some.injEq] at h
        subst h
        simp only [Bool.and_eq_true] at hb
        have h1 := Nat.eq_of_beq_eq_true hb.1
        have h2 := Nat.eq_of_beq_eq_true hb.2
        subst h1; subst h2
        exact ⟨rfl, [], by simp [AVrels], fun cs' _ _ => by simpa only [TA.put] using hr⟩
    · simp only [Option.some.injEq] at h
      subst h
      exact ⟨rfl, [], by simp [AVrels], fun cs' _ _ => by simpa only [TA.put] using hr⟩
    · simp only [Option.some.injEq] at h
      subst h
      exact ⟨rfl, [], by simp [AVrels], fun cs' _ _ => by simpa only [TA.put] using hr⟩
    · simp only [Option.some.injEq] at h
      subst h
      exact ⟨rfl, [], by simp [AVrels], fun cs' _ _ => by simpa only [TA.put] using hr⟩
    · rename_i l ds
      simp only [AVrel] at hr
      obtain ⟨arr, rfl, hr⟩ := hr
      obtain ⟨g1, vs, g2, g3⟩ := TAs_rel l ds cs _ h hr
      exact ⟨g1, vs, g2, fun cs' hl hr' => by simp only [TA.put, AVrel]; exact ⟨arr, rfl, g3 cs' hl hr'⟩⟩
    · rename_i f l m f' ds es
      split at h
      · rename_i hf
        subst hf
        obtain ⟨x, y, hx, hy, rfl⟩ := catO_some h
        simp only [AVrel] at hr
        obtain ⟨a1, a2, rfl, r1, r2⟩ := hr
        obtain ⟨g1, us, g2, g3⟩ := TAs_rel l ds x _ hx r1
        obtain ⟨q1, vs, q2, q3⟩ := TAs_rel m es y _ hy r2
        refine ⟨by simp [g1, q1], us ++ vs, AVrels_append_of _ _ _ _ g2 q2, fun cs' hl hr' => ?_⟩
        obtain ⟨p1, p2⟩ := AVrels_cut g2 hl hr'
        simp only [TA.put, AVrel]
        rw [← g1]
        refine ⟨a1, a2, rfl, g3 _ ?_ p1, q3 _ ?_ p2⟩
        · simp at hl ⊢; omega
        · simp at hl ⊢; omega
      · cases h
    · cases h
theorem TAs_rel : ∀ (ts : List TA) (as_ cs : List AV) (vs0 : List Value), TA.gets ts as_ = some cs → AVrels w A β vs0 as_ →
    cs.length = (TA.tyss ts).length ∧ ∃ vs, AVrels w A β vs cs ∧ ∀ cs', cs'.length = cs.length → AVrels w A β vs cs' → AVrels w A β vs0 (TA.puts ts cs')
  | [], [], cs, vs0, h, hr => by
    simp only [TA.gets, Option.some.injEq] at h
    subst h
    exact ⟨rfl, [], by simp [AVrels], fun cs' _ _ => by simpa only [TA.puts] using hr⟩
  | t :: ts, a :: as_, cs, vs0, h, hr => by
    simp only [TA.gets] at h
    obtain ⟨x, y, hx, hy, rfl⟩ := catO_some h
    simp only [AVrels] at hr
    obtain ⟨v, vs1, rfl, r1, r2⟩ := hr
    obtain ⟨g1, us, g2, g3⟩ := TA_rel t a x v hx r1
    obtain ⟨q1, vs, q2, q3⟩ := TAs_rel ts as_ y vs1 hy r2
    refine ⟨by simp [g1, q1], us ++ vs, AVrels_append_of _ _ _ _ g2 q2, fun cs' hl hr' => ?_⟩
    obtain ⟨p1, p2⟩ := AVrels_cut g2 hl hr'
    simp only [TA.puts, AVrels]
    rw [← g1]
    refine ⟨v, vs1, rfl, g3 _ ?_ p1, q3 _ ?_ p2⟩
    · simp at hl ⊢; omega
    · simp at hl ⊢; omega
  | [], _ :: _, cs, vs0, h, _ => by simp [TA.gets] at h
  | _ :: _, [], cs, vs0, h, _ => by simp [TA.gets] at h
end
theorem TAs_data {ts : List TA} {as_ cs : List AV} {vs0 : List Value} {x : Row (TA.tyss ts)} (h : TA.gets ts as_ = some cs) (hx : toRow (TA.tyss ts) cs = some x) (hr : AVrels w A β vs0 as_) :
    AVrels w A β vs0 (TA.puts ts (rowAVs (TA.tyss ts) x)) ∧ Row.ok (TA.tyss ts) x := by
  obtain ⟨g1, vs, g2, g3⟩ := TAs_rel ts as_ cs vs0 h hr
  have hv := toRow_rel _ _ _ _ g2 hx
  exact ⟨g3 _ (by rw [rowAVs_length, g1]) (rowAVs_rel _ _ _ hv), RdV_ok _ _ _ hv⟩
theorem TB_rel : ∀ (b : TB) (ab : AB) (k : Nat) (y : TB.D b), TB.get b ab = some y → BR w A β k ab → BR w A β k (TB.put b y) ∧ TB.ok b y
  | b, ab, k, y, h, hr => by
    unfold TB.get at h
    split at h
    · rename_i e r e' r' l
      cases hb : Nat.beq e e' with
      | false => rw [hb] at h; cases h
      | true =>
        rw [hb] at h
        simp only [cond_true] at h
        have := Nat.eq_of_beq_eq_true hb
        subst this
        obtain ⟨er, hl⟩ := castL_inv h
        subst er
        subst hl
        refine ⟨hr, ?_⟩
        obtain ⟨xs, h1, h2, h3⟩ := hr
        simp only [TB.ok, D.ok]
        refine ⟨?_, RdL_ok (fun c x hx => RdV_ok _ c x hx) _ xs h2⟩
        rcases h1.2 with ⟨_, h⟩ | ⟨g, cap, cur, _, _, _, g4, g5, _⟩
        · omega
        · exact Nat.le_trans g4 g5
    · rename_i ts cs
      split at h
      · rename_i as_ has
        obtain ⟨g, arr, e, h1, h2, h3, h4, h5⟩ := hr
        obtain ⟨q1, q2⟩ := TAs_data has h h4
        exact ⟨⟨g, arr, e, h1, h2, h3, q1, h5⟩, q2⟩
      · cases h
    · rename_i r r' l
      obtain ⟨er, hl⟩ := castL_inv h
      subst er
      subst hl
      exact ⟨hr, trivial⟩
    · cases h
theorem BsD_rel : ∀ (bs : List TB) (hs : List AB) (y : BsD bs) (n : Nat), BsD.get bs hs = some y → (∀ i ab, hs[i]? = some ab → BR w A β (n + i) ab) →
    (BsD.put bs y).length = hs.length ∧ (∀ i ab, (BsD.put bs y)[i]? = some ab → BR w A β (n + i) ab) ∧ BsD.ok bs y
  | [], [], y, n, _, _ => ⟨rfl, fun i ab h => by simp [BsD.put] at h, trivial⟩
  | b :: bs, h :: hs, y, n, hg, hr => by
    simp only [BsD.get] at hg
    split at hg
    · rename_i x z hx hz
      simp only [Option.some.injEq] at hg
      subst hg
      obtain ⟨g1, g2⟩ := TB_rel b h n x hx (hr 0 h rfl)
      obtain ⟨q1, q2, q3⟩ := BsD_rel bs hs z (n + 1) hz fun i ab hi => by
        have := hr (i + 1) ab (by simpa using hi)
        rwa [show n + (i + 1) = n + 1 + i by omega] at this
      refine ⟨by simp [BsD.put, q1], fun i ab hi => ?_, g2, q3⟩
      cases i with
      | zero => simp only [BsD.put, List.getElem?_cons_zero, Option.some.injEq] at hi; subst hi; exact g1
      | succ i =>
        have := q2 i ab (by simpa [BsD.put] using hi)
        rwa [show n + 1 + i = n + (i + 1) by omega] at this
    · cases hg
  | [], _ :: _, y, n, h, _ => by simp [BsD.get] at h
  | _ :: _, [], y, n, h, _ => by simp [BsD.get] at h
theorem BsD_nf : ∀ (bs : List TB) (y : BsD bs), ∀ ab ∈ BsD.put bs y, notFrozen ab = true
  | [], _, ab, h => by simp [BsD.put] at h
  | b :: bs, y, ab, h => by
    simp only [BsD.put, List.mem_cons] at h
    rcases h with rfl | h
    · cases b <;> rfl
    · exact BsD_nf bs y.2 ab h
theorem valid_hsigOf (hE : EnvOk P E) (hm : P.follows .mixedOrders = true) {f : FuncId} {fn : Func} {c : Code} (ts : List TA) (bs : List TB) {F : Row (TA.tyss ts) → BsD bs → HRes}
    (L : Row (TA.tyss ts) → BsD bs → Nat → Option LoopAnn) (hf : P.funcs[f]? = some fn) (hb : fn.body = some c)
    (h : ∀ x y, (F x y).pre → Row.ok (TA.tyss ts) x → BsD.ok bs y → vcFnH E (L x y) c fn.ntmps fn.results.toList (TA.puts ts (rowAVs (TA.tyss ts) x)) (BsD.put bs y) (F x y)) : ValidH P E.glob f (hsigOf ts bs F) := by
  intro w A β args avs hs r hA hG hargs hbr hap hsr hp hlen h100
  unfold hsigOf at hsr
  split at hsr
  · rename_i cs hcs
    split at hsr
    · rename_i x y hx hy
      simp only [Option.some.injEq] at hsr
      obtain ⟨g1, g2⟩ := TAs_data hcs hx hargs
      obtain ⟨q1, q2, q3⟩ := BsD_rel bs hs y 50000 hy hbr
      have hv : ValidH P E.glob f (fun avs' hs' => open Classical in if avs' = TA.puts ts (rowAVs (TA.tyss ts) x) ∧ hs' = BsD.put bs y then some (F x y) else none) := by
        refine valid_of_vcH hE hm (fun _ _ => L x y) hf hb (fun avs' hs' r' hs'' => ?_) fun avs' hs' r' hs'' hp' => ?_
        · split at hs''
          · rename_i e
            obtain ⟨_, rfl⟩ := e
            exact BsD_nf bs y
          · cases hs''
        · split at hs''
          · rename_i e
            obtain ⟨rfl, rfl⟩ := e
            simp only [Option.some.injEq] at hs''
            subst hs''
            exact h x y hp' g2 q3
          · cases hs''
      have := hv w A β args _ _ r hA hG g1 q2 (fun i j b hi hj => hap i j b (by rw [← q1]; exact hi) (by rw [← q1]; exact hj)) (by simp only [and_self, if_true, hsr]) hp (by rw [q1]; exact hlen) (by rw [q1]; exact h100)
      rwa [q1] at this
    · cases hsr
  · cases hsr
theorem ValidH.or {G : Nat → Option GD} {f : FuncId} {s t : HSig} (h1 : ValidH P G f s) (h2 : ValidH P G f t) : ValidH P G f (hsigOr s t) := by
  intro w A β args avs hs r hA hG hargs hbr hap hsr hp hlen h100
  unfold hsigOr at hsr
  split at hsr
  · rename_i r' hr'
    simp only [Option.some.injEq] at hsr
    subst hsr
    exact h1 w A β args avs hs _ hA hG hargs hbr hap hr' hp hlen h100
  · exact h2 w A β args avs hs r hA hG hargs hbr hap hsr hp hlen h100
def Env.consH (f : Nat) (m : List Bool) (s : HSig) (E : Env) : Env := { E with hsig := fun g => bif Nat.beq g f then some (m, s) else E.hsig g }
theorem EnvOk.consH (hE : EnvOk P E) {f : FuncId} {m : List Bool} {s : HSig} (h : ValidH P E.glob f s) (hf : FnOk P f) : EnvOk P (E.consH f m s) := by
  refine ⟨hE.tab, hE.sig, fun g m' t hg => ?_⟩
  simp only [Env.consH] at hg
  cases hb : Nat.beq g f with
  | true =>
    rw [hb] at hg
    simp only [cond_true, Option.some.injEq, Prod.mk.injEq] at hg
    have := Nat.eq_of_beq_eq_true hb
    obtain ⟨_, rfl⟩ := hg
    subst this
    exact ⟨h, hf⟩
  | false =>
    rw [hb] at hg
    exact hE.hsig g m' t hg
end
end Go.Vg
end
section
namespace Go.S
def len {α : Type} (l : List α) : Nat := l.length
def meas (m n : Nat) : Nat := m - n
def minv {α : Type} (l : List α) (n : Nat) : Prop := n ≤ l.length
def leN (n m : Nat) : Prop := n ≤ m
def lenI {α : Type} (l : List α) : Int := l.length
def small {α : Type} (l : List α) : Prop := l.length ≤ 1099511627776
theorem natAnd_mask (n : Int) (k : Nat) (h : 0 ≤ n) : Vg.natAnd n ((2 : Int) ^ k - 1) = n % 2 ^ k := by
  obtain ⟨m, rfl⟩ := Int.eq_ofNat_of_zero_le h
  have h1 : ((2 : Int) ^ k - 1).toNat = 2 ^ k - 1 := by
    have : (1 : Nat) ≤ 2 ^ k := Nat.one_le_two_pow
    have e : ((2 : Int) ^ k - 1) = ((2 ^ k - 1 : Nat) : Int) := by rw [Int.natCast_sub this]; simp
    rw [e]; rfl
  simp only [Vg.natAnd, Int.toNat_natCast, h1, Nat.and_two_pow_sub_one_eq_mod]
  rw [Int.natCast_emod]; simp
theorem natAnd_7 (n : Int) (h : 0 ≤ n) : Vg.natAnd n 7 = n % 8 := by simpa using natAnd_mask n 3 h
theorem natAnd_15 (n : Int) (h : 0 ≤ n) : Vg.natAnd n 15 = n % 16 := by simpa using natAnd_mask n 4 h
theorem natAnd_31 (n : Int) (h : 0 ≤ n) : Vg.natAnd n 31 = n % 32 := by simpa using natAnd_mask n 5 h
theorem natAnd_63 (n : Int) (h : 0 ≤ n) : Vg.natAnd n 63 = n % 64 := by simpa using natAnd_mask n 6 h
theorem natAnd_127 (n : Int) (h : 0 ≤ n) : Vg.natAnd n 127 = n % 128 := by simpa using natAnd_mask n 7 h
theorem natOr_apart (a b : Int) (k : Nat) (ha : 0 ≤ a) (h0 : 0 ≤ b) (h : b < 2 ^ k) : Vg.natOr (a * 2 ^ k) b = a * 2 ^ k + b := by
  obtain ⟨m, rfl⟩ := Int.eq_ofNat_of_zero_le ha
  obtain ⟨n, rfl⟩ := Int.eq_ofNat_of_zero_le h0
  have h1 : ((m : Int) * 2 ^ k).toNat = m * 2 ^ k := by
    rw [show ((m : Int) * 2 ^ k) = ((m * 2 ^ k : Nat) : Int) by simp]; rfl
  have h2 : n < 2 ^ k := by exact_mod_cast h
  simp only [Vg.natOr, h1, Int.toNat_natCast]
  rw [Nat.mul_comm, ← Nat.two_pow_add_eq_or_of_lt h2]
  simp [Int.mul_comm]
theorem natOr_comm (a b : Int) : Vg.natOr a b = Vg.natOr b a := by simp only [Vg.natOr, Nat.or_comm]
theorem natOr_128 (n : Int) (h : 0 ≤ n) (h1 : n < 128) : Vg.natOr n 128 = n + 128 := by
  rw [natOr_comm, show (128 : Int) = 1 * 2 ^ 7 by rfl, natOr_apart 1 n 7 (by omega) h h1]; omega
theorem takeWhile_le {α : Type} (p : α → Bool) (l : List α) : (l.takeWhile p).length ≤ l.length := by
  induction l with
  | nil => simp
  | cons x l ih => simp only [List.takeWhile_cons]; split <;> simp <;> omega
end Go.S
end
section
namespace Go.S
abbrev H8 := Int × Int × Int × Int × Int × Int × Int × Int
def right (x n : Int) : Int := (x / 2 ^ n.toNat + x * 2 ^ (32 - n).toNat % 4294967296) % 4294967296
def rotl (x k : Int) : Int := right x (-k)
def rotPre (x k : Int) : Prop := -32 < k ∧ k < 0 ∧ 0 ≤ x ∧ x < 4294967296
def byteAt (p : List UInt8) (i : Nat) : Int := (p.getD i 0).toNat
def word (p : List UInt8) (i : Nat) : Int := byteAt p (4 * i) * 16777216 + byteAt p (4 * i + 1) * 65536 + byteAt p (4 * i + 2) * 256 + byteAt p (4 * i + 3)
def sig0 (x : Int) : Int := Vg.natXor (Vg.natXor (right x 7) (right x 18)) (x / 2 ^ Int.toNat 3)
def sig1 (y : Int) : Int := Vg.natXor (Vg.natXor (right y 17) (right y 19)) (y / 2 ^ Int.toNat 10)
def nextW (w : List Int) (n : Nat) : Int := (((w.getD (n - 16) 0 + sig0 (w.getD (n - 15) 0)) % 4294967296 + w.getD (n - 7) 0) % 4294967296 + sig1 (w.getD (n - 2) 0)) % 4294967296
def schedN (p : List UInt8) (w : List Int) (n : Nat) : Int := if n < 16 then word p n else nextW w n
def sched (p : List UInt8) : Nat → List Int
  | 0 => []
  | n + 1 => sched p n ++ [schedN p (sched p n) n]
def schedArr (p : List UInt8) (n : Nat) : List Int := sched p n ++ List.replicate (64 - n) 0
def K256 : List Int := [1116352408, 1899447441, 3049323471, 3921009573, 961987163, 1508970993, 2453635748, 2870763221, 3624381080, 310598401, 607225278, 1426881987, 1925078388, 2162078206, 2614888103, 3248222580, 3835390401, 4022224774, 264347078, 604807628, 770255983, 1249150122, 1555081692, 1996064986, 2554220882, 2821834349, 2952996808, 3210313671, 3336571891, 3584528711, 113926993, 338241895, 666307205, 773529912, 1294757372, 1396182291, 1695183700, 1986661051, 2177026350, 2456956037, 2730485921, 2820302411, 3259730800, 3345764771, 3516065817, 3600352804, 4094571909, 275423344, 430227734, 506948616, 659060556, 883997877, 958139571, 1322822218, 1537002063, 1747873779, 1955562222, 2024104815, 2227730452, 2361852424, 2428436474, 2756734187, 3204031479, 3329325298]
def H0 : H8 := (1779033703, 3144134277, 1013904242, 2773480762, 1359893119, 2600822924, 528734635, 1541459225)
def big0 (a : Int) : Int := Vg.natXor (Vg.natXor (right a 2) (right a 13)) (right a 22)
def big1 (e : Int) : Int := Vg.natXor (Vg.natXor (right e 6) (right e 11)) (right e 25)
def ch (e f g : Int) : Int := Vg.natXor (Vg.natAnd e f) (Vg.natAnd (4294967296 - 1 - e) g)
def maj (a b c : Int) : Int := Vg.natXor (Vg.natXor (Vg.natAnd a b) (Vg.natAnd a c)) (Vg.natAnd b c)
def one (k w e f g h : Int) : Int := ((((h + big1 e) % 4294967296 + ch e f g) % 4294967296 + k) % 4294967296 + w) % 4294967296
def two (a b c : Int) : Int := (big0 a + maj a b c) % 4294967296
def rnd (k w : Int) (s : H8) : H8 := ((one k w s.2.2.2.2.1 s.2.2.2.2.2.1 s.2.2.2.2.2.2.1 s.2.2.2.2.2.2.2 + two s.1 s.2.1 s.2.2.1) % 4294967296, s.1, s.2.1, s.2.2.1,
  (s.2.2.2.1 + one k w s.2.2.2.2.1 s.2.2.2.2.2.1 s.2.2.2.2.2.2.1 s.2.2.2.2.2.2.2) % 4294967296, s.2.2.2.2.1, s.2.2.2.2.2.1, s.2.2.2.2.2.2.1)
def rnds (w : List Int) (s : H8) : Nat → H8
  | 0 => s
  | n + 1 => rnd (K256.getD n 0) (w.getD n 0) (rnds w s n)
def add8 (s t : H8) : H8 := ((s.1 + t.1) % 4294967296, (s.2.1 + t.2.1) % 4294967296, (s.2.2.1 + t.2.2.1) % 4294967296, (s.2.2.2.1 + t.2.2.2.1) % 4294967296,
  (s.2.2.2.2.1 + t.2.2.2.2.1) % 4294967296, (s.2.2.2.2.2.1 + t.2.2.2.2.2.1) % 4294967296, (s.2.2.2.2.2.2.1 + t.2.2.2.2.2.2.1) % 4294967296, (s.2.2.2.2.2.2.2 + t.2.2.2.2.2.2.2) % 4294967296)
def block (s : H8) (p : List UInt8) : H8 := add8 s (rnds (sched p 64) s 64)
def proc (s : H8) (b : List UInt8) : Nat → H8
  | 0 => s
  | n + 1 => block (proc s b n) ((b.drop (64 * n)).take 64)
def list8 (s : H8) : List Int := [s.1, s.2.1, s.2.2.1, s.2.2.2.1, s.2.2.2.2.1, s.2.2.2.2.2.1, s.2.2.2.2.2.2.1, s.2.2.2.2.2.2.2]
def b32 (w : Int) : List UInt8 := [UInt8.ofNat (w / 16777216 % 256).toNat, UInt8.ofNat (w / 65536 % 256).toNat, UInt8.ofNat (w / 256 % 256).toNat, UInt8.ofNat (w % 256).toNat]
def digN (s : H8) (n : Nat) : List UInt8 := ((list8 s).take n).flatMap b32
def dig (s : H8) : List UInt8 := digN s 8
def padZ (n : Nat) : Nat := (119 - n % 64) % 64
def len8 (n : Int) (k : Nat) : List UInt8 := (List.range k).map fun i => UInt8.ofNat (n / 2 ^ (56 - 8 * i) % 256).toNat
def tailZ (rest : List UInt8) (k : Nat) : List UInt8 := rest ++ [128] ++ List.replicate k 0
def tailL (rest : List UInt8) (n : Int) (k : Nat) : List UInt8 := tailZ rest (padZ rest.length) ++ len8 (n * 8) k
def tail (rest : List UInt8) (n : Int) : List UInt8 := tailL rest n 8
def blocks (b : List UInt8) : Nat := b.length / 64
def procAll (s : H8) (b : List UInt8) : H8 := proc s b (blocks b)
def restOf (b : List UInt8) : List UInt8 := b.drop (64 * blocks b)
def sum (b : List UInt8) : List UInt8 := dig (procAll H0 (tail b b.length))
def ok8 (s : H8) : Prop := ∀ x ∈ list8 s, 0 ≤ x ∧ x < 4294967296
def okW (l : List Int) : Prop := ∀ x ∈ l, 0 ≤ x ∧ x < 4294967296
def tailInv (rest : List UInt8) (k : Nat) : Prop := k ≤ padZ rest.length
def stValid (r : List UInt8) (n : Int) : Bool := decide (0 ≤ n) && decide (n ≤ 1099511627776) && decide ((r.length : Int) = n % 64)
def addPre (s : H8) (r : List UInt8) (n : Int) (b : List UInt8) : Prop := ok8 s ∧ r = [] ∧ n = 0 ∧ small b
def endPre (s : H8) (r : List UInt8) (n : Int) : Prop := ok8 s ∧ 0 ≤ n ∧ n ≤ 1099511627776 ∧ (r.length : Int) = n % 64
def blkPre (s : H8) (p : List UInt8) : Prop := ok8 s ∧ p.length = 64
end Go.S
namespace Go.S
def dropBlk (b : List UInt8) (k : Nat) : List UInt8 := b.drop (64 * k)
end Go.S
namespace Go.S
theorem word_or (a b c d : UInt8) : Vg.natOr (Vg.natOr (Vg.natOr ((a.toNat : Int) * 2 ^ Int.toNat 24 % 4294967296) ((b.toNat : Int) * 2 ^ Int.toNat 16 % 4294967296)) ((c.toNat : Int) * 2 ^ Int.toNat 8 % 4294967296)) (d.toNat : Int) =
    (a.toNat : Int) * 16777216 + (b.toNat : Int) * 65536 + (c.toNat : Int) * 256 + (d.toNat : Int) := by
  have ha := a.toNat_lt; have hb := b.toNat_lt; have hc := c.toNat_lt; have hd := d.toNat_lt
  have e1 : (a.toNat : Int) * 2 ^ Int.toNat 24 % 4294967296 = ((a.toNat : Int)) * 2 ^ 24 := by simp only [show Int.toNat 24 = 24 by rfl]; omega
  have e2 : (b.toNat : Int) * 2 ^ Int.toNat 16 % 4294967296 = (b.toNat : Int) * 2 ^ 16 := by simp only [show Int.toNat 16 = 16 by rfl]; omega
  have e3 : (c.toNat : Int) * 2 ^ Int.toNat 8 % 4294967296 = (c.toNat : Int) * 2 ^ 8 := by simp only [show Int.toNat 8 = 8 by rfl]; omega
  rw [e1, e2, e3, natOr_apart _ _ 24 (by omega) (by omega) (by omega)]
  rw [show (a.toNat : Int) * 2 ^ 24 + (b.toNat : Int) * 2 ^ 16 = ((a.toNat : Int) * 256 + b.toNat) * 2 ^ 16 by omega, natOr_apart _ _ 16 (by omega) (by omega) (by omega)]
  rw [show ((a.toNat : Int) * 256 + b.toNat) * 2 ^ 16 + (c.toNat : Int) * 2 ^ 8 = ((a.toNat : Int) * 65536 + b.toNat * 256 + c.toNat) * 2 ^ 8 by omega, natOr_apart _ _ 8 (by omega) (by omega) (by omega)]
  omega
theorem sched_len (p : List UInt8) : ∀ n, (sched p n).length = n
  | 0 => rfl
  | n + 1 => by simp [sched, sched_len p n]
theorem arr_len (p : List UInt8) (n : Nat) (h : n ≤ 64) : (schedArr p n).length = 64 := by simp [schedArr, sched_len]; omega
theorem arr_64 (p : List UInt8) : schedArr p 64 = sched p 64 := by simp [schedArr]
theorem word_ok (p : List UInt8) (n : Nat) : 0 ≤ word p n ∧ word p n < 4294967296 := by
  simp only [word, byteAt]
  have h1 := (p.getD (4 * n) 0).toNat_lt; have h2 := (p.getD (4 * n + 1) 0).toNat_lt; have h3 := (p.getD (4 * n + 2) 0).toNat_lt; have h4 := (p.getD (4 * n + 3) 0).toNat_lt
  omega
theorem sched_ok (p : List UInt8) : ∀ n, okW (sched p n)
  | 0 => by simp [sched, okW]
  | n + 1 => by
    intro x hx
    simp only [sched, List.mem_append, List.mem_singleton] at hx
    rcases hx with hx | rfl
    · exact sched_ok p n x hx
    · simp only [schedN]
      split
      · exact word_ok p n
      · simp only [nextW]; omega
theorem getD_ok {l : List Int} (h : okW l) (i : Nat) : 0 ≤ l.getD i 0 ∧ l.getD i 0 < 4294967296 := by
  rw [List.getD_eq_getElem?_getD]
  cases hg : l[i]? with
  | none => simp
  | some x => simpa using h x (List.mem_of_getElem? hg)
theorem arr_ok (p : List UInt8) (n i : Nat) : 0 ≤ (schedArr p n).getD i 0 ∧ (schedArr p n).getD i 0 < 4294967296 := by
  refine getD_ok ?_ i
  intro x hx
  simp only [schedArr, List.mem_append] at hx
  rcases hx with hx | hx
  · exact sched_ok p n x hx
  · rw [(List.mem_replicate.1 hx).2]; omega
theorem arr_rot (p : List UInt8) (n i : Nat) (k : Int) (h : -32 < k ∧ k < 0) : rotPre ((schedArr p n).getD i 0) k := ⟨h.1, h.2, arr_ok p n i⟩
theorem arr_getD (p : List UInt8) (n i : Nat) (h : i < n) : (schedArr p n).getD i 0 = (sched p n).getD i 0 := by
  simp only [List.getD_eq_getElem?_getD, schedArr]
  rw [List.getElem?_append_left (by rw [sched_len]; exact h)]
theorem arr_set (p : List UInt8) (n : Nat) (v : Int) (h : n < 64) (hv : v = schedN p (sched p n) n) : (schedArr p n).set n v = schedArr p (n + 1) := by
  subst hv
  simp only [schedArr, sched]
  exact fill_set _ _ _ _ _ (sched_len p n) h
theorem arr_lo (p : List UInt8) (x : Nat) (h : x < 16) : List.set (schedArr p x) (0 + Int.toNat (x : Int) * 1)
    (Vg.natOr (Vg.natOr (Vg.natOr (((List.getD p (Int.toNat (4 * (x : Int))) 0).toNat : Int) * 2 ^ Int.toNat 24 % 4294967296) (((List.getD p (Int.toNat (4 * (x : Int) + 1)) 0).toNat : Int) * 2 ^ Int.toNat 16 % 4294967296))
      (((List.getD p (Int.toNat (4 * (x : Int) + 2)) 0).toNat : Int) * 2 ^ Int.toNat 8 % 4294967296)) ((List.getD p (Int.toNat (4 * (x : Int) + 3)) 0).toNat : Int)) = schedArr p (x + 1) := by
  rw [word_or, show 0 + Int.toNat (x : Int) * 1 = x by omega]
  refine arr_set p x _ (by omega) ?_
  simp only [schedN, if_pos h, word, byteAt, show Int.toNat (4 * (x : Int)) = 4 * x by omega, show Int.toNat (4 * (x : Int) + 1) = 4 * x + 1 by omega, show Int.toNat (4 * (x : Int) + 2) = 4 * x + 2 by omega, show Int.toNat (4 * (x : Int) + 3) = 4 * x + 3 by omega]
theorem arr_hi (p : List UInt8) (x : Nat) (h : 16 ≤ x) (h1 : x < 64) : List.set (schedArr p x) (0 + Int.toNat (x : Int) * 1)
    ((((List.getD (schedArr p x) (0 + Int.toNat ((x : Int) - 16) * 1) 0 +
      Vg.natXor (Vg.natXor (rotl (List.getD (schedArr p x) (0 + Int.toNat ((x : Int) - 15) * 1) 0) (-7)) (rotl (List.getD (schedArr p x) (0 + Int.toNat ((x : Int) - 15) * 1) 0) (-18))) (List.getD (schedArr p x) (0 + Int.toNat ((x : Int) - 15) * 1) 0 / 2 ^ Int.toNat 3)) % 4294967296 +
      List.getD (schedArr p x) (0 + Int.toNat ((x : Int) - 7) * 1) 0) % 4294967296 +
      Vg.natXor (Vg.natXor (rotl (List.getD (schedArr p x) (0 + Int.toNat ((x : Int) - 2) * 1) 0) (-17)) (rotl (List.getD (schedArr p x) (0 + Int.toNat ((x : Int) - 2) * 1) 0) (-19))) (List.getD (schedArr p x) (0 + Int.toNat ((x : Int) - 2) * 1) 0 / 2 ^ Int.toNat 10)) % 4294967296) = schedArr p (x + 1) := by
  simp only [show 0 + Int.toNat (x : Int) * 1 = x by omega, show 0 + Int.toNat ((x : Int) - 16) * 1 = x - 16 by omega, show 0 + Int.toNat ((x : Int) - 15) * 1 = x - 15 by omega, show 0 + Int.toNat ((x : Int) - 7) * 1 = x - 7 by omega, show 0 + Int.toNat ((x : Int) - 2) * 1 = x - 2 by omega,
    arr_getD p x (x - 16) (by omega), arr_getD p x (x - 15) (by omega), arr_getD p x (x - 7) (by omega), arr_getD p x (x - 2) (by omega)]
  refine arr_set p x _ (by omega) ?_
  simp only [schedN, if_neg (by omega : ¬ x < 16)]
  rfl
theorem rnd_ok (k w : Int) (s : H8) (h : ok8 s) : ok8 (rnd k w s) := by
  obtain ⟨a, b, c, d, e, f, g, i⟩ := s
  simp only [ok8, list8, List.mem_cons, List.not_mem_nil, or_false, forall_eq_or_imp, forall_eq, rnd] at h ⊢
  obtain ⟨h1, h2, h3, h4, h5, h6, h7, h8⟩ := h
  exact ⟨by omega, h1, h2, h3, by omega, h5, h6, h7⟩
theorem rnds_ok (w : List Int) (s : H8) (h : ok8 s) : ∀ n, ok8 (rnds w s n)
  | 0 => h
  | n + 1 => rnd_ok _ _ _ (rnds_ok w s h n)
theorem block_ok (s : H8) (p : List UInt8) : ok8 (block s p) := by
  simp only [block, add8, ok8, list8, List.mem_cons, List.not_mem_nil, or_false, forall_eq_or_imp, forall_eq]
  omega
theorem proc_ok (s : H8) (b : List UInt8) (h : ok8 s) : ∀ n, ok8 (proc s b n)
  | 0 => h
  | n + 1 => block_ok _ _
theorem ok8_a {s : H8} (h : ok8 s) (k : Int) (hk : -32 < k ∧ k < 0) : rotPre s.1 k := ⟨hk.1, hk.2, h _ (by simp [list8])⟩
theorem ok8_e {s : H8} (h : ok8 s) (k : Int) (hk : -32 < k ∧ k < 0) : rotPre s.2.2.2.2.1 k := ⟨hk.1, hk.2, h _ (by simp [list8])⟩
theorem K256_len : (64 : Nat) = K256.length := by decide
theorem ok_H0 : ok8 H0 := by simp [ok8, list8, H0]
end Go.S
namespace Go.S
theorem rot_or {x k : Int} (h : rotPre x k) : Vg.natOr (x * 2 ^ Int.toNat (Vg.natAnd (k % 18446744073709551616) 31) % 4294967296) (x / 2 ^ Int.toNat ((32 - Vg.natAnd (k % 18446744073709551616) 31) % 18446744073709551616)) = rotl x k := by
  obtain ⟨h1, h2, h3, h4⟩ := h
  have e1 : Vg.natAnd (k % 18446744073709551616) 31 = 32 + k := by rw [natAnd_31 _ (by omega)]; omega
  rw [e1, show (32 - (32 + k)) % 18446744073709551616 = -k by omega]
  obtain ⟨n, hn⟩ : ∃ n : Nat, n = (-k).toNat := ⟨_, rfl⟩
  have hn1 : n < 32 := by omega
  rw [show Int.toNat (32 + k) = 32 - n by omega, ← hn]
  simp only [rotl, right, ← hn, show (32 - -k).toNat = 32 - n by omega]
  obtain ⟨m, rfl⟩ := Int.eq_ofNat_of_zero_le h3
  have hm : m < 2 ^ 32 := by omega
  have hpow : (2 : Nat) ^ (32 - n) * 2 ^ n = 2 ^ 32 := by rw [← Nat.pow_add]; congr 1; omega
  have hq : m / 2 ^ n < 2 ^ (32 - n) := by
    rw [Nat.div_lt_iff_lt_mul (Nat.two_pow_pos n), hpow]; exact hm
  have hmod : m * 2 ^ (32 - n) % 4294967296 = (m % 2 ^ n) * 2 ^ (32 - n) := by
    rw [show (4294967296 : Nat) = 2 ^ n * 2 ^ (32 - n) by rw [Nat.mul_comm, hpow], Nat.mul_mod_mul_right]
  have c1 : ((m : Int) * 2 ^ (32 - n) % 4294967296) = (((m % 2 ^ n : Nat) : Int)) * 2 ^ (32 - n) := by
    have := congrArg (Nat.cast (R := Int)) hmod
    simpa using this
  have c2 : ((m : Int) / 2 ^ n) = ((m / 2 ^ n : Nat) : Int) := by simp
  rw [c1, c2, natOr_apart _ _ (32 - n) (Int.natCast_nonneg _) (Int.natCast_nonneg _) (by exact_mod_cast hq)]
  have hlt : (m % 2 ^ n) * 2 ^ (32 - n) + m / 2 ^ n < 4294967296 := by
    have h1 : m % 2 ^ n < 2 ^ n := Nat.mod_lt _ (Nat.two_pow_pos n)
    have h2 : (m % 2 ^ n + 1) * 2 ^ (32 - n) ≤ 2 ^ n * 2 ^ (32 - n) := Nat.mul_le_mul_right _ h1
    rw [Nat.mul_comm (2 ^ n), hpow, Nat.add_mul] at h2
    omega
  have c3 : (((m % 2 ^ n : Nat) : Int)) * 2 ^ (32 - n) = (((m % 2 ^ n) * 2 ^ (32 - n) : Nat) : Int) := by simp
  rw [c3]
  generalize (m % 2 ^ n) * 2 ^ (32 - n) = A at *
  generalize m / 2 ^ n = q at *
  omega
theorem rot_bd {x k : Int} (h : rotPre x k) : Vg.natAnd (k % 18446744073709551616) 31 = 32 + k := by
  obtain ⟨h1, h2, h3, h4⟩ := h
  rw [natAnd_31 _ (by omega)]; omega
end Go.S
namespace Go.S
theorem valid_of {s : H8} {r : List UInt8} {n : Int} (h : endPre s r n) : stValid r n = true := by
  obtain ⟨_, h1, h2, h3⟩ := h
  simp [stValid, h1, h2, h3]
theorem tailZ_len (r : List UInt8) (k : Nat) : (tailZ r k).length = r.length + 1 + k := by simp [tailZ]; omega
theorem tailZ_0 (r : List UInt8) : r ++ [UInt8.ofNat (Int.toNat 128)] = tailZ r 0 := by simp [tailZ]
theorem tailZ_succ (r : List UInt8) (k : Nat) : tailZ r k ++ [UInt8.ofNat (Int.toNat 0)] = tailZ r (k + 1) := by
  simp only [tailZ, List.append_assoc, List.replicate_succ']; rfl
theorem padZ_more {r : List UInt8} {k : Nat} (h : tailInv r k) (h1 : ¬ ((tailZ r k).length : Int) % 64 = 56) : tailInv r (k + 1) := by
  simp only [tailInv, padZ, tailZ_len] at *; omega
theorem padZ_end {r : List UInt8} {k : Nat} (h : tailInv r k) (h1 : ((tailZ r k).length : Int) % 64 = 56) : k = padZ r.length := by
  simp only [tailInv, padZ, tailZ_len] at *; omega
theorem len8_len (n : Int) (k : Nat) : (len8 n k).length = k := by simp [len8]
theorem tailL_len (r : List UInt8) (n : Int) (k : Nat) : (tailL r n k).length = r.length + 1 + padZ r.length + k := by simp [tailL, tailZ_len, len8_len]
theorem tailL_0 (r : List UInt8) (n : Int) : tailL r n 0 = tailZ r (padZ r.length) := by simp [tailL, len8]
theorem tailL_succ (r : List UInt8) (n : Int) (x : Nat) (h0 : 0 ≤ n) (h1 : n ≤ 1099511627776) (hx : x < 8) :
    tailL r n x ++ [UInt8.ofNat (Int.toNat (n % 18446744073709551616 * 8 % 18446744073709551616 / 2 ^ Int.toNat (56 - 8 * (x : Int)) % 256))] = tailL r n (x + 1) := by
  rw [show n % 18446744073709551616 * 8 % 18446744073709551616 = n * 8 by omega, show Int.toNat (56 - 8 * (x : Int)) = 56 - 8 * x by omega]
  simp only [tailL, len8, List.range_succ, List.map_append, List.map_cons, List.map_nil, List.append_assoc]
theorem digN_len (s : H8) (k : Nat) (hk : k ≤ 8) : (digN s k).length = 4 * k := by
  obtain ⟨a, b, c, d, e, f, g, h⟩ := s
  match k, hk with
  | 0, _ | 1, _ | 2, _ | 3, _ | 4, _ | 5, _ | 6, _ | 7, _ | 8, _ => rfl
theorem digN_succ (s : H8) (x : Nat) (hx : x < 8) : digN s x ++ b32 ((list8 s).getD x 0) = digN s (x + 1) := by
  have hl : x < (list8 s).length := by simpa [list8] using hx
  simp only [digN]
  rw [take_succ_getD (list8 s) x 0 hl, List.flatMap_append]
  simp
theorem dig_len (s : H8) : (dig s).length = 32 := digN_len s 8 (by omega)
theorem sum_len (b : List UInt8) : (sum b).length = 32 := dig_len _
theorem proc_app (s : H8) (x y : List UInt8) : ∀ n, 64 * n ≤ x.length → proc s (x ++ y) n = proc s x n
  | 0, _ => rfl
  | n + 1, h => by
    simp only [proc]
    rw [proc_app s x y n (by omega), List.drop_append_of_le_length (by omega), List.take_append_of_le_length (by rw [List.length_drop]; omega)]
theorem proc_app2 (s : H8) (x y : List UInt8) (a : Nat) (h : x.length = 64 * a) : ∀ n, proc s (x ++ y) (a + n) = proc (proc s x a) y n
  | 0 => proc_app s x y a (by omega)
  | n + 1 => by
    rw [← Nat.add_assoc]
    simp only [proc]
    rw [proc_app2 s x y a h n, show 64 * (a + n) = x.length + 64 * n by omega, List.drop_append, List.drop_eq_nil_of_le (by omega), List.nil_append, Nat.add_sub_cancel_left]
theorem restOf_len (b : List UInt8) : (restOf b).length = b.length % 64 := by simp [restOf, blocks]; omega
theorem padZ_mod (n : Nat) : padZ (n % 64) = padZ n := by simp [padZ]
theorem proc_tail (b : List UInt8) (n : Int) : procAll (procAll H0 b) (tail (restOf b) n) = procAll H0 (tail b n) := by
  have hb : b = b.take (64 * blocks b) ++ restOf b := (List.take_append_drop _ b).symm
  have hl : (b.take (64 * blocks b)).length = 64 * blocks b := by rw [List.length_take]; simp only [blocks]; omega
  have ht : tail b n = b.take (64 * blocks b) ++ tail (restOf b) n := by
    have : padZ (restOf b).length = padZ b.length := by rw [restOf_len, padZ_mod]
    simp only [tail, tailL, tailZ, this]
    conv => lhs; rw [hb]
    simp only [List.append_assoc, List.length_append]
    rw [← List.length_append, ← hb]
  have hk : blocks (tail b n) = blocks b + blocks (tail (restOf b) n) := by
    rw [ht]; simp only [blocks, List.length_append] at *; rw [hl]; omega
  simp only [procAll]
  rw [hk, ht, proc_app2 H0 _ _ (blocks b) hl, ← proc_app H0 (b.take (64 * blocks b)) (restOf b) (blocks b) (by omega), ← hb]
theorem digN_V (s : H8) (x : Nat) (hx : x < 8) : digN s x ++ [UInt8.ofNat (Int.toNat (List.getD (list8 s) (Int.toNat (x : Int)) 0 / 2 ^ Int.toNat 24 % 256)), UInt8.ofNat (Int.toNat (List.getD (list8 s) (Int.toNat (x : Int)) 0 / 2 ^ Int.toNat 16 % 256)),
    UInt8.ofNat (Int.toNat (List.getD (list8 s) (Int.toNat (x : Int)) 0 / 2 ^ Int.toNat 8 % 256)), UInt8.ofNat (Int.toNat (List.getD (list8 s) (Int.toNat (x : Int)) 0 % 256))] = digN s (x + 1) := digN_succ s x hx
theorem proc_V (s : H8) (b : List UInt8) (n : Nat) : block ((proc s b n).1, (proc s b n).2.1, (proc s b n).2.2.1, (proc s b n).2.2.2.1, (proc s b n).2.2.2.2.1, (proc s b n).2.2.2.2.2.1, (proc s b n).2.2.2.2.2.2.1, (proc s b n).2.2.2.2.2.2.2) (List.take (Int.toNat 64) (dropBlk b n)) = proc s b (n + 1) := rfl
end Go.S
end
section
namespace Go.S
def numF : Nat → Nat → List UInt8
  | 0, _ => []
  | f + 1, v => if v < 128 then [UInt8.ofNat v] else UInt8.ofNat (v % 128 + 128) :: numF f (v / 128)
def num (v : Int) : List UInt8 := numF 9 v.toNat
def text (s : List UInt8) : List UInt8 := num s.length ++ s
def numBad (v : Int) : Bool := decide (v < 0) || decide (4611686018427387904 < v)
def numB (b : List UInt8) (v : Int) : List UInt8 := if numBad v then [] else b ++ num v
def numE (v : Int) : Int := if numBad v then 1 else 0
def putInv (l : List UInt8) (v : Int) (m : List UInt8) (u : Int) : Prop := 0 ≤ u ∧ u ≤ v ∧ m ++ num u = l ++ num v
def putPre (l : List UInt8) (v : Int) : Prop := 0 ≤ v ∧ l.length ≤ 70368744177664
def textPre (l s : List UInt8) : Prop := l.length ≤ 35184372088832 ∧ s.length ≤ 35184372088832
def lead (b : List UInt8) : Nat := (b.takeWhile fun x => decide (128 ≤ x.toNat)).length
def valLE : List UInt8 → Nat
  | [] => 0
  | x :: l => x.toNat % 128 + 128 * valLE l
def first (b : List UInt8) : Int × Int × Int :=
  if 9 ≤ lead b then (0, 0, 2)
  else if lead b = b.length then (0, 0, 4)
  else if valLE (b.take (lead b + 1)) > 4611686018427387904 ∨ num (valLE (b.take (lead b + 1))) ≠ b.take (lead b + 1) then (0, 0, 2)
  else (valLE (b.take (lead b + 1)), lead b + 1, 0)
def atPre (b : List UInt8) (at' : Int) : Prop := 0 ≤ at' ∧ at' ≤ b.length
def onAt (at' : Int) (x : Int × Int × Int) : Int × Int × Int := (x.1, if x.2.2 = 0 then at' + x.2.1 else 0, x.2.2)
def getNum (b : List UInt8) (at' : Int) : Int × Int × Int := onAt at' (first (b.drop at'.toNat))
def getText (b : List UInt8) (p most : Int) : List UInt8 × Int × Int :=
  if (getNum b p).2.2 ≠ 0 then ([], 0, (getNum b p).2.2)
  else if most < (getNum b p).1 then ([], 0, 2)
  else if (b.length : Int) - (getNum b p).2.1 < (getNum b p).1 then ([], 0, 4)
  else ((b.take ((getNum b p).2.1 + (getNum b p).1).toNat).drop (getNum b p).2.1.toNat, (getNum b p).2.1 + (getNum b p).1, 0)
def inside (b : List UInt8) (a : Int) : Bool := decide (0 ≤ a) && decide (a ≤ b.length)
def startE (b : List UInt8) (a e : Int) : Int := if e = 0 ∧ inside b a = false then 1 else e
abbrev Rd := List UInt8 × Int × Int
def readText (b : List UInt8) (a e most : Int) : Rd × List UInt8 :=
  if startE b a e ≠ 0 then ((b, a, startE b a e), [])
  else if (getText b a most).2.2 ≠ 0 then ((b, a, (getText b a most).2.2), [])
  else ((b, (getText b a most).2.1, 0), (getText b a most).1)
def readDigest (b : List UInt8) (a e : Int) : Rd × List UInt8 :=
  if startE b a e ≠ 0 then ((b, a, startE b a e), [])
  else if (b.length : Int) - a < 32 then ((b, a, 4), [])
  else ((b, a + 32, 0), (b.drop a.toNat).take 32)
def done (b : List UInt8) (a e : Int) : Int := if e ≠ 0 then e else if inside b a = false then 1 else if a < b.length then 2 else 0
def getInv (b : List UInt8) (a : Int) (n : Nat) : Prop := n ≤ 9 ∧ a + n ≤ b.length ∧ ∀ x ∈ (b.drop a.toNat).take n, 128 ≤ x.toNat
def valAt (b : List UInt8) (a : Int) (n : Nat) : Int := (valLE ((b.drop a.toNat).take n) : Int)
def firInv (b : List UInt8) (n : Nat) : Prop := n ≤ 9 ∧ n ≤ b.length ∧ ∀ x ∈ b.take n, 128 ≤ x.toNat
theorem numF_len : ∀ (f v : Nat), (numF f v).length ≤ f
  | 0, _ => by simp [numF]
  | f + 1, v => by
    have := numF_len f (v / 128)
    simp only [numF]; split <;> simp <;> omega
theorem num_len (v : Int) : (num v).length ≤ 9 := numF_len 9 _
theorem numF_mono : ∀ (f g v : Nat), v < 128 ^ f → 1 ≤ f → f ≤ g → numF g v = numF f v
  | 0, g, v, _, h, _ => by omega
  | f + 1, 0, v, _, _, h => by omega
  | f + 1, g + 1, v, h, _, hg => by
    simp only [numF]
    split
    · rfl
    · rename_i hv
      by_cases hf : f = 0
      · subst hf; simp at h; omega
      · rw [numF_mono f g (v / 128) (by rw [Nat.pow_succ] at h; omega) (by omega) (by omega)]
theorem num_lo (v : Int) (h : v < 128) : num v = [UInt8.ofNat v.toNat] := by
  simp only [num, numF]; rw [if_pos (by omega)]
theorem num_hi (v : Int) (h : 128 ≤ v) (h1 : v ≤ 9223372036854775807) : num v = UInt8.ofNat (v % 128 + 128).toNat :: num (v / 128) := by
  simp only [num]
  rw [numF, if_neg (by omega)]
  have e : (v / 128).toNat = v.toNat / 128 := by omega
  rw [e, numF_mono 8 9 (v.toNat / 128) (by omega) (by omega) (by omega)]
  congr 2; omega
theorem valLE_last : ∀ (l : List UInt8) (h : l ≠ []), valLE l = 0 → (l.getLast h).toNat < 128 → (l.getLast h).toNat = 0
  | [x], _, h, hx => by simp [valLE] at h hx ⊢; omega
  | x :: y :: l, _, h, hx => by
    simp only [valLE] at h
    rw [List.getLast_cons (by simp)] at hx ⊢
    exact valLE_last (y :: l) (by simp) (by simp only [valLE]; omega) hx
theorem numF_val : ∀ (f : Nat) (l : List UInt8) (h : l ≠ []), l.length ≤ f → (∀ x ∈ l.dropLast, 128 ≤ x.toNat) → (l.getLast h).toNat < 128 → (numF f (valLE l) = l ↔ (l.length = 1 ∨ (l.getLast h).toNat ≠ 0))
  | 0, l, h, hl, _, _ => by
    have : l.length = 0 := by omega
    exact absurd (List.eq_nil_of_length_eq_zero this) h
  | f + 1, [x], _, _, _, hx => by
    simp only [List.getLast_singleton] at hx
    have hv : valLE [x] = x.toNat := by simp only [valLE]; omega
    rw [numF, hv, if_pos hx]
    simp
  | f + 1, x :: y :: l, _, hl, hd, hx => by
    rw [List.getLast_cons (by simp)] at hx ⊢
    have hx1 : 128 ≤ x.toNat := hd x (by simp)
    have hx2 := x.toNat_lt
    have ih := numF_val f (y :: l) (by simp) (by simpa using hl) (fun z hz => hd z (by simp only [List.dropLast_cons_cons, List.mem_cons]; exact .inr hz)) hx
    have e : valLE (x :: y :: l) = x.toNat % 128 + 128 * valLE (y :: l) := rfl
    rw [numF, e]
    by_cases hV : valLE (y :: l) = 0
    · have h0 := valLE_last (y :: l) (by simp) hV hx
      rw [hV, if_pos (by omega)]
      simp [h0]
    · rw [if_neg (by omega)]
      have e1 : (x.toNat % 128 + 128 * valLE (y :: l)) % 128 + 128 = x.toNat := by omega
      have e2 : (x.toNat % 128 + 128 * valLE (y :: l)) / 128 = valLE (y :: l) := by omega
      rw [e1, e2, UInt8.ofNat_toNat]
      simp only [List.cons.injEq, true_and, ih]
      constructor
      · rintro (h | h)
        · refine .inr fun h0 => ?_
          have : l = [] := by simpa using h
          subst this
          simp [valLE] at hV h0
          omega
        · exact .inr h
      · rintro (h | h)
        · simp at h
        · exact .inr h
theorem valLE_lt : ∀ (l : List UInt8), valLE l < 128 ^ l.length
  | [] => by simp [valLE]
  | x :: l => by
    have := valLE_lt l
    simp only [valLE, List.length_cons, Nat.pow_succ]; omega
theorem valLE_append : ∀ (l m : List UInt8), valLE (l ++ m) = valLE l + 128 ^ l.length * valLE m
  | [], m => by simp [valLE]
  | x :: l, m => by
    simp only [List.cons_append, valLE, valLE_append l m, List.length_cons, Nat.pow_succ]
    rw [Nat.mul_add, ← Nat.mul_assoc, Nat.mul_comm 128 (128 ^ l.length)]; omega
theorem lead_of (b : List UInt8) (n : Nat) (h : ∀ x ∈ b.take n, 128 ≤ x.toNat) (hn : n ≤ b.length) (he : n = b.length ∨ (b.getD n 0).toNat < 128) : lead b = n := by
  induction b generalizing n with
  | nil => simp at hn; subst hn; rfl
  | cons x b ih =>
    cases n with
    | zero =>
      rcases he with he | he
      · simp at he
      · simp only [List.getD_cons_zero] at he
        simp only [lead, List.takeWhile_cons]
        rw [if_neg (by simp; omega)]; rfl
    | succ n =>
      have hx := h x (by simp)
      have := ih n (fun y hy => h y (by simp [hy])) (by simpa using hn) (by simpa using he)
      simp only [lead, List.takeWhile_cons] at this ⊢
      rw [if_pos (by simpa using hx), List.length_cons, this]
theorem lead_ge (b : List UInt8) (n : Nat) (h : ∀ x ∈ b.take n, 128 ≤ x.toNat) (hn : n ≤ b.length) : n ≤ lead b := by
  induction b generalizing n with
  | nil => simp at hn; omega
  | cons x b ih =>
    cases n with
    | zero => omega
    | succ n =>
      have hx := h x (by simp)
      have := ih n (fun y hy => h y (by simp [hy])) (by simpa using hn)
      simp only [lead, List.takeWhile_cons] at this ⊢
      rw [if_pos (by simpa using hx), List.length_cons]; omega
theorem take_last (b : List UInt8) (n : Nat) (hn : n < b.length) : ∃ h, (b.take (n + 1)).getLast h = b.getD n 0 := by
  refine ⟨by intro h; have := congrArg List.length h; rw [List.length_take, List.length_nil] at this; omega, ?_⟩
  rw [List.getLast_eq_getElem]
  simp only [List.length_take, List.getElem_take]
  rw [List.getD_eq_getElem?_getD, List.getElem?_eq_getElem hn, Option.getD_some]
  congr 1; omega
theorem first_at (b : List UInt8) (n : Nat) (h : ∀ x ∈ b.take n, 128 ≤ x.toNat) (hn : n < b.length) (h9 : n < 9) (he : (b.getD n 0).toNat < 128) :
    first b = if ((1 ≤ n ∧ (b.getD n 0).toNat = 0) ∨ valLE (b.take (n + 1)) > 4611686018427387904) then (0, 0, 2) else ((valLE (b.take (n + 1)) : Int), (n : Int) + 1, 0) := by
  have hl := lead_of b n h (by omega) (.inr he)
  obtain ⟨hne, hlast⟩ := take_last b n hn
  have hlen : (b.take (n + 1)).length = n + 1 := by rw [List.length_take]; omega
  have hc := numF_val 9 (b.take (n + 1)) hne (by omega) (by
    intro x hx
    rw [List.dropLast_eq_take, hlen, List.take_take] at hx
    exact h x (by rwa [show min (n + 1 - 1) (n + 1) = n by omega] at hx)) (by rw [hlast]; exact he)
  simp only [first, hl, num, Int.toNat_natCast]
  rw [if_neg (by omega), if_neg (by omega)]
  rw [hlast, hlen] at hc
  have e : ((valLE (b.take (n + 1)) > 4611686018427387904 ∨ ¬ numF 9 (valLE (b.take (n + 1))) = b.take (n + 1)) ↔ ((1 ≤ n ∧ (b.getD n 0).toNat = 0) ∨ valLE (b.take (n + 1)) > 4611686018427387904)) := by
    rw [hc]
    constructor
    · rintro (h | h)
      · exact .inr h
      · by_cases h0 : 1 ≤ n ∧ (b.getD n 0).toNat = 0
        · exact .inl h0
        · exact absurd (by omega) h
    · rintro (h | h)
      · exact .inr (by omega)
      · exact .inl h
  simp only [ne_eq, e]
theorem first_9 (b : List UInt8) (h : ∀ x ∈ b.take 9, 128 ≤ x.toNat) (hn : 9 ≤ b.length) : first b = (0, 0, 2) := by
  have := lead_ge b 9 h hn
  simp only [first]; rw [if_pos this]
theorem first_end (b : List UInt8) (n : Nat) (h : ∀ x ∈ b.take n, 128 ≤ x.toNat) (hn : n = b.length) (h9 : n < 9) : first b = (0, 0, 4) := by
  have := lead_of b n h (by omega) (.inl hn)
  simp only [first]; rw [if_neg (by omega), if_pos (by omega)]
theorem first_bd (b : List UInt8) : 0 ≤ (first b).1 ∧ (first b).1 ≤ 4611686018427387904 ∧ 0 ≤ (first b).2.1 ∧ (first b).2.1 ≤ b.length ∧ ((first b).2.2 = 0 ∨ (first b).2.2 = 2 ∨ (first b).2.2 = 4) := by
  have hl := takeWhile_le (fun x : UInt8 => decide (128 ≤ x.toNat)) b
  unfold first
  split
  · simp
  · split
    · simp
    · split
      · simp
      · simp only [lead, not_or, Nat.not_lt] at *; simp only [true_or, and_true]; omega
theorem fir_step {b : List UInt8} {x : Nat} (h : firInv b x) (h1 : x < b.length) (h2 : x < 9) (h3 : 128 ≤ (b.getD x 0).toNat) : firInv b (x + 1) := by
  refine ⟨by omega, by omega, fun y hy => ?_⟩
  rw [take_succ_getD b x 0 h1] at hy
  rcases List.mem_append.1 hy with hy | hy
  · exact h.2.2 y hy
  · simp only [List.mem_singleton] at hy; subst hy; exact h3
theorem fir_9 {b : List UInt8} (h : firInv b 9) : first b = (0, 0, 2) := first_9 b h.2.2 h.2.1
theorem fir_end {b : List UInt8} {x : Nat} (h : firInv b x) (h1 : x = b.length) (h2 : x ≠ 9) : first b = (0, 0, 4) := first_end b x h.2.2 h1 (by have := h.1; omega)
theorem get0 {b : List UInt8} {p : Int} (h : atPre b p) : getInv b p 0 := by simp only [atPre] at h; simp [getInv]; omega
theorem get_bd {b : List UInt8} {p : Int} {x : Nat} (h : getInv b p x) : x ≤ 9 ∧ p + x ≤ b.length := ⟨h.1, h.2.1⟩
theorem get_drop (b : List UInt8) (p : Int) (x : Nat) (hp : 0 ≤ p) : (b.drop p.toNat).getD x 0 = b.getD (p + x).toNat 0 := by
  simp only [List.getD_eq_getElem?_getD, List.getElem?_drop]; congr 2; omega
theorem get_fir {b : List UInt8} {p : Int} {x : Nat} (hp : atPre b p) (h : getInv b p x) : firInv (b.drop p.toNat) x := by
  simp only [atPre] at hp
  exact ⟨h.1, by rw [List.length_drop]; have := h.2.1; omega, h.2.2⟩
theorem get_step {b : List UInt8} {p : Int} {x : Nat} (hp : atPre b p) (h : getInv b p x) (h1 : p + x < b.length) (h2 : x ≠ 9) (h3 : 128 ≤ (b.getD (p + x).toNat 0).toNat) : getInv b p (x + 1) := by
  have hp' := hp
  simp only [atPre] at hp'
  have := fir_step (get_fir hp h) (by rw [List.length_drop]; omega) (by have := h.1; omega) (by rw [get_drop _ _ _ hp'.1]; exact h3)
  exact ⟨this.1, by omega, this.2.2⟩
theorem get_9 {b : List UInt8} {p : Int} (hp : atPre b p) (h : getInv b p 9) : getNum b p = (0, 0, 2) := by
  simp [getNum, fir_9 (get_fir hp h), onAt]
theorem get_end {b : List UInt8} {p : Int} {x : Nat} (hp : atPre b p) (h : getInv b p x) (h1 : (x : Int) = b.length - p) (h2 : x ≠ 9) : getNum b p = (0, 0, 4) := by
  have hp' := hp
  simp only [atPre] at hp'
  have := fir_end (get_fir hp h) (by rw [List.length_drop]; omega) h2
  simp [getNum, this, onAt]
theorem val_or {b : List UInt8} {p : Int} {x : Nat} (hp : atPre b p) (h : getInv b p x) (h1 : p + x < b.length) :
    Vg.natOr (valAt b p x) (Vg.natAnd ((b.getD (p + x).toNat 0).toNat : Int) 127 * 2 ^ (7 * (x : Int)).toNat) = valAt b p (x + 1) := by
  have hp' := hp
  simp only [atPre] at hp'
  have hx : x < (b.drop p.toNat).length := by rw [List.length_drop]; omega
  rw [natAnd_127 _ (by omega), natOr_comm, natOr_apart _ _ _ (by omega) (by simp [valAt])]
  · simp only [valAt]
    rw [take_succ_getD _ x 0 hx, valLE_append, get_drop _ _ _ hp'.1, List.length_take, Nat.min_eq_left (by omega)]
    simp only [valLE, show (7 * (x : Int)).toNat = 7 * x by omega, Nat.mul_zero, Nat.add_zero]
    rw [Int.natCast_add, Int.natCast_mul, Int.natCast_pow, Int.natCast_emod]
    rw [show ((128 : Nat) : Int) = 2 ^ 7 by rfl, ← Int.pow_mul, Int.mul_comm (2 ^ (7 * x)), Int.add_comm]
    rfl
  · simp only [valAt, show (7 * (x : Int)).toNat = 7 * x by omega]
    have := valLE_lt ((b.drop p.toNat).take x)
    have e : (128 : Nat) ^ ((b.drop p.toNat).take x).length ≤ 128 ^ x := Nat.pow_le_pow_right (by omega) (by rw [List.length_take]; omega)
    have e2 : ((2 : Int) ^ (7 * x)) = ((128 ^ x : Nat) : Int) := by rw [Int.natCast_pow, show ((128 : Nat) : Int) = 2 ^ 7 by rfl, ← Int.pow_mul]
    rw [e2]; omega
theorem val0 (b : List UInt8) (p : Int) : valAt b p 0 = 0 := by simp [valAt, valLE]
theorem val_bd {b : List UInt8} {p : Int} {x : Nat} (h : x ≤ 9) : 0 ≤ valAt b p x ∧ valAt b p x ≤ 9223372036854775807 := by
  have := valLE_lt ((b.drop p.toNat).take x)
  have e : (128 : Nat) ^ ((b.drop p.toNat).take x).length ≤ 128 ^ 9 := Nat.pow_le_pow_right (by omega) (by rw [List.length_take]; omega)
  simp only [valAt]; omega
theorem shl_bd (c : Int) (x : Nat) (h0 : 0 ≤ c) (h1 : c ≤ 127) (hx : x ≤ 8) : 0 ≤ c * 2 ^ (7 * (x : Int)).toNat ∧ c * 2 ^ (7 * (x : Int)).toNat ≤ 9223372036854775807 := by
  have hp0 : (2 : Nat) ^ (7 * (x : Int)).toNat ≤ 2 ^ 56 := Nat.pow_le_pow_right (by omega) (by omega)
  have e : (2 : Int) ^ (7 * (x : Int)).toNat = ((2 ^ (7 * (x : Int)).toNat : Nat) : Int) := by simp
  have hp : (2 : Int) ^ (7 * (x : Int)).toNat ≤ 72057594037927936 := by rw [e]; omega
  have hq : (0 : Int) < 2 ^ (7 * (x : Int)).toNat := Int.pow_pos (by omega)
  constructor
  · exact Int.mul_nonneg h0 (by omega)
  · have := Int.mul_le_mul h1 hp (by omega) (by omega)
    omega
theorem get_fin {b : List UInt8} {p : Int} {x : Nat} (hp : atPre b p) (h : getInv b p x) (h1 : p + x < b.length) (h2 : x ≠ 9) (h3 : (b.getD (p + x).toNat 0).toNat < 128) :
    getNum b p = if ((1 ≤ x ∧ (b.getD (p + x).toNat 0).toNat = 0) ∨ valAt b p (x + 1) > 4611686018427387904) then (0, 0, 2) else (valAt b p (x + 1), p + (x + 1), 0) := by
  have hp' := hp
  simp only [atPre] at hp'
  have := first_at (b.drop p.toNat) x h.2.2 (by rw [List.length_drop]; omega) (by have := h.1; omega) (by rw [get_drop _ _ _ hp'.1]; exact h3)
  rw [get_drop _ _ _ hp'.1] at this
  simp only [getNum, this, valAt]
  have e : (valLE ((b.drop p.toNat).take (x + 1)) > 4611686018427387904) ↔ ((valLE ((b.drop p.toNat).take (x + 1)) : Int) > 4611686018427387904) := by omega
  simp only [e]
  rw [apply_ite (onAt p)]
  rfl
theorem num_pos (v : Int) : 1 ≤ (num v).length := by
  simp only [num, numF]; split <;> simp
theorem put_len {l m : List UInt8} {v u : Int} (h : putInv l v m u) : m.length + 1 ≤ l.length + 9 := by
  have := congrArg List.length h.2.2
  have h1 := num_len v
  have h2 := num_pos u
  simp only [List.length_append] at this; omega
theorem put_step {l m : List UInt8} {v u : Int} (h : putInv l v m u) (h1 : 127 < u) (h2 : v ≤ 9223372036854775807) :
    putInv l v (m ++ [UInt8.ofNat (Vg.natOr (Vg.natAnd u 127 % 256) 128).toNat]) (u / 2 ^ (7 : Int).toNat) := by
  have h4 := h.2.1
  have e := num_hi u (by omega) (by omega)
  have e2 : Vg.natOr (Vg.natAnd u 127 % 256) 128 = u % 128 + 128 := by
    rw [natAnd_127 _ (by omega), natOr_128 _ (by omega) (by omega)]; omega
  have h3 := h.2.2
  rw [e] at h3
  refine ⟨by simp; omega, by simp; omega, ?_⟩
  rw [e2, List.append_assoc, ← h3]; rfl
theorem put_fin {l m : List UInt8} {v u : Int} (h : putInv l v m u) (h1 : ¬ 127 < u) : m ++ [UInt8.ofNat (u % 256).toNat] = l ++ num v := by
  have e := num_lo u (by omega)
  rw [← h.2.2, e]
  have := h.1
  rw [show u % 256 = u by omega]
theorem put_le {l m : List UInt8} {v u : Int} (h : putInv l v m u) : 0 ≤ u := h.1
theorem get_c (x : Int) (h : 0 ≤ x) (P Q : Prop) [Decidable P] [Decidable Q] : ((bif decide (1 < x + 1) then bif decide P then true else decide Q else decide Q) = true) ↔ ((1 ≤ x ∧ P) ∨ Q) := by
  by_cases h1 : 1 < x + 1 <;> by_cases h2 : P <;> by_cases h3 : Q <;> simp [h1, h2, h3] <;> omega
theorem getLeaf {b : List UInt8} {p : Int} {x : Nat} (hp : atPre b p) (h : getInv b p x) (h1 : p + x < b.length) (h2 : x ≠ 9) (h3 : (b.getD (p + x).toNat 0).toNat < 128) {c : Bool}
    (hc : (bif decide (1 < (x : Int) + 1) then bif decide (((b.getD (p + ((x : Int) + 1) - 1).toNat 0).toNat : Int) = 0) then true else decide (4611686018427387904 < Vg.natOr (valAt b p x) (Vg.natAnd ((b.getD (p + x).toNat 0).toNat : Int) 127 * 2 ^ (7 * (x : Int)).toNat)) else decide (4611686018427387904 < Vg.natOr (valAt b p x) (Vg.natAnd ((b.getD (p + x).toNat 0).toNat : Int) 127 * 2 ^ (7 * (x : Int)).toNat))) = c) :
    getNum b p = if c = true then (0, 0, 2) else (Vg.natOr (valAt b p x) (Vg.natAnd ((b.getD (p + x).toNat 0).toNat : Int) 127 * 2 ^ (7 * (x : Int)).toNat), p + (x + 1), 0) := by
  have hf := get_fin hp h h1 h2 h3
  rw [← hc, hf]
  rw [val_or hp h h1, show p + ((x : Int) + 1) - 1 = p + x by omega]
  simp only [get_c _ (by omega : 0 ≤ (x : Int))]
  have e : (1 ≤ x ∧ (b.getD (p + x).toNat 0).toNat = 0) ↔ (1 ≤ (x : Int) ∧ ((b.getD (p + x).toNat 0).toNat : Int) = 0) := by omega
  simp only [e, gt_iff_lt]
theorem getLeaf1 {b : List UInt8} {p : Int} {x : Nat} (hp : atPre b p) (h : getInv b p x) (h1 : p + x < b.length) (h2 : x ≠ 9) (h3 : (b.getD (p + x).toNat 0).toNat < 128)
    (hc : (bif decide (1 < (x : Int) + 1) then bif decide (((b.getD (p + ((x : Int) + 1) - 1).toNat 0).toNat : Int) = 0) then true else decide (4611686018427387904 < Vg.natOr (valAt b p x) (Vg.natAnd ((b.getD (p + x).toNat 0).toNat : Int) 127 * 2 ^ (7 * (x : Int)).toNat)) else decide (4611686018427387904 < Vg.natOr (valAt b p x) (Vg.natAnd ((b.getD (p + x).toNat 0).toNat : Int) 127 * 2 ^ (7 * (x : Int)).toNat))) = true) :
    0 = (getNum b p).1 ∧ 0 = (getNum b p).2.1 ∧ 2 = (getNum b p).2.2 := by
  rw [getLeaf hp h h1 h2 h3 hc]; exact ⟨rfl, rfl, rfl⟩
theorem getLeaf2 {b : List UInt8} {p : Int} {x : Nat} (hp : atPre b p) (h : getInv b p x) (h1 : p + x < b.length) (h2 : x ≠ 9) (h3 : (b.getD (p + x).toNat 0).toNat < 128)
    (hc : (bif decide (1 < (x : Int) + 1) then bif decide (((b.getD (p + ((x : Int) + 1) - 1).toNat 0).toNat : Int) = 0) then true else decide (4611686018427387904 < Vg.natOr (valAt b p x) (Vg.natAnd ((b.getD (p + x).toNat 0).toNat : Int) 127 * 2 ^ (7 * (x : Int)).toNat)) else decide (4611686018427387904 < Vg.natOr (valAt b p x) (Vg.natAnd ((b.getD (p + x).toNat 0).toNat : Int) 127 * 2 ^ (7 * (x : Int)).toNat))) = false) :
    Vg.natOr (valAt b p x) (Vg.natAnd ((b.getD (p + x).toNat 0).toNat : Int) 127 * 2 ^ (7 * (x : Int)).toNat) = (getNum b p).1 ∧ p + (x + 1) = (getNum b p).2.1 ∧ 0 = (getNum b p).2.2 := by
  rw [getLeaf hp h h1 h2 h3 hc]; exact ⟨rfl, rfl, rfl⟩
theorem getNum_bd {b : List UInt8} {p : Int} (hp : atPre b p) : 0 ≤ (getNum b p).1 ∧ (getNum b p).1 ≤ 4611686018427387904 ∧ 0 ≤ (getNum b p).2.1 ∧ (getNum b p).2.1 ≤ b.length ∧ ((getNum b p).2.2 = 0 ∨ (getNum b p).2.2 = 2 ∨ (getNum b p).2.2 = 4) := by
  have h := first_bd (b.drop p.toNat)
  simp only [atPre] at hp
  rw [List.length_drop] at h
  simp only [getNum, onAt]
  refine ⟨h.1, h.2.1, ?_, ?_, h.2.2.2.2⟩ <;> split <;> omega
theorem startE_0 {b : List UInt8} {a e : Int} (h : startE b a e = 0) : 0 ≤ a ∧ a ≤ b.length ∧ e = 0 := by
  unfold startE at h
  split at h
  · omega
  · rename_i h1
    subst h
    have : inside b a = true := by
      cases hi : inside b a with
      | true => rfl
      | false => exact absurd ⟨rfl, hi⟩ h1
    simp [inside] at this
    exact ⟨this.1, this.2, rfl⟩
end Go.S
end
section
namespace Go.S
def sealJoin (kind : UInt8) (parts : List (List UInt8)) : List UInt8 := kind :: parts.flatten
def joinAt (kind : UInt8) (parts : List (List UInt8)) (k : Nat) : List UInt8 := sealJoin kind (parts.take k)
def joinPre (parts : List (List UInt8)) : Prop := parts.flatten.length ≤ 35184372088832
def sealB (kind : Nat) (b : List UInt8) : List UInt8 := UInt8.ofNat kind :: b
def sealD (kind : Nat) (b : List UInt8) : List UInt8 := sum (sealB kind b)
def leaf (b : List UInt8) : List UInt8 := sealD 0 b
def nodeD (l r : List UInt8) : List UInt8 := sealD 1 (l ++ r)
def dig2 (l r : List UInt8) : Bool := decide (l.length = 32) && decide (r.length = 32)
def sealNode (l r : List UInt8) : List UInt8 := if dig2 l r then nodeD l r else []
def sealPre (b : List UInt8) : Prop := b.length < 1099511627776
theorem seal_len (k : Nat) (b : List UInt8) : (sealD k b).length = 32 := sum_len _
theorem join_len {parts : List (List UInt8)} {n : Nat} (h : joinPre parts) (hn : n < parts.length) : (sealJoin 0 (parts.take n)).length + (parts.getD n []).length ≤ 140737488355328 := by
  have h1 : (parts.take (n + 1)).flatten.length ≤ parts.flatten.length := by
    conv => rhs; rw [← List.take_append_drop (n + 1) parts]
    rw [List.flatten_append, List.length_append]; omega
  rw [take_succ_getD parts n [] hn, List.flatten_append, List.length_append] at h1
  simp only [joinPre] at h
  simp only [sealJoin, List.length_cons]
  simp only [List.flatten_cons, List.flatten_nil, List.append_nil] at h1; omega
theorem join_len' {parts : List (List UInt8)} {n : Nat} (k : UInt8) (h : joinPre parts) (hn : n < parts.length) : (sealJoin k (parts.take n)).length + (parts.getD n []).length ≤ 140737488355328 := by
  have := join_len h hn; simpa [sealJoin] using this
theorem joinAt_0 (k : UInt8) (p : List (List UInt8)) : [UInt8.ofNat (Int.toNat (k.toNat : Int))] = joinAt k p 0 := by simp [joinAt, sealJoin]
theorem joinAt_succ (k : UInt8) (p : List (List UInt8)) (x : Nat) (h : x < p.length) : joinAt k p x ++ List.getD p (Int.toNat (x : Int)) [] = joinAt k p (x + 1) := by
  simp only [joinAt, sealJoin, Int.toNat_natCast]
  rw [take_succ_getD p x [] h, List.flatten_append]
  simp
theorem joinAt_end (k : UInt8) (p : List (List UInt8)) (x : Nat) (h : ¬ x < p.length) : joinAt k p x = sealJoin k p := by
  simp only [joinAt, List.take_of_length_le (Nat.not_lt.1 h)]
end Go.S
end
section
namespace Go.S
def uRight (c : Int) : Bool := decide (0 ≤ c) && (decide (c ≤ 1114111) && (decide (c < 55296) || decide (57343 < c)))
def uSize (c : Int) : Int := if c < 128 then 1 else if c < 2048 then 2 else if c < 65536 then 3 else 4
def u8 (c : Int) : UInt8 := UInt8.ofNat c.toNat
def more (c : Int) : UInt8 := u8 (128 + c % 64)
def enc (c : Int) : List UInt8 := if c < 128 then [u8 c] else if c < 2048 then [u8 (192 + c / 64), more c] else if c < 65536 then [u8 (224 + c / 4096), more (c / 64), more c]
  else [u8 (240 + c / 262144), more (c / 4096), more (c / 64), more c]
def encR (c : Int) : List UInt8 := if uRight c then enc c else []
def encE (c : Int) : Int := if uRight c then 0 else 1
def lead0 (b : List UInt8) : Int := ((b.getD 0 0).toNat : Int)
def uN (b : List UInt8) : Nat := if lead0 b < 128 then 1 else if lead0 b / 32 = 6 then 2 else if lead0 b / 16 = 14 then 3 else if lead0 b / 8 = 30 then 4 else 0
def uC (b : List UInt8) : Int := if lead0 b / 32 = 6 then lead0 b % 32 else if lead0 b / 16 = 14 then lead0 b % 16 else lead0 b % 8
def uAcc (b : List UInt8) : Nat → Int
  | 0 => uC b
  | k + 1 => uAcc b k * 64 + ((b.getD (k + 1) 0).toNat : Int) % 64
def uCont (b : List UInt8) (n : Nat) : Bool := ((b.drop 1).take (n - 1)).all fun x => x.toNat / 64 == 2
def uFirst (b : List UInt8) : Int × Int :=
  if uN b = 1 then (lead0 b, 1)
  else if uN b = 0 ∨ b.length < uN b ∨ uCont b (uN b) = false ∨ uRight (uAcc b (uN b - 1)) = false ∨ uSize (uAcc b (uN b - 1)) ≠ uN b then (65533, 1)
  else (uAcc b (uN b - 1), uN b)
def decF : Nat → List UInt8 → List Int
  | 0, _ => []
  | f + 1, b => if b.isEmpty then [] else (uFirst b).1 :: decF f (b.drop (uFirst b).2.toNat)
def decode (b : List UInt8) : List Int := decF b.length b
def letters : List (Int × Int) := [(65, 90), (97, 122), (192, 214), (216, 246), (248, 255), (913, 929), (931, 937), (945, 969), (1024, 1119)]
def shifts : List (Int × Int × Int) := [(65, 90, 32), (192, 214, 32), (216, 222, 32), (913, 929, 32), (931, 937, 32), (1024, 1039, 80), (1040, 1071, 32)]
def inSpan (c : Int) (s : Int × Int) : Bool := decide (s.1 ≤ c) && decide (c ≤ s.2)
def letter (c : Int) : Bool := letters.any (inSpan c)
def digit (c : Int) : Bool := decide (48 ≤ c) && decide (c ≤ 57)
def smallC (c : Int) : Int := match shifts.find? (fun s => inSpan c (s.1, s.2.1)) with
  | some s => c + s.2.2
  | none => c
def noLetter (c : Int) (k : Nat) : Prop := k ≤ 9 ∧ ∀ s ∈ letters.take k, inSpan c s = false
def noShift (c : Int) (k : Nat) : Prop := k ≤ 7 ∧ ∀ s ∈ shifts.take k, inSpan c (s.1, s.2.1) = false
def uInv (b : List UInt8) (k : Nat) : Prop := (2 ≤ uN b ∧ k + 1 ≤ uN b ∧ uN b ≤ b.length) ∧ ∀ x ∈ (b.drop 1).take k, x.toNat / 64 = 2
def decInv (b : List UInt8) (r : List UInt8) (l : List Int) : Prop := l ++ decode r = decode b ∧ r.length + l.length ≤ b.length
theorem cut_len (b : List UInt8) (m : Int) (h1 : 1 ≤ m) (h : m ≤ b.length) : (List.drop (Int.toNat 1) (List.take (Int.toNat m) b)).length = m.toNat - 1 := by
  rw [List.length_drop, List.length_take]; omega
theorem cut_get (b : List UInt8) (m : Int) (x : Nat) (h : (x : Int) + 1 < m) : List.getD (List.drop (Int.toNat 1) (List.take (Int.toNat m) b)) (Int.toNat (x : Int)) 0 = b.getD (x + 1) 0 := by
  simp only [List.getD_eq_getElem?_getD, List.getElem?_drop, List.getElem?_take, Int.toNat_natCast, show Int.toNat 1 = 1 by rfl]
  rw [if_pos (by omega), Nat.add_comm]
theorem cut_get' (b : List UInt8) (m : Int) (x : Nat) (h : (x : Int) + 1 < m) : List.getD (List.drop (Int.toNat 1) (List.take (Int.toNat m) b)) x 0 = b.getD (x + 1) 0 := cut_get b m x h
section
variable {b : List UInt8} {n x : Nat}
theorem uN_2 (h1 : ¬ ((b.getD (Int.toNat 0) 0).toNat : Int) < 128) (h2 : ((b.getD (Int.toNat 0) 0).toNat : Int) / 2 ^ Int.toNat 5 = 6) : uN b = 2 := by
  have e : ((b.getD (Int.toNat 0) 0).toNat : Int) = lead0 b := rfl
  simp only [e, show Int.toNat 5 = 5 by rfl, show Int.toNat 4 = 4 by rfl, show Int.toNat 3 = 3 by rfl] at *
  unfold uN
  (repeat' split) <;> omega
theorem uN_3 (h1 : ¬ ((b.getD (Int.toNat 0) 0).toNat : Int) < 128) (h2 : ¬ ((b.getD (Int.toNat 0) 0).toNat : Int) / 2 ^ Int.toNat 5 = 6) (h3 : ((b.getD (Int.toNat 0) 0).toNat : Int) / 2 ^ Int.toNat 4 = 14) : uN b = 3 := by
  have e : ((b.getD (Int.toNat 0) 0).toNat : Int) = lead0 b := rfl
  simp only [e, show Int.toNat 5 = 5 by rfl, show Int.toNat 4 = 4 by rfl, show Int.toNat 3 = 3 by rfl] at *
  unfold uN
  (repeat' split) <;> omega
theorem uN_4 (h1 : ¬ ((b.getD (Int.toNat 0) 0).toNat : Int) < 128) (h2 : ¬ ((b.getD (Int.toNat 0) 0).toNat : Int) / 2 ^ Int.toNat 5 = 6) (h3 : ¬ ((b.getD (Int.toNat 0) 0).toNat : Int) / 2 ^ Int.toNat 4 = 14)
    (h4 : ((b.getD (Int.toNat 0) 0).toNat : Int) / 2 ^ Int.toNat 3 = 30) : uN b = 4 := by
  have e : ((b.getD (Int.toNat 0) 0).toNat : Int) = lead0 b := rfl
  simp only [e, show Int.toNat 5 = 5 by rfl, show Int.toNat 4 = 4 by rfl, show Int.toNat 3 = 3 by rfl] at *
  unfold uN
  (repeat' split) <;> omega
theorem uf1 (h1 : ((b.getD (Int.toNat 0) 0).toNat : Int) < 128) : uFirst b = (((b.getD (Int.toNat 0) 0).toNat : Int), 1) := by
  have hn : uN b = 1 := by
    unfold uN; exact if_pos h1
  simp only [uFirst, hn, if_true]; rfl
theorem uf0 (h1 : ¬ ((b.getD (Int.toNat 0) 0).toNat : Int) < 128) (h2 : ¬ ((b.getD (Int.toNat 0) 0).toNat : Int) / 2 ^ Int.toNat 5 = 6) (h3 : ¬ ((b.getD (Int.toNat 0) 0).toNat : Int) / 2 ^ Int.toNat 4 = 14)
    (h4 : ¬ ((b.getD (Int.toNat 0) 0).toNat : Int) / 2 ^ Int.toNat 3 = 30) : uFirst b = (65533, 1) := by
  have hn : uN b = 0 := by
    have e : ((b.getD (Int.toNat 0) 0).toNat : Int) = lead0 b := rfl
    simp only [e, show Int.toNat 5 = 5 by rfl, show Int.toNat 4 = 4 by rfl, show Int.toNat 3 = 3 by rfl] at *
    unfold uN
    (repeat' split) <;> omega
  simp [uFirst, hn]
theorem uf_bad (hn : uN b = n) (h2 : 2 ≤ n) (h : b.length < n ∨ uCont b n = false ∨ uRight (uAcc b (n - 1)) = false ∨ uSize (uAcc b (n - 1)) ≠ n) : uFirst b = (65533, 1) := by
  subst hn
  simp only [uFirst]
  rw [if_neg (by omega), if_pos (.inr h)]
theorem uf_short (hn : uN b = n) (h2 : 2 ≤ n) (h : (b.length : Int) < n) : uFirst b = (65533, 1) := uf_bad hn h2 (.inl (by omega))
theorem uinv0 (hn : uN b = n) (h2 : 2 ≤ n) (h : ¬ (b.length : Int) < n) : uInv b 0 := ⟨by omega, by simp⟩
theorem uC_2 (h2 : ((b.getD (Int.toNat 0) 0).toNat : Int) / 2 ^ Int.toNat 5 = 6) : Vg.natAnd ((b.getD (Int.toNat 0) 0).toNat : Int) 31 = uAcc b 0 := by
  rw [natAnd_31 _ (by omega)]
  have e : ((b.getD (Int.toNat 0) 0).toNat : Int) = lead0 b := rfl
  simp only [e, show Int.toNat 5 = 5 by rfl, show Int.toNat 4 = 4 by rfl, show Int.toNat 3 = 3 by rfl] at *
  unfold uAcc uC
  (repeat' split) <;> omega
theorem uC_3 (h2 : ¬ ((b.getD (Int.toNat 0) 0).toNat : Int) / 2 ^ Int.toNat 5 = 6) (h3 : ((b.getD (Int.toNat 0) 0).toNat : Int) / 2 ^ Int.toNat 4 = 14) : Vg.natAnd ((b.getD (Int.toNat 0) 0).toNat : Int) 15 = uAcc b 0 := by
  rw [natAnd_15 _ (by omega)]
  have e : ((b.getD (Int.toNat 0) 0).toNat : Int) = lead0 b := rfl
  simp only [e, show Int.toNat 5 = 5 by rfl, show Int.toNat 4 = 4 by rfl, show Int.toNat 3 = 3 by rfl] at *
  unfold uAcc uC
  (repeat' split) <;> omega
theorem uC_4 (h2 : ¬ ((b.getD (Int.toNat 0) 0).toNat : Int) / 2 ^ Int.toNat 5 = 6) (h3 : ¬ ((b.getD (Int.toNat 0) 0).toNat : Int) / 2 ^ Int.toNat 4 = 14) : Vg.natAnd ((b.getD (Int.toNat 0) 0).toNat : Int) 7 = uAcc b 0 := by
  rw [natAnd_7 _ (by omega)]
  have e : ((b.getD (Int.toNat 0) 0).toNat : Int) = lead0 b := rfl
  simp only [e, show Int.toNat 5 = 5 by rfl, show Int.toNat 4 = 4 by rfl, show Int.toNat 3 = 3 by rfl] at *
  unfold uAcc uC
  (repeat' split) <;> omega
theorem uAcc_bd (b : List UInt8) : ∀ k, k ≤ 4 → 0 ≤ uAcc b k ∧ uAcc b k * 64 ^ (4 - k) ≤ 536870911
  | 0, _ => by simp only [uAcc, uC]; split <;> (try split) <;> omega
  | k + 1, h => by
    have ih := uAcc_bd b k (by omega)
    simp only [uAcc]
    refine ⟨by omega, ?_⟩
    rw [show 4 - k = (4 - (k + 1)) + 1 by omega, Int.pow_succ] at ih
    have : k = 0 ∨ k = 1 ∨ k = 2 ∨ k = 3 := by omega
    rcases this with rfl | rfl | rfl | rfl <;> simp at ih ⊢ <;> omega
theorem uinv_bd (h : uInv b x) : x ≤ 3 ∧ 0 ≤ uAcc b x ∧ uAcc b x ≤ 536870911 ∧ 2 ≤ uN b ∧ uN b ≤ 4 ∧ x + 1 ≤ uN b ∧ uN b ≤ b.length := by
  have h4 : uN b ≤ 4 := by simp only [uN]; repeat' split <;> try omega
  have hx : x ≤ 3 := by have := h.1; omega
  have := uAcc_bd b x (by omega)
  have hp : (1 : Int) ≤ 64 ^ (4 - x) := by
    have : x = 0 ∨ x = 1 ∨ x = 2 ∨ x = 3 := by omega
    rcases this with rfl | rfl | rfl | rfl <;> decide
  have hm : uAcc b x * 1 ≤ uAcc b x * 64 ^ (4 - x) := Int.mul_le_mul_of_nonneg_left hp this.1
  exact ⟨hx, this.1, by omega, h.1.1, h4, h.1.2.1, h.1.2.2⟩
theorem ucont_get (h1 : 1 ≤ x) (h : x < b.length) (m : Nat) (hm : x ≤ m) : b.getD x 0 ∈ (b.drop 1).take m := by
  have hlt : x - 1 < ((b.drop 1).take m).length := by rw [List.length_take, List.length_drop]; omega
  have : ((b.drop 1).take m)[x - 1] = b.getD x 0 := by
    rw [List.getElem_take, List.getElem_drop, List.getD_eq_getElem?_getD]
    rw [List.getElem?_eq_getElem h, Option.getD_some]
    congr 1; omega
  rw [← this]; exact List.getElem_mem hlt
theorem uf_cont (hn : uN b = n) (h : uInv b x) (hx : x + 1 < n) (hb : ¬ ((b.getD (x + 1) 0).toNat : Int) / 2 ^ Int.toNat 6 = 2) : uFirst b = (65533, 1) := by
  have hb' := uinv_bd h
  refine uf_bad hn (by omega) (.inr (.inl ?_))
  cases hc : uCont b n with
  | false => rfl
  | true =>
    simp only [uCont, List.all_eq_true] at hc
    have := hc _ (ucont_get (b := b) (x := x + 1) (by omega) (by omega) (n - 1) (by omega))
    simp only [beq_iff_eq] at this
    simp only [show Int.toNat 6 = 6 by rfl] at hb
    omega
theorem u_step (h : uInv b x) (hb : ((b.getD (x + 1) 0).toNat : Int) / 2 ^ Int.toNat 6 = 2) (hx : x + 1 < uN b) : uInv b (x + 1) := by
  refine ⟨by have := h.1; omega, fun y hy => ?_⟩
  have hb' := uinv_bd h
  have hl : x < (b.drop 1).length := by rw [List.length_drop]; omega
  rw [take_succ_getD _ x 0 hl] at hy
  rcases List.mem_append.1 hy with hy | hy
  · exact h.2 y hy
  · simp only [List.mem_singleton, List.getD_eq_getElem?_getD, List.getElem?_drop] at hy
    subst hy
    simp only [List.getD_eq_getElem?_getD, show Int.toNat 6 = 6 by rfl, Nat.add_comm x 1] at hb
    omega
theorem u_acc (h : uInv b x) (hx : x + 1 < uN b) : Vg.natOr (uAcc b x * 2 ^ Int.toNat 6) (Vg.natAnd ((b.getD (x + 1) 0).toNat : Int) 63) = uAcc b (x + 1) := by
  have := uinv_bd h
  rw [natAnd_63 _ (by omega), show Int.toNat 6 = 6 by rfl, natOr_apart _ _ 6 this.2.1 (by omega) (by omega)]
  rfl
theorem u_cont_all (h : uInv b x) (hx : x + 1 = uN b) : uCont b (uN b) = true := by
  simp only [uCont, List.all_eq_true, ← hx, Nat.add_sub_cancel]
  intro y hy
  simpa using h.2 y hy
theorem uf_end {c : Bool} (hn : uN b = n) (h : uInv b x) (hx : x + 1 = n) (hc : (bif !uRight (uAcc b x) then true else !decide (uSize (uAcc b x) = (n : Int))) = c) : uFirst b = if c = true then (65533, 1) else (uAcc b x, (n : Int)) := by
  have hb := uinv_bd h
  have hcont := u_cont_all h (by omega)
  subst hn
  simp only [uFirst, ← hx, Nat.add_sub_cancel]
  rw [hx, hcont]
  rw [if_neg (by omega)]
  rw [hx] at *
  cases hr : uRight (uAcc b x) <;> by_cases hs : uSize (uAcc b x) = (uN b : Int) <;> simp [hr, hs] at hc ⊢ <;> subst hc <;> simp <;> omega
end
theorem more_V (c : Int) : Vg.natOr (c % 64) 128 = ((more c).toNat : Int) := by
  rw [natOr_128 _ (by omega) (by omega)]
  simp only [more, u8]
  rw [UInt8.toNat_ofNat']; omega
theorem uRight_bd {c : Int} (h : uRight c = true) : 0 ≤ c ∧ c ≤ 1114111 := by
  simp only [uRight, Bool.and_eq_true, decide_eq_true_eq] at h; exact ⟨h.1, h.2.1⟩
theorem u8_id (x : UInt8) : UInt8.ofNat (Int.toNat (x.toNat : Int)) = x := by simp
theorem enc_V1 (c : Int) (h0 : 0 ≤ c) (h : c < 128) : [UInt8.ofNat (Int.toNat (c % 256))] = enc c := by
  simp only [enc, if_pos h, u8, show c % 256 = c by omega]
theorem or_192 (d : Int) (h0 : 0 ≤ d) (h : d < 32) : Vg.natOr 192 d = 192 + d := by
  rw [show (192 : Int) = 6 * 2 ^ 5 by rfl, natOr_apart 6 d 5 (by omega) h0 h]
theorem or_224 (d : Int) (h0 : 0 ≤ d) (h : d < 16) : Vg.natOr 224 d = 224 + d := by
  rw [show (224 : Int) = 14 * 2 ^ 4 by rfl, natOr_apart 14 d 4 (by omega) h0 h]
theorem or_240 (d : Int) (h0 : 0 ≤ d) (h : d < 8) : Vg.natOr 240 d = 240 + d := by
  rw [show (240 : Int) = 30 * 2 ^ 3 by rfl, natOr_apart 30 d 3 (by omega) h0 h]
theorem enc_V2 (c : Int) (h0 : 0 ≤ c) (h : 128 ≤ c ∧ c < 2048) : [UInt8.ofNat (Int.toNat (Vg.natOr 192 (c / 2 ^ Int.toNat 6 % 256))), UInt8.ofNat (Int.toNat ((more c).toNat : Int))] = enc c := by
  simp only [enc, if_neg (by omega : ¬ c < 128), if_pos h.2, u8_id, u8, show Int.toNat 6 = 6 by rfl]
  rw [show c / 2 ^ 6 % 256 = c / 64 by omega, or_192 _ (by omega) (by omega)]
theorem enc_V3 (c : Int) (h0 : 0 ≤ c) (h : 2048 ≤ c ∧ c < 65536) : [UInt8.ofNat (Int.toNat (Vg.natOr 224 (c / 2 ^ Int.toNat 12 % 256))), UInt8.ofNat (Int.toNat ((more (c / 2 ^ Int.toNat 6)).toNat : Int)), UInt8.ofNat (Int.toNat ((more c).toNat : Int))] = enc c := by
  simp only [enc, if_neg (by omega : ¬ c < 128), if_neg (by omega : ¬ c < 2048), if_pos h.2, u8_id, u8, show Int.toNat 6 = 6 by rfl, show Int.toNat 12 = 12 by rfl]
  rw [show c / 2 ^ 12 % 256 = c / 4096 by omega, or_224 _ (by omega) (by omega), show c / 2 ^ 6 = c / 64 by omega]
theorem enc_V4 (c : Int) (h0 : 0 ≤ c) (h1 : c ≤ 1114111) (h : 65536 ≤ c) : [UInt8.ofNat (Int.toNat (Vg.natOr 240 (c / 2 ^ Int.toNat 18 % 256))), UInt8.ofNat (Int.toNat ((more (c / 2 ^ Int.toNat 12)).toNat : Int)), UInt8.ofNat (Int.toNat ((more (c / 2 ^ Int.toNat 6)).toNat : Int)), UInt8.ofNat (Int.toNat ((more c).toNat : Int))] = enc c := by
  simp only [enc, if_neg (by omega : ¬ c < 128), if_neg (by omega : ¬ c < 2048), if_neg (by omega : ¬ c < 65536), u8_id, u8, show Int.toNat 6 = 6 by rfl, show Int.toNat 12 = 12 by rfl, show Int.toNat 18 = 18 by rfl]
  rw [show c / 2 ^ 18 % 256 = c / 262144 by omega, or_240 _ (by omega) (by omega), show c / 2 ^ 6 = c / 64 by omega, show c / 2 ^ 12 = c / 4096 by omega]
theorem uFirst_bd (b : List UInt8) (h : 0 < b.length) : 1 ≤ (uFirst b).2 ∧ (uFirst b).2 ≤ b.length ∧ 0 ≤ (uFirst b).1 ∧ (uFirst b).1 ≤ 1114111 := by
  unfold uFirst
  split
  · have := (b.getD 0 0).toNat_lt
    simp only [lead0]; omega
  · split
    · simp only; omega
    · rename_i h1 h2
      simp only [not_or, Bool.not_eq_false] at h2
      have := uRight_bd h2.2.2.2.1
      simp only; omega
theorem decF_enough : ∀ (f g : Nat) (b : List UInt8), b.length ≤ f → b.length ≤ g → decF f b = decF g b
  | 0, 0, b, _, _ => rfl
  | 0, g + 1, b, h, _ => by
    have : b = [] := List.eq_nil_of_length_eq_zero (by omega)
    subst this; simp [decF]
  | f + 1, 0, b, _, h => by
    have : b = [] := List.eq_nil_of_length_eq_zero (by omega)
    subst this; simp [decF]
  | f + 1, g + 1, b, h1, h2 => by
    simp only [decF]
    cases hb : b.isEmpty with
    | true => rfl
    | false =>
      have hl : 0 < b.length := by
        rw [List.isEmpty_eq_false_iff] at hb
        exact List.length_pos_iff.2 hb
      have := uFirst_bd b hl
      simp only [Bool.false_eq_true, if_false]
      rw [decF_enough f g _ (by rw [List.length_drop]; omega) (by rw [List.length_drop]; omega)]
theorem decode_nil : decode [] = [] := rfl
theorem decode_cons (b : List UInt8) (h : 0 < b.length) : decode b = (uFirst b).1 :: decode (b.drop (uFirst b).2.toNat) := by
  have hb := uFirst_bd b h
  unfold decode
  obtain ⟨n, hn⟩ : ∃ n, b.length = n + 1 := ⟨b.length - 1, by omega⟩
  rw [hn]
  simp only [decF]
  have : b.isEmpty = false := by rw [List.isEmpty_eq_false_iff]; exact List.length_pos_iff.1 h
  rw [this]
  simp only [Bool.false_eq_true, if_false]
  rw [decF_enough n _ _ (by rw [List.length_drop]; omega) (Nat.le_refl _)]
theorem dec_0 (b : List UInt8) : decInv b b [] := ⟨rfl, by simp⟩
theorem dec_bd {b r : List UInt8} {l : List Int} (h : decInv b r l) (hr : 0 < (r.length : Int)) : 1 ≤ (uFirst r).2 ∧ (uFirst r).2 ≤ r.length ∧ r.length + l.length ≤ b.length := by
  have := uFirst_bd r (by omega)
  exact ⟨this.1, this.2.1, h.2⟩
theorem dec_step {b r : List UInt8} {l : List Int} (h : decInv b r l) (hr : 0 < (r.length : Int)) : decInv b (r.drop (uFirst r).2.toNat) (l ++ [(uFirst r).1]) := by
  have hb := uFirst_bd r (by omega)
  refine ⟨?_, ?_⟩
  · rw [List.append_assoc, List.singleton_append, ← decode_cons r (by omega)]; exact h.1
  · have := h.2
    rw [List.length_drop, List.length_append]; simp; omega
theorem dec_end {b r : List UInt8} {l : List Int} (h : decInv b r l) (hr : ¬ 0 < (r.length : Int)) : l = decode b := by
  have : r = [] := List.eq_nil_of_length_eq_zero (by omega)
  subst this
  have := h.1
  rw [decode_nil, List.append_nil] at this; exact this
theorem decode_len (b : List UInt8) : (decode b).length ≤ b.length := by
  have : ∀ f (c : List UInt8), (decF f c).length ≤ f := by
    intro f
    induction f with
    | zero => intro c; simp [decF]
    | succ f ih => intro c; simp only [decF]; split; simp; have := ih (c.drop (uFirst c).2.toNat); simp; omega
  exact this _ _
theorem bif_and (a b : Bool) : (bif a then b else false) = (a && b) := by cases a <;> rfl
theorem nine {x : Nat} (h : (x : Int) < 9) : x = 0 ∨ x = 1 ∨ x = 2 ∨ x = 3 ∨ x = 4 ∨ x = 5 ∨ x = 6 ∨ x = 7 ∨ x = 8 := by omega
theorem letter_at {c : Int} {x : Nat} (h : (x : Int) < 9) : (bif decide (List.getD [65, 97, 192, 216, 248, 913, 931, 945, 1024] (Int.toNat (x : Int)) 0 ≤ c) then decide (c ≤ List.getD [90, 122, 214, 246, 255, 929, 937, 969, 1119] (Int.toNat (x : Int)) 0) else false) = inSpan c (letters.getD x (0, 0)) := by
  rcases nine h with rfl | rfl | rfl | rfl | rfl | rfl | rfl | rfl | rfl <;> simp only [inSpan, letters, Int.toNat_natCast, List.getD_cons_zero, List.getD_cons_succ, bif_and]
theorem letter_V1 {c : Int} {x : Nat} (h : (x : Int) < 9) (hc : (bif decide (List.getD [65, 97, 192, 216, 248, 913, 931, 945, 1024] (Int.toNat (x : Int)) 0 ≤ c) then decide (c ≤ List.getD [90, 122, 214, 246, 255, 929, 937, 969, 1119] (Int.toNat (x : Int)) 0) else false) = true) : true = letter c := by
  rw [letter_at h] at hc
  symm
  simp only [letter, List.any_eq_true]
  exact ⟨_, getD_mem letters x (0, 0) (by simp only [letters, List.length_cons, List.length_nil]; omega), hc⟩
theorem letter_V2 {c : Int} {x : Nat} (hi : noLetter c x) (h : (x : Int) < 9) (hc : (bif decide (List.getD [65, 97, 192, 216, 248, 913, 931, 945, 1024] (Int.toNat (x : Int)) 0 ≤ c) then decide (c ≤ List.getD [90, 122, 214, 246, 255, 929, 937, 969, 1119] (Int.toNat (x : Int)) 0) else false) = false) : noLetter c (x + 1) := by
  rw [letter_at h] at hc
  refine ⟨by omega, fun s hs => ?_⟩
  rw [take_succ_getD letters x (0, 0) (by simp only [letters, List.length_cons, List.length_nil]; omega)] at hs
  rcases List.mem_append.1 hs with hs | hs
  · exact hi.2 s hs
  · rw [List.mem_singleton.1 hs]; exact hc
theorem letter_V3 {c : Int} {x : Nat} (hi : noLetter c x) (h : ¬ (x : Int) < 9) : false = letter c := by
  symm
  have hx : x = 9 := by have := hi.1; omega
  subst hx
  simp only [letter, List.any_eq_false]
  intro s hs
  have := hi.2 s (by simpa [letters] using hs)
  rw [this]; simp
theorem seven {x : Nat} (h : (x : Int) < 7) : x = 0 ∨ x = 1 ∨ x = 2 ∨ x = 3 ∨ x = 4 ∨ x = 5 ∨ x = 6 := by omega
theorem small_at {c : Int} {x : Nat} (h : (x : Int) < 7) : (bif decide (List.getD [65, 192, 216, 913, 931, 1024, 1040] (Int.toNat (x : Int)) 0 ≤ c) then decide (c ≤ List.getD [90, 214, 222, 929, 937, 1039, 1071] (Int.toNat (x : Int)) 0) else false) = inSpan c ((shifts.getD x (0, 0, 0)).1, (shifts.getD x (0, 0, 0)).2.1) ∧
    List.getD ([32, 32, 32, 32, 32, 80, 32] : List Int) (Int.toNat (x : Int)) 0 = (shifts.getD x (0, 0, 0)).2.2 := by
  rcases seven h with rfl | rfl | rfl | rfl | rfl | rfl | rfl <;> simp only [inSpan, shifts, Int.toNat_natCast, List.getD_cons_zero, List.getD_cons_succ, bif_and, and_self]
theorem find_first {α : Type} (p : α → Bool) (d : α) : ∀ (l : List α) (x : Nat), x < l.length → (∀ s ∈ l.take x, p s = false) → p (l.getD x d) = true → l.find? p = some (l.getD x d)
  | [], x, h, _, _ => by simp at h
  | a :: l, 0, _, _, h => by simp only [List.getD_cons_zero] at h ⊢; simp [List.find?_cons, h]
  | a :: l, x + 1, hx, h1, h => by
    have ha := h1 a (by simp)
    simp only [List.getD_cons_succ] at h ⊢
    rw [List.find?_cons, ha]
    exact find_first p d l x (by simpa using hx) (fun s hs => h1 s (by simp [hs])) h
theorem small_V1 {c : Int} {x : Nat} (hi : noShift c x) (h : (x : Int) < 7) (hc : (bif decide (List.getD [65, 192, 216, 913, 931, 1024, 1040] (Int.toNat (x : Int)) 0 ≤ c) then decide (c ≤ List.getD [90, 214, 222, 929, 937, 1039, 1071] (Int.toNat (x : Int)) 0) else false) = true) :
    c + List.getD ([32, 32, 32, 32, 32, 80, 32] : List Int) (Int.toNat (x : Int)) 0 = smallC c ∧ (c ≤ 1071 ∧ 65 ≤ c ∧ List.getD ([32, 32, 32, 32, 32, 80, 32] : List Int) (Int.toNat (x : Int)) 0 ≤ 80 ∧ 0 ≤ List.getD ([32, 32, 32, 32, 32, 80, 32] : List Int) (Int.toNat (x : Int)) 0) := by
  have hat := small_at (c := c) h
  refine ⟨?_, ?_⟩
  · rw [hat.1] at hc
    rw [hat.2]
    simp only [smallC]
    rw [find_first (fun s => inSpan c (s.1, s.2.1)) (0, 0, 0) shifts x (by simp only [shifts, List.length_cons, List.length_nil]; omega) hi.2 hc]
  · rcases seven h with rfl | rfl | rfl | rfl | rfl | rfl | rfl <;> simp [List.getD] at hc ⊢ <;> omega
theorem small_V2 {c : Int} {x : Nat} (hi : noShift c x) (h : (x : Int) < 7) (hc : (bif decide (List.getD [65, 192, 216, 913, 931, 1024, 1040] (Int.toNat (x : Int)) 0 ≤ c) then decide (c ≤ List.getD [90, 214, 222, 929, 937, 1039, 1071] (Int.toNat (x : Int)) 0) else false) = false) : noShift c (x + 1) := by
  rw [(small_at h).1] at hc
  refine ⟨by omega, fun s hs => ?_⟩
  rw [take_succ_getD shifts x (0, 0, 0) (by simp only [shifts, List.length_cons, List.length_nil]; omega)] at hs
  rcases List.mem_append.1 hs with hs | hs
  · exact hi.2 s hs
  · rw [List.mem_singleton.1 hs]; exact hc
theorem small_V3 {c : Int} {x : Nat} (hi : noShift c x) (h : ¬ (x : Int) < 7) : c = smallC c := by
  have hx : x = 7 := by have := hi.1; omega
  subst hx
  simp only [smallC]
  rw [List.find?_eq_none.2 (fun s hs => by rw [hi.2 s (by simpa [shifts] using hs)]; simp)]
theorem uf_end1 {b : List UInt8} {n x : Nat} {m : Int} (hn : uN b = n) (h : uInv b x) (hx : x + 1 = n) (hc : uRight (uAcc b x) = false ∨ ¬ uSize (uAcc b x) = m) (hm : (n : Int) = m) : uFirst b = (65533, 1) := by
  subst hm
  have hb := uinv_bd h
  refine uf_bad hn (by omega) ?_
  rw [show n - 1 = x by omega]
  rcases hc with hc | hc
  · exact .inr (.inr (.inl hc))
  · exact .inr (.inr (.inr hc))
theorem uf_end2 {b : List UInt8} {n x : Nat} {m : Int} (hn : uN b = n) (h : uInv b x) (hx : x + 1 = n) (hc : uRight (uAcc b x) = true ∧ uSize (uAcc b x) = m) (hm : (n : Int) = m) : uFirst b = (uAcc b x, m) := by
  subst hm
  have := uf_end (c := false) hn h hx (by simp [hc.1, hc.2])
  simpa using this
theorem bif_t {A B : Prop} [Decidable A] [Decidable B] (h : A ∧ B) : (bif decide A then decide B else false) = true := by simp [h.1, h.2]
theorem bif_f {A B : Prop} [Decidable A] [Decidable B] (h : ¬ A ∨ ¬ B) : (bif decide A then decide B else false) = false := by
  by_cases ha : A <;> by_cases hb : B <;> simp_all
end Go.S
namespace Go.S
def rRight (c : Int) : Bool := (decide (0 ≤ c) && decide (c < 55296)) || (decide (57343 < c) && decide (c < 1114112))
def inI (c a b : Int) : Bool := decide (a ≤ c) && decide (c ≤ b)
def leastI (a b : Int) : Int := if a < b then a else b
def leadOf (n : Int) : Int := [0, 0, 192, 224, 240].getD n.toNat 0
def bAcc (b : List UInt8) (n : Int) : Nat → Int
  | 0 => lead0 b - leadOf n
  | k + 1 => bAcc b n k * 64 + ((b.getD (k + 1) 0).toNat : Int) - 128
def begins (b : List UInt8) (n : Int) : Int := if (b.length : Int) < n then -1 else bAcc b n (n.toNat - 1)
def begPre (b : List UInt8) (n : Int) : Prop := 0 < b.length ∧ 1 ≤ n ∧ n ≤ 4
def begInv (b : List UInt8) (n : Int) (k : Nat) : Prop := (n ≤ b.length) ∧ 1 ≤ k ∧ k ≤ n
def tryK (b : List UInt8) (k : Nat) : Bool := rRight (begins b k) && decide (enc (begins b k) = b.take k)
def pickK (b : List UInt8) : Nat → Int × Int
  | 0 => (65533, 1)
  | k + 1 => if tryK b (k + 1) then (begins b (k + 1 : Nat), ((k + 1 : Nat) : Int)) else pickK b k
theorem rRight_eq (c : Int) : rRight c = uRight c := by
  simp only [rRight, uRight]
  by_cases h1 : 0 ≤ c <;> by_cases h2 : c < 55296 <;> by_cases h3 : 57343 < c <;> by_cases h4 : c ≤ 1114111 <;> simp [h1, h2, h3, h4] <;> omega
theorem u8_eq {c : Int} {y : UInt8} (h0 : 0 ≤ c) (h1 : c < 256) : u8 c = y ↔ c = (y.toNat : Int) := by
  have hy := y.toNat_lt
  constructor
  · intro h
    have := congrArg UInt8.toNat h
    simp only [u8] at this
    rw [UInt8.toNat_ofNat'] at this
    omega
  · intro h
    subst h; simp [u8]
theorem more_eq {c : Int} {y : UInt8} : more c = y ↔ 128 + c % 64 = (y.toNat : Int) := u8_eq (by omega) (by omega)
theorem enc_1 {c : Int} {y0 : UInt8} (h0 : 0 ≤ c) (h1 : c ≤ 1114111) : enc c = [y0] ↔ c < 128 ∧ c = (y0.toNat : Int) := by
  unfold enc
  split
  · simp only [List.cons.injEq, and_true, u8_eq h0 (by omega), *, true_and]
  · (repeat' split) <;> simp <;> omega
theorem enc_2 {c : Int} {y0 y1 : UInt8} (h0 : 0 ≤ c) (h1 : c ≤ 1114111) : enc c = [y0, y1] ↔ 128 ≤ c ∧ c < 2048 ∧ 192 + c / 64 = (y0.toNat : Int) ∧ 128 + c % 64 = (y1.toNat : Int) := by
  unfold enc
  split
  · simp; omega
  · split
    · simp only [List.cons.injEq, and_true, u8_eq (c := 192 + c / 64) (by omega) (by omega), more_eq]; omega
    · (repeat' split) <;> simp <;> omega
theorem enc_3 {c : Int} {y0 y1 y2 : UInt8} (h0 : 0 ≤ c) (h1 : c ≤ 1114111) : enc c = [y0, y1, y2] ↔ 2048 ≤ c ∧ c < 65536 ∧ 224 + c / 4096 = (y0.toNat : Int) ∧ 128 + c / 64 % 64 = (y1.toNat : Int) ∧ 128 + c % 64 = (y2.toNat : Int) := by
  unfold enc
  split
  · simp; omega
  · split
    · simp; omega
    · split
      · simp only [List.cons.injEq, and_true, u8_eq (c := 224 + c / 4096) (by omega) (by omega), more_eq]; omega
      · simp; omega
theorem enc_4 {c : Int} {y0 y1 y2 y3 : UInt8} (h0 : 0 ≤ c) (h1 : c ≤ 1114111) : enc c = [y0, y1, y2, y3] ↔ 65536 ≤ c ∧ 240 + c / 262144 = (y0.toNat : Int) ∧ 128 + c / 4096 % 64 = (y1.toNat : Int) ∧ 128 + c / 64 % 64 = (y2.toNat : Int) ∧ 128 + c % 64 = (y3.toNat : Int) := by
  unfold enc
  split
  · simp; omega
  · split
    · simp; omega
    · split
      · simp; omega
      · simp only [List.cons.injEq, and_true, u8_eq (c := 240 + c / 262144) (by omega) (by omega), more_eq]; omega
def goodK (b : List UInt8) (k : Nat) : Prop := uN b = k ∧ k ≤ b.length ∧ (k = 1 ∨ (uCont b k = true ∧ uRight (uAcc b (k - 1)) = true ∧ uSize (uAcc b (k - 1)) = (k : Int)))
theorem try_iff (b : List UInt8) (k : Nat) : tryK b k = true ↔ uRight (begins b k) = true ∧ enc (begins b k) = b.take k := by
  simp only [tryK, rRight_eq, Bool.and_eq_true, decide_eq_true_eq]
theorem beg_short {b : List UInt8} {k : Nat} (h : b.length < k) : tryK b k = false := by
  have : begins b k = -1 := by simp only [begins]; rw [if_pos (by omega)]
  simp only [tryK, this, rRight]; rfl
theorem lead_bd (b : List UInt8) : 0 ≤ lead0 b ∧ lead0 b < 256 := by have := (b.getD 0 0).toNat_lt; simp only [lead0]; omega
theorem try_1 (x0 : UInt8) (l : List UInt8) : (tryK (x0 :: l) 1 = true ↔ goodK (x0 :: l) 1) ∧ begins (x0 :: l) 1 = lead0 (x0 :: l) := by
  have hb : begins (x0 :: l) 1 = lead0 (x0 :: l) := by
    simp only [begins]; rw [if_neg (by simp; omega)]; simp [bAcc, leadOf]
  refine ⟨?_, hb⟩
  have hl := lead_bd (x0 :: l)
  rw [try_iff]
  show uRight (begins (x0 :: l) 1) = true ∧ enc (begins (x0 :: l) 1) = [x0] ↔ _
  rw [hb]
  have hr : uRight (lead0 (x0 :: l)) = true := by simp [uRight]; omega
  rw [enc_1 hl.1 (by omega), hr]
  simp only [goodK, uN, true_or, and_true, List.length_cons, true_and]
  have : lead0 (x0 :: l) = (x0.toNat : Int) := rfl
  constructor
  · intro h; rw [if_pos h.1]; exact ⟨rfl, by omega⟩
  · intro h
    refine ⟨?_, this⟩
    by_cases h1 : lead0 (x0 :: l) < 128
    · exact h1
    · rw [if_neg h1] at h; (repeat' split at h) <;> omega
theorem uN_2_iff (b : List UInt8) : uN b = 2 ↔ lead0 b / 32 = 6 := by unfold uN; (repeat' split) <;> omega
theorem uN_3_iff (b : List UInt8) : uN b = 3 ↔ lead0 b / 16 = 14 := by unfold uN; (repeat' split) <;> omega
theorem uN_4_iff (b : List UInt8) : uN b = 4 ↔ lead0 b / 8 = 30 := by unfold uN; (repeat' split) <;> omega
theorem uSize_2 (c : Int) : uSize c = 2 ↔ 128 ≤ c ∧ c < 2048 := by unfold uSize; (repeat' split) <;> omega
theorem uSize_3 (c : Int) : uSize c = 3 ↔ 2048 ≤ c ∧ c < 65536 := by unfold uSize; (repeat' split) <;> omega
theorem uSize_4 (c : Int) : uSize c = 4 ↔ 65536 ≤ c := by unfold uSize; (repeat' split) <;> omega
theorem uRight_iff (c : Int) : uRight c = true ↔ 0 ≤ c ∧ c ≤ 1114111 ∧ (c < 55296 ∨ 57343 < c) := by simp [uRight]
theorem try_2 (x0 x1 : UInt8) (l : List UInt8) : (tryK (x0 :: x1 :: l) 2 = true ↔ goodK (x0 :: x1 :: l) 2) ∧ (goodK (x0 :: x1 :: l) 2 → begins (x0 :: x1 :: l) 2 = uAcc (x0 :: x1 :: l) 1) := by
  have h0 := x0.toNat_lt; have h1 := x1.toNat_lt
  have hb : begins (x0 :: x1 :: l) 2 = ((x0.toNat : Int) - 192) * 64 + x1.toNat - 128 := by
    simp only [begins]; rw [if_neg (by simp; omega)]; rfl
  have hl : lead0 (x0 :: x1 :: l) = (x0.toNat : Int) := rfl
  have ha : lead0 (x0 :: x1 :: l) / 32 = 6 → uAcc (x0 :: x1 :: l) 1 = (x0.toNat : Int) % 32 * 64 + (x1.toNat : Int) % 64 := by
    intro h
    simp only [uAcc, uC]; rw [if_pos h]; rfl
  have hg : goodK (x0 :: x1 :: l) 2 ↔ (lead0 (x0 :: x1 :: l) / 32 = 6 ∧ (x1.toNat / 64 = 2 ∧ uRight (uAcc (x0 :: x1 :: l) 1) = true ∧ uSize (uAcc (x0 :: x1 :: l) 1) = 2)) := by
    simp only [goodK, uN_2_iff]
    simp [uCont]
  rw [hg, try_iff]
  show (uRight (begins (x0 :: x1 :: l) 2) = true ∧ enc (begins (x0 :: x1 :: l) 2) = [x0, x1] ↔ _) ∧ _
  rw [hb]
  refine ⟨⟨fun ⟨g1, g2⟩ => ?_, fun ⟨g1, g2, g3, g4⟩ => ?_⟩, fun ⟨g1, g2, g3, g4⟩ => ?_⟩
  · rw [uRight_iff] at g1
    rw [enc_2 (by omega) (by omega)] at g2
    have g6 : lead0 (x0 :: x1 :: l) / 32 = 6 := by rw [hl]; omega
    refine ⟨g6, by omega, ?_, ?_⟩
    · rw [ha g6, uRight_iff]; omega
    · rw [ha g6, uSize_2]; omega
  · rw [ha g1] at g3 g4
    rw [uRight_iff] at g3; rw [uSize_2] at g4; rw [hl] at g1
    have : ((x0.toNat : Int) - 192) * 64 + x1.toNat - 128 = (x0.toNat : Int) % 32 * 64 + (x1.toNat : Int) % 64 := by omega
    rw [this, uRight_iff]
    refine ⟨g3, ?_⟩
    rw [enc_2 (by omega) (by omega)]; omega
  · rw [ha g1]; rw [hl] at g1; omega
theorem try_3 (x0 x1 x2 : UInt8) (l : List UInt8) : (tryK (x0 :: x1 :: x2 :: l) 3 = true ↔ goodK (x0 :: x1 :: x2 :: l) 3) ∧ (goodK (x0 :: x1 :: x2 :: l) 3 → begins (x0 :: x1 :: x2 :: l) 3 = uAcc (x0 :: x1 :: x2 :: l) 2) := by
  have h0 := x0.toNat_lt; have h1 := x1.toNat_lt; have h2 := x2.toNat_lt
  have hb : begins (x0 :: x1 :: x2 :: l) 3 = (((x0.toNat : Int) - 224) * 64 + x1.toNat - 128) * 64 + x2.toNat - 128 := by
    simp only [begins]; rw [if_neg (by simp; omega)]; rfl
  have hl : lead0 (x0 :: x1 :: x2 :: l) = (x0.toNat : Int) := rfl
  have ha : lead0 (x0 :: x1 :: x2 :: l) / 16 = 14 → uAcc (x0 :: x1 :: x2 :: l) 2 = ((x0.toNat : Int) % 16 * 64 + (x1.toNat : Int) % 64) * 64 + (x2.toNat : Int) % 64 := by
    intro h
    simp only [uAcc, uC]; rw [if_neg (by omega), if_pos h]; rfl
  have hg : goodK (x0 :: x1 :: x2 :: l) 3 ↔ (lead0 (x0 :: x1 :: x2 :: l) / 16 = 14 ∧ ((x1.toNat / 64 = 2 ∧ x2.toNat / 64 = 2) ∧ uRight (uAcc (x0 :: x1 :: x2 :: l) 2) = true ∧ uSize (uAcc (x0 :: x1 :: x2 :: l) 2) = 3)) := by
    simp only [goodK, uN_3_iff]
    simp [uCont]
  rw [hg, try_iff]
  show (uRight (begins (x0 :: x1 :: x2 :: l) 3) = true ∧ enc (begins (x0 :: x1 :: x2 :: l) 3) = [x0, x1, x2] ↔ _) ∧ _
  rw [hb]
  refine ⟨⟨fun ⟨g1, g2⟩ => ?_, fun ⟨g1, g2, g3, g4⟩ => ?_⟩, fun ⟨g1, g2, g3, g4⟩ => ?_⟩
  · rw [uRight_iff] at g1
    rw [enc_3 (by omega) (by omega)] at g2
    have g6 : lead0 (x0 :: x1 :: x2 :: l) / 16 = 14 := by rw [hl]; omega
    refine ⟨g6, by omega, ?_, ?_⟩
    · rw [ha g6, uRight_iff]; omega
    · rw [ha g6, uSize_3]; omega
  · rw [ha g1] at g3 g4
    rw [uRight_iff] at g3; rw [uSize_3] at g4; rw [hl] at g1
    have : (((x0.toNat : Int) - 224) * 64 + x1.toNat - 128) * 64 + x2.toNat - 128 = ((x0.toNat : Int) % 16 * 64 + (x1.toNat : Int) % 64) * 64 + (x2.toNat : Int) % 64 := by omega
    rw [this, uRight_iff]
    refine ⟨g3, ?_⟩
    rw [enc_3 (by omega) (by omega)]; omega
  · rw [ha g1]; rw [hl] at g1; omega
theorem try_4 (x0 x1 x2 x3 : UInt8) (l : List UInt8) : (tryK (x0 :: x1 :: x2 :: x3 :: l) 4 = true ↔ goodK (x0 :: x1 :: x2 :: x3 :: l) 4) ∧ (goodK (x0 :: x1 :: x2 :: x3 :: l) 4 → begins (x0 :: x1 :: x2 :: x3 :: l) 4 = uAcc (x0 :: x1 :: x2 :: x3 :: l) 3) := by
  have h0 := x0.toNat_lt; have h1 := x1.toNat_lt; have h2 := x2.toNat_lt; have h3 := x3.toNat_lt
  have hb : begins (x0 :: x1 :: x2 :: x3 :: l) 4 = ((((x0.toNat : Int) - 240) * 64 + x1.toNat - 128) * 64 + x2.toNat - 128) * 64 + x3.toNat - 128 := by
    simp only [begins]; rw [if_neg (by simp; omega)]; rfl
  have hl : lead0 (x0 :: x1 :: x2 :: x3 :: l) = (x0.toNat : Int) := rfl
  have ha : lead0 (x0 :: x1 :: x2 :: x3 :: l) / 8 = 30 → uAcc (x0 :: x1 :: x2 :: x3 :: l) 3 = (((x0.toNat : Int) % 8 * 64 + (x1.toNat : Int) % 64) * 64 + (x2.toNat : Int) % 64) * 64 + (x3.toNat : Int) % 64 := by
    intro h
    simp only [uAcc, uC]; rw [if_neg (by omega), if_neg (by omega)]; rfl
  have hg : goodK (x0 :: x1 :: x2 :: x3 :: l) 4 ↔ (lead0 (x0 :: x1 :: x2 :: x3 :: l) / 8 = 30 ∧ ((x1.toNat / 64 = 2 ∧ x2.toNat / 64 = 2 ∧ x3.toNat / 64 = 2) ∧ uRight (uAcc (x0 :: x1 :: x2 :: x3 :: l) 3) = true ∧ uSize (uAcc (x0 :: x1 :: x2 :: x3 :: l) 3) = 4)) := by
    simp only [goodK, uN_4_iff]
    simp [uCont]
  rw [hg, try_iff]
  show (uRight (begins (x0 :: x1 :: x2 :: x3 :: l) 4) = true ∧ enc (begins (x0 :: x1 :: x2 :: x3 :: l) 4) = [x0, x1, x2, x3] ↔ _) ∧ _
  rw [hb]
  refine ⟨⟨fun ⟨g1, g2⟩ => ?_, fun ⟨g1, g2, g3, g4⟩ => ?_⟩, fun ⟨g1, g2, g3, g4⟩ => ?_⟩
  · rw [uRight_iff] at g1
    rw [enc_4 (by omega) (by omega)] at g2
    have g6 : lead0 (x0 :: x1 :: x2 :: x3 :: l) / 8 = 30 := by rw [hl]; omega
    refine ⟨g6, by omega, ?_, ?_⟩
    · rw [ha g6, uRight_iff]; omega
    · rw [ha g6, uSize_4]; omega
  · rw [ha g1] at g3 g4
    rw [uRight_iff] at g3; rw [uSize_4] at g4; rw [hl] at g1
    have : ((((x0.toNat : Int) - 240) * 64 + x1.toNat - 128) * 64 + x2.toNat - 128) * 64 + x3.toNat - 128 = (((x0.toNat : Int) % 8 * 64 + (x1.toNat : Int) % 64) * 64 + (x2.toNat : Int) % 64) * 64 + (x3.toNat : Int) % 64 := by omega
    rw [this, uRight_iff]
    refine ⟨g3, ?_⟩
    rw [enc_4 (by omega) (by omega)]; omega
  · rw [ha g1]; rw [hl] at g1; omega
theorem tryK_good (b : List UInt8) (k : Nat) (hb : 0 < b.length) (h1 : 1 ≤ k) (h4 : k ≤ 4) : (tryK b k = true ↔ goodK b k) ∧ (goodK b k → begins b k = uAcc b (k - 1) ∨ (k = 1 ∧ begins b k = lead0 b)) := by
  by_cases hs : b.length < k
  · rw [beg_short hs]
    exact ⟨⟨fun h => absurd h (by decide), fun h => absurd h.2.1 (by omega)⟩, fun h => absurd h.2.1 (by omega)⟩
  · have : k = 1 ∨ k = 2 ∨ k = 3 ∨ k = 4 := by omega
    match b, this with
    | [], _ => simp at hb
    | x0 :: l, .inl h => subst h; exact ⟨(try_1 x0 l).1, fun _ => .inr ⟨rfl, (try_1 x0 l).2⟩⟩
    | x0 :: x1 :: l, .inr (.inl h) => subst h; exact ⟨(try_2 x0 x1 l).1, fun g => .inl ((try_2 x0 x1 l).2 g)⟩
    | x0 :: x1 :: x2 :: l, .inr (.inr (.inl h)) => subst h; exact ⟨(try_3 x0 x1 x2 l).1, fun g => .inl ((try_3 x0 x1 x2 l).2 g)⟩
    | x0 :: x1 :: x2 :: x3 :: l, .inr (.inr (.inr h)) => subst h; exact ⟨(try_4 x0 x1 x2 x3 l).1, fun g => .inl ((try_4 x0 x1 x2 x3 l).2 g)⟩
    | [_], .inr (.inl h) => subst h; simp at hs
    | [_], .inr (.inr (.inl h)) => subst h; simp at hs
    | [_, _], .inr (.inr (.inl h)) => subst h; simp at hs
    | [_], .inr (.inr (.inr h)) => subst h; simp at hs
    | [_, _], .inr (.inr (.inr h)) => subst h; simp at hs
    | [_, _, _], .inr (.inr (.inr h)) => subst h; simp at hs
theorem first_good {b : List UInt8} {k : Nat} (h : goodK b k) (h1 : 1 ≤ k) (h4 : k ≤ 4) (hb : 0 < b.length) : uFirst b = (begins b k, (k : Int)) := by
  have ht := (tryK_good b k hb h1 h4).2 h
  obtain ⟨hn, hl, hr⟩ := h
  simp only [uFirst, hn]
  by_cases hk : k = 1
  · subst hk
    rw [if_pos rfl]
    rcases ht with ht | ht
    · obtain ⟨x0, l, rfl⟩ : ∃ x0 l, b = x0 :: l := by cases b with
        | nil => simp at hb
        | cons x l => exact ⟨x, l, rfl⟩
      have e : begins (x0 :: l) ((1 : Nat) : Int) = lead0 (x0 :: l) := (try_1 x0 l).2
      rw [e]; rfl
    · rw [ht.2]; rfl
  · rw [if_neg hk]
    rcases hr with hr | hr
    · omega
    · rw [if_neg (by simp only [not_or]; refine ⟨by omega, by omega, by simp [hr.1], by simp [hr.2.1], by simp [hr.2.2]⟩)]
      rcases ht with ht | ht
      · rw [ht]
      · omega
theorem pick_bad {b : List UInt8} (hb : 0 < b.length) (n : Nat) : ∀ k, k ≤ 4 → (∀ j, j ≤ k → 1 ≤ j → ¬ goodK b j) → pickK b k = (65533, 1)
  | 0, _, _ => rfl
  | k + 1, h4, h => by
    simp only [pickK]
    have : tryK b (k + 1) = false := by
      cases ht : tryK b (k + 1) with
      | false => rfl
      | true => exact absurd ((tryK_good b (k + 1) hb (by omega) h4).1.1 ht) (h _ (Nat.le_refl _) (by omega))
    rw [this]
    exact pick_bad hb n k (by omega) (fun j hj => h j (by omega))
theorem pick_good {b : List UInt8} (hb : 0 < b.length) {n : Nat} (hg : goodK b n) (h1 : 1 ≤ n) : ∀ k, k ≤ 4 → n ≤ k → pickK b k = (begins b n, (n : Int))
  | 0, _, h => by omega
  | k + 1, h4, h => by
    simp only [pickK]
    by_cases hk : n = k + 1
    · subst hk
      rw [(tryK_good b (k + 1) hb (by omega) h4).1.2 hg, if_pos rfl]
    · have : tryK b (k + 1) = false := by
        cases ht : tryK b (k + 1) with
        | false => rfl
        | true =>
          have := (tryK_good b (k + 1) hb (by omega) h4).1.1 ht
          have h2 := this.1; have h3 := hg.1; omega
      rw [this]
      exact pick_good hb hg h1 k (by omega) (by omega)
theorem uN_le (b : List UInt8) : uN b ≤ 4 := by unfold uN; (repeat' split) <;> omega
theorem pick_first (b : List UInt8) (hb : 0 < b.length) : pickK b 4 = uFirst b := by
  by_cases hg : goodK b (uN b) ∧ 1 ≤ uN b
  · rw [pick_good hb hg.1 hg.2 4 (Nat.le_refl _) (uN_le b), first_good hg.1 hg.2 (uN_le b) hb]
  · rw [pick_bad hb 0 4 (Nat.le_refl _) (fun j hj h1 h => hg (by have := h.1; rw [this]; exact ⟨h, h1⟩))]
    symm
    simp only [uFirst]
    by_cases h1 : uN b = 1
    · exfalso; apply hg
      exact ⟨⟨rfl, by omega, .inl h1⟩, by omega⟩
    · rw [if_neg h1]
      rw [if_pos]
      by_cases h0 : uN b = 0
      · exact .inl h0
      · refine .inr ?_
        by_cases hl : b.length < uN b
        · exact .inl hl
        · refine .inr ?_
          cases hc : uCont b (uN b) with
          | false => exact .inl rfl
          | true =>
            cases hr : uRight (uAcc b (uN b - 1)) with
            | false => exact .inr (.inl rfl)
            | true =>
              refine .inr (.inr fun hs => hg ⟨⟨rfl, by omega, .inr ⟨hc, hr, hs⟩⟩, by omega⟩)
theorem encR_1 (c : Int) (h0 : 0 ≤ c) (h : c < 128) : [UInt8.ofNat (Int.toNat (c % 256))] = enc c := enc_V1 c h0 h
theorem encR_2 (c : Int) (h0 : 0 ≤ c) (h : 128 ≤ c ∧ c < 2048) : [UInt8.ofNat (Int.toNat ((192 + c / 64) % 256)), UInt8.ofNat (Int.toNat ((128 + c % 64) % 256))] = enc c := by
  simp only [enc, if_neg (by omega : ¬ c < 128), if_pos h.2, more, u8]
  rw [show (192 + c / 64) % 256 = 192 + c / 64 by omega, show (128 + c % 64) % 256 = 128 + c % 64 by omega]
theorem encR_3 (c : Int) (h0 : 0 ≤ c) (h : 2048 ≤ c ∧ c < 65536) : [UInt8.ofNat (Int.toNat ((224 + c / 4096) % 256)), UInt8.ofNat (Int.toNat ((128 + c / 64 % 64) % 256)), UInt8.ofNat (Int.toNat ((128 + c % 64) % 256))] = enc c := by
  simp only [enc, if_neg (by omega : ¬ c < 128), if_neg (by omega : ¬ c < 2048), if_pos h.2, more, u8]
  rw [show (224 + c / 4096) % 256 = 224 + c / 4096 by omega, show (128 + c / 64 % 64) % 256 = 128 + c / 64 % 64 by omega, show (128 + c % 64) % 256 = 128 + c % 64 by omega]
theorem encR_4 (c : Int) (h0 : 0 ≤ c) (h1 : c ≤ 1114111) (h : 65536 ≤ c) : [UInt8.ofNat (Int.toNat ((240 + c / 262144) % 256)), UInt8.ofNat (Int.toNat ((128 + c / 4096 % 64) % 256)), UInt8.ofNat (Int.toNat ((128 + c / 64 % 64) % 256)), UInt8.ofNat (Int.toNat ((128 + c % 64) % 256))] = enc c := by
  simp only [enc, if_neg (by omega : ¬ c < 128), if_neg (by omega : ¬ c < 2048), if_neg (by omega : ¬ c < 65536), more, u8]
  rw [show (240 + c / 262144) % 256 = 240 + c / 262144 by omega, show (128 + c / 4096 % 64) % 256 = 128 + c / 4096 % 64 by omega, show (128 + c / 64 % 64) % 256 = 128 + c / 64 % 64 by omega, show (128 + c % 64) % 256 = 128 + c % 64 by omega]
theorem letter_or (c : Int) : letter c = (inI c 65 90 || (inI c 97 122 || (inI c 192 214 || (inI c 216 246 || (inI c 248 255 || (inI c 913 929 || (inI c 931 937 || (inI c 945 969 || inI c 1024 1119)))))))) := by
  simp only [letter, letters, inSpan, inI, List.any_cons, List.any_nil, Bool.or_false]
theorem small_80 {c : Int} (h : inI c 1024 1039 = true) : c + 80 = smallC c ∧ c ≤ 1039 ∧ 1024 ≤ c := by
  simp only [inI, Bool.and_eq_true, decide_eq_true_eq] at h
  refine ⟨?_, by omega⟩
  have : ∀ a e : Int, e < 1024 → (decide (a ≤ c) && decide (c ≤ e)) = false := fun a e he => by
    rw [decide_eq_false (p := c ≤ e) (by omega), Bool.and_false]
  simp only [smallC, shifts, inSpan, List.find?_cons]
  rw [this _ _ (by decide), this _ _ (by decide), this _ _ (by decide), this _ _ (by decide), this _ _ (by decide)]
  simp only [decide_eq_true h.1, decide_eq_true h.2, Bool.and_self]
theorem small_32 {c : Int} (h : inI c 1024 1039 = false) (hc : inI c 65 90 = true ∨ inI c 192 214 = true ∨ inI c 216 222 = true ∨ inI c 913 929 = true ∨ inI c 931 937 = true ∨ inI c 1040 1071 = true) : c + 32 = smallC c ∧ c ≤ 1071 ∧ 65 ≤ c := by
  have hb : c ≤ 1071 ∧ 65 ≤ c := by
    simp only [inI, Bool.and_eq_true, decide_eq_true_eq] at hc; omega
  refine ⟨?_, hb⟩
  have e : ∀ a b : Int, inSpan c (a, b) = inI c a b := fun _ _ => rfl
  simp only [smallC, shifts, List.find?_cons, e, h]
  cases h1 : inI c 65 90 <;> cases h2 : inI c 192 214 <;> cases h3 : inI c 216 222 <;> cases h4 : inI c 913 929 <;> cases h5 : inI c 931 937 <;> cases h6 : inI c 1040 1071 <;> simp_all
theorem small_0 {c : Int} (h : inI c 1024 1039 = false) (hc : inI c 65 90 = false ∧ inI c 192 214 = false ∧ inI c 216 222 = false ∧ inI c 913 929 = false ∧ inI c 931 937 = false ∧ inI c 1040 1071 = false) : c = smallC c := by
  have e : ∀ a b : Int, inSpan c (a, b) = inI c a b := fun _ _ => rfl
  simp only [smallC, shifts, List.find?_cons, e, h, hc, List.find?_nil]
theorem bAcc_bd (b : List UInt8) (n : Int) : ∀ k, k ≤ 4 → -(1000 * 128 ^ k) ≤ bAcc b n k ∧ bAcc b n k ≤ 1000 * 128 ^ k
  | 0, _ => by
    have := lead_bd b
    have h2 : 0 ≤ leadOf n ∧ leadOf n ≤ 240 := by
      unfold leadOf
      match n.toNat with
      | 0 => decide
      | 1 => decide
      | 2 => decide
      | 3 => decide
      | 4 => decide
      | k + 5 => simp
    simp only [bAcc]; omega
  | k + 1, h => by
    have ih := bAcc_bd b n k (by omega)
    simp only [bAcc]
    have hx := (b.getD (k + 1) 0).toNat_lt
    generalize (b.getD (k + 1) 0).toNat = y at hx ⊢
    have : k = 0 ∨ k = 1 ∨ k = 2 ∨ k = 3 := by omega
    rcases this with rfl | rfl | rfl | rfl <;> simp at ih ⊢ <;> omega
theorem bAcc_b {b : List UInt8} {n : Int} {k : Nat} (h : begInv b n k) (hp : begPre b n) : -268435456000 ≤ bAcc b n (k - 1) ∧ bAcc b n (k - 1) ≤ 268435456000 := by
  obtain ⟨h1, h2, h3⟩ := h
  obtain ⟨_, _, hp⟩ := hp
  have := bAcc_bd b n (k - 1) (by omega)
  have hk : k - 1 = 0 ∨ k - 1 = 1 ∨ k - 1 = 2 ∨ k - 1 = 3 := by omega
  rcases hk with hk | hk | hk | hk <;> rw [hk] at this ⊢ <;> omega
theorem beg_step {b : List UInt8} {n : Int} {k : Nat} (h : begInv b n k) : bAcc b n (k - 1) * 64 + ((b.getD (Int.toNat (k : Int)) 0).toNat : Int) - 128 = bAcc b n (k + 1 - 1) := by
  obtain ⟨j, rfl⟩ : ∃ j, k = j + 1 := ⟨k - 1, by have := h.2.1; omega⟩
  rfl
theorem beg_lead {b : List UInt8} {n : Int} : ((b.getD (Int.toNat 0) 0).toNat : Int) - [0, 0, 192, 224, 240].getD n.toNat 0 = bAcc b n 0 := rfl
theorem beg_end {b : List UInt8} {n : Int} {k : Nat} (h : begInv b n k) (hk : ¬ (k : Int) < n) : bAcc b n (k - 1) = begins b n := by
  have h1 := h.1; have h2 := h.2
  have : k = n.toNat := by omega
  simp only [begins]; rw [if_neg (by omega), this]
theorem beg_short' {b : List UInt8} {n : Int} (h : (b.length : Int) < n) : -1 = begins b n := by simp only [begins]; rw [if_pos h]
theorem cut_pick {b : List UInt8} {i j : Nat} (hi : i < b.length) : List.drop (Int.toNat (i : Int)) (List.take (Int.toNat (leastI ((i : Int) + (j : Int)) (b.length : Int))) b) = (b.drop i).take j := by
  simp only [leastI]
  split
  · rw [show Int.toNat ((i : Int) + (j : Int)) = i + j by omega, Int.toNat_natCast, List.drop_take, Nat.add_sub_cancel_left]
  · rw [Int.toNat_natCast, Int.toNat_natCast, List.take_length]
    rw [List.take_of_length_le]; rw [List.length_drop]; omega
theorem pick_step (b : List UInt8) (k : Nat) : pickK b (k + 1) = if rRight (begins b ((k + 1 : Nat) : Int)) = true ∧ enc (begins b ((k + 1 : Nat) : Int)) = b.take (k + 1) then (begins b ((k + 1 : Nat) : Int), ((k + 1 : Nat) : Int)) else pickK b k := by
  simp only [pickK, tryK, Bool.and_eq_true, decide_eq_true_eq]
theorem rRight_bd {c : Int} (h : rRight c = true) : 0 ≤ c ∧ c ≤ 1114111 := by rw [rRight_eq] at h; exact uRight_bd h
theorem rdec_0 (b : List UInt8) : decInv b (b.drop 0) [] := ⟨rfl, by simp⟩
theorem rdec_pick {b : List UInt8} {x1 : Nat × List Int} {x4 : Nat × Nat} (h2 : decInv b (b.drop x1.1) x1.2 ∧ x1.1 ≤ b.length) (h3 : (x1.1 : Int) < b.length) (h5 : x4.1 ≤ 4 ∧ (x1.1 : Int) = x4.2) (h9 : ¬ ((x4.1 + 1 : Nat) : Int) ≤ 4) :
    1 ≤ (pickK (b.drop x4.2) x4.1).2 ∧ (x1.1 : Int) + (pickK (b.drop x4.2) x4.1).2 ≤ b.length ∧
    decInv b (b.drop (Int.toNat ((x1.1 : Int) + (pickK (b.drop x4.2) x4.1).2))) (x1.2 ++ [(pickK (b.drop x4.2) x4.1).1]) ∧ x1.2.length + 1 ≤ b.length := by
  have e1 : x4.1 = 4 := by omega
  have e2 : x4.2 = x1.1 := by omega
  have hl : 0 < (b.drop x1.1).length := by rw [List.length_drop]; omega
  rw [e1, e2, pick_first _ hl]
  have hb := uFirst_bd _ hl
  have hs := dec_step h2.1 (by omega)
  rw [List.drop_drop] at hs
  rw [List.length_drop] at hb
  have h6 := h2.1.2
  rw [List.length_drop] at h6
  refine ⟨hb.1, by omega, ?_, by omega⟩
  rw [show Int.toNat ((x1.1 : Int) + (uFirst (b.drop x1.1)).2) = x1.1 + (uFirst (b.drop x1.1)).2.toNat by omega]
  exact hs
theorem rdec_try {b : List UInt8} {x1 : Nat × List Int} {x4 : Nat × Nat} (h3 : (x1.1 : Int) < b.length) (h5 : x4.1 ≤ 4 ∧ (x1.1 : Int) = x4.2) :
    pickK (b.drop x1.1) (x4.1 + 1) = bif (bif rRight (begins (b.drop (Int.toNat (x1.1 : Int))) ((x4.1 + 1 : Nat) : Int)) then decide (enc (begins (b.drop (Int.toNat (x1.1 : Int))) ((x4.1 + 1 : Nat) : Int)) = List.drop (Int.toNat (x1.1 : Int)) (List.take (Int.toNat (leastI ((x1.1 : Int) + ((x4.1 + 1 : Nat) : Int)) (b.length : Int))) b)) else false)
      then (begins (b.drop (Int.toNat (x1.1 : Int))) ((x4.1 + 1 : Nat) : Int), ((x4.1 + 1 : Nat) : Int)) else pickK (b.drop x4.2) x4.1 := by
  rw [cut_pick (by omega), pick_step, show x4.2 = x1.1 by omega, Int.toNat_natCast]
  by_cases hr : rRight (begins (b.drop x1.1) ((x4.1 + 1 : Nat) : Int)) = true
  · by_cases he : enc (begins (b.drop x1.1) ((x4.1 + 1 : Nat) : Int)) = (b.drop x1.1).take (x4.1 + 1)
    · rw [if_pos ⟨hr, he⟩, hr, decide_eq_true he]; rfl
    · rw [if_neg (fun h => he h.2), hr, decide_eq_false he]; rfl
  · rw [if_neg (fun h => hr h.1), Bool.not_eq_true _ |>.mp hr]; rfl
theorem cond_fst {α β : Type} (c : Bool) (p q : α × β) : (bif c then p else q).1 = (bif c then p.1 else q.1) := by cases c <;> rfl
theorem cond_snd {α β : Type} (c : Bool) (p q : α × β) : (bif c then p else q).2 = (bif c then p.2 else q.2) := by cases c <;> rfl
end Go.S
end
section
namespace Go.S
def wordC (c : Int) : Bool := letter c || digit c
def termF (t : List UInt8) : List Int → List UInt8
  | [] => t
  | c :: w => if 64 < t.length + (encR (smallC c)).length then t else termF (t ++ encR (smallC c)) w
def termOf (w : List Int) : List UInt8 := termF [] w
def okC (w : List Int) : Prop := w.length ≤ 1099511627776 ∧ ∀ c ∈ w, uRight c = true
def termInv (w : List Int) (k : Nat) (t : List UInt8) : Prop := termF t (w.drop k) = termOf w ∧ k ≤ w.length ∧ t.length ≤ 64
def wrd (acc : List Int) : List Int → List (List Int)
  | [] => if acc.isEmpty then [] else [acc]
  | c :: l => if wordC c then wrd (acc ++ [c]) l else if acc.isEmpty then wrd [] l else acc :: wrd [] l
def terms (b : List UInt8) : List (List UInt8) := (wrd [] (decode b)).map termOf
def tokInv (d : List Int) (k : Nat) (T : List (List UInt8)) (W : List Int) : Prop :=
  T ++ (wrd W (d.drop k)).map termOf = (wrd [] d).map termOf ∧ k ≤ d.length ∧ T.length ≤ k ∧ W.length ≤ k ∧ (∀ c ∈ W, c ∈ d)
def rtokInv (d : List Int) (k : Nat) (T : List (List UInt8)) : Prop :=
  T ++ (wrd [] (d.drop k)).map termOf = (wrd [] d).map termOf ∧ k ≤ d.length + 1 ∧ T.length ≤ k
def runInv (d : List Int) (i k : Nat) : Prop := i ≤ k ∧ k ≤ d.length ∧ ∀ c ∈ (d.drop i).take (k - i), wordC c = true
def isTerm (s : List UInt8) : Bool := decide (terms s = [s])
def leastTo (l : List (List UInt8)) : Nat → Nat
  | 0 => 0
  | k + 1 => if Op.bytesLess (l.getD k []) (l.getD (leastTo l k) []) then k else leastTo l k
def leastAt (l : List (List UInt8)) : Nat := leastTo l l.length
theorem small_cases (c : Int) : smallC c = c ∨ (65 ≤ c ∧ c ≤ 1071 ∧ (smallC c = c + 32 ∨ smallC c = c + 80)) := by
  cases h : inI c 1024 1039 with
  | true => have := small_80 h; omega
  | false =>
    by_cases h2 : inI c 65 90 = true ∨ inI c 192 214 = true ∨ inI c 216 222 = true ∨ inI c 913 929 = true ∨ inI c 931 937 = true ∨ inI c 1040 1071 = true
    · have := small_32 h h2; omega
    · simp only [not_or, Bool.not_eq_true] at h2
      exact .inl (small_0 h h2).symm
theorem small_right {c : Int} (h : uRight c = true) : uRight (smallC c) = true := by
  have := small_cases c
  rw [uRight_iff] at *
  omega
theorem uFirst_right (b : List UInt8) : uRight (uFirst b).1 = true := by
  unfold uFirst
  split
  · rename_i h
    have := lead_bd b
    have e : uRight (lead0 b) = true := (uRight_iff _).2 (by omega)
    exact e
  · split
    · have e : uRight 65533 = true := by rw [uRight_iff]; omega
      exact e
    · rename_i h1 h2
      simp only [not_or, Bool.not_eq_false] at h2
      have e : uRight (uAcc b (uN b - 1)) = true := by have := h2.2.2.2.1; assumption
      simp only; exact e
theorem decode_right (b : List UInt8) : ∀ c ∈ decode b, uRight c = true := by
  have : ∀ f (x : List UInt8), ∀ c ∈ decF f x, uRight c = true := by
    intro f
    induction f with
    | zero => intro x c h; simp [decF] at h
    | succ f ih =>
      intro x c h
      simp only [decF] at h
      split at h
      · cases h
      · rcases List.mem_cons.1 h with h | h
        · rw [h]; exact uFirst_right x
        · exact ih _ c h
  exact this _ b
theorem drop_getD {α : Type} (l : List α) (k : Nat) (d : α) (h : k < l.length) : l.drop k = l.getD k d :: l.drop (k + 1) := by
  rw [List.drop_eq_getElem_cons h, List.getD_eq_getElem?_getD, List.getElem?_eq_getElem h, Option.getD_some]
theorem term_0 (w : List Int) : termInv w 0 [] := ⟨rfl, Nat.zero_le _, by simp⟩
theorem term_step {w : List Int} {k : Nat} {t : List UInt8} (h : termInv w k t) (hk : (k : Int) < w.length) (hs : ¬ (64 : Int) < (t.length : Int) + ((encR (smallC (w.getD (Int.toNat (k : Int)) 0))).length : Int)) : termInv w (k + 1) (t ++ encR (smallC (w.getD (Int.toNat (k : Int)) 0))) := by
  obtain ⟨h1, h2, h3⟩ := h
  rw [Int.toNat_natCast] at *
  rw [drop_getD w k 0 (by omega)] at h1
  simp only [termF] at h1
  rw [if_neg (by omega)] at h1
  exact ⟨h1, by omega, by rw [List.length_append]; omega⟩
theorem term_stop {w : List Int} {k : Nat} {t : List UInt8} (h : termInv w k t) (hk : (k : Int) < w.length) (hs : (64 : Int) < (t.length : Int) + ((encR (smallC (w.getD (Int.toNat (k : Int)) 0))).length : Int)) : t = termOf w := by
  obtain ⟨h1, h2, h3⟩ := h
  rw [Int.toNat_natCast] at *
  rw [drop_getD w k 0 (by omega)] at h1
  simp only [termF] at h1
  rw [if_pos (by omega)] at h1
  exact h1
theorem term_end {w : List Int} {k : Nat} {t : List UInt8} (h : termInv w k t) (hk : ¬ (k : Int) < w.length) : t = termOf w := by
  obtain ⟨h1, h2, h3⟩ := h
  rw [List.drop_eq_nil_of_le (by omega)] at h1
  exact h1
theorem enc_len (c : Int) : (enc c).length ≤ 4 := by unfold enc; (repeat' split) <;> simp
theorem encR_len (c : Int) : (encR c).length ≤ 4 := by unfold encR; split; exact enc_len c; simp
theorem okC_get {w : List Int} {k : Nat} (h : okC w) (hk : (k : Int) < w.length) : encR (smallC (w.getD (Int.toNat (k : Int)) 0)) = enc (smallC (w.getD (Int.toNat (k : Int)) 0)) ∧ 0 ≤ smallC (w.getD (Int.toNat (k : Int)) 0) ∧ smallC (w.getD (Int.toNat (k : Int)) 0) ≤ 1114111 := by
  rw [Int.toNat_natCast]
  have := small_right (h.2 _ (getD_mem w k 0 (by omega)))
  refine ⟨by simp only [encR, this, if_true], ?_⟩
  rw [uRight_iff] at this; omega
theorem tok_0 (d : List Int) : tokInv d 0 [] [] := ⟨rfl, Nat.zero_le _, by simp, by simp, by simp⟩
theorem tok_word {d : List Int} {k : Nat} {T : List (List UInt8)} {W : List Int} (h : tokInv d k T W) (hk : (k : Int) < d.length) (hw : wordC (d.getD (Int.toNat (k : Int)) 0) = true) : tokInv d (k + 1) T (W ++ [d.getD (Int.toNat (k : Int)) 0]) := by
  obtain ⟨h1, h2, h3, h4, h5⟩ := h
  rw [Int.toNat_natCast] at *
  rw [drop_getD d k 0 (by omega)] at h1
  simp only [wrd] at h1
  rw [if_pos hw] at h1
  refine ⟨h1, by omega, by omega, by simp; omega, fun c hc => ?_⟩
  rcases List.mem_append.1 hc with hc | hc
  · exact h5 c hc
  · rw [List.mem_singleton.1 hc]; exact getD_mem d k 0 (by omega)
theorem tok_cut {d : List Int} {k : Nat} {T : List (List UInt8)} {W : List Int} (h : tokInv d k T W) (hk : (k : Int) < d.length) (hw : wordC (d.getD (Int.toNat (k : Int)) 0) = false) (hW : (0 : Int) < W.length) : tokInv d (k + 1) (T ++ [termOf W]) [] := by
  obtain ⟨h1, h2, h3, h4, h5⟩ := h
  rw [Int.toNat_natCast] at *
  rw [drop_getD d k 0 (by omega)] at h1
  simp only [wrd] at h1
  rw [if_neg (by rw [hw]; decide), if_neg (by cases W; simp at hW; simp)] at h1
  refine ⟨?_, by omega, by simp; omega, by simp, by simp⟩
  rw [List.append_assoc]; exact h1
theorem tok_skip {d : List Int} {k : Nat} {T : List (List UInt8)} {W : List Int} (h : tokInv d k T W) (hk : (k : Int) < d.length) (hw : wordC (d.getD (Int.toNat (k : Int)) 0) = false) (hW : ¬ (0 : Int) < W.length) : tokInv d (k + 1) T W := by
  obtain ⟨h1, h2, h3, h4, h5⟩ := h
  rw [Int.toNat_natCast] at *
  have : W = [] := List.eq_nil_of_length_eq_zero (by omega)
  subst this
  rw [drop_getD d k 0 (by omega)] at h1
  simp only [wrd] at h1
  rw [if_neg (by rw [hw]; decide), if_pos (by simp)] at h1
  exact ⟨h1, by omega, by omega, by simp, by simp⟩
theorem tok_end1 {b : List UInt8} {k : Nat} {T : List (List UInt8)} {W : List Int} (h : tokInv (decode b) k T W) (hk : ¬ (k : Int) < (decode b).length) (hW : (0 : Int) < W.length) : T ++ [termOf W] = terms b := by
  obtain ⟨h1, h2, h3, h4, h5⟩ := h
  rw [List.drop_eq_nil_of_le (by omega)] at h1
  simp only [wrd] at h1
  rw [if_neg (by cases W; simp at hW; simp)] at h1
  exact h1
theorem tok_end2 {b : List UInt8} {k : Nat} {T : List (List UInt8)} {W : List Int} (h : tokInv (decode b) k T W) (hk : ¬ (k : Int) < (decode b).length) (hW : ¬ (0 : Int) < W.length) : T = terms b := by
  obtain ⟨h1, h2, h3, h4, h5⟩ := h
  have : W = [] := List.eq_nil_of_length_eq_zero (by omega)
  subst this
  rw [List.drop_eq_nil_of_le (by omega)] at h1
  simp only [wrd, List.isEmpty_nil, if_true, List.map_nil, List.append_nil] at h1
  exact h1
theorem tok_bd {b : List UInt8} {k : Nat} {T : List (List UInt8)} {W : List Int} (h : tokInv (decode b) k T W) (hb : b.length ≤ 1099511627776) : okC W ∧ T.length ≤ 1099511627776 ∧ W.length ≤ 1099511627776 ∧ k ≤ 1099511627776 := by
  obtain ⟨h1, h2, h3, h4, h5⟩ := h
  have := decode_len b
  exact ⟨⟨by omega, fun c hc => decode_right b c (h5 c hc)⟩, by omega, by omega, by omega⟩
theorem rtok_0 (d : List Int) : rtokInv d 0 [] := ⟨rfl, Nat.zero_le _, by simp⟩
theorem run_0 {d : List Int} {k : Nat} (h : (k : Int) < d.length) : runInv d k k := ⟨Nat.le_refl _, by omega, by simp⟩
theorem run_step {d : List Int} {i k : Nat} (h : runInv d i k) (hk : (k : Int) < d.length) (hw : wordC (d.getD (Int.toNat (k : Int)) 0) = true) : runInv d i (k + 1) := by
  obtain ⟨h1, h2, h3⟩ := h
  rw [Int.toNat_natCast] at hw
  refine ⟨by omega, by omega, fun c hc => ?_⟩
  rw [show k + 1 - i = (k - i) + 1 by omega, take_succ_getD _ _ 0 (by rw [List.length_drop]; omega)] at hc
  rcases List.mem_append.1 hc with hc | hc
  · exact h3 c hc
  · rw [List.mem_singleton.1 hc, List.getD_eq_getElem?_getD, List.getElem?_drop, show i + (k - i) = k by omega, ← List.getD_eq_getElem?_getD]; exact hw
theorem wrd_run : ∀ (u acc rest : List Int), (∀ c ∈ u, wordC c = true) → wrd acc (u ++ rest) = wrd (acc ++ u) rest
  | [], acc, rest, _ => by simp
  | c :: u, acc, rest, h => by
    simp only [List.cons_append, wrd]
    rw [if_pos (h c (by simp)), wrd_run u _ rest (fun x hx => h x (by simp [hx]))]
    rw [List.append_assoc]; rfl
theorem rtok_cut {d : List Int} {i k : Nat} {T : List (List UInt8)} (h : rtokInv d i T) (hr : runInv d i k) (hs : ¬ (k : Int) < d.length ∨ wordC (d.getD (Int.toNat (k : Int)) 0) = false) (hik : (i : Int) < k) :
    rtokInv d (k + 1) (T ++ [termOf (List.take (Int.toNat (k : Int) - Int.toNat (i : Int)) (List.drop (Int.toNat (i : Int)) d))]) := by
  obtain ⟨h1, h2, h3⟩ := h
  obtain ⟨r1, r2, r3⟩ := hr
  rw [Int.toNat_natCast] at *
  rw [Int.toNat_natCast]
  refine ⟨?_, by omega, by simp; omega⟩
  rw [← List.take_append_drop (k - i) (d.drop i), wrd_run _ _ _ r3, List.nil_append, List.drop_drop, show i + (k - i) = k by omega] at h1
  have hne : (List.take (k - i) (List.drop i d)).isEmpty = false := by
    rw [List.isEmpty_eq_false_iff]; intro h0
    have := congrArg List.length h0
    rw [List.length_take, List.length_drop] at this; simp at this; omega
  by_cases hk : k < d.length
  · rw [drop_getD d k 0 hk] at h1
    simp only [wrd] at h1
    rw [if_neg (by rcases hs with hs | hs; omega; rw [hs]; decide), hne, if_neg (by simp)] at h1
    rw [List.append_assoc]; exact h1
  · rw [List.drop_eq_nil_of_le (show d.length ≤ k by omega)] at h1
    rw [List.drop_eq_nil_of_le (show d.length ≤ k + 1 by omega)]
    simp only [wrd] at h1
    rw [hne, if_neg (by simp)] at h1
    simp only [wrd, List.isEmpty_nil, if_true, List.map_nil, List.append_nil, List.map_cons] at h1 ⊢
    exact h1
theorem rtok_skip {d : List Int} {i k : Nat} {T : List (List UInt8)} (h : rtokInv d i T) (hi : (i : Int) < d.length) (hr : runInv d i k) (hs : ¬ (k : Int) < d.length ∨ wordC (d.getD (Int.toNat (k : Int)) 0) = false) (hik : ¬ (i : Int) < k) : rtokInv d (k + 1) T := by
  obtain ⟨h1, h2, h3⟩ := h
  have : i = k := by have := hr.1; omega
  subst this
  rw [Int.toNat_natCast] at *
  rw [drop_getD d i 0 (by omega)] at h1
  simp only [wrd] at h1
  rw [if_neg (by rcases hs with hs | hs; omega; rw [hs]; decide), if_pos (by simp)] at h1
  exact ⟨h1, by omega, by omega⟩
theorem rtok_end {b : List UInt8} {i : Nat} {T : List (List UInt8)} (h : rtokInv (decode b) i T) (hi : ¬ (i : Int) < (decode b).length) : T = terms b := by
  obtain ⟨h1, h2, h3⟩ := h
  rw [List.drop_eq_nil_of_le (by omega)] at h1
  simp only [wrd, List.isEmpty_nil, if_true, List.map_nil, List.append_nil] at h1
  exact h1
theorem run_ok {b : List UInt8} {i k : Nat} (hb : b.length ≤ 1099511627776) : okC (List.take (Int.toNat (k : Int) - Int.toNat (i : Int)) (List.drop (Int.toNat (i : Int)) (decode b))) := by
  have := decode_len b
  refine ⟨by rw [List.length_take, List.length_drop]; omega, fun c hc => decode_right b c (List.mem_of_mem_drop (List.mem_of_mem_take hc))⟩
theorem isTerm_V (s : List UInt8) : (bif decide (((terms s).length : Int) = 1) then decide (List.getD (terms s) (Int.toNat 0) [] = s) else false) = isTerm s := by
  unfold isTerm
  match h : terms s with
  | [] => simp
  | [x] => by_cases hx : x = s <;> simp [hx]
  | x :: y :: l => simp; omega
theorem leastTo_lt {l : List (List UInt8)} : ∀ k, 0 < l.length → k ≤ l.length → leastTo l k < l.length
  | 0, h, _ => h
  | k + 1, h, hk => by
    simp only [leastTo]; split
    · omega
    · exact leastTo_lt k h (by omega)
theorem wordC_t {c : Int} (h : letter c = true ∨ digit c = true) : wordC c = true := by simpa [wordC] using h
theorem wordC_f {c : Int} (h : letter c = false ∧ digit c = false) : wordC c = false := by simpa [wordC] using h
theorem wordC_eq (c : Int) : (bif letter c then true else bif decide (48 ≤ c) then decide (c ≤ 57) else false) = wordC c := by
  unfold wordC digit
  cases letter c <;> simp
def sortF : Nat → List (List UInt8) → List (List UInt8)
  | 0, _ => []
  | f + 1, l => if l.isEmpty then [] else l.getD (leastAt l) [] :: sortF f (l.filter (fun x => !decide (x = l.getD (leastAt l) [])))
def sorted (l : List (List UInt8)) : List (List UInt8) := sortF l.length l
def placesTo (l : List (List UInt8)) (t : List UInt8) (k : Nat) : List Int := ((List.range k).filter (fun i => decide (l.getD i [] = t))).map (fun (i : Nat) => (i : Int))
def places (b t : List UInt8) : List Int := placesTo (terms b) t (terms b).length
def placeInv (l : List (List UInt8)) (t : List UInt8) (k : Nat) (r : List Int) : Prop := r = placesTo l t k ∧ k ≤ l.length ∧ r.length ≤ k
def goodC (c : Int) : Bool := wordC c && decide (smallC c = c)
def rTerm (s : List UInt8) : Bool := (decode s).all goodC && (decide (0 < ((decode s).length : Int)) && decide ((s.length : Int) ≤ 64))
theorem leastAt_lt {l : List (List UInt8)} (h : 0 < l.length) : leastAt l < l.length := leastTo_lt _ h (Nat.le_refl _)
theorem rest_less {l : List (List UInt8)} (h : 0 < l.length) : (l.filter (fun x => !decide (x = l.getD (leastAt l) []))).length < l.length := by
  have hm := getD_mem l (leastAt l) [] (leastAt_lt h)
  exact List.length_filter_lt_length_iff_exists.2 ⟨_, hm, by simp⟩
theorem sortF_enough : ∀ (f g : Nat) (l : List (List UInt8)), l.length ≤ f → l.length ≤ g → sortF f l = sortF g l
  | 0, 0, _, _, _ => rfl
  | 0, g + 1, l, h, _ => by
    have : l = [] := List.eq_nil_of_length_eq_zero (by omega)
    subst this; rfl
  | f + 1, 0, l, _, h => by
    have : l = [] := List.eq_nil_of_length_eq_zero (by omega)
    subst this; rfl
  | f + 1, g + 1, l, h1, h2 => by
    simp only [sortF]
    cases hl : l.isEmpty with
    | true => rfl
    | false =>
      have hp : 0 < l.length := by rw [List.isEmpty_eq_false_iff] at hl; exact List.length_pos_iff.2 hl
      have := rest_less hp
      rw [if_neg (by simp), if_neg (by simp), sortF_enough f g _ (by omega) (by omega)]
theorem sorted_cons {l : List (List UInt8)} (h : 0 < l.length) : sorted l = l.getD (leastAt l) [] :: sorted (l.filter (fun x => !decide (x = l.getD (leastAt l) []))) := by
  have hr := rest_less h
  unfold sorted
  obtain ⟨n, hn⟩ : ∃ n, l.length = n + 1 := ⟨l.length - 1, by omega⟩
  rw [hn]
  simp only [sortF]
  have : l.isEmpty = false := by rw [List.isEmpty_eq_false_iff]; exact List.length_pos_iff.1 h
  rw [this, if_neg (by simp), sortF_enough n _ _ (by omega) (Nat.le_refl _)]
theorem places_step {l : List (List UInt8)} {t : List UInt8} {k : Nat} {r : List Int} (h : placeInv l t k r) (hk : (k : Int) < l.length) (hs : l.getD (Int.toNat (k : Int)) [] = t) : placeInv l t (k + 1) (r ++ [(k : Int)]) := by
  rw [Int.toNat_natCast] at *
  refine ⟨?_, by omega, by have := h.2.2; simp; omega⟩
  rw [h.1]
  simp only [placesTo, List.range_succ, List.filter_append, List.map_append, List.filter_cons, hs, decide_true, if_true, List.filter_nil, List.map_cons, List.map_nil]
theorem places_skip {l : List (List UInt8)} {t : List UInt8} {k : Nat} {r : List Int} (h : placeInv l t k r) (hk : (k : Int) < l.length) (hs : ¬ l.getD (Int.toNat (k : Int)) [] = t) : placeInv l t (k + 1) r := by
  rw [Int.toNat_natCast] at *
  refine ⟨?_, by omega, by have := h.2.2; omega⟩
  rw [h.1]
  have : ∀ (a : List Nat) (p : Nat → Bool), p k = false → (a ++ [k]).filter p = a.filter p := by
    intro a p hp
    rw [List.filter_append, List.filter_cons, hp]; simp
  simp only [placesTo, List.range_succ]
  rw [this _ _ (decide_eq_false hs)]
theorem places_0 (l : List (List UInt8)) (t : List UInt8) : placeInv l t 0 [] := ⟨rfl, Nat.zero_le _, Nat.le_refl _⟩
theorem places_end {b t : List UInt8} {k : Nat} {r : List Int} (h : placeInv (terms b) t k r) (hk : ¬ (k : Int) < (terms b).length) : r = places b t := by
  rw [h.1, show k = (terms b).length by have := h.2.1; omega]; rfl
theorem terms_len (b : List UInt8) : (terms b).length ≤ b.length := by
  have h0 : ∀ (l acc : List Int), (wrd acc l).length ≤ l.length + acc.length := by
    intro l
    induction l with
    | nil => intro acc; simp only [wrd]; cases acc <;> simp
    | cons c l ih =>
      intro acc
      simp only [wrd]
      split
      · have := ih (acc ++ [c]); simp at this ⊢; omega
      · split
        · have := ih []; simp at this ⊢; omega
        · rename_i h1 h2
          have : 0 < acc.length := by cases acc; simp at h2; simp
          have := ih []; simp at this ⊢; omega
  have := h0 (decode b) []
  have := decode_len b
  simp only [terms, List.length_map]
  simp at *; omega
end Go.S
end
section
namespace Go.S
theorem pick_enc (b : List UInt8) : ∀ k, (pickK b k).1 ≠ 65533 → enc (pickK b k).1 = b.take (pickK b k).2.toNat
  | 0, h => absurd rfl h
  | k + 1, h => by
    simp only [pickK] at h ⊢
    by_cases ht : tryK b (k + 1) = true
    · rw [if_pos ht] at h ⊢
      have := ((try_iff b (k + 1)).1 ht).2
      simpa using this
    · rw [if_neg ht] at h ⊢
      exact pick_enc b k h
theorem uFirst_enc {b : List UInt8} (hb : 0 < b.length) (h : (uFirst b).1 ≠ 65533) : enc (uFirst b).1 = b.take (uFirst b).2.toNat := by
  rw [← pick_first b hb] at h ⊢; exact pick_enc b 4 h
theorem decode_flat : ∀ (n : Nat) (b : List UInt8), b.length ≤ n → (∀ c ∈ decode b, c ≠ 65533) → (decode b).flatMap enc = b := by
  intro n
  induction n with
  | zero => intro b h _; have : b = [] := List.eq_nil_of_length_eq_zero (by omega)
            subst this; rfl
  | succ n ih =>
    intro b h hc
    by_cases h0 : b.length = 0
    · have : b = [] := List.eq_nil_of_length_eq_zero h0
      subst this; rfl
    · have hb := uFirst_bd b (by omega)
      rw [decode_cons b (by omega)] at hc ⊢
      rw [List.flatMap_cons, uFirst_enc (by omega) (hc _ (by simp)), ih _ (by rw [List.length_drop]; omega) (fun c h' => hc c (by simp [h']))]
      exact List.take_append_drop _ _
theorem u8_nat {c : Int} (h0 : 0 ≤ c) (h1 : c < 256) : ((u8 c).toNat : Int) = c := ((u8_eq h0 h1).1 rfl).symm
theorem begins_enc {c : Int} (hr : uRight c = true) (r : List UInt8) : begins (enc c ++ r) ((enc c).length : Nat) = c ∧ 1 ≤ (enc c).length ∧ (enc c).length ≤ 4 := by
  have hb := uRight_bd hr
  unfold enc
  split
  · refine ⟨?_, by simp, by simp⟩
    have e := (try_1 (u8 c) r).2
    have e2 : lead0 (u8 c :: r) = c := u8_nat hb.1 (by omega)
    rw [e2] at e; exact e
  · split
    · refine ⟨?_, by simp, by simp⟩
      show begins (u8 (192 + c / 64) :: more c :: r) 2 = c
      have h1 := u8_nat (c := 192 + c / 64) (by omega) (by omega)
      have h2 : ((more c).toNat : Int) = 128 + c % 64 := u8_nat (c := 128 + c % 64) (by omega) (by omega)
      have e : begins (u8 (192 + c / 64) :: more c :: r) 2 = (((u8 (192 + c / 64)).toNat : Int) - 192) * 64 + (more c).toNat - 128 := by
        simp only [begins]; rw [if_neg (by simp; omega)]; rfl
      rw [e, h1, h2]; omega
    · split
      · refine ⟨?_, by simp, by simp⟩
        show begins (u8 (224 + c / 4096) :: more (c / 64) :: more c :: r) 3 = c
        have h1 := u8_nat (c := 224 + c / 4096) (by omega) (by omega)
        have h2 : ((more (c / 64)).toNat : Int) = 128 + c / 64 % 64 := u8_nat (c := 128 + c / 64 % 64) (by omega) (by omega)
        have h3 : ((more c).toNat : Int) = 128 + c % 64 := u8_nat (c := 128 + c % 64) (by omega) (by omega)
        have e : begins (u8 (224 + c / 4096) :: more (c / 64) :: more c :: r) 3 = ((((u8 (224 + c / 4096)).toNat : Int) - 224) * 64 + (more (c / 64)).toNat - 128) * 64 + (more c).toNat - 128 := by
          simp only [begins]; rw [if_neg (by simp; omega)]; rfl
        rw [e, h1, h2, h3]; omega
      · refine ⟨?_, by simp, by simp⟩
        show begins (u8 (240 + c / 262144) :: more (c / 4096) :: more (c / 64) :: more c :: r) 4 = c
        have h1 := u8_nat (c := 240 + c / 262144) (by omega) (by omega)
        have h2 : ((more (c / 4096)).toNat : Int) = 128 + c / 4096 % 64 := u8_nat (c := 128 + c / 4096 % 64) (by omega) (by omega)
        have h3 : ((more (c / 64)).toNat : Int) = 128 + c / 64 % 64 := u8_nat (c := 128 + c / 64 % 64) (by omega) (by omega)
        have h4 : ((more c).toNat : Int) = 128 + c % 64 := u8_nat (c := 128 + c % 64) (by omega) (by omega)
        have e : begins (u8 (240 + c / 262144) :: more (c / 4096) :: more (c / 64) :: more c :: r) 4 = (((((u8 (240 + c / 262144)).toNat : Int) - 240) * 64 + (more (c / 4096)).toNat - 128) * 64 + (more (c / 64)).toNat - 128) * 64 + (more c).toNat - 128 := by
          simp only [begins]; rw [if_neg (by simp; omega)]; rfl
        rw [e, h1, h2, h3, h4]; omega
theorem enc_first {c : Int} (hr : uRight c = true) (r : List UInt8) : uFirst (enc c ++ r) = (c, ((enc c).length : Int)) := by
  obtain ⟨hb, h1, h4⟩ := begins_enc hr r
  have hl : 0 < (enc c ++ r).length := by rw [List.length_append]; omega
  have ht : tryK (enc c ++ r) (enc c).length = true := by
    rw [try_iff, hb]; exact ⟨hr, by rw [List.take_left']; rfl⟩
  have hg := (tryK_good _ _ hl h1 h4).1.1 ht
  rw [← pick_first _ hl, pick_good hl hg h1 4 (Nat.le_refl _) h4, hb]
theorem decode_enc : ∀ (P : List Int), (∀ c ∈ P, uRight c = true) → decode (P.flatMap enc) = P
  | [], _ => rfl
  | c :: P, h => by
    have hr := h c (by simp)
    have h1 := (begins_enc hr []).2.1
    rw [List.flatMap_cons, decode_cons _ (by rw [List.length_append]; omega), enc_first hr]
    simp only
    rw [Int.toNat_natCast, List.drop_left' rfl, decode_enc P (fun x hx => h x (by simp [hx]))]
theorem termF_all : ∀ (w : List Int) (t : List UInt8), t.length + (w.flatMap fun c => encR (smallC c)).length ≤ 64 → termF t w = t ++ w.flatMap fun c => encR (smallC c)
  | [], t, _ => by simp [termF]
  | c :: w, t, h => by
    rw [List.flatMap_cons, List.length_append] at h
    simp only [termF]
    rw [if_neg (by omega), termF_all w _ (by rw [List.length_append]; omega), List.flatMap_cons, List.append_assoc]
theorem termF_some : ∀ (w : List Int) (t : List UInt8), ∃ p : List Int, (∀ c ∈ p, c ∈ w) ∧ termF t w = t ++ p.flatMap fun c => encR (smallC c)
  | [], t => ⟨[], by simp, by simp [termF]⟩
  | c :: w, t => by
    simp only [termF]
    split
    · exact ⟨[], by simp, by simp⟩
    · obtain ⟨p, h1, h2⟩ := termF_some w (t ++ encR (smallC c))
      refine ⟨c :: p, ?_, by rw [h2, List.flatMap_cons, List.append_assoc]⟩
      intro x hx
      rcases List.mem_cons.1 hx with hx | hx
      · simp [hx]
      · simp [h1 x hx]
theorem termF_le : ∀ (w : List Int) (t : List UInt8), t.length ≤ 64 → (termF t w).length ≤ 64
  | [], t, h => h
  | c :: w, t, h => by
    simp only [termF]
    split
    · exact h
    · exact termF_le w _ (by rw [List.length_append]; omega)
theorem wrd_mem : ∀ (l acc : List Int), (∀ c ∈ acc, wordC c = true) → ∀ W ∈ wrd acc l, ∀ c ∈ W, wordC c = true ∧ (c ∈ acc ∨ c ∈ l)
  | [], acc, ha, W, hW, c, hc => by
    simp only [wrd] at hW
    split at hW
    · cases hW
    · rw [List.mem_singleton.1 hW] at hc; exact ⟨ha c hc, .inl hc⟩
  | x :: l, acc, ha, W, hW, c, hc => by
    simp only [wrd] at hW
    by_cases hx : wordC x = true
    · rw [if_pos hx] at hW
      have := wrd_mem l (acc ++ [x]) (fun y hy => by
        rcases List.mem_append.1 hy with hy | hy
        · exact ha y hy
        · rw [List.mem_singleton.1 hy]; exact hx) W hW c hc
      refine ⟨this.1, ?_⟩
      rcases this.2 with h | h
      · rcases List.mem_append.1 h with h | h
        · exact .inl h
        · exact .inr (by simp [List.mem_singleton.1 h])
      · exact .inr (by simp [h])
    · rw [if_neg hx] at hW
      have hn : ∀ W' ∈ wrd [] l, ∀ c ∈ W', wordC c = true ∧ (c ∈ acc ∨ c ∈ x :: l) := fun W' h' y hy => by
        have := wrd_mem l [] (by simp) W' h' y hy
        refine ⟨this.1, .inr ?_⟩
        rcases this.2 with h | h
        · cases h
        · simp [h]
      split at hW
      · exact hn W hW c hc
      · rcases List.mem_cons.1 hW with h | h
        · rw [h] at hc; exact ⟨ha c hc, .inl hc⟩
        · exact hn W h c hc
theorem inI_no {c a b : Int} (h : c < a ∨ b < c) : inI c a b = false := by
  simp only [inI, Bool.and_eq_false_iff, decide_eq_false_iff_not]; omega
theorem inI_yes {c a b : Int} : inI c a b = true ↔ a ≤ c ∧ c ≤ b := by simp [inI]
theorem small_small (c : Int) : smallC (smallC c) = smallC c := by
  have stay : ∀ x : Int, (97 ≤ x ∧ x < 192) ∨ (223 ≤ x ∧ x < 913) ∨ (938 ≤ x ∧ x < 1024) ∨ 1072 ≤ x → smallC x = x := fun x h => by
    refine (small_0 (inI_no (by omega)) ⟨inI_no (by omega), inI_no (by omega), inI_no (by omega), inI_no (by omega), inI_no (by omega), inI_no (by omega)⟩).symm
  cases h : inI c 1024 1039 with
  | true => have := small_80 h; exact stay _ (by omega)
  | false =>
    by_cases h2 : inI c 65 90 = true ∨ inI c 192 214 = true ∨ inI c 216 222 = true ∨ inI c 913 929 = true ∨ inI c 931 937 = true ∨ inI c 1040 1071 = true
    · have := small_32 h h2
      simp only [inI_yes] at h2
      exact stay _ (by omega)
    · simp only [not_or, Bool.not_eq_true] at h2
      rw [← small_0 h h2, ← small_0 h h2]
theorem letter_iff (c : Int) : letter c = true ↔ (65 ≤ c ∧ c ≤ 90) ∨ (97 ≤ c ∧ c ≤ 122) ∨ (192 ≤ c ∧ c ≤ 214) ∨ (216 ≤ c ∧ c ≤ 246) ∨ (248 ≤ c ∧ c ≤ 255) ∨ (913 ≤ c ∧ c ≤ 929) ∨ (931 ≤ c ∧ c ≤ 937) ∨ (945 ≤ c ∧ c ≤ 969) ∨ (1024 ≤ c ∧ c ≤ 1119) := by
  rw [letter_or]; simp only [Bool.or_eq_true, inI_yes]
theorem word_iff (c : Int) : wordC c = true ↔ letter c = true ∨ (48 ≤ c ∧ c ≤ 57) := by simp [wordC, digit]
theorem small_word {c : Int} (h : wordC c = true) : wordC (smallC c) = true := by
  cases h1 : inI c 1024 1039 with
  | true => have := small_80 h1; rw [word_iff, letter_iff]; omega
  | false =>
    by_cases h2 : inI c 65 90 = true ∨ inI c 192 214 = true ∨ inI c 216 222 = true ∨ inI c 913 929 = true ∨ inI c 931 937 = true ∨ inI c 1040 1071 = true
    · have := small_32 h1 h2
      simp only [inI_yes] at h2
      rw [word_iff, letter_iff]; omega
    · simp only [not_or, Bool.not_eq_true] at h2
      rw [← small_0 h1 h2]; exact h
theorem flat_congr {α β : Type} {l : List α} {f g : α → List β} (h : ∀ x ∈ l, f x = g x) : l.flatMap f = l.flatMap g := by
  induction l with
  | nil => rfl
  | cons a l ih => rw [List.flatMap_cons, List.flatMap_cons, h a (by simp), ih (fun x hx => h x (by simp [hx]))]
theorem encR_eq {c : Int} (h : uRight c = true) : encR c = enc c := by simp only [encR, h, if_true]
theorem rTerm_eq (s : List UInt8) : rTerm s = isTerm s := by
  rw [Bool.eq_iff_iff]
  simp only [rTerm, isTerm, Bool.and_eq_true, decide_eq_true_eq, List.all_eq_true, goodC]
  constructor
  · rintro ⟨hg, h0, hl⟩
    have hf := decode_flat s.length s (Nat.le_refl _) (fun c hc e => by
      have := (hg c hc).1; rw [e, word_iff, letter_iff] at this; omega)
    have hw : wrd [] (decode s) = [decode s] := by
      have := wrd_run (decode s) [] [] (fun c hc => (hg c hc).1)
      rw [List.append_nil, List.nil_append] at this
      rw [this]; simp only [wrd]
      rw [if_neg]; intro he
      rw [List.isEmpty_iff.1 he] at h0; simp at h0
    have he : (decode s).flatMap (fun c => encR (smallC c)) = s := by
      rw [flat_congr (g := enc) (fun c hc => by rw [(hg c hc).2, encR_eq (decode_right s c hc)]), hf]
    simp only [terms, hw, List.map_cons, List.map_nil, termOf]
    rw [termF_all _ _ (by rw [he]; simp; omega), he]; rfl
  · intro h
    have hlen : s.length ≤ 64 := by
      have hm : s ∈ terms s := by rw [h]; simp
      simp only [terms, List.mem_map] at hm
      obtain ⟨w, _, hw⟩ := hm
      rw [← hw]; exact termF_le w [] (by simp)
    have hm : s ∈ terms s := by rw [h]; simp
    simp only [terms, List.mem_map] at hm
    obtain ⟨W, hW, hs⟩ := hm
    have hmem := wrd_mem (decode s) [] (by simp) W hW
    obtain ⟨p, hp, hpf⟩ := termF_some W []
    have hr : ∀ c ∈ p, uRight (smallC c) = true := fun c hc => small_right (decode_right s c (by
      rcases (hmem c (hp c hc)).2 with h | h
      · cases h
      · exact h))
    have hs2 : s = (p.map smallC).flatMap enc := by
      rw [← hs]; show termF [] W = _
      rw [hpf, List.nil_append, List.flatMap_map]
      exact flat_congr fun c hc => encR_eq (hr c hc)
    have hd : decode s = p.map smallC := by
      conv => lhs; rw [hs2]
      exact decode_enc _ (fun c hc => by
        obtain ⟨c', h', rfl⟩ := List.mem_map.1 hc; exact hr c' h')
    refine ⟨fun c hc => ?_, ?_, by omega⟩
    · rw [hd] at hc
      obtain ⟨c', h', rfl⟩ := List.mem_map.1 hc
      exact ⟨small_word (hmem c' (hp c' h')).1, small_small c'⟩
    · by_cases h0 : decode s = []
      · rw [h0] at hW; simp [wrd] at hW
      · have := List.length_pos_iff.2 h0; omega
end Go.S
end
section
namespace Go.S
theorem bl_irrefl : ∀ a : List UInt8, Op.bytesLess a a = false
  | [] => rfl
  | a :: x => by simp [Op.bytesLess, bl_irrefl x]
theorem bl_trans : ∀ a b c : List UInt8, Op.bytesLess a b = true → Op.bytesLess b c = true → Op.bytesLess a c = true
  | _, [], _, h, _ => by simp [Op.bytesLess] at h
  | _, _ :: _, [], _, h => by simp [Op.bytesLess] at h
  | [], _ :: _, _ :: _, _, _ => rfl
  | a :: x, b :: y, c :: z, h1, h2 => by
    simp only [Op.bytesLess, Bool.or_eq_true, decide_eq_true_eq, Bool.and_eq_true, beq_iff_eq] at h1 h2 ⊢
    rcases h1 with h1 | ⟨rfl, h1⟩
    · rcases h2 with h2 | ⟨rfl, h2⟩
      · left; rw [UInt8.lt_iff_toNat_lt] at *; omega
      · left; exact h1
    · rcases h2 with h2 | ⟨rfl, h2⟩
      · left; exact h2
      · right; exact ⟨rfl, bl_trans x y z h1 h2⟩
theorem bl_tri : ∀ a b : List UInt8, Op.bytesLess a b = true ∨ a = b ∨ Op.bytesLess b a = true
  | [], [] => .inr (.inl rfl)
  | [], _ :: _ => .inl rfl
  | _ :: _, [] => .inr (.inr rfl)
  | a :: x, b :: y => by
    simp only [Op.bytesLess, Bool.or_eq_true, decide_eq_true_eq, Bool.and_eq_true, beq_iff_eq, List.cons.injEq]
    by_cases h : a = b
    · subst h
      rcases bl_tri x y with h | h | h
      · exact .inl (.inr ⟨rfl, h⟩)
      · exact .inr (.inl ⟨rfl, h⟩)
      · exact .inr (.inr (.inr ⟨rfl, h⟩))
    · have : a.toNat ≠ b.toNat := fun e => h (UInt8.toNat_inj.1 e)
      by_cases h2 : a.toNat < b.toNat
      · exact .inl (.inl (UInt8.lt_iff_toNat_lt.2 h2))
      · exact .inr (.inr (.inl (UInt8.lt_iff_toNat_lt.2 (by omega))))
theorem bl_asymm {a b : List UInt8} (h : Op.bytesLess a b = true) : Op.bytesLess b a = false := by
  cases h2 : Op.bytesLess b a with
  | false => rfl
  | true => have := bl_trans _ _ _ h h2; rw [bl_irrefl] at this; cases this
def incr (l : List (List UInt8)) : Prop := l.Pairwise fun a b => Op.bytesLess a b = true
theorem incr_unique : ∀ (l m : List (List UInt8)), incr l → incr m → (∀ x, x ∈ l ↔ x ∈ m) → l = m
  | [], [], _, _, _ => rfl
  | [], b :: m, _, _, h => by have := (h b).2 (by simp); cases this
  | a :: l, [], _, _, h => by have := (h a).1 (by simp); cases this
  | a :: l, b :: m, hl, hm, h => by
    obtain ⟨hl1, hl2⟩ := List.pairwise_cons.1 hl
    obtain ⟨hm1, hm2⟩ := List.pairwise_cons.1 hm
    have hab : a = b := by
      rcases List.mem_cons.1 ((h a).1 (by simp)) with e | e
      · exact e
      · rcases List.mem_cons.1 ((h b).2 (by simp)) with e2 | e2
        · exact e2.symm
        · have q1 := hm1 a e
          have q2 := bl_asymm (hl1 b e2)
          rw [q1] at q2; cases q2
    subst hab
    have := incr_unique l m hl2 hm2 (fun x => by
      constructor
      · intro hx
        rcases List.mem_cons.1 ((h x).1 (by simp [hx])) with e | e
        · have := hl1 x hx; rw [e, bl_irrefl] at this; cases this
        · exact e
      · intro hx
        rcases List.mem_cons.1 ((h x).2 (by simp [hx])) with e | e
        · have := hm1 x hx; rw [e, bl_irrefl] at this; cases this
        · exact e)
    rw [this]
theorem least_min (l : List (List UInt8)) : ∀ k, k ≤ l.length → ∀ i, i < k → Op.bytesLess (l.getD i []) (l.getD (leastTo l k) []) = false
  | 0, _, i, hi => by omega
  | k + 1, hk, i, hi => by
    have ih := least_min l k (by omega)
    rw [show leastTo l (k + 1) = if Op.bytesLess (l.getD k []) (l.getD (leastTo l k) []) = true then k else leastTo l k from rfl]
    by_cases h : Op.bytesLess (l.getD k []) (l.getD (leastTo l k) []) = true
    · rw [if_pos h]
      by_cases e : i = k
      · rw [e]; exact bl_irrefl _
      · have q := ih i (by omega)
        cases hq : Op.bytesLess (l.getD i []) (l.getD k []) with
        | false => rfl
        | true => have := bl_trans _ _ _ hq h; rw [this] at q; cases q
    · rw [if_neg h]
      by_cases e : i = k
      · rw [e]; simpa using h
      · exact ih i (by omega)
theorem sorted_ok : ∀ (n : Nat) (l : List (List UInt8)), l.length ≤ n → incr (sorted l) ∧ ∀ x, x ∈ sorted l ↔ x ∈ l := by
  intro n
  induction n with
  | zero =>
    intro l h
    have : l = [] := List.eq_nil_of_length_eq_zero (by omega)
    subst this
    exact ⟨List.Pairwise.nil, fun x => Iff.rfl⟩
  | succ n ih =>
    intro l h
    by_cases h0 : l.length = 0
    · have : l = [] := List.eq_nil_of_length_eq_zero h0
      subst this
      exact ⟨List.Pairwise.nil, fun x => Iff.rfl⟩
    · have hp : 0 < l.length := by omega
      have hr := rest_less hp
      obtain ⟨i1, i2⟩ := ih (l.filter (fun x => !decide (x = l.getD (leastAt l) []))) (by omega)
      have hm : l.getD (leastAt l) [] ∈ l := getD_mem l _ [] (leastAt_lt hp)
      rw [sorted_cons hp]
      refine ⟨List.pairwise_cons.2 ⟨fun x hx => ?_, i1⟩, fun x => ?_⟩
      · have hx' := (i2 x).1 hx
        simp only [List.mem_filter, Bool.not_eq_true', decide_eq_false_iff_not] at hx'
        obtain ⟨i, hi, e⟩ := List.mem_iff_getElem.1 hx'.1
        have e2 : l.getD i [] = x := by rw [List.getD_eq_getElem?_getD, List.getElem?_eq_getElem hi]; exact e
        have q := least_min l l.length (Nat.le_refl _) i hi
        rw [e2] at q
        rcases bl_tri (l.getD (leastAt l) []) x with t | t | t
        · exact t
        · exact absurd t.symm hx'.2
        · have q' : Op.bytesLess x (l.getD (leastAt l) []) = false := q
          rw [t] at q'; cases q'
      · rw [List.mem_cons, i2 x, List.mem_filter]
        simp only [Bool.not_eq_true', decide_eq_false_iff_not]
        constructor
        · rintro (h | h)
          · rw [h]; exact hm
          · exact h.1
        · intro hx
          by_cases e : x = l.getD (leastAt l) []
          · exact .inl e
          · exact .inr ⟨hx, e⟩
theorem sorted_incr (l : List (List UInt8)) : incr (sorted l) := (sorted_ok _ l (Nat.le_refl _)).1
theorem sorted_mem (l : List (List UInt8)) (x : List UInt8) : x ∈ sorted l ↔ x ∈ l := (sorted_ok _ l (Nat.le_refl _)).2 x
theorem sorted_eq {l m : List (List UInt8)} (h1 : incr m) (h2 : ∀ x, x ∈ m ↔ x ∈ l) : m = sorted l :=
  incr_unique _ _ h1 (sorted_incr l) (fun x => (h2 x).trans (sorted_mem l x).symm)
def compact : List (List UInt8) → List (List UInt8)
  | [] => []
  | a :: l => match compact l with
    | [] => [a]
    | b :: r => if a = b then b :: r else a :: b :: r
theorem compact_mem : ∀ (l : List (List UInt8)) (x : List UInt8), x ∈ compact l ↔ x ∈ l
  | [], _ => Iff.rfl
  | a :: l, x => by
    have ih := compact_mem l x
    simp only [compact]
    split
    · rename_i h; rw [h] at ih
      rw [List.mem_singleton, List.mem_cons]
      constructor
      · exact .inl
      · rintro (h | h)
        · exact h
        · have := ih.2 h; cases this
    · rename_i b r h; rw [h] at ih
      split
      · rename_i e; subst e
        rw [ih, List.mem_cons]
        constructor
        · exact .inr
        · rintro (h2 | h2)
          · rw [← ih, h2]; simp
          · exact h2
      · rw [List.mem_cons, ih, List.mem_cons]
theorem compact_incr : ∀ (l : List (List UInt8)), (l.Pairwise fun a b => Op.bytesLess b a = false) → incr (compact l)
  | [], _ => List.Pairwise.nil
  | a :: l, h => by
    obtain ⟨h1, h2⟩ := List.pairwise_cons.1 h
    have ih := compact_incr l h2
    simp only [compact]
    split
    · exact List.pairwise_singleton _ _
    · rename_i b r hb
      rw [hb] at ih
      split
      · exact ih
      · rename_i hne
        refine List.pairwise_cons.2 ⟨fun x hx => ?_, ih⟩
        have hbl : b ∈ l := by rw [← compact_mem l, hb]; simp
        have hab : Op.bytesLess a b = true := by
          rcases bl_tri a b with t | t | t
          · exact t
          · exact absurd t hne
          · rw [h1 b hbl] at t; cases t
        rcases List.mem_cons.1 hx with e | e
        · rw [e]; exact hab
        · exact bl_trans _ _ _ hab ((List.pairwise_cons.1 ih).1 x e)
theorem compact_sorted {l m : List (List UInt8)} (h1 : m.Pairwise fun a b => Op.bytesLess b a = false) (h2 : ∀ x, x ∈ m ↔ x ∈ l) : compact m = sorted l :=
  sorted_eq (compact_incr m h1) (fun x => (compact_mem m x).trans (h2 x))
end Go.S
namespace Go.S
def cmpS (a b : List UInt8) : Int := if Op.bytesLess a b then -1 else if Op.bytesLess b a then 1 else 0
theorem cmpS_0 (a b : List UInt8) : decide (cmpS a b = 0) = decide (a = b) := by
  rw [decide_eq_decide]
  unfold cmpS
  rcases bl_tri a b with h | h | h
  · rw [if_pos h]
    constructor
    · intro e; exact absurd e (by decide)
    · intro e; rw [e, bl_irrefl] at h; cases h
  · subst h; simp [bl_irrefl]
  · rw [if_neg (by rw [bl_asymm h]; decide), if_pos h]
    constructor
    · intro e; exact absurd e (by decide)
    · intro e; rw [e, bl_irrefl] at h; cases h
end Go.S
namespace Go.S
def cmpInv (l : List (List UInt8)) (k : Nat) : Prop := 1 ≤ k ∧ k ≤ l.length ∧ ∀ j, j + 1 < k → ¬ l.getD (j + 1) [] = l.getD j []
def cmpInv2 (l : List (List UInt8)) (x i k : Nat) (m : List (List UInt8)) : Prop := 1 ≤ k ∧ x + k ≤ l.length ∧ 1 ≤ i ∧ i + 1 ≤ x + k ∧ m.length = l.length ∧ m.drop i = l.drop i ∧ m.take i = compact (l.take (x + k))
theorem compact_ne {l : List (List UInt8)} (h : l ≠ []) : ∃ b r, compact l = b :: r := by
  cases hc : compact l with
  | nil =>
    cases l with
    | nil => exact absurd rfl h
    | cons a l => have := (compact_mem (a :: l) a).2 (by simp); rw [hc] at this; cases this
  | cons b r => exact ⟨b, r, rfl⟩
theorem compact_snoc (a b : List UInt8) : ∀ p : List (List UInt8), compact (p ++ [a, b]) = if a = b then compact (p ++ [a]) else compact (p ++ [a]) ++ [b]
  | [] => by
    by_cases h : a = b
    · subst h; simp [compact]
    · simp [compact, h]
  | c :: p => by
    have ih := compact_snoc a b p
    obtain ⟨h, r, e⟩ := compact_ne (l := p ++ [a]) (by simp)
    simp only [List.cons_append, compact]
    rw [ih, e]
    by_cases hab : a = b
    · simp only [if_pos hab]
    · simp only [if_neg hab, List.cons_append]
      by_cases hc : c = h
      · simp only [if_pos hc, List.cons_append]
      · simp only [if_neg hc, List.cons_append]
theorem compact_take {l : List (List UInt8)} {n : Nat} (h : n + 1 < l.length) : compact (l.take (n + 2)) = if l.getD n [] = l.getD (n + 1) [] then compact (l.take (n + 1)) else compact (l.take (n + 1)) ++ [l.getD (n + 1) []] := by
  rw [take_succ_getD l (n + 1) [] h, take_succ_getD l n [] (by omega), List.append_assoc, List.singleton_append]
  exact compact_snoc _ _ _
theorem cmp_same {l : List (List UInt8)} : ∀ k, k ≤ l.length → (∀ j, j + 1 < k → ¬ l.getD (j + 1) [] = l.getD j []) → compact (l.take k) = l.take k
  | 0, _, _ => by simp [compact]
  | 1, h, _ => by
    cases l with
    | nil => simp at h
    | cons a l => simp [compact]
  | k + 2, hk, h => by
    rw [compact_take (by omega), if_neg (fun e => h k (by omega) e.symm), cmp_same (k + 1) (by omega) (fun j hj => h j (by omega)), ← take_succ_getD l (k + 1) [] (by omega)]
theorem cmp_short {l : List (List UInt8)} (h : (l.length : Int) < 2) : l = compact l := by
  match l, h with
  | [], _ => rfl
  | [a], _ => rfl
  | a :: b :: l, h => simp at h; omega
theorem cmp_1 {l : List (List UInt8)} (h : ¬ (l.length : Int) < 2) : cmpInv l 1 := ⟨Nat.le_refl _, by omega, fun j hj => by omega⟩
theorem cmp_step {l : List (List UInt8)} {k : Nat} (h : cmpInv l k) (hk : (k : Int) < l.length) (hn : ¬ l.getD k [] = l.getD (Int.toNat ((k : Int) - 1)) []) : cmpInv l (k + 1) := by
  obtain ⟨h1, h2, h3⟩ := h
  rw [show Int.toNat ((k : Int) - 1) = k - 1 by omega] at hn
  refine ⟨by omega, by omega, fun j hj => ?_⟩
  by_cases e : j + 1 = k
  · rw [show j = k - 1 by omega, show k - 1 + 1 = k by omega]; exact hn
  · exact h3 j (by omega)
theorem cmp_end {l : List (List UInt8)} {k : Nat} (h : cmpInv l k) (hk : ¬ (k : Int) < l.length) : l = compact l := by
  obtain ⟨h1, h2, h3⟩ := h
  have e := cmp_same k h2 h3
  rw [List.take_of_length_le (by omega)] at e
  exact e.symm
theorem cmp2_0 {l : List (List UInt8)} {x : Nat} (h : cmpInv l x) (hx : (x : Int) < l.length) (he : l.getD x [] = l.getD (Int.toNat ((x : Int) - 1)) []) : cmpInv2 l x x 1 l := by
  obtain ⟨h1, h2, h3⟩ := h
  rw [show Int.toNat ((x : Int) - 1) = x - 1 by omega] at he
  refine ⟨Nat.le_refl _, by omega, h1, Nat.le_refl _, rfl, rfl, ?_⟩
  obtain ⟨y, rfl⟩ : ∃ y, x = y + 1 := ⟨x - 1, by omega⟩
  rw [Nat.add_sub_cancel] at he
  rw [show y + 1 + 1 = y + 2 by omega, compact_take (by omega), if_pos he.symm, cmp_same (y + 1) (by omega) h3]
theorem cmp2_get {l m : List (List UInt8)} {x i k : Nat} (h : cmpInv2 l x i k m) (hk : x + k < l.length) : m.getD (x + k) [] = l.getD (x + k) [] ∧ m.getD (x + k - 1) [] = l.getD (x + k - 1) [] := by
  obtain ⟨h1, h2, h3, h4, h5, h6, h7⟩ := h
  have key : ∀ j, i ≤ j → m.getD j [] = l.getD j [] := fun j hj => by
    have := congrArg (fun q => q.getD (j - i) []) h6
    simp only [List.getD_eq_getElem?_getD, List.getElem?_drop] at this ⊢
    rwa [show i + (j - i) = j by omega] at this
  exact ⟨key _ (by omega), key _ (by omega)⟩
theorem cmp2_skip {l m : List (List UInt8)} {x i k : Nat} (h : cmpInv2 l x i k m) (hk : x + k < l.length) (he : m.getD (x + k) [] = m.getD (x + k - 1) []) : cmpInv2 l x i (k + 1) m := by
  have hg := cmp2_get h hk
  obtain ⟨h1, h2, h3, h4, h5, h6, h7⟩ := h
  rw [hg.1, hg.2] at he
  refine ⟨by omega, by omega, h3, by omega, h5, h6, ?_⟩
  rw [h7]
  obtain ⟨n, hn⟩ : ∃ n, x + k = n + 1 := ⟨x + k - 1, by omega⟩
  rw [show x + (k + 1) = n + 2 by omega, hn, compact_take (by omega), if_pos]
  rw [hn, Nat.add_sub_cancel] at he; exact he.symm
theorem cmp2_put {l m : List (List UInt8)} {x i k : Nat} (h : cmpInv2 l x i k m) (hk : x + k < l.length) (he : ¬ m.getD (x + k) [] = m.getD (x + k - 1) []) : cmpInv2 l x (i + 1) (k + 1) (m.set i (m.getD (x + k) [])) := by
  have hg := cmp2_get h hk
  obtain ⟨h1, h2, h3, h4, h5, h6, h7⟩ := h
  rw [hg.1, hg.2] at he
  rw [hg.1]
  refine ⟨by omega, by omega, by omega, by omega, by rw [List.length_set]; exact h5, ?_, ?_⟩
  · rw [List.drop_set, if_pos (by omega)]
    have := congrArg (List.drop 1) h6
    rwa [List.drop_drop, List.drop_drop] at this
  · have hi : i < (m.set i (l.getD (x + k) [])).length := by rw [List.length_set]; omega
    rw [take_succ_getD _ _ [] hi, List.take_set, List.set_eq_of_length_le (by rw [List.length_take]; omega), h7]
    rw [List.getD_eq_getElem?_getD, List.getElem?_set_self (by omega), Option.getD_some]
    obtain ⟨n, hn⟩ : ∃ n, x + k = n + 1 := ⟨x + k - 1, by omega⟩
    rw [show x + (k + 1) = n + 2 by omega, hn, compact_take (by omega), if_neg]
    rw [hn, Nat.add_sub_cancel] at he; exact fun e => he e.symm
theorem cmp2_end {l m : List (List UInt8)} {x i k : Nat} (h : cmpInv2 l x i k m) (hk : ¬ x + k < l.length) : m.take i = compact l := by
  obtain ⟨h1, h2, h3, h4, h5, h6, h7⟩ := h
  rw [h7, List.take_of_length_le (by omega)]
end Go.S
end
section
namespace Go.S
def up (l : List (List UInt8)) : Prop := l.Pairwise fun a b => Op.bytesLess b a = false
def sortS (l : List (List UInt8)) : List (List UInt8) := l.mergeSort fun a b => !Op.bytesLess b a
theorem sortS_up (l : List (List UInt8)) : up (sortS l) := by
  have := List.pairwise_mergeSort (le := fun a b => !Op.bytesLess b a) (fun a b c h1 h2 => by
    simp only [Bool.not_eq_true'] at h1 h2 ⊢
    cases h : Op.bytesLess c a with
    | false => rfl
    | true =>
      rcases bl_tri a b with t | t | t
      · rw [bl_trans _ _ _ h t] at h2; cases h2
      · subst t; rw [h] at h2; cases h2
      · rw [t] at h1; cases h1) (fun a b => by
    simp only [Bool.or_eq_true, Bool.not_eq_true']
    rcases bl_tri a b with t | t | t
    · exact .inl (bl_asymm t)
    · subst t; exact .inl (bl_irrefl _)
    · exact .inr (bl_asymm t)) l
  exact this.imp (fun h => by simpa using h)
theorem sortS_perm (l : List (List UInt8)) : (sortS l).Perm l := List.mergeSort_perm l _
theorem set_law (l : List (List UInt8)) : compact (sortS l) = sorted l := compact_sorted (sortS_up l) (fun _ => (sortS_perm l).mem_iff)
end Go.S
end
section
namespace Go.S
def sp (n : Nat) : Nat := 2 ^ Nat.log2 (n - 1)
def split (n : Int) : Int := if n < 2 ∨ 1099511627776 < n then 0 else ((sp n.toNat : Nat) : Int)
def rootF : Nat → List (List UInt8) → List UInt8
  | 0, _ => sum []
  | f + 1, l => if l.length = 0 then sum [] else if l.length = 1 then l.getD 0 [] else sealNode (rootF f (l.take (sp l.length))) (rootF f (l.drop (sp l.length)))
def root (l : List (List UInt8)) : List UInt8 := rootF l.length l
def blk (l : List (List UInt8)) (t a : Nat) : List UInt8 := root ((l.drop (2 ^ t * a)).take (2 ^ t))
end Go.S
end
section
namespace Go.S
def prevI (l : List Int) (i : Nat) : Int := if i = 0 then -1 else l.getD (i - 1) 0
def goodI (l : List Int) (i : Nat) : Bool := decide (prevI l i < l.getD i 0) && decide (l.getD i 0 < 1000)
def postR (l : List Int) : Bool := (List.range l.length).all (goodI l)
def postInv (l : List Int) (k : Nat) : Prop := (∀ i, i < k → goodI l i = true) ∧ k ≤ l.length
def postTo (l : List Int) (k : Nat) : List UInt8 := num l.length ++ (List.range k).flatMap (fun i => num (l.getD i 0 - prevI l i - 1))
def postB (l : List Int) : List UInt8 := postTo l l.length
def postW (l : List Int) : List UInt8 := if postR l then postB l else []
def postE (l : List Int) : Int := if postR l then 0 else 1
def postD (l : List Int) : List UInt8 := if postR l then sealD 2 (postB l) else []
def postDR (l : List Int) : List UInt8 := sealD 2 (postB l)
def sameTo (a b : List Int) (k : Nat) : Prop := a.length = b.length ∧ a.take k = b.take k ∧ k ≤ a.length
def sameL (a b : List Int) : Bool := decide (a = b)
def hasTo (l : List Int) (n : Int) (k : Nat) : Prop := n ∉ l.take k ∧ k ≤ l.length
def hasL (l : List Int) (n : Int) : Bool := decide (n ∈ l)
theorem postR_iff (l : List Int) : postR l = true ↔ ∀ i, i < l.length → goodI l i = true := by
  simp only [postR, List.all_eq_true, List.mem_range]
theorem goodI_iff (l : List Int) (i : Nat) : goodI l i = true ↔ prevI l i < l.getD i 0 ∧ l.getD i 0 < 1000 := by
  simp only [goodI, Bool.and_eq_true, decide_eq_true_eq]
theorem prevI_succ (l : List Int) (k : Nat) : prevI l (k + 1) = l.getD k 0 := by
  simp only [prevI]; rw [if_neg (by omega), Nat.add_sub_cancel]
theorem prevI_0 (l : List Int) : prevI l 0 = -1 := rfl
theorem inv_ge {l : List Int} {k : Nat} (h : postInv l k) : ∀ i, i < k → (i : Int) ≤ l.getD i 0 ∧ l.getD i 0 < 1000
  | 0, hi => by have := (goodI_iff l 0).1 (h.1 0 hi); rw [prevI_0] at this; omega
  | i + 1, hi => by
    have := (goodI_iff l (i + 1)).1 (h.1 (i + 1) hi)
    rw [prevI_succ] at this
    have := inv_ge h i (by omega)
    omega
theorem inv_prev {l : List Int} {k : Nat} (h : postInv l k) : -1 ≤ prevI l k ∧ prevI l k < 1000 := by
  cases k with
  | zero => rw [prevI_0]; omega
  | succ k => rw [prevI_succ]; have := inv_ge h k (by omega); omega
theorem inv_all {l : List Int} (h : postR l = true) : postInv l l.length := ⟨(postR_iff l).1 h, Nat.le_refl _⟩
theorem inv_le {l : List Int} {k : Nat} (h : postR l = true) (hk : k ≤ l.length) : postInv l k := ⟨fun i hi => (postR_iff l).1 h i (by omega), hk⟩
theorem post_len {l : List Int} (h : postR l = true) : l.length ≤ 1000 := by
  by_cases h0 : l.length = 0
  · omega
  · have := inv_ge (inv_all h) (l.length - 1) (by omega); omega
theorem post_0 (l : List Int) : postInv l 0 := ⟨fun i hi => by omega, Nat.zero_le _⟩
theorem post_step {l : List Int} {k : Nat} (h : postInv l k) (hk : (k : Int) < l.length) (hg : ¬ l.getD (Int.toNat (k : Int)) 0 ≤ prevI l k ∧ ¬ 1000 ≤ l.getD (Int.toNat (k : Int)) 0) : postInv l (k + 1) := by
  rw [Int.toNat_natCast] at hg
  refine ⟨fun i hi => ?_, by omega⟩
  by_cases he : i = k
  · subst he; exact (goodI_iff l i).2 (by omega)
  · exact h.1 i (by omega)
theorem post_bad {l : List Int} {k : Nat} (hk : (k : Int) < l.length) (hg : l.getD (Int.toNat (k : Int)) 0 ≤ prevI l k ∨ 1000 ≤ l.getD (Int.toNat (k : Int)) 0) : false = postR l := by
  rw [Int.toNat_natCast] at hg
  cases hp : postR l with
  | false => rfl
  | true => have := (goodI_iff l k).1 ((postR_iff l).1 hp k (by omega)); omega
theorem post_end {l : List Int} {k : Nat} (h : postInv l k) (hk : ¬ (k : Int) < l.length) : true = postR l := by
  symm
  exact (postR_iff l).2 fun i hi => h.1 i (by omega)
theorem postTo_0 (l : List Int) : postTo l 0 = num l.length := by simp [postTo]
theorem postTo_succ (l : List Int) (k : Nat) : postTo l k ++ num (l.getD k 0 - prevI l k - 1) = postTo l (k + 1) := by
  simp only [postTo, List.range_succ, List.flatMap_append, List.flatMap_cons, List.flatMap_nil, List.append_nil, List.append_assoc]
theorem postTo_len (l : List Int) : ∀ k, (postTo l k).length ≤ 9 + 9 * k
  | 0 => by rw [postTo_0]; have := num_len (l.length : Int); omega
  | k + 1 => by
    rw [← postTo_succ, List.length_append]
    have := postTo_len l k
    have := num_len (l.getD k 0 - prevI l k - 1)
    omega
theorem numB_nil {v : Int} (h0 : 0 ≤ v) (h : v ≤ 4611686018427387904) : numB (Vg.nilL UInt8) v = num v := by
  have : numBad v = false := by simp only [numBad, Bool.or_eq_false_iff, decide_eq_false_iff_not]; omega
  simp only [numB, this]; rfl
theorem post_gap {l : List Int} {k : Nat} (h : postR l = true) (hk : (k : Int) < l.length) : 0 ≤ l.getD (Int.toNat (k : Int)) 0 - prevI l k - 1 ∧ l.getD (Int.toNat (k : Int)) 0 - prevI l k ≤ 1001 ∧ 0 ≤ l.getD (Int.toNat (k : Int)) 0 := by
  rw [Int.toNat_natCast]
  have h1 := (goodI_iff l k).1 ((postR_iff l).1 h k (by omega))
  have h2 := inv_prev (inv_le (k := k) h (by omega))
  have h3 := inv_ge (inv_all h) k (by omega)
  omega
theorem post_gap_step {l : List Int} {k : Nat} (h : postR l = true) (hk : (k : Int) < l.length) : postTo l k ++ numB (Vg.nilL UInt8) (l.getD (Int.toNat (k : Int)) 0 - prevI l k - 1) = postTo l (k + 1) := by
  have := post_gap h hk
  rw [numB_nil this.1 (by omega), Int.toNat_natCast, postTo_succ]
theorem post_gap_len {l : List Int} {k : Nat} (h : postR l = true) (hk : (k : Int) < l.length) (v : Int) : (postTo l k).length + (numB (Vg.nilL UInt8) v).length ≤ 20000 ∧ (postTo l k).length + (num v).length ≤ 20000 := by
  have h1 := postTo_len l k
  have h2 := post_len h
  have h3 := num_len v
  have h4 : (numB (Vg.nilL UInt8) v).length ≤ 9 := by
    simp only [numB]; split
    · simp
    · exact h3
  omega
theorem postB_len {l : List Int} (h : postR l = true) : (postB l).length ≤ 20000 := by
  have h1 := postTo_len l l.length
  have h2 := post_len h
  unfold postB; omega
theorem postW_of {l : List Int} (h : postR l = true) : postTo l l.length = postW l := by simp only [postW, h, if_true]; rfl
theorem same_0 {a b : List Int} (h : (a.length : Int) = b.length) : sameTo a b 0 := ⟨by omega, by simp, Nat.zero_le _⟩
theorem same_step {a b : List Int} {k : Nat} (h : sameTo a b k) (hk : (k : Int) < a.length) (he : a.getD (Int.toNat (k : Int)) 0 = b.getD (Int.toNat (k : Int)) 0) : sameTo a b (k + 1) := by
  rw [Int.toNat_natCast] at he
  obtain ⟨h1, h2, h3⟩ := h
  exact ⟨h1, by rw [take_succ_getD a k 0 (by omega), take_succ_getD b k 0 (by omega), h2, he], by omega⟩
theorem same_bad {a b : List Int} {k : Nat} (he : ¬ a.getD (Int.toNat (k : Int)) 0 = b.getD (Int.toNat (k : Int)) 0) : false = sameL a b := by
  symm; simp only [sameL, decide_eq_false_iff_not]; intro h; rw [h] at he; exact he rfl
theorem same_len {a b : List Int} (h : ¬ (a.length : Int) = b.length) : false = sameL a b := by
  symm; simp only [sameL, decide_eq_false_iff_not]; intro e; rw [e] at h; exact h rfl
theorem same_end {a b : List Int} {k : Nat} (h : sameTo a b k) (hk : ¬ (k : Int) < a.length) : true = sameL a b := by
  obtain ⟨h1, h2, h3⟩ := h
  symm; simp only [sameL, decide_eq_true_eq]
  rw [List.take_of_length_le (by omega), List.take_of_length_le (by omega)] at h2; exact h2
theorem has_0 (l : List Int) (n : Int) : hasTo l n 0 := ⟨by simp, Nat.zero_le _⟩
theorem has_step {l : List Int} {n : Int} {k : Nat} (h : hasTo l n k) (hk : (k : Int) < l.length) (he : ¬ l.getD (Int.toNat (k : Int)) 0 = n) : hasTo l n (k + 1) := by
  rw [Int.toNat_natCast] at he
  refine ⟨?_, by omega⟩
  rw [take_succ_getD l k 0 (by omega), List.mem_append, List.mem_singleton]
  rintro (h' | h')
  · exact h.1 h'
  · exact he h'.symm
theorem has_yes {l : List Int} {n : Int} {k : Nat} (hk : (k : Int) < l.length) (he : l.getD (Int.toNat (k : Int)) 0 = n) : true = hasL l n := by
  rw [Int.toNat_natCast] at he
  symm; simp only [hasL, decide_eq_true_eq]; rw [← he]; exact getD_mem l k 0 (by omega)
theorem has_end {l : List Int} {n : Int} {k : Nat} (h : hasTo l n k) (hk : ¬ (k : Int) < l.length) : false = hasL l n := by
  symm; simp only [hasL, decide_eq_false_iff_not]
  have h1 := h.1
  rw [List.take_of_length_le (by omega)] at h1; exact h1
end Go.S
end
section
namespace Go.S
abbrev Ent := List UInt8 × List Int
abbrev Lk := List UInt8 × List UInt8 × List UInt8
def leS (a b : List UInt8) : Bool := Op.bytesLess a b || decide (a = b)
def entT (d : List Ent) (i : Nat) : List UInt8 := (d.getD i ([], [])).1
def entD (d : List Ent) (i : Nat) : List Int := (d.getD i ([], [])).2
def dictPre (d : List Ent) : Prop := d.length ≤ 1048576 ∧ ∀ e ∈ d, e.1.length ≤ 1099511627776
def entOk (d : List Ent) (i : Nat) : Bool := !(decide (0 < i) && leS (entT d i) (entT d (i - 1))) && (!decide ((entD d i).length = 0) && (postR (entD d i) && isTerm (entT d i)))
def dRight (d : List Ent) : Bool := (List.range d.length).all (entOk d)
def dInv (d : List Ent) (k : Nat) : Prop := (∀ i, i < k → entOk d i = true) ∧ k ≤ d.length
def linkOk (a b c : List UInt8) : Bool := decide ((a.length : Int) ≤ 64) && (decide ((b.length : Int) ≤ 64) && decide ((c.length : Int) = 32))
def linkB (a b c : List UInt8) : List UInt8 := text a ++ text b ++ c
def linkW (a b c : List UInt8) : List UInt8 := if linkOk a b c then linkB a b c else []
def linkE (a b c : List UInt8) : Int := if linkOk a b c then 0 else 1
def rd1 (b : List UInt8) : Rd × List UInt8 := readText b 0 0 64
def rd2 (b : List UInt8) : Rd × List UInt8 := readText (rd1 b).1.1 (rd1 b).1.2.1 (rd1 b).1.2.2 64
def rd3 (b : List UInt8) : Rd × List UInt8 := readDigest (rd2 b).1.1 (rd2 b).1.2.1 (rd2 b).1.2.2
def readLink (b : List UInt8) : Lk × Int :=
  if done (rd3 b).1.1 (rd3 b).1.2.1 (rd3 b).1.2.2 = 0 then (((rd1 b).2, (rd2 b).2, (rd3 b).2), 0) else (([], [], []), done (rd3 b).1.1 (rd3 b).1.2.1 (rd3 b).1.2.2)
def linkAt (d : List Ent) (i : Nat) : List UInt8 :=
  linkB (if i = 0 then [] else entT d (i - 1)) (if i < d.length then entT d i else []) (postDR (if i = 0 then [] else entD d (i - 1)))
def linksTo (d : List Ent) (k : Nat) : List (List UInt8) := (List.range k).map (linkAt d)
def links (d : List Ent) : List (List UInt8) := linksTo d (d.length + 1)
def dLinks (d : List Ent) : List (List UInt8) := if dRight d then links d else []
def dE (d : List Ent) : Int := if dRight d then 0 else 1
def findTo (d : List Ent) (t : List UInt8) : Nat → Int
  | 0 => -1
  | k + 1 => if leS (entT d k) t then (k : Int) else findTo d t k
def dFind (d : List Ent) (t : List UInt8) : Int := if dRight d then findTo d t d.length else -1
def dFindB (d : List Ent) (t : List UInt8) : Bool := decide (0 ≤ dFind d t) && decide (entT d (dFind d t).toNat = t)
def dDocs (d : List Ent) (t : List UInt8) : List Int := if dFindB d t then entD d (dFind d t).toNat else []
def fairD (docs : List (List UInt8)) (s1 s2 : Int) : Bool :=
  docs.all (fun b => decide ((b.length : Int) ≤ 2000)) && (decide ((docs.length : Int) ≤ 1000) && (decide (0 ≤ s1) && (decide (s1 ≤ s2) && decide (s2 ≤ (docs.length : Int)))))
def hasT (b t : List UInt8) : Bool := decide (0 < ((places b t).length : Int))
theorem dR_iff (d : List Ent) : dRight d = true ↔ ∀ i, i < d.length → entOk d i = true := by
  simp only [dRight, List.all_eq_true, List.mem_range]
theorem dR_0 (d : List Ent) : dInv d 0 := ⟨fun i hi => by omega, Nat.zero_le _⟩
theorem dR_bad {d : List Ent} {k : Nat} (hk : (k : Int) < d.length) (h : entOk d k = false) : false = dRight d := by
  cases hr : dRight d with
  | false => rfl
  | true => have := (dR_iff d).1 hr k (by omega); rw [h] at this; cases this
theorem dR_step {d : List Ent} {k : Nat} (h : dInv d k) (hk : (k : Int) < d.length) (he : entOk d k = true) : dInv d (k + 1) := by
  refine ⟨fun i hi => ?_, by omega⟩
  by_cases e : i = k
  · subst e; exact he
  · exact h.1 i (by omega)
theorem dR_end {d : List Ent} {k : Nat} (h : dInv d k) (hk : ¬ (k : Int) < d.length) : true = dRight d := by
  symm; exact (dR_iff d).2 fun i hi => h.1 i (by omega)
theorem getD_pre {d : List Ent} {k : Nat} (h : dictPre d) : (d.getD k ([], [])).1.length ≤ 1099511627776 := by
  by_cases hk : k < d.length
  · exact h.2 _ (getD_mem d k _ hk)
  · rw [List.getD_eq_getElem?_getD, List.getElem?_eq_none (by omega)]; simp
theorem ent_iff (d : List Ent) (i : Nat) : entOk d i = true ↔ (i = 0 ∨ leS (entT d i) (entT d (i - 1)) = false) ∧ (entD d i).length ≠ 0 ∧ postR (entD d i) = true ∧ isTerm (entT d i) = true := by
  simp only [entOk, Bool.and_eq_true, Bool.not_eq_true', Bool.and_eq_false_iff, decide_eq_false_iff_not]
  constructor
  · rintro ⟨h1, h2, h3, h4⟩; exact ⟨h1.imp (by omega) id, h2, h3, h4⟩
  · rintro ⟨h1, h2, h3, h4⟩; exact ⟨h1.imp (by omega) id, h2, h3, h4⟩
theorem ent_false (d : List Ent) (i : Nat) : entOk d i = false ↔ (0 < i ∧ leS (entT d i) (entT d (i - 1)) = true) ∨ (entD d i).length = 0 ∨ postR (entD d i) = false ∨ isTerm (entT d i) = false := by
  have := ent_iff d i
  cases h : entOk d i with
  | true =>
    have h1 := this.1 h
    simp only [Bool.true_eq_false, false_iff]
    rintro (⟨h2, h3⟩ | h2 | h2 | h2)
    · rcases h1.1 with h4 | h4
      · omega
      · rw [h4] at h3; cases h3
    · exact h1.2.1 h2
    · rw [h1.2.2.1] at h2; cases h2
    · rw [h1.2.2.2] at h2; cases h2
  | false =>
    simp only [true_iff]
    by_cases a1 : 0 < i ∧ leS (entT d i) (entT d (i - 1)) = true
    · exact .inl a1
    · by_cases a2 : (entD d i).length = 0
      · exact .inr (.inl a2)
      · cases a3 : postR (entD d i) with
        | false => exact .inr (.inr (.inl rfl))
        | true =>
          cases a4 : isTerm (entT d i) with
          | false => exact .inr (.inr (.inr rfl))
          | true =>
            exfalso
            rw [h] at this
            have : false = true := this.2 ⟨by
              cases hl : leS (entT d i) (entT d (i - 1)) with
              | false => exact .inr rfl
              | true => rw [hl] at a1; left; by_cases h0 : 0 < i; exact absurd ⟨h0, rfl⟩ a1; omega, a2, a3, a4⟩
            cases this
theorem termF_len : ∀ (w : List Int) (t : List UInt8), t.length ≤ 64 → (termF t w).length ≤ 64
  | [], t, h => h
  | c :: w, t, h => by
    simp only [termF]
    split
    · exact h
    · exact termF_len w _ (by rw [List.length_append]; omega)
theorem isTerm_len {s : List UInt8} (h : isTerm s = true) : s.length ≤ 64 := by
  simp only [isTerm, decide_eq_true_eq] at h
  have hm : s ∈ terms s := by rw [h]; simp
  simp only [terms, List.mem_map] at hm
  obtain ⟨w, _, hw⟩ := hm
  rw [← hw]; exact termF_len w [] (by simp)
theorem ent_all {d : List Ent} (h : dRight d = true) {i : Nat} (hi : i < d.length) : (entT d i).length ≤ 64 ∧ postR (entD d i) = true := by
  have := (ent_iff d i).1 ((dR_iff d).1 h i hi)
  exact ⟨isTerm_len this.2.2.2, this.2.2.1⟩
theorem readText_b (b : List UInt8) (a e m : Int) : (readText b a e m).1.1 = b := by unfold readText; split; rfl; split <;> rfl
theorem postD_ok {l : List Int} (h : postR l = true) : postD l = postDR l ∧ (postDR l).length = 32 := by
  refine ⟨by simp only [postD, h, if_true]; rfl, seal_len _ _⟩
theorem link_at {d : List Ent} (h : dRight d = true) {k : Nat} : linkOk (if k = 0 then [] else entT d (k - 1)) (if k < d.length then entT d k else []) (postDR (if k = 0 then [] else entD d (k - 1))) = true ∨ d.length < k := by
  by_cases hk : d.length < k
  · exact .inr hk
  · refine .inl ?_
    have e3 : (postDR (if k = 0 then [] else entD d (k - 1))).length = 32 := seal_len _ _
    simp only [linkOk, e3, Bool.and_eq_true, decide_eq_true_eq]
    refine ⟨?_, ?_, rfl⟩
    · by_cases h0 : k = 0
      · rw [if_pos h0]; simp
      · rw [if_neg h0]; have := (ent_all h (i := k - 1) (by omega)).1; omega
    · by_cases h0 : k < d.length
      · rw [if_pos h0]; have := (ent_all h h0).1; omega
      · rw [if_neg h0]; simp
theorem link_W {d : List Ent} (h : dRight d = true) {k : Nat} (hk : k ≤ d.length) : linkW (if k = 0 then [] else entT d (k - 1)) (if k < d.length then entT d k else []) (postD (if k = 0 then [] else entD d (k - 1))) = linkAt d k := by
  have hp : postR (if k = 0 then [] else entD d (k - 1)) = true := by
    by_cases h0 : k = 0
    · rw [if_pos h0]; rfl
    · rw [if_neg h0]; exact (ent_all h (i := k - 1) (by omega)).2
  rw [(postD_ok hp).1]
  rcases link_at h (k := k) with hl | hl
  · simp only [linkW, hl, if_true]; rfl
  · omega
theorem links_succ (d : List Ent) (k : Nat) : linksTo d k ++ [linkAt d k] = linksTo d (k + 1) := by
  simp only [linksTo, List.range_succ, List.map_append, List.map_cons, List.map_nil]
theorem links_len (d : List Ent) (k : Nat) : (linksTo d k).length = k := by simp [linksTo]
theorem find_le {d : List Ent} {t : List UInt8} : ∀ k, -1 ≤ findTo d t k ∧ findTo d t k < k
  | 0 => by simp only [findTo]; omega
  | k + 1 => by
    have := find_le (d := d) (t := t) k
    simp only [findTo]; split <;> omega
theorem find_step {d : List Ent} {t : List UInt8} {k : Nat} (h : leS (entT d k) t = true) : (k : Int) = findTo d t (k + 1) := by
  simp only [findTo]; rw [if_pos h]
theorem find_skip {d : List Ent} {t : List UInt8} {k : Nat} (h : leS (entT d k) t = false) : findTo d t k = findTo d t (k + 1) := by
  simp only [findTo]; rw [if_neg (by rw [h]; decide)]
theorem leS_not : ∀ (a b : List UInt8), leS b a = !Op.bytesLess a b
  | [], [] => rfl
  | [], b :: y => by simp [leS, Op.bytesLess]
  | a :: x, [] => by simp [leS, Op.bytesLess]
  | a :: x, b :: y => by
    have ih := leS_not x y
    simp only [leS] at ih
    simp only [leS, Op.bytesLess]
    rcases UInt8.lt_or_lt_of_ne (a := a) (b := b) |> fun h => Classical.em (a = b) with h | h
    · subst h
      simp only [UInt8.lt_irrefl, decide_false, Bool.false_or, beq_self_eq_true, Bool.true_and, List.cons.injEq, true_and]
      exact ih
    · have hba : (b == a) = false := by simpa using fun e => h e.symm
      have hab : (a == b) = false := by simpa using h
      have hne : ¬ (b :: y = a :: x) := by simp only [List.cons.injEq]; exact fun e => h e.1.symm
      rw [hba, hab, decide_eq_false hne]
      simp only [Bool.false_and, Bool.or_false]
      have : a.toNat ≠ b.toNat := fun e => h (UInt8.toNat_inj.1 e)
      rw [← decide_not, decide_eq_decide, UInt8.lt_iff_toNat_lt, UInt8.lt_iff_toNat_lt]; omega
theorem link_V {d : List Ent} (h : dRight d = true) {k : Nat} (hk : k ≤ d.length) :
    linkW (bif decide ((k : Int) < (d.length : Int)) then bif decide (0 < (k : Int)) then (List.getD d (Int.toNat ((k : Int) - 1)) ([], [])).1 else [] else bif decide (0 < (k : Int)) then (List.getD d (Int.toNat ((k : Int) - 1)) ([], [])).1 else [])
      (bif decide ((k : Int) < (d.length : Int)) then (List.getD d (Int.toNat (k : Int)) ([], [])).1 else bif decide (0 < (k : Int)) then [] else [])
      (postD (bif decide (0 < (k : Int)) then (List.getD d (Int.toNat ((k : Int) - 1)) ([], [])).2 else [])) = linkAt d k := by
  rw [← link_W h hk]
  have e1 : Int.toNat ((k : Int) - 1) = k - 1 := by omega
  rw [e1, Int.toNat_natCast]
  by_cases h0 : k = 0
  · subst h0
    by_cases h1 : 0 < d.length
    · simp [entT, entD, h1]
    · have : d = [] := List.eq_nil_of_length_eq_zero (by omega)
      subst this; simp
  · have h2 : (0 : Int) < (k : Int) := by omega
    by_cases h1 : k < d.length
    · have h3 : (k : Int) < (d.length : Int) := by omega
      simp only [decide_eq_true h2, decide_eq_true h3, if_neg h0, if_pos h1, cond_true]; rfl
    · have h3 : ¬ (k : Int) < (d.length : Int) := by omega
      simp only [decide_eq_true h2, decide_eq_false h3, if_neg h0, if_neg h1, cond_true, cond_false]; rfl
theorem dFind_V {d : List Ent} {t : List UInt8} (h : dRight d = true) : findTo d t d.length = dFind d t := by simp only [dFind, h, if_true]
theorem textPre_of {l s : List UInt8} (h1 : l.length ≤ 1000) (h2 : s.length ≤ 1000) : textPre l s := ⟨by omega, by omega⟩
theorem text_len {s : List UInt8} : (text s).length ≤ s.length + 9 := by
  have := num_len (s.length : Int)
  simp only [text, List.length_append]; omega
theorem linkOk_iff (a b c : List UInt8) : linkOk a b c = true ↔ a.length ≤ 64 ∧ b.length ≤ 64 ∧ c.length = 32 := by
  simp only [linkOk, Bool.and_eq_true, decide_eq_true_eq]; omega
theorem linkOk_no {a b c : List UInt8} (h : 64 < (a.length : Int) ∨ 64 < (b.length : Int) ∨ ¬ (c.length : Int) = 32) : linkOk a b c = false := by
  cases hl : linkOk a b c with
  | false => rfl
  | true => have := (linkOk_iff a b c).1 hl; omega
theorem linkOk_yes {a b c : List UInt8} (h : ¬ 64 < (a.length : Int) ∧ ¬ 64 < (b.length : Int) ∧ (c.length : Int) = 32) : linkOk a b c = true := (linkOk_iff a b c).2 (by omega)
theorem dFind_no {d : List Ent} {t : List UInt8} (h : dRight d = false) : -1 = dFind d t ∧ false = dFindB d t := by
  have : dFind d t = -1 := by simp only [dFind, h]; rfl
  exact ⟨this.symm, by simp [dFindB, this]⟩
theorem find_V (d : List Ent) (t : List UInt8) (x : Nat) : (bif Op.bytesLess (List.getD d (Int.toNat (x : Int)) ([], [])).1 t || decide ((List.getD d (Int.toNat (x : Int)) ([], [])).1 = t) then (x : Int) else findTo d t x) = findTo d t (x + 1) := by
  rw [Int.toNat_natCast]
  show (bif leS (entT d x) t then (x : Int) else findTo d t x) = _
  cases h : leS (entT d x) t with
  | true => rw [← find_step h]; rfl
  | false => rw [← find_skip h]; rfl
theorem findB_V {d : List Ent} {t : List UInt8} (h : dRight d = true) : (bif decide (0 ≤ findTo d t d.length) then decide ((List.getD d (Int.toNat (findTo d t d.length)) ([], [])).1 = t) else false) = dFindB d t := by
  simp only [dFindB, dFind, h, if_true]
  cases decide (0 ≤ findTo d t d.length) <;> rfl
theorem docs_1 {d : List Ent} {t : List UInt8} (h : dFindB d t = true) : 0 ≤ dFind d t ∧ dFind d t < (d.length : Int) ∧ (List.getD d (Int.toNat (dFind d t)) ([], [])).2 = dDocs d t := by
  have h1 := h
  simp only [dFindB, Bool.and_eq_true, decide_eq_true_eq] at h1
  refine ⟨h1.1, ?_, by simp only [dDocs, h, if_true]; rfl⟩
  unfold dFind
  split
  · exact (find_le (d := d) (t := t) d.length).2
  · omega
end Go.S
namespace Go.S
def allTo (docs : List (List UInt8)) (a : Int) (k : Nat) : List (List UInt8) := (List.range k).flatMap fun (i : Nat) => sorted (terms (docs.getD (a + i).toNat []))
def docsTo (docs : List (List UInt8)) (a : Int) (t : List UInt8) (k : Nat) : List Int := ((List.range k).filter fun (i : Nat) => hasT (docs.getD (a + i).toNat []) t).map fun (i : Nat) => a + i
def makeK (docs : List (List UInt8)) (a b : Int) : List (List UInt8) := sorted (allTo docs a (b - a).toNat)
def makeTo (docs : List (List UInt8)) (a b : Int) (k : Nat) : List Ent := ((makeK docs a b).take k).map fun t => (t, docsTo docs a t (b - a).toNat)
def make (docs : List (List UInt8)) (a b : Int) : List Ent := (makeK docs a b).map fun t => (t, docsTo docs a t (b - a).toNat)
def makePre (docs : List (List UInt8)) (a b : Int) : Prop := 0 ≤ a ∧ a ≤ b ∧ b ≤ docs.length ∧ docs.length ≤ 1000 ∧ ∀ d ∈ docs, d.length ≤ 4000
end Go.S
namespace Go.S
theorem sortF_le : ∀ (f : Nat) (l : List (List UInt8)), (sortF f l).length ≤ l.length
  | 0, l => by simp [sortF]
  | f + 1, l => by
    simp only [sortF]
    split
    · simp
    · rename_i h
      have h0 : 0 < l.length := by cases l; simp at h; simp
      have := sortF_le f (l.filter (fun x => !decide (x = l.getD (leastAt l) [])))
      have := rest_less h0
      rw [List.length_cons]; omega
theorem sorted_le (l : List (List UInt8)) : (sorted l).length ≤ l.length := sortF_le _ l
theorem doc_len {docs : List (List UInt8)} {a b : Int} (hp : makePre docs a b) (i : Nat) : (docs.getD i []).length ≤ 4000 := by
  by_cases h : i < docs.length
  · exact hp.2.2.2.2 _ (getD_mem docs i [] h)
  · rw [List.getD_eq_getElem?_getD, List.getElem?_eq_none (by omega)]; simp
theorem allTo_succ (docs : List (List UInt8)) (a : Int) (k : Nat) : allTo docs a k ++ sorted (terms (docs.getD (Int.toNat (a + (k : Int))) [])) = allTo docs a (k + 1) := by
  simp only [allTo, List.range_succ, List.flatMap_append, List.flatMap_cons, List.flatMap_nil, List.append_nil]
theorem doc_sorted {docs : List (List UInt8)} {a b : Int} (hp : makePre docs a b) (i : Nat) : (sorted (terms (docs.getD i []))).length ≤ 4000 := by
  have := doc_len hp i
  have := terms_len (docs.getD i [])
  have := sorted_le (terms (docs.getD i []))
  omega
theorem docsTo_yes {docs : List (List UInt8)} {a : Int} {t : List UInt8} {k : Nat} (h : hasT (docs.getD (Int.toNat (a + (k : Int))) []) t = true) : docsTo docs a t k ++ [a + (k : Int)] = docsTo docs a t (k + 1) := by
  simp only [docsTo, List.range_succ, List.filter_append, List.map_append, List.filter_cons, h, if_true, List.filter_nil, List.map_cons, List.map_nil]
theorem docsTo_no {docs : List (List UInt8)} {a : Int} {t : List UInt8} {k : Nat} (h : hasT (docs.getD (Int.toNat (a + (k : Int))) []) t = false) : docsTo docs a t k = docsTo docs a t (k + 1) := by
  simp only [docsTo, List.range_succ, List.filter_append, List.map_append, List.filter_cons, h, List.filter_nil]
  simp
theorem docsTo_len (docs : List (List UInt8)) (a : Int) (t : List UInt8) (k : Nat) : (docsTo docs a t k).length ≤ k := by
  simp only [docsTo, List.length_map]
  have := List.length_filter_le (fun (i : Nat) => hasT (docs.getD (a + i).toNat []) t) (List.range k)
  rw [List.length_range] at this; exact this
theorem makeTo_succ {docs : List (List UInt8)} {a b : Int} {k j : Nat} {t : List UInt8} (hk : k < (makeK docs a b).length) (hj : j = (b - a).toNat) (ht : (makeK docs a b).getD k [] = t) : makeTo docs a b k ++ [(t, docsTo docs a t j)] = makeTo docs a b (k + 1) := by
  subst ht; subst hj
  simp only [makeTo]
  rw [take_succ_getD (makeK docs a b) k [] hk, List.map_append]; rfl
theorem makeTo_end {docs : List (List UInt8)} {a b : Int} {k : Nat} (h : ¬ k < (makeK docs a b).length) : makeTo docs a b k = make docs a b := by
  simp only [makeTo, make]; rw [List.take_of_length_le (by omega)]
end Go.S
end
section
namespace Go.S
end Go.S
end
section
namespace Go.S
theorem hasT_mem (b t : List UInt8) : hasT b t = true ↔ t ∈ terms b := by
  unfold hasT
  rw [decide_eq_true_iff]
  simp only [places, placesTo, List.length_map]
  constructor
  · intro h
    have h1 : 0 < ((List.range (terms b).length).filter (fun i => decide ((terms b).getD i [] = t))).length := by omega
    obtain ⟨i, hi⟩ := List.exists_mem_of_length_pos h1
    simp only [List.mem_filter, List.mem_range, decide_eq_true_eq] at hi
    rw [← hi.2, List.getD_eq_getElem?_getD, List.getElem?_eq_getElem hi.1]
    exact List.getElem_mem _
  · intro h
    obtain ⟨i, hi, he⟩ := List.getElem_of_mem h
    have : i ∈ (List.range (terms b).length).filter (fun i => decide ((terms b).getD i [] = t)) := by
      simp only [List.mem_filter, List.mem_range, decide_eq_true_eq]
      exact ⟨hi, by rw [List.getD_eq_getElem?_getD, List.getElem?_eq_getElem hi]; exact he⟩
    have := List.length_pos_of_mem this
    omega
def setK (docs : List (List UInt8)) (a : Int) (k : Nat) : List (List UInt8) := sorted (terms (docs.getD (a + (k : Int)).toNat []))
def grp (docs : List (List UInt8)) (a : Int) (k j : Nat) (s : List UInt8) : List Int := docsTo docs a s k ++ if s ∈ (setK docs a k).take j then [a + (k : Int)] else []
theorem grp_0 (docs : List (List UInt8)) (a : Int) (s : List UInt8) : grp docs a 0 0 s = [] := by simp [grp, docsTo]
theorem incr_nodup {l : List (List UInt8)} (h : incr l) : l.Nodup := h.imp fun {a b} hab hne => by
  subst hne
  rw [bl_irrefl] at hab; cases hab
theorem take_succ_mem {l : List (List UInt8)} {j : Nat} (hj : j < l.length) (s : List UInt8) : s ∈ l.take (j + 1) ↔ s ∈ l.take j ∨ s = l.getD j [] := by
  rw [List.take_add_one, List.mem_append, List.getElem?_eq_getElem hj, List.getD_eq_getElem?_getD, List.getElem?_eq_getElem hj]
  simp
theorem nodup_take {l : List (List UInt8)} (h : l.Nodup) {j : Nat} (hj : j < l.length) : l.getD j [] ∉ l.take j := by
  intro hm
  rw [List.getD_eq_getElem?_getD, List.getElem?_eq_getElem hj] at hm
  obtain ⟨i, hi, he⟩ := List.getElem_of_mem hm
  simp only [List.length_take] at hi
  rw [List.getElem_take] at he
  exact (List.pairwise_iff_getElem.1 h) i j (by omega) hj (by omega) he
theorem grp_hit {docs : List (List UInt8)} {a : Int} {k j : Nat} (hj : j < (setK docs a k).length) : grp docs a k (j + 1) ((setK docs a k).getD j []) = grp docs a k j ((setK docs a k).getD j []) ++ [a + (k : Int)] := by
  have h1 : (setK docs a k).getD j [] ∉ (setK docs a k).take j := nodup_take (incr_nodup (sorted_incr (terms (docs.getD (a + (k : Int)).toNat [])))) hj
  have h2 := (take_succ_mem hj ((setK docs a k).getD j [])).2 (.inr rfl)
  simp only [grp]
  rw [if_pos h2, if_neg h1, List.append_nil]
theorem grp_miss {docs : List (List UInt8)} {a : Int} {k j : Nat} (hj : j < (setK docs a k).length) {s : List UInt8} (hs : s ≠ (setK docs a k).getD j []) : grp docs a k (j + 1) s = grp docs a k j s := by
  simp only [grp]
  by_cases h : s ∈ (setK docs a k).take j
  · rw [if_pos h, if_pos ((take_succ_mem hj s).2 (.inl h))]
  · rw [if_neg h, if_neg (fun h' => by rcases (take_succ_mem hj s).1 h' with h' | h'; exact h h'; exact hs h')]
theorem grp_next {docs : List (List UInt8)} {a : Int} {k j : Nat} (hj : ¬ j < (setK docs a k).length) (s : List UInt8) : grp docs a k j s = grp docs a (k + 1) 0 s := by
  simp only [grp, List.take_zero, List.not_mem_nil, if_false, List.append_nil]
  rw [List.take_of_length_le (by omega)]
  by_cases h : s ∈ setK docs a k
  · rw [if_pos h]
    exact docsTo_yes ((hasT_mem _ _).2 ((sorted_mem _ _).1 h))
  · rw [if_neg h, List.append_nil]
    refine docsTo_no ?_
    cases hh : hasT (docs.getD (Int.toNat (a + (k : Int))) []) s with
    | false => rfl
    | true => exact absurd ((sorted_mem _ _).2 ((hasT_mem _ _).1 hh)) h
theorem grp_len (docs : List (List UInt8)) (a : Int) (k j : Nat) (s : List UInt8) : (grp docs a k j s).length ≤ k + 1 := by
  have := docsTo_len docs a s k
  simp only [grp, List.length_append]
  split <;> simp <;> omega
theorem allTo_mem (docs : List (List UInt8)) (a : Int) (x : List UInt8) : ∀ k, x ∈ allTo docs a k ↔ docsTo docs a x k ≠ []
  | 0 => by simp [allTo, docsTo]
  | k + 1 => by
    rw [← allTo_succ, List.mem_append, allTo_mem docs a x k, sorted_mem, ← hasT_mem]
    cases h : hasT (docs.getD (Int.toNat (a + (k : Int))) []) x with
    | true => rw [← docsTo_yes h]; simp
    | false => rw [← docsTo_no h]; simp
end Go.S
namespace Go.S
def dMake (docs : List (List UInt8)) (a b : Int) : List Ent × Int := if fairD docs a b then (make docs a b, 0) else ([], 1)
end Go.S
end
section
namespace Go.S
abbrev Sg := Int × Int × Int × List UInt8
def wholeB (a b : Int) : Bool := decide (0 ≤ a) && (decide (a < b) && decide (b ≤ 1000))
def sGood (a b n : Int) (r : List UInt8) : Bool := wholeB a b && (decide (1 ≤ n) && (decide (n ≤ 1099511627776) && decide ((r.length : Int) = 32)))
def sg (l : List Sg) (i : Nat) : Sg := l.getD i (0, 0, 0, [])
def sgOk (l : List Sg) (i : Nat) : Bool := sGood (sg l i).1 (sg l i).2.1 (sg l i).2.2.1 (sg l i).2.2.2 && !(decide (0 < i) && !decide ((sg l i).1 = (sg l (i - 1)).2.1))
end Go.S
namespace Go.S
theorem seg_last {d : List Ent} {k : Nat} (h : dRight d = true) (hk : (k : Int) < d.length) : 0 < (entD d k).length ∧ (entD d k).length ≤ 1000 := by
  have hq := (ent_iff d k).1 ((dR_iff d).1 h k (by omega))
  exact ⟨by have := hq.2.1; omega, post_len hq.2.2.1⟩
end Go.S
end
section
namespace Go.S
def rowC (l : List Sg) (k : Nat) : Prop := (∀ i, i < k → sgOk l i = true) ∧ k ≤ l.length ∧ l.length ≤ 64 ∧ (0 < k → (sg l 0).1 = 0)
end Go.S
namespace Go.S
theorem take_clear {m r d : List (List UInt8)} {i : Nat} (h : i ≤ m.length) : (m.take i ++ r ++ d).take i = m.take i := by
  rw [List.append_assoc, List.take_append_of_le_length (by rw [List.length_take]; omega), List.take_take, Nat.min_self]
theorem terms_small {b : List UInt8} (h : small b) : small (terms b) := by
  have := terms_len b
  simp only [small] at *
  omega
theorem sortS_small {l : List (List UInt8)} (h : small l) : small (sortS l) := by
  simp only [small, sortS, List.length_mergeSort] at *
  exact h
end Go.S
namespace Go.S
theorem build_0 {docs : List (List UInt8)} {a b : Int} (h : (dMake docs a b).2 = 0) : fairD docs a b = true ∧ dMake docs a b = (make docs a b, 0) := by
  unfold dMake at *
  by_cases hf : fairD docs a b = true
  · exact ⟨hf, by rw [if_pos hf]⟩
  · rw [if_neg hf] at h; cases h
end Go.S
namespace Go.S
theorem docs_0 {d : List Ent} {t : List UInt8} (h : dFindB d t = false) : [] = dDocs d t := by unfold dDocs; rw [h]; rfl
theorem docs_2 {d : List Ent} {t : List UInt8} (h : dFindB d t = true) : small (List.getD d (Int.toNat (dFind d t)) ([], [])).2 := by
  obtain ⟨h0, h1, _⟩ := docs_1 h
  have hr : dRight d = true := by
    cases hd : dRight d with
    | true => rfl
    | false =>
      have : dFind d t = -1 := by unfold dFind; rw [hd]; rfl
      omega
  have := seg_last (d := d) (k := Int.toNat (dFind d t)) hr (by omega)
  unfold small
  unfold entD at this
  omega
end Go.S
namespace Go.S
end Go.S
end
section
namespace Go.S
def greatB (docs : List (List UInt8)) : Bool := docs.any (fun b => decide ((2500 : Int) < b.length)) || decide ((40 : Int) < docs.length)
def gbInv (docs : List (List UInt8)) (k : Nat) : Prop := (∀ b ∈ docs.take k, b.length ≤ 2500) ∧ k ≤ docs.length
theorem take_one {α : Type} (l : List α) (k : Nat) (x : α) (hk : k < l.length) : l.take (k + 1) = l.take k ++ [l.getD k x] := by
  rw [List.take_add_one, List.getElem?_eq_getElem hk, List.getD_eq_getElem?_getD, List.getElem?_eq_getElem hk]; rfl
theorem gb_0 (d : List (List UInt8)) : gbInv d 0 := ⟨by simp, Nat.zero_le _⟩
theorem gb_step {d : List (List UInt8)} {k : Nat} (h : gbInv d k) (hk : (k : Int) < d.length) (he : ¬ (2500 : Int) < (d.getD k []).length) : gbInv d (k + 1) := by
  refine ⟨fun e hm => ?_, by omega⟩
  rw [take_one d k [] (by omega), List.mem_append] at hm
  rcases hm with hm | hm
  · exact h.1 e hm
  · simp at hm; subst hm
    rw [List.getD_eq_getElem?_getD] at he
    omega
theorem gb_bad {d : List (List UInt8)} {k : Nat} (hk : (k : Int) < d.length) (he : (2500 : Int) < (d.getD k []).length) : true = greatB d := by
  symm
  unfold greatB
  have : d.any (fun b => decide ((2500 : Int) < b.length)) = true := by
    rw [List.any_eq_true]
    exact ⟨_, getD_mem d k [] (by omega), by simpa using he⟩
  rw [this, Bool.true_or]
theorem gb_end {d : List (List UInt8)} {k : Nat} (h : gbInv d k) (hk : ¬ (k : Int) < d.length) : decide ((40 : Int) < d.length) = greatB d := by
  symm
  unfold greatB
  have : d.any (fun b => decide ((2500 : Int) < b.length)) = false := by
    rw [List.any_eq_false]
    intro e he
    have := h.1 e (by rw [List.take_of_length_le (by omega)]; exact he)
    simp only [decide_eq_true_eq]; omega
  rw [this, Bool.false_or]
def kdocs : List (List UInt8) := [[104, 97, 121], [119, 97, 105, 110, 32, 104, 97, 121]]
end Go.S
end
section
namespace Go.S
end Go.S
namespace Go.S
end Go.S
end
