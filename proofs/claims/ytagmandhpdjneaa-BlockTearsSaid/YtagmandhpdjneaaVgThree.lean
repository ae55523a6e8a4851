import Derived.Test.YtagmandhpdjneaaVgTwo
import Derived.Deep.LoopGhost
import Derived.WalkKit
import Derived.ProofKit
import Derived.OpenShut
import Derived.SizedLaws
set_option linter.unusedVariables false
/-
  A VERIFIED VC GENERATOR, part V: an operation looks at its slots and keys alone.
-/
namespace Go.Vg
open Go

theorem pur1_local {h h' : Heap} : ∀ (x : AV), (∀ k ∈ keysAV x, h' k = h k) → pur1 h' x = pur1 h x := by
  intro x hx
  cases x <;> simp_all [pur1, keysAV]
theorem purL_local {h h' : Heap} : ∀ (xs : List AV), (∀ k ∈ keysAVs xs, h' k = h k) → purL h' xs = purL h xs
  | [], _ => rfl
  | x :: xs, hx => by
    simp only [keysAVs, List.mem_append] at hx
    simp only [purL, pur1_local x (fun k hk => hx k (.inl hk)), purL_local xs (fun k hk => hx k (.inr hk))]
theorem pur_local {h h' : Heap} (x : AV) (hx : ∀ k ∈ keysAV x, h' k = h k) : pur h' x = pur h x := by
  unfold pur
  split
  · rename_i cs
    rw [purL_local cs (by simpa [keysAV] using hx)]
  · exact pur1_local _ hx
theorem purs_local {h h' : Heap} : ∀ (xs : List AV), (∀ k ∈ keysAVs xs, h' k = h k) → purs h' xs = purs h xs
  | [], _ => rfl
  | x :: xs, hx => by
    simp only [keysAVs, List.mem_append] at hx
    simp only [purs, pur_local x (fun k hk => hx k (.inl hk)), purs_local xs (fun k hk => hx k (.inr hk))]
theorem purP_local {h h' : Heap} : ∀ (ps : List (Nat × AV)), (∀ k ∈ keysAVs (ps.map (·.2)), h' k = h k) → purP h' ps = purP h ps
  | [], _ => rfl
  | (i, x) :: ps, hx => by
    simp only [List.map_cons, keysAVs, List.mem_append] at hx
    simp only [purP, pur_local x (fun k hk => hx k (.inl hk)), purP_local ps (fun k hk => hx k (.inr hk))]

theorem pur1_keys {h : Heap} (x : AV) : ∀ k ∈ (pur1 h x).2, k ∈ keysAV x := by
  intro k hk
  cases x <;> simp only [pur1] at hk
  case own j => split at hk <;> simp_all [keysAV]
  case pre j n => split at hk <;> simp_all [keysAV]
  case view j sz off n =>
    split at hk
    · rename_i row l fr hj
      cases hb : Nat.beq sz row.length with
      | true => rw [hb] at hk; simpa [keysAV] using hk
      | false => rw [hb] at hk; simp at hk
    · simp at hk
  all_goals simp at hk
theorem purL_keys {h : Heap} : ∀ (xs : List AV), ∀ k ∈ (purL h xs).2, k ∈ keysAVs xs
  | [], k, hk => by simp [purL] at hk
  | x :: xs, k, hk => by
    simp only [purL, List.mem_append] at hk
    simp only [keysAVs, List.mem_append]
    exact hk.imp (pur1_keys x k) (purL_keys xs k)
theorem pur_keys {h : Heap} (x : AV) : ∀ k ∈ (pur h x).2, k ∈ keysAV x := by
  intro k hk
  unfold pur at hk
  split at hk
  · simp only [keysAV]; exact purL_keys _ k hk
  · exact pur1_keys _ k hk
theorem purs_keys {h : Heap} : ∀ (xs : List AV), ∀ k ∈ (purs h xs).2, k ∈ keysAVs xs
  | [], k, hk => by simp [purs] at hk
  | x :: xs, k, hk => by
    simp only [purs, List.mem_append] at hk
    simp only [keysAVs, List.mem_append]
    exact hk.imp (pur_keys x k) (purs_keys xs k)
theorem purP_keys {h : Heap} : ∀ (ps : List (Nat × AV)), ∀ k ∈ (purP h ps).2, k ∈ keysAVs (ps.map (·.2))
  | [], k, hk => by simp [purP] at hk
  | (i, x) :: ps, k, hk => by
    simp only [purP, List.mem_append] at hk
    simp only [List.map_cons, keysAVs, List.mem_append]
    exact hk.imp (pur_keys x k) (purP_keys ps k)
theorem freezes_local {h h' : Heap} : ∀ (ks : List Nat), (∀ k ∈ ks, h' k = h k) → freezes h' ks = freezes h ks
  | [], _ => rfl
  | k :: ks, hx => by
    simp only [freezes, hx k (List.mem_cons_self ..), freezes_local ks (fun j hj => hx j (List.mem_cons_of_mem _ hj))]

theorem lenAV_local {h h' : Heap} (x : AV) (hx : ∀ k ∈ keysAV x, h' k = h k) : lenAV h' x = lenAV h x := by
  cases x <;> simp_all [lenAV, keysAV]
theorem actIndexAddr_local {h h' : Heap} (T : Tab) (t : TypeId) (x i : AV) (hx : ∀ k ∈ keysAV x, h' k = h k) : actIndexAddr T h' t x i = actIndexAddr T h t x i := by
  cases x <;> cases i <;> simp_all [actIndexAddr, keysAV]
theorem actLoad_local {h h' : Heap} (T : Tab) (t : TypeId) (x : AV) (hx : ∀ k ∈ keysAV x, h' k = h k) : actLoad T h' t x = actLoad T h t x := by
  cases x <;> simp_all [actLoad, keysAV]
theorem actStore_local {h h' : Heap} (T : Tab) (t : TypeId) (x v : AV) (hx : ∀ k ∈ keysAV x, h' k = h k) (hv : ∀ k ∈ keysAV v, h' k = h k) : actStore T h' t x v = actStore T h t x v := by
  cases x
  case ref k off => simp only [actStore, hx k (by simp [keysAV])]
  case elem k sz i j =>
    simp only [actStore, hx k (by simp [keysAV]), pur_local v hv, freezes_local (pur h v).2 (fun j hj => hv j (pur_keys v j hj))]
  all_goals simp [actStore]
theorem srcOf_local {h h' : Heap} (row : List Ty) (x : AV) (hx : ∀ k ∈ keysAV x, h' k = h k) : srcOf h' row x = srcOf h row x := by
  have := pur1_local x hx
  cases x <;> simp_all [srcOf]
theorem actAppend_local {h h' : Heap} (T : Tab) (d : Nat) (t t' : TypeId) (s x : AV) (hs : ∀ k ∈ keysAV s, h' k = h k) (hx : ∀ k ∈ keysAV x, h' k = h k) : actAppend T h' d t t' s x = actAppend T h d t t' s x := by
  unfold actAppend
  split
  · rename_i e te he hte
    split
    · rename_i row hrow
      rw [srcOf_local row x hx]
      cases s
      case own k => simp only [hs k (by simp [keysAV])]
      case pre k n => simp only [hs k (by simp [keysAV])]
      all_goals rfl
    · rfl
  · rfl
theorem actCopy_local {h h' : Heap} (T : Tab) (t t' : TypeId) (s x : AV) (hs : ∀ k ∈ keysAV s, h' k = h k) (hx : ∀ k ∈ keysAV x, h' k = h k) : actCopy T h' t t' s x = actCopy T h t t' s x := by
  have hsrc : ∀ row, srcOf h' row x = srcOf h row x := fun row => srcOf_local row x hx
  cases s
  case own k => simp only [actCopy, hs k (by simp [keysAV]), hsrc]
  case view k sz off n => simp only [actCopy, hs k (by simp [keysAV]), hsrc]
  all_goals simp [actCopy]
theorem actSlice_local {h h' : Heap} (T : Tab) (t : TypeId) (x : AV) (lo hi mx : Option AV) (hx : ∀ k ∈ keysAV x, h' k = h k) : actSlice T h' t x lo hi mx = actSlice T h t x lo hi mx := by
  unfold actSlice
  generalize optInt lo = a
  generalize optInt hi = b
  generalize optInt mx = c
  cases x
  case own k =>
    have := hx k (by simp [keysAV])
    rcases a with _ | a <;> rcases b with _ | b <;> rcases c with _ | _ | c <;> first | rfl | simp only [this]
  all_goals (rcases a with _ | a <;> rcases b with _ | b <;> rcases c with _ | _ | c <;> rfl)
theorem actConvert_local {h h' : Heap} (T : Tab) (s d : TypeId) (x : AV) (hx : ∀ k ∈ keysAV x, h' k = h k) : actConvert T h' s d x = actConvert T h s d x := by
  have hs : ∀ row, srcOf h' row x = srcOf h row x := fun row => srcOf_local row x hx
  unfold actConvert
  split
  · split <;> first | rfl | (split <;> first | rfl | (split <;> first | rfl | simp only [hs]))
  · rfl
theorem actBuildSlice_local {h h' : Heap} (T : Tab) (d : Nat) (t : TypeId) (len : Nat) (ps : List (Nat × AV)) (hx : ∀ k ∈ keysAVs (ps.map (·.2)), h' k = h k) : actBuildSlice T h' d t len ps = actBuildSlice T h d t len ps := by
  unfold actBuildSlice
  simp only [purP_local ps hx, freezes_local (purP h ps).2 (fun j hj => hx j (purP_keys ps j hj))]
theorem actCall_local {h h' : Heap} (E : Env) (d f : Nat) (xs : List AV) (hx : ∀ k ∈ keysAVs xs, h' k = h k) : actCall E h' d f xs = actCall E h d f xs := by
  unfold actCall
  simp only [purs_local xs hx, freezes_local (purs h xs).2 (fun j hj => hx j (purs_keys xs j hj))]

theorem keysAVs_append : ∀ (a b : List AV), keysAVs (a ++ b) = keysAVs a ++ keysAVs b
  | [], _ => rfl
  | x :: a, b => by simp only [List.cons_append, keysAVs, keysAVs_append a b, List.append_assoc]
theorem keysAVs_mem {x : AV} : ∀ {xs : List AV}, x ∈ xs → ∀ k ∈ keysAV x, k ∈ keysAVs xs
  | y :: ys, hx, k, hk => by
    simp only [keysAVs, List.mem_append]
    rcases List.mem_cons.1 hx with rfl | hx
    · exact .inl hk
    · exact .inr (keysAVs_mem hx k hk)

theorem act0_local {E : Env} {st st' : St} {o : Oper} (ht : ∀ x ∈ o.op.operands.toList, ev st'.t x = ev st.t x) (hh : ∀ k ∈ krOf st o, st'.h k = st.h k) (hkb : st'.kb = st.kb) :
    act0 E st' o = act0 E st o := by
  have hk : ∀ x ∈ o.op.operands.toList, ∀ k ∈ keysAV (ev st.t x), st'.h k = st.h k := by
    intro x hx k hk
    exact hh k (List.mem_cons_of_mem _ (keysAVs_mem (List.mem_map_of_mem hx) k hk))
  have hd : ∀ d, o.dst = some d → st'.h (st.kb + d) = st.h (st.kb + d) := by
    intro d hd
    exact hh _ (by simp [krOf, hd])
  obtain ⟨dst, op, type, pos, after, guard⟩ := o
  simp only at ht hk hd
  have hfr : ∀ d, dst = some d → fresh st'.h (st.kb + d) = fresh st.h (st.kb + d) := by
    intro d h; simp only [fresh, hd d h]
  cases op with
  | move x => simp only [act0, ht x (by simp [Op.operands])]
  | assign x => simp only [act0, ht x (by simp [Op.operands])]
  | pick c x y => simp only [act0, ht c (by simp [Op.operands]), ht x (by simp [Op.operands]), ht y (by simp [Op.operands])]
  | alloc t => simp only [act0, hkb]
  | box t x => simp only [act0, ht x (by simp [Op.operands]), hkb]
  | build t parts =>
    have : (parts.toList.map fun p => (p.1, ev st'.t p.2)) = parts.toList.map fun p => (p.1, ev st.t p.2) := by
      apply List.map_congr_left
      intro p hp
      rw [ht p.2 (by simp only [Op.operands]; exact List.mem_map_of_mem hp)]
    simp only [act0, this]
  | buildSlice t len parts =>
    have : (parts.toList.map fun p => (p.1, ev st'.t p.2)) = parts.toList.map fun p => (p.1, ev st.t p.2) := by
      apply List.map_congr_left
      intro p hp
      rw [ht p.2 (by simp only [Op.operands]; exact List.mem_map_of_mem hp)]
    simp only [act0, this, hkb]
    cases dst with
    | none => rfl
    | some d =>
      simp only [hfr d rfl]
      rw [actBuildSlice_local]
      intro k hk'
      refine hh k (List.mem_cons_of_mem _ ?_)
      simp only [Op.operands, List.map_map] at hk' ⊢
      exact hk'
  | load t x => simp only [act0, ht x (by simp [Op.operands]), actLoad_local _ t _ (hk x (by simp [Op.operands]))]
  | store t x y => simp only [act0, ht x (by simp [Op.operands]), ht y (by simp [Op.operands]), actStore_local _ t _ _ (hk x (by simp [Op.operands])) (hk y (by simp [Op.operands]))]
  | nilCheck x => simp only [act0, ht x (by simp [Op.operands])]
  | binOp op t x y yt => simp only [act0, ht x (by simp [Op.operands]), ht y (by simp [Op.operands])]
  | unOp op t x => simp only [act0, ht x (by simp [Op.operands])]
  | convert s d x => simp only [act0, ht x (by simp [Op.operands]), actConvert_local _ s d _ (hk x (by simp [Op.operands]))]
  | makeFunc f first caps =>
    have h1 : first.toList.map (ev st'.t) = first.toList.map (ev st.t) := List.map_congr_left fun x hx => ht x (by simp [Op.operands]; exact .inl (by simpa using hx))
    have h2 : caps.toList.map (ev st'.t) = caps.toList.map (ev st.t) := List.map_congr_left fun x hx => ht x (by simp [Op.operands]; exact .inr (by simpa using hx))
    simp only [act0, h1, h2]
  | makeSlice t l c =>
    simp only [act0, ht l (by simp [Op.operands]), ht c (by simp [Op.operands]), hkb]
    cases dst with
    | none => rfl
    | some d => simp only [hfr d rfl]
  | slice t x l hi mx =>
    have h1 : l.map (ev st'.t) = l.map (ev st.t) := by cases l with | none => rfl | some y => simp only [Option.map_some, ht y (by simp [Op.operands])]
    have h2 : hi.map (ev st'.t) = hi.map (ev st.t) := by cases hi with | none => rfl | some y => simp only [Option.map_some, ht y (by simp [Op.operands])]
    have h3 : mx.map (ev st'.t) = mx.map (ev st.t) := by cases mx with | none => rfl | some y => simp only [Option.map_some, ht y (by simp [Op.operands])]
    simp only [act0, ht x (by simp [Op.operands]), h1, h2, h3, actSlice_local _ t _ _ _ _ (hk x (by simp [Op.operands]))]
  | fieldAddr s x f => simp only [act0, ht x (by simp [Op.operands])]
  | field s x f => simp only [act0, ht x (by simp [Op.operands])]
  | indexAddr t x i => simp only [act0, ht x (by simp [Op.operands]), ht i (by simp [Op.operands]), actIndexAddr_local _ t _ _ (hk x (by simp [Op.operands]))]
  | index t x i => simp only [act0, ht x (by simp [Op.operands]), ht i (by simp [Op.operands])]
  | extract x i => simp only [act0, ht x (by simp [Op.operands])]
  | call c =>
    obtain ⟨callee, args, argTypes⟩ := c
    have hargs : ∀ x ∈ args.toList, x ∈ (Op.call ⟨callee, args, argTypes⟩).operands.toList := by
      intro x hx
      simp only [Op.operands, Call.operands, Array.toList_append, List.mem_append]
      exact .inr hx
    have hmap : args.toList.map (ev st'.t) = args.toList.map (ev st.t) := List.map_congr_left fun x hx => ht x (hargs x hx)
    cases callee with
    | invoke r m => simp only [act0]
    | builtin b =>
      simp only [act0]
      cases hl : args.toList with
      | nil => cases b <;> rfl
      | cons x xs =>
        have hx : ev st'.t x = ev st.t x := ht x (hargs x (by simp [hl]))
        have kx := hk x (hargs x (by simp [hl]))
        cases xs with
        | nil =>
          cases b <;> first | rfl | (cases argTypes.toList with
            | nil => rfl
            | cons t ts => cases ts with
              | nil => simp only [hx, lenAV_local _ kx]
              | cons _ _ => rfl)
        | cons y ys =>
          have hy : ev st'.t y = ev st.t y := ht y (hargs y (by simp [hl]))
          have ky := hk y (hargs y (by simp [hl]))
          cases ys with
          | cons z zs => cases b <;> rfl
          | nil =>
            cases b
            case append =>
              cases hts : argTypes.toList with
              | nil => rfl
              | cons t ts => cases ts with
                | nil => rfl
                | cons t' ts' => cases ts' with
                  | cons _ _ => rfl
                  | nil =>
                    simp only [hkb, hx, hy]
                    cases dst with
                    | none => rfl
                    | some d => simp only [hfr d rfl, actAppend_local _ (st.kb + d) t t' _ _ kx ky]
            case copy =>
              cases hts : argTypes.toList with
              | nil => rfl
              | cons t ts => cases ts with
                | nil => rfl
                | cons t' ts' => cases ts' with
                  | cons _ _ => rfl
                  | nil => simp only [hx, hy, actCopy_local _ t t' _ _ kx ky]
            all_goals first | rfl | simp only [hx, hy]
    | value f =>
      have hfm : f ∈ (Op.call ⟨.value f, args, argTypes⟩).operands.toList := by simp [Op.operands, Call.operands]
      have hf : ev st'.t f = ev st.t f := ht f hfm
      have kf := hk f hfm
      simp only [act0, hf, hmap, hkb]
      cases hfv : ev st.t f with
      | fn fid first caps =>
        cases fid with
        | func g =>
          have hloc : ∀ d, actCall E st'.h d g (first ++ args.toList.map (ev st.t) ++ caps) = actCall E st.h d g (first ++ args.toList.map (ev st.t) ++ caps) := by
            intro d
            refine actCall_local E d g _ fun k hk' => ?_
            simp only [keysAVs_append, List.mem_append] at hk'
            rw [hfv] at kf
            simp only [keysAV, List.mem_append] at kf
            rcases hk' with (hk' | hk') | hk'
            · exact kf k (.inl hk')
            · refine hh k (List.mem_cons_of_mem _ ?_)
              simp only [Op.operands, Call.operands, Array.toList_append, List.map_append, keysAVs_append, List.mem_append]
              exact .inr hk'
            · exact kf k (.inr hk')
          cases dst <;> simp only [hloc]
        | _ => rfl
      | _ => rfl
  | _ => rfl

theorem actCallV_local {h h' : Heap} (E : Env) (d f : Nat) (xs : List AV) (hx : ∀ k ∈ keysAVs xs, h' k = h k) : actCallV E h' d f xs = actCallV E h d f xs := by
  unfold actCallV
  simp only [purs_local xs hx, freezes_local (purs h xs).2 (fun j hj => hx j (purs_keys xs j hj))]

theorem actV_local {E : Env} {st st' : St} {o : Oper} (ht : ∀ x ∈ o.op.operands.toList, ev st'.t x = ev st.t x) (hh : ∀ k ∈ krOf st o, st'.h k = st.h k) (hkb : st'.kb = st.kb) :
    actV E st' o = actV E st o := by
  have hk : ∀ x ∈ o.op.operands.toList, ∀ k ∈ keysAV (ev st.t x), st'.h k = st.h k := by
    intro x hx k hk
    exact hh k (List.mem_cons_of_mem _ (keysAVs_mem (List.mem_map_of_mem hx) k hk))
  obtain ⟨dst, op, type, pos, after, guard⟩ := o
  simp only at ht hk
  cases op with
  | load t p =>
    simp only [actV, ht p (by simp [Op.operands])]
    cases hp : ev st.t p with
    | elem k sz i j =>
      have := hk p (by simp [Op.operands]) k (by rw [hp]; simp [keysAV])
      cases E.T.find t with
      | none => rfl
      | some te => simp only [this]
    | _ => rfl
  | store t p v =>
    simp only [actV, ht p (by simp [Op.operands]), ht v (by simp [Op.operands])]
    cases hp : ev st.t p with
    | elem k sz i j =>
      have := hk p (by simp [Op.operands]) k (by rw [hp]; simp [keysAV])
      cases ev st.t v with
      | view k3 s3 off len => simp only [this]
      | _ => rfl
    | _ => rfl
  | slice t x l hi mx =>
    cases l with
    | none => rfl
    | some l =>
      cases hi with
      | none => rfl
      | some hi =>
        cases mx with
        | none => rfl
        | some mx =>
          simp only [actV, ht x (by simp [Op.operands]), ht l (by simp [Op.operands]), ht hi (by simp [Op.operands]), ht mx (by simp [Op.operands])]
          cases hp : ev st.t x with
          | own k =>
            have := hk x (by simp [Op.operands]) k (by rw [hp]; simp [keysAV])
            cases ev st.t l with
            | int _ _ => cases ev st.t hi with
              | int _ _ => cases ev st.t mx with
                | int _ _ => simp only [this]
                | _ => rfl
              | _ => rfl
            | _ => rfl
          | _ => rfl
  | indexAddr t x i =>
    simp only [actV, ht x (by simp [Op.operands]), ht i (by simp [Op.operands])]
    cases hp : ev st.t x with
    | own k =>
      have := hk x (by simp [Op.operands]) k (by rw [hp]; simp [keysAV])
      cases ev st.t i with
      | int _ _ => simp only [this]
      | _ => rfl
    | _ => rfl
  | call c =>
    obtain ⟨callee, args, argTypes⟩ := c
    have hargs : ∀ x ∈ args.toList, x ∈ (Op.call ⟨callee, args, argTypes⟩).operands.toList := by
      intro x hx
      simp only [Op.operands, Call.operands, Array.toList_append, List.mem_append]
      exact .inr hx
    have hmap : args.toList.map (ev st'.t) = args.toList.map (ev st.t) := List.map_congr_left fun x hx => ht x (hargs x hx)
    cases callee with
    | invoke r m => rfl
    | builtin b =>
      cases b <;> first | rfl | skip
      simp only [actV]
      cases hl : args.toList with
      | nil => rfl
      | cons x xs =>
        cases xs with
        | cons _ _ => rfl
        | nil =>
          have hx : ev st'.t x = ev st.t x := ht x (hargs x (by simp [hl]))
          have kx := hk x (hargs x (by simp [hl]))
          cases argTypes.toList with
          | nil => rfl
          | cons t ts => cases ts with
            | cons _ _ => rfl
            | nil =>
              simp only [hx]
              cases hp : ev st.t x with
              | own k =>
                have := kx k (by rw [hp]; simp [keysAV])
                simp only [this]
              | _ => rfl
    | value f =>
      have hfm : f ∈ (Op.call ⟨.value f, args, argTypes⟩).operands.toList := by simp [Op.operands, Call.operands]
      have hf : ev st'.t f = ev st.t f := ht f hfm
      have kf := hk f hfm
      simp only [actV, hf, hmap, hkb]
      cases hfv : ev st.t f with
      | fn fid first caps =>
        cases fid with
        | func g =>
          have hloc : ∀ d, actCallV E st'.h d g (first ++ args.toList.map (ev st.t) ++ caps) = actCallV E st.h d g (first ++ args.toList.map (ev st.t) ++ caps) := by
            intro d
            refine actCallV_local E d g _ fun k hk' => ?_
            simp only [keysAVs_append, List.mem_append] at hk'
            rw [hfv] at kf
            simp only [keysAV, List.mem_append] at kf
            rcases hk' with (hk' | hk') | hk'
            · exact kf k (.inl hk')
            · refine hh k (List.mem_cons_of_mem _ ?_)
              simp only [Op.operands, Call.operands, Array.toList_append, List.map_append, keysAVs_append, List.mem_append]
              exact .inr hk'
            · exact kf k (.inr hk')
          cases dst <;> simp only [hloc]
        | _ => rfl
      | _ => rfl
  | _ => rfl

theorem act_local {E : Env} {st st' : St} {o : Oper} (ht : ∀ x ∈ o.op.operands.toList, ev st'.t x = ev st.t x) (hh : ∀ k ∈ krOf st o, st'.h k = st.h k) (hkb : st'.kb = st.kb) :
    act E st' o = act E st o := by
  unfold act
  rw [act0_local ht hh hkb, actV_local ht hh hkb]
end Go.Vg
/-
  A VERIFIED VC GENERATOR, part W: regions that draw their order: the order of the text stands for all.
-/
namespace Go.Vg
open Go

theorem hmem_iff : ∀ (l : List Nat) (k : Nat), hmem l k = true ↔ k ∈ l
  | [], k => by simp [hmem]
  | j :: l, k => by
    simp only [hmem, Bool.or_eq_true, List.mem_cons, hmem_iff l k]
    constructor
    · rintro (h | h)
      · exact .inl (Nat.eq_of_beq_eq_true h)
      · exact .inr h
    · rintro (rfl | h)
      · exact .inl (nbeq_true _)
      · exact .inr h
theorem hmem_false {l : List Nat} {k : Nat} : hmem l k = false ↔ k ∉ l := by
  rw [← hmem_iff, Bool.not_eq_true]
theorem disj_spec {a b : List Nat} (h : disj a b = true) : ∀ k ∈ a, k ∉ b := by
  intro k hk
  have := (List.all_eq_true.1 h) k hk
  rw [Bool.not_eq_true'] at this
  exact hmem_false.1 this

mutual
theorem scrubP_id (p : Nat → Bool) : ∀ (a : AV), (∀ k ∈ keysAV a, p k = false) → scrubP p a = a
  | .own k, h => by simp [scrubP, h k (by simp [keysAV])]
  | .pre k _, h => by simp [scrubP, h k (by simp [keysAV])]
  | .view k _ _ _, h => by simp [scrubP, h k (by simp [keysAV])]
  | .ref k _, h => by simp [scrubP, h k (by simp [keysAV])]
  | .elem k _ _ _, h => by simp [scrubP, h k (by simp [keysAV])]
  | .agg cs, h => by simp only [scrubP, scrubPL_id p cs (by simpa [keysAV] using h)]
  | .tup cs, h => by simp only [scrubP, scrubPL_id p cs (by simpa [keysAV] using h)]
  | .fn f first caps, h => by
    simp only [keysAV, List.mem_append] at h
    simp only [scrubP, scrubPL_id p first (fun k hk => h k (.inl hk)), scrubPL_id p caps (fun k hk => h k (.inr hk))]
  | .junk, _ | .undef, _ | .int _ _, _ | .bool _, _ | .tt, _ | .ff, _ | .str _, _ | .nil, _ | .nilp, _ | .nilf, _ | .sl _ _, _ | .full _ _, _ | .selem _ _ _, _ => by simp [scrubP]
theorem scrubPL_id (p : Nat → Bool) : ∀ (as : List AV), (∀ k ∈ keysAVs as, p k = false) → scrubPL p as = as
  | [], _ => rfl
  | a :: as, h => by
    simp only [keysAVs, List.mem_append] at h
    simp only [scrubPL, scrubP_id p a (fun k hk => h k (.inl hk)), scrubPL_id p as (fun k hk => h k (.inr hk))]
end
theorem scrubPB_id (p : Nat → Bool) (b : AB) (h : ∀ k ∈ keysAB b, p k = false) : scrubPB p b = b := by
  cases b with
  | cells cs => simp only [scrubPB, scrubPL_id p cs (by simpa [keysAB] using h)]
  | row _ _ _ _ => rfl
  | views e j n m sz =>
    cases j with
    | none => rfl
    | some j => simp only [scrubPB, scrubPJ, h j (by simp [keysAB]), cond_false]
theorem inNew_false {new : List (Nat × AB)} {k : Nat} (h : k ∉ new.map (·.1)) : inNew new k = false := by
  rw [inNew_hfind, hfind_none_of new k (hmem_false.2 h)]; rfl

def Clean (e : Ev) (s : St) : Prop := (∀ i, scrubP (inNew e.eff.new) (s.t i) = s.t i) ∧ ∀ k, scrubPO (inNew e.eff.new) (s.h k) = s.h k
def ap (ops : List Oper) (e : Ev) (s : St) : St := litAt (isGuard ops e.i) e.o.dst (s.put e.o.dst e.eff)
def litG (g : Bool) (a : AV) : AV := bif g then litV a else a
def wfind (e : Ev) (k : Nat) : Option (Option AB) := match hfind e.eff.new k with
  | some b => some (some b)
  | none => bif hmem e.eff.del k then some none else match hfind e.eff.upd k with
    | some b => some (some (scrubBs e.eff.new b))
    | none => none

section
variable {P : Program} {C : Ctx} {E : Env} {ops : List Oper}

theorem litAt_h {g : Bool} {d : Option Nat} {s : St} : (litAt g d s).h = s.h ∧ (litAt g d s).n = s.n ∧ (litAt g d s).kb = s.kb := by
  cases d <;> cases g <;> exact ⟨rfl, rfl, rfl⟩
theorem ap_n (e : Ev) (s : St) : (ap ops e s).n = s.n := litAt_h.2.1
theorem ap_kb (e : Ev) (s : St) : (ap ops e s).kb = s.kb := litAt_h.2.2

theorem ap_t {e : Ev} {s : St} (hc : Clean e s) (i : Nat) : (ap ops e s).t i = if e.o.dst = some i then litG (isGuard ops e.i) e.eff.res else s.t i := by
  unfold ap
  cases hd : e.o.dst with
  | none =>
    simp only [litAt, St.put, reduceCtorEq, if_false]
    rw [scrubs_eq]; exact hc.1 i
  | some d =>
    by_cases hi : i = d
    · subst hi
      cases isGuard ops e.i <;> simp [litAt, St.put, litG]
    · have hi' : ¬ (some d = some i) := fun h => hi (Option.some.inj h).symm
      have : scrubs e.eff.new (s.t i) = s.t i := by rw [scrubs_eq]; exact hc.1 i
      cases isGuard ops e.i <;> simp only [litAt, St.put, nbeq_false hi, cond_false, cond_true, if_neg hi', this]

theorem ap_h {e : Ev} {s : St} (hc : Clean e s) (k : Nat) : (ap ops e s).h k = match wfind e k with
    | some v => v
    | none => s.h k := by
  unfold ap
  rw [litAt_h.1]
  have hk := hc.2 k
  simp only [St.put, newH, wfind]
  cases hfind e.eff.new k with
  | some b => rfl
  | none =>
    simp only
    cases hmem e.eff.del k with
    | true => rfl
    | false =>
      simp only [cond_false]
      cases hfind e.eff.upd k with
      | some b => rfl
      | none =>
        simp only
        cases hs : s.h k with
        | none => rfl
        | some b =>
          rw [hs] at hk
          simp only [scrubPO, Option.some.injEq] at hk
          simp only [scrubBs_eq, hk]

theorem wfind_none {e : Ev} {k : Nat} (h : k ∉ e.eff.wr) : wfind e k = none := by
  simp only [Out.wr, List.mem_append, not_or] at h
  simp only [wfind, hfind_none_of _ k (hmem_false.2 h.2.2), hfind_none_of _ k (hmem_false.2 h.1), hmem_false.2 h.2.1, cond_false]

theorem keysABs_find : ∀ (l : List (Nat × AB)) (k : Nat) (c : AB), hfind l k = some c → ∀ j ∈ keysAB c, j ∈ keysABs l
  | (j0, b0) :: l, k, c, hc, j, hj => by
    simp only [hfind] at hc
    simp only [keysABs, List.mem_append]
    cases hb : Nat.beq k j0 with
    | true => rw [hb] at hc; simp only [cond_true, Option.some.injEq] at hc; subst hc; exact .inl hj
    | false => rw [hb] at hc; exact .inr (keysABs_find l k c hc j hj)

theorem wfind_clean {e g : Ev} {k : Nat} {b : AB} (hp : disj e.eff.pay (g.eff.new.map (·.1)) = true) (h : wfind e k = some (some b)) : scrubPB (inNew g.eff.new) b = b := by
  have hpay : ∀ j ∈ e.eff.pay, inNew g.eff.new j = false := fun j hj => inNew_false (disj_spec hp j hj)
  unfold wfind at h
  split at h
  · rename_i c hc
    simp only [Option.some.injEq] at h; subst h
    exact scrubPB_id _ c fun j hj => hpay j (by simp only [Out.pay, List.mem_append]; exact .inr (.inr (keysABs_find _ _ _ hc j hj)))
  · cases hd : hmem e.eff.del k with
    | true => rw [hd] at h; simp at h
    | false =>
      rw [hd] at h
      simp only [cond_false] at h
      split at h
      · rename_i c hc
        simp only [Option.some.injEq] at h; subst h
        have hcl : ∀ j ∈ keysAB c, inNew g.eff.new j = false := fun j hj => hpay j (by simp only [Out.pay, List.mem_append]; exact .inr (.inl (keysABs_find _ _ _ hc j hj)))
        rw [scrubBs_eq, scrubPB_scrubPB]
        have comm : (fun k => inNew e.eff.new k || inNew g.eff.new k) = fun k => inNew g.eff.new k || inNew e.eff.new k := by funext k; exact Bool.or_comm _ _
        rw [comm, ← scrubPB_scrubPB, scrubPB_id _ c hcl]
      · cases h

theorem Clean.ap {e g : Ev} {s : St} (hg : Clean g s) (he : Clean e s) (hp : disj e.eff.pay (g.eff.new.map (·.1)) = true) : Clean g (ap ops e s) := by
  refine ⟨fun i => ?_, fun k => ?_⟩
  · rw [ap_t he]
    split
    · have : scrubP (inNew g.eff.new) e.eff.res = e.eff.res := scrubP_id _ _ fun k hk => inNew_false (disj_spec hp k (by simp [Out.pay, hk]))
      cases hq : isGuard ops e.i with
      | false => exact this
      | true =>
        simp only [litG, cond_true]
        cases hr : e.eff.res with
        | bool b => cases b <;> rfl
        | _ => rw [hr] at this; exact this
    · exact hg.1 i
  · rw [ap_h he]
    cases hw : wfind e k with
    | none => exact hg.2 k
    | some v =>
      cases v with
      | none => rfl
      | some b => simp only [scrubPO, wfind_clean hp hw]

theorem newOk_congr {h h' : Heap} : ∀ (l : List (Nat × AB)), (∀ k ∈ l.map (·.1), h' k = h k) → newOk h' l = newOk h l
  | [], _ => rfl
  | (k, b) :: l, hx => by
    simp only [newOk, hx k (by simp), newOk_congr l (fun j hj => hx j (by simp only [List.map_cons, List.mem_cons]; exact .inr hj))]

theorem grd_local {t t' : Nat → AV} {o : Oper} (h : ∀ x ∈ looks ops o, t' x = t x) : grd ops t' o = grd ops t o := by
  unfold grd
  unfold looks at h
  cases hg : o.guard with
  | none => rfl
  | some jw =>
    obtain ⟨j, want⟩ := jw
    rw [hg] at h
    simp only at h ⊢
    cases hs : gslot ops j with
    | none => rfl
    | some g =>
      rw [hs] at h
      simp only [h g (by simp)]

theorem slotsOf_mem : ∀ (xs : List Operand) (i : Nat), .tmp i ∈ xs → i ∈ slotsOf xs
  | x :: xs, i, h => by
    rcases List.mem_cons.1 h with rfl | h
    · simp [slotsOf]
    · have := slotsOf_mem xs i h
      cases x <;> simp [slotsOf, this]

theorem ev_local {t t' : Nat → AV} {o : Oper} (h : ∀ x ∈ looks ops o, t' x = t x) : ∀ x ∈ o.op.operands.toList, ev t' x = ev t x := by
  intro x hx
  cases x with
  | tmp i => exact h i (by unfold looks; exact List.mem_append_right _ (slotsOf_mem _ i hx))
  | _ => rfl

/-- an event comes up all the same where all that it looks at is the same -/
theorem Fires.across {f : Ev} {s s1 s' : St} (hf : Fires E ops f s s1) (ht : ∀ x ∈ looks ops f.o, s'.t x = s.t x) (hk : ∀ k, k ∈ f.kr ∨ k ∈ f.eff.wr → s'.h k = s.h k) (hn : s'.n = s.n) (hkb : s'.kb = s.kb) :
    Fires E ops f s' (ap ops f s') := by
  have hev := ev_local ht
  have hkr : krOf s' f.o = krOf s f.o := by
    unfold krOf
    rw [hkb, List.map_congr_left hev]
  refine ⟨hf.op, ?_, hf.kr.trans hkr.symm, ?_, SEq.refl _⟩
  · have := hf.dst
    unfold dstOk at this ⊢
    rw [hn]; exact this
  · have hst := hf.step
    cases ho : f.out with
    | none =>
      rw [ho] at hst
      simp only [grd_local ht]; exact hst
    | some out =>
      rw [ho] at hst
      obtain ⟨h1, h2, h3, h4⟩ := hst
      have he : f.eff = out := by simp [Ev.eff, ho]
      refine ⟨by rw [grd_local ht]; exact h1, ?_, ?_, h4⟩
      · rw [act_local hev (fun k hk' => hk k (.inl (by rw [hf.kr]; exact hk'))) hkb]; exact h2
      · rw [newOk_congr out.new (fun k hk' => hk k (.inr (by rw [he]; simp only [Out.wr, List.mem_append]; exact .inr (.inr hk')))), h3]

theorem Fires.seq {f : Ev} {s s1 r r1 : St} (hf : Fires E ops f s s1) (h : SEq r s) (h1 : SEq r1 s1) : Fires E ops f r r1 := by
  have := hf.across (s' := r) (fun x _ => by rw [h.1]) (fun k _ => by rw [h.2.1]) h.2.2.1 h.2.2.2
  refine ⟨this.op, this.dst, this.kr, this.step, ?_⟩
  refine h1.trans (hf.next.trans ?_)
  refine SEq.litAt ?_ _ _
  obtain ⟨e1, e2, e3, e4⟩ := h
  refine ⟨?_, ?_, e3.symm, e4.symm⟩
  · simp only [St.put, e1]
  · simp only [St.put, e2]

theorem Exec.seq : ∀ (es : List Ev) (s r q q' : St), Exec E ops es s q → SEq r s → SEq q' q → Exec E ops es r q'
  | [], s, r, q, q', h, h1, h2 => h2.trans (SEq.trans h h1.symm)
  | e :: es, s, r, q, q', ⟨s1, h, hx⟩, h1, h2 => ⟨s1, h.seq h1 (SEq.refl _), Exec.seq es s1 s1 q q' hx (SEq.refl _) h2⟩

theorem apart_spec {e f : Ev} (h : apartE ops e f = true) : (∀ d, e.o.dst = some d → d ∉ looks ops f.o) ∧ (∀ d, f.o.dst = some d → d ∉ looks ops e.o) ∧ (∀ d, e.o.dst = some d → f.o.dst ≠ some d) ∧
    (∀ k ∈ e.eff.wr, k ∉ f.kr) ∧ (∀ k ∈ f.eff.wr, k ∉ e.kr) ∧ (∀ k ∈ e.eff.wr, k ∉ f.eff.wr) ∧ disj e.eff.pay (f.eff.new.map (·.1)) = true ∧ disj f.eff.pay (e.eff.new.map (·.1)) = true := by
  unfold apartE at h
  simp only [Bool.and_eq_true] at h
  obtain ⟨⟨⟨⟨⟨⟨⟨h1, h2⟩, h3⟩, h4⟩, h5⟩, h6⟩, h7⟩, h8⟩ := h
  refine ⟨fun d hd => ?_, fun d hd => ?_, fun d hd hd' => ?_, disj_spec h4, disj_spec h5, disj_spec h6, h7, h8⟩
  · rw [hd] at h1
    simp only [offSlot, Bool.not_eq_true'] at h1
    exact hmem_false.1 h1
  · rw [hd] at h2
    simp only [offSlot, Bool.not_eq_true'] at h2
    exact hmem_false.1 h2
  · rw [hd, hd'] at h3
    simp only [nbeq_true, Bool.not_true] at h3
    cases h3

theorem swap {e f : Ev} {s s1 s2 : St} (he : Fires E ops e s s1) (hf : Fires E ops f s1 s2) (ha : apartE ops e f = true) (ce : Clean e s) (cf : Clean f s) :
    Fires E ops f s (ap ops f s) ∧ Fires E ops e (ap ops f s) (ap ops e (ap ops f s)) ∧ SEq (ap ops e (ap ops f s)) s2 := by
  obtain ⟨a1, a2, a3, a4, a5, a6, a7, a8⟩ := apart_spec ha
  have n1 : SEq s1 (ap ops e s) := he.next
  have cf1 : Clean f (ap ops e s) := cf.ap ce a7
  have ce1 : Clean e (ap ops f s) := ce.ap cf a8
  have hf' : Fires E ops f (ap ops e s) s2 := hf.seq n1.symm (SEq.refl _)
  have hF : Fires E ops f s (ap ops f s) := by
    refine hf'.across (fun x hx => ?_) (fun k hk => ?_) (ap_n _ _).symm (ap_kb _ _).symm
    · rw [ap_t ce, if_neg (fun h => a1 x h hx)]
    · have : k ∉ e.eff.wr := fun h => by
        rcases hk with hk | hk
        · exact a4 k h hk
        · exact a6 k h hk
      rw [ap_h ce, wfind_none this]
  have hE : Fires E ops e (ap ops f s) (ap ops e (ap ops f s)) := by
    refine he.across (fun x hx => ?_) (fun k hk => ?_) (ap_n _ _) (ap_kb _ _)
    · rw [ap_t cf, if_neg (fun h => a2 x h hx)]
    · have : k ∉ f.eff.wr := fun h => by
        rcases hk with hk | hk
        · exact a5 k h hk
        · exact a6 k hk h
      rw [ap_h cf, wfind_none this]
  refine ⟨hF, hE, SEq.trans ?_ hf'.next.symm⟩
  show SEq (ap ops e (ap ops f s)) (ap ops f (ap ops e s))
  refine ⟨?_, ?_, by rw [ap_n, ap_n, ap_n, ap_n], by rw [ap_kb, ap_kb, ap_kb, ap_kb]⟩
  · funext i
    rw [ap_t ce1, ap_t cf, ap_t cf1, ap_t ce]
    by_cases h1 : e.o.dst = some i
    · have h2 : ¬ f.o.dst = some i := a3 i h1
      simp only [h1, h2, if_true, if_false]
    · simp only [h1, if_false]
  · funext k
    rw [ap_h ce1, ap_h cf, ap_h cf1, ap_h ce]
    by_cases h1 : k ∈ e.eff.wr
    · have : k ∉ f.eff.wr := a6 k h1
      simp only [wfind_none this]
    · simp only [wfind_none h1]

def Pairs (ops : List Oper) : List Ev → Prop
  | [] => True
  | e :: es => (∀ f ∈ es, disj e.eff.pay (f.eff.new.map (·.1)) = true ∧ (waits f e = true ∨ apartE ops e f = true)) ∧ Pairs ops es

theorem bubble : ∀ (es1 : List Ev) (f : Ev) (es2 : List Ev) (s q : St), Exec E ops (es1 ++ f :: es2) s q → (∀ e ∈ es1, apartE ops e f = true) →
    Pairs ops (es1 ++ f :: es2) → (∀ g ∈ es1 ++ f :: es2, Clean g s) → Fires E ops f s (ap ops f s) ∧ Exec E ops (es1 ++ es2) (ap ops f s) q
  | [], f, es2, s, q, hx, ha, _, hc => by
    obtain ⟨s1, h1, h2⟩ := hx
    refine ⟨h1.across (fun _ _ => rfl) (fun _ _ => rfl) rfl rfl, Exec.seq _ _ _ _ _ h2 h1.next.symm (SEq.refl _)⟩
  | e :: es1, f, es2, s, q, hx, ha, hP, hc => by
    obtain ⟨s1, h1, h2⟩ := hx
    have ce := hc e (by simp)
    have hc1 : ∀ g ∈ es1 ++ f :: es2, Clean g s1 := by
      intro g hg
      have h := (hc g (by simp only [List.cons_append, List.mem_cons]; exact .inr hg)).ap (ops := ops) ce (hP.1 g hg).1
      have hn : SEq s1 (ap ops e s) := h1.next
      exact ⟨fun i => by rw [hn.1]; exact h.1 i, fun k => by rw [hn.2.1]; exact h.2 k⟩
    obtain ⟨b1, b2⟩ := bubble es1 f es2 s1 q h2 (fun e' he' => ha e' (List.mem_cons_of_mem _ he')) hP.2 hc1
    obtain ⟨c1, c2, c3⟩ := swap h1 b1 (ha e (by simp)) ce (hc f (by simp))
    exact ⟨c1, ap ops e (ap ops f s), c2, Exec.seq _ _ _ _ _ b2 c3 (SEq.refl _)⟩

end
end Go.Vg
/-
  A VERIFIED VC GENERATOR, part X: regions that draw their order, whole.
-/
namespace Go.Vg
open Go

section
variable {P : Program} {C : Ctx} {E : Env}

theorem getD_true_false {l : Array Bool} {i : Nat} (h : i < l.size) : l.getD i true = l.getD i false := by
  rw [Array.getD_eq_getD_getElem?, Array.getD_eq_getD_getElem?, Array.getElem?_eq_getElem h]; rfl

theorem Pairs.sub : ∀ {es1 : List Ev} {f : Ev} {es2 : List Ev} {ops : List Oper}, Pairs ops (es1 ++ f :: es2) → Pairs ops (es1 ++ es2)
  | [], f, es2, ops, h => h.2
  | e :: es1, f, es2, ops, h => by
    refine ⟨fun g hg => h.1 g ?_, Pairs.sub (es1 := es1) h.2⟩
    have hg : g ∈ es1 ++ es2 := hg
    show g ∈ es1 ++ f :: es2
    rw [List.mem_append] at hg ⊢
    exact hg.imp id (List.mem_cons_of_mem _)

theorem Pairs.mid : ∀ {es1 : List Ev} {f : Ev} {es2 : List Ev} {ops : List Oper}, Pairs ops (es1 ++ f :: es2) → (∀ e ∈ es1, disj e.eff.pay (f.eff.new.map (·.1)) = true ∧ (waits f e = true ∨ apartE ops e f = true)) ∧
    ∀ g ∈ es2, disj f.eff.pay (g.eff.new.map (·.1)) = true
  | [], f, es2, ops, h => ⟨fun e he => (by cases he), fun g hg => (h.1 g hg).1⟩
  | e :: es1, f, es2, ops, h => by
    obtain ⟨h1, h2⟩ := Pairs.mid (es1 := es1) h.2
    refine ⟨fun e' he' => ?_, h2⟩
    rcases List.mem_cons.1 he' with rfl | he'
    · exact h.1 f (by simp)
    · exact h1 e' he'

/-- all that an event waits for, it waits for at once or by way of one that it waits for -/
def PreOk (all : List Ev) : Prop := ∀ f ∈ all, ∀ k ∈ f.pre, ∃ x ∈ f.o.after.toList, Region.binds .any x = true ∧ (x.on = k ∨ ∃ g ∈ all, g.i = x.on ∧ k ∈ g.pre)

theorem any_sound (hE : EnvOk P E) {ops : Array Oper} {Q : Exit → Act → World → Prop} : ∀ (fuel : Nat) (listed : Array Bool) (es : List Ev) (s q : St) (a : Act) (w : World),
    es.length ≤ fuel → Exec E ops.toList es s q → Pairs ops.toList es → (∀ g ∈ es, Clean g s) → (es.map (·.i)).Pairwise (· < ·) → (∀ i, listed.getD i true = false ↔ ∃ e ∈ es, e.i = i) →
    (∀ e ∈ es, ∀ x ∈ e.o.after.toList, Region.binds .any x = true → x.on < e.i) → (∀ e ∈ es, ops[e.i]? = some e.o) → ∀ (all : List Ev), (∀ e ∈ es, e ∈ all) → (∀ g ∈ all, ops[g.i]? = some g.o) → PreOk all → (∀ g ∈ all, listed.getD g.i true = true → ∀ k ∈ g.pre, listed.getD k false = true) → listed.size = ops.size → Rel C s a w → (∀ a' w', Rel C q a' w' → Q .normal a' w') → wpAny P .any ops Q fuel listed a w := by
  intro fuel
  induction fuel with
  | zero =>
    intro listed es s q a w hl hx hP hc hi hm hb ho all hall hao hpre hcl hsz hR hQ
    have : es = [] := List.length_eq_zero_iff.1 (Nat.le_zero.1 hl)
    subst this
    obtain ⟨A, β, hB⟩ := hR
    refine ⟨?_, hQ _ _ ⟨A, β, hB.seq hx⟩⟩
    rw [List.eq_nil_iff_forall_not_mem]
    intro j hj
    obtain ⟨h0, _⟩ := mem_ready.1 hj
    obtain ⟨e, he, _⟩ := (hm j).1 h0
    cases he
  | succ fuel ih =>
    intro listed es s q a w hl hx hP hc hi hm hb ho all hall hao hpre hcl hsz hR hQ
    refine ⟨fun hr => ?_, fun i hi' => ?_⟩
    · cases es with
      | nil =>
        obtain ⟨A, β, hB⟩ := hR
        exact hQ _ _ ⟨A, β, hB.seq hx⟩
      | cons e es =>
        exfalso
        have hoe := ho e (by simp)
        have hlt : e.i < ops.size := (Array.getElem?_eq_some_iff.1 hoe).1
        have : e.i ∈ Region.ready .any ops listed := by
          refine mem_ready.2 ⟨(hm e.i).2 ⟨e, by simp, rfl⟩, e.o, hoe, fun x hx' hbx => ?_⟩
          have hon := hb e (by simp) x (by simpa using hx') hbx
          rw [← getD_true_false (by rw [hsz]; omega)]
          cases hq : listed.getD x.on true with
          | true => rfl
          | false =>
            obtain ⟨g, hg, hgi⟩ := (hm x.on).1 hq
            exfalso
            rcases List.mem_cons.1 hg with rfl | hg
            · omega
            · have : e.i < g.i := (List.pairwise_cons.1 hi).1 g.i (List.mem_map_of_mem hg)
              omega
        rw [hr] at this
        cases this
    · obtain ⟨h0, o, hoi, hall'⟩ := mem_ready.1 hi'
      obtain ⟨f, hf, hfi⟩ := (hm i).1 h0
      obtain ⟨es1, es2, rfl⟩ := List.append_of_mem hf
      subst hfi
      have hof := ho f (by simp)
      rw [hof] at hoi
      simp only [Option.some.injEq] at hoi
      subst hoi
      obtain ⟨m1, m2⟩ := hP.mid
      have hprl : ∀ g ∈ all, ops[g.i]? = some f.o → ∀ k ∈ g.pre, listed.getD k false = true := by
        intro g hg hgo k hk
        have hgf : g.o = f.o := by
          have := hao g hg
          rw [hgo] at this
          exact (Option.some.inj this).symm
        obtain ⟨x, hx1, hx2, hx3⟩ := hpre g hg k hk
        rw [hgf] at hx1
        have hxl := hall' x (by simpa using hx1) hx2
        rcases hx3 with rfl | ⟨g', hg', hgi, hkg⟩
        · exact hxl
        · refine hcl g' hg' ?_ k hkg
          rw [hgi]
          rw [Array.getD_eq_getD_getElem?] at hxl ⊢
          cases hq : listed[x.on]? with
          | none => rfl
          | some b => rw [hq] at hxl; exact hxl
      have hap : ∀ e ∈ es1, apartE ops.toList e f = true := by
        intro e he
        rcases (m1 e he).2 with hw | hw
        · exfalso
          have hmk : e.i ∈ f.pre := (hmem_iff _ _).1 hw
          have this := hprl f (hall f (by simp)) hof e.i hmk
          have he0 := (hm e.i).2 ⟨e, by simp [he], rfl⟩
          have hlt : e.i < listed.size := by
            rw [hsz]
            exact (Array.getElem?_eq_some_iff.1 (ho e (by simp [he]))).1
          rw [getD_true_false hlt] at he0
          rw [he0] at this
          cases this
        · exact hw
      obtain ⟨c1, c2⟩ := bubble es1 f es2 s q hx hap hP hc
      refine fires_sound hE c1 hR fun a' w' hR' => ?_
      have cf := hc f (by simp)
      have hii : ∀ e ∈ es1 ++ es2, e ∈ es1 ++ f :: es2 := by
        intro e he
        rw [List.mem_append] at he ⊢
        exact he.imp id (List.mem_cons_of_mem _)
      have hne : ∀ e ∈ es1 ++ es2, e.i ≠ f.i := by
        intro e he
        rw [List.map_append, List.map_cons, List.pairwise_append] at hi
        obtain ⟨p1, p2, p3⟩ := hi
        rcases List.mem_append.1 he with he | he
        · have : e.i < f.i := p3 e.i (List.mem_map_of_mem he) f.i (by simp)
          omega
        · have : f.i < e.i := (List.pairwise_cons.1 p2).1 e.i (List.mem_map_of_mem he)
          omega
      have hltf : f.i < listed.size := by rw [hsz]; exact (Array.getElem?_eq_some_iff.1 hof).1
      refine ih (listed.setIfInBounds f.i true) (es1 ++ es2) (ap ops.toList f s) q a' w' ?_ c2 hP.sub ?_ ?_ ?_ (fun e he => hb e (hii e he)) (fun e he => ho e (hii e he)) all (fun e he => hall e (hii e he)) hao hpre ?_ (by simpa using hsz) hR' hQ
      · simp only [List.length_append, List.length_cons] at hl ⊢; omega
      · intro g hg
        refine (hc g (hii g hg)).ap cf ?_
        rcases List.mem_append.1 hg with hg | hg
        · exact (apart_spec (hap g hg)).2.2.2.2.2.2.2
        · exact m2 g hg
      · refine hi.sublist ?_
        rw [List.map_append, List.map_append, List.map_cons]
        exact List.Sublist.append (List.Sublist.refl _) (List.sublist_cons_self _ _)
      · intro i
        by_cases hif : i = f.i
        · subst hif
          have : (listed.setIfInBounds f.i true).getD f.i true = true := by
            rw [Array.getD_eq_getD_getElem?, Array.getElem?_setIfInBounds_self_of_lt hltf]; rfl
          rw [this]
          constructor
          · intro h; cases h
          · rintro ⟨e, he, h⟩; exact absurd h (hne e he)
        · rw [getD_set_ne true (fun h => hif h.symm), hm i]
          constructor
          · rintro ⟨e, he, rfl⟩
            refine ⟨e, ?_, rfl⟩
            rw [List.mem_append, List.mem_cons] at he
            rw [List.mem_append]
            rcases he with he | rfl | he
            · exact .inl he
            · exact absurd rfl hif
            · exact .inr he
          · rintro ⟨e, he, rfl⟩
            exact ⟨e, hii e he, rfl⟩
      · intro g hg hlg k hk
        by_cases hgf : g.i = f.i
        · exact getD_set_true (hprl g hg (by rw [hgf]; exact hof) k hk)
        · rw [getD_set_ne true (fun h => hgf h.symm)] at hlg
          exact getD_set_true (hcl g hg hlg k hk)

theorem addAll_mem : ∀ (a b : List Nat) (k : Nat), k ∈ addAll a b → k ∈ a ∨ k ∈ b
  | [], b, k, h => .inr h
  | j :: a, b, k, h => by
    simp only [addAll] at h
    cases hj : hmem b j with
    | true =>
      rw [hj] at h
      rcases addAll_mem a b k h with h | h
      · exact .inl (List.mem_cons_of_mem _ h)
      · exact .inr h
    | false =>
      rw [hj] at h
      rcases addAll_mem a (j :: b) k h with h | h
      · exact .inl (List.mem_cons_of_mem _ h)
      · rcases List.mem_cons.1 h with rfl | h
        · exact .inl (List.mem_cons_self ..)
        · exact .inr h
theorem preIn_mem : ∀ (tr : List Ev) (i k : Nat), k ∈ preIn i tr → ∃ g ∈ tr, g.i = i ∧ k ∈ g.pre
  | e :: tr, i, k, h => by
    simp only [preIn] at h
    cases hb : Nat.beq e.i i with
    | true => rw [hb] at h; exact ⟨e, List.mem_cons_self .., Nat.eq_of_beq_eq_true hb, h⟩
    | false =>
      rw [hb] at h
      obtain ⟨g, h1, h2⟩ := preIn_mem tr i k h
      exact ⟨g, List.mem_cons_of_mem _ h1, h2⟩
  | [], _, _, h => by cases h
theorem preOf_mem : ∀ (tr : List Ev) (xs : List Edge) (k : Nat), k ∈ preOf tr xs → ∃ x ∈ xs, Region.binds .any x = true ∧ (x.on = k ∨ ∃ g ∈ tr, g.i = x.on ∧ k ∈ g.pre)
  | tr, x :: xs, k, h => by
    simp only [preOf] at h
    cases hb : Region.binds .any x with
    | true =>
      rw [hb] at h
      rcases addAll_mem _ _ k h with h | h
      · refine ⟨x, List.mem_cons_self .., hb, ?_⟩
        rcases List.mem_cons.1 h with rfl | h
        · exact .inl rfl
        · exact .inr (preIn_mem tr _ k h)
      · obtain ⟨y, h1, h2⟩ := preOf_mem tr xs k h
        exact ⟨y, List.mem_cons_of_mem _ h1, h2⟩
    | false =>
      rw [hb] at h
      obtain ⟨y, h1, h2⟩ := preOf_mem tr xs k h
      exact ⟨y, List.mem_cons_of_mem _ h1, h2⟩
  | _, [], _, h => by cases h
theorem allOk_pre {kb : Nat} {ops : List Oper} (es : List Ev) : ∀ (tr : List Ev), AllOk kb ops tr es → ∀ f ∈ es, ∀ k ∈ f.pre, ∃ x ∈ f.o.after.toList, Region.binds .any x = true ∧ (x.on = k ∨ ∃ g, (g ∈ tr ∨ g ∈ es) ∧ g.i = x.on ∧ k ∈ g.pre) := by
  induction es with
  | nil => intro tr _ f hf; cases hf
  | cons e es ih =>
    intro tr h f hf k hk
    obtain ⟨_, hp, hr⟩ := h
    rcases List.mem_cons.1 hf with rfl | hf
    · rw [hp] at hk
      obtain ⟨x, h1, h2, h3⟩ := preOf_mem tr _ k hk
      refine ⟨x, h1, h2, h3.imp id ?_⟩
      rintro ⟨g, hg, h⟩
      exact ⟨g, .inl hg, h⟩
    · obtain ⟨x, h1, h2, h3⟩ := ih (e :: tr) hr f hf k hk
      refine ⟨x, h1, h2, h3.imp id ?_⟩
      rintro ⟨g, hg, h⟩
      refine ⟨g, ?_, h⟩
      rcases hg with hg | hg
      · rcases List.mem_cons.1 hg with rfl | hg
        · exact .inr (List.mem_cons_self ..)
        · exact .inl hg
      · exact .inr (List.mem_cons_of_mem _ hg)

theorem allOk_pairs {kb : Nat} {ops : List Oper} : ∀ (es tr : List Ev), AllOk kb ops tr es → (∀ e ∈ tr, ∀ f ∈ es, disj e.eff.pay (f.eff.new.map (·.1)) = true ∧ (waits f e = true ∨ apartE ops e f = true)) ∧
    Pairs ops es ∧ (∀ f ∈ es, ∀ x ∈ f.o.after.toList, Region.binds .any x = true → x.on < f.i) ∧ ∀ f ∈ es, ∀ x ∈ f.eff.new, inK kb ((dsts ops).map .dst) x.1 = true
  | [], tr, _ => ⟨fun _ _ f hf => (by cases hf), trivial, fun f hf => (by cases hf), fun f hf => (by cases hf)⟩
  | f :: es, tr, ⟨h, _, hr⟩ => by
    obtain ⟨r1, r2, r3, r4⟩ := allOk_pairs es (f :: tr) hr
    simp only [evOk, cond_true, Bool.and_eq_true, List.all_eq_true, Bool.or_eq_true] at h
    obtain ⟨⟨h1, h2⟩, h3⟩ := h
    refine ⟨fun e he g hg => ?_, ⟨fun g hg => r1 f (by simp) g hg, r2⟩, fun g hg x hx hb => ?_, fun g hg x hx => ?_⟩
    · rcases List.mem_cons.1 hg with rfl | hg
      · exact h1 e he
      · exact r1 e (List.mem_cons_of_mem _ he) g hg
    · rcases List.mem_cons.1 hg with rfl | hg
      · rcases h2 x hx with h | h
        · rw [hb] at h; cases h
        · exact Nat.le_of_ble_eq_true h
      · exact r3 g hg x hx hb
    · rcases List.mem_cons.1 hg with rfl | hg
      · exact h3 x hx
      · exact r4 g hg x hx

theorem RelB.drew {A : Nat → Prop} {β : Nat → Value} {st : St} {a : Act} {w : World} (hB : RelB C A β st a w) (n : Nat) : RelB C A β st a { w with drawn := n } := by
  have hK : Keeps w { w with drawn := n } A A := fun b hb => ⟨hb, rfl⟩
  refine ⟨hB.defers, hB.size, fun i => AVrel_mono hK _ _ (hB.tmps i), fun k ab h => ?_, hB.apart, hB.bound, ⟨hB.frame.os, hB.frame.tape, hB.frame.output, hB.frame.size, hB.frame.block⟩, hB.old, hB.base, hB.mine⟩
  have := BR_keep (w := w) (β' := β) (new := []) (w' := { w with drawn := n }) (fun _ _ => rfl) rfl (fun b hb => ⟨rfl, id⟩) hK (hB.blocks k ab h)
  rwa [show scrubBs [] ab = ab from rfl] at this

theorem exec_ops {ops : List Oper} (es : List Ev) : ∀ (s q : St), Exec E ops es s q → ∀ e ∈ es, ops[e.i]? = some e.o := by
  induction es with
  | nil => intro s q _ e he; cases he
  | cons e es ih =>
    intro s q hx f hf
    obtain ⟨s1, h1, h2⟩ := hx
    rcases List.mem_cons.1 hf with rfl | hf
    · exact h1.op
    · exact ih s1 q h2 f hf

/-- a region that draws its order -/
theorem region_draws (hE : EnvOk P E) (hm : P.follows .mixedOrders = true) {id : Nat} {ops : Array Oper} {st : St} {a : Act} {w : World} {cs : List Prop} {m : St} (h : runR E true ops.toList st = some (cs, m)) (hcs : ∀ p ∈ cs, p)
    (hR : Rel C st a w) {Q : Exit → Act → World → Prop} (hQ : ∀ a' w', Rel C m a' w' → Q .normal a' w') : (Code.region id ops true).wp P Q a w := by
  simp only [runR, cond_true] at h
  obtain ⟨es, sl, h1, h2, h3, h4⟩ := runO_exec ops.toList 0 [] _ cs m h hcs (fun k => by simp)
  obtain ⟨_, p1, p2, p3⟩ := allOk_pairs es [] (h3 rfl)
  obtain ⟨A, β, hB⟩ := hR
  have hlen : es.length = ops.size := by
    have := congrArg List.length h2
    simpa using this
  have hidx : ∀ i, (∃ e ∈ es, e.i = i) ↔ i < ops.size := by
    intro i
    have : (∃ e ∈ es, e.i = i) ↔ i ∈ es.map (·.i) := by simp
    rw [this, h2, List.mem_range'_1, Array.length_toList]
    omega
  refine wp_region_any hm (any_sound (C := C) hE ops.size _ es _ sl _ _ (by omega) h1 p1 (fun g hg => ?_) ?_ (fun i => ?_) p2 (fun e he => ?_) es (fun _ h => h) (fun e he => ?_) ?_ ?_ (by simp) ⟨A, β, (hB.ahead _).drew _⟩ (fun a' w' ⟨A, β, hB⟩ => hQ _ _ ⟨A, β, h4 _ _ _ _ _ hB⟩))
  · have hp : ∀ k, inNew g.eff.new k = true → inK st.kb ((dsts ops.toList).map .dst) k = true := by
      intro k hk
      have : ∃ x ∈ g.eff.new, x.1 = k := by
        clear hlen hidx p3 h3 p2
        have hg' := g.eff.new
        rw [inNew_hfind] at hk
        have : k ∈ g.eff.new.map (·.1) := by
          apply Classical.byContradiction
          intro hn
          rw [hfind_none_of _ k (hmem_false.2 hn)] at hk
          cases hk
        simpa using this
      obtain ⟨x, hx, rfl⟩ := this
      exact p3 g hg x hx
    have habs : ∀ k, (inK st.kb ((dsts ops.toList).map .dst) k || inNew g.eff.new k) = inK st.kb ((dsts ops.toList).map .dst) k := by
      intro k
      cases hk : inNew g.eff.new k with
      | false => rw [Bool.or_false]
      | true => rw [hp k hk]; rfl
    refine ⟨fun i => ?_, fun k => ?_⟩
    · simp only [St.ahead, scrubP_scrubP, habs]
    · simp only [St.ahead, scrubPO_scrubPO, habs]
  · rw [h2]
    exact List.pairwise_lt_range'
  · rw [hidx]
    constructor
    · intro h
      by_cases hi : i < ops.size
      · exact hi
      · rw [Array.getD_eq_getD_getElem?, Array.getElem?_eq_none (by simpa using hi)] at h
        cases h
    · intro hi
      rw [Array.getD_eq_getD_getElem?, Array.getElem?_replicate, if_pos hi]; rfl
  · have := exec_ops es _ _ h1 e he
    simpa using this
  · have := exec_ops es _ _ h1 e he
    simpa using this
  · intro f hf k hk
    obtain ⟨x, g1, g2, g3⟩ := allOk_pre es [] (h3 rfl) f hf k hk
    refine ⟨x, g1, g2, g3.imp (fun h => h) ?_⟩
    rintro ⟨g, hg, h⟩
    rcases hg with hg | hg
    · cases hg
    · exact ⟨g, hg, h⟩
  · intro g hg hlg
    have hgi : g.i < ops.size := (hidx g.i).1 ⟨g, hg, rfl⟩
    rw [Array.getD_eq_getD_getElem?, Array.getElem?_replicate, if_pos hgi] at hlg
    cases hlg

theorem region_sound (hE : EnvOk P E) (hm : P.follows .mixedOrders = true) {id : Nat} {ops : Array Oper} {d : Bool} {st : St} {a : Act} {w : World} {cs : List Prop} {m : St} (h : runR E d ops.toList st = some (cs, m)) (hcs : ∀ p ∈ cs, p)
    (hR : Rel C st a w) {Q : Exit → Act → World → Prop} (hQ : ∀ a' w', Rel C m a' w' → Q .normal a' w') : (Code.region id ops d).wp P Q a w := by
  cases d
  · exact region_text hE h hcs hR hQ
  · exact region_draws hE hm h hcs hR hQ
end
end Go.Vg
/-
  A VERIFIED VC GENERATOR, part Y: code: straight code, and the heads of loops.
-/
namespace Go.Vg
open Go

section
variable {P : Program} {C : Ctx} {E : Env} {A : Nat → Prop} {β : Nat → Value} {st : St} {a : Act} {w : World}

/-! ### straight code -/
theorem From.clear {W : List Nat} {s m : St} (h : From W s.clear m) : From W s.clear m := h

theorem RelB.clear (hB : RelB C A β st a w) : RelB C A β st.clear a w := hB.seq ⟨rfl, rfl, rfl, rfl⟩

theorem ev_tt (hB : RelB C A β st a w) {c : Operand} (h : ev st.t c = .tt) : a.eval c = .bool true := by
  have := ev_rel hB c; rw [h] at this; simpa only [AVrel] using this
theorem ev_ff (hB : RelB C A β st a w) {c : Operand} (h : ev st.t c = .ff) : a.eval c = .bool false := by
  have := ev_rel hB c; rw [h] at this; simpa only [AVrel] using this
theorem ev_bool (hB : RelB C A β st a w) {c : Operand} {b : Bool} (h : ev st.t c = .bool b) : a.eval c = .bool b := by
  have := ev_rel hB c; rw [h] at this; simpa only [AVrel] using this

theorem hmem_left {W W' : List Nat} : ∀ i, hmem (W ++ W') i = false → hmem W i = false := by
  intro i h; rw [hmem_append, Bool.or_eq_false_iff] at h; exact h.1
theorem hmem_right {W W' : List Nat} : ∀ i, hmem (W ++ W') i = false → hmem W' i = false := by
  intro i h; rw [hmem_append, Bool.or_eq_false_iff] at h; exact h.2

theorem runC_from : ∀ (c : Code) (st : St) (cs : List Prop) (m : St), runC E c st = some (cs, m) → From (wrC c) st m
  | .skip, st, cs, m, h => by
    simp only [runC, Option.some.injEq, Prod.mk.injEq] at h
    rw [← h.2]; exact From.refl _ _
  | .region id ops d, st, cs, m, h => by
    simp only [runC] at h
    exact runR_from h
  | .seq x y, st, cs, m, h => by
    simp only [runC] at h
    split at h
    · rename_i c st' hx
      obtain ⟨c', hy, _⟩ := andThenC_inv h
      exact (runC_from x _ _ _ hx).trans (runC_from y _ _ _ hy)
    · cases h
  | .cond c x y, st, cs, m, h => by
    simp only [runC] at h
    split at h
    · exact (runC_from x _ _ _ h).mono hmem_left
    · exact (runC_from y _ _ _ h).mono hmem_right
    · obtain ⟨c1, s1, c2, s2, r1, r2, hm, rfl⟩ := both_inv h
      exact From.merge hm
    · cases h
  | .block id b, st, cs, m, h => by
    simp only [runC] at h
    exact runC_from b _ _ _ h
  | .loop _, st, cs, m, h => by simp [runC] at h
  | .rangeFunc _ _ _ _, st, cs, m, h => by simp [runC] at h
  | .exit _, st, cs, m, h => by simp [runC] at h
  | .scope _, st, cs, m, h => by simp [runC] at h
  | .label _, st, cs, m, h => by simp [runC] at h
  | .goto _, st, cs, m, h => by simp [runC] at h
  | .ret, st, cs, m, h => by simp [runC] at h
  | .refuse _, st, cs, m, h => by simp [runC] at h

theorem runC_sound (hE : EnvOk P E) (hm : P.follows .mixedOrders = true) : ∀ (c : Code) (st : St) (cs : List Prop) (m : St) (a : Act) (w : World) (Q : Exit → Act → World → Prop), runC E c st = some (cs, m) → (∀ p ∈ cs, p) → Rel C st a w →
    (∀ a' w', Rel C m a' w' → Q .normal a' w') → c.wp P Q a w
  | .skip, st, cs, m, a, w, Q, h, hcs, hR, hQ => by
    simp only [runC, Option.some.injEq, Prod.mk.injEq] at h
    exact wp_skip (hQ _ _ (by rw [← h.2]; exact hR))
  | .region id ops d, st, cs, m, a, w, Q, h, hcs, hR, hQ => by
    simp only [runC] at h
    exact region_sound hE hm h hcs hR hQ
  | .seq x y, st, cs, m, a, w, Q, h, hcs, hR, hQ => by
    simp only [runC] at h
    split at h
    · rename_i c st' hx
      obtain ⟨c', hy, rfl⟩ := andThenC_inv h
      exact wp_seq (runC_sound hE hm x st _ _ a w _ hx (fun p hp => hcs p (List.mem_append_left _ hp)) hR fun a' w' hR' =>
        runC_sound hE hm y st' _ _ a' w' Q hy (fun p hp => hcs p (List.mem_append_right _ hp)) hR' hQ)
    · cases h
  | .cond c x y, st, cs, m, a, w, Q, h, hcs, hR, hQ => by
    obtain ⟨A, β, hB⟩ := hR
    simp only [runC] at h
    split at h
    · rename_i hv
      exact wp_cond_true (ev_tt hB hv) (runC_sound hE hm x st _ _ a w Q h hcs ⟨A, β, hB⟩ hQ)
    · rename_i hv
      exact wp_cond_false (ev_ff hB hv) (runC_sound hE hm y st _ _ a w Q h hcs ⟨A, β, hB⟩ hQ)
    · rename_i b hv
      obtain ⟨c1, s1, c2, s2, r1, r2, hmg, rfl⟩ := both_inv h
      have hc := mergeC_all hcs
      have f1 := (runC_from x _ _ _ r1).mono (W' := wrC x ++ wrC y) hmem_left
      have f2 := (runC_from y _ _ _ r2).mono (W' := wrC x ++ wrC y) hmem_right
      refine wp_cond_split (ev_bool hB hv) (fun hb => ?_) (fun hb => ?_)
      · subst hb
        exact runC_sound hE hm x st.clear _ _ a w Q r1 (hc.1 rfl) ⟨A, β, hB.clear⟩ fun a' w' ⟨A', β', hB'⟩ =>
          hQ _ _ ⟨A', β', hB'.merge (b := true) hmg f1 (fun _ _ => rfl) rfl rfl rfl f2 (fun _ _ => rfl) rfl rfl rfl⟩
      · subst hb
        exact runC_sound hE hm y st.clear _ _ a w Q r2 (hc.2 rfl) ⟨A, β, hB.clear⟩ fun a' w' ⟨A', β', hB'⟩ =>
          hQ _ _ ⟨A', β', hB'.merge (b := false) hmg f1 (fun _ _ => rfl) rfl rfl rfl f2 (fun _ _ => rfl) rfl rfl rfl⟩
    · cases h
  | .block id b, st, cs, m, a, w, Q, h, hcs, hR, hQ => by
    simp only [runC] at h
    exact wp_block (runC_sound hE hm b st _ _ a w _ h hcs hR hQ)
  | .loop _, st, cs, m, a, w, Q, h, _, _, _ => by simp [runC] at h
  | .rangeFunc _ _ _ _, st, cs, m, a, w, Q, h, _, _, _ => by simp [runC] at h
  | .exit _, st, cs, m, a, w, Q, h, _, _, _ => by simp [runC] at h
  | .scope _, st, cs, m, a, w, Q, h, _, _, _ => by simp [runC] at h
  | .label _, st, cs, m, a, w, Q, h, _, _, _ => by simp [runC] at h
  | .goto _, st, cs, m, a, w, Q, h, _, _, _ => by simp [runC] at h
  | .ret, st, cs, m, a, w, Q, h, _, _, _ => by simp [runC] at h
  | .refuse _, st, cs, m, a, w, Q, h, _, _, _ => by simp [runC] at h

/-! ### what code leaves as it was, loosely -/
structure FromL (W : List Nat) (base s : St) : Prop where
  keep : ∃ p, (∀ k, p k = true → inK base.kb s.news k = true) ∧ (∀ i, hmem W i = false → s.t i = scrubP p (base.t i)) ∧
    ∀ k, hmem s.dirty k = false → inK base.kb s.news k = false → s.h k = scrubPO p (base.h k)
  n : s.n = base.n
  kb : s.kb = base.kb
  dirty : ∀ k, hmem base.dirty k = true → hmem s.dirty k = true
  news : ∀ k, inK base.kb base.news k = true → inK base.kb s.news k = true

theorem From.loose {W : List Nat} {s m : St} (h : From W s m) : FromL W s m := by
  obtain ⟨p, h1, h2, h3⟩ := h.keep
  exact ⟨⟨p, h1, h2, fun k hk _ => h3 k hk⟩, h.n, h.kb, h.dirty, h.news⟩
theorem FromL.refl (W : List Nat) (s : St) : FromL W s s := (From.refl W s).loose
theorem FromL.mono {W W' : List Nat} {s0 s1 : St} (h : FromL W s0 s1) (hw : ∀ i, hmem W' i = false → hmem W i = false) : FromL W' s0 s1 := by
  obtain ⟨p, a1, a2, a3⟩ := h.keep
  exact ⟨⟨p, a1, fun i hi => a2 i (hw i hi), a3⟩, h.n, h.kb, h.dirty, h.news⟩
theorem FromL.trans {W W' : List Nat} {s0 s1 s2 : St} (h1 : FromL W s0 s1) (h2 : FromL W' s1 s2) : FromL (W ++ W') s0 s2 := by
  obtain ⟨p, a1, a2, a3⟩ := h1.keep
  obtain ⟨q, b1, b2, b3⟩ := h2.keep
  have hnews : ∀ k, inK s0.kb s1.news k = true → inK s0.kb s2.news k = true := by
    intro k h
    have := h2.news k (by rw [h1.kb]; exact h)
    rwa [h1.kb] at this
  refine ⟨⟨fun k => p k || q k, fun k hk => ?_, fun i hi => ?_, fun k hk hn => ?_⟩, h2.n.trans h1.n, h2.kb.trans h1.kb, fun k h => h2.dirty k (h1.dirty k h), fun k h => hnews k (h1.news k h)⟩
  · rcases Bool.or_eq_true _ _ |>.mp hk with h | h
    · exact hnews k (a1 k h)
    · have := b1 k h
      rwa [h1.kb] at this
  · rw [hmem_append, Bool.or_eq_false_iff] at hi
    rw [b2 i hi.2, a2 i hi.1, scrubP_scrubP]
  · have hk1 : hmem s1.dirty k = false := by
      cases h : hmem s1.dirty k with
      | false => rfl
      | true => rw [h2.dirty k h] at hk; cases hk
    have hn1 : inK s0.kb s1.news k = false := by
      cases h : inK s0.kb s1.news k with
      | false => rfl
      | true => rw [hnews k h] at hn; cases hn
    rw [b3 k hk (by rw [h1.kb]; exact hn), a3 k hk1 hn1, scrubPO_scrubPO]

/-! ### matches -/
def nilV : Value := .slice none 0 0
/-- the keys of the head, by what they are here -/
def headβ (bad : Nat → Bool) (s : List (Nat × Option Nat)) (β : Nat → Value) (k : Nat) : Value := bif bad k then (match lookK s k with
  | some (some j) => β j
  | some none => nilV
  | none => β k) else β k

theorem castL_inv {r r' : List Ty} {l : List (Row r)} {m : List (Row r')} (h : castL r r' l = some m) : ∃ e : r = r', m = e ▸ l := by
  unfold castL at h
  split at h
  · rename_i hr
    simp only [Option.some.injEq] at h
    exact ⟨Ty.eq_of_beqL r r' hr, h.symm⟩
  · cases h

theorem conj_append : ∀ {a b : List Prop}, (∀ p ∈ a ++ b, p) → (∀ p ∈ a, p) ∧ ∀ p ∈ b, p := by
  intro a b h
  exact ⟨fun p hp => h p (List.mem_append_left _ hp), fun p hp => h p (List.mem_append_right _ hp)⟩
theorem one_mem {p : Prop} (h : ∀ q ∈ [p], q) : p := h p (by simp)

variable {bad : Nat → Bool} {s : List (Nat × Option Nat)}

/-- what the keys stand for when a match holds -/
structure Keyed (bad : Nat → Bool) (s : List (Nat × Option Nat)) (β β' : Nat → Value) : Prop where
  src : ∀ K k, lookK s K = some (some k) → β' K = β k
  nil : ∀ K, lookK s K = some none → β' K = nilV
  same : ∀ K, lookK s K = none → bad K = false → β' K = β K
  good : ∀ K, bad K = false → β' K = β K

mutual
theorem avm_sound {β' : Nat → Value} (hK : Keyed bad s β β') : ∀ (x y : AV) (v : Value), (∀ p ∈ avm s bad x y, p) → AVrel w A β v x → AVrel w A β' v y
  | x, y, v, h, hr => by
    unfold avm at h
    split at h
    · simp [AVrel]
    · simpa only [AVrel] using hr
    · rename_i k n k' m
      split at h
      · rename_i hk
        subst hk
        have := one_mem h
        subst this
        simpa only [AVrel] using hr
      · exact (one_mem h).elim
    · simpa only [AVrel] using hr
    · simpa only [AVrel] using hr
    · have := one_mem h
      subst this
      simpa only [AVrel] using hr
    · have := one_mem h
      subst this
      simpa only [AVrel] using hr
    · have := one_mem h
      subst this
      simpa only [AVrel] using hr
    · have := one_mem h
      subst this
      simpa only [AVrel] using hr
    · simpa only [AVrel] using hr
    · simpa only [AVrel] using hr
    · simpa only [AVrel] using hr
    · rename_i r l
      have := one_mem h
      subst this
      simp only [AVrel] at hr ⊢
      subst hr
      simp only [Rd]
      exact ⟨none, 0, [], rfl, by simp, by simp [maxLen], by simp [RdL], by simp⟩
    · rename_i r l r' l'
      split at h
      · rename_i m hm
        obtain ⟨e, he⟩ := castL_inv hm
        subst e
        have := one_mem h
        subst he
        subst this
        simpa only [AVrel] using hr
      · exact (one_mem h).elim
    · rename_i r l r' l'
      split at h
      · rename_i m hm
        obtain ⟨e, he⟩ := castL_inv hm
        subst e
        have := one_mem h
        subst he
        subst this
        simp only [AVrel] at hr ⊢
        exact hr.1
      · exact (one_mem h).elim
    · rename_i k K
      simp only [AVrel] at hr ⊢
      split at h
      · rename_i j hj
        cases hb : Nat.beq k j with
        | false => rw [hb] at h; exact (one_mem h).elim
        | true =>
          have := Nat.eq_of_beq_eq_true hb
          subst this
          rw [hK.src K k hj]; exact hr
      · exact (one_mem h).elim
      · rename_i hj
        cases hb : (Nat.beq k K && !bad K) with
        | false => rw [hb] at h; exact (one_mem h).elim
        | true =>
          simp only [Bool.and_eq_true, Bool.not_eq_true'] at hb
          have := Nat.eq_of_beq_eq_true hb.1
          subst this
          rw [hK.same k hj hb.2]; exact hr
    · rename_i K
      simp only [AVrel] at hr ⊢
      split at h
      · rename_i hj
        rw [hK.nil K hj]
        subst hr
        exact ⟨rfl, rfl⟩
      · exact (one_mem h).elim
    · rename_i k o k' o'
      simp only [AVrel] at hr ⊢
      cases hb : (Nat.beq k k' && !bad k') with
      | false => rw [hb] at h; exact (one_mem h).elim
      | true =>
        rw [hb] at h
        simp only [Bool.and_eq_true, Bool.not_eq_true'] at hb
        have := Nat.eq_of_beq_eq_true hb.1
        subst this
        have := one_mem h
        subst this
        rw [hK.good k hb.2]; exact hr
    · rename_i xs ys
      simp only [AVrel] at hr ⊢
      obtain ⟨arr, h1, h2⟩ := hr
      exact ⟨arr, h1, avms_sound hK xs ys _ h h2⟩
    · rename_i xs ys
      simp only [AVrel] at hr ⊢
      obtain ⟨arr, h1, h2⟩ := hr
      exact ⟨arr, h1, avms_sound hK xs ys _ h h2⟩
    · rename_i f xs us f' ys vs
      split at h
      · rename_i hf
        subst hf
        simp only [AVrel] at hr ⊢
        obtain ⟨a1, a2, h1, h2, h3⟩ := hr
        obtain ⟨g1, g2⟩ := conj_append h
        exact ⟨a1, a2, h1, avms_sound hK xs ys _ g1 h2, avms_sound hK us vs _ g2 h3⟩
      · exact (one_mem h).elim
    · exact (one_mem h).elim
theorem avms_sound {β' : Nat → Value} (hK : Keyed bad s β β') : ∀ (xs ys : List AV) (vs : List Value), (∀ p ∈ avms s bad xs ys, p) → AVrels w A β vs xs → AVrels w A β' vs ys
  | [], [], vs, _, hr => by simpa only [AVrels] using hr
  | x :: xs, y :: ys, vs, h, hr => by
    simp only [avms] at h
    obtain ⟨g1, g2⟩ := conj_append h
    simp only [AVrels] at hr ⊢
    obtain ⟨v, vs', h1, h2, h3⟩ := hr
    exact ⟨v, vs', h1, avm_sound hK x y v g1 h2, avms_sound hK xs ys vs' g2 h3⟩
  | [], _ :: _, vs, h, _ => by simp only [avms] at h; exact (one_mem h).elim
  | _ :: _, [], vs, h, _ => by simp only [avms] at h; exact (one_mem h).elim
end

theorem keyIs_sound {β' : Nat → Value} (hK : Keyed bad s β β') {k K : Nat} (h : keyIs s bad k K = true) : β' K = β k := by
  unfold keyIs at h
  split at h
  · rename_i j hj
    rw [hK.src K j hj, Nat.eq_of_beq_eq_true h]
  · cases h
  · rename_i hj
    simp only [Bool.and_eq_true, Bool.not_eq_true'] at h
    have := Nat.eq_of_beq_eq_true h.1
    subst this
    exact hK.good k h.2

theorem abm_sound {β' : Nat → Value} (hK : Keyed bad s β β') {k K : Nat} {c b : AB} (hk : β' K = β k) (h : ∀ p ∈ abm s bad (some c) b, p) (hr : BR w A β k c) : BR w A β' K b := by
  unfold abm at h
  split at h
  · rename_i xs ys heq
    simp only [Option.some.injEq] at heq
    subst heq
    obtain ⟨g, arr, e, h1, h2, h3, h4, h5⟩ := hr
    exact ⟨g, arr, e, hk.trans h1, h2, h3, avms_sound hK xs ys _ h h4, h5⟩
  · rename_i e r l fr e' r' l' fr' heq
    simp only [Option.some.injEq] at heq
    subst heq
    split at h
    · rename_i m hm
      obtain ⟨er, he⟩ := castL_inv hm
      subst er
      subst he
      cases hb : (Nat.beq e e' && (fr == fr')) with
      | false => rw [hb] at h; exact (one_mem h).elim
      | true =>
        rw [hb] at h
        simp only [Bool.and_eq_true, beq_iff_eq] at hb
        have he := Nat.eq_of_beq_eq_true hb.1
        have hf := hb.2
        subst he; subst hf
        have := one_mem h
        subst this
        obtain ⟨xs, h1, h2, h3⟩ := hr
        simp only [BR, hk]
        exact ⟨xs, h1, h2, h3⟩
    · exact (one_mem h).elim
  · rename_i e r l e' jj n m sz heq
    simp only [Option.some.injEq] at heq
    subst heq
    cases hb : (Nat.beq e e' && Nat.beq r.length 1) with
    | false => rw [hb] at h; exact (one_mem h).elim
    | true =>
      rw [hb] at h
      simp only [Bool.and_eq_true] at hb
      have he := Nat.eq_of_beq_eq_true hb.1
      have hr1 := Nat.eq_of_beq_eq_true hb.2
      subst he
      have hn : l.length = n := h _ (List.mem_cons_self ..)
      have hm : m = 0 := h _ (List.mem_cons_of_mem _ (List.mem_cons_self ..))
      subst hn; subst hm
      obtain ⟨xs, h1, h2, h3⟩ := hr
      simp only [BR, hk]
      rw [hr1] at h1
      exact ⟨xs, h1, fun b hb => by simpa using h3 b hb, fun j' _ i hi => absurd hi (Nat.not_lt_zero _)⟩
  · rename_i e j n m sz e' j' n' m' sz' heq
    simp only [Option.some.injEq] at heq
    subst heq
    cases hb : (Nat.beq e e' && keyIs s bad j j') with
    | false => rw [hb] at h; exact (one_mem h).elim
    | true =>
      rw [hb] at h
      simp only [Bool.and_eq_true] at hb
      have he := Nat.eq_of_beq_eq_true hb.1
      have hj := keyIs_sound hK hb.2
      subst he
      have hn : n = n' := h _ (List.mem_cons_self ..)
      have hm : m = m' := h _ (List.mem_cons_of_mem _ (List.mem_cons_self ..))
      have hs : sz = sz' := h _ (List.mem_cons_of_mem _ (List.mem_cons_of_mem _ (List.mem_cons_self ..)))
      subst hn; subst hm; subst hs
      obtain ⟨xs, h1, h2, h3⟩ := hr
      simp only [BR, hk]
      refine ⟨xs, h1, h2, fun q hq i hi => ?_⟩
      simp only [Option.some.injEq] at hq
      subst hq
      obtain ⟨v, e1, e2⟩ := h3 j rfl i hi
      refine ⟨v, e1, ?_⟩
      simp only [AVrel] at e2 ⊢
      rw [hj]; exact e2
  · exact (one_mem h).elim
end
end Go.Vg
/-
  A VERIFIED VC GENERATOR, part Z: loops, and code whole.
-/
namespace Go.Vg
open Go

section
variable {P : Program} {C : Ctx} {E : Env} {A : Nat → Prop} {β β' : Nat → Value} {st : St} {a : Act} {w : World}

theorem BR_scrubPβ (p : Nat → Bool) (hβ : ∀ k, p k = false → β' k = β k) {k : Nat} (hk : β' k = β k) {ab : AB} (h : BR w A β k ab) : BR w A β' k (scrubPB p ab) := by
  cases ab with
  | cells cs =>
    obtain ⟨b, arr, e, h1, h2, h3, h4, h5⟩ := h
    exact ⟨b, arr, e, hk.trans h1, h2, h3, AVrels_scrubP p hβ _ _ h4, h5⟩
  | row e row l fr =>
    obtain ⟨xs, h1, h2, h3⟩ := h
    simp only [scrubPB, BR, hk]
    exact ⟨xs, h1, h2, h3⟩
  | views e j n m sz =>
    obtain ⟨xs, h1, h2, h3⟩ := h
    simp only [scrubPB, BR, hk]
    refine ⟨xs, h1, h2, fun j' hj' i hi => ?_⟩
    cases j with
    | none => simp [scrubPJ] at hj'
    | some j0 =>
      simp only [scrubPJ] at hj'
      cases hp : p j0 with
      | true => rw [hp] at hj'; simp at hj'
      | false =>
        rw [hp] at hj'
        simp only [cond_false, Option.some.injEq] at hj'
        subst hj'
        obtain ⟨v, e1, e2⟩ := h3 j0 rfl i hi
        exact ⟨v, e1, view_β (hβ j0 hp) e2⟩

theorem sources_spec : ∀ (ren : List (Loc × Nat)) (s : List (Nat × Option Nat)), sources st ren = some s → ∀ K r, lookK s K = some r → ∃ l, (l, K) ∈ ren
  | [], s, h, K, r, hl => by
    simp only [sources, Option.some.injEq] at h
    subst h; cases hl
  | (l, K0) :: ren, s, h, K, r, hl => by
    simp only [sources] at h
    split at h
    · rename_i k s' hl' hs'
      simp only [Option.some.injEq] at h
      subst h
      simp only [lookK] at hl
      cases hb : Nat.beq K K0 with
      | true => exact ⟨l, by rw [Nat.eq_of_beq_eq_true hb]; exact List.mem_cons_self ..⟩
      | false =>
        rw [hb] at hl
        obtain ⟨l', h'⟩ := sources_spec ren s' hs' K r hl
        exact ⟨l', List.mem_cons_of_mem _ h'⟩
    · rename_i s' hl' hs'
      simp only [Option.some.injEq] at h
      subst h
      simp only [lookK] at hl
      cases hb : Nat.beq K K0 with
      | true => exact ⟨l, by rw [Nat.eq_of_beq_eq_true hb]; exact List.mem_cons_self ..⟩
      | false =>
        rw [hb] at hl
        obtain ⟨l', h'⟩ := sources_spec ren s' hs' K r hl
        exact ⟨l', List.mem_cons_of_mem _ h'⟩
    · cases h

theorem inK_ren (kb : Nat) : ∀ (ren : List (Loc × Nat)) (l : Loc) (K : Nat), (l, K) ∈ ren → inK kb (ren.map fun x => KS.one x.2) K = true
  | (l0, K0) :: ren, l, K, h => by
    simp only [List.map_cons, inK, KS.has, Bool.or_eq_true]
    rcases List.mem_cons.1 h with h | h
    · simp only [Prod.mk.injEq] at h
      rw [h.2]; exact .inl (nbeq_true _)
    · exact .inr (inK_ren kb ren l K h)

theorem slotsM_mem {τ : Type} {s : List (Nat × Option Nat)} {bad : Nat → Bool} {x : τ} : ∀ (l : List (Nat × (τ → AV))) (i : Nat) (f : τ → AV), lookS l i = some f → ∀ p ∈ avm s bad (st.t i) (f x), p ∈ slotsM s bad st x l
  | (j, g) :: r, i, f, h, p, hp => by
    simp only [lookS] at h
    simp only [slotsM, List.mem_append]
    cases hb : Nat.beq i j with
    | true =>
      rw [hb] at h
      simp only [cond_true, Option.some.injEq] at h
      have := Nat.eq_of_beq_eq_true hb
      subst this; subst h
      exact .inl hp
    | false =>
      rw [hb] at h
      exact .inr (slotsM_mem r i f h p hp)

def keyC {τ : Type} (s : List (Nat × Option Nat)) (bad : Nat → Bool) (st : St) (x : τ) (K : Nat) (f : τ → AB) : List Prop := match lookK s K with
  | some (some k) => abm s bad (st.h k) (f x)
  | some none => match f x with
    | .row _ _ l false => [[] = l]
    | _ => [False]
  | none => bif bad K then [False] else abm s bad (st.h K) (f x)
theorem keysM_mem {τ : Type} {s : List (Nat × Option Nat)} {bad : Nat → Bool} {x : τ} : ∀ (l : List (Nat × (τ → AB))) (i : Nat) (f : τ → AB), lookS l i = some f → ∀ p ∈ keyC s bad st x i f, p ∈ keysM s bad st x l
  | (j, g) :: r, i, f, h, p, hp => by
    simp only [lookS] at h
    simp only [keysM, List.mem_append]
    cases hb : Nat.beq i j with
    | true =>
      rw [hb] at h
      simp only [cond_true, Option.some.injEq] at h
      have := Nat.eq_of_beq_eq_true hb
      subst this; subst h
      exact .inl hp
    | false =>
      rw [hb] at h
      exact .inr (keysM_mem r i f h p hp)

theorem srcKeys_mem : ∀ (s : List (Nat × Option Nat)) (K k : Nat), lookK s K = some (some k) → k ∈ srcKeys s
  | (j, r) :: s, K, k, h => by
    simp only [lookK] at h
    cases hb : Nat.beq K j with
    | true =>
      rw [hb] at h
      simp only [cond_true, Option.some.injEq] at h
      subst h
      simp [srcKeys]
    | false =>
      rw [hb] at h
      have := srcKeys_mem s K k h
      cases r <;> simp [srcKeys, this]

theorem lookK_inj : ∀ (s : List (Nat × Option Nat)), nodupB (srcKeys s) = true → ∀ K K' k, lookK s K = some (some k) → lookK s K' = some (some k) → K = K'
  | (j, r) :: s, hn, K, K', k, h, h' => by
    have hn' : nodupB (srcKeys s) = true := by
      cases r with
      | none => exact hn
      | some j' => simp only [srcKeys, nodupB, Bool.and_eq_true] at hn; exact hn.2
    simp only [lookK] at h h'
    cases hb : Nat.beq K j with
    | true =>
      cases hb' : Nat.beq K' j with
      | true => rw [Nat.eq_of_beq_eq_true hb, Nat.eq_of_beq_eq_true hb']
      | false =>
        rw [hb] at h; rw [hb'] at h'
        simp only [cond_true, Option.some.injEq] at h
        subst h
        have := srcKeys_mem s K' k h'
        simp only [srcKeys, nodupB, Bool.and_eq_true, Bool.not_eq_true'] at hn
        exact absurd this (hmem_false.1 hn.1)
    | false =>
      cases hb' : Nat.beq K' j with
      | true =>
        rw [hb] at h; rw [hb'] at h'
        simp only [cond_true, Option.some.injEq] at h'
        subst h'
        have := srcKeys_mem s K k h
        simp only [srcKeys, nodupB, Bool.and_eq_true, Bool.not_eq_true'] at hn
        exact absurd this (hmem_false.1 hn.1)
      | false =>
        rw [hb] at h; rw [hb'] at h'
        exact lookK_inj s hn' K K' k h h'

theorem abm_live {s : List (Nat × Option Nat)} {bad : Nat → Bool} {o : Option AB} {b : AB} (h : ∀ p ∈ abm s bad o b, p) : ∃ c, o = some c := by
  cases o with
  | some c => exact ⟨c, rfl⟩
  | none => unfold abm at h; exact (one_mem h).elim

theorem BR_nil {β : Nat → Value} {k e : Nat} {row : List Ty} {l : List (Row row)} (hk : β k = nilV) (hl : [] = l) : BR w A β k (.row e row l false) := by
  subst hl
  refine ⟨[], ⟨by simp, .inl ⟨hk, rfl⟩⟩, by simp [RdL], fun b hb => ?_⟩
  rw [hk] at hb; simp [nilV, blkOf] at hb

/-- **the head of a loop**: what was known says what is asked there -/
theorem head_rel {L : LoopAnn} {W : List Nat} {base : St} {s : List (Nat × Option Nat)} {x : L.τ} (hsrc : sources st L.ren = some s) (hok : headOk L W base st s = true) (hm : ∀ p ∈ matches_ L W base st s x, p) (hB : RelB C A β st a w)
    (hT : ∀ i, hmem W i = false → ∃ p, (∀ k, p k = true → inK base.kb (headKS L W) k = true) ∧ st.t i = scrubP p (base.t i))
    (hH : ∀ k, hmem st.dirty k = false → inK base.kb (headKS L W) k = false → lookS L.keys k = none → ∃ p, (∀ k, p k = true → inK base.kb (headKS L W) k = true) ∧ st.h k = scrubPO p (base.h k))
    (hn : st.n = base.n) : RelB C A (headβ (inK base.kb (headKS L W)) s β) (headSt L W base x) a w := by
  generalize hbad : inK base.kb (headKS L W) = bad at *
  simp only [headOk, hbad, Bool.and_eq_true] at hok
  obtain ⟨⟨⟨⟨⟨⟨o1, o2⟩, o3⟩, o4⟩, o5⟩, o6⟩, o7⟩ := hok
  rw [List.all_eq_true] at o3 o4 o5 o6 o7
  have hren : ∀ K r, lookK s K = some r → bad K = true := by
    intro K r h
    obtain ⟨l, hl⟩ := sources_spec _ _ hsrc K r h
    rw [← hbad]
    simp only [headKS, inK_append, inK_ren base.kb _ l K hl, Bool.or_true]
  have hgood : ∀ K, bad K = false → headβ bad s β K = β K := by
    intro K h; simp only [headβ, h, cond_false]
  have hKd : Keyed bad s β (headβ bad s β) := by
    refine ⟨fun K k h => ?_, fun K h => ?_, fun K _ h => hgood K h, hgood⟩
    · simp only [headβ, hren K _ h, cond_true, h]
    · simp only [headβ, hren K _ h, cond_true, h]
  have hm1 : ∀ i f, lookS L.slots i = some f → ∀ p ∈ avm s bad (st.t i) (f x), p := by
    intro i f hf p hp
    refine hm p ?_
    simp only [matches_, hbad, List.mem_append]
    exact .inl (slotsM_mem _ i f hf p hp)
  have hm2 : ∀ K f, lookS L.keys K = some f → ∀ p ∈ keyC s bad st x K f, p := by
    intro K f hf p hp
    refine hm p ?_
    simp only [matches_, hbad, List.mem_append]
    exact .inr (keysM_mem _ K f hf p hp)
  -- what a key of the head is here
  have hlive : ∀ K ab, (headSt L W base x).h K = some ab → BR w A (headβ bad s β) K ab ∧ (headβ bad s β K = nilV ∨ ∃ j, headβ bad s β K = β j ∧ (st.h j).isSome ∧ ((bad K = false ∧ j = K) ∨ (bad K = true ∧ lookK s K = some (some j)))) := by
    intro K ab h
    simp only [headSt, hbad] at h
    cases hf : lookS L.keys K with
    | some f =>
      rw [hf] at h
      simp only [Option.some.injEq] at h
      subst h
      have hc := hm2 K f hf
      unfold keyC at hc
      split at hc
      · rename_i k hk
        obtain ⟨c, hc'⟩ := abm_live hc
        rw [hc'] at hc
        exact ⟨abm_sound hKd (hKd.src K k hk) hc (hB.blocks k c hc'), .inr ⟨k, hKd.src K k hk, by simp [hc'], .inr ⟨hren K _ hk, hk⟩⟩⟩
      · rename_i hk
        refine ⟨?_, .inl (hKd.nil K hk)⟩
        split at hc
        · rename_i e row l hfx
          rw [hfx]
          exact BR_nil (hKd.nil K hk) (one_mem hc)
        · exact (one_mem hc).elim
      · rename_i hk
        cases hb : bad K with
        | true => rw [hb] at hc; exact (one_mem hc).elim
        | false =>
          rw [hb] at hc
          simp only [cond_false] at hc
          obtain ⟨c, hc'⟩ := abm_live hc
          rw [hc'] at hc
          exact ⟨abm_sound hKd (hgood K hb) hc (hB.blocks K c hc'), .inr ⟨K, hgood K hb, by simp [hc'], .inl ⟨rfl, rfl⟩⟩⟩
    | none =>
      rw [hf] at h
      cases hb : bad K with
      | true => rw [hb] at h; cases h
      | false =>
        rw [hb] at h
        simp only [cond_false] at h
        have hd : hmem st.dirty K = false := by
          cases hq : hmem st.dirty K with
          | false => rfl
          | true =>
            have := o7 K ((hmem_iff _ _).1 hq)
            rw [hf, hb] at this
            cases this
        obtain ⟨p, p1, p2⟩ := hH K hd hb hf
        cases hb0 : base.h K with
        | none => rw [hb0] at h; cases h
        | some b0 =>
          rw [hb0] at h p2
          simp only [scrubPO, Option.some.injEq] at h p2
          subst h
          have hbr := BR_scrubPβ (β' := headβ bad s β) bad hgood (hgood K hb) (hB.blocks K _ p2)
          rw [scrubPB_scrubPB] at hbr
          have hpq : (fun k => p k || bad k) = bad := by
            funext k
            cases hp : p k with
            | false => rfl
            | true => rw [p1 k hp]; rfl
          rw [hpq] at hbr
          exact ⟨hbr, .inr ⟨K, hgood K hb, by simp [p2], .inl ⟨rfl, rfl⟩⟩⟩
  have hlv : ∀ K, ((headSt L W base x).h K).isSome → ∀ b, blkOf (headβ bad s β K) = some b → ∃ j, headβ bad s β K = β j ∧ (st.h j).isSome ∧ ((bad K = false ∧ j = K) ∨ (bad K = true ∧ lookK s K = some (some j))) := by
    intro K hK b hb
    obtain ⟨ab, hab⟩ := Option.isSome_iff_exists.1 hK
    rcases (hlive K ab hab).2 with h | h
    · rw [h] at hb; simp [nilV, blkOf] at hb
    · exact h
  have hsb : ∀ K j, lookK s K = some (some j) → bad j = true := fun K j h => o6 j (srcKeys_mem s K j h)
  refine ⟨hB.defers, hB.size.trans hn, fun i => ?_, fun K ab h => (hlive K ab h).1, fun K K' b h1 h2 g1 g2 => ?_, hB.bound, hB.frame, hB.old, hB.base, fun K b h1 g1 => ?_⟩
  · have hi := hB.tmps i
    show AVrel w A _ _ (match lookS L.slots i with
      | some f => f x
      | none => bif hmem W i then .junk else scrubP (inK base.kb (headKS L W)) (base.t i))
    rw [hbad]
    cases hf : lookS L.slots i with
    | some f => exact avm_sound hKd _ _ _ (hm1 i f hf) hi
    | none =>
      simp only
      cases hW : hmem W i with
      | true => simp [AVrel]
      | false =>
        obtain ⟨p, p1, p2⟩ := hT i hW
        rw [p2] at hi
        have := AVrel_scrubP (β' := headβ bad s β) bad hgood _ _ hi
        rw [scrubP_scrubP] at this
        have hpq : (fun k => p k || bad k) = bad := by
          funext k
          cases hp : p k with
          | false => rfl
          | true => rw [p1 k hp]; rfl
        rwa [hpq] at this
  · obtain ⟨j, e1, l1, c1⟩ := hlv K h1 b g1
    obtain ⟨j', e2, l2, c2⟩ := hlv K' h2 b g2
    rw [e1] at g1; rw [e2] at g2
    have hj : j = j' := hB.apart j j' b l1 l2 g1 g2
    subst hj
    rcases c1 with ⟨b1, rfl⟩ | ⟨b1, k1⟩ <;> rcases c2 with ⟨b2, h⟩ | ⟨b2, k2⟩
    · exact h
    · rw [hsb K' _ k2] at b1; cases b1
    · subst h; rw [hsb K _ k1] at b2; cases b2
    · exact lookK_inj s o2 K K' j k1 k2
  · obtain ⟨j, e1, l1, c1⟩ := hlv K h1 b g1
    rw [e1] at g1
    exact hB.mine j b l1 g1

theorem toHead_sound {L : LoopAnn} {W : List Nat} {base : St} {Pp : L.τ → Prop} (h : toHead L W base st Pp) (hR : Rel C st a w)
    (hT : ∀ i, hmem W i = false → ∃ p, (∀ k, p k = true → inK base.kb (headKS L W) k = true) ∧ st.t i = scrubP p (base.t i))
    (hH : ∀ k, hmem st.dirty k = false → inK base.kb (headKS L W) k = false → lookS L.keys k = none → ∃ p, (∀ k, p k = true → inK base.kb (headKS L W) k = true) ∧ st.h k = scrubPO p (base.h k))
    (hn : st.n = base.n) : ∃ x, Pp x ∧ Rel C (headSt L W base x) a w := by
  obtain ⟨A, β, hB⟩ := hR
  unfold toHead at h
  split at h
  · exact h.elim
  · rename_i s hs
    cases hk : headOk L W base st s with
    | false => rw [hk] at h; exact h.elim
    | true =>
      rw [hk] at h
      obtain ⟨x, h1, h2⟩ := h
      exact ⟨x, h2, A, _, head_rel hs hk (conj_all _ h1) hB hT hH hn⟩

def exOf : Ex → Exit
  | .norm => .normal
  | .exit i => .exit i
  | .ret => .ret

theorem conjK_inv : ∀ {cs : List Prop} {k : Prop}, conjK cs k → (∀ p ∈ cs, p) ∧ k
  | [], k, h => ⟨fun p hp => (by cases hp), h⟩
  | p :: ps, k, h => by
    obtain ⟨h1, h2⟩ := conjK_inv (cs := ps) h.2
    refine ⟨fun q hq => ?_, h2⟩
    rcases List.mem_cons.1 hq with rfl | hq
    · exact h.1
    · exact h1 q hq

theorem dstK_mem (kb : Nat) {W : List Nat} {d k : Nat} (h : (KS.dst d).has kb k = true) : hmem W d = true → inK kb (W.map .dst) k = true := by
  induction W with
  | nil => intro hd; cases hd
  | cons j W ih =>
    intro hd
    simp only [hmem, Bool.or_eq_true] at hd
    simp only [List.map_cons, inK, Bool.or_eq_true]
    rcases hd with hd | hd
    · have := Nat.eq_of_beq_eq_true hd
      subst this
      exact .inl h
    · exact .inr (ih hd)

theorem newsOk_spec {L : LoopAnn} {W : List Nat} {base : St} : ∀ {news : List KS}, newsOk L W base news = true → ∀ k, inK base.kb news k = true → inK base.kb (headKS L W) k = true
  | [], _, k, hk => by cases hk
  | x :: news, h, k, hk => by
    simp only [newsOk, List.all_cons, Bool.and_eq_true] at h
    simp only [inK, Bool.or_eq_true] at hk
    rcases hk with hk | hk
    · cases x with
      | one j =>
        simp only [KS.has] at hk
        rw [Nat.eq_of_beq_eq_true hk]; exact h.1
      | dst d =>
        simp only [headKS, inK_append, Bool.or_eq_true]
        exact .inl (dstK_mem base.kb hk h.1)
    · exact newsOk_spec (news := news) h.2 k hk

theorem FromL.back {L : LoopAnn} {W : List Nat} {base : St} {x : L.τ} {m : St} (h : FromL W (headSt L W base x) m) (hsl : ∀ y ∈ L.slots, hmem W y.1 = true) : FromL W base (St.back L W base m) := by
  obtain ⟨p, a1, a2, a3⟩ := h.keep
  have hkb : (headSt L W base x).kb = base.kb := rfl
  rw [hkb] at a1 a3
  refine ⟨⟨fun k => inK base.kb (headKS L W) k || p k, fun k hk => ?_, fun i hi => ?_, fun k hk hnk => ?_⟩, h.n, h.kb, fun k hk => ?_, fun k hk => ?_⟩
  · simp only [St.back, inK_append, Bool.or_eq_true] at hk ⊢
    rcases hk with hk | hk
    · exact .inr (.inl hk)
    · exact .inr (.inr (a1 k hk))
  · show m.t i = _
    rw [a2 i hi, ← scrubP_scrubP]
    have : (headSt L W base x).t i = scrubP (inK base.kb (headKS L W)) (base.t i) := by
      show (match lookS L.slots i with
        | some f => f x
        | none => bif hmem W i then .junk else scrubP (inK base.kb (headKS L W)) (base.t i)) = _
      have hls : ∀ (l : List (Nat × (L.τ → AV))), (∀ y ∈ l, hmem W y.1 = true) → lookS l i = none := by
        intro l
        induction l with
        | nil => intro _; rfl
        | cons y l ih =>
          intro hl
          obtain ⟨j, g⟩ := y
          simp only [lookS]
          have hj := hl (j, g) (by simp)
          have : Nat.beq i j = false := nbeq_false (fun h => by subst h; rw [hi] at hj; cases hj)
          rw [this]
          exact ih fun y hy => hl y (List.mem_cons_of_mem _ hy)
      rw [hls L.slots hsl, hi]; rfl
    rw [this]
  · have hk' : hmem m.dirty k = false ∧ hmem (L.keys.map (·.1)) k = false := by
      simp only [St.back, hmem_append, Bool.or_eq_false_iff] at hk
      exact ⟨hk.1, hk.2.1⟩
    have hn' : inK base.kb (headKS L W) k = false ∧ inK base.kb m.news k = false := by
      simp only [St.back, inK_append, Bool.or_eq_false_iff] at hnk
      exact ⟨hnk.2.1, hnk.2.2⟩
    show m.h k = _
    rw [a3 k hk'.1 hn'.2, ← scrubPO_scrubPO]
    have : (headSt L W base x).h k = scrubPO (inK base.kb (headKS L W)) (base.h k) := by
      show (match lookS L.keys k with
        | some f => some (f x)
        | none => bif inK base.kb (headKS L W) k then none else scrubPO (inK base.kb (headKS L W)) (base.h k)) = _
      have hls : ∀ (l : List (Nat × (L.τ → AB))), hmem (l.map (·.1)) k = false → lookS l k = none := by
        intro l
        induction l with
        | nil => intro _; rfl
        | cons y l ih =>
          intro hl
          obtain ⟨j, g⟩ := y
          simp only [List.map_cons, hmem, Bool.or_eq_false_iff] at hl
          simp only [lookS, hl.1, cond_false]
          exact ih hl.2
      rw [hls L.keys hk'.2, hn'.1]; rfl
    rw [this]
  · simp only [St.back, hmem_append, hk, Bool.or_true]
  · simp only [St.back, inK_append, hk, Bool.true_or]

/-- what must hold of an exit -/
abbrev ExQ (C : Ctx) (W : List Nat) (st : St) (K : Ex → St → Prop) (Q : Exit → Act → World → Prop) : Prop :=
  ∀ e st' a' w', K e st' → FromL W st st' → Rel C st' a' w' → Q (exOf e) a' w'

theorem loop_sound {L : LoopAnn} {W : List Nat} {b : Code} {K : Ex → St → Prop} {V : (Ex → St → Prop) → St → Prop} {Q : Exit → Act → World → Prop}
    (hV : ∀ K' st' a' w' Q', V K' st' → Rel C st' a' w' → ExQ C W st' K' Q' → b.wp P Q' a' w')
    (h : loopVC L W K V st) (hR : Rel C st a w) (hQ : ExQ C W st K Q) : (Code.loop b).wp P Q a w := by
  obtain ⟨h0, hround⟩ := h
  have hsl : ∀ y ∈ L.slots, hmem W y.1 = true := by
    unfold toHead at h0
    split at h0
    · exact h0.elim
    · rename_i s hs
      cases hk : headOk L W st st.clear s with
      | false => rw [hk] at h0; exact h0.elim
      | true =>
        simp only [headOk, Bool.and_eq_true] at hk
        exact fun y hy => (List.all_eq_true.1 hk.1.1.1.1.2) y hy
  have hRc : Rel C st.clear a w := by
    obtain ⟨A, β, hB⟩ := hR
    exact ⟨A, β, hB.clear⟩
  obtain ⟨x0, hi0, hr0⟩ := toHead_sound h0 hRc (fun i _ => ⟨fun _ => false, by simp, (scrubP_none _).symm⟩) (fun k _ _ _ => ⟨fun _ => false, by simp, (scrubPO_none _).symm⟩) rfl
  refine wp_loop_ghost (fun n a w => ∃ x, L.inv x ∧ L.meas x = n ∧ Rel C (headSt L W st x) a w) (L.meas x0) ⟨x0, hi0, rfl, hr0⟩ ?_
  intro n a w hI
  obtain ⟨x, hx, rfl, hRx⟩ := hI
  refine hV _ _ _ _ _ (hround x hx) hRx ?_
  intro e st' a' w' hk hF hR'
  cases e with
  | norm =>
    simp only [atRound] at hk
    cases hn : newsOk L W st st'.news with
    | false => rw [hn] at hk; exact hk.elim
    | true =>
      rw [hn] at hk
      simp only [cond_true] at hk
      obtain ⟨p, a1, a2, a3⟩ := hF.keep
      have hkb : (headSt L W st x).kb = st.kb := rfl
      rw [hkb] at a1 a3
      have hbad : ∀ k, inK st.kb st'.news k = true → inK st.kb (headKS L W) k = true := newsOk_spec hn
      have hb := hF.back hsl
      obtain ⟨x', hx', hr'⟩ := toHead_sound hk hR' (fun i hi => by
          obtain ⟨q, q1, q2, q3⟩ := hb.keep
          refine ⟨fun k => inK st.kb (headKS L W) k || p k, fun k hk => ?_, ?_⟩
          · rcases Bool.or_eq_true _ _ |>.mp hk with h | h
            · exact h
            · exact hbad k (a1 k h)
          · rw [a2 i hi, ← scrubP_scrubP]
            have : (headSt L W st x).t i = scrubP (inK st.kb (headKS L W)) (st.t i) := by
              show (match lookS L.slots i with
                | some f => f x
                | none => bif hmem W i then .junk else scrubP (inK st.kb (headKS L W)) (st.t i)) = _
              have hls : ∀ (l : List (Nat × (L.τ → AV))), (∀ y ∈ l, hmem W y.1 = true) → lookS l i = none := by
                intro l
                induction l with
                | nil => intro _; rfl
                | cons y l ih =>
                  intro hl
                  obtain ⟨j, g⟩ := y
                  simp only [lookS]
                  have hj := hl (j, g) (by simp)
                  have : Nat.beq i j = false := nbeq_false (fun h => by subst h; rw [hi] at hj; cases hj)
                  rw [this]
                  exact ih fun y hy => hl y (List.mem_cons_of_mem _ hy)
              rw [hls L.slots hsl, hi]; rfl
            rw [this])
        (fun k hd hbk hls => by
          have hnk : inK st.kb st'.news k = false := by
            cases hq : inK st.kb st'.news k with
            | false => rfl
            | true => rw [hbad k hq] at hbk; cases hbk
          refine ⟨fun k => inK st.kb (headKS L W) k || p k, fun k hk => ?_, ?_⟩
          · rcases Bool.or_eq_true _ _ |>.mp hk with h | h
            · exact h
            · exact hbad k (a1 k h)
          · rw [a3 k hd hnk, ← scrubPO_scrubPO]
            have : (headSt L W st x).h k = scrubPO (inK st.kb (headKS L W)) (st.h k) := by
              show (match lookS L.keys k with
                | some f => some (f x)
                | none => bif inK st.kb (headKS L W) k then none else scrubPO (inK st.kb (headKS L W)) (st.h k)) = _
              rw [hls, hbk]; rfl
            rw [this]) hF.n
      exact ⟨L.meas x', hx'.2, x', hx'.1, rfl, hr'⟩
  | exit i =>
    simp only [atRound] at hk
    obtain ⟨A, β, hB⟩ := hR'
    exact hQ _ _ _ _ hk (hF.back hsl) ⟨A, β, hB.seq ⟨rfl, rfl, rfl, rfl⟩⟩
  | ret =>
    simp only [atRound] at hk
    obtain ⟨A, β, hB⟩ := hR'
    exact hQ _ _ _ _ hk (hF.back hsl) ⟨A, β, hB.seq ⟨rfl, rfl, rfl, rfl⟩⟩
end
end Go.Vg
/-
  A VERIFIED VC GENERATOR, part ZA: code whole; functions.
-/
namespace Go.Vg
open Go

section
variable {P : Program} {C : Ctx} {E : Env} {A : Nat → Prop} {β β' : Nat → Value} {st : St} {a : Act} {w : World}

theorem exq_block {W : List Nat} {K : Ex → St → Prop} {Q : Exit → Act → World → Prop} (id : Nat) (hQ : ExQ C W st K Q) : ExQ C W st (inBl id K) (Exit.inBlock id Q) := by
  intro e st' a' w' hk hF hR
  cases e with
  | norm => exact hQ .norm _ _ _ hk hF hR
  | ret => exact hQ .ret _ _ _ hk hF hR
  | exit j =>
    simp only [inBl] at hk
    by_cases hj : j = id
    · subst hj
      simp only [nbeq_true, cond_true] at hk
      simp only [exOf, Exit.inBlock, if_true]
      exact hQ .norm _ _ _ hk hF hR
    · simp only [nbeq_false hj, cond_false] at hk
      simp only [exOf, Exit.inBlock, if_neg hj]
      exact hQ (.exit j) _ _ _ hk hF hR

theorem vcg_sound (hE : EnvOk P E) (hm : P.follows .mixedOrders = true) {L : Nat → Option LoopAnn} : ∀ (c : Code) (K : Ex → St → Prop) (st : St) (a : Act) (w : World) (Q : Exit → Act → World → Prop),
    vcg E L c K st → Rel C st a w → ExQ C (wrC c) st K Q → c.wp P Q a w
  | .skip, K, st, a, w, Q, h, hR, hQ => by
    simp only [vcg] at h
    exact wp_skip (hQ .norm _ _ _ h (FromL.refl _ _) hR)
  | .region id ops d, K, st, a, w, Q, h, hR, hQ => by
    simp only [vcg] at h
    split at h
    · rename_i cs m hr
      obtain ⟨h1, h2⟩ := conjK_inv h
      exact region_sound hE hm hr h1 hR fun a' w' hR' => hQ .norm _ _ _ h2 (runR_from hr).loose hR'
    · exact h.elim
  | .seq x y, K, st, a, w, Q, h, hR, hQ => by
    simp only [vcg] at h
    refine wp_seq (vcg_sound hE hm x _ st a w _ h hR fun e st' a' w' hk hF hR' => ?_)
    cases e with
    | norm =>
      exact vcg_sound hE hm y K st' a' w' Q hk hR' fun e st'' a'' w'' hk' hF' hR'' => hQ e _ _ _ hk' (hF.trans hF') hR''
    | exit i => exact hQ (.exit i) _ _ _ hk (hF.mono hmem_left) hR'
    | ret => exact hQ .ret _ _ _ hk (hF.mono hmem_left) hR'
  | .cond c x y, K, st, a, w, Q, h, hR, hQ => by
    simp only [vcg] at h
    have hx : ExQ C (wrC x) st K Q := fun e st' a' w' hk hF hR' => hQ e _ _ _ hk (hF.mono hmem_left) hR'
    have hy : ExQ C (wrC y) st K Q := fun e st' a' w' hk hF hR' => hQ e _ _ _ hk (hF.mono hmem_right) hR'
    split at h
    · rename_i cs m hr
      obtain ⟨h1, h2⟩ := conjK_inv h
      unfold oneC at hr
      cases hs : (straight x && straight y) with
      | false => rw [hs] at hr; cases hr
      | true =>
        rw [hs] at hr
        exact runC_sound hE hm _ st _ _ a w Q hr h1 hR fun a' w' hR' => hQ .norm _ _ _ h2 (runC_from _ _ _ _ hr).loose hR'
    · obtain ⟨A, β, hB⟩ := hR
      split at h
      · rename_i hv
        exact wp_cond_true (ev_tt hB hv) (vcg_sound hE hm x K st a w Q h ⟨A, β, hB⟩ hx)
      · rename_i hv
        exact wp_cond_false (ev_ff hB hv) (vcg_sound hE hm y K st a w Q h ⟨A, β, hB⟩ hy)
      · rename_i b hv
        exact wp_cond_split (ev_bool hB hv) (fun hb => vcg_sound hE hm x K st a w Q (h.1 hb) ⟨A, β, hB⟩ hx) (fun hb => vcg_sound hE hm y K st a w Q (h.2 hb) ⟨A, β, hB⟩ hy)
      · exact h.elim
  | .block id b, K, st, a, w, Q, h, hR, hQ => by
    have hgen : vcg E L b (inBl id K) st → (Code.block id b).wp P Q a w := fun h => wp_block (vcg_sound hE hm b _ st a w _ h hR (exq_block id hQ))
    cases b with
    | loop b =>
      simp only [vcg] at h
      split at h
      · rename_i An hA
        exact wp_block (loop_sound (fun K' st' a' w' Q' hv hR' hQ' => vcg_sound hE hm b K' st' a' w' Q' hv hR' hQ') h hR (exq_block id hQ))
      · exact h.elim
    | _ => exact hgen (by first | exact h | (simp only [vcg] at h ⊢; first | exact h | exact h.elim))
  | .exit i, K, st, a, w, Q, h, hR, hQ => by
    simp only [vcg] at h
    exact wp_exit (hQ (.exit i) _ _ _ h (FromL.refl _ _) hR)
  | .ret, K, st, a, w, Q, h, hR, hQ => by
    simp only [vcg] at h
    exact wp_ret (hQ .ret _ _ _ h (FromL.refl _ _) hR)
  | .loop _, K, st, a, w, Q, h, _, _ => by simp [vcg] at h
  | .rangeFunc _ _ _ _, K, st, a, w, Q, h, _, _ => by simp [vcg] at h
  | .scope _, K, st, a, w, Q, h, _, _ => by simp [vcg] at h
  | .label _, K, st, a, w, Q, h, _, _ => by simp [vcg] at h
  | .goto _, K, st, a, w, Q, h, _, _ => by simp [vcg] at h
  | .refuse _, K, st, a, w, Q, h, _, _ => by simp [vcg] at h
termination_by c => SizeOf.sizeOf c
end
end Go.Vg
/-
  A VERIFIED VC GENERATOR, part ZB: functions.
-/
namespace Go.Vg
open Go

section
variable {P : Program} {C : Ctx} {E : Env} {A A' : Nat → Prop} {β β' : Nat → Value} {st : St} {a : Act} {w : World} {T : Tab}

theorem keyed_all : Keyed (fun _ => true) [] β β' := ⟨fun K k h => (by cases h), fun K h => (by cases h), fun K _ h => (by cases h), fun K h => (by cases h)⟩

def resGet (tmps : Array Value) : ResultVar → Sem Value
  | .tmp t => pure (tmps.getD t undef)
  | .cell x t => do loadVar t (← asAddr (tmps.getD x undef))
theorem results_eq (fn : Func) (tmps : Array Value) : results fn tmps = (do
    let vs ← fn.results.mapM (resGet tmps)
    pure (if h : vs.size = 1 then vs[0] else .tuple vs)) := by
  unfold results
  congr

theorem parts_sound (hT : TabOk T P) (hB : RelB C A β st a w) : ∀ (rs : List ResultVar) (as : List AV), resParts T st rs = some as →
    ∃ vs, (rs.mapM (resGet a.tmps)).run P w = .ok vs w ∧ AVrels w A β vs as
  | [], as, h => by
    simp only [resParts, Option.some.injEq] at h
    subst h
    exact ⟨[], by simp, by simp [AVrels]⟩
  | .tmp t :: rs, as, h => by
    simp only [resParts] at h
    split at h
    · rename_i l hl
      simp only [Option.some.injEq] at h
      subst h
      obtain ⟨vs, h1, h2⟩ := parts_sound hT hB rs l hl
      refine ⟨a.tmps.getD t undef :: vs, ?_, ?_⟩
      · simp only [List.mapM_cons, resGet, Sem.run_bind, Sem.run_pure, Result.andThen_ok, h1]
      · simp only [AVrels]
        exact ⟨_, _, rfl, hB.tmps t, h2⟩
    · cases h
  | .cell x t :: rs, as, h => by
    simp only [resParts] at h
    split at h
    · rename_i k off hk
      split at h
      · rename_i out l ho hl
        simp only [Option.some.injEq] at h
        subst h
        obtain ⟨vs, h1, h2⟩ := parts_sound hT hB rs l hl
        have hx := hB.tmps x
        rw [hk] at hx
        have hcond : out.cond = [] := by
          simp only [actLoad] at ho
          split at ho
          · split at ho
            · simp only [Option.some.injEq] at ho; subst ho; rfl
            · cases ho
          · cases ho
        obtain ⟨_, v, g1, g2⟩ := sound_load hT hB hx ho (by rw [hcond]; intro p hp; cases hp)
        simp only [AVrel] at hx
        obtain ⟨b, hb1, hb2⟩ := hx
        refine ⟨v :: vs, ?_, ?_⟩
        · rw [hb2] at g1
          simp only [Instr.loadAt, Instr.sureAddr, Sem.run_bind, Sem.run_pure, Result.andThen_ok] at g1
          have ha : (asAddr (a.tmps.getD x undef)).run P w = .ok ⟨b, off, none⟩ w := by simp only [hb2, asAddr, Sem.run_pure]
          simp only [List.mapM_cons, resGet, Sem.run_bind, ha, Sem.run_pure, Result.andThen_ok, g1, h1]
        · simp only [AVrels]
          exact ⟨_, _, rfl, g2, h2⟩
      · cases h
    · cases h

theorem RdL_pts {α : Type} {R : List Value → α → Prop} : ∀ (xs : List Value) (l : List α), xs.length = l.length → (∀ (i : Nat) (v : Value) (x : α), xs[i]? = some v → l[i]? = some x → R [v] x) → RdL R xs l
  | [], [], _, _ => by simp [RdL]
  | v :: xs, x :: l, hl, h => by
    simp only [RdL]
    exact ⟨[v], xs, rfl, h 0 v x rfl rfl, RdL_pts xs l (by simpa using hl) fun i v x h1 h2 => h (i + 1) v x (by simpa using h1) (by simpa using h2)⟩
  | [], _ :: _, hl, _ => by simp at hl
  | _ :: _, [], hl, _ => by simp at hl

theorem gridM_sound (hB : RelB C A β st a w) (hA : ∀ b, A b → A' b) (r : List Ty) (l : List (Row r)) (k : Nat) (v : Value) (h : ∀ p ∈ (gridM st.h r l k).1, p) (hF : ∀ k' ∈ (gridM st.h r l k).2, ∀ b, blkOf (β k') = some b → A' b)
    (hr : AVrel w A β v (.own k)) : AVrel w A' β' v (.sl r l) ∧ ∀ k' ∈ (gridM st.h r l k).2, (st.h k').isSome := by
  generalize he : gridM st.h r l k = g at h hF ⊢
  unfold gridM at he
  split at he
  · rename_i e j n m sz hk
    split at he
    · rename_i e2 row2 bytes fr hj
      cases hb : Nat.beq row2.length 1 with
      | false => rw [hb] at he; subst he; exact (one_mem h).elim
      | true =>
        rw [hb] at he
        have hr2 := Nat.eq_of_beq_eq_true hb
        simp only [cond_true] at he
        split at he
        · rename_i g' hg
          subst he
          obtain ⟨er, hge⟩ := castL_inv hg
          subst er
          subst hge
          have hmn : m = n := h _ (List.mem_cons_self ..)
          have hgl : gridOf sz n bytes = l := h _ (List.mem_cons_of_mem _ (List.mem_cons_self ..))
          subst hmn; subst hgl
          have hFk : ∀ b, blkOf (β k) = some b → A' b := hF k (by simp)
          have hFj : ∀ b, blkOf (β j) = some b → A' b := hF j (by simp)
          refine ⟨?_, fun k' hk' => ?_⟩
          · simp only [AVrel] at hr
            obtain ⟨rfl, _⟩ := hr
            have hlen : (gridOf sz m bytes).length = m := by simp [gridOf]
            simp only [AVrel, Rd]
            rcases views_row hB hk with ⟨h1, h2⟩ | ⟨b, cap, cur, h1, h2, h3, h4, h5, h6, h7⟩
            · subst h2
              exact ⟨none, 0, [], by rw [h1]; simp [gridOf], by simp [gridOf], by simp, by simp [gridOf, RdL], by simp⟩
            · refine ⟨_, cap, cur.toList.take m, by rw [h1, hlen], by rw [hlen]; exact h3, h4, ?_, fun _ => ⟨b, 0, rfl, hFk b (by rw [h1]; rfl), ?_⟩⟩
              · refine RdL_pts _ _ (by rw [hlen, List.length_take]; simp; omega) fun i u x hu hx => ?_
                have hi : i < m := by
                  have := (List.getElem?_eq_some_iff.1 hx).1
                  omega
                obtain ⟨v', e1, e3⟩ := h7 j rfl i hi
                rw [hu] at e1
                simp only [Option.some.injEq] at e1
                subst e1
                have hx' : x = (bytes.drop (i * sz)).take sz := by
                  simp only [gridOf, List.getElem?_map, List.getElem?_range hi, Option.map_some, Option.some.injEq] at hx
                  exact hx.symm
                have hp := (pur1_rel (A' := A') hB e3 hA (fun q hq => by
                  have hq' := pur1_keys _ q hq
                  simp only [keysAV, List.mem_singleton] at hq'
                  subst hq'
                  exact hFj)).1
                simp only [pur1, hj, hr2, nbeq_true, cond_true, AVrel] at hp
                simp only [RdV]
                refine ⟨u, [], rfl, ?_, rfl⟩
                rw [hx']
                exact hp
              · intro q u hq
                rw [List.getElem?_take] at hq
                split at hq
                · simp [World.cell?, h2]; simpa using hq
                · cases hq
          · simp only [List.mem_cons, List.not_mem_nil, or_false] at hk'
            rcases hk' with rfl | rfl
            · simp [hk]
            · simp [hj]
        · subst he; exact (one_mem h).elim
    · subst he; exact (one_mem h).elim
  · subst he
    obtain ⟨g1, g2⟩ := pur1_rel hB hr hA hF
    exact ⟨avm_sound keyed_all _ _ _ h g1, fun k hk => by obtain ⟨e, row, l, fr, hr⟩ := g2 k hk; simp [hr]⟩

mutual
theorem resM_sound (hB : RelB C A β st a w) {s : List (Nat × Option Nat)} (hA : ∀ b, A b → A' b) (h1 : ∀ i k, lookK s i = some (some k) → β' i = β k) (h2 : ∀ i, lookK s i = some none → β' i = nilV) : ∀ (x y : AV) (v : Value),
    (∀ p ∈ (resM st.h s x y).1, p) → (∀ k ∈ (resM st.h s x y).2, ∀ b, blkOf (β k) = some b → A' b) → AVrel w A β v y → AVrel w A' β' v x ∧ ∀ k ∈ (resM st.h s x y).2, (st.h k).isSome
  | x, y, v, h, hF, hr => by
    generalize he : resM st.h s x y = r at h hF ⊢
    unfold resM at he
    split at he
    · rename_i i k
      subst he
      simp only at h hF ⊢
      refine ⟨?_, fun k hk => (by cases hk)⟩
      simp only [AVrel] at hr ⊢
      split at h
      · rename_i j hj
        cases hb : Nat.beq k j with
        | false => rw [hb] at h; exact (one_mem h).elim
        | true =>
          have := Nat.eq_of_beq_eq_true hb
          subst this
          rw [h1 i k hj]; exact hr
      · exact (one_mem h).elim
    · rename_i i
      subst he
      simp only at h hF ⊢
      refine ⟨?_, fun k hk => (by cases hk)⟩
      simp only [AVrel] at hr ⊢
      split at h
      · rename_i hj
        rw [h2 i hj]
        subst hr
        exact ⟨rfl, rfl⟩
      · exact (one_mem h).elim
    · rename_i r0 l0 k
      subst he
      exact gridM_sound hB hA r0 l0 k v h hF hr
    · rename_i xs ys
      subst he
      simp only [AVrel] at hr ⊢
      obtain ⟨arr, e1, e2⟩ := hr
      obtain ⟨g1, g2⟩ := resMs_sound hB hA h1 h2 xs ys _ h hF e2
      exact ⟨⟨arr, e1, g1⟩, g2⟩
    · rename_i xs ys
      subst he
      simp only [AVrel] at hr ⊢
      obtain ⟨arr, e1, e2⟩ := hr
      obtain ⟨g1, g2⟩ := resMs_sound hB hA h1 h2 xs ys _ h hF e2
      exact ⟨⟨arr, e1, g1⟩, g2⟩
    · subst he
      obtain ⟨g1, g2⟩ := pur1_rel hB hr hA hF
      exact ⟨avm_sound keyed_all _ _ _ h g1, fun k hk => by obtain ⟨e, row, l, fr, hr⟩ := g2 k hk; simp [hr]⟩
theorem resMs_sound (hB : RelB C A β st a w) {s : List (Nat × Option Nat)} (hA : ∀ b, A b → A' b) (h1 : ∀ i k, lookK s i = some (some k) → β' i = β k) (h2 : ∀ i, lookK s i = some none → β' i = nilV) : ∀ (xs ys : List AV) (vs : List Value),
    (∀ p ∈ (resMs st.h s xs ys).1, p) → (∀ k ∈ (resMs st.h s xs ys).2, ∀ b, blkOf (β k) = some b → A' b) → AVrels w A β vs ys → AVrels w A' β' vs xs ∧ ∀ k ∈ (resMs st.h s xs ys).2, (st.h k).isSome
  | [], [], vs, _, _, hr => by
    simp only [AVrels] at hr ⊢
    exact ⟨hr, fun k hk => by simp [resMs] at hk⟩
  | x :: xs, y :: ys, vs, h, hF, hr => by
    simp only [resMs] at h hF ⊢
    obtain ⟨g1, g2⟩ := conj_append h
    simp only [AVrels] at hr ⊢
    obtain ⟨v, vs', e, r1, r2⟩ := hr
    obtain ⟨q1, q2⟩ := resM_sound hB hA h1 h2 x y v g1 (fun k hk => hF k (List.mem_append_left _ hk)) r1
    obtain ⟨q3, q4⟩ := resMs_sound hB hA h1 h2 xs ys vs' g2 (fun k hk => hF k (List.mem_append_right _ hk)) r2
    refine ⟨⟨v, vs', e, q1, q3⟩, fun k hk => ?_⟩
    rcases List.mem_append.1 hk with hk | hk
    · exact q2 k hk
    · exact q4 k hk
  | [], _ :: _, vs, h, _, _ => by simp only [resMs] at h; exact (one_mem h).elim
  | _ :: _, [], vs, h, _, _ => by simp only [resMs] at h; exact (one_mem h).elim
end

def rowC (h : Heap) (s : List (Nat × Option Nat)) (i : Nat) (b : AB) : List Prop := match lookK s i with
  | some (some k) => abm s (fun _ => true) (h k) b
  | some none => match b with
    | .row _ _ l false => [[] = l]
    | _ => [False]
  | none => [False]
theorem rowsM_mem {h : Heap} {s : List (Nat × Option Nat)} : ∀ (bs : List AB) (i j : Nat) (b : AB), bs[j]? = some b → ∀ p ∈ rowC h s (i + j) b, p ∈ rowsM h s i bs
  | b0 :: bs, i, 0, b, hb, p, hp => by
    simp only [List.getElem?_cons_zero, Option.some.injEq] at hb
    subst hb
    simp only [rowsM, List.mem_append]
    exact .inl hp
  | b0 :: bs, i, j + 1, b, hb, p, hp => by
    simp only [rowsM, List.mem_append]
    refine .inr (rowsM_mem bs (i + 1) j b (by simpa using hb) p ?_)
    rw [show i + 1 + j = i + (j + 1) by omega]; exact hp

theorem RelB.init {args : List Value} {avs : List AV} {n : Nat} (hA : ∀ b, A b → b < w.heap.size) (hr : AVrels w A β args avs) (hn : avs.length ≤ n) :
    RelB ⟨w, A, fun _ => False⟩ A β (St.init n avs) { tmps := args.toArray ++ Array.replicate (n - args.toArray.size) undef, defers := [] } w := by
  have hlen := AVrels_length avs args hr
  have hget : ∀ (as : List AV) (vs : List Value) (i : Nat), AVrels w A β vs as → AVrel w A β (vs.getD i undef) (as.getD i .undef) := by
    intro as
    induction as with
    | nil => intro vs i h; simp only [AVrels] at h; subst h; simp [AVrel]
    | cons x as ih =>
      intro vs i h
      simp only [AVrels] at h
      obtain ⟨v, vs', rfl, h1, h2⟩ := h
      cases i with
      | zero => simpa using h1
      | succ i => simpa using ih vs' i h2
  refine ⟨rfl, ?_, fun i => ?_, fun k ab h => (by cases h), fun k k' b h => (by cases h), hA, ⟨rfl, rfl, rfl, Nat.le_refl _, fun b _ _ => rfl⟩, fun b _ h => .inl h, fun b h => h, fun k b h => (by cases h)⟩
  · simp [St.init]; omega
  · have := hget avs args i hr
    show AVrel w A β _ (avs.getD i .undef)
    have e : (args.toArray ++ Array.replicate (n - args.toArray.size) undef).getD i undef = args.getD i undef := by
      rw [Array.getD_eq_getD_getElem?]
      by_cases hi : i < args.length
      · rw [Array.getElem?_append_left (by simpa using hi)]
        simp [List.getD]
      · rw [Array.getElem?_append_right (by simpa using hi)]
        simp only [Array.getElem?_replicate, List.getD, List.getElem?_eq_none (Nat.not_lt.1 hi)]
        split <;> rfl
    rw [e]; exact this

theorem ret_sound (hT : TabOk T P) {fn : Func} {w0 : World} {A0 : Nat → Prop} (hB : RelB ⟨w0, A0, fun _ => False⟩ A β st a w) {want : AV} {bs : List AB} (h : retM T st fn.results.toList want bs) :
    ∃ v, (results fn a.tmps).run P w = .ok v w ∧ ∃ A' β', CallPost w0 A0 w v want bs A' β' := by
  unfold retM at h
  split at h
  · exact h.elim
  · rename_i as has
    cases hq : (nodupB (srcKeys (srcAll st.h want (resOf as) bs)) && ((resM st.h (srcAll st.h want (resOf as) bs) want (resOf as)).2.all fun k => !hmem (srcKeys (srcAll st.h want (resOf as) bs)) k) && viewsOk bs.length bs) with
    | false => rw [hq] at h; exact h.elim
    | true =>
      rw [hq] at h
      simp only [cond_true] at h
      simp only [Bool.and_eq_true, List.all_eq_true] at hq
      obtain ⟨⟨q1, q2⟩, q3⟩ := hq
      obtain ⟨c1, c2⟩ := conj_append (conj_all _ h)
      generalize hs : srcAll st.h want (resOf as) bs = s at *
      obtain ⟨vs, p1, p2⟩ := parts_sound hT hB fn.results.toList as has
      have hv : ∃ v, (results fn a.tmps).run P w = .ok v w ∧ AVrel w A β v (resOf as) := by
        have hl := AVrels_length as vs p2
        refine ⟨if h : vs.toArray.size = 1 then vs.toArray[0] else .tuple vs.toArray, ?_, ?_⟩
        · rw [results_eq, Array.mapM_eq_mapM_toList]
          simp only [Sem.run_bind, map_eq_pure_bind, p1, Result.andThen_ok, Sem.run_pure]
        · match as, vs, hl, p2 with
          | [x], [v], _, p2 =>
            simp only [AVrels] at p2
            obtain ⟨v', vs', e, g1, _⟩ := p2
            simp only [List.cons.injEq] at e
            rw [e.1]
            simpa [resOf] using g1
          | [], [], _, p2 =>
            simp only [resOf]
            simp [AVrel, AVrels]
          | x :: y :: l, v :: u :: m, _, p2 =>
            have hne : ¬ (v :: u :: m).toArray.size = 1 := by simp
            rw [dif_neg hne]
            simp only [resOf, AVrel]
            exact ⟨_, rfl, by simpa using p2⟩
      obtain ⟨v, hv1, hv2⟩ := hv
      let F := (resM st.h s want (resOf as)).2
      let β2 : Nat → Value := fun i => match lookK s i with
        | some (some k) => β k
        | _ => nilV
      obtain ⟨r1, r2⟩ := resM_sound (A' := frozenA A β F) (β' := β2) hB (fun b hb => .inl hb) (fun i k hk => by simp only [β2, hk]) (fun i hk => by simp only [β2, hk]) want (resOf as) v c1 (fun k hk b hb => .inr ⟨k, hk, hb⟩) hv2
      have hK : Keeps w w A (frozenA A β F) := fun b hb => ⟨.inl hb, rfl⟩
      -- a row that is handed out
      have hrow : ∀ i ab, bs[i]? = some ab → BR w (frozenA A β F) β2 i ab ∧ (β2 i = nilV ∨ ∃ k, lookK s i = some (some k) ∧ β2 i = β k ∧ (st.h k).isSome) := by
        intro i ab hi
        have hc : ∀ p ∈ rowC st.h s i ab, p := fun p hp => c2 p (rowsM_mem bs 0 i ab hi p (by rw [Nat.zero_add]; exact hp))
        unfold rowC at hc
        have hkeyed : Keyed (fun _ => true) s β β2 := ⟨fun K k h => by simp only [β2, h], fun K h => by simp only [β2, h], fun K _ h => (by cases h), fun K h => (by cases h)⟩
        have hfin : ∀ k c, lookK s i = some (some k) → st.h k = some c → BR w A β2 i ab → BR w (frozenA A β F) β2 i ab := by
          intro k c hk hc' hbr
          have hβ2 : β2 i = β k := by simp only [β2, hk]
          have hno : ∀ b, blkOf (β2 i) = some b → ¬ A b → ¬ frozenA A β F b := by
            rintro b hb hnA (hAb | ⟨j, hj, hjb⟩)
            · exact hnA hAb
            · rw [hβ2] at hb
              have : j = k := hB.apart j k b (r2 j hj) (by simp [hc']) hjb hb
              subst this
              have hnk := q2 j hj
              rw [Bool.not_eq_true'] at hnk
              exact hmem_false.1 hnk (srcKeys_mem s i j hk)
          rcases viewsOk_get bs i ab q3 hi with ⟨e, row, l, rfl⟩ | ⟨e, j, n, m, sz, rfl, _⟩
          · obtain ⟨xs, x1, x2, x3⟩ := hbr
            refine ⟨xs, x1, RdL_mono (fun c x hx => RdV_mono hK row c x hx) l xs x2, fun b hb => ?_⟩
            have := x3 b hb
            simp only [Bool.false_eq_true, if_false] at this ⊢
            exact hno b hb this
          · obtain ⟨xs, x1, x2, x3⟩ := hbr
            refine ⟨xs, x1, fun b hb => hno b hb (x2 b hb), fun j' hj' i' hi' => ?_⟩
            obtain ⟨v, e1, e2⟩ := x3 j' hj' i' hi'
            exact ⟨v, e1, view_β rfl e2⟩
        split at hc
        · rename_i k hk
          obtain ⟨c, hc'⟩ := abm_live hc
          rw [hc'] at hc
          have hβ2 : β2 i = β k := by simp only [β2, hk]
          have hbr := abm_sound (β' := β2) hkeyed hβ2 hc (hB.blocks k c hc')
          exact ⟨hfin k c hk hc' hbr, .inr ⟨k, hk, hβ2, by simp [hc']⟩⟩
        · rename_i hk
          have hβ2 : β2 i = nilV := by simp only [β2, hk]
          split at hc
          · exact ⟨BR_nil hβ2 (one_mem hc), .inl hβ2⟩
          · exact (one_mem hc).elim
        · exact (one_mem hc).elim
      have hlive : ∀ i ab b, bs[i]? = some ab → blkOf (β2 i) = some b → ∃ k, lookK s i = some (some k) ∧ blkOf (β k) = some b ∧ (st.h k).isSome := by
        intro i ab b hi hb
        rcases (hrow i ab hi).2 with hn | ⟨k, h1, h2, h3⟩
        · rw [hn] at hb; simp [nilV, blkOf] at hb
        · exact ⟨k, h1, by rw [← h2]; exact hb, h3⟩
      refine ⟨v, hv1, frozenA A β F, β2, ⟨hB.frame.os, hB.frame.tape, hB.frame.output, hB.frame.size, fun b hb => hB.frame.block b hb (fun h => h), fun b hb => .inl (hB.base b hb), fun b hb hA' => ?_, fun b hb => ?_, r1, fun i ab hi => ⟨(hrow i ab hi).1, fun b hb => ?_⟩, fun i j b hi hj hb hb' => ?_⟩⟩
      · rcases hA' with hA' | ⟨j, hj, hjb⟩
        · rcases hB.old b hb hA' with h | h
          · exact h
          · exact h.elim
        · rcases hB.mine j b (r2 j hj) hjb with h | h
          · exact absurd hb (Nat.not_lt.2 h)
          · exact h.elim
      · rcases hb with hb | ⟨j, hj, hjb⟩
        · exact hB.bound b hb
        · exact live_lt hB (r2 j hj) hjb
      · obtain ⟨k, _, g2, g3⟩ := hlive i ab b hi hb
        rcases hB.mine k b g3 g2 with h | h
        · exact h
        · exact h.elim
      · obtain ⟨x, hx⟩ : ∃ x, bs[i]? = some x := ⟨_, List.getElem?_eq_getElem hi⟩
        obtain ⟨y, hy⟩ : ∃ y, bs[j]? = some y := ⟨_, List.getElem?_eq_getElem hj⟩
        obtain ⟨k, g1, g2, g3⟩ := hlive i x b hx hb
        obtain ⟨k', g1', g2', g3'⟩ := hlive j y b hy hb'
        have : k = k' := hB.apart k k' b g3 g3' g2 g2'
        subst this
        exact lookK_inj s q1 i j k g1 g1'

/-- **the contract of a function, by its VC** -/
theorem valid_of_vc (hE : EnvOk P E) (hm : P.follows .mixedOrders = true) {f : FuncId} {fn : Func} {c : Code} {s : Sig} (L : List AV → Nat → Option LoopAnn) (hf : P.funcs[f]? = some fn) (hb : fn.body = some c)
    (h : ∀ avs pre res bs, s avs = some (pre, res, bs) → pre → vcFn E (L avs) c fn.ntmps fn.results.toList avs res bs) : Valid P f s := by
  intro w A β args avs pre res bs hA hargs hs hp
  have hvc := h avs pre res bs hs hp
  unfold vcFn at hvc
  cases hn : Nat.ble avs.length fn.ntmps with
  | false => rw [hn] at hvc; exact hvc.elim
  | true =>
    rw [hn] at hvc
    refine calls_of_wp hf hb (vcg_sound hE hm c _ _ _ w _ hvc ⟨A, β, RelB.init hA hargs (Nat.le_of_ble_eq_true hn)⟩ ?_)
    intro e st' a' w' hk _ hR
    obtain ⟨A', β', hB⟩ := hR
    have key : retM E.T st' fn.results.toList res bs → bodyPost P fn (fun e w' => ∃ v, e = .returned v ∧ ∃ A' β', CallPost w A w' v res bs A' β') .ret a' w' := by
      intro hk
      obtain ⟨v, h1, A2, β2, h2⟩ := ret_sound hE.tab hB hk
      exact ⟨hB.defers, v, h1, v, rfl, A2, β2, h2⟩
    cases e with
    | norm => exact key hk
    | ret => exact key hk
    | exit i => exact hk.elim
end
end Go.Vg
/-
  A VERIFIED VC GENERATOR, part ZC: what is known of every argument; type tables.
-/
namespace Go.Vg
open Go

/-- the empty list, its type written out (for texts that a tool prints) -/
@[reducible] def nilL (α : Type) : List α := []

mutual
/-- ints in their ranges, lists no longer than may be -/
def D.ok : (t : Ty) → D t → Prop
  | .int k, x => lo k ≤ DI.toInt k x ∧ DI.toInt k x ≤ hi k
  | .bool, _ => True
  | .str, s => s.length ≤ 9223372036854775807
  | .slice row, l => l.length ≤ 9223372036854775807 ∧ ∀ x, x ∈ l → Row.ok row x
def Row.ok : (ts : List Ty) → Row ts → Prop
  | [], _ => True
  | t :: ts, x => D.ok t (Row.hd x) ∧ Row.ok ts (Row.tl x)
end

mutual
def AV.facts : AV → Prop
  | .int k n => lo k ≤ n ∧ n ≤ hi k
  | .str s => s.length ≤ 9223372036854775807
  | .sl row l => D.ok (.slice row) l
  | .full row l => D.ok (.slice row) l
  | .agg cs => factsL cs
  | .tup cs => factsL cs
  | _ => True
def factsL : List AV → Prop
  | [] => True
  | a :: as => a.facts ∧ factsL as
end

section
variable {P : Program} {E : Env} {w : World} {A : Nat → Prop} {β : Nat → Value}

theorem RdL_ok {α : Type} {R : List Value → α → Prop} {p : α → Prop} (h : ∀ c x, R c x → p x) : ∀ (l : List α) (cs : List Value), RdL R cs l → ∀ x, x ∈ l → p x
  | [], _, _, x, hx => by cases hx
  | y :: l, _, ⟨c1, c2, hc, h1, h2⟩, x, hx => by
    rcases List.mem_cons.1 hx with rfl | hx
    · exact h _ _ h1
    · exact RdL_ok h l c2 h2 x hx

mutual
theorem Rd_ok : ∀ (t : Ty) (v : Value) (x : D t), Rd w A t v x → D.ok t x
  | .int k, v, x, h => by simp only [Rd] at h; simp only [D.ok]; exact h.2
  | .bool, v, x, h => by simp only [D.ok]
  | .str, v, s, h => by simp only [Rd] at h; simp only [D.ok]; exact h.2
  | .slice row, v, l, h => by
    simp only [Rd] at h
    obtain ⟨a, cap, cs, h1, h2, h3, h4, h5⟩ := h
    simp only [D.ok]
    exact ⟨Nat.le_trans h2 h3, RdL_ok (fun c x hx => RdV_ok row c x hx) l cs h4⟩
theorem RdV_ok : ∀ (ts : List Ty) (vs : List Value) (x : Row ts), RdV w A ts vs x → Row.ok ts x
  | [], vs, x, h => by simp only [Row.ok]
  | t :: ts, vs, x, h => by
    simp only [RdV] at h
    obtain ⟨v, vs', h1, h2, h3⟩ := h
    simp only [Row.ok]
    exact ⟨Rd_ok t v _ h2, RdV_ok ts vs' _ h3⟩
end

mutual
theorem AVrel_facts : ∀ (a : AV) (v : Value), AVrel w A β v a → a.facts
  | .int k n, v, h => by simp only [AVrel] at h; simp only [AV.facts]; exact h.2
  | .str s, v, h => by simp only [AVrel] at h; simp only [AV.facts]; exact h.2
  | .sl row l, v, h => by simp only [AVrel] at h; simp only [AV.facts]; exact Rd_ok _ _ _ h
  | .full row l, v, h => by simp only [AVrel] at h; simp only [AV.facts]; exact Rd_ok _ _ _ h.1
  | .agg cs, v, h => by
    simp only [AVrel] at h
    obtain ⟨arr, _, h2⟩ := h
    simp only [AV.facts]
    exact AVrels_facts cs _ h2
  | .tup cs, v, h => by
    simp only [AVrel] at h
    obtain ⟨arr, _, h2⟩ := h
    simp only [AV.facts]
    exact AVrels_facts cs _ h2
  | .junk, _, _ | .undef, _, _ | .bool _, _, _ | .tt, _, _ | .ff, _, _ | .nil, _, _ | .nilp, _, _ | .nilf, _, _ | .selem _ _ _, _, _ | .own _, _, _ | .pre _ _, _, _ | .view _ _ _ _, _, _ | .ref _ _, _, _ | .elem _ _ _ _, _, _ | .fn _ _ _, _, _ => by simp only [AV.facts]
theorem AVrels_facts : ∀ (as : List AV) (vs : List Value), AVrels w A β vs as → factsL as
  | [], _, _ => by simp only [factsL]
  | a :: as, vs, h => by
    simp only [AVrels] at h
    obtain ⟨v, vs', _, h1, h2⟩ := h
    simp only [factsL]
    exact ⟨AVrel_facts a v h1, AVrels_facts as vs' h2⟩
end

/-- **the contract of a function, by its VC** (of arguments as they may be) -/
theorem valid_of_vc' (hE : EnvOk P E) (hm : P.follows .mixedOrders = true) {f : FuncId} {fn : Func} {c : Code} {s : Sig} (L : List AV → Nat → Option LoopAnn) (hf : P.funcs[f]? = some fn) (hb : fn.body = some c)
    (h : ∀ avs pre res bs, s avs = some (pre, res, bs) → pre → factsL avs → vcFn E (L avs) c fn.ntmps fn.results.toList avs res bs) : Valid P f s := by
  intro w A β args avs pre res bs hA hargs hs hp
  refine valid_of_vc (s := fun avs' => match s avs' with
    | some (pre, res, bs) => some (pre ∧ factsL avs', res, bs)
    | none => none) hE hm L hf hb (fun avs' pre' res' bs' hs' hp' => ?_) w A β args avs (pre ∧ factsL avs) res bs hA hargs (by simp only [hs]) ⟨hp, AVrels_facts _ _ hargs⟩
  split at hs'
  · rename_i p r b heq
    simp only [Option.some.injEq, Prod.mk.injEq] at hs'
    obtain ⟨rfl, rfl, rfl⟩ := hs'
    exact h avs' p r b heq hp'.1 hp'.2
  · cases hs'
end

def Tab.Ok (P : Program) : Tab → Prop
  | .leaf => True
  | .node l k v r => l.Ok P ∧ r.Ok P ∧ P.underlying k = some v.desc ∧ ∃ i, P.info? k = some i ∧ i.size = v.size ∧ i.bytes = v.bytes ∧ i.zero = some v.zero
theorem TabOk.of {P : Program} {T : Tab} (h : T.Ok P) : TabOk T P := by
  refine ⟨?_⟩
  induction T with
  | leaf => intro t te ht; cases ht
  | node l k v r ihl ihr =>
    obtain ⟨h1, h2, h3, h4⟩ := h
    intro t te ht
    simp only [Tab.find] at ht
    cases hb : Nat.beq t k with
    | true =>
      rw [hb] at ht
      simp only [cond_true, Option.some.injEq] at ht
      have := Nat.eq_of_beq_eq_true hb
      subst this; subst ht
      exact ⟨h3, h4⟩
    | false =>
      rw [hb] at ht
      simp only [cond_false] at ht
      cases hl : Nat.blt t k with
      | true => rw [hl] at ht; exact ihl h1 t te ht
      | false => rw [hl] at ht; exact ihr h2 t te ht
end Go.Vg
/-
  A VERIFIED VC GENERATOR, part ZD: contracts over data; an environment, contract by contract; recursion.
-/
namespace Go.Vg
open Go

/-- shapes of parameters: one value, or the cells of a struct -/
inductive PS where
  | one (t : Ty)
  | agg (ts : List Ty)
@[reducible] def PS.flat : List PS → List Ty
  | [] => []
  | .one t :: ps => t :: PS.flat ps
  | .agg ts :: ps => ts ++ PS.flat ps
def PS.cells : List PS → List AV → Option (List AV)
  | [], [] => some []
  | .one _ :: ps, a :: as => match PS.cells ps as with
    | some l => some (a :: l)
    | none => none
  | .agg ts :: ps, .agg cs :: as => bif Nat.beq cs.length ts.length then match PS.cells ps as with
    | some l => some (cs ++ l)
    | none => none
    else none
  | _, _ => none
def PS.group : List PS → List AV → List AV
  | [], _ => []
  | .one _ :: ps, cs => cs.headD .junk :: PS.group ps cs.tail
  | .agg ts :: ps, cs => .agg (cs.take ts.length) :: PS.group ps (cs.drop ts.length)
def argsD (ps : List PS) (avs : List AV) : Option (Row (PS.flat ps)) := match PS.cells ps avs with
  | some cs => toRow (PS.flat ps) cs
  | none => none
/-- the arguments as values of plain data -/
def backD (ps : List PS) (x : Row (PS.flat ps)) : List AV := PS.group ps (rowAVs (PS.flat ps) x)
/-- a contract over data -/
def sigOf (ps : List PS) (f : Row (PS.flat ps) → Prop × AV × List AB) : Sig := fun avs => match argsD ps avs with
  | some x => some (f x)
  | none => none
/-- a contract for arguments less than m -/
def sigBelow (ps : List PS) (μ : Row (PS.flat ps) → Nat) (m : Nat) (f : Row (PS.flat ps) → Prop × AV × List AB) : Sig :=
  sigOf ps fun x => (μ x < m ∧ (f x).1, (f x).2)

section
variable {P : Program} {E : Env} {w : World} {A : Nat → Prop} {β : Nat → Value}

theorem AVrels_append_of : ∀ (as bs : List AV) (us vs : List Value), AVrels w A β us as → AVrels w A β vs bs → AVrels w A β (us ++ vs) (as ++ bs)
  | [], bs, us, vs, h, g => by
    simp only [AVrels] at h; subst h; simpa using g
  | a :: as, bs, us, vs, h, g => by
    simp only [AVrels] at h
    obtain ⟨v, us', rfl, h1, h2⟩ := h
    simp only [List.cons_append, AVrels]
    exact ⟨v, us' ++ vs, rfl, h1, AVrels_append_of as bs us' vs h2 g⟩
theorem AVrels_split_of : ∀ (as bs : List AV) (vs : List Value), AVrels w A β vs (as ++ bs) → ∃ us ws, vs = us ++ ws ∧ AVrels w A β us as ∧ AVrels w A β ws bs
  | [], bs, vs, h => ⟨[], vs, rfl, by simp [AVrels], h⟩
  | a :: as, bs, vs, h => by
    simp only [List.cons_append, AVrels] at h
    obtain ⟨v, vs', rfl, h1, h2⟩ := h
    obtain ⟨us, ws, rfl, h3, h4⟩ := AVrels_split_of as bs vs' h2
    exact ⟨v :: us, ws, rfl, by simp only [AVrels]; exact ⟨v, us, rfl, h1, h3⟩, h4⟩
theorem AVrels_len (as : List AV) (vs : List Value) (h : AVrels w A β vs as) : vs.length = as.length := (AVrels_length as vs h).symm ▸ rfl

theorem pscells_rel : ∀ (ps : List PS) (avs cs : List AV) (args : List Value), PS.cells ps avs = some cs → AVrels w A β args avs →
    cs.length = (PS.flat ps).length ∧ ∃ vs, AVrels w A β vs cs ∧ ∀ cs', cs'.length = cs.length → AVrels w A β vs cs' → AVrels w A β args (PS.group ps cs')
  | [], [], cs, args, h, hr => by
    simp only [PS.cells, Option.some.injEq] at h
    subst h
    exact ⟨rfl, [], by simp [AVrels], fun cs' _ _ => by simpa only [PS.group] using hr⟩
  | .one t :: ps, a :: as, cs, args, h, hr => by
    simp only [PS.cells] at h
    split at h
    · rename_i l hl
      simp only [Option.some.injEq] at h
      subst h
      simp only [AVrels] at hr
      obtain ⟨v, args', rfl, h1, h2⟩ := hr
      obtain ⟨g1, vs, g2, g3⟩ := pscells_rel ps as l args' hl h2
      refine ⟨by simp [PS.flat, g1], v :: vs, by simp only [AVrels]; exact ⟨v, vs, rfl, h1, g2⟩, fun cs' hl' hr' => ?_⟩
      cases cs' with
      | nil => simp at hl'
      | cons c cs' =>
        simp only [AVrels] at hr'
        obtain ⟨v', vs', e, r1, r2⟩ := hr'
        simp only [List.cons.injEq] at e
        obtain ⟨rfl, rfl⟩ := e
        simp only [PS.group, List.headD, List.tail, AVrels]
        exact ⟨v, args', rfl, r1, g3 cs' (by simpa using hl') r2⟩
    · cases h
  | .agg ts :: ps, a :: as, cs, args, h, hr => by
    cases a with
    | agg cs0 =>
      simp only [PS.cells] at h
      cases hb : Nat.beq cs0.length ts.length with
      | false => rw [hb] at h; cases h
      | true =>
        rw [hb] at h
        have hlen := Nat.eq_of_beq_eq_true hb
        simp only [cond_true] at h
        split at h
        · rename_i l hl
          simp only [Option.some.injEq] at h
          subst h
          simp only [AVrels] at hr
          obtain ⟨v, args', rfl, h1, h2⟩ := hr
          simp only [AVrel] at h1
          obtain ⟨arr, rfl, h1⟩ := h1
          obtain ⟨g1, vs, g2, g3⟩ := pscells_rel ps as l args' hl h2
          refine ⟨by simp [PS.flat, g1, hlen], arr.toList ++ vs, AVrels_append_of _ _ _ _ h1 g2, fun cs' hl' hr' => ?_⟩
          have hk : (cs'.take ts.length).length = ts.length := by rw [List.length_take]; simp at hl'; omega
          obtain ⟨us, ws, e, r1, r2⟩ := AVrels_split_of (cs'.take ts.length) (cs'.drop ts.length) _ (by rw [List.take_append_drop]; exact hr')
          have hu : us.length = arr.toList.length := by
            rw [AVrels_len _ _ r1, hk, AVrels_len _ _ h1, hlen]
          obtain ⟨e1, e2⟩ := List.append_inj e hu.symm
          subst e1; subst e2
          simp only [PS.group, AVrels, AVrel]
          exact ⟨_, args', rfl, ⟨arr, rfl, r1⟩, g3 _ (by simp at hl' ⊢; omega) r2⟩
        · cases h
    | _ => simp [PS.cells] at h
  | [], _ :: _, cs, args, h, _ => by simp [PS.cells] at h
  | .one _ :: _, [], cs, args, h, _ => by simp [PS.cells] at h
  | .agg _ :: _, [], cs, args, h, _ => by simp [PS.cells] at h

theorem backD_rel (ps : List PS) {avs : List AV} {args : List Value} {x : Row (PS.flat ps)} (h : argsD ps avs = some x) (hr : AVrels w A β args avs) :
    AVrels w A β args (backD ps x) ∧ Row.ok (PS.flat ps) x := by
  unfold argsD at h
  split at h
  · rename_i cs hcs
    obtain ⟨g1, vs, g2, g3⟩ := pscells_rel ps avs cs args hcs hr
    have hv := toRow_rel _ _ _ _ g2 h
    exact ⟨g3 _ (by rw [rowAVs_length, g1]) (rowAVs_rel _ _ _ hv), RdV_ok _ _ _ hv⟩
  · cases h

/-- **the contract of a function over data, by its VC** -/
theorem valid_sigOf (hE : EnvOk P E) (hm : P.follows .mixedOrders = true) {f : FuncId} {fn : Func} {c : Code} (ps : List PS) {F : Row (PS.flat ps) → Prop × AV × List AB}
    (L : Row (PS.flat ps) → Nat → Option LoopAnn) (hf : P.funcs[f]? = some fn) (hb : fn.body = some c)
    (h : ∀ x, (F x).1 → Row.ok (PS.flat ps) x → vcFn E (L x) c fn.ntmps fn.results.toList (backD ps x) (F x).2.1 (F x).2.2) : Valid P f (sigOf ps F) := by
  intro w A β args avs pre res bs hA hargs hs hp
  unfold sigOf at hs
  split at hs
  · rename_i x hx
    simp only [Option.some.injEq] at hs
    obtain ⟨g1, g2⟩ := backD_rel ps hx hargs
    have hv : Valid P f (fun avs' => open Classical in if avs' = backD ps x then some (F x) else none) := by
      refine valid_of_vc hE hm (fun _ => L x) hf hb fun avs' pre' res' bs' hs' hp' => ?_
      split at hs'
      · rename_i e
        subst e
        simp only [Option.some.injEq] at hs'
        have := h x (by rw [hs']; exact hp') g2
        rw [hs'] at this
        exact this
      · cases hs'
    exact hv w A β args (backD ps x) pre res bs hA g1 (by simp only [if_true, hs]) hp
  · cases hs

/-- **recursion**: by a measure -/
theorem valid_rec {f : FuncId} (ps : List PS) (μ : Row (PS.flat ps) → Nat) {F : Row (PS.flat ps) → Prop × AV × List AB}
    (h : ∀ m, Valid P f (sigBelow ps μ m F) → Valid P f (sigBelow ps μ (m + 1) F)) : Valid P f (sigOf ps F) := by
  have hall : ∀ m, Valid P f (sigBelow ps μ m F) := by
    intro m
    induction m with
    | zero =>
      intro w A β args avs pre res bs hA hargs hs hp
      unfold sigBelow sigOf at hs
      split at hs
      · simp only [Option.some.injEq] at hs
        have := congrArg Prod.fst hs
        simp only at this
        rw [← this] at hp
        exact absurd hp.1 (Nat.not_lt_zero _)
      · cases hs
    | succ m ih => exact h m ih
  intro w A β args avs pre res bs hA hargs hs hp
  unfold sigOf at hs
  split at hs
  · rename_i x hx
    simp only [Option.some.injEq] at hs
    refine hall (μ x + 1) w A β args avs (μ x < μ x + 1 ∧ pre) res bs hA hargs ?_ ⟨Nat.lt_succ_self _, hp⟩
    unfold sigBelow sigOf
    simp only [hx, hs]
  · cases hs

theorem FnOk.of {f : FuncId} {fn : Func} {c : Code} (hf : P.funcs[f]? = some fn) (hb : fn.body = some c) (hn : (fn.name == "runtime.NumGoroutine") = false) : FnOk P f := by
  intro args w
  have hp : Sem.run P program w = .ok P w := rfl
  simp only [callFunc, Sem.run_bind, hp, Result.andThen_ok, hf, hn, hb, Option.isNone_some]
  rfl

/-- one more contract -/
def Env.cons (f : Nat) (s : Sig) (E : Env) : Env := { E with sig := fun g => bif Nat.beq g f then some s else E.sig g }
theorem EnvOk.cons (hE : EnvOk P E) {f : FuncId} {s : Sig} (h : Valid P f s) (hf : FnOk P f) : EnvOk P (E.cons f s) := by
  refine ⟨hE.tab, fun g t hg => ?_⟩
  simp only [Env.cons] at hg
  cases hb : Nat.beq g f with
  | true =>
    rw [hb] at hg
    simp only [cond_true, Option.some.injEq] at hg
    have := Nat.eq_of_beq_eq_true hb
    subst this; subst hg
    exact ⟨h, hf⟩
  | false =>
    rw [hb] at hg
    exact hE.sig g t hg
theorem EnvOk.none {T : Tab} (hT : TabOk T P) : EnvOk P { T := T, sig := fun _ => none } := ⟨hT, fun f s h => by cases h⟩
end
end Go.Vg
/-
  A VERIFIED VC GENERATOR, part ZE: the arguments of a statement, as plain data; from a law's contract to its statement.
-/
namespace Go.Vg
open Go

/-- do the parts of a type lie one behind the other? -/
def fieldsB (T : Tab) (off : Nat) : List Field → Bool
  | [] => true
  | f :: fs => Nat.beq f.offset off && (match T.find f.type with
    | some te => fieldsB T (off + te.size) fs
    | none => false)
def sumB (T : Tab) : List Field → Nat
  | [] => 0
  | f :: fs => (match T.find f.type with
    | some te => te.size
    | none => 0) + sumB T fs
def flatB (T : Tab) : Nat → TypeId → Bool
  | 0, _ => false
  | n + 1, t => match T.find t with
    | none => false
    | some te => match te.desc with
      | .slice e => flatB T n e && (match T.find e with
        | some ee => Nat.blt 0 ee.size
        | none => false)
      | .struct fs => fieldsB T 0 fs.toList && Nat.beq te.size (sumB T fs.toList) && fs.toList.all (fun f => flatB T n f.type)
      | .array k e => flatB T n e && (match T.find e with
        | some ee => Nat.beq te.size (k * ee.size)
        | none => false)
      | _ => true

section
variable {P : Program} {E : Env} {w : World} {A : Nat → Prop} {T : Tab} {H : Type} {enc : TypeId × Value → H} {sp : Nat → Bool} {held : Bool}

theorem TabOk.cells (hT : TabOk T P) {t : TypeId} {te : TE} (h : T.find t = some te) : P.cellsOf t = te.size := by
  obtain ⟨_, i, h1, h2, _⟩ := hT.ok t te h
  simp [Program.cellsOf, h1, h2]

theorem RdV_append_ex : ∀ (r1 r2 : List Ty) (c1 c2 : List Value) (x : Row r1) (y : Row r2), RdV w A r1 c1 x → RdV w A r2 c2 y → ∃ z : Row (r1 ++ r2), RdV w A (r1 ++ r2) (c1 ++ c2) z
  | [], r2, c1, c2, x, y, h1, h2 => by
    simp only [RdV] at h1; subst h1
    exact ⟨y, h2⟩
  | t :: ts, r2, c1, c2, x, y, h1, h2 => by
    simp only [RdV] at h1
    obtain ⟨v, vs, rfl, g1, g2⟩ := h1
    obtain ⟨z, hz⟩ := RdV_append_ex ts r2 vs c2 _ y g2 h2
    refine ⟨Row.mk (Row.hd x) z, ?_⟩
    show RdV w A (t :: (ts ++ r2)) (v :: (vs ++ c2)) (Row.mk (Row.hd x) z)
    simp only [RdV]
    exact ⟨v, vs ++ c2, rfl, by rw [hd_mk]; exact g1, by rw [tl_mk]; exact hz⟩

theorem build_ex {row : List Ty} {sz : Nat} {a : Addr} (hsz : 0 < sz) : ∀ (k : Nat), (∀ i, i < k → ∃ cs' r, cs'.length = sz ∧ (∀ j, j < sz → w.cell? ((a.add (i * sz)).add j) = cs'[j]?) ∧ RdV w A row cs' r) →
    ∃ (l : List (Row row)) (cs : List Value), l.length = k ∧ cs.length = k * sz ∧ RdL (RdV w A row) cs l ∧ (∀ j, j < k * sz → w.cell? (a.add j) = cs[j]?)
  | 0, _ => ⟨[], [], rfl, by simp, by simp [RdL], fun j hj => by simp at hj⟩
  | k + 1, h => by
    obtain ⟨l, cs, h1, h2, h3, h4⟩ := build_ex hsz k fun i hi => h i (by omega)
    obtain ⟨cs', r, g1, g2, g3⟩ := h k (by omega)
    refine ⟨l ++ [r], cs ++ cs', by simp [h1], by simp [h2, g1, Nat.add_mul], RdL_append l [r] cs cs' h3 ⟨cs', [], by simp, g3, by simp [RdL]⟩, fun j hj => ?_⟩
    by_cases hlt : j < k * sz
    · rw [h4 j hlt, List.getElem?_append_left (by omega)]
    · rw [List.getElem?_append_right (by omega), h2, ← g2 (j - k * sz) (by rw [Nat.add_mul] at hj; omega)]
      congr 1
      simp only [Addr.add]
      by_cases hk : k * sz = 0
      · simp [hk]
      · by_cases hj0 : j - k * sz = 0
        · have : j = k * sz := by omega
          subst this; simp [hk]
        · have hj1 : ¬ j = 0 := by omega
          rw [if_neg hj1, if_neg hk, if_neg hj0]
          simp only [Addr.mk.injEq, true_and, and_true]
          omega

theorem flat_find {n : Nat} {t : TypeId} (h : flatB T (n + 1) t = true) : ∃ te, T.find t = some te := by
  unfold flatB at h
  split at h
  · cases h
  · exact ⟨_, ‹_›⟩

/-- fields, one behind the other -/
theorem fields_ex (hT : TabOk T P) {n m : Nat} (cs : List Value)
    (ih : ∀ t row (cs : List Value) x, rowOf T n t = some row → flatB T n t = true → DataW.trod enc P w 0 sp held m t cs = some x → ∃ r : Row row, RdV w A row cs r) :
    ∀ (fs : List Field) (off : Nat) (row : List Ty), fs.foldr (fun f acc => catO (rowOf T n f.type) acc) (some []) = some row → fieldsB T off fs = true → (fs.all fun f => flatB T n f.type) = true →
      (∀ f ∈ fs, ∃ x, DataW.trod enc P w 0 sp held m f.type ((cs.drop f.offset).take (P.cellsOf f.type)) = some x) → cs.length = off + sumB T fs →
      ∃ r : Row row, RdV w A row (cs.drop off) r
  | [], off, row, hr, _, _, _, hl => by
    simp only [List.foldr_nil, Option.some.injEq] at hr
    subst hr
    exact ⟨(), by simp only [RdV]; simp [sumB] at hl; exact List.drop_eq_nil_of_le (by omega)⟩
  | f :: fs, off, row, hr, hf, ha, hx, hl => by
    simp only [List.foldr_cons] at hr
    generalize hrest : fs.foldr (fun f acc => catO (rowOf T n f.type) acc) (some []) = rest at hr
    unfold catO at hr
    split at hr
    · rename_i r1 r2 h1
      simp only [Option.some.injEq] at hr
      subst hr
      simp only [fieldsB, Bool.and_eq_true] at hf
      obtain ⟨hf1, hf2⟩ := hf
      have ho := Nat.eq_of_beq_eq_true hf1
      simp only [List.all_cons, Bool.and_eq_true] at ha
      split at hf2
      · rename_i te hte
        have hc := hT.cells hte
        obtain ⟨x, hx1⟩ := hx f (List.mem_cons_self ..)
        rw [hc, ho] at hx1
        obtain ⟨y, hy⟩ := ih _ _ _ _ h1 ha.1 hx1
        simp only [sumB, hte] at hl
        obtain ⟨z, hz⟩ := fields_ex hT cs ih fs (off + te.size) r2 hrest hf2 ha.2 (fun g hg => hx g (List.mem_cons_of_mem _ hg)) (by omega)
        obtain ⟨u, hu⟩ := RdV_append_ex _ _ _ _ _ _ hy hz
        refine ⟨u, ?_⟩
        have : (cs.drop off).take te.size ++ cs.drop (off + te.size) = cs.drop off := by
          rw [← List.drop_drop, List.take_append_drop]
        rw [this] at hu; exact hu
      · cases hf2
    · cases hr

theorem array_ex {r : List Ty} (cs : List Value) (sz : Nat) : ∀ (k off : Nat), (∀ i, i < k → ∃ x : Row r, RdV w A r ((cs.drop (off + i * sz)).take sz) x) → cs.length = off + k * sz →
    ∃ x : Row ((List.replicate k r).flatten), RdV w A ((List.replicate k r).flatten) (cs.drop off) x
  | 0, off, _, hl => ⟨(), by
    show RdV w A [] _ _
    simp only [RdV]; exact List.drop_eq_nil_of_le (by omega)⟩
  | k + 1, off, h, hl => by
    obtain ⟨x, hx⟩ := h 0 (by omega)
    rw [Nat.zero_mul, Nat.add_zero] at hx
    obtain ⟨y, hy⟩ := array_ex cs sz k (off + sz) (fun i hi => by
      obtain ⟨z, hz⟩ := h (i + 1) (by omega)
      refine ⟨z, ?_⟩
      rw [show off + sz + i * sz = off + (i + 1) * sz by rw [Nat.add_mul]; omega]; exact hz) (by rw [Nat.add_mul] at hl; omega)
    obtain ⟨u, hu⟩ := RdV_append_ex _ _ _ _ _ _ hx hy
    have e : (cs.drop off).take sz ++ cs.drop (off + sz) = cs.drop off := by rw [← List.drop_drop, List.take_append_drop]
    rw [e] at hu
    exact ⟨u, hu⟩

theorem RdV_single {t : Ty} {v : Value} {x : D t} (h : Rd w A t v x) : RdV w A [t] [v] (Row.mk x ()) := by
  simp only [RdV]
  exact ⟨v, [], rfl, by rw [hd_mk]; exact h, rfl⟩

/-- what reads as a tree, reads as plain data -/
theorem trod_rdv (hT : TabOk T P) (hA : ∀ b, b < w.heap.size → A b) : ∀ (n m : Nat) (t : TypeId) (row : List Ty) (cs : List Value) (x : DataW H × List MemPlace), rowOf T n t = some row → flatB T n t = true →
    DataW.trod enc P w 0 sp held m t cs = some x → ∃ r : Row row, RdV w A row cs r
  | 0, m, t, row, cs, x, hr, _, _ => by simp [rowOf] at hr
  | n + 1, m, t, row, cs, x, hr, hf, h => by
    unfold rowOf at hr
    unfold flatB at hf
    split at hr
    · cases hr
    · rename_i te hte
      rw [hte] at hf
      obtain ⟨hu, _⟩ := hT.ok t te hte
      have hcs := hT.cells hte
      simp only at hf
      split at hr
      · rename_i k hd
        simp only [Option.some.injEq] at hr; subst hr
        rw [hd] at hu
        obtain ⟨z, rfl, _, hw⟩ := DataW.trod_int hu h
        have hz : lo k ≤ z ∧ z ≤ hi k := by
          cases k <;> simpa [Lit.wf, IntKind.min, IntKind.max, IntKind.signed, IntKind.bits, lo, hi] using hw
        refine ⟨Row.mk (DI.ofInt k z : D (.int k)) (), RdV_single ?_⟩
        simp only [Rd, DI_ofInt hz]
        exact ⟨trivial, hz⟩
      · rename_i hd
        simp only [Option.some.injEq] at hr; subst hr
        rw [hd] at hu
        obtain ⟨b, rfl, _⟩ := DataW.trod_bool hu h
        exact ⟨Row.mk (b : D .bool) (), RdV_single (by simp only [Rd])⟩
      · rename_i hd
        simp only [Option.some.injEq] at hr; subst hr
        rw [hd] at hu
        obtain ⟨s, rfl, _, hs⟩ := DataW.trod_string hu h
        refine ⟨Row.mk (s.data.toList : D .str) (), RdV_single ?_⟩
        simp only [Rd]
        exact ⟨trivial, by simpa using hs⟩
      · rename_i e hd
        split at hr
        · rename_i r hre
          simp only [Option.some.injEq] at hr; subst hr
          rw [hd] at hu hf
          simp only [Bool.and_eq_true] at hf
          obtain ⟨hf1, hf2⟩ := hf
          split at hf2
          · rename_i ee hee
            have hsz : 0 < ee.size := by simpa using hf2
            have hce := hT.cells hee
            rcases DataW.trod_slice hu h with ⟨rfl, _⟩ | ⟨a, len, cap, elems, rest, m', _, rfl, _, hb, hl, hm, hlen, hel, _⟩
            · refine ⟨Row.mk (([] : List (Row r)) : D (.slice r)) (), RdV_single ?_⟩
              simp only [Rd]
              exact ⟨none, 0, [], rfl, by simp, by simp, by simp [RdL], by simp⟩
            · rw [hce] at hel
              obtain ⟨l, cs, g1, g2, g3, g4⟩ := build_ex (w := w) (A := A) (row := r) (a := a) hsz len fun i hi => by
                have h1 := hel i hi
                rw [List.getElem?_eq_getElem (by omega), Option.bind_eq_some_iff] at h1
                obtain ⟨cs', c1, c2⟩ := h1
                obtain ⟨_, d1, d2⟩ := World.cells?_some c1
                obtain ⟨y, hy⟩ := trod_rdv hT hA n m' e r cs' _ hre hf1 c2
                exact ⟨cs', y, d1, d2, hy⟩
              refine ⟨Row.mk (l : D (.slice r)) (), RdV_single ?_⟩
              simp only [Rd]
              refine ⟨some a, cap, cs, by rw [g1], by rw [g1]; exact hl, hm, g3, fun hne => ?_⟩
              have hpos : 0 < len * ee.size := by
                rw [← g2]; exact List.length_pos_iff.2 hne
              have h0 := g4 0 hpos
              rw [List.getElem?_eq_getElem (by omega)] at h0
              obtain ⟨b, o, s⟩ := a
              simp only [Addr.add, if_true, World.cell?] at h0
              have hs : s = none := by
                cases s with
                | none => rfl
                | some q => simp at h0; split at h0 <;> cases h0
              subst hs
              refine ⟨b, o, rfl, hA b ?_, fun j v hj => ?_⟩
              · split at h0
                · rename_i hb'
                  exact (Array.getElem?_eq_some_iff.1 hb').1
                · cases h0
              · have hjl := (List.getElem?_eq_some_iff.1 hj).1
                have := g4 j (by omega)
                rw [hj] at this
                rw [← this]
                congr 1
                simp only [Addr.add]
                split <;> simp_all
          · cases hf2
        · cases hr
      · rename_i fs hd
        rw [hd] at hu hf
        simp only [Bool.and_eq_true] at hf
        obtain ⟨⟨hf1, hf2⟩, hf3⟩ := hf
        obtain ⟨xs, m', _, _, hl, hxl, hx⟩ := DataW.trod_struct hu h
        have := fields_ex (A := A) hT cs (fun t row cs x h1 h2 h3 => trod_rdv hT hA n m' t row cs x h1 h2 h3) fs.toList 0 row hr hf1 hf3 (fun f hf => by
          obtain ⟨i, hi⟩ := List.getElem?_of_mem hf
          have := hx i f (by simpa using hi)
          rw [this]
          have hlt : i < xs.length := by rw [hxl]; have := (List.getElem?_eq_some_iff.1 hi).1; simpa using this
          exact ⟨_, List.getElem?_eq_getElem hlt⟩) (by rw [hl, hcs, Nat.eq_of_beq_eq_true hf2]; omega)
        simpa using this
      · rename_i k e hd
        rw [hd] at hu hf
        split at hr
        · rename_i r hre
          simp only [Option.some.injEq] at hr; subst hr
          simp only [Bool.and_eq_true] at hf
          obtain ⟨hf1, hf2⟩ := hf
          split at hf2
          · rename_i ee hee
            have hce := hT.cells hee
            obtain ⟨xs, m', _, _, hl, hxl, hx⟩ := DataW.trod_array hu h
            have := array_ex (w := w) (A := A) (r := r) cs ee.size k 0 (fun i hi => by
              have h1 := hx i hi
              rw [List.getElem?_eq_getElem (by omega), hce] at h1
              obtain ⟨y, hy⟩ := trod_rdv hT hA n m' e r _ _ hre hf1 h1
              exact ⟨y, by simpa using hy⟩) (by rw [hl, hcs, Nat.eq_of_beq_eq_true hf2]; omega)
            simpa using this
          · cases hf2
        · cases hr
      · cases hr
end
end Go.Vg
/-
  A VERIFIED VC GENERATOR, part ZF: from a law's contract to what its statement asks.
-/
namespace Go.Vg
open Go Go.ChangeShapes Go.WideShapes Go.ChangeAt Go.RowKit

def PS.of (T : Tab) (t : TypeId) : Option PS := match T.find t, rowOf T tyFuel t with
  | some te, some row => bif flatB T tyFuel t then (bif te.desc.isAggr then some (.agg row) else match row with
    | [u] => some (.one u)
    | _ => none) else none
  | _, _ => none
def PS.ofs (T : Tab) : List TypeId → Option (List PS)
  | [] => some []
  | t :: ts => match PS.of T t, PS.ofs T ts with
    | some p, some ps => some (p :: ps)
    | _, _ => none

section
variable {P : Program} {E : Env} {w : World} {A : Nat → Prop} {β : Nat → Value} {T : Tab} {H : Type} {enc : TypeId × Value → H} {sp : Nat → Bool} {held : Bool}

theorem toD_ofD : ∀ (t : Ty) (x : D t), ∃ y, toD t (ofD t x) = some y
  | .int k, x => ⟨_, by simp [ofD, toD]; rfl⟩
  | .bool, b => ⟨b, rfl⟩
  | .str, s => ⟨s, rfl⟩
  | .slice row, l => by
    simp only [ofD, toD, castL]
    have : Ty.beqL row row = true := by
      have : ∀ (r : List Ty), Ty.beqL r r = true := fun r => beqL_refl' r
      exact this row
    rw [dif_pos this]
    exact ⟨_, rfl⟩
where
  beq_refl' : ∀ (t : Ty), Ty.beq t t = true
    | .int k => by simp [Ty.beq]
    | .bool => rfl
    | .str => rfl
    | .slice r => by simp only [Ty.beq]; exact beqL_refl' r
  beqL_refl' : ∀ (r : List Ty), Ty.beqL r r = true
    | [] => rfl
    | t :: ts => by simp only [Ty.beqL, beq_refl' t, beqL_refl' ts, Bool.and_self]

theorem toRow_rowAVs : ∀ (ts : List Ty) (x : Row ts) (us : List Ty) (as : List AV) (z : Row us), toRow us as = some z → ∃ y, toRow (ts ++ us) (rowAVs ts x ++ as) = some y
  | [], x, us, as, z, h => ⟨z, h⟩
  | t :: ts, x, us, as, z, h => by
    obtain ⟨d, hd⟩ := toD_ofD t (Row.hd x)
    obtain ⟨y, hy⟩ := toRow_rowAVs ts (Row.tl x) us as z h
    refine ⟨Row.mk d y, ?_⟩
    show toRow (t :: (ts ++ us)) (ofD t (Row.hd x) :: (rowAVs ts (Row.tl x) ++ as)) = _
    simp only [toRow, hd, hy]

theorem open_args (hT : TabOk T P) (hA : ∀ b, b < w.heap.size → A b) : ∀ (ts : List TypeId) (ps : List PS) (vs : List Value) (ds : List (DataW H)) (q : List MemPlace), PS.ofs T ts = some ps →
    (∀ (j : Nat) t v, ts[j]? = some t → vs[j]? = some v → ∃ b, Value.okWide P w .any b t v) →
    DataW.TrodAll enc P w 0 sp held ts vs ds q → ds.length = ts.length ∧ ∃ avs cs z, AVrels w A β vs avs ∧ PS.cells ps avs = some cs ∧ toRow (PS.flat ps) cs = some z
  | [], ps, vs, ds, q, hp, _, h => by
    simp only [PS.ofs, Option.some.injEq] at hp; subst hp
    cases vs with
    | nil =>
      cases ds with
      | nil => exact ⟨rfl, [], [], (), by simp only [AVrels], rfl, rfl⟩
      | cons _ _ => simp [DataW.TrodAll] at h
    | cons _ _ => simp [DataW.TrodAll] at h
  | t :: ts, ps, vs, ds, q, hp, hok, h => by
    simp only [PS.ofs] at hp
    split at hp
    · rename_i p ps' h1 h2
      simp only [Option.some.injEq] at hp; subst hp
      match vs, ds, h with
      | v :: vs, d :: ds, h =>
        simp only [DataW.TrodAll] at h
        obtain ⟨q1, q2, g1, g2, _⟩ := h
        obtain ⟨k1, avs, cs, z, k2, k3, k4⟩ := open_args hT hA ts ps' vs ds q2 h2 (fun j t' v' hj hv => hok (j + 1) t' v' (by simpa using hj) (by simpa using hv)) g2
        refine ⟨by simp [k1], ?_⟩
        obtain ⟨b, hv⟩ := hok 0 t v rfl rfl
        obtain ⟨m, hm⟩ := g1
        unfold PS.of at h1
        split at h1
        · rename_i te row hte hrow
          cases hfl : flatB T tyFuel t with
          | false => rw [hfl] at h1; cases h1
          | true =>
            rw [hfl] at h1
            simp only [cond_true] at h1
            obtain ⟨hu, _⟩ := hT.ok t te hte
            obtain ⟨r, hr⟩ := trod_rdv (A := A) hT hA tyFuel m t row _ _ hrow hfl hm
            have hrel := rowAVs_rel (β := β) _ _ _ hr
            cases hag : te.desc.isAggr with
            | true =>
              rw [hag] at h1
              simp only [cond_true, Option.some.injEq] at h1
              subst h1
              have : ∃ arr : Array Value, v = .agg arr := by
                unfold Value.okWide at hv
                rw [hu] at hv
                cases hd : te.desc with
                | struct fs => rw [hd] at hv; obtain ⟨arr, e, _⟩ := hv; exact ⟨arr, e⟩
                | array k e => rw [hd] at hv; obtain ⟨arr, e, _⟩ := hv; exact ⟨arr, e⟩
                | _ => rw [hd] at hag; cases hag
              obtain ⟨arr, rfl⟩ := this
              obtain ⟨y, hy⟩ := toRow_rowAVs row r _ _ z k4
              refine ⟨.agg (rowAVs row r) :: avs, rowAVs row r ++ cs, y, ?_, ?_, hy⟩
              · simp only [AVrels, AVrel]
                exact ⟨_, vs, rfl, ⟨arr, rfl, hrel⟩, k2⟩
              · simp only [PS.cells, rowAVs_length, k3, nbeq_true, cond_true]
            | false =>
              rw [hag] at h1
              simp only [cond_false] at h1
              split at h1
              · rename_i u
                simp only [Option.some.injEq] at h1
                subst h1
                obtain ⟨y, hy⟩ := toRow_rowAVs [u] r _ _ z k4
                have hc : v.cells.toList = [v] := by
                  unfold Value.okWide at hv
                  rw [hu] at hv
                  cases v with
                  | agg arr =>
                    exfalso
                    cases hd : te.desc <;> rw [hd] at hu hv hag <;> simp_all [Cell.okWide, Cell.ok, TypeDesc.isAggr]
                  | _ => rfl
                rw [hc] at hrel
                simp only [rowAVs, AVrels] at hrel
                obtain ⟨v', vs', e, e1, _⟩ := hrel
                simp only [List.cons.injEq] at e
                obtain ⟨rfl, _⟩ := e
                refine ⟨ofD u (Row.hd r) :: avs, ofD u (Row.hd r) :: cs, y, ?_, ?_, hy⟩
                · simp only [AVrels]
                  exact ⟨_, vs, rfl, e1, k2⟩
                · simp only [PS.cells, k3]
              · cases h1
        · cases h1
      | [], _ :: _, h => simp [DataW.TrodAll] at h
      | [], [], h => simp [DataW.TrodAll] at h
      | _ :: _, [], h => simp [DataW.TrodAll] at h
    · cases hp

theorem args_stay (hl : laidOutB P = true) {W W' : World} (hb : Below W.heap.size W W') : ∀ (ts : List TypeId) (vs : List Value) (ds : List (DataW H)) (q : List MemPlace), (∀ t ∈ ts, P.readableRec t = true ∧ t < P.types.size) →
    DataW.TrodAll enc P W 0 (fun _ => true) true ts vs ds q → (∀ x ∈ q, x.block < W.heap.size) → DataW.TrodAll enc P W' 0 (fun b => decide (b < W.heap.size)) true ts vs ds q
  | [], [], [], q, _, h, _ => h
  | t :: ts, v :: vs, d :: ds, q, ht, h, hq => by
    simp only [DataW.TrodAll] at h ⊢
    obtain ⟨q1, q2, g1, g2, rfl⟩ := h
    exact ⟨q1, q2, Below.trod hl (ht t (List.mem_cons_self ..)).1 (ht t (List.mem_cons_self ..)).2 g1 hb (fun x hx => hq x (List.mem_append_left _ hx)),
      args_stay hl hb ts vs ds q2 (fun u hu => ht u (List.mem_cons_of_mem _ hu)) g2 (fun x hx => hq x (List.mem_append_right _ hx)), rfl⟩
  | [], _ :: _, _, _, _, h, _ => by simp [DataW.TrodAll] at h
  | [], [], _ :: _, _, _, h, _ => by simp [DataW.TrodAll] at h
  | _ :: _, [], _, _, _, h, _ => by simp [DataW.TrodAll] at h
  | _ :: _, _ :: _, [], _, _, h, _ => by simp [DataW.TrodAll] at h

/-- **a law that returns true, whatever the input**: what its statement asks of a call -/
theorem law_contract (hT : TabOk T P) (hl : laidOutB P = true) {f : FuncId} {fn : Func} {s : ChangeSpec} {ps : List PS} (hv : Valid P f (sigOf ps fun _ => (True, .bool true, [])))
    (hps : PS.ofs T fn.params.toList = some ps) (hrows : (fn.params.toList.all fun t => P.readableRec t && decide (t < P.types.size)) = true) {tb : TypeId} (hres : fn.resultTypes = #[tb]) (htb : P.underlying tb = some .bool)
    (hsv : s.vars = []) (hs : ∀ (H : Type) (ds : List (DataW H)), ds.length = fn.params.toList.length → s.fn H ds = { results := [.lit (.bool true)], args := ds })
    {W : World} {base : Nat} {args : Array Value} {ds gs : List (DataW H)} {before : List MemPlace}
    (hval : ∀ (j : Nat) t v, fn.params[j]? = some t → args[j]? = some v → Value.okWide P W .any base t v)
    (hW : DataW.Whole enc P fn.params.toList s.vars false W args.toList ds gs before) :
    Calls P f args W fun e W' => ∃ v, e = .returned v ∧ s.post enc P fn false true false false W args v W' := by
  have hW' := hW
  obtain ⟨p, q, hA, hV, rfl, hfz, hnd⟩ := hW
  rw [hsv] at hV
  have hV' : gs = [] ∧ q = [] := by
    cases gs with
    | nil => exact ⟨rfl, by simpa [DataW.TrodVars] using hV⟩
    | cons _ _ => simp [DataW.TrodVars] at hV
  obtain ⟨rfl, rfl⟩ := hV'
  simp only [List.append_nil] at hW'
  obtain ⟨hlen, avs, cs, z, k1, k2, k3⟩ := open_args (β := fun _ => undef) (A := fun b => b < W.heap.size) hT (fun b hb => hb) _ ps _ _ _ hps (fun j t v hj hv => ⟨base, hval j t v (by simpa using hj) (by simpa using hv)⟩) hA
  have hc := hv W (fun b => b < W.heap.size) (fun _ => undef) args.toList avs True (.bool true) [] (fun b hb => hb) k1 (by simp only [sigOf, argsD, k2, k3]) trivial
  rw [Array.toArray_toList] at hc
  refine hc.mono ?_
  rintro e W' ⟨v, rfl, A', β', hp⟩
  have hvt := hp.res
  simp only [AVrel] at hvt
  subst hvt
  have hb : Below W.heap.size W W' := ⟨hp.os, hp.tape, hp.output, hp.size, fun k hk => hp.same k hk⟩
  have hlt : ∀ x ∈ p, x.block < W.heap.size := fun x hx => by simpa using hW'.lt x hx
  rw [List.all_eq_true] at hrows
  have hargs := args_stay hl hb fn.params.toList args.toList ds p (fun t ht => by
    have := hrows t ht
    simp only [Bool.and_eq_true, decide_eq_true_eq] at this
    exact this) hA hlt
  have hsp := hs H ds hlen
  refine ⟨_, rfl, ds, [], p, [], p, [], hW', ?_, ?_, ?_, hb.frame _, fun h => by cases h⟩
  · rw [hres]
    simp only [List.append_nil, hsp, Value.resultList]
    exact trodAll_mk1 (shut_bool htb true)
  · simp only [List.append_nil, hsp]
    exact hargs
  · rw [hsv]
    simp only [List.append_nil, hsp]
    rfl
end
end Go.Vg
/-
  Plain laws for the VCs: tests, lists.
-/
namespace Go.V
theorem bor {a b : Bool} : ((bif a then true else b) = true) = (a = true ∨ b = true) := by cases a <;> simp
theorem bor_f {a b : Bool} : ((bif a then true else b) = false) = (a = false ∧ b = false) := by cases a <;> simp
theorem band {a b : Bool} : ((bif a then b else false) = true) = (a = true ∧ b = true) := by cases a <;> simp
theorem band_f {a b : Bool} : ((bif a then b else false) = false) = (a = false ∨ b = false) := by cases a <;> simp
end Go.V
namespace Go.S
/-! plain laws of lists -/
theorem take_succ_getD {α : Type} (l : List α) (n : Nat) (d : α) (h : n < l.length) : l.take (n + 1) = l.take n ++ [l.getD n d] := by
  rw [List.take_add_one, List.getElem?_eq_getElem h]; simp [List.getD, List.getElem?_eq_getElem h]
theorem getD_mem {α : Type} (l : List α) (n : Nat) (d : α) (h : n < l.length) : l.getD n d ∈ l := by
  simp [List.getD, List.getElem?_eq_getElem h]
theorem fold_inv {α β : Type} {P : α → Prop} {f : α → β → α} : ∀ (l : List β) (a : α), P a → (∀ a x, x ∈ l → P a → P (f a x)) → P (l.foldl f a)
  | [], _, h, _ => h
  | x :: l, a, h, hs => fold_inv l (f a x) (hs a x (List.mem_cons_self ..) h) fun a y hy => hs a y (List.mem_cons_of_mem _ hy)
theorem mem_set {α : Type} {l : List α} {i : Nat} {a b : α} (h : b ∈ l.set i a) : b = a ∨ b ∈ l := by
  rcases List.mem_or_eq_of_mem_set h with h | h
  · exact .inr h
  · exact .inl h
theorem map_id_on {α : Type} {f : α → α} : ∀ {l : List α}, (∀ x ∈ l, f x = x) → l.map f = l
  | [], _ => rfl
  | x :: l, h => by rw [List.map_cons, h x (List.mem_cons_self ..), map_id_on fun y hy => h y (List.mem_cons_of_mem _ hy)]
end Go.S
namespace Go.S
theorem u8_back (x : UInt8) : UInt8.ofNat (Int.toNat (x.toNat : Int)) = x := by simp
/-- a row of zeros is filled from its front -/
theorem fill_set {α : Type} (l : List α) (z x : α) (n m : Nat) (hl : l.length = n) (hn : n < m) : (l ++ List.replicate (m - n) z).set n x = l ++ [x] ++ List.replicate (m - (n + 1)) z := by
  rw [List.set_append_right _ _ (by omega), hl, Nat.sub_self, show m - n = (m - (n + 1)) + 1 by omega, List.replicate_succ, List.set_cons_zero]
  simp
end Go.S
