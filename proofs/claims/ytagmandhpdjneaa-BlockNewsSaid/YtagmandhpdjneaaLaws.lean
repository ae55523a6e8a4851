import Derived.Test.YtagmandhpdjneaaVgThree
set_option linter.unusedVariables false
/-
  Layer 22 (block): what the functions compute, as plain functions; plain laws.
-/
namespace Go.S
abbrev Bs := List (List UInt8)
abbrev Ws := List (Int × List UInt8)
def right (bl : Bs) (wt : Ws) : Bool := decide (bl.length ≤ 4096) && decide (wt.length ≤ 1000) && bl.all (fun b => b.length == 64) && wt.all (fun x => decide (0 ≤ x.1) && decide (x.1 < bl.length) && x.2.length == 64)
def vB (bl : Bs) (wt : Ws) : Bs := if right bl wt then bl else []
def vW (bl : Bs) (wt : Ws) : Ws := if right bl wt then wt else []
def copied (b : List UInt8) : List UInt8 := b.take 64 ++ List.replicate (64 - b.length) 0
def zeros (n : Nat) : List UInt8 := List.replicate n 0
def zeros64 (n : Int) : List UInt8 := List.replicate (n.toNat * 64) 0
def blankPre (n : Int) : Prop := 0 ≤ n ∧ n ≤ 4096
def storedPre (bl : Bs) : Prop := bl.length ≤ 4096 ∧ ∀ b ∈ bl, b.length = 64
def flat (bl : Bs) : List UInt8 := bl.flatten
/-- one write in place -/
def put1 (c : Bs) (x : Int × List UInt8) : Bs := c.set x.1.toNat x.2
def putN (wt : Ws) (bl : Bs) : Bs := wt.foldl put1 bl
/-- how many bytes of write i are kept -/
def kept (keep : List Int) (i : Nat) : Nat := match keep[i]? with
  | some k => (min (max k 0) 64).toNat
  | none => 0
def tear1 (keep : List Int) (c : Bs) (x : Nat × Int × List UInt8) : Bs := c.set x.2.1.toNat (x.2.2.take (kept keep x.1) ++ (c.getD x.2.1.toNat []).drop (kept keep x.1))
def tearN (keep : List Int) (wt : Ws) (bl : Bs) : Bs := ((List.range wt.length).zip wt).foldl (tear1 keep) bl
/-- what a block reads -/
def cont (wt : Ws) (i : Int) (c : List UInt8) : List UInt8 := wt.foldl (fun c x => if x.1 = i then x.2 else c) c
def len {α : Type} (l : List α) : Nat := l.length
def meas (m n : Nat) : Nat := m - n
def minv {α : Type} (l : List α) (n : Nat) : Prop := n ≤ l.length
def rinv (bl : Bs) (n : Nat) : Prop := n ≤ bl.length ∧ ∀ b ∈ bl.take n, b.length = 64
def winv (bl : Bs) (wt : Ws) (n : Nat) : Prop := n ≤ wt.length ∧ ∀ x ∈ wt.take n, 0 ≤ x.1 ∧ x.1 < bl.length ∧ x.2.length = 64
def natLe (a b : Nat) : Prop := a ≤ b
def storedAt (bl : Bs) (n : Nat) : List UInt8 := (bl.take n).flatten ++ List.replicate ((bl.length - n) * 64) 0
def syncAt (bl : Bs) (wt : Ws) (n : Nat) : List UInt8 := (putN (wt.take n) bl).flatten
def crashAt (keep : List Int) (bl : Bs) (wt : Ws) (n : Nat) : List UInt8 := (tearN keep (wt.take n) bl).flatten
def waitsAt (wt : Ws) (n : Nat) : Ws := (wt.take n).map fun x => (x.1, copied x.2)
def contAt (wt : Ws) (i : Int) (c : List UInt8) (n : Nat) : List UInt8 := cont (wt.take n) i c
def blk (bl : Bs) (i : Int) : List UInt8 := bl.getD i.toNat []
/-- Write's own test: the number of the error -/
def wErr (bl : Bs) (wt : Ws) (i : Int) (b : List UInt8) : Int := if i < 0 ∨ (vB bl wt).length ≤ i ∨ b.length ≠ 64 then 1 else if 1000 ≤ (vW bl wt).length then 3 else 0
def wB (bl : Bs) (wt : Ws) : Bs := vB bl wt
def wW (bl : Bs) (wt : Ws) (i : Int) (b : List UInt8) : Ws := if wErr bl wt i b = 0 then vW bl wt ++ [(i, b)] else vW bl wt
def rErr (bl : Bs) (wt : Ws) (i : Int) : Int := if i < 0 ∨ (vB bl wt).length ≤ i then 1 else 0
def rRes (bl : Bs) (wt : Ws) (i : Int) : List UInt8 := if rErr bl wt i = 0 then cont (vW bl wt) i (blk (vB bl wt) i) else []
def sync (bl : Bs) (wt : Ws) : Bs := putN (vW bl wt) (vB bl wt)
def crash (bl : Bs) (wt : Ws) (keep : List Int) : Bs := tearN keep (vW bl wt) (vB bl wt)
def nErr (n : Int) : Int := if n < 0 ∨ 4096 < n then 1 else 0
def nRes (n : Int) : Bs := if n < 0 ∨ 4096 < n then [] else List.replicate n.toNat (List.replicate 64 0)
def lenI {α : Type} (l : List α) : Int := l.length
/-! plain laws of lists -/
theorem bif_false {b c : Bool} (h : (bif b then true else c) = false) : b = false ∧ c = false := by cases b <;> simp_all
theorem bif_true {b c : Bool} (h : (bif b then true else c) = true) : b = true ∨ c = true := by cases b <;> simp_all

theorem right_iff {bl : Bs} {wt : Ws} : right bl wt = true ↔ bl.length ≤ 4096 ∧ wt.length ≤ 1000 ∧ (∀ b ∈ bl, b.length = 64) ∧ (∀ x ∈ wt, 0 ≤ x.1 ∧ x.1 < bl.length ∧ x.2.length = 64) := by
  simp [right, and_assoc]
theorem right_false {bl : Bs} {wt : Ws} (h : ¬ (bl.length ≤ 4096 ∧ wt.length ≤ 1000 ∧ (∀ b ∈ bl, b.length = 64) ∧ (∀ x ∈ wt, 0 ≤ x.1 ∧ x.1 < bl.length ∧ x.2.length = 64))) : false = right bl wt := by
  cases hr : right bl wt with
  | false => rfl
  | true => exact absurd (right_iff.1 hr) h
theorem vB_right (bl : Bs) (wt : Ws) : right (vB bl wt) (vW bl wt) = true := by
  unfold vB vW; cases h : right bl wt <;> simp [h]; rfl
theorem vB_len (bl : Bs) (wt : Ws) : (vB bl wt).length ≤ 4096 := (right_iff.1 (vB_right bl wt)).1
theorem vW_len (bl : Bs) (wt : Ws) : (vW bl wt).length ≤ 1000 := (right_iff.1 (vB_right bl wt)).2.1
theorem vB_all (bl : Bs) (wt : Ws) : ∀ b ∈ vB bl wt, b.length = 64 := (right_iff.1 (vB_right bl wt)).2.2.1
theorem vW_all (bl : Bs) (wt : Ws) : ∀ x ∈ vW bl wt, 0 ≤ x.1 ∧ x.1 < (vB bl wt).length ∧ x.2.length = 64 := (right_iff.1 (vB_right bl wt)).2.2.2
theorem copied_of {b : List UInt8} (h : b.length = 64) : copied b = b := by
  simp [copied, h, List.take_of_length_le]
theorem flatten_length : ∀ (l : Bs), (∀ b ∈ l, b.length = 64) → l.flatten.length = l.length * 64
  | [], _ => rfl
  | b :: l, h => by
    have h1 := h b (List.mem_cons_self ..)
    have h2 := flatten_length l fun c hc => h c (List.mem_cons_of_mem _ hc)
    simp [h1, h2]; omega
theorem flatten_take : ∀ (l : Bs) (n : Nat), (∀ b ∈ l, b.length = 64) → (l.flatten).take (n * 64) = (l.take n).flatten
  | [], _, _ => by simp
  | b :: l, 0, _ => by simp
  | b :: l, n + 1, h => by
    have h1 := h b (List.mem_cons_self ..)
    have h2 := flatten_take l n fun c hc => h c (List.mem_cons_of_mem _ hc)
    simp only [List.flatten_cons, List.take_succ_cons, List.take_append, h1]
    rw [show (n + 1) * 64 - 64 = n * 64 by omega, h2, List.take_of_length_le (by omega)]
theorem flatten_drop : ∀ (l : Bs) (n : Nat), (∀ b ∈ l, b.length = 64) → (l.flatten).drop (n * 64) = (l.drop n).flatten
  | [], _, _ => by simp
  | b :: l, 0, _ => by simp
  | b :: l, n + 1, h => by
    have h1 := h b (List.mem_cons_self ..)
    have h2 := flatten_drop l n fun c hc => h c (List.mem_cons_of_mem _ hc)
    simp only [List.flatten_cons, List.drop_succ_cons, List.drop_append, h1]
    rw [show (n + 1) * 64 - 64 = n * 64 by omega, h2, List.drop_of_length_le (by omega), List.nil_append]
theorem grid_flatten (l : Bs) (h : ∀ b ∈ l, b.length = 64) : Vg.gridOf 64 l.length l.flatten = l := by
  refine List.ext_getElem (by simp [Vg.gridOf]) fun i h1 h2 => ?_
  simp only [Vg.gridOf, List.getElem_map, List.getElem_range]
  rw [flatten_drop l i h, List.drop_eq_getElem_cons h2, List.flatten_cons, List.take_append, h _ (List.getElem_mem h2)]
  simp [h _ (List.getElem_mem h2), List.take_of_length_le]
theorem grid_zeros (n : Nat) : Vg.gridOf 64 n (List.replicate (n * 64) (0 : UInt8)) = List.replicate n (List.replicate 64 0) := by
  have := grid_flatten (List.replicate n (List.replicate 64 0)) (by intro b hb; rw [(List.mem_replicate.1 hb).2, List.length_replicate])
  rwa [List.length_replicate, List.flatten_replicate_replicate] at this
/-- a piece of a row of blocks is written anew -/
theorem flatten_put (l : Bs) (i : Nat) (p : List UInt8) (h : ∀ b ∈ l, b.length = 64) (hi : i < l.length) (hp : p.length ≤ 64) :
    l.flatten.take (i * 64) ++ p ++ l.flatten.drop (i * 64 + p.length) = (l.set i (p ++ (l.getD i []).drop p.length)).flatten := by
  have h64 := h _ (List.getElem_mem hi)
  rw [flatten_take l i h, ← List.drop_drop, flatten_drop l i h, List.drop_eq_getElem_cons hi, List.flatten_cons, List.drop_append, h64, show p.length - 64 = 0 by omega, List.drop_zero,
    List.set_eq_take_append_cons_drop, if_pos hi, List.getD, List.getElem?_eq_getElem hi, Option.getD_some, List.flatten_append, List.flatten_cons]
  simp only [List.append_assoc]
theorem cont_len : ∀ (wt : Ws) {bl : Bs}, (∀ x ∈ wt, 0 ≤ x.1 ∧ x.1 < bl.length ∧ x.2.length = 64) → ∀ (i : Int) (c : List UInt8), c.length = 64 → (cont wt i c).length = 64
  | [], _, _, i, c, hc => hc
  | x :: wt, bl, h, i, c, hc => by
    have := cont_len wt (bl := bl) (fun y hy => h y (List.mem_cons_of_mem _ hy)) i (if x.1 = i then x.2 else c) (by split; exact (h x (List.mem_cons_self ..)).2.2; exact hc)
    simpa only [cont, List.foldl_cons] using this
theorem putN_len : ∀ (wt : Ws) (bl : Bs), (putN wt bl).length = bl.length
  | [], _ => rfl
  | x :: wt, bl => by
    have := putN_len wt (put1 bl x)
    simpa only [putN, List.foldl_cons, put1, List.length_set] using this
theorem putN_all : ∀ (wt : Ws), (∀ x ∈ wt, x.2.length = 64) → ∀ (bl : Bs), (∀ b ∈ bl, b.length = 64) → ∀ b ∈ putN wt bl, b.length = 64
  | [], _, _, h => h
  | x :: wt, hw, bl, h => by
    have := putN_all wt (fun y hy => hw y (List.mem_cons_of_mem _ hy)) (put1 bl x) (fun b hb => by
      rcases mem_set hb with rfl | hb
      · exact hw x (List.mem_cons_self ..)
      · exact h b hb)
    simpa only [putN, List.foldl_cons] using this
theorem kept_le (keep : List Int) (i : Nat) : kept keep i ≤ 64 := by
  unfold kept; split <;> omega
theorem zip_range_succ (wt : Ws) (n : Nat) (h : n < wt.length) : (List.range (wt.take (n + 1)).length).zip (wt.take (n + 1)) = (List.range (wt.take n).length).zip (wt.take n) ++ [(n, wt.getD n (0, []))] := by
  rw [take_succ_getD wt n (0, []) h, List.length_append, List.length_take, Nat.min_eq_left (by omega), List.length_singleton, List.range_succ, List.zip_append (by simp; omega)]
  rfl
theorem tearN_succ (keep : List Int) (wt : Ws) (bl : Bs) (n : Nat) (h : n < wt.length) : tearN keep (wt.take (n + 1)) bl = tear1 keep (tearN keep (wt.take n) bl) (n, wt.getD n (0, [])) := by
  simp only [tearN, zip_range_succ wt n h, List.foldl_append, List.foldl_cons, List.foldl_nil]
theorem tear1_len (keep : List Int) (c : Bs) (x : Nat × Int × List UInt8) : (tear1 keep c x).length = c.length := by simp [tear1]
theorem tearN_len (keep : List Int) (wt : Ws) (bl : Bs) : (tearN keep wt bl).length = bl.length :=
  fold_inv (P := fun c : Bs => c.length = bl.length) _ _ rfl fun a x _ h => by rw [tear1_len]; exact h
theorem tearN_all (keep : List Int) {n : Nat} (wt : Ws) (hw : ∀ x ∈ wt, 0 ≤ x.1 ∧ x.1 < (n : Int) ∧ x.2.length = 64) (bl : Bs) (h : ∀ b ∈ bl, b.length = 64) : ∀ b ∈ tearN keep wt bl, b.length = 64 := by
  refine fold_inv (P := fun c : Bs => ∀ b ∈ c, b.length = 64) _ _ h fun c x hx hc b hb => ?_
  by_cases hi : x.2.1.toNat < c.length
  · rcases mem_set hb with rfl | hb
    · have h1 := (hw x.2 (List.of_mem_zip hx).2).2.2
      have h2 := kept_le keep x.1
      have := hc _ (getD_mem c x.2.1.toNat [] hi)
      simp only [List.length_append, List.length_take, List.length_drop]
      omega
    · exact hc b hb
  · simp only [tear1, List.set_eq_of_length_le (Nat.not_lt.1 hi)] at hb
    exact hc b hb
end Go.S
namespace Go.S
/-! the document's side, and the statements -/
def ones (x : UInt8) : List UInt8 := List.replicate 64 x
def onesAt (x : UInt8) (n : Nat) : List UInt8 := List.replicate n x ++ List.replicate (64 - n) 0
def great (bl : Bs) (wt : Ws) : Bool := bl.any (fun b => decide (200 < b.length)) || wt.any (fun x => decide (200 < x.2.length)) || decide (200 < bl.length) || decide (200 < wt.length)
def gInv1 (bl : Bs) (n : Nat) : Prop := n ≤ bl.length ∧ ∀ b ∈ bl.take n, b.length ≤ 200
def gInv2 (bl : Bs) (wt : Ws) (n : Nat) : Prop := n ≤ wt.length ∧ (∀ b ∈ bl, b.length ≤ 200) ∧ ∀ x ∈ wt.take n, x.2.length ≤ 200
def same (a1 : Bs) (a2 : Ws) (b1 : Bs) (b2 : Ws) : Bool := decide (a1 = b1) && decide (a2 = b2)
def sInv1 (a1 b1 : Bs) (n : Nat) : Prop := n ≤ a1.length ∧ a1.take n = b1.take n
def sInv2 (a1 b1 : Bs) (a2 b2 : Ws) (n : Nat) : Prop := a1 = b1 ∧ n ≤ a2.length ∧ a2.take n = b2.take n
def zs64 (n : Nat) : Bs := List.replicate n (List.replicate 64 0)
def blankAll (n : Int) : Bs := zs64 n.toNat
def lastsInv (bl : Bs) (i : Int) (n : Nat) (wt : Ws) : Prop := n ≤ 60 ∧ right bl wt = true ∧ ∀ x ∈ wt, x.1 ≠ i
def tearsInv (bl : Bs) (i : Int) (b : List UInt8) (n : Nat) (wt : Ws) : Prop := n ≤ 60 ∧ right bl wt = true ∧ ∃ l, wt = (i, b) :: l ∧ ∀ x ∈ l, x.1 ≠ i
def lePre (n : Int) (m : Int) : Prop := n ≤ m
def leN (n m : Nat) : Prop := n ≤ m
def inRange (i : Int) (bl : Bs) : Prop := 0 ≤ i ∧ i < bl.length
end Go.S
namespace Go.S
theorem vB_of {bl : Bs} {wt : Ws} (h : right bl wt = true) : vB bl wt = bl := by simp [vB, h]
theorem vW_of {bl : Bs} {wt : Ws} (h : right bl wt = true) : vW bl wt = wt := by simp [vW, h]
theorem right_nil {bl : Bs} (h1 : bl.length ≤ 4096) (h2 : ∀ b ∈ bl, b.length = 64) : right bl [] = true := right_iff.2 ⟨h1, by simp, h2, by simp⟩
theorem sync_len (bl : Bs) (wt : Ws) : (sync bl wt).length = (vB bl wt).length := putN_len _ _
theorem crash_len (bl : Bs) (wt : Ws) (keep : List Int) : (crash bl wt keep).length = (vB bl wt).length := tearN_len _ _ _
theorem sync_right (bl : Bs) (wt : Ws) : right (sync bl wt) [] = true :=
  right_nil (by rw [sync_len]; exact vB_len bl wt) (putN_all _ (fun x hx => (vW_all bl wt x hx).2.2) _ (vB_all bl wt))
theorem crash_right (bl : Bs) (wt : Ws) (keep : List Int) : right (crash bl wt keep) [] = true :=
  right_nil (by rw [crash_len]; exact vB_len bl wt) (tearN_all keep _ (fun x hx => vW_all bl wt x hx) _ (vB_all bl wt))
theorem sync_id {bl : Bs} (h : right bl [] = true) : sync bl [] = bl := by simp [sync, vB_of h, vW_of h, putN]
theorem crash_id {bl : Bs} (h : right bl [] = true) (keep : List Int) : crash bl [] keep = bl := by simp [crash, vB_of h, vW_of h, tearN]
theorem rErr_nil {bl : Bs} (h : right bl [] = true) (i : Int) : rErr bl [] i = if i < 0 ∨ bl.length ≤ i then 1 else 0 := by simp only [rErr, vB_of h]
theorem rRes_nil {bl : Bs} (h : right bl [] = true) (i : Int) : rRes bl [] i = if i < 0 ∨ bl.length ≤ i then [] else blk bl i := by
  simp only [rRes, rErr_nil h, vB_of h, vW_of h, cont, List.foldl_nil]
  split <;> simp
theorem blk_set (bl : Bs) (j i : Int) (b : List UInt8) (hj : 0 ≤ j ∧ j < bl.length) (hi : 0 ≤ i ∧ i < bl.length) : blk (bl.set j.toNat b) i = if j = i then b else blk bl i := by
  simp only [blk, List.getD, List.getElem?_set]
  by_cases h : j = i
  · subst h; simp [show j.toNat < bl.length by omega]
  · have : j.toNat ≠ i.toNat := by omega
    simp [h, this]
theorem putN_blk : ∀ (wt : Ws) (bl : Bs) (i : Int), (∀ x ∈ wt, 0 ≤ x.1 ∧ x.1 < bl.length) → 0 ≤ i ∧ i < bl.length → blk (putN wt bl) i = cont wt i (blk bl i)
  | [], _, _, _, _ => rfl
  | x :: wt, bl, i, h, hi => by
    have hx := h x (List.mem_cons_self ..)
    have := putN_blk wt (put1 bl x) i (fun y hy => by
      have := h y (List.mem_cons_of_mem _ hy)
      simpa only [put1, List.length_set] using this) (by simpa only [put1, List.length_set] using hi)
    simp only [putN, List.foldl_cons, cont] at this ⊢
    rw [this, put1, blk_set bl x.1 i x.2 hx hi]
theorem like (bl : Bs) (wt : Ws) (i : Int) : rRes (sync bl wt) [] i = rRes bl wt i ∧ rErr (sync bl wt) [] i = rErr bl wt i := by
  have hr := sync_right bl wt
  rw [rRes_nil hr, rErr_nil hr, sync_len]
  by_cases h : i < 0 ∨ (vB bl wt).length ≤ i
  · simp [rRes, rErr, h]
  · refine ⟨?_, by simp only [rErr]⟩
    simp only [rRes, rErr, if_neg h, if_true, sync]
    exact putN_blk _ _ i (fun x hx => ⟨(vW_all bl wt x hx).1, (vW_all bl wt x hx).2.1⟩) (by omega)
theorem write_right {bl : Bs} {wt : Ws} (h : right bl wt = true) (j : Int) (b : List UInt8) : right bl (wW bl wt j b) = true := by
  simp only [wW, vW_of h]
  by_cases he : wErr bl wt j b = 0
  · rw [if_pos he]
    simp only [wErr, vB_of h, vW_of h] at he
    split at he
    · cases he
    · split at he
      · cases he
      · have hr := right_iff.1 h
        refine right_iff.2 ⟨hr.1, by simp; omega, hr.2.2.1, fun x hx => ?_⟩
        rcases List.mem_append.1 hx with hx | hx
        · exact hr.2.2.2 x hx
        · simp only [List.mem_singleton] at hx; subst hx
          simp only; omega
  · rw [if_neg he]; exact h
theorem write_mem {bl : Bs} {wt : Ws} (h : right bl wt = true) (j : Int) (b : List UInt8) : wW bl wt j b = wt ∨ wW bl wt j b = wt ++ [(j, b)] := by
  simp only [wW, vW_of h]
  split
  · exact .inr rfl
  · exact .inl rfl
theorem lasts_step {bl : Bs} {wt : Ws} {i j : Int} {n : Nat} (b : List UInt8) (h : lastsInv bl i n wt) (hn : n < 60) (hj : j ≠ i) : lastsInv bl i (n + 1) (wW bl wt j b) := by
  refine ⟨by omega, write_right h.2.1 j b, fun x hx => ?_⟩
  rcases write_mem h.2.1 j b with e | e <;> rw [e] at hx
  · exact h.2.2 x hx
  · rcases List.mem_append.1 hx with hx | hx
    · exact h.2.2 x hx
    · simp only [List.mem_singleton] at hx; subst hx; exact hj
theorem lasts_skip {bl : Bs} {wt : Ws} {i : Int} {n : Nat} (h : lastsInv bl i n wt) (hn : n < 60) : lastsInv bl i (n + 1) wt := ⟨by omega, h.2⟩
theorem tear_other (keep : List Int) (i : Int) : ∀ (l : List (Nat × Int × List UInt8)) (bl : Bs), (∀ x ∈ l, 0 ≤ x.2.1 ∧ x.2.1 < bl.length ∧ x.2.1 ≠ i) → 0 ≤ i ∧ i < bl.length → blk (l.foldl (tear1 keep) bl) i = blk bl i
  | [], _, _, _ => rfl
  | x :: l, bl, h, hi => by
    have hx := h x (List.mem_cons_self ..)
    rw [List.foldl_cons, tear_other keep i l (tear1 keep bl x) (fun y hy => by rw [tear1_len]; exact h y (List.mem_cons_of_mem _ hy)) (by rw [tear1_len]; exact hi)]
    simp only [tear1]
    rw [blk_set bl x.2.1 i _ ⟨hx.1, hx.2.1⟩ hi, if_neg hx.2.2]
theorem crash_other {bl : Bs} {wt : Ws} (h : right bl wt = true) (keep : List Int) (i : Int) (hi : 0 ≤ i ∧ i < bl.length) (ho : ∀ x ∈ wt, x.1 ≠ i) : blk (crash bl wt keep) i = blk bl i := by
  simp only [crash, vB_of h, vW_of h, tearN]
  refine tear_other keep i _ bl (fun x hx => ?_) hi
  have hm := (List.of_mem_zip hx).2
  exact ⟨((right_iff.1 h).2.2.2 _ hm).1, ((right_iff.1 h).2.2.2 _ hm).2.1, ho _ hm⟩
theorem lasts_end {bl : Bs} {wt : Ws} {i : Int} {n : Nat} (h : lastsInv bl i n wt) (h0 : right bl [] = true) (keep : List Int) :
    rRes (crash bl wt keep) [] i = rRes bl [] i ∧ rErr (crash bl wt keep) [] i = rErr bl [] i := by
  have hr := crash_right bl wt keep
  rw [rRes_nil hr, rErr_nil hr, rRes_nil h0, rErr_nil h0, crash_len, vB_of h.2.1]
  refine ⟨?_, rfl⟩
  by_cases hi : i < 0 ∨ bl.length ≤ i
  · simp only [if_pos hi]
  · simp only [if_neg hi]
    exact crash_other h.2.1 keep i (by omega) h.2.2
theorem tears_begin {bl : Bs} {i : Int} {b : List UInt8} (h0 : right bl [] = true) (he : rErr bl [] i = 0) (hb : b.length = 64) : tearsInv bl i b 0 (wW bl [] i b) := by
  rw [rErr_nil h0] at he
  split at he
  · cases he
  · rename_i hi
    have e : wW bl [] i b = [(i, b)] := by
      have : ¬ (i < 0 ∨ (bl.length : Int) ≤ i ∨ b.length ≠ 64) := by omega
      simp [wW, wErr, vB_of h0, vW_of h0, this]
    refine ⟨by omega, ?_, [], e, by simp⟩
    exact write_right h0 i b
theorem tears_step {bl : Bs} {wt : Ws} {i j : Int} {c : List UInt8} {n : Nat} (b : List UInt8) (h : tearsInv bl i c n wt) (hn : n < 60) (hj : j ≠ i) : tearsInv bl i c (n + 1) (wW bl wt j b) := by
  obtain ⟨h1, h2, l, rfl, h3⟩ := h
  refine ⟨by omega, write_right h2 j b, ?_⟩
  rcases write_mem h2 j b with e | e <;> rw [e]
  · exact ⟨l, rfl, h3⟩
  · refine ⟨l ++ [(j, b)], rfl, fun x hx => ?_⟩
    rcases List.mem_append.1 hx with hx | hx
    · exact h3 x hx
    · simp only [List.mem_singleton] at hx; subst hx; exact hj
theorem tears_skip {bl : Bs} {wt : Ws} {i : Int} {c : List UInt8} {n : Nat} (h : tearsInv bl i c n wt) (hn : n < 60) : tearsInv bl i c (n + 1) wt := ⟨by omega, h.2⟩
theorem tears_end {bl : Bs} {wt : Ws} {i : Int} {b : List UInt8} {n : Nat} (h : tearsInv bl i b n wt) (h0 : right bl [] = true) (he : rErr bl [] i = 0) (hb : b.length = 64) (keep : List Int) :
    rErr (crash bl wt keep) [] i = 0 ∧ rRes (crash bl wt keep) [] i = b.take (kept keep 0) ++ (rRes bl [] i).drop (kept keep 0) ∧ (rRes bl [] i).length = 64 ∧ (rRes (crash bl wt keep) [] i).length = 64 := by
  have hr := crash_right bl wt keep
  obtain ⟨_, h2, l, rfl, h3⟩ := h
  have hk := kept_le keep 0
  rw [rErr_nil h0] at he
  split at he
  · cases he
  · rename_i hi
    have hi' : 0 ≤ i ∧ i < bl.length := by omega
    have hw := (right_iff.1 h2).2.2.2
    have hbl := (right_iff.1 h2).2.2.1 _ (getD_mem bl i.toNat [] (by omega))
    have key : blk (crash bl ((i, b) :: l) keep) i = b.take (kept keep 0) ++ (blk bl i).drop (kept keep 0) := by
      simp only [crash, vB_of h2, vW_of h2, tearN, List.length_cons, List.range_succ_eq_map, List.zip_cons_cons, List.foldl_cons]
      rw [tear_other keep i _ _ (fun x hx => ?_) (by rw [tear1_len]; exact hi')]
      · simp only [tear1]
        rw [blk_set bl i i _ hi' hi', if_pos rfl]
        rfl
      · rw [tear1_len]
        have hm := (List.of_mem_zip hx).2
        exact ⟨(hw _ (List.mem_cons_of_mem _ hm)).1, (hw _ (List.mem_cons_of_mem _ hm)).2.1, h3 _ hm⟩
    rw [rErr_nil hr, rRes_nil hr, rRes_nil h0, crash_len, vB_of h2]
    simp only [if_neg hi, key]
    refine ⟨trivial, trivial, hbl, ?_⟩
    simp only [List.length_append, List.length_take, List.length_drop, blk, hbl]
    omega
theorem read_good (bl : Bs) (wt : Ws) (i : Int) (h0 : 0 ≤ i) (h1 : i < (vB bl wt).length) : inRange i bl ∧ rRes bl wt i = cont wt i (blk bl i) ∧ rErr bl wt i = 0 := by
  have hn : ¬ (i < 0 ∨ ((vB bl wt).length : Int) ≤ i) := by omega
  cases hr : right bl wt with
  | true =>
    refine ⟨⟨h0, by rwa [vB_of hr] at h1⟩, ?_, by simp [rErr, hn]⟩
    simp only [rRes, rErr, if_neg hn, if_true]
    rw [vB_of hr, vW_of hr]
  | false => simp [vB, hr] at h1; omega
theorem read_bad (bl : Bs) (wt : Ws) (i : Int) (h : i < 0 ∨ (vB bl wt).length ≤ i) : rRes bl wt i = [] ∧ rErr bl wt i = 1 := by simp [rRes, rErr, h]
theorem great_len {bl : Bs} {wt : Ws} (h : great bl wt = false) : wt.length ≤ 200 := by
  simp [great] at h; omega
theorem same_refl (a : Bs) (b : Ws) : same a b a b = true := by simp [same]
end Go.S
