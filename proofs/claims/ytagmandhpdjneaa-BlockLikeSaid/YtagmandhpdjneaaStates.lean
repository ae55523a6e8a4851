import Derived.Test.YtagmandhpdjneaaLaws
set_option linter.unusedVariables false
namespace Go
-- rubrickref22_Right: 7312+2682 ms, ok
def V_rubrickref22_Right (d1 : List (List UInt8)) (d2 : List (Int × List UInt8)) : Prop :=
  (∃ (x : Nat), (0 : Int) = (↑x : Int) ∧ S.rinv d1 x) ∧
  ∀ (x : Nat),
    S.rinv d1 x →
      (Decidable.decide ((↑x : Int) < (↑(List.length d1) : Int)) = Bool.true →
          ((0 : Int) ≤ (↑x : Int) ∧ (↑x : Int) < (↑(List.length d1) : Int)) ∧
            ((!Decidable.decide ((↑(List.length (List.getD d1 (Int.toNat (↑x : Int)) [])) : Int) = (64 : Int))) = Bool.true → Bool.false = S.right d1 d2) ∧
              ((!Decidable.decide ((↑(List.length (List.getD d1 (Int.toNat (↑x : Int)) [])) : Int) = (64 : Int))) = Bool.false →
                ((-9223372036854775808 : Int) ≤ (↑x : Int) + (1 : Int) ∧ (↑x : Int) + (1 : Int) ≤ (9223372036854775807 : Int)) ∧
                  ∃ (x_1 : Nat), (↑x : Int) + (1 : Int) = (↑x_1 : Int) ∧ S.rinv d1 x_1 ∧ S.meas (S.len d1) x_1 < S.meas (S.len d1) x)) ∧
        (Decidable.decide ((↑x : Int) < (↑(List.length d1) : Int)) = Bool.false →
          (∃ (x : Nat), (0 : Int) = (↑x : Int) ∧ S.winv d1 d2 x ∧ S.rinv d1 (S.len d1)) ∧
            ∀ (x : Nat),
              S.winv d1 d2 x ∧ S.rinv d1 (S.len d1) →
                (Decidable.decide ((↑x : Int) < (↑(List.length d2) : Int)) = Bool.true →
                    ((0 : Int) ≤ (↑x : Int) ∧ (↑x : Int) < (↑(List.length d2) : Int)) ∧
                      ((Decidable.decide (Prod.fst (List.getD d2 (Int.toNat (↑x : Int)) ((0 : Int), [])) < (0 : Int)) = Bool.true → True) ∧
                          (Decidable.decide (Prod.fst (List.getD d2 (Int.toNat (↑x : Int)) ((0 : Int), [])) < (0 : Int)) = Bool.false →
                            ((0 : Int) ≤ (↑x : Int) ∧ (↑x : Int) < (↑(List.length d2) : Int)) ∧
                              (Decidable.decide ((↑(List.length d1) : Int) ≤ Prod.fst (List.getD d2 (Int.toNat (↑x : Int)) ((0 : Int), []))) = Bool.true →
                                  True) ∧
                                (Decidable.decide ((↑(List.length d1) : Int) ≤ Prod.fst (List.getD d2 (Int.toNat (↑x : Int)) ((0 : Int), []))) = Bool.false →
                                  (0 : Int) ≤ (↑x : Int) ∧ (↑x : Int) < (↑(List.length d2) : Int)))) ∧
                        ((bif Decidable.decide (Prod.fst (List.getD d2 (Int.toNat (↑x : Int)) ((0 : Int), [])) < (0 : Int)) then Bool.true
                              else
                                bif Decidable.decide ((↑(List.length d1) : Int) ≤ Prod.fst (List.getD d2 (Int.toNat (↑x : Int)) ((0 : Int), []))) then Bool.true
                                else !Decidable.decide ((↑(List.length (Prod.snd (List.getD d2 (Int.toNat (↑x : Int)) ((0 : Int), [])))) : Int) = (64 : Int))) =
                              Bool.true →
                            Bool.false = S.right d1 d2) ∧
                          ((bif Decidable.decide (Prod.fst (List.getD d2 (Int.toNat (↑x : Int)) ((0 : Int), [])) < (0 : Int)) then Bool.true
                              else
                                bif Decidable.decide ((↑(List.length d1) : Int) ≤ Prod.fst (List.getD d2 (Int.toNat (↑x : Int)) ((0 : Int), []))) then Bool.true
                                else !Decidable.decide ((↑(List.length (Prod.snd (List.getD d2 (Int.toNat (↑x : Int)) ((0 : Int), [])))) : Int) = (64 : Int))) =
                              Bool.false →
                            ((-9223372036854775808 : Int) ≤ (↑x : Int) + (1 : Int) ∧ (↑x : Int) + (1 : Int) ≤ (9223372036854775807 : Int)) ∧
                              ∃ (x_1 : Nat),
                                (↑x : Int) + (1 : Int) = (↑x_1 : Int) ∧
                                  (S.winv d1 d2 x_1 ∧ S.rinv d1 (S.len d1)) ∧ S.meas (S.len d2) x_1 < S.meas (S.len d2) x)) ∧
                  (Decidable.decide ((↑x : Int) < (↑(List.length d2) : Int)) = Bool.false →
                    (bif Decidable.decide ((↑(List.length d1) : Int) ≤ (4096 : Int)) then Decidable.decide ((↑(List.length d2) : Int) ≤ (1000 : Int))
                      else Bool.false) =
                      S.right d1 d2))

-- rubrickref22_Good: 223+30 ms, ok
def V_rubrickref22_Good (d1 : List (List UInt8)) (d2 : List (Int × List UInt8)) : Prop :=
  True ∧ (S.right d1 d2 = Bool.true → d1 = S.vB d1 d2 ∧ d2 = S.vW d1 d2) ∧ (S.right d1 d2 = Bool.false → [] = S.vB d1 d2 ∧ [] = S.vW d1 d2)

-- rubrickref22_Read: 1229+158 ms, ok
def V_rubrickref22_Read (d1 : List (List UInt8)) (d2 : List (Int × List UInt8)) (i : Int) : Prop :=
  ((0 : Int) ≤ i ∧ i < (↑(List.length d1) : Int)) ∧
  (∃ (x : Nat), ((0 : Int) = (↑x : Int) ∧ List.getD d1 (Int.toNat i) [] = S.contAt d2 i (S.blk d1 i) x) ∧ S.minv d2 x) ∧
    ∀ (x : Nat),
      S.minv d2 x →
        (Decidable.decide ((↑x : Int) < (↑(List.length d2) : Int)) = Bool.true →
            ((0 : Int) ≤ (↑x : Int) ∧ (↑x : Int) < (↑(List.length d2) : Int)) ∧
              ((Decidable.decide (Prod.fst (List.getD d2 (Int.toNat (↑x : Int)) ((0 : Int), [])) = i) = Bool.true →
                    (0 : Int) ≤ (↑x : Int) ∧ (↑x : Int) < (↑(List.length d2) : Int)) ∧
                  (Decidable.decide (Prod.fst (List.getD d2 (Int.toNat (↑x : Int)) ((0 : Int), [])) = i) = Bool.false → True)) ∧
                ((-9223372036854775808 : Int) ≤ (↑x : Int) + (1 : Int) ∧ (↑x : Int) + (1 : Int) ≤ (9223372036854775807 : Int)) ∧
                  ∃ (x_1 : Nat),
                    ((↑x : Int) + (1 : Int) = (↑x_1 : Int) ∧
                        (bif Decidable.decide (Prod.fst (List.getD d2 (Int.toNat (↑x : Int)) ((0 : Int), [])) = i) then
                            Prod.snd (List.getD d2 (Int.toNat (↑x : Int)) ((0 : Int), []))
                          else S.contAt d2 i (S.blk d1 i) x) =
                          S.contAt d2 i (S.blk d1 i) x_1) ∧
                      S.minv d2 x_1 ∧ S.meas (S.len d2) x_1 < S.meas (S.len d2) x) ∧
          (Decidable.decide ((↑x : Int) < (↑(List.length d2) : Int)) = Bool.false → S.contAt d2 i (S.blk d1 i) x = S.cont d2 i (S.blk d1 i))

-- rubrickref22_New: 747+158 ms, ok
def V_rubrickref22_New (n : Int) : Prop :=
  (∃ (x : Nat), ((0 : Int) = (↑x : Int) ∧ [] = S.zs64 x) ∧ S.leN x (Int.toNat n)) ∧
  ∀ (x : Nat),
    S.leN x (Int.toNat n) →
      (Decidable.decide ((↑x : Int) < n) = Bool.true →
          ((0 : Int) ≤ (64 : Int) ∧ (64 : Int) ≤ (64 : Int) ∧ (64 : Int) ≤ (140737488355328 : Int) / (↑(1 : Nat) : Int)) ∧
            List.length (S.zs64 x) + List.length [List.replicate (Int.toNat (64 : Int)) (0 : UInt8)] ≤ (5864062014805 : Nat) ∧
              ((-9223372036854775808 : Int) ≤ (↑x : Int) + (1 : Int) ∧ (↑x : Int) + (1 : Int) ≤ (9223372036854775807 : Int)) ∧
                ∃ (x_1 : Nat),
                  ((↑x : Int) + (1 : Int) = (↑x_1 : Int) ∧ S.zs64 x ++ [List.replicate (Int.toNat (64 : Int)) (0 : UInt8)] = S.zs64 x_1) ∧
                    S.leN x_1 (Int.toNat n) ∧ S.meas (Int.toNat n) x_1 < S.meas (Int.toNat n) x) ∧
        (Decidable.decide ((↑x : Int) < n) = Bool.false → S.zs64 x = S.blankAll n)

-- rubrickref22_Same: 11657+2435 ms, ok
def V_rubrickref22_Same (a1 : List (List UInt8)) (a2 : List (Int × List UInt8)) (b1 : List (List UInt8)) (b2 : List (Int × List UInt8)) : Prop :=
  ((bif !Decidable.decide ((↑(List.length a1) : Int) = (↑(List.length b1) : Int)) then Bool.true
      else !Decidable.decide ((↑(List.length a2) : Int) = (↑(List.length b2) : Int))) =
      Bool.true →
    Bool.false = S.same a1 a2 b1 b2) ∧
  ((bif !Decidable.decide ((↑(List.length a1) : Int) = (↑(List.length b1) : Int)) then Bool.true
      else !Decidable.decide ((↑(List.length a2) : Int) = (↑(List.length b2) : Int))) =
      Bool.false →
    (∃ (x : Nat), (0 : Int) = (↑x : Int) ∧ S.sInv1 a1 b1 x) ∧
      ∀ (x : Nat),
        S.sInv1 a1 b1 x →
          (Decidable.decide ((↑x : Int) < (↑(List.length a1) : Int)) = Bool.true →
              ((0 : Int) ≤ (↑x : Int) ∧ (↑x : Int) < (↑(List.length a1) : Int)) ∧
                ((0 : Int) ≤ (↑x : Int) ∧ (↑x : Int) < (↑(List.length b1) : Int)) ∧
                  ((!Decidable.decide (List.getD a1 (Int.toNat (↑x : Int)) [] = List.getD b1 (Int.toNat (↑x : Int)) [])) = Bool.true →
                      Bool.false = S.same a1 a2 b1 b2) ∧
                    ((!Decidable.decide (List.getD a1 (Int.toNat (↑x : Int)) [] = List.getD b1 (Int.toNat (↑x : Int)) [])) = Bool.false →
                      ((-9223372036854775808 : Int) ≤ (↑x : Int) + (1 : Int) ∧ (↑x : Int) + (1 : Int) ≤ (9223372036854775807 : Int)) ∧
                        ∃ (x_1 : Nat),
                          (↑x : Int) + (1 : Int) = (↑x_1 : Int) ∧ S.sInv1 a1 b1 x_1 ∧ S.meas (S.len a1) x_1 < S.meas (S.len a1) x)) ∧
            (Decidable.decide ((↑x : Int) < (↑(List.length a1) : Int)) = Bool.false →
              (∃ (x : Nat), (0 : Int) = (↑x : Int) ∧ S.sInv2 a1 b1 a2 b2 x) ∧
                ∀ (x : Nat),
                  S.sInv2 a1 b1 a2 b2 x →
                    (Decidable.decide ((↑x : Int) < (↑(List.length a2) : Int)) = Bool.true →
                        ((0 : Int) ≤ (↑x : Int) ∧ (↑x : Int) < (↑(List.length a2) : Int)) ∧
                          ((0 : Int) ≤ (↑x : Int) ∧ (↑x : Int) < (↑(List.length b2) : Int)) ∧
                            (((!Decidable.decide
                                        (Prod.fst (List.getD a2 (Int.toNat (↑x : Int)) ((0 : Int), [])) =
                                          Prod.fst (List.getD b2 (Int.toNat (↑x : Int)) ((0 : Int), [])))) =
                                    Bool.true →
                                  True) ∧
                                ((!Decidable.decide
                                        (Prod.fst (List.getD a2 (Int.toNat (↑x : Int)) ((0 : Int), [])) =
                                          Prod.fst (List.getD b2 (Int.toNat (↑x : Int)) ((0 : Int), [])))) =
                                    Bool.false →
                                  ((0 : Int) ≤ (↑x : Int) ∧ (↑x : Int) < (↑(List.length a2) : Int)) ∧
                                    (0 : Int) ≤ (↑x : Int) ∧ (↑x : Int) < (↑(List.length b2) : Int))) ∧
                              ((bif
                                        !Decidable.decide
                                            (Prod.fst (List.getD a2 (Int.toNat (↑x : Int)) ((0 : Int), [])) =
                                              Prod.fst (List.getD b2 (Int.toNat (↑x : Int)) ((0 : Int), []))) then
                                      Bool.true
                                    else
                                      !Decidable.decide
                                          (Prod.snd (List.getD a2 (Int.toNat (↑x : Int)) ((0 : Int), [])) =
                                            Prod.snd (List.getD b2 (Int.toNat (↑x : Int)) ((0 : Int), [])))) =
                                    Bool.true →
                                  Bool.false = S.same a1 a2 b1 b2) ∧
                                ((bif
                                        !Decidable.decide
                                            (Prod.fst (List.getD a2 (Int.toNat (↑x : Int)) ((0 : Int), [])) =
                                              Prod.fst (List.getD b2 (Int.toNat (↑x : Int)) ((0 : Int), []))) then
                                      Bool.true
                                    else
                                      !Decidable.decide
                                          (Prod.snd (List.getD a2 (Int.toNat (↑x : Int)) ((0 : Int), [])) =
                                            Prod.snd (List.getD b2 (Int.toNat (↑x : Int)) ((0 : Int), [])))) =
                                    Bool.false →
                                  ((-9223372036854775808 : Int) ≤ (↑x : Int) + (1 : Int) ∧ (↑x : Int) + (1 : Int) ≤ (9223372036854775807 : Int)) ∧
                                    ∃ (x_1 : Nat),
                                      (↑x : Int) + (1 : Int) = (↑x_1 : Int) ∧
                                        S.sInv2 a1 b1 a2 b2 x_1 ∧ S.meas (S.len a2) x_1 < S.meas (S.len a2) x)) ∧
                      (Decidable.decide ((↑x : Int) < (↑(List.length a2) : Int)) = Bool.false → Bool.true = S.same a1 a2 b1 b2)))

-- rubricklaw22_ones: 502+55 ms, ok
def V_rubricklaw22_ones (x : UInt8) : Prop :=
  ((0 : Int) ≤ (64 : Int) ∧ (64 : Int) ≤ (64 : Int) ∧ (64 : Int) ≤ (140737488355328 : Int) / (↑(1 : Nat) : Int)) ∧
  (∃ (x_1 : Nat), ((0 : Int) = (↑x_1 : Int) ∧ List.replicate (Int.toNat (64 : Int)) (0 : UInt8) = S.onesAt x x_1) ∧ S.leN x_1 (64 : Nat)) ∧
    ∀ (x_1 : Nat),
      S.leN x_1 (64 : Nat) →
        (Decidable.decide ((↑x_1 : Int) < (64 : Int)) = Bool.true →
            ((0 : Int) ≤ (↑x_1 : Int) ∧ (↑x_1 : Int) < (↑(List.length (S.onesAt x x_1)) : Int)) ∧
              Int.toNat (↑x_1 : Int) < List.length (S.onesAt x x_1) ∧
                ((-9223372036854775808 : Int) ≤ (↑x_1 : Int) + (1 : Int) ∧ (↑x_1 : Int) + (1 : Int) ≤ (9223372036854775807 : Int)) ∧
                  ∃ (x_2 : Nat),
                    ((↑x_1 : Int) + (1 : Int) = (↑x_2 : Int) ∧
                        List.set (S.onesAt x x_1) (Int.toNat (↑x_1 : Int)) (UInt8.ofNat (Int.toNat (↑(UInt8.toNat x) : Int))) = S.onesAt x x_2) ∧
                      S.leN x_2 (64 : Nat) ∧ S.meas (64 : Nat) x_2 < S.meas (64 : Nat) x_1) ∧
          (Decidable.decide ((↑x_1 : Int) < (64 : Int)) = Bool.false → S.onesAt x x_1 = S.ones x)

-- rubricklaw22_As: 2173+665 ms, ok
def V_rubricklaw22_As (d1 : List (List UInt8)) (d2 : List (Int × List UInt8)) : Prop :=
  (∃ (x : Nat), ((0 : Int) = (↑x : Int) ∧ d1 = d1 ∧ [] = List.take x d2) ∧ S.minv d2 x) ∧
  ∀ (x : Nat),
    S.minv d2 x →
      (Decidable.decide ((↑x : Int) < (↑(List.length d2) : Int)) = Bool.true →
          ((0 : Int) ≤ (↑x : Int) ∧ (↑x : Int) < (↑(List.length d2) : Int)) ∧
            ((0 : Int) ≤ (↑x : Int) ∧ (↑x : Int) < (↑(List.length d2) : Int)) ∧
              List.length (List.take x d2) +
                    List.length
                      [(Prod.fst (List.getD d2 (Int.toNat (↑x : Int)) ((0 : Int), [])), Prod.snd (List.getD d2 (Int.toNat (↑x : Int)) ((0 : Int), [])))] ≤
                  (4398046511104 : Nat) ∧
                ((-9223372036854775808 : Int) ≤ (↑x : Int) + (1 : Int) ∧ (↑x : Int) + (1 : Int) ≤ (9223372036854775807 : Int)) ∧
                  ∃ (x_1 : Nat),
                    ((↑x : Int) + (1 : Int) = (↑x_1 : Int) ∧
                        d1 = d1 ∧
                          List.take x d2 ++
                              [(Prod.fst (List.getD d2 (Int.toNat (↑x : Int)) ((0 : Int), [])),
                                  Prod.snd (List.getD d2 (Int.toNat (↑x : Int)) ((0 : Int), [])))] =
                            List.take x_1 d2) ∧
                      S.minv d2 x_1 ∧ S.meas (S.len d2) x_1 < S.meas (S.len d2) x) ∧
        (Decidable.decide ((↑x : Int) < (↑(List.length d2) : Int)) = Bool.false → d1 = d1 ∧ List.take x d2 = d2)

-- rubricklaw22_Great: 2426+134 ms, ok
def V_rubricklaw22_Great (d1 : List (List UInt8)) (d2 : List (Int × List UInt8)) : Prop :=
  (∃ (x : Nat), (0 : Int) = (↑x : Int) ∧ S.gInv1 d1 x) ∧
  ∀ (x : Nat),
    S.gInv1 d1 x →
      (Decidable.decide ((↑x : Int) < (↑(List.length d1) : Int)) = Bool.true →
          ((0 : Int) ≤ (↑x : Int) ∧ (↑x : Int) < (↑(List.length d1) : Int)) ∧
            (Decidable.decide ((200 : Int) < (↑(List.length (List.getD d1 (Int.toNat (↑x : Int)) [])) : Int)) = Bool.true → Bool.true = S.great d1 d2) ∧
              (Decidable.decide ((200 : Int) < (↑(List.length (List.getD d1 (Int.toNat (↑x : Int)) [])) : Int)) = Bool.false →
                ((-9223372036854775808 : Int) ≤ (↑x : Int) + (1 : Int) ∧ (↑x : Int) + (1 : Int) ≤ (9223372036854775807 : Int)) ∧
                  ∃ (x_1 : Nat), (↑x : Int) + (1 : Int) = (↑x_1 : Int) ∧ S.gInv1 d1 x_1 ∧ S.meas (S.len d1) x_1 < S.meas (S.len d1) x)) ∧
        (Decidable.decide ((↑x : Int) < (↑(List.length d1) : Int)) = Bool.false →
          (∃ (x : Nat), (0 : Int) = (↑x : Int) ∧ S.gInv2 d1 d2 x) ∧
            ∀ (x : Nat),
              S.gInv2 d1 d2 x →
                (Decidable.decide ((↑x : Int) < (↑(List.length d2) : Int)) = Bool.true →
                    ((0 : Int) ≤ (↑x : Int) ∧ (↑x : Int) < (↑(List.length d2) : Int)) ∧
                      (Decidable.decide ((200 : Int) < (↑(List.length (Prod.snd (List.getD d2 (Int.toNat (↑x : Int)) ((0 : Int), [])))) : Int)) = Bool.true →
                          Bool.true = S.great d1 d2) ∧
                        (Decidable.decide ((200 : Int) < (↑(List.length (Prod.snd (List.getD d2 (Int.toNat (↑x : Int)) ((0 : Int), [])))) : Int)) = Bool.false →
                          ((-9223372036854775808 : Int) ≤ (↑x : Int) + (1 : Int) ∧ (↑x : Int) + (1 : Int) ≤ (9223372036854775807 : Int)) ∧
                            ∃ (x_1 : Nat),
                              (↑x : Int) + (1 : Int) = (↑x_1 : Int) ∧ S.gInv2 d1 d2 x_1 ∧ S.meas (S.len d2) x_1 < S.meas (S.len d2) x)) ∧
                  (Decidable.decide ((↑x : Int) < (↑(List.length d2) : Int)) = Bool.false →
                    (bif Decidable.decide ((200 : Int) < (↑(List.length d1) : Int)) then Bool.true
                      else Decidable.decide ((200 : Int) < (↑(List.length d2) : Int))) =
                      S.great d1 d2))

-- rubricklaw22_knows: 42113+34491 ms, ok
def V_rubricklaw22_knows : Prop :=
  True ∧
  True ∧
    True ∧
      True ∧
        True ∧
          True ∧
            True ∧
              True ∧
                True ∧
                  ((Decidable.decide (S.nErr (2 : Int) = (0 : Int)) = Bool.true →
                        (Decidable.decide
                                (S.wErr (S.nRes (2 : Int)) (Vg.nilL (Int × List UInt8)) (1 : Int) (S.ones (UInt8.ofNat (Int.toNat (1 : Int)))) =
                                  (0 : Int)) =
                              Bool.true →
                            True ∧
                              (Decidable.decide
                                      (S.rRes (S.wB (S.nRes (2 : Int)) (Vg.nilL (Int × List UInt8)))
                                          (S.wW (S.nRes (2 : Int)) (Vg.nilL (Int × List UInt8)) (1 : Int)
                                            (S.ones (UInt8.ofNat (Int.toNat (1 : Int)))))
                                          (1 : Int) =
                                        S.ones (UInt8.ofNat (Int.toNat (1 : Int)))) =
                                    Bool.true →
                                  (Decidable.decide
                                          ((↑(List.length
                                                  (S.rRes
                                                    (S.crash (S.wB (S.nRes (2 : Int)) (Vg.nilL (Int × List UInt8)))
                                                      (S.wW (S.nRes (2 : Int)) (Vg.nilL (Int × List UInt8)) (1 : Int)
                                                        (S.ones (UInt8.ofNat (Int.toNat (1 : Int)))))
                                                      [(3 : Int)])
                                                    (Vg.nilL (Int × List UInt8)) (1 : Int))) :
                                              Int) =
                                            (64 : Int)) =
                                        Bool.true →
                                      ((0 : Int) ≤ (2 : Int) ∧
                                          (2 : Int) <
                                            (↑(List.length
                                                  (S.rRes
                                                    (S.crash (S.wB (S.nRes (2 : Int)) (Vg.nilL (Int × List UInt8)))
                                                      (S.wW (S.nRes (2 : Int)) (Vg.nilL (Int × List UInt8)) (1 : Int)
                                                        (S.ones (UInt8.ofNat (Int.toNat (1 : Int)))))
                                                      [(3 : Int)])
                                                    (Vg.nilL (Int × List UInt8)) (1 : Int))) :
                                              Int)) ∧
                                        (Decidable.decide
                                                ((↑(UInt8.toNat
                                                        (List.getD
                                                          (S.rRes
                                                            (S.crash (S.wB (S.nRes (2 : Int)) (Vg.nilL (Int × List UInt8)))
                                                              (S.wW (S.nRes (2 : Int)) (Vg.nilL (Int × List UInt8)) (1 : Int)
                                                                (S.ones (UInt8.ofNat (Int.toNat (1 : Int)))))
                                                              [(3 : Int)])
                                                            (Vg.nilL (Int × List UInt8)) (1 : Int))
                                                          (Int.toNat (2 : Int)) (0 : UInt8))) :
                                                    Int) =
                                                  (1 : Int)) =
                                              Bool.true →
                                            ((0 : Int) ≤ (3 : Int) ∧
                                                (3 : Int) <
                                                  (↑(List.length
                                                        (S.rRes
                                                          (S.crash (S.wB (S.nRes (2 : Int)) (Vg.nilL (Int × List UInt8)))
                                                            (S.wW (S.nRes (2 : Int)) (Vg.nilL (Int × List UInt8)) (1 : Int)
                                                              (S.ones (UInt8.ofNat (Int.toNat (1 : Int)))))
                                                            [(3 : Int)])
                                                          (Vg.nilL (Int × List UInt8)) (1 : Int))) :
                                                    Int)) ∧
                                              (Decidable.decide
                                                      ((↑(UInt8.toNat
                                                              (List.getD
                                                                (S.rRes
                                                                  (S.crash (S.wB (S.nRes (2 : Int)) (Vg.nilL (Int × List UInt8)))
                                                                    (S.wW (S.nRes (2 : Int)) (Vg.nilL (Int × List UInt8)) (1 : Int)
                                                                      (S.ones (UInt8.ofNat (Int.toNat (1 : Int)))))
                                                                    [(3 : Int)])
                                                                  (Vg.nilL (Int × List UInt8)) (1 : Int))
                                                                (Int.toNat (3 : Int)) (0 : UInt8))) :
                                                          Int) =
                                                        (0 : Int)) =
                                                    Bool.true →
                                                  (Decidable.decide
                                                          (S.rRes
                                                              (S.crash
                                                                (S.sync (S.wB (S.nRes (2 : Int)) (Vg.nilL (Int × List UInt8)))
                                                                  (S.wW (S.nRes (2 : Int)) (Vg.nilL (Int × List UInt8)) (1 : Int)
                                                                    (S.ones (UInt8.ofNat (Int.toNat (1 : Int))))))
                                                                (Vg.nilL (Int × List UInt8)) (Vg.nilL Int))
                                                              (Vg.nilL (Int × List UInt8)) (1 : Int) =
                                                            S.rRes (S.wB (S.nRes (2 : Int)) (Vg.nilL (Int × List UInt8)))
                                                              (S.wW (S.nRes (2 : Int)) (Vg.nilL (Int × List UInt8)) (1 : Int)
                                                                (S.ones (UInt8.ofNat (Int.toNat (1 : Int)))))
                                                              (1 : Int)) =
                                                        Bool.true →
                                                      True ∧
                                                        (Decidable.decide
                                                                (S.lenI
                                                                    (S.vB (S.wB (S.nRes (2 : Int)) (Vg.nilL (Int × List UInt8)))
                                                                      (S.wW (S.nRes (2 : Int)) (Vg.nilL (Int × List UInt8)) (1 : Int)
                                                                        (S.ones (UInt8.ofNat (Int.toNat (1 : Int)))))) =
                                                                  (2 : Int)) =
                                                              Bool.true →
                                                            True) ∧
                                                          (Decidable.decide
                                                                (S.lenI
                                                                    (S.vB (S.wB (S.nRes (2 : Int)) (Vg.nilL (Int × List UInt8)))
                                                                      (S.wW (S.nRes (2 : Int)) (Vg.nilL (Int × List UInt8)) (1 : Int)
                                                                        (S.ones (UInt8.ofNat (Int.toNat (1 : Int)))))) =
                                                                  (2 : Int)) =
                                                              Bool.false →
                                                            True)) ∧
                                                    (Decidable.decide
                                                          (S.rRes
                                                              (S.crash
                                                                (S.sync (S.wB (S.nRes (2 : Int)) (Vg.nilL (Int × List UInt8)))
                                                                  (S.wW (S.nRes (2 : Int)) (Vg.nilL (Int × List UInt8)) (1 : Int)
                                                                    (S.ones (UInt8.ofNat (Int.toNat (1 : Int))))))
                                                                (Vg.nilL (Int × List UInt8)) (Vg.nilL Int))
                                                              (Vg.nilL (Int × List UInt8)) (1 : Int) =
                                                            S.rRes (S.wB (S.nRes (2 : Int)) (Vg.nilL (Int × List UInt8)))
                                                              (S.wW (S.nRes (2 : Int)) (Vg.nilL (Int × List UInt8)) (1 : Int)
                                                                (S.ones (UInt8.ofNat (Int.toNat (1 : Int)))))
                                                              (1 : Int)) =
                                                        Bool.false →
                                                      True)) ∧
                                                (Decidable.decide
                                                      ((↑(UInt8.toNat
                                                              (List.getD
                                                                (S.rRes
                                                                  (S.crash (S.wB (S.nRes (2 : Int)) (Vg.nilL (Int × List UInt8)))
                                                                    (S.wW (S.nRes (2 : Int)) (Vg.nilL (Int × List UInt8)) (1 : Int)
                                                                      (S.ones (UInt8.ofNat (Int.toNat (1 : Int)))))
                                                                    [(3 : Int)])
                                                                  (Vg.nilL (Int × List UInt8)) (1 : Int))
                                                                (Int.toNat (3 : Int)) (0 : UInt8))) :
                                                          Int) =
                                                        (0 : Int)) =
                                                    Bool.false →
                                                  True)) ∧
                                          (Decidable.decide
                                                ((↑(UInt8.toNat
                                                        (List.getD
                                                          (S.rRes
                                                            (S.crash (S.wB (S.nRes (2 : Int)) (Vg.nilL (Int × List UInt8)))
                                                              (S.wW (S.nRes (2 : Int)) (Vg.nilL (Int × List UInt8)) (1 : Int)
                                                                (S.ones (UInt8.ofNat (Int.toNat (1 : Int)))))
                                                              [(3 : Int)])
                                                            (Vg.nilL (Int × List UInt8)) (1 : Int))
                                                          (Int.toNat (2 : Int)) (0 : UInt8))) :
                                                    Int) =
                                                  (1 : Int)) =
                                              Bool.false →
                                            True)) ∧
                                    (Decidable.decide
                                          ((↑(List.length
                                                  (S.rRes
                                                    (S.crash (S.wB (S.nRes (2 : Int)) (Vg.nilL (Int × List UInt8)))
                                                      (S.wW (S.nRes (2 : Int)) (Vg.nilL (Int × List UInt8)) (1 : Int)
                                                        (S.ones (UInt8.ofNat (Int.toNat (1 : Int)))))
                                                      [(3 : Int)])
                                                    (Vg.nilL (Int × List UInt8)) (1 : Int))) :
                                              Int) =
                                            (64 : Int)) =
                                        Bool.false →
                                      True)) ∧
                                (Decidable.decide
                                      (S.rRes (S.wB (S.nRes (2 : Int)) (Vg.nilL (Int × List UInt8)))
                                          (S.wW (S.nRes (2 : Int)) (Vg.nilL (Int × List UInt8)) (1 : Int)
                                            (S.ones (UInt8.ofNat (Int.toNat (1 : Int)))))
                                          (1 : Int) =
                                        S.ones (UInt8.ofNat (Int.toNat (1 : Int)))) =
                                    Bool.false →
                                  True)) ∧
                          (Decidable.decide
                                (S.wErr (S.nRes (2 : Int)) (Vg.nilL (Int × List UInt8)) (1 : Int) (S.ones (UInt8.ofNat (Int.toNat (1 : Int)))) =
                                  (0 : Int)) =
                              Bool.false →
                            True)) ∧
                      (Decidable.decide (S.nErr (2 : Int) = (0 : Int)) = Bool.false → True)) ∧
                    (bif Decidable.decide (S.nErr (2 : Int) = (0 : Int)) then
                        bif
                            Decidable.decide
                              (S.wErr (S.nRes (2 : Int)) (Vg.nilL (Int × List UInt8)) (1 : Int) (S.ones (UInt8.ofNat (Int.toNat (1 : Int)))) =
                                (0 : Int)) then
                          bif
                              Decidable.decide
                                (S.rRes (S.wB (S.nRes (2 : Int)) (Vg.nilL (Int × List UInt8)))
                                    (S.wW (S.nRes (2 : Int)) (Vg.nilL (Int × List UInt8)) (1 : Int) (S.ones (UInt8.ofNat (Int.toNat (1 : Int)))))
                                    (1 : Int) =
                                  S.ones (UInt8.ofNat (Int.toNat (1 : Int)))) then
                            bif
                                Decidable.decide
                                  ((↑(List.length
                                          (S.rRes
                                            (S.crash (S.wB (S.nRes (2 : Int)) (Vg.nilL (Int × List UInt8)))
                                              (S.wW (S.nRes (2 : Int)) (Vg.nilL (Int × List UInt8)) (1 : Int)
                                                (S.ones (UInt8.ofNat (Int.toNat (1 : Int)))))
                                              [(3 : Int)])
                                            (Vg.nilL (Int × List UInt8)) (1 : Int))) :
                                      Int) =
                                    (64 : Int)) then
                              bif
                                  Decidable.decide
                                    ((↑(UInt8.toNat
                                            (List.getD
                                              (S.rRes
                                                (S.crash (S.wB (S.nRes (2 : Int)) (Vg.nilL (Int × List UInt8)))
                                                  (S.wW (S.nRes (2 : Int)) (Vg.nilL (Int × List UInt8)) (1 : Int)
                                                    (S.ones (UInt8.ofNat (Int.toNat (1 : Int)))))
                                                  [(3 : Int)])
                                                (Vg.nilL (Int × List UInt8)) (1 : Int))
                                              (Int.toNat (2 : Int)) (0 : UInt8))) :
                                        Int) =
                                      (1 : Int)) then
                                bif
                                    Decidable.decide
                                      ((↑(UInt8.toNat
                                              (List.getD
                                                (S.rRes
                                                  (S.crash (S.wB (S.nRes (2 : Int)) (Vg.nilL (Int × List UInt8)))
                                                    (S.wW (S.nRes (2 : Int)) (Vg.nilL (Int × List UInt8)) (1 : Int)
                                                      (S.ones (UInt8.ofNat (Int.toNat (1 : Int)))))
                                                    [(3 : Int)])
                                                  (Vg.nilL (Int × List UInt8)) (1 : Int))
                                                (Int.toNat (3 : Int)) (0 : UInt8))) :
                                          Int) =
                                        (0 : Int)) then
                                  bif
                                      Decidable.decide
                                        (S.rRes
                                            (S.crash
                                              (S.sync (S.wB (S.nRes (2 : Int)) (Vg.nilL (Int × List UInt8)))
                                                (S.wW (S.nRes (2 : Int)) (Vg.nilL (Int × List UInt8)) (1 : Int)
                                                  (S.ones (UInt8.ofNat (Int.toNat (1 : Int))))))
                                              (Vg.nilL (Int × List UInt8)) (Vg.nilL Int))
                                            (Vg.nilL (Int × List UInt8)) (1 : Int) =
                                          S.rRes (S.wB (S.nRes (2 : Int)) (Vg.nilL (Int × List UInt8)))
                                            (S.wW (S.nRes (2 : Int)) (Vg.nilL (Int × List UInt8)) (1 : Int)
                                              (S.ones (UInt8.ofNat (Int.toNat (1 : Int)))))
                                            (1 : Int)) then
                                    bif
                                        Decidable.decide
                                          (S.lenI
                                              (S.vB (S.wB (S.nRes (2 : Int)) (Vg.nilL (Int × List UInt8)))
                                                (S.wW (S.nRes (2 : Int)) (Vg.nilL (Int × List UInt8)) (1 : Int)
                                                  (S.ones (UInt8.ofNat (Int.toNat (1 : Int)))))) =
                                            (2 : Int)) then
                                      S.right (S.wB (S.nRes (2 : Int)) (Vg.nilL (Int × List UInt8)))
                                        (S.wW (S.nRes (2 : Int)) (Vg.nilL (Int × List UInt8)) (1 : Int)
                                          (S.ones (UInt8.ofNat (Int.toNat (1 : Int)))))
                                    else Bool.false
                                  else Bool.false
                                else Bool.false
                              else Bool.false
                            else Bool.false
                          else Bool.false
                        else Bool.false
                      else Bool.false) =
                      Bool.true

-- rubricklaw22_BlockReads: 5530+1053 ms, ok
def V_rubricklaw22_BlockReads (d1 : List (List UInt8)) (d2 : List (Int × List UInt8)) (i : Int) : Prop :=
  True ∧
  (S.great d1 d2 = Bool.true → True ∧ Bool.true = Bool.true) ∧
    (S.great d1 d2 = Bool.false →
      True ∧
        S.leN (S.len d2) (1000 : Nat) ∧
          True ∧
            True ∧
              (((!S.right d1 d2 == S.right d1 d2) = Bool.true → True) ∧ ((!S.right d1 d2 == S.right d1 d2) = Bool.false → True ∧ True)) ∧
                ((bif !S.right d1 d2 == S.right d1 d2 then Bool.true
                      else !Decidable.decide (S.lenI (S.vB d1 d2) = (↑(List.length (S.vB d1 d2)) : Int))) =
                      Bool.true →
                    Bool.false = Bool.true) ∧
                  ((bif !S.right d1 d2 == S.right d1 d2 then Bool.true
                      else !Decidable.decide (S.lenI (S.vB d1 d2) = (↑(List.length (S.vB d1 d2)) : Int))) =
                      Bool.false →
                    ((Decidable.decide (i < (0 : Int)) = Bool.true → True) ∧ (Decidable.decide (i < (0 : Int)) = Bool.false → True)) ∧
                      ((bif Decidable.decide (i < (0 : Int)) then Bool.true else Decidable.decide ((↑(List.length (S.vB d1 d2)) : Int) ≤ i)) = Bool.true →
                          ((Decidable.decide ((↑(List.length (S.rRes d1 d2 i)) : Int) = (0 : Int)) = Bool.true →
                                (Decidable.decide (S.rErr d1 d2 i = (1 : Int)) = Bool.true → True) ∧
                                  (Decidable.decide (S.rErr d1 d2 i = (1 : Int)) = Bool.false → True)) ∧
                              (Decidable.decide ((↑(List.length (S.rRes d1 d2 i)) : Int) = (0 : Int)) = Bool.false → True)) ∧
                            (bif Decidable.decide ((↑(List.length (S.rRes d1 d2 i)) : Int) = (0 : Int)) then
                                bif Decidable.decide (S.rErr d1 d2 i = (1 : Int)) then Bool.true else Bool.false
                              else Bool.false) =
                              Bool.true) ∧
                        ((bif Decidable.decide (i < (0 : Int)) then Bool.true else Decidable.decide ((↑(List.length (S.vB d1 d2)) : Int) ≤ i)) = Bool.false →
                          S.inRange i d1 ∧
                            ((Decidable.decide (S.rRes d1 d2 i = S.cont d2 i (S.blk d1 i)) = Bool.true →
                                  (Decidable.decide (S.rErr d1 d2 i = (0 : Int)) = Bool.true → True) ∧
                                    (Decidable.decide (S.rErr d1 d2 i = (0 : Int)) = Bool.false → True)) ∧
                                (Decidable.decide (S.rRes d1 d2 i = S.cont d2 i (S.blk d1 i)) = Bool.false → True)) ∧
                              (bif Decidable.decide (S.rRes d1 d2 i = S.cont d2 i (S.blk d1 i)) then
                                  bif Decidable.decide (S.rErr d1 d2 i = (0 : Int)) then Bool.true else Bool.false
                                else Bool.false) =
                                Bool.true)))

-- rubricklaw22_BlockNews: 1560+175 ms, ok
def V_rubricklaw22_BlockNews (n : Int) : Prop :=
  ((bif Decidable.decide ((300 : Int) < n) then Decidable.decide (n ≤ (4096 : Int)) else Bool.false) = Bool.true → True ∧ Bool.true = Bool.true) ∧
  ((bif Decidable.decide ((300 : Int) < n) then Decidable.decide (n ≤ (4096 : Int)) else Bool.false) = Bool.false →
    True ∧
      ((bif Decidable.decide (n < (0 : Int)) then Bool.true else Decidable.decide ((4096 : Int) < n)) = Bool.true →
          ((Decidable.decide ((↑(List.length (S.nRes n)) : Int) = (0 : Int)) = Bool.true →
                (Decidable.decide (S.nErr n = (1 : Int)) = Bool.true → True) ∧ (Decidable.decide (S.nErr n = (1 : Int)) = Bool.false → True)) ∧
              (Decidable.decide ((↑(List.length (S.nRes n)) : Int) = (0 : Int)) = Bool.false → True)) ∧
            (bif Decidable.decide ((↑(List.length (S.nRes n)) : Int) = (0 : Int)) then
                bif Decidable.decide (S.nErr n = (1 : Int)) then Bool.true else Bool.false
              else Bool.false) =
              Bool.true) ∧
        ((bif Decidable.decide (n < (0 : Int)) then Bool.true else Decidable.decide ((4096 : Int) < n)) = Bool.false →
          S.leN (S.len (Vg.nilL (Int × List UInt8))) (1000 : Nat) ∧
            S.lePre n (5000 : Int) ∧
              True ∧
                ((S.same (S.nRes n) (Vg.nilL (Int × List UInt8)) (S.blankAll n) (Vg.nilL (Int × List UInt8)) = Bool.true →
                      (Decidable.decide (S.nErr n = (0 : Int)) = Bool.true → True) ∧ (Decidable.decide (S.nErr n = (0 : Int)) = Bool.false → True)) ∧
                    (S.same (S.nRes n) (Vg.nilL (Int × List UInt8)) (S.blankAll n) (Vg.nilL (Int × List UInt8)) = Bool.false → True)) ∧
                  (bif S.same (S.nRes n) (Vg.nilL (Int × List UInt8)) (S.blankAll n) (Vg.nilL (Int × List UInt8)) then
                      bif Decidable.decide (S.nErr n = (0 : Int)) then Bool.true else Bool.false
                    else Bool.false) =
                    Bool.true))

-- rubricklaw22_BlockLike: 2359+170 ms, ok
def V_rubricklaw22_BlockLike (d1 : List (List UInt8)) (d2 : List (Int × List UInt8)) (i : Int) : Prop :=
  True ∧
  (S.great d1 d2 = Bool.true → True ∧ Bool.true = Bool.true) ∧
    (S.great d1 d2 = Bool.false →
      True ∧
        True ∧
          True ∧
            ((Decidable.decide (S.rRes d1 d2 i = S.rRes (S.sync d1 d2) (Vg.nilL (Int × List UInt8)) i) = Bool.true →
                  (Decidable.decide (S.rErr d1 d2 i = S.rErr (S.sync d1 d2) (Vg.nilL (Int × List UInt8)) i) = Bool.true →
                      True ∧ (Decidable.decide ((0 : Int) = (0 : Int)) = Bool.true → True) ∧ (Decidable.decide ((0 : Int) = (0 : Int)) = Bool.false → True)) ∧
                    (Decidable.decide (S.rErr d1 d2 i = S.rErr (S.sync d1 d2) (Vg.nilL (Int × List UInt8)) i) = Bool.false → True)) ∧
                (Decidable.decide (S.rRes d1 d2 i = S.rRes (S.sync d1 d2) (Vg.nilL (Int × List UInt8)) i) = Bool.false → True)) ∧
              (bif Decidable.decide (S.rRes d1 d2 i = S.rRes (S.sync d1 d2) (Vg.nilL (Int × List UInt8)) i) then
                  bif Decidable.decide (S.rErr d1 d2 i = S.rErr (S.sync d1 d2) (Vg.nilL (Int × List UInt8)) i) then
                    bif Decidable.decide ((0 : Int) = (0 : Int)) then Bool.true else Bool.false
                  else Bool.false
                else Bool.false) =
                Bool.true)

-- rubricklaw22_BlockTwice: 15601+10852 ms, ok
def V_rubricklaw22_BlockTwice (d1 : List (List UInt8)) (d2 : List (Int × List UInt8)) (keep : List Int) : Prop :=
  True ∧
  ((bif S.great d1 d2 then Bool.true else Decidable.decide ((300 : Int) < (↑(List.length keep) : Int))) = Bool.true → True ∧ Bool.true = Bool.true) ∧
    ((bif S.great d1 d2 then Bool.true else Decidable.decide ((300 : Int) < (↑(List.length keep) : Int))) = Bool.false →
      True ∧
        True ∧
          True ∧
            S.leN (S.len (Vg.nilL (Int × List UInt8))) (1000 : Nat) ∧
              S.leN (S.len (Vg.nilL (Int × List UInt8))) (1000 : Nat) ∧
                True ∧
                  ((S.same (S.sync (S.sync d1 d2) (Vg.nilL (Int × List UInt8))) (Vg.nilL (Int × List UInt8)) (S.sync d1 d2)
                            (Vg.nilL (Int × List UInt8)) =
                          Bool.true →
                        True ∧
                          S.leN (S.len (Vg.nilL (Int × List UInt8))) (1000 : Nat) ∧
                            S.leN (S.len (Vg.nilL (Int × List UInt8))) (1000 : Nat) ∧
                              True ∧
                                (S.same (S.crash (S.sync d1 d2) (Vg.nilL (Int × List UInt8)) keep) (Vg.nilL (Int × List UInt8)) (S.sync d1 d2)
                                        (Vg.nilL (Int × List UInt8)) =
                                      Bool.true →
                                    True ∧
                                      S.leN (S.len (Vg.nilL (Int × List UInt8))) (1000 : Nat) ∧
                                        S.leN (S.len (Vg.nilL (Int × List UInt8))) (1000 : Nat) ∧
                                          True ∧
                                            (S.same (S.crash (S.crash d1 d2 keep) (Vg.nilL (Int × List UInt8)) keep) (Vg.nilL (Int × List UInt8))
                                                    (S.crash d1 d2 keep) (Vg.nilL (Int × List UInt8)) =
                                                  Bool.true →
                                                (Decidable.decide ((0 : Int) = (0 : Int)) = Bool.true →
                                                    True ∧
                                                      (S.right (S.crash d1 d2 keep) (Vg.nilL (Int × List UInt8)) = Bool.true → True) ∧
                                                        (S.right (S.crash d1 d2 keep) (Vg.nilL (Int × List UInt8)) = Bool.false → True)) ∧
                                                  (Decidable.decide ((0 : Int) = (0 : Int)) = Bool.false → True)) ∧
                                              (S.same (S.crash (S.crash d1 d2 keep) (Vg.nilL (Int × List UInt8)) keep)
                                                    (Vg.nilL (Int × List UInt8)) (S.crash d1 d2 keep) (Vg.nilL (Int × List UInt8)) =
                                                  Bool.false →
                                                True)) ∧
                                  (S.same (S.crash (S.sync d1 d2) (Vg.nilL (Int × List UInt8)) keep) (Vg.nilL (Int × List UInt8))
                                        (S.sync d1 d2) (Vg.nilL (Int × List UInt8)) =
                                      Bool.false →
                                    True)) ∧
                      (S.same (S.sync (S.sync d1 d2) (Vg.nilL (Int × List UInt8))) (Vg.nilL (Int × List UInt8)) (S.sync d1 d2)
                            (Vg.nilL (Int × List UInt8)) =
                          Bool.false →
                        True)) ∧
                    (bif
                          S.same (S.sync (S.sync d1 d2) (Vg.nilL (Int × List UInt8))) (Vg.nilL (Int × List UInt8)) (S.sync d1 d2)
                            (Vg.nilL (Int × List UInt8)) then
                        bif
                            S.same (S.crash (S.sync d1 d2) (Vg.nilL (Int × List UInt8)) keep) (Vg.nilL (Int × List UInt8)) (S.sync d1 d2)
                              (Vg.nilL (Int × List UInt8)) then
                          bif
                              S.same (S.crash (S.crash d1 d2 keep) (Vg.nilL (Int × List UInt8)) keep) (Vg.nilL (Int × List UInt8))
                                (S.crash d1 d2 keep) (Vg.nilL (Int × List UInt8)) then
                            bif Decidable.decide ((0 : Int) = (0 : Int)) then
                              bif S.right (S.crash d1 d2 keep) (Vg.nilL (Int × List UInt8)) then Bool.true else Bool.false
                            else Bool.false
                          else Bool.false
                        else Bool.false
                      else Bool.false) =
                      Bool.true)

-- rubricklaw22_BlockLasts: 8896+797 ms, ok
def V_rubricklaw22_BlockLasts (d1 : List (List UInt8)) (d2 : List (Int × List UInt8)) (l : List (Int × Int × List UInt8 × List Int)) (i : Int) (keep : List Int) : Prop :=
  True ∧
  ((bif S.great d1 d2 then Bool.true else Decidable.decide ((300 : Int) < (↑(List.length keep) : Int))) = Bool.true → True ∧ Bool.true = Bool.true) ∧
    ((bif S.great d1 d2 then Bool.true else Decidable.decide ((300 : Int) < (↑(List.length keep) : Int))) = Bool.false →
      True ∧
        True ∧
          (∃ (x : Nat × S.Ws),
              ((0 : Int) = (↑(Prod.fst x) : Int) ∧ S.sync d1 d2 = S.sync d1 d2 ∧ [] = Prod.snd x) ∧
                S.lastsInv (S.sync d1 d2) i (Prod.fst x) (Prod.snd x)) ∧
            ∀ (x : Nat × S.Ws),
              S.lastsInv (S.sync d1 d2) i (Prod.fst x) (Prod.snd x) →
                ((bif Decidable.decide ((↑(Prod.fst x) : Int) < (↑(List.length l) : Int)) then Decidable.decide ((↑(Prod.fst x) : Int) < (60 : Int))
                      else Bool.false) =
                      Bool.true →
                    ((0 : Int) ≤ (↑(Prod.fst x) : Int) ∧ (↑(Prod.fst x) : Int) < (↑(List.length l) : Int)) ∧
                      ((Decidable.decide
                                ((↑(List.length
                                        (Prod.fst (Prod.snd (Prod.snd (List.getD l (Int.toNat (↑(Prod.fst x) : Int)) ((0 : Int), (0 : Int), [], [])))))) :
                                    Int) ≤
                                  (200 : Int)) =
                              Bool.true →
                            (0 : Int) ≤ (↑(Prod.fst x) : Int) ∧ (↑(Prod.fst x) : Int) < (↑(List.length l) : Int)) ∧
                          (Decidable.decide
                                ((↑(List.length
                                        (Prod.fst (Prod.snd (Prod.snd (List.getD l (Int.toNat (↑(Prod.fst x) : Int)) ((0 : Int), (0 : Int), [], [])))))) :
                                    Int) ≤
                                  (200 : Int)) =
                              Bool.false →
                            True)) ∧
                        (((bif
                                    Decidable.decide
                                      ((↑(List.length
                                              (Prod.fst (Prod.snd (Prod.snd (List.getD l (Int.toNat (↑(Prod.fst x) : Int)) ((0 : Int), (0 : Int), [], [])))))) :
                                          Int) ≤
                                        (200 : Int)) then
                                  !Decidable.decide (Prod.fst (Prod.snd (List.getD l (Int.toNat (↑(Prod.fst x) : Int)) ((0 : Int), (0 : Int), [], []))) = i)
                                else Bool.false) =
                                Bool.true →
                              ((0 : Int) ≤ (↑(Prod.fst x) : Int) ∧ (↑(Prod.fst x) : Int) < (↑(List.length l) : Int)) ∧
                                ((0 : Int) ≤ (↑(Prod.fst x) : Int) ∧ (↑(Prod.fst x) : Int) < (↑(List.length l) : Int)) ∧ True) ∧
                            ((bif
                                    Decidable.decide
                                      ((↑(List.length
                                              (Prod.fst (Prod.snd (Prod.snd (List.getD l (Int.toNat (↑(Prod.fst x) : Int)) ((0 : Int), (0 : Int), [], [])))))) :
                                          Int) ≤
                                        (200 : Int)) then
                                  !Decidable.decide (Prod.fst (Prod.snd (List.getD l (Int.toNat (↑(Prod.fst x) : Int)) ((0 : Int), (0 : Int), [], []))) = i)
                                else Bool.false) =
                                Bool.false →
                              True)) ∧
                          ((-9223372036854775808 : Int) ≤ (↑(Prod.fst x) : Int) + (1 : Int) ∧ (↑(Prod.fst x) : Int) + (1 : Int) ≤ (9223372036854775807 : Int)) ∧
                            ∃ (x_1 : Nat × S.Ws),
                              ((↑(Prod.fst x) : Int) + (1 : Int) = (↑(Prod.fst x_1) : Int) ∧
                                  (bif
                                          bif
                                              Decidable.decide
                                                ((↑(List.length
                                                        (Prod.fst
                                                          (Prod.snd
                                                            (Prod.snd (List.getD l (Int.toNat (↑(Prod.fst x) : Int)) ((0 : Int), (0 : Int), [], [])))))) :
                                                    Int) ≤
                                                  (200 : Int)) then
                                            !Decidable.decide
                                                (Prod.fst (Prod.snd (List.getD l (Int.toNat (↑(Prod.fst x) : Int)) ((0 : Int), (0 : Int), [], []))) = i)
                                          else Bool.false then
                                        S.wB (S.sync d1 d2) (Prod.snd x)
                                      else S.sync d1 d2) =
                                      S.sync d1 d2 ∧
                                    (bif
                                          bif
                                              Decidable.decide
                                                ((↑(List.length
                                                        (Prod.fst
                                                          (Prod.snd
                                                            (Prod.snd (List.getD l (Int.toNat (↑(Prod.fst x) : Int)) ((0 : Int), (0 : Int), [], [])))))) :
                                                    Int) ≤
                                                  (200 : Int)) then
                                            !Decidable.decide
                                                (Prod.fst (Prod.snd (List.getD l (Int.toNat (↑(Prod.fst x) : Int)) ((0 : Int), (0 : Int), [], []))) = i)
                                          else Bool.false then
                                        S.wW (S.sync d1 d2) (Prod.snd x)
                                          (Prod.fst (Prod.snd (List.getD l (Int.toNat (↑(Prod.fst x) : Int)) ((0 : Int), (0 : Int), [], []))))
                                          (Prod.fst (Prod.snd (Prod.snd (List.getD l (Int.toNat (↑(Prod.fst x) : Int)) ((0 : Int), (0 : Int), [], [])))))
                                      else Prod.snd x) =
                                      Prod.snd x_1) ∧
                                S.lastsInv (S.sync d1 d2) i (Prod.fst x_1) (Prod.snd x_1) ∧
                                  S.meas (60 : Nat) (Prod.fst x_1) < S.meas (60 : Nat) (Prod.fst x)) ∧
                  ((bif Decidable.decide ((↑(Prod.fst x) : Int) < (↑(List.length l) : Int)) then Decidable.decide ((↑(Prod.fst x) : Int) < (60 : Int))
                      else Bool.false) =
                      Bool.false →
                    True ∧
                      True ∧
                        ((Decidable.decide
                                  (S.rErr (S.sync d1 d2) (Vg.nilL (Int × List UInt8)) i =
                                    S.rErr (S.crash (S.sync d1 d2) (Prod.snd x) keep) (Vg.nilL (Int × List UInt8)) i) =
                                Bool.true →
                              (Decidable.decide
                                      (S.rRes (S.sync d1 d2) (Vg.nilL (Int × List UInt8)) i =
                                        S.rRes (S.crash (S.sync d1 d2) (Prod.snd x) keep) (Vg.nilL (Int × List UInt8)) i) =
                                    Bool.true →
                                  True) ∧
                                (Decidable.decide
                                      (S.rRes (S.sync d1 d2) (Vg.nilL (Int × List UInt8)) i =
                                        S.rRes (S.crash (S.sync d1 d2) (Prod.snd x) keep) (Vg.nilL (Int × List UInt8)) i) =
                                    Bool.false →
                                  True)) ∧
                            (Decidable.decide
                                  (S.rErr (S.sync d1 d2) (Vg.nilL (Int × List UInt8)) i =
                                    S.rErr (S.crash (S.sync d1 d2) (Prod.snd x) keep) (Vg.nilL (Int × List UInt8)) i) =
                                Bool.false →
                              True)) ∧
                          (bif
                                Decidable.decide
                                  (S.rErr (S.sync d1 d2) (Vg.nilL (Int × List UInt8)) i =
                                    S.rErr (S.crash (S.sync d1 d2) (Prod.snd x) keep) (Vg.nilL (Int × List UInt8)) i) then
                              bif
                                  Decidable.decide
                                    (S.rRes (S.sync d1 d2) (Vg.nilL (Int × List UInt8)) i =
                                      S.rRes (S.crash (S.sync d1 d2) (Prod.snd x) keep) (Vg.nilL (Int × List UInt8)) i) then
                                Bool.true
                              else Bool.false
                            else Bool.false) =
                            Bool.true))

-- rubricklaw22_BlockTears: 27402+982 ms, ok
def V_rubricklaw22_BlockTears (d1 : List (List UInt8)) (d2 : List (Int × List UInt8)) (l : List (Int × Int × List UInt8 × List Int)) (i : Int) (b : List UInt8) (keep : List Int) : Prop :=
  True ∧
  ((bif S.great d1 d2 then Bool.true
        else bif Decidable.decide ((300 : Int) < (↑(List.length keep) : Int)) then Bool.true else !Decidable.decide ((↑(List.length b) : Int) = (64 : Int))) =
        Bool.true →
      True ∧ Bool.true = Bool.true) ∧
    ((bif S.great d1 d2 then Bool.true
        else bif Decidable.decide ((300 : Int) < (↑(List.length keep) : Int)) then Bool.true else !Decidable.decide ((↑(List.length b) : Int) = (64 : Int))) =
        Bool.false →
      True ∧
        True ∧
          ((!Decidable.decide (S.rErr (S.sync d1 d2) (Vg.nilL (Int × List UInt8)) i = (0 : Int))) = Bool.true →
              ((Decidable.decide ((↑(List.length (S.rRes (S.sync d1 d2) (Vg.nilL (Int × List UInt8)) i)) : Int) = (0 : Int)) = Bool.true → True) ∧
                  (Decidable.decide ((↑(List.length (S.rRes (S.sync d1 d2) (Vg.nilL (Int × List UInt8)) i)) : Int) = (0 : Int)) = Bool.false → True)) ∧
                (bif Decidable.decide ((↑(List.length (S.rRes (S.sync d1 d2) (Vg.nilL (Int × List UInt8)) i)) : Int) = (0 : Int)) then Bool.true
                  else Bool.false) =
                  Bool.true) ∧
            ((!Decidable.decide (S.rErr (S.sync d1 d2) (Vg.nilL (Int × List UInt8)) i = (0 : Int))) = Bool.false →
              True ∧
                (∃ (x : Nat × S.Ws),
                    ((0 : Int) = (↑(Prod.fst x) : Int) ∧
                        S.wB (S.sync d1 d2) (Vg.nilL (Int × List UInt8)) = S.sync d1 d2 ∧
                          S.wW (S.sync d1 d2) (Vg.nilL (Int × List UInt8)) i b = Prod.snd x) ∧
                      S.tearsInv (S.sync d1 d2) i b (Prod.fst x) (Prod.snd x)) ∧
                  ∀ (x : Nat × S.Ws),
                    S.tearsInv (S.sync d1 d2) i b (Prod.fst x) (Prod.snd x) →
                      ((bif Decidable.decide ((↑(Prod.fst x) : Int) < (↑(List.length l) : Int)) then Decidable.decide ((↑(Prod.fst x) : Int) < (60 : Int))
                            else Bool.false) =
                            Bool.true →
                          ((0 : Int) ≤ (↑(Prod.fst x) : Int) ∧ (↑(Prod.fst x) : Int) < (↑(List.length l) : Int)) ∧
                            ((Decidable.decide
                                      ((↑(List.length
                                              (Prod.fst (Prod.snd (Prod.snd (List.getD l (Int.toNat (↑(Prod.fst x) : Int)) ((0 : Int), (0 : Int), [], [])))))) :
                                          Int) ≤
                                        (200 : Int)) =
                                    Bool.true →
                                  (0 : Int) ≤ (↑(Prod.fst x) : Int) ∧ (↑(Prod.fst x) : Int) < (↑(List.length l) : Int)) ∧
                                (Decidable.decide
                                      ((↑(List.length
                                              (Prod.fst (Prod.snd (Prod.snd (List.getD l (Int.toNat (↑(Prod.fst x) : Int)) ((0 : Int), (0 : Int), [], [])))))) :
                                          Int) ≤
                                        (200 : Int)) =
                                    Bool.false →
                                  True)) ∧
                              (((bif
                                          Decidable.decide
                                            ((↑(List.length
                                                    (Prod.fst
                                                      (Prod.snd (Prod.snd (List.getD l (Int.toNat (↑(Prod.fst x) : Int)) ((0 : Int), (0 : Int), [], [])))))) :
                                                Int) ≤
                                              (200 : Int)) then
                                        !Decidable.decide
                                            (Prod.fst (Prod.snd (List.getD l (Int.toNat (↑(Prod.fst x) : Int)) ((0 : Int), (0 : Int), [], []))) = i)
                                      else Bool.false) =
                                      Bool.true →
                                    ((0 : Int) ≤ (↑(Prod.fst x) : Int) ∧ (↑(Prod.fst x) : Int) < (↑(List.length l) : Int)) ∧
                                      ((0 : Int) ≤ (↑(Prod.fst x) : Int) ∧ (↑(Prod.fst x) : Int) < (↑(List.length l) : Int)) ∧ True) ∧
                                  ((bif
                                          Decidable.decide
                                            ((↑(List.length
                                                    (Prod.fst
                                                      (Prod.snd (Prod.snd (List.getD l (Int.toNat (↑(Prod.fst x) : Int)) ((0 : Int), (0 : Int), [], [])))))) :
                                                Int) ≤
                                              (200 : Int)) then
                                        !Decidable.decide
                                            (Prod.fst (Prod.snd (List.getD l (Int.toNat (↑(Prod.fst x) : Int)) ((0 : Int), (0 : Int), [], []))) = i)
                                      else Bool.false) =
                                      Bool.false →
                                    True)) ∧
                                ((-9223372036854775808 : Int) ≤ (↑(Prod.fst x) : Int) + (1 : Int) ∧
                                    (↑(Prod.fst x) : Int) + (1 : Int) ≤ (9223372036854775807 : Int)) ∧
                                  ∃ (x_1 : Nat × S.Ws),
                                    ((↑(Prod.fst x) : Int) + (1 : Int) = (↑(Prod.fst x_1) : Int) ∧
                                        (bif
                                                bif
                                                    Decidable.decide
                                                      ((↑(List.length
                                                              (Prod.fst
                                                                (Prod.snd
                                                                  (Prod.snd (List.getD l (Int.toNat (↑(Prod.fst x) : Int)) ((0 : Int), (0 : Int), [], [])))))) :
                                                          Int) ≤
                                                        (200 : Int)) then
                                                  !Decidable.decide
                                                      (Prod.fst (Prod.snd (List.getD l (Int.toNat (↑(Prod.fst x) : Int)) ((0 : Int), (0 : Int), [], []))) = i)
                                                else Bool.false then
                                              S.wB (S.sync d1 d2) (Prod.snd x)
                                            else S.sync d1 d2) =
                                            S.sync d1 d2 ∧
                                          (bif
                                                bif
                                                    Decidable.decide
                                                      ((↑(List.length
                                                              (Prod.fst
                                                                (Prod.snd
                                                                  (Prod.snd (List.getD l (Int.toNat (↑(Prod.fst x) : Int)) ((0 : Int), (0 : Int), [], [])))))) :
                                                          Int) ≤
                                                        (200 : Int)) then
                                                  !Decidable.decide
                                                      (Prod.fst (Prod.snd (List.getD l (Int.toNat (↑(Prod.fst x) : Int)) ((0 : Int), (0 : Int), [], []))) = i)
                                                else Bool.false then
                                              S.wW (S.sync d1 d2) (Prod.snd x)
                                                (Prod.fst (Prod.snd (List.getD l (Int.toNat (↑(Prod.fst x) : Int)) ((0 : Int), (0 : Int), [], []))))
                                                (Prod.fst (Prod.snd (Prod.snd (List.getD l (Int.toNat (↑(Prod.fst x) : Int)) ((0 : Int), (0 : Int), [], [])))))
                                            else Prod.snd x) =
                                            Prod.snd x_1) ∧
                                      S.tearsInv (S.sync d1 d2) i b (Prod.fst x_1) (Prod.snd x_1) ∧
                                        S.meas (60 : Nat) (Prod.fst x_1) < S.meas (60 : Nat) (Prod.fst x)) ∧
                        ((bif Decidable.decide ((↑(Prod.fst x) : Int) < (↑(List.length l) : Int)) then Decidable.decide ((↑(Prod.fst x) : Int) < (60 : Int))
                            else Bool.false) =
                            Bool.false →
                          True ∧
                            True ∧
                              ((bif
                                        !Decidable.decide
                                            (S.rErr (S.crash (S.sync d1 d2) (Prod.snd x) keep) (Vg.nilL (Int × List UInt8)) i = (0 : Int)) then
                                      Bool.true
                                    else
                                      bif
                                          !Decidable.decide
                                              ((↑(List.length (S.rRes (S.crash (S.sync d1 d2) (Prod.snd x) keep) (Vg.nilL (Int × List UInt8)) i)) :
                                                  Int) =
                                                (64 : Int)) then
                                        Bool.true
                                      else
                                        !Decidable.decide
                                            ((↑(List.length (S.rRes (S.sync d1 d2) (Vg.nilL (Int × List UInt8)) i)) : Int) = (64 : Int))) =
                                    Bool.true →
                                  Bool.false = Bool.true) ∧
                                ((bif
                                        !Decidable.decide
                                            (S.rErr (S.crash (S.sync d1 d2) (Prod.snd x) keep) (Vg.nilL (Int × List UInt8)) i = (0 : Int)) then
                                      Bool.true
                                    else
                                      bif
                                          !Decidable.decide
                                              ((↑(List.length (S.rRes (S.crash (S.sync d1 d2) (Prod.snd x) keep) (Vg.nilL (Int × List UInt8)) i)) :
                                                  Int) =
                                                (64 : Int)) then
                                        Bool.true
                                      else
                                        !Decidable.decide
                                            ((↑(List.length (S.rRes (S.sync d1 d2) (Vg.nilL (Int × List UInt8)) i)) : Int) = (64 : Int))) =
                                    Bool.false →
                                  (∃ (x : Nat), (0 : Int) = (↑x : Int) ∧ S.leN x (S.kept keep (0 : Nat))) ∧
                                    ∀ (x_1 : Nat),
                                      S.leN x_1 (S.kept keep (0 : Nat)) →
                                        (Decidable.decide ((↑x_1 : Int) ≤ (64 : Int)) = Bool.true →
                                            ((0 : Int) ≤ (↑x_1 : Int) ∧ (↑x_1 : Int) ≤ (↑(List.length b) : Int)) ∧
                                              ((0 : Int) ≤ (↑x_1 : Int) ∧
                                                  (↑x_1 : Int) ≤ (↑(List.length (S.rRes (S.sync d1 d2) (Vg.nilL (Int × List UInt8)) i)) : Int)) ∧
                                                (↑(List.length (List.take (Int.toNat (↑x_1 : Int)) b) +
                                                          List.length
                                                            (List.drop (Int.toNat (↑x_1 : Int))
                                                              (S.rRes (S.sync d1 d2) (Vg.nilL (Int × List UInt8)) i))) :
                                                      Int) ≤
                                                    (9223372036854775807 : Int) ∧
                                                  (Decidable.decide
                                                          (S.rRes (S.crash (S.sync d1 d2) (Prod.snd x) keep) (Vg.nilL (Int × List UInt8)) i =
                                                            List.take (Int.toNat (↑x_1 : Int)) b ++
                                                              List.drop (Int.toNat (↑x_1 : Int))
                                                                (S.rRes (S.sync d1 d2) (Vg.nilL (Int × List UInt8)) i)) =
                                                        Bool.true →
                                                      True ∧ Bool.true = Bool.true) ∧
                                                    (Decidable.decide
                                                          (S.rRes (S.crash (S.sync d1 d2) (Prod.snd x) keep) (Vg.nilL (Int × List UInt8)) i =
                                                            List.take (Int.toNat (↑x_1 : Int)) b ++
                                                              List.drop (Int.toNat (↑x_1 : Int))
                                                                (S.rRes (S.sync d1 d2) (Vg.nilL (Int × List UInt8)) i)) =
                                                        Bool.false →
                                                      ((-9223372036854775808 : Int) ≤ (↑x_1 : Int) + (1 : Int) ∧
                                                          (↑x_1 : Int) + (1 : Int) ≤ (9223372036854775807 : Int)) ∧
                                                        ∃ (x : Nat),
                                                          (↑x_1 : Int) + (1 : Int) = (↑x : Int) ∧
                                                            S.leN x (S.kept keep (0 : Nat)) ∧ S.meas (100 : Nat) x < S.meas (100 : Nat) x_1)) ∧
                                          (Decidable.decide ((↑x_1 : Int) ≤ (64 : Int)) = Bool.false → Bool.false = Bool.true)))))

-- block_copied: 309+26 ms, ok
def V_block_copied (b : List UInt8) : Prop :=
  ((0 : Int) ≤ (64 : Int) ∧ (64 : Int) ≤ (64 : Int) ∧ (64 : Int) ≤ (140737488355328 : Int) / (↑(1 : Nat) : Int)) ∧
  List.take (List.length (List.replicate (Int.toNat (64 : Int)) (0 : UInt8))) b ++
      List.drop (List.length b) (List.replicate (Int.toNat (64 : Int)) (0 : UInt8)) =
    S.copied b

-- block_blank: 1005+304 ms, ok
def V_block_blank (n : Int) : Prop :=
  ((-9223372036854775808 : Int) ≤ n * (64 : Int) ∧ n * (64 : Int) ≤ (9223372036854775807 : Int)) ∧
  ((0 : Int) ≤ n * (64 : Int) ∧ n * (64 : Int) ≤ n * (64 : Int) ∧ n * (64 : Int) ≤ (140737488355328 : Int) / (↑(1 : Nat) : Int)) ∧
    ((0 : Int) ≤ n ∧ n ≤ n ∧ n ≤ (140737488355328 : Int) / (↑(24 : Nat) : Int)) ∧
      (∃ (x : Nat),
          ((0 : Int) = (↑x : Int) ∧ List.length (List.replicate (Int.toNat n) (Vg.nilL UInt8)) = Int.toNat n ∧ x = (0 : Nat)) ∧ S.natLe x (Int.toNat n)) ∧
        ∀ (x : Nat),
          S.natLe x (Int.toNat n) →
            (Decidable.decide ((↑x : Int) < (↑(List.length (List.replicate (Int.toNat n) (Vg.nilL UInt8))) : Int)) = Bool.true →
                ((-9223372036854775808 : Int) ≤ (↑x : Int) * (64 : Int) ∧ (↑x : Int) * (64 : Int) ≤ (9223372036854775807 : Int)) ∧
                  ((-9223372036854775808 : Int) ≤ (↑x : Int) + (1 : Int) ∧ (↑x : Int) + (1 : Int) ≤ (9223372036854775807 : Int)) ∧
                    ((-9223372036854775808 : Int) ≤ ((↑x : Int) + (1 : Int)) * (64 : Int) ∧
                        ((↑x : Int) + (1 : Int)) * (64 : Int) ≤ (9223372036854775807 : Int)) ∧
                      ((0 : Int) ≤ (↑x : Int) * (64 : Int) ∧
                          (↑x : Int) * (64 : Int) ≤ ((↑x : Int) + (1 : Int)) * (64 : Int) ∧
                            ((↑x : Int) + (1 : Int)) * (64 : Int) ≤ ((↑x : Int) + (1 : Int)) * (64 : Int) ∧
                              ((↑x : Int) + (1 : Int)) * (64 : Int) ≤ (↑(List.length (List.replicate (Int.toNat (n * (64 : Int))) (0 : UInt8))) : Int)) ∧
                        ((0 : Int) ≤ (↑x : Int) ∧ (↑x : Int) < (↑(Int.toNat n) : Int)) ∧
                          (Int.toNat (↑x : Int) = x ∧
                              x < Int.toNat n ∧
                                Int.toNat ((↑x : Int) * (64 : Int)) = x * (64 : Nat) ∧
                                  Int.toNat (((↑x : Int) + (1 : Int)) * (64 : Int)) - Int.toNat ((↑x : Int) * (64 : Int)) = (64 : Nat)) ∧
                            ((-9223372036854775808 : Int) ≤ (↑x : Int) + (1 : Int) ∧ (↑x : Int) + (1 : Int) ≤ (9223372036854775807 : Int)) ∧
                              ∃ (x_1 : Nat),
                                ((↑x : Int) + (1 : Int) = (↑x_1 : Int) ∧ Int.toNat n = Int.toNat n ∧ x + (1 : Nat) = x_1 ∧ (64 : Nat) = (64 : Nat)) ∧
                                  S.natLe x_1 (Int.toNat n) ∧ S.meas (Int.toNat n) x_1 < S.meas (Int.toNat n) x) ∧
              (Decidable.decide ((↑x : Int) < (↑(List.length (List.replicate (Int.toNat n) (Vg.nilL UInt8))) : Int)) = Bool.false →
                Int.toNat n = Int.toNat n ∧
                  x = Int.toNat n ∧ (64 : Nat) = (64 : Nat) ∧ List.replicate (Int.toNat (n * (64 : Int))) (0 : UInt8) = S.zeros64 n)

-- block_stored: 966+137 ms, ok
def V_block_stored (d1 : List (List UInt8)) (d2 : List (Int × List UInt8)) : Prop :=
  S.blankPre (↑(List.length d1) : Int) ∧
  (∃ (x : Nat), ((0 : Int) = (↑x : Int) ∧ S.zeros64 (↑(List.length d1) : Int) = S.storedAt d1 x) ∧ S.minv d1 x) ∧
    ∀ (x : Nat),
      S.minv d1 x →
        (Decidable.decide ((↑x : Int) < (↑(List.length d1) : Int)) = Bool.true →
            ((0 : Int) ≤ (↑x : Int) ∧ (↑x : Int) < (↑(List.length d1) : Int)) ∧
              ((0 : Int) ≤ (↑x : Int) ∧ (↑x : Int) < (↑(Int.toNat (↑(List.length d1) : Int)) : Int)) ∧
                Int.toNat (↑x : Int) < Int.toNat (↑(List.length d1) : Int) ∧
                  Int.toNat (↑x : Int) * (64 : Nat) + (64 : Nat) ≤ List.length (S.storedAt d1 x) ∧
                    ((-9223372036854775808 : Int) ≤ (↑x : Int) + (1 : Int) ∧ (↑x : Int) + (1 : Int) ≤ (9223372036854775807 : Int)) ∧
                      ∃ (x_1 : Nat),
                        ((↑x : Int) + (1 : Int) = (↑x_1 : Int) ∧
                            List.take (Int.toNat (↑x : Int) * (64 : Nat)) (S.storedAt d1 x) ++
                                  List.take (64 : Nat) (List.getD d1 (Int.toNat (↑x : Int)) []) ++
                                List.drop (Int.toNat (↑x : Int) * (64 : Nat) + Min.min (List.length (List.getD d1 (Int.toNat (↑x : Int)) [])) (64 : Nat))
                                  (S.storedAt d1 x) =
                              S.storedAt d1 x_1) ∧
                          S.minv d1 x_1 ∧ S.meas (S.len d1) x_1 < S.meas (S.len d1) x) ∧
          (Decidable.decide ((↑x : Int) < (↑(List.length d1) : Int)) = Bool.false →
            Int.toNat (↑(List.length d1) : Int) = S.len d1 ∧
              Int.toNat (↑(List.length d1) : Int) = S.len d1 ∧ (64 : Nat) = (64 : Nat) ∧ S.storedAt d1 x = S.flat d1)

-- block_Right: 3509+195 ms, ok
def V_block_Right (d1 : List (List UInt8)) (d2 : List (Int × List UInt8)) : Prop :=
  ((bif Decidable.decide ((4096 : Int) < (↑(List.length d1) : Int)) then Bool.true else Decidable.decide ((1000 : Int) < (↑(List.length d2) : Int))) = Bool.true →
    Bool.false = S.right d1 d2) ∧
  ((bif Decidable.decide ((4096 : Int) < (↑(List.length d1) : Int)) then Bool.true else Decidable.decide ((1000 : Int) < (↑(List.length d2) : Int))) =
      Bool.false →
    (∃ (x : Nat), (0 : Int) = (↑x : Int) ∧ S.rinv d1 x) ∧
      ∀ (x : Nat),
        S.rinv d1 x →
          (Decidable.decide ((↑x : Int) < (↑(List.length d1) : Int)) = Bool.true →
              ((0 : Int) ≤ (↑x : Int) ∧ (↑x : Int) < (↑(List.length d1) : Int)) ∧
                ((!Decidable.decide ((↑(List.length (List.getD d1 (Int.toNat (↑x : Int)) [])) : Int) = (64 : Int))) = Bool.true →
                    Bool.false = S.right d1 d2) ∧
                  ((!Decidable.decide ((↑(List.length (List.getD d1 (Int.toNat (↑x : Int)) [])) : Int) = (64 : Int))) = Bool.false →
                    ((-9223372036854775808 : Int) ≤ (↑x : Int) + (1 : Int) ∧ (↑x : Int) + (1 : Int) ≤ (9223372036854775807 : Int)) ∧
                      ∃ (x_1 : Nat), (↑x : Int) + (1 : Int) = (↑x_1 : Int) ∧ S.rinv d1 x_1 ∧ S.meas (S.len d1) x_1 < S.meas (S.len d1) x)) ∧
            (Decidable.decide ((↑x : Int) < (↑(List.length d1) : Int)) = Bool.false →
              (∃ (x : Nat), (0 : Int) = (↑x : Int) ∧ S.winv d1 d2 x) ∧
                ∀ (x : Nat),
                  S.winv d1 d2 x →
                    (Decidable.decide ((↑x : Int) < (↑(List.length d2) : Int)) = Bool.true →
                        ((0 : Int) ≤ (↑x : Int) ∧ (↑x : Int) < (↑(List.length d2) : Int)) ∧
                          ((bif Decidable.decide (Prod.fst (List.getD d2 (Int.toNat (↑x : Int)) ((0 : Int), [])) < (0 : Int)) then Bool.true
                                else
                                  bif Decidable.decide ((↑(List.length d1) : Int) ≤ Prod.fst (List.getD d2 (Int.toNat (↑x : Int)) ((0 : Int), []))) then
                                    Bool.true
                                  else
                                    !Decidable.decide ((↑(List.length (Prod.snd (List.getD d2 (Int.toNat (↑x : Int)) ((0 : Int), [])))) : Int) = (64 : Int))) =
                                Bool.true →
                              Bool.false = S.right d1 d2) ∧
                            ((bif Decidable.decide (Prod.fst (List.getD d2 (Int.toNat (↑x : Int)) ((0 : Int), [])) < (0 : Int)) then Bool.true
                                else
                                  bif Decidable.decide ((↑(List.length d1) : Int) ≤ Prod.fst (List.getD d2 (Int.toNat (↑x : Int)) ((0 : Int), []))) then
                                    Bool.true
                                  else
                                    !Decidable.decide ((↑(List.length (Prod.snd (List.getD d2 (Int.toNat (↑x : Int)) ((0 : Int), [])))) : Int) = (64 : Int))) =
                                Bool.false →
                              ((-9223372036854775808 : Int) ≤ (↑x : Int) + (1 : Int) ∧ (↑x : Int) + (1 : Int) ≤ (9223372036854775807 : Int)) ∧
                                ∃ (x_1 : Nat),
                                  (↑x : Int) + (1 : Int) = (↑x_1 : Int) ∧ S.winv d1 d2 x_1 ∧ S.meas (S.len d2) x_1 < S.meas (S.len d2) x)) ∧
                      (Decidable.decide ((↑x : Int) < (↑(List.length d2) : Int)) = Bool.false → Bool.true = S.right d1 d2)))

-- block_valid: 219+31 ms, ok
def V_block_valid (d1 : List (List UInt8)) (d2 : List (Int × List UInt8)) : Prop :=
  True ∧
  ((!S.right d1 d2) = Bool.true → [] = S.vB d1 d2 ∧ [] = S.vW d1 d2) ∧ ((!S.right d1 d2) = Bool.false → d1 = S.vB d1 d2 ∧ d2 = S.vW d1 d2)

-- block_Len: 208+23 ms, ok
def V_block_Len (d1 : List (List UInt8)) (d2 : List (Int × List UInt8)) : Prop :=
  True ∧ (↑(List.length (S.vB d1 d2)) : Int) = S.lenI (S.vB d1 d2)

-- block_New: 334+69 ms, ok
def V_block_New (n : Int) : Prop :=
  ((bif Decidable.decide (n < (0 : Int)) then Bool.true else Decidable.decide ((4096 : Int) < n)) = Bool.true → [] = S.nRes n ∧ (1 : Int) = S.nErr n) ∧
  ((bif Decidable.decide (n < (0 : Int)) then Bool.true else Decidable.decide ((4096 : Int) < n)) = Bool.false →
    S.blankPre n ∧ Int.toNat n = Int.toNat n ∧ Vg.gridOf (64 : Nat) (Int.toNat n) (S.zeros64 n) = S.nRes n ∧ (0 : Int) = S.nErr n)

-- block_Read: 1742+136 ms, ok
def V_block_Read (d1 : List (List UInt8)) (d2 : List (Int × List UInt8)) (i : Int) : Prop :=
  True ∧
  ((bif Decidable.decide (i < (0 : Int)) then Bool.true else Decidable.decide ((↑(List.length (S.vB d1 d2)) : Int) ≤ i)) = Bool.true →
      [] = S.rRes d1 d2 i ∧ (1 : Int) = S.rErr d1 d2 i) ∧
    ((bif Decidable.decide (i < (0 : Int)) then Bool.true else Decidable.decide ((↑(List.length (S.vB d1 d2)) : Int) ≤ i)) = Bool.false →
      ((0 : Int) ≤ i ∧ i < (↑(List.length (S.vB d1 d2)) : Int)) ∧
        (∃ (x : Nat),
            ((0 : Int) = (↑x : Int) ∧ List.getD (S.vB d1 d2) (Int.toNat i) [] = S.contAt (S.vW d1 d2) i (S.blk (S.vB d1 d2) i) x) ∧
              S.minv (S.vW d1 d2) x) ∧
          ∀ (x : Nat),
            S.minv (S.vW d1 d2) x →
              (Decidable.decide ((↑x : Int) < (↑(List.length (S.vW d1 d2)) : Int)) = Bool.true →
                  ((0 : Int) ≤ (↑x : Int) ∧ (↑x : Int) < (↑(List.length (S.vW d1 d2)) : Int)) ∧
                    ((-9223372036854775808 : Int) ≤ (↑x : Int) + (1 : Int) ∧ (↑x : Int) + (1 : Int) ≤ (9223372036854775807 : Int)) ∧
                      ∃ (x_1 : Nat),
                        ((↑x : Int) + (1 : Int) = (↑x_1 : Int) ∧
                            (bif Decidable.decide (Prod.fst (List.getD (S.vW d1 d2) (Int.toNat (↑x : Int)) ((0 : Int), [])) = i) then
                                Prod.snd (List.getD (S.vW d1 d2) (Int.toNat (↑x : Int)) ((0 : Int), []))
                              else S.contAt (S.vW d1 d2) i (S.blk (S.vB d1 d2) i) x) =
                              S.contAt (S.vW d1 d2) i (S.blk (S.vB d1 d2) i) x_1) ∧
                          S.minv (S.vW d1 d2) x_1 ∧ S.meas (S.len (S.vW d1 d2)) x_1 < S.meas (S.len (S.vW d1 d2)) x) ∧
                (Decidable.decide ((↑x : Int) < (↑(List.length (S.vW d1 d2)) : Int)) = Bool.false →
                  True ∧ S.copied (S.contAt (S.vW d1 d2) i (S.blk (S.vB d1 d2) i) x) = S.rRes d1 d2 i ∧ (0 : Int) = S.rErr d1 d2 i))

-- block_Write: 6580+705 ms, ok
def V_block_Write (d1 : List (List UInt8)) (d2 : List (Int × List UInt8)) (i : Int) (b : List UInt8) : Prop :=
  True ∧
  ((bif Decidable.decide (i < (0 : Int)) then Bool.true
        else bif Decidable.decide ((↑(List.length (S.vB d1 d2)) : Int) ≤ i) then Bool.true else !Decidable.decide ((↑(List.length b) : Int) = (64 : Int))) =
        Bool.true →
      S.vB d1 d2 = S.wB d1 d2 ∧ S.vW d1 d2 = S.wW d1 d2 i b ∧ (1 : Int) = S.wErr d1 d2 i b) ∧
    ((bif Decidable.decide (i < (0 : Int)) then Bool.true
        else bif Decidable.decide ((↑(List.length (S.vB d1 d2)) : Int) ≤ i) then Bool.true else !Decidable.decide ((↑(List.length b) : Int) = (64 : Int))) =
        Bool.false →
      (Decidable.decide ((1000 : Int) ≤ (↑(List.length (S.vW d1 d2)) : Int)) = Bool.true →
          S.vB d1 d2 = S.wB d1 d2 ∧ S.vW d1 d2 = S.wW d1 d2 i b ∧ (3 : Int) = S.wErr d1 d2 i b) ∧
        (Decidable.decide ((1000 : Int) ≤ (↑(List.length (S.vW d1 d2)) : Int)) = Bool.false →
          S.storedPre (S.vB d1 d2) ∧
            (∃ (x : Nat), ((0 : Int) = (↑x : Int) ∧ [] = S.waitsAt (S.vW d1 d2) x) ∧ S.minv (S.vW d1 d2) x) ∧
              ∀ (x : Nat),
                S.minv (S.vW d1 d2) x →
                  (Decidable.decide ((↑x : Int) < (↑(List.length (S.vW d1 d2)) : Int)) = Bool.true →
                      ((0 : Int) ≤ (↑x : Int) ∧ (↑x : Int) < (↑(List.length (S.vW d1 d2)) : Int)) ∧
                        True ∧
                          List.length (S.waitsAt (S.vW d1 d2) x) +
                                List.length
                                  [(Prod.fst (List.getD (S.vW d1 d2) (Int.toNat (↑x : Int)) ((0 : Int), [])),
                                      S.copied (Prod.snd (List.getD (S.vW d1 d2) (Int.toNat (↑x : Int)) ((0 : Int), []))))] ≤
                              (4398046511104 : Nat) ∧
                            ((-9223372036854775808 : Int) ≤ (↑x : Int) + (1 : Int) ∧ (↑x : Int) + (1 : Int) ≤ (9223372036854775807 : Int)) ∧
                              ∃ (x_1 : Nat),
                                ((↑x : Int) + (1 : Int) = (↑x_1 : Int) ∧
                                    S.waitsAt (S.vW d1 d2) x ++
                                        [(Prod.fst (List.getD (S.vW d1 d2) (Int.toNat (↑x : Int)) ((0 : Int), [])),
                                            S.copied (Prod.snd (List.getD (S.vW d1 d2) (Int.toNat (↑x : Int)) ((0 : Int), []))))] =
                                      S.waitsAt (S.vW d1 d2) x_1) ∧
                                  S.minv (S.vW d1 d2) x_1 ∧ S.meas (S.len (S.vW d1 d2)) x_1 < S.meas (S.len (S.vW d1 d2)) x) ∧
                    (Decidable.decide ((↑x : Int) < (↑(List.length (S.vW d1 d2)) : Int)) = Bool.false →
                      True ∧
                        List.length (S.waitsAt (S.vW d1 d2) x) + List.length [(i, S.copied b)] ≤ (4398046511104 : Nat) ∧
                          S.len (S.vB d1 d2) = S.len (S.vB d1 d2) ∧
                            Vg.gridOf (64 : Nat) (S.len (S.vB d1 d2)) (S.flat (S.vB d1 d2)) = S.wB d1 d2 ∧
                              S.waitsAt (S.vW d1 d2) x ++ [(i, S.copied b)] = S.wW d1 d2 i b ∧ (0 : Int) = S.wErr d1 d2 i b)))

-- block_Sync: 1133+227 ms, ok
def V_block_Sync (d1 : List (List UInt8)) (d2 : List (Int × List UInt8)) : Prop :=
  True ∧
  S.storedPre (S.vB d1 d2) ∧
    (∃ (x : Nat), ((0 : Int) = (↑x : Int) ∧ S.flat (S.vB d1 d2) = S.syncAt (S.vB d1 d2) (S.vW d1 d2) x) ∧ S.minv (S.vW d1 d2) x) ∧
      ∀ (x : Nat),
        S.minv (S.vW d1 d2) x →
          (Decidable.decide ((↑x : Int) < (↑(List.length (S.vW d1 d2)) : Int)) = Bool.true →
              ((0 : Int) ≤ (↑x : Int) ∧ (↑x : Int) < (↑(List.length (S.vW d1 d2)) : Int)) ∧
                ((0 : Int) ≤ Prod.fst (List.getD (S.vW d1 d2) (Int.toNat (↑x : Int)) ((0 : Int), [])) ∧
                    Prod.fst (List.getD (S.vW d1 d2) (Int.toNat (↑x : Int)) ((0 : Int), [])) < (↑(S.len (S.vB d1 d2)) : Int)) ∧
                  Int.toNat (Prod.fst (List.getD (S.vW d1 d2) (Int.toNat (↑x : Int)) ((0 : Int), []))) < S.len (S.vB d1 d2) ∧
                    Int.toNat (Prod.fst (List.getD (S.vW d1 d2) (Int.toNat (↑x : Int)) ((0 : Int), []))) * (64 : Nat) + (64 : Nat) ≤
                        List.length (S.syncAt (S.vB d1 d2) (S.vW d1 d2) x) ∧
                      ((-9223372036854775808 : Int) ≤ (↑x : Int) + (1 : Int) ∧ (↑x : Int) + (1 : Int) ≤ (9223372036854775807 : Int)) ∧
                        ∃ (x_1 : Nat),
                          ((↑x : Int) + (1 : Int) = (↑x_1 : Int) ∧
                              List.take (Int.toNat (Prod.fst (List.getD (S.vW d1 d2) (Int.toNat (↑x : Int)) ((0 : Int), []))) * (64 : Nat))
                                      (S.syncAt (S.vB d1 d2) (S.vW d1 d2) x) ++
                                    List.take (64 : Nat) (Prod.snd (List.getD (S.vW d1 d2) (Int.toNat (↑x : Int)) ((0 : Int), []))) ++
                                  List.drop
                                    (Int.toNat (Prod.fst (List.getD (S.vW d1 d2) (Int.toNat (↑x : Int)) ((0 : Int), []))) * (64 : Nat) +
                                      Min.min (List.length (Prod.snd (List.getD (S.vW d1 d2) (Int.toNat (↑x : Int)) ((0 : Int), [])))) (64 : Nat))
                                    (S.syncAt (S.vB d1 d2) (S.vW d1 d2) x) =
                                S.syncAt (S.vB d1 d2) (S.vW d1 d2) x_1) ∧
                            S.minv (S.vW d1 d2) x_1 ∧ S.meas (S.len (S.vW d1 d2)) x_1 < S.meas (S.len (S.vW d1 d2)) x) ∧
            (Decidable.decide ((↑x : Int) < (↑(List.length (S.vW d1 d2)) : Int)) = Bool.false →
              S.len (S.vB d1 d2) = S.len (S.vB d1 d2) ∧
                Vg.gridOf (64 : Nat) (S.len (S.vB d1 d2)) (S.syncAt (S.vB d1 d2) (S.vW d1 d2) x) = S.sync d1 d2)

-- block_Crash: 3129+416 ms, ok
def V_block_Crash (d1 : List (List UInt8)) (d2 : List (Int × List UInt8)) (keep : List Int) : Prop :=
  True ∧
  S.storedPre (S.vB d1 d2) ∧
    (∃ (x : Nat), ((0 : Int) = (↑x : Int) ∧ S.flat (S.vB d1 d2) = S.crashAt keep (S.vB d1 d2) (S.vW d1 d2) x) ∧ S.minv (S.vW d1 d2) x) ∧
      ∀ (x : Nat),
        S.minv (S.vW d1 d2) x →
          (Decidable.decide ((↑x : Int) < (↑(List.length (S.vW d1 d2)) : Int)) = Bool.true →
              ((0 : Int) ≤ (↑x : Int) ∧ (↑x : Int) < (↑(List.length (S.vW d1 d2)) : Int)) ∧
                ((Decidable.decide ((↑x : Int) < (↑(List.length keep) : Int)) = Bool.true → (0 : Int) ≤ (↑x : Int) ∧ (↑x : Int) < (↑(List.length keep) : Int)) ∧
                    (Decidable.decide ((↑x : Int) < (↑(List.length keep) : Int)) = Bool.false → True)) ∧
                  ((0 : Int) ≤ Prod.fst (List.getD (S.vW d1 d2) (Int.toNat (↑x : Int)) ((0 : Int), [])) ∧
                      Prod.fst (List.getD (S.vW d1 d2) (Int.toNat (↑x : Int)) ((0 : Int), [])) < (↑(S.len (S.vB d1 d2)) : Int)) ∧
                    Int.toNat (Prod.fst (List.getD (S.vW d1 d2) (Int.toNat (↑x : Int)) ((0 : Int), []))) < S.len (S.vB d1 d2) ∧
                      (((0 : Int) ≤
                            bif Decidable.decide ((↑x : Int) < (↑(List.length keep) : Int)) then
                              Min.min (Max.max (List.getD keep (Int.toNat (↑x : Int)) (0 : Int)) (0 : Int)) (64 : Int)
                            else (0 : Int)) ∧
                          (bif Decidable.decide ((↑x : Int) < (↑(List.length keep) : Int)) then
                              Min.min (Max.max (List.getD keep (Int.toNat (↑x : Int)) (0 : Int)) (0 : Int)) (64 : Int)
                            else (0 : Int)) ≤
                            (↑(List.length (Prod.snd (List.getD (S.vW d1 d2) (Int.toNat (↑x : Int)) ((0 : Int), [])))) : Int)) ∧
                        Int.toNat (Prod.fst (List.getD (S.vW d1 d2) (Int.toNat (↑x : Int)) ((0 : Int), []))) * (64 : Nat) + (64 : Nat) ≤
                            List.length (S.crashAt keep (S.vB d1 d2) (S.vW d1 d2) x) ∧
                          ((-9223372036854775808 : Int) ≤ (↑x : Int) + (1 : Int) ∧ (↑x : Int) + (1 : Int) ≤ (9223372036854775807 : Int)) ∧
                            ∃ (x_1 : Nat),
                              ((↑x : Int) + (1 : Int) = (↑x_1 : Int) ∧
                                  List.take (Int.toNat (Prod.fst (List.getD (S.vW d1 d2) (Int.toNat (↑x : Int)) ((0 : Int), []))) * (64 : Nat))
                                          (S.crashAt keep (S.vB d1 d2) (S.vW d1 d2) x) ++
                                        List.take (64 : Nat)
                                          (List.take
                                            (Int.toNat
                                              (bif Decidable.decide ((↑x : Int) < (↑(List.length keep) : Int)) then
                                                Min.min (Max.max (List.getD keep (Int.toNat (↑x : Int)) (0 : Int)) (0 : Int)) (64 : Int)
                                              else (0 : Int)))
                                            (Prod.snd (List.getD (S.vW d1 d2) (Int.toNat (↑x : Int)) ((0 : Int), [])))) ++
                                      List.drop
                                        (Int.toNat (Prod.fst (List.getD (S.vW d1 d2) (Int.toNat (↑x : Int)) ((0 : Int), []))) * (64 : Nat) +
                                          Min.min
                                            (List.length
                                              (List.take
                                                (Int.toNat
                                                  (bif Decidable.decide ((↑x : Int) < (↑(List.length keep) : Int)) then
                                                    Min.min (Max.max (List.getD keep (Int.toNat (↑x : Int)) (0 : Int)) (0 : Int)) (64 : Int)
                                                  else (0 : Int)))
                                                (Prod.snd (List.getD (S.vW d1 d2) (Int.toNat (↑x : Int)) ((0 : Int), [])))))
                                            (64 : Nat))
                                        (S.crashAt keep (S.vB d1 d2) (S.vW d1 d2) x) =
                                    S.crashAt keep (S.vB d1 d2) (S.vW d1 d2) x_1) ∧
                                S.minv (S.vW d1 d2) x_1 ∧ S.meas (S.len (S.vW d1 d2)) x_1 < S.meas (S.len (S.vW d1 d2)) x) ∧
            (Decidable.decide ((↑x : Int) < (↑(List.length (S.vW d1 d2)) : Int)) = Bool.false →
              S.len (S.vB d1 d2) = S.len (S.vB d1 d2) ∧
                Vg.gridOf (64 : Nat) (S.len (S.vB d1 d2)) (S.crashAt keep (S.vB d1 d2) (S.vW d1 d2) x) = S.crash d1 d2 keep)

end Go
