import PyProof.Rows.All
import Wide.All
import OpenK.AllK
import Wide.FinOn
import HandS.ForMost
import HandS.AnyAll
import HandS.Star
import HandS.IsInst
import HandS.StrMore
import HandS.EndTab
import KE.DatumOrd
import KE.GoesMore
import HandS.Walk
import PySem.Challenge.RW_relaybanks_k93_across_ranks_and_heights
set_option Elab.async false
set_option linter.all false
set_option maxRecDepth 100000
/-! The plain law: what the program computes over memories as lists of bits; nothing of Python here. -/
namespace RB
abbrev M := List Bool
def cntB (m : M) : Nat := m.count true
/-- the numbers of ones of all beginnings but the empty one -/
def ci (m : M) : List Int := (List.range m.length).map fun k => ((cntB (m.take (k + 1)) : Nat) : Int)
def rankI (m : M) : Int := (ci m).sum
def belowB (m n : M) : Bool := ((ci m).zip (ci n)).all fun p => decide (p.1 ≤ p.2)
def fcI : Int → List Int → M
  | _, [] => []
  | b, x :: r => decide (b < x) :: fcI x r
def minI (m n : M) : List Int := ((ci m).zip (ci n)).map fun p => if p.2 < p.1 then p.2 else p.1
def maxI (m n : M) : List Int := ((ci m).zip (ci n)).map fun p => if p.2 > p.1 then p.2 else p.1
def meetM (m n : M) : M := fcI 0 (minI m n)
def joinM (m n : M) : M := fcI 0 (maxI m n)
/-- the cover made at a place, if there is one -/
def covAt (m : M) (k : Nat) : Option M :=
  if m[k]? = some false ∧ k + 1 = m.length then some (m.take k ++ [true])
  else if (m.drop k).take 2 = [false, true] then some (m.take k ++ [true, false] ++ m.drop (k + 2)) else none
def covL (m : M) : List M := (List.range m.length).filterMap (covAt m)
def places (m : M) (s : Bool) : List Nat := (List.range m.length).filter fun k => m[k]? == some s
def placeN (m : M) (s : Bool) (k : Nat) : Nat := ((places m s)[k]?).getD m.length
def holdsB (m : M) (high low : Nat) : Bool := decide (placeN m true low < placeN m false (m.length - high))
def relays (n : Nat) : List (Nat × Nat) := (List.range n).flatMap fun h => (List.range (h + 1)).map fun l => (h + 1, l)
def onL (m : M) : List (Nat × Nat) := (relays m.length).filter fun r => holdsB m r.1 r.2
/-- the last place of a zero -/
def lastZ (m : M) : Option Nat := (places m false).getLast?
def upM (m : M) : M := match lastZ m with
  | some k => m.take k ++ [true] ++ m.drop (k + 1)
  | none => m
def byRank : Nat → List Int
  | 0 => [1]
  | n + 1 => ((byRank n ++ List.replicate (n + 1) 0).zip (List.replicate (n + 1) 0 ++ byRank n)).map fun (p : Int × Int) => p.1 + p.2
def spots (m : M) : List Nat := (List.range m.length).filter fun k => (m[k]? == some false) && (decide (k + 1 = m.length) || (m[k + 1]? == some true))
def allM : Nat → List M
  | 0 => [[]]
  | n + 1 => (allM n).flatMap fun m => [false :: m, true :: m]
theorem mem_allM : ∀ (n : Nat) (m : M), m.length = n → m ∈ allM n
  | 0, [], _ => by simp [allM]
  | n + 1, b :: m, h => by
    have h' : m.length = n := by simpa using h
    have q := mem_allM n m h'
    show b :: m ∈ (allM n).flatMap fun m => [false :: m, true :: m]
    refine List.mem_flatMap.mpr ⟨m, q, ?_⟩
    cases b <;> simp
/-! the checks -/
def chk1 (m : M) : Bool :=
  let h : Int := (cntB m : Nat)
  let n : Int := (m.length : Nat)
  decide (h * (h + 1) / 2 ≤ rankI m) && decide (rankI m ≤ h * n - h * (h - 1) / 2)
def chk2 (m : M) : Bool := decide (rankI m = ((onL m).length : Nat))
def chk3 (m : M) : Bool := (covL m).all fun c => decide (rankI c = rankI m + 1) && belowB m c && decide (c.length = m.length)
def chk4 (m : M) : Bool := (covL m).all fun c => (covL m).all fun d => decide (c = d) || (decide (meetM c d = m) && decide (rankI (joinM c d) = rankI m + 2) && decide ((joinM c d).length = m.length))
def chk5 (m : M) : Bool := decide ((covL m).length = (spots m).length)
def chk6 (m : M) : Bool := decide (upM m = m) || (match lastZ m with
  | some k => decide (rankI (upM m) - rankI m = ((m.length : Nat) : Int) - (k : Nat)) && decide ((upM m).length = m.length)
  | none => false)
def chk7 (m : M) : Bool := decide (0 ≤ rankI m) && (match (byRank m.length)[(rankI m).toNat]? with
  | some z => decide (1 ≤ z)
  | none => false)
def chk (m : M) : Bool := chk1 m && chk2 m && chk3 m && chk4 m && chk5 m && chk6 m && chk7 m
def chkN (n : Nat) : Bool := decide ((byRank n)[0]? = some 1) && decide (((byRank n).length : Int) = (n : Int) * ((n : Int) + 1) / 2 + 1)
end RB

set_option maxRecDepth 100000
set_option maxHeartbeats 0
namespace RB
/-! the same in forms that the kernel runs quickly, and that they are the same -/
def cf : Nat → M → List Nat
  | _, [] => []
  | b, true :: r => Nat.succ b :: cf (Nat.succ b) r
  | b, false :: r => b :: cf b r
def fcN : Nat → List Nat → M
  | _, [] => []
  | b, x :: r => Nat.blt b x :: fcN x r
def leN : List Nat → List Nat → Bool
  | x :: xs, y :: ys => Nat.ble x y && leN xs ys
  | _, _ => true
def minN : List Nat → List Nat → List Nat
  | x :: xs, y :: ys => (match Nat.ble x y with | true => x | false => y) :: minN xs ys
  | _, _ => []
def maxN : List Nat → List Nat → List Nat
  | x :: xs, y :: ys => (match Nat.ble y x with | true => x | false => y) :: maxN xs ys
  | _, _ => []
def sumN : List Nat → Nat
  | [] => 0
  | x :: xs => Nat.add x (sumN xs)
def rkN (m : M) : Nat := sumN (cf 0 m)
def hdC : M → List M
  | [false] => [[true]]
  | false :: true :: r => [true :: false :: r]
  | _ => []
def covF : M → List M
  | [] => []
  | b :: r => hdC (b :: r) ++ (covF r).map (b :: ·)
def plF (s : Bool) : Nat → M → List Nat
  | _, [] => []
  | k, b :: r => match b == s with
    | true => k :: plF s (Nat.succ k) r
    | false => plF s (Nat.succ k) r
def nthN : List Nat → Nat → Nat → Nat
  | [], _, d => d
  | x :: _, 0, _ => x
  | _ :: r, k + 1, d => nthN r k d
def onF (m : M) : Nat := ((relays m.length).filter fun r => Nat.blt (nthN (plF true 0 m) r.2 m.length) (nthN (plF false 0 m) (Nat.sub m.length r.1) m.length)).length
def eqM : M → M → Bool
  | [], [] => true
  | true :: a, true :: b => eqM a b
  | false :: a, false :: b => eqM a b
  | _, _ => false
def f1 (m : M) : Bool :=
  let h := cntB m
  let n := m.length
  Nat.ble (h * (h + 1) / 2) (rkN m) && Nat.ble (rkN m + h * (h - 1) / 2) (h * n)
def f2 (m : M) : Bool := Nat.beq (rkN m) (onF m)
def f3 (m : M) : Bool := (covF m).all fun c => Nat.beq (rkN c) (rkN m + 1) && leN (cf 0 m) (cf 0 c) && Nat.beq c.length m.length
def f4 (m : M) : Bool := (covF m).all fun c => (covF m).all fun d => eqM c d || (eqM (fcN 0 (minN (cf 0 c) (cf 0 d))) m && Nat.beq (rkN (fcN 0 (maxN (cf 0 c) (cf 0 d)))) (rkN m + 2) && Nat.beq (fcN 0 (maxN (cf 0 c) (cf 0 d))).length m.length)
def f5 (m : M) : Bool := Nat.beq (covF m).length (spots m).length
def f6 (m : M) : Bool := match (plF false 0 m).getLast? with
  | some k => Nat.beq (rkN (m.take k ++ [true] ++ m.drop (k + 1)) + k) (rkN m + m.length)
  | none => true
def f7 (m : M) : Bool := match (byRank m.length)[rkN m]? with
  | some z => decide (1 ≤ z)
  | none => false
/-! ### they are the same -/
def toI (l : List Nat) : List Int := l.map fun (n : Nat) => (n : Int)
theorem cntB_cons (b : Bool) (m : M) : cntB (b :: m) = (if b then 1 else 0) + cntB m := by
  unfold cntB
  rw [List.count_cons]
  cases b <;> simp <;> omega
theorem cf_eq : ∀ (m : M) (b : Nat), (List.range m.length).map (fun k => b + cntB (m.take (k + 1))) = cf b m
  | [], _ => rfl
  | true :: m, b => by
    have ih := cf_eq m (b + 1)
    rw [List.length_cons, List.range_succ_eq_map]
    rw [List.map_cons, List.map_map]
    show _ = (b + 1) :: cf (b + 1) m
    rw [← ih]
    refine List.cons_eq_cons.mpr ⟨?_, List.map_congr_left fun k _ => ?_⟩
    · rw [show List.take (0 + 1) (true :: m) = [true] from rfl]
      rfl
    · show b + cntB ((true :: m).take (k + 1 + 1)) = _
      rw [List.take_succ_cons, cntB_cons]
      simp
      omega
  | false :: m, b => by
    have ih := cf_eq m b
    rw [List.length_cons, List.range_succ_eq_map]
    rw [List.map_cons, List.map_map]
    show _ = b :: cf b m
    rw [← ih]
    refine List.cons_eq_cons.mpr ⟨?_, List.map_congr_left fun k _ => ?_⟩
    · rw [show List.take (0 + 1) (false :: m) = [false] from rfl]
      rfl
    · show b + cntB ((false :: m).take (k + 1 + 1)) = _
      rw [List.take_succ_cons, cntB_cons]
      simp
theorem ci_eq (m : M) : ci m = toI (cf 0 m) := by
  rw [← cf_eq m 0]
  unfold ci toI
  rw [List.map_map]
  refine List.map_congr_left (fun k _ => ?_)
  show _ = ((0 + cntB _ : Nat) : Int)
  rw [Nat.zero_add]
theorem sum_eq : ∀ l : List Nat, (toI l).sum = ((sumN l : Nat) : Int)
  | [] => rfl
  | x :: l => by
    show (((x : Nat) : Int) :: toI l).sum = ((x + sumN l : Nat) : Int)
    rw [List.sum_cons, sum_eq l]
    omega
theorem rank_eq (m : M) : rankI m = ((rkN m : Nat) : Int) := by
  unfold rankI rkN
  rw [ci_eq, sum_eq]
theorem ble_dec (a b : Nat) : decide ((a : Int) ≤ (b : Int)) = Nat.ble a b := by
  by_cases h : a ≤ b
  · rw [decide_eq_true (by omega), Nat.ble_eq_true_of_le h]
  · rw [decide_eq_false (by omega)]
    cases e : Nat.ble a b with
    | false => rfl
    | true => exact absurd (Nat.le_of_ble_eq_true e) h
theorem blt_dec (a b : Nat) : decide ((a : Int) < (b : Int)) = Nat.blt a b := by
  have e := ble_dec (a + 1) b
  show _ = Nat.ble (a + 1) b
  rw [← e]
  by_cases h : a < b
  · rw [decide_eq_true (by omega), decide_eq_true (by omega)]
  · rw [decide_eq_false (by omega), decide_eq_false (by omega)]
theorem leN_eq : ∀ l k : List Nat, ((toI l).zip (toI k)).all (fun p => decide (p.1 ≤ p.2)) = leN l k
  | [], [] => rfl
  | [], _ :: _ => rfl
  | _ :: _, [] => rfl
  | x :: l, y :: k => by
    show (decide ((x : Int) ≤ (y : Int)) && ((toI l).zip (toI k)).all (fun p => decide (p.1 ≤ p.2))) = (Nat.ble x y && leN l k)
    rw [leN_eq l k, ble_dec]
theorem below_eq (m n : M) : belowB m n = leN (cf 0 m) (cf 0 n) := by
  unfold belowB
  rw [ci_eq, ci_eq, leN_eq]
theorem fc_eq : ∀ (l : List Nat) (b : Nat), fcI (b : Int) (toI l) = fcN b l
  | [], _ => rfl
  | x :: l, b => by
    show decide ((b : Int) < (x : Int)) :: fcI (x : Int) (toI l) = Nat.blt b x :: fcN x l
    rw [fc_eq l x, blt_dec]
theorem minN_eq : ∀ l k : List Nat, ((toI l).zip (toI k)).map (fun p => if p.2 < p.1 then p.2 else p.1) = toI (minN l k)
  | [], [] => rfl
  | [], _ :: _ => rfl
  | _ :: _, [] => rfl
  | x :: l, y :: k => by
    show (if (y : Int) < (x : Int) then (y : Int) else (x : Int)) :: ((toI l).zip (toI k)).map (fun p => if p.2 < p.1 then p.2 else p.1) = ((match Nat.ble x y with | true => x | false => y : Nat) : Int) :: toI (minN l k)
    rw [minN_eq l k]
    refine List.cons_eq_cons.mpr ⟨?_, rfl⟩
    cases e : Nat.ble x y with
    | true =>
      have := Nat.le_of_ble_eq_true e
      rw [if_neg (by omega)]
    | false =>
      have : ¬ x ≤ y := fun z => by rw [Nat.ble_eq_true_of_le z] at e; cases e
      rw [if_pos (by omega)]
theorem maxN_eq : ∀ l k : List Nat, ((toI l).zip (toI k)).map (fun p => if p.2 > p.1 then p.2 else p.1) = toI (maxN l k)
  | [], [] => rfl
  | [], _ :: _ => rfl
  | _ :: _, [] => rfl
  | x :: l, y :: k => by
    show (if (y : Int) > (x : Int) then (y : Int) else (x : Int)) :: ((toI l).zip (toI k)).map (fun p => if p.2 > p.1 then p.2 else p.1) = ((match Nat.ble y x with | true => x | false => y : Nat) : Int) :: toI (maxN l k)
    rw [maxN_eq l k]
    refine List.cons_eq_cons.mpr ⟨?_, rfl⟩
    cases e : Nat.ble y x with
    | true =>
      have := Nat.le_of_ble_eq_true e
      rw [if_neg (by omega)]
    | false =>
      have : ¬ y ≤ x := fun z => by rw [Nat.ble_eq_true_of_le z] at e; cases e
      rw [if_pos (by omega)]
theorem meet_eq (m n : M) : meetM m n = fcN 0 (minN (cf 0 m) (cf 0 n)) := by
  unfold meetM minI
  rw [ci_eq, ci_eq, minN_eq]
  exact fc_eq _ 0
theorem join_eq (m n : M) : joinM m n = fcN 0 (maxN (cf 0 m) (cf 0 n)) := by
  unfold joinM maxI
  rw [ci_eq, ci_eq, maxN_eq]
  exact fc_eq _ 0
theorem cov_succ (b : Bool) (m : M) (k : Nat) : covAt (b :: m) (k + 1) = (covAt m k).map (b :: ·) := by
  unfold covAt
  rw [List.getElem?_cons_succ, List.length_cons, List.drop_succ_cons, List.take_succ_cons, show k + 1 + 2 = (k + 2) + 1 by omega, List.drop_succ_cons]
  by_cases h1 : m[k]? = some false ∧ k + 1 = m.length
  · rw [if_pos h1, if_pos ⟨h1.1, by omega⟩]
    rfl
  · rw [if_neg h1, if_neg (fun z => h1 ⟨z.1, by omega⟩)]
    by_cases h2 : (m.drop k).take 2 = [false, true]
    · rw [if_pos h2, if_pos h2]
      rfl
    · rw [if_neg h2, if_neg h2]
      rfl
theorem cov_zero (m : M) : (covAt m 0).toList = if m = [] then [] else hdC m := by
  match m with
  | [] => rfl
  | [false] => rfl
  | [true] => rfl
  | false :: true :: r => rfl
  | false :: false :: r => rfl
  | true :: x :: r =>
    cases x <;> rfl
theorem filterMap_map' {α β γ : Type} (f : α → β) (g : β → Option γ) : ∀ l : List α, (l.map f).filterMap g = l.filterMap fun a => g (f a)
  | [] => rfl
  | a :: l => by
    rw [List.map_cons, List.filterMap_cons, List.filterMap_cons, filterMap_map' f g l]
theorem filterMap_opt {α β γ : Type} (f : β → γ) (g : α → Option β) : ∀ l : List α, (l.filterMap fun a => (g a).map f) = (l.filterMap g).map f
  | [] => rfl
  | a :: l => by
    rw [List.filterMap_cons, List.filterMap_cons, filterMap_opt f g l]
    cases g a <;> rfl
theorem cov_eq : ∀ m : M, covL m = covF m
  | [] => rfl
  | b :: m => by
    have ih := cov_eq m
    unfold covL
    rw [List.length_cons, List.range_succ_eq_map]
    have e : (List.filterMap (covAt (b :: m)) (0 :: List.map Nat.succ (List.range m.length))) = (covAt (b :: m) 0).toList ++ (List.range m.length).filterMap fun k => covAt (b :: m) (k + 1) := by
      rw [List.filterMap_cons, filterMap_map']
      cases covAt (b :: m) 0 <;> rfl
    rw [e, cov_zero, if_neg (by simp)]
    have e2 : ((List.range m.length).filterMap fun k => covAt (b :: m) (k + 1)) = (List.range m.length).filterMap fun k => (covAt m k).map (b :: ·) := by
      congr 1
      funext k
      exact cov_succ b m k
    rw [e2, filterMap_opt]
    show _ ++ List.map _ (covL m) = _
    rw [ih]
    rfl
theorem plF_eq (s : Bool) : ∀ (m : M) (a : Nat), ((List.range m.length).filter fun k => m[k]? == some s).map (· + a) = plF s a m
  | [], _ => rfl
  | b :: m, a => by
    have ih := plF_eq s m (a + 1)
    rw [List.length_cons, List.range_succ_eq_map, List.filter_cons, List.filter_map, List.getElem?_cons_zero]
    have e : ((List.range m.length).filter ((fun k => (b :: m)[k]? == some s) ∘ Nat.succ)) = (List.range m.length).filter fun k => m[k]? == some s := by
      refine List.filter_congr fun k _ => ?_
      show ((b :: m)[k + 1]? == some s) = _
      rw [List.getElem?_cons_succ]
    rw [e]
    have e2 : (List.map (· + a) (List.map Nat.succ ((List.range m.length).filter fun k => m[k]? == some s))) = plF s (a + 1) m := by
      rw [← ih, List.map_map]
      refine List.map_congr_left (fun k _ => ?_)
      show k + 1 + a = k + (a + 1)
      omega
    have eb : (some b == some s) = (b == s) := rfl
    rw [eb]
    show _ = match b == s with | true => a :: plF s (a + 1) m | false => plF s (a + 1) m
    cases b == s with
    | true => rw [if_pos rfl, List.map_cons, e2, Nat.zero_add]
    | false => rw [if_neg (by simp), e2]
theorem places_eq (m : M) (s : Bool) : places m s = plF s 0 m := by
  rw [← plF_eq s m 0]
  unfold places
  simp
theorem nthN_eq : ∀ (l : List Nat) (k d : Nat), (l[k]?).getD d = nthN l k d
  | [], _, _ => by simp [nthN]
  | x :: l, 0, _ => rfl
  | x :: l, k + 1, d => by
    rw [List.getElem?_cons_succ]
    exact nthN_eq l k d
theorem on_eq (m : M) : (onL m).length = onF m := by
  unfold onL onF
  congr 1
  refine List.filter_congr fun r _ => ?_
  unfold holdsB placeN
  rw [places_eq, places_eq, nthN_eq, nthN_eq]
  show decide (_ < _) = _
  rw [← blt_dec]
  by_cases h : nthN (plF true 0 m) r.2 m.length < nthN (plF false 0 m) (m.length - r.1) m.length
  · rw [decide_eq_true h]
    exact (decide_eq_true (by show ((nthN (plF true 0 m) r.2 m.length : Nat) : Int) < ((nthN (plF false 0 m) (m.length - r.1) m.length : Nat) : Int); omega)).symm
  · rw [decide_eq_false h]
    exact (decide_eq_false (by show ¬ ((nthN (plF true 0 m) r.2 m.length : Nat) : Int) < ((nthN (plF false 0 m) (m.length - r.1) m.length : Nat) : Int); omega)).symm
theorem eqM_ok : ∀ {a b : M}, eqM a b = true → a = b
  | [], [], _ => rfl
  | [], x :: _, h => by cases x <;> cases h
  | x :: _, [], h => by cases x <;> cases h
  | x :: a, y :: b, h => by
    cases x <;> cases y
    · rw [eqM_ok (a := a) (b := b) h]
    · cases h
    · cases h
    · rw [eqM_ok (a := a) (b := b) h]
def fAll (m : M) : Bool := f1 m && f2 m && f3 m && f4 m && f5 m && f6 m && f7 m
theorem g1 : ((allM 1).all fAll) = true := by decide +kernel
theorem g2 : ((allM 2).all fAll) = true := by decide +kernel
theorem g3 : ((allM 3).all fAll) = true := by decide +kernel
theorem g4 : ((allM 4).all fAll) = true := by decide +kernel
theorem g5 : ((allM 5).all fAll) = true := by decide +kernel
theorem g6 : ((allM 6).all fAll) = true := by decide +kernel
theorem g7 : ((allM 7).all fAll) = true := by decide +kernel
theorem g8 : ((allM 8).all fAll) = true := by decide +kernel
theorem g9 : ((allM 9).all fAll) = true := by decide +kernel
theorem gN : (List.range 9).all (fun n => chkN (n + 1)) = true := by decide +kernel
theorem fast (m : M) (h1 : 1 ≤ m.length) (h2 : m.length ≤ 9) : fAll m = true := by
  have h := mem_allM m.length m rfl
  rcases (by omega : m.length = 1 ∨ m.length = 2 ∨ m.length = 3 ∨ m.length = 4 ∨ m.length = 5 ∨ m.length = 6 ∨ m.length = 7 ∨ m.length = 8 ∨ m.length = 9) with e | e | e | e | e | e | e | e | e
  all_goals rw [e] at h
  · exact List.all_eq_true.mp g1 m h
  · exact List.all_eq_true.mp g2 m h
  · exact List.all_eq_true.mp g3 m h
  · exact List.all_eq_true.mp g4 m h
  · exact List.all_eq_true.mp g5 m h
  · exact List.all_eq_true.mp g6 m h
  · exact List.all_eq_true.mp g7 m h
  · exact List.all_eq_true.mp g8 m h
  · exact List.all_eq_true.mp g9 m h
theorem fastN (n : Nat) (h1 : 1 ≤ n) (h2 : n ≤ 9) : chkN n = true := by
  have h := List.all_eq_true.mp gN (n - 1) (List.mem_range.mpr (by omega))
  rw [show n - 1 + 1 = n by omega] at h
  exact h
/-- what the law asks of a memory -/
structure LawOK (m : M) : Prop where
  lo : (cntB m : Int) * ((cntB m : Int) + 1) / 2 ≤ rankI m
  hi : rankI m ≤ (cntB m : Int) * (m.length : Int) - (cntB m : Int) * ((cntB m : Int) - 1) / 2
  on : rankI m = ((onL m).length : Int)
  cov : ∀ c ∈ covL m, rankI c = rankI m + 1 ∧ belowB m c = true ∧ c.length = m.length
  two : ∀ c ∈ covL m, ∀ d ∈ covL m, c ≠ d → meetM c d = m ∧ rankI (joinM c d) = rankI m + 2 ∧ (joinM c d).length = m.length
  many : (covL m).length = (spots m).length
  up : ∀ k, lastZ m = some k → rankI (upM m) - rankI m = (m.length : Int) - (k : Int)
  byr : ∃ (r : Nat) (z : Int), rankI m = (r : Int) ∧ (byRank m.length)[r]? = some z ∧ 1 ≤ z
  first : (byRank m.length)[0]? = some 1
  size : ((byRank m.length).length : Int) = (m.length : Int) * ((m.length : Int) + 1) / 2 + 1
theorem tri (h : Nat) : (h : Int) * ((h : Int) + 1) / 2 = ((h * (h + 1) / 2 : Nat) : Int) := by
  rw [Int.natCast_ediv, Int.natCast_mul]
  rfl
theorem trj (h : Nat) : (h : Int) * ((h : Int) - 1) / 2 = ((h * (h - 1) / 2 : Nat) : Int) := by
  cases h with
  | zero => rfl
  | succ h =>
    rw [Int.natCast_ediv, Int.natCast_mul, Nat.add_sub_cancel]
    have e : ((h + 1 : Nat) : Int) - 1 = (h : Int) := by omega
    rw [e]
    rfl
theorem law_ok (m : M) (h1 : 1 ≤ m.length) (h2 : m.length ≤ 9) : LawOK m := by
  have h := fast m h1 h2
  have hn := fastN m.length h1 h2
  simp only [fAll, Bool.and_eq_true] at h
  obtain ⟨⟨⟨⟨⟨⟨a1, a2⟩, a3⟩, a4⟩, a5⟩, a6⟩, a7⟩ := h
  unfold chkN at hn
  rw [Bool.and_eq_true] at hn
  obtain ⟨n1, n2⟩ := hn
  unfold f1 at a1
  simp only [Bool.and_eq_true] at a1
  have b1 := Nat.le_of_ble_eq_true a1.1
  have b2 := Nat.le_of_ble_eq_true a1.2
  refine ⟨?_, ?_, ?_, ?_, ?_, ?_, ?_, ?_, of_decide_eq_true n1, of_decide_eq_true n2⟩
  · rw [tri, rank_eq]
    omega
  · rw [trj, rank_eq, ← Int.natCast_mul]
    omega
  · rw [rank_eq, on_eq, Nat.eq_of_beq_eq_true a2]
  · intro c hc
    rw [cov_eq] at hc
    have q := List.all_eq_true.mp a3 c hc
    simp only [Bool.and_eq_true] at q
    refine ⟨?_, ?_, Nat.eq_of_beq_eq_true q.2⟩
    · rw [rank_eq, rank_eq, Nat.eq_of_beq_eq_true q.1.1]
      rfl
    · rw [below_eq]
      exact q.1.2
  · intro c hc d hd hne
    rw [cov_eq] at hc hd
    have q := List.all_eq_true.mp (List.all_eq_true.mp a4 c hc) d hd
    simp only [Bool.and_eq_true, Bool.or_eq_true] at q
    rcases q with q | q
    · exact absurd (eqM_ok q) hne
    · refine ⟨?_, ?_, ?_⟩
      · rw [meet_eq]
        exact eqM_ok q.1.1
      · rw [rank_eq, rank_eq, join_eq, Nat.eq_of_beq_eq_true q.1.2]
        rfl
      · rw [join_eq]
        exact Nat.eq_of_beq_eq_true q.2
  · rw [cov_eq]
    exact Nat.eq_of_beq_eq_true a5
  · intro k hk
    have hk2 := hk
    unfold lastZ at hk
    rw [places_eq] at hk
    unfold f6 at a6
    rw [hk] at a6
    have q := Nat.eq_of_beq_eq_true a6
    have e : upM m = m.take k ++ [true] ++ m.drop (k + 1) := by
      unfold upM
      rw [hk2]
    rw [e, rank_eq, rank_eq]
    omega
  · unfold f7 at a7
    cases e : (byRank m.length)[rkN m]? with
    | none => rw [e] at a7; cases a7
    | some z =>
      rw [e] at a7
      exact ⟨rkN m, z, rank_eq m, e, of_decide_eq_true a7⟩
end RB

set_option maxRecDepth 100000
set_option maxHeartbeats 0
/-! Own rules: all(test for a, b in zip(x, y)), sign in 'text', enumerate(text), sorted(tuple of texts), max(tuple of ints). -/
namespace RB
open PySem L2 PySem.Spec PyProof.Rows
/-! ### generator expressions: the element x in 'written text' -/
theorem elt_in {prog : Program} {w : World} {scope : Scope} {x k : Str} {j : Nat} {p1 p2 p3 : Pos} (fn : scope.kind = .function) (lx : scope.names.lookup x = some .local) (nd : (x == ("__debug__" : Str)) = false := by decide) :
    GxR.EltP prog w scope x (.Compare (.Name x p1) [.In] [.Constant (.str k) j p2] p3) (fun c => decide (c ∈ k.cps.toList)) := by
  intro ge A1 E1 c u s1 look se ns val
  subst se
  apply wpAny_Compare1 (hm := rfl)
  refine wpAny_Name (wpAny_loadName_local fn lx ns val ?_) nd
  apply Calls.Constant_str
  apply PyProof.Rows.in_str
  rw [PySem.StrLaws.found_one k c]
  exact ⟨rfl, GxR.keeps_tok _ _⟩
/-! ### all(test of a, b for a, b in zip(xs, ys)), two lists of ints -/
/-- the scope of a generator expression over pairs a, b -/
structure GenS2 (env : Env) (scope : Scope) (xa xb : Str) : Prop extends GxR.GenS env scope xa where
  lb : scope.names.lookup xb = some .local
  ab : xa ≠ xb
def EltZ (prog : Program) (w : World) (scope : Scope) (xa xb : Str) (elt : Expr) (pz : Int → Int → Bool) : Prop :=
  ∀ (ge : Env) (A1 : Around) (E1 : Value → Shared → Prop) (i j : Int) (t u : Tok) (s1 : Shared) (look : Str → Option Value), ge.scope = scope → s1.heap.Ns ge.locals look → look xa = some (.int i t) → look xb = some (.int j u) →
    wpAny (model prog w) A1 (eval elt ge) (fun r s2 => r = .bool (pz i j) ∧ Keeps s1 s2) E1 s1
theorem elt_le {prog : Program} {w : World} {scope : Scope} {xa xb : Str} {p1 p2 p3 : Pos} (fn : scope.kind = .function) (ha : scope.names.lookup xa = some .local) (hb : scope.names.lookup xb = some .local)
    (nda : (xa == ("__debug__" : Str)) = false := by decide) (ndb : (xb == ("__debug__" : Str)) = false := by decide) :
    EltZ prog w scope xa xb (.Compare (.Name xa p1) [.LtE] [.Name xb p2] p3) (fun i j => decide (i ≤ j)) := by
  intro ge A1 E1 i j t u s1 look se ns va vb
  subst se
  apply wpAny_Compare1 (hm := rfl)
  refine wpAny_Name (wpAny_loadName_local fn ha ns va ?_) nda
  refine wpAny_Name (wpAny_loadName_local fn hb ns vb ?_) ndb
  exact le_int ⟨rfl, GxR.keeps_refl _⟩
/-- the test at place j of two lists -/
def trZ (pz : Int → Int → Bool) (ns ms : List Int) (j : Nat) : Bool := match ns[j]?, ms[j]? with
  | some a, some b => pz a b
  | _, _ => false
theorem trZ_some {pz : Int → Int → Bool} {ns ms : List Int} {j : Nat} {a b : Int} (h : ns[j]? = some a) (h' : ms[j]? = some b) : trZ pz ns ms j = pz a b := by
  unfold trZ
  rw [h, h']
theorem all_trZ (pz : Int → Int → Bool) : ∀ (ns ms : List Int), (List.range (min ns.length ms.length)).all (trZ pz ns ms) = (ns.zip ms).all (fun p => pz p.1 p.2) := by
  intro ns ms
  apply Bool.eq_iff_iff.mpr
  simp only [List.all_eq_true]
  constructor
  · intro h p hp
    obtain ⟨j, hj, e⟩ := List.getElem_of_mem hp
    have hj2 : j < min ns.length ms.length := by simpa using hj
    have h1 : j < ns.length := by omega
    have h2 : j < ms.length := by omega
    have q := h j (List.mem_range.mpr hj2)
    rw [trZ_some (List.getElem?_eq_getElem h1) (List.getElem?_eq_getElem h2)] at q
    rw [List.getElem_zip] at e
    rw [← e]
    exact q
  · intro h j hj
    have hj2 : j < min ns.length ms.length := List.mem_range.mp hj
    have h1 : j < ns.length := by omega
    have h2 : j < ms.length := by omega
    rw [trZ_some (List.getElem?_eq_getElem h1) (List.getElem?_eq_getElem h2)]
    exact h (ns[j], ms[j]) (List.mem_iff_getElem.mpr ⟨j, by simpa using hj2, by rw [List.getElem_zip]⟩)
theorem off_lt {n m k : Nat} (h : n + 5 ≤ m) (hk : k < 5) : n + k < m := by omega
theorem off_no {b n k : Nat} (z : b = n + k) (h : b < n) : False := by omega
theorem ints_at {its : List Value} {ns : List Int} (h : IntsAre its ns) : ∀ {i : Nat} {v : Value}, its[i]? = some v → ∃ n t, ns[i]? = some n ∧ v = .int n t := by
  induction h with
  | nil => exact fun {_ _} q => nomatch q
  | cons n t _ ih =>
    intro i
    match i with
    | 0 => exact fun {_} q => ⟨n, t, rfl, (Option.some.inj q).symm⟩
    | k + 1 => exact fun {_} q => ih (i := k) q
section
variable {X : Cx} {σ : L2.St} {pins : List (Addr × Obj)} {s : Shared} {H : Hp}
/-- the generator g over the pairs of ns, ms, ready to be walked, in the state sG; H1: what was held before -/
def ReadyZ (X : Cx) (pins : List (Addr × Obj)) (σ : L2.St) (H1 : Hp) (tb : Addr) (ns ms : List Int) (pz : Int → Int → Bool) (g : Addr) (sG : Shared) : Prop :=
  ∃ (own mtd : List Addr) (gq : Array GenState → Array GenState → Prop) (valf : Nat → Value → Prop) (stt : Nat → Shared → Prop),
    WalksS X.prog X.w X.A.in1 g own mtd gq (min ns.length ms.length) valf stt ∧ stt 0 sG ∧
    TruthOf X.prog X.w X.A.in1 valf (trZ pz ns ms) ∧
    ∀ sN, Moved mtd gq sG sN → ∃ Hn, GxR.Tabbed tb H1 Hn ∧ Inv X pins σ Hn sN
theorem gen_zip {c tb : Addr} {elt e b2 : Expr} {xa xb : Str} {pa pb pt p pos gpos : Pos} {kt : Nat} {scope : Scope} {pz : Int → Int → Bool} {ta : TA} {k : Nat} {Q' : Value → Shared → Prop} {R : List Int → List Int → Hp → Prop}
    (hr : Room k X.A) (hg : Gl X "zip") (mv : X.mg "zip" = none) (TB : GxR.TabB X.base X.mg c tb) (hcd : X.env.code = .ref c) (S : GenS2 X.env scope xa xb) (ha : PA X [e, b2] ta) (hel : EltZ X.prog X.w scope xa xb elt pz)
    (hs : ∀ v, genFold (.Call (.Name "zip" p) [e, b2] [] pos) X.env v = pure v) (I : Inv X pins σ H s)
    (hst : starEach [e, b2] X.env = (false, eval e X.env) :: starEach [b2] X.env) (hpl : (backTo pos (starEach [b2] X.env)).any (·.1) = false)
    (h : ta σ H fun vs H1 => ∃ (a b : Addr) (ns ms : List Int), vs = [V.ref a, V.ref b] ∧ SqL X.K H1 a (ns.map V.int) ∧ SqL X.K H1 b (ms.map V.int) ∧ GxR.TabG H1 tb ∧ R ns ms H1)
    (hQ : ∀ ns ms H1 g sG, R ns ms H1 → ReadyZ X pins σ H1 tb ns ms pz g sG → Q' (.ref g) sG) :
    wpAny (model X.prog X.w) X.A (eval (.GeneratorExp elt [⟨.Tuple [.Name xa pa, .Name xb pb] kt pt, .Call (.Name "zip" p) [e, b2] [] pos, [], 0⟩] scope gpos) X.env) Q' X.xe s := by
  refine wpAny_GeneratorExp_walksQT hr.hd S.co (closure_ok S.free) S.cell S.dot S.loc S.lb S.ab S.kind (by have := hr.dp; omega) ?_ hs
  refine Call_ (ld_blt I hg mv PyProof.Rows.boot_zip (PyProof.Rows.callWith_type1 (thn (ha.run pos pins s σ H _ I h) fun us s1 ⟨vs, H1, J1, r1, q1⟩ => ?_) hst hpl))
  obtain ⟨l1, l2, ns, ms, ex, qx, qy, ⟨ps, htb, ht⟩, q1⟩ := q1
  subst ex
  cases r1 with
  | cons r rr =>
    cases rr with
    | cons r' rr =>
      cases rr
      cases r
      cases r'
      obtain ⟨its, vl, pa1, _⟩ := J1.list qx
      obtain ⟨jts, vl2, pb1, _⟩ := J1.list qy
      have la : l1 < s1.heap.objs.size := pa1.lt
      have lb : l2 < s1.heap.objs.size := pb1.lt
      have ri := vl.ints
      have ri2 := vl2.ints
      have hlen : its.length = ns.length := ri.length
      have hlen2 : jts.length = ms.length := ri2.length
      refine call_zip_2 pa1.isList pb1.isList fun hA hz hTI hTO hi1 hi2 hszA hkA => wpAny_pyIter_zip hz ?_
      have D := PySem.W.ktu_apart s1.heap.objs.size l1 l2 la lb
      have htbs : s1.heap.get? tb = some { cls := .none, data := .fields ps } := J1.hok tb _ htb
      have tlt : tb < s1.heap.objs.size := Heap.lt_size htbs
      have htb2 : hA.get? tb = some { cls := .none, data := .fields ps } := hkA _ _ htbs
      have cd : PySem.W.CodeHd hA c tb := TB.code.keeps fun b u e => hkA b u (J1.bk b u e)
      have lim2 : hA.NoLimit := J1.nolimit.keeps hkA
      have hpl1 : hA.IsList l1 its.toArray := Heap.IsList.at pa1.isList (fun o e => hkA _ o e)
      have hpl2 : hA.IsList l2 jts.toArray := Heap.IsList.at pb1.isList (fun o e => hkA _ o e)
      have rest : ∀ (code : Value) (hB : Heap) (tk : Nat) (ps2 : Array Value), Heap.ExtBut tb hA hB → hA.objs.size ≤ hB.objs.size → hB.get? tb = some { cls := .none, data := .fields ps2 } → (∃ more, ps2 = ps ++ more) → TriplesOk ps2.toList →
          wpAny (model X.prog X.w) X.A (builtinsFor X.env.globals X.env.builtins) (fun bs sB =>
            ∃ itr own mtd cnt ptf st0 md okf valf, Value.ref (s1.heap.objs.size + 4) = .ref itr ∧ (∀ A1 : Around, A1.handled = none → WalksU X.prog X.w A1 itr own mtd cnt ptf st0 md) ∧ (∀ i vals, ptf i vals → ∃ va vb, vals = #[va, vb]) ∧ st0 0 sB.heap ∧ (∀ b ∈ own, b < sB.heap.objs.size) ∧ sB.heap.NoLimit ∧ cStatics ∉ mtd ∧
              (∀ hz2 : Heap, (∀ b o, sB.heap.get? b = some o → hz2.get? b = some o) →
                QuietGenT X.prog X.w (genEnv scope (cloFrom X.env.cells scope.names []) sB.heap.objs.size code bs X.env) xa xb [] elt (List.range sB.heap.objs.size) mtd ptf okf valf hz2) ∧
              (∀ a hC tk gst, gst.bare = true → sB.heap.objs.size < a → hC.objs.size = a + 1 → (∀ b o, sB.heap.get? b = some o → hC.get? b = some o) →
                WalksS X.prog X.w X.A.in4 a (a :: sB.heap.objs.size :: List.range sB.heap.objs.size) (sB.heap.objs.size :: mtd) (GenOnlyQ sB.gens.size) (passing okf cnt 0).length
                  (fun j y => ∃ i, (passing okf cnt 0)[j]? = some i ∧ valf i y) (GenAt X.prog X.w X.A.in4 a sB.gens.size sB.heap.objs.size (List.range sB.heap.objs.size) mtd okf cnt valf) →
                GenAt X.prog X.w X.A.in4 a sB.gens.size sB.heap.objs.size (List.range sB.heap.objs.size) mtd okf cnt valf 0 { sB with gens := sB.gens.push gst, toks := tk, heap := hC } →
                Q' (.ref a) { sB with gens := sB.gens.push gst, toks := tk, heap := hC })) X.xe { s1 with heap := hB, toks := tk } := by
        intro code hB tk ps2 ext big htb3 mor tri
        obtain ⟨bmA, bmO, b1, b2, b3, b4, b5, b6, b7, b8⟩ := TB.bm
        have cNot : cStatics ≠ tb := fun e => by
          obtain ⟨_, lim, _⟩ := J1.nolimit
          obtain ⟨o', es, ep, ho, hd, _⟩ := lim
          rw [e, htbs] at ho
          cases ho
          cases hd
        have ccl : cStatics < s1.heap.objs.size := let ⟨_, lim, _⟩ := J1.nolimit; lim.lt
        have keep3 : ∀ b u, b ≠ tb → s1.heap.get? b = some u → hB.get? b = some u := fun b u inn e => ext b u inn (hkA _ _ e)
        have nP : ∀ b, s1.heap.objs.size ≤ b → b ≠ tb := fun b inn z => by
          rw [z] at inn
          exact Nat.lt_irrefl _ (Nat.lt_of_lt_of_le tlt inn)
        have n0 : s1.heap.objs.size ≤ s1.heap.objs.size := Nat.le_refl _
        have n1 : s1.heap.objs.size ≤ s1.heap.objs.size + 1 := Nat.le_add_right _ _
        have n2 : s1.heap.objs.size ≤ s1.heap.objs.size + 2 := Nat.le_add_right _ _
        have n3 : s1.heap.objs.size ≤ s1.heap.objs.size + 3 := Nat.le_add_right _ _
        have n4 : s1.heap.objs.size ≤ s1.heap.objs.size + 4 := Nat.le_add_right _ _
        have hl1P : l1 ≠ tb := fun z => by
          obtain ⟨_, e, _, _, hd1⟩ := id pa1.isList
          rw [z, htbs] at e
          cases e
          cases hd1
        have hl2P : l2 ≠ tb := fun z => by
          obtain ⟨_, e, _, _, hd1⟩ := id pb1.isList
          rw [z, htbs] at e
          cases e
          cases hd1
        have st3 : IsZip hB (s1.heap.objs.size + 4) (s1.heap.objs.size + 2) (s1.heap.objs.size + 3) .none ∧ IsPair hB (s1.heap.objs.size + 2) (.ref s1.heap.objs.size) (.ref (s1.heap.objs.size + 1)) ∧ (∃ a b, IsPair hB (s1.heap.objs.size + 3) a b) ∧
            hB.IsListIter s1.heap.objs.size l1 0 ∧ hB.IsListIter (s1.heap.objs.size + 1) l2 0 ∧ hB.IsList l1 its.toArray ∧ hB.IsList l2 jts.toArray :=
          ⟨ext _ _ (nP _ n4) hz, ext _ _ (nP _ n2) hTI, ⟨_, _, ext _ _ (nP _ n3) hTO⟩, hi1.at fun o e => ext _ o (nP _ n0) e, hi2.at fun o e => ext _ o (nP _ n1) e, hpl1.at fun o e => ext _ o hl1P e, hpl2.at fun o e => ext _ o hl2P e⟩
        refine wpAny_builtinsFor (m := X.mg) (by rw [J1.ok.glob]; exact ((J1.mod.glob.keeps J1.bk).keeps hkA).extBut ext TB.gP) b1 b2 (keep3 _ _ b4 (J1.bk _ _ b5)) b6 b7 b8 ?_
        refine ⟨s1.heap.objs.size + 4, _, _, _, _, _, _, (fun _ => true), (fun i y => ∃ a b, ns[i]? = some a ∧ ms[i]? = some b ∧ y = .bool (pz a b)), rfl, fun A1 hA' => (WalksT.zip2 (prog := X.prog) (w := X.w) hA' _ _ _ _ _ l1 l2 D its.toArray jts.toArray).toU, ?_, st3, ?_, lim2.extBut ext cNot, ?_, ?_, ?_⟩
        · intro i vals hv
          obtain ⟨x, y, _, _, e⟩ := hv
          exact ⟨x, y, e⟩
        · intro b inn
          show b < hB.objs.size
          have hG : (s1.heap.objs.size : Nat) + 5 ≤ hB.objs.size := by
            have hszA' : (hA.objs.size : Nat) = s1.heap.objs.size + 5 := hszA
            omega
          simp only [List.mem_cons, List.not_mem_nil, or_false] at inn
          rcases inn with z | z | z | z | z | z | z
          · rw [z]; exact off_lt hG (k := 4) (by decide)
          · rw [z]; exact off_lt hG (k := 2) (by decide)
          · rw [z]; exact off_lt hG (k := 3) (by decide)
          · rw [z]; exact off_lt hG (k := 0) (by decide)
          · rw [z]; exact off_lt hG (k := 1) (by decide)
          · rw [z]; exact Nat.lt_trans la (off_lt hG (k := 0) (by decide))
          · rw [z]; exact Nat.lt_trans lb (off_lt hG (k := 0) (by decide))
        · intro z
          simp only [List.mem_cons, List.not_mem_nil, or_false] at z
          rcases z with z | z | z | z
          · exact off_no (k := 4) z ccl
          · exact off_no (k := 3) z ccl
          · exact off_no (k := 0) z ccl
          · exact off_no (k := 1) z ccl
        · intro hz2 kz2
          refine ⟨fun A1 E1 i va vb s2 lk2 hA' hPv hn hma hmb hk => ?_, fun A1 E1 i va vb s2 lk2 hA' hPv hp hn hma hmb hk => ?_⟩
          · simp only [List.forIn_nil]
            apply wpAny_pure
            exact ⟨rfl, GxR.keeps_tok _ _⟩
          · obtain ⟨x, y, hx1, hy1, exy⟩ := hPv
            obtain ⟨b1, b2⟩ : va = x ∧ vb = y := by simpa using congrArg Array.toList exy
            subst b1 b2
            have hx2 : its[i]? = some va := by simpa using hx1
            have hy2 : jts[i]? = some vb := by simpa using hy1
            obtain ⟨a, t, ha1, rfl⟩ := ints_at ri hx2
            obtain ⟨b, u, hb1, rfl⟩ := ints_at ri2 hy2
            exact wpAny_mono (hel _ A1 E1 a b t u s2 lk2 rfl hn hma hmb) (fun y s3 r => ⟨⟨a, b, ha1, hb1, r.1⟩, r.2⟩) fun _ _ e => e
        · intro g hG tkG gst bare1 hag big5 old5 W5 atS
          simp only [GxR.passing_true, List.length_range, List.size_toArray, hlen, hlen2] at W5
          refine hQ ns ms H1 g _ q1 ⟨_, _, _, _, _, W5.in4_1, ?_, ?_, fun sN mv => ?_⟩
          · simpa only [List.size_toArray, hlen, hlen2] using atS
          · intro j y sj Qj Ej hy hQj
            obtain ⟨i, pij, a, b, ha1, hb1, rfl⟩ := hy
            obtain ⟨pj, peq⟩ := List.getElem?_eq_some_iff.mp pij
            rw [List.getElem_range] at peq
            subst peq
            have hQ2 : Qj (trZ pz ns ms j) sj := hQj
            rw [trZ_some ha1 hb1] at hQ2
            exact wpAny_truthy_bool hQ2
          · obtain ⟨more, emo⟩ := mor
            have nwr : ∀ b u, s1.heap.get? b = some u → b ∉ hB.objs.size :: [s1.heap.objs.size + 4, s1.heap.objs.size + 3, s1.heap.objs.size, s1.heap.objs.size + 1] := fun b u e inn => by
              have hl := Heap.lt_size e
              have h6 : (s1.heap.objs.size : Nat) ≤ hB.objs.size := by
                have hszA' : (hA.objs.size : Nat) = s1.heap.objs.size + 5 := hszA
                omega
              simp only [List.mem_cons, List.not_mem_nil, or_false] at inn
              rcases inn with z | z | z | z | z
              · exact Nat.lt_irrefl _ (Nat.lt_of_lt_of_le (z ▸ hl) h6)
              · exact off_no (k := 4) z hl
              · exact off_no (k := 3) z hl
              · exact off_no (k := 0) z hl
              · exact off_no (k := 1) z hl
            have Jn := GxR.inv_tab (more := more) (h' := sN.heap) (g' := sN.gens) (d' := sN.drawn) (t' := sN.toks) J1 htb (fun b u inn e => mv.heap b u (nwr b u e) (old5 b u (keep3 b u inn e)))
              (by rw [← emo]; exact mv.heap tb _ (nwr tb _ htbs) (old5 tb _ htb3)) (AllBare.movedS (J1.bare.push bare1) mv)
            rw [GxR.sh_eta s1 sN mv.os] at Jn
            refine ⟨upd H1 tb (.tbl (ps ++ more)), ⟨⟨ps ++ more, upd_same, by rw [← emo]; exact tri⟩, fun b inn => upd_ne inn⟩, Jn⟩
      refine ⟨lim2, ?_⟩
      cases amg : codeAmong gpos ps.toList with
      | none =>
        refine wpAny_genexprCodeX hcd (cd.code htb2 ht) (cd.tab htb2) amg fun c' h' tk ext ge1 lt1 cob _ tabb _ => ?_
        obtain ⟨o1, vs, f1, tf, fl, tg, inF, tx, tt, op, _, _, _, _, _, _, _, _, _, trp, _⟩ := cob
        exact rest _ h' tk _ ext (Nat.le_trans ge1 (Nat.le_of_lt lt1)) tabb.2 ⟨_, rfl⟩ trp
      | some cv =>
        refine wpAny_genexprCode_hit hcd (cd.code htb2 ht) amg ?_
        exact rest cv hA s1.toks ps (Heap.ExtBut.refl _ _) (Nat.le_refl _) htb2 ⟨#[], by simp⟩ ht
end
end RB

set_option maxRecDepth 100000
set_option maxHeartbeats 0
namespace RB
open PySem L2 PySem.Spec PyProof.Rows
section
variable {X : Cx}
/-- all(test for a, b in zip(e, e2)), two lists of ints; behind it the def's table may have grown -/
def tAllZ (K : PySem.W.Frag) (tb : Addr) (pz : Int → Int → Bool) (ta : TA) : TE := fun σ H Q => ta σ H fun vs H1 => ∃ (a b : Addr) (ns ms : List Int), vs = [V.ref a, V.ref b] ∧ SqL K H1 a (ns.map V.int) ∧ SqL K H1 b (ms.map V.int) ∧ GxR.TabG H1 tb ∧
  ∀ Hn, GxR.Tabbed tb H1 Hn → Q (.bl ((ns.zip ms).all fun p => pz p.1 p.2)) Hn
/-- the generator expression (elt for a, b in zip(e, e2)) as it is written -/
abbrev gxZ (elt e e2 : Expr) (xa xb : Str) (pa pb pt p pos gpos : Pos) (kt : Nat) (scope : Scope) : Expr :=
  .GeneratorExp elt [⟨.Tuple [.Name xa pa, .Name xb pb] kt pt, .Call (.Name "zip" p) [e, e2] [] pos, [], 0⟩] scope gpos
theorem pe_allZ {c tb : Addr} {elt e e2 : Expr} {xa xb : Str} {pa pb pt p p0 pos pos0 gpos : Pos} {kt : Nat} {scope : Scope} {pz : Int → Int → Bool} {ta : TA} {k : Nat}
    (hr : Room k X.A) (hg0 : Gl X "all") (hm0 : X.mg "all" = none) (hb : bootBuiltins "all" = some (.builtin "all")) (hg : Gl X "zip") (hm : X.mg "zip" = none) (TB : GxR.TabB X.base X.mg c tb) (hcode : X.env.code = .ref c) (S : GenS2 X.env scope xa xb) (ha : PA X [e, e2] ta) (hel : EltZ X.prog X.w scope xa xb elt pz)
    (hs : ∀ v, genFold (.Call (.Name "zip" p) [e, e2] [] pos) X.env v = pure v)
    (hst : starEach [e, e2] X.env = (false, eval e X.env) :: starEach [e2] X.env := by rfl) (hpl : (backTo pos (starEach [e2] X.env)).any (·.1) = false := by rfl)
    (he : starEach [gxZ elt e e2 xa xb pa pb pt p pos gpos kt scope] X.env = (false, eval (gxZ elt e e2 xa xb pa pb pt p pos gpos kt scope) X.env) :: starEach [] X.env := by rfl) :
    PE X (.Call (.Name "all" p0) [gxZ elt e e2 xa xb pa pb pt p pos gpos kt scope] [] pos0) (tAllZ X.K tb pz ta) where
  run := by
    intro pins s σ H Q I h
    apply wpAny_Call_Name_kw
    apply ld_blt I hg0 hm0 hb
    refine PyProof.Rows.callWith_builtin1 ?_ he rfl
    rw [he]
    show wpAny _ _ (spliced ((false, eval (gxZ elt e e2 xa xb pa pb pt p pos gpos kt scope) X.env) :: backTo pos0 (starEach [] X.env))) _ _ s
    apply Calls.spliced_cons
    refine gen_zip (R := fun ns ms H1 => ∀ Hn, GxR.Tabbed tb H1 Hn → Q (.bl ((ns.zip ms).all fun p => pz p.1 p.2)) Hn) hr hg hm TB hcode S ha hel hs I hst hpl h ?_
    rintro ns ms H1 g sG after ⟨own, mtd, gq, valf, stt, walk, start, truth, back⟩
    apply Calls.spliced_nil
    refine call_all_walkS (walk.self 0 _ _ _ start ⟨g, own, mtd, gq, _, valf, stt, _, rfl, walk, start, truth, fun sN mv => ?_⟩)
    have ⟨Hn, grown, inv⟩ := back sN mv
    rw [all_trZ]
    exact ⟨.bl _, Hn, inv, rfl, after Hn grown⟩
end
/-! ### enumerate(text) -/
def IteS (x : Str) : It where
  go i _ := i < x.cps.size
  yld := fun i H v H' => ∃ T c, v = .ref T ∧ H T = none ∧ x.cps[i]? = some c ∧ H' = upd H T (.tup [.int (i : Nat), .str ⟨#[c]⟩])
  stop i _ := i = x.cps.size
/-- the two objects of enumerate(text), between its i-th and its next item: en the outer one, ti the text's own -/
def EnS (x : Str) (u : Tok) (en ti : Addr) (i : Nat) (h : Heap) : Prop :=
  en ≠ ti ∧ (∃ last, IsEnum h en ti ((i : Nat) : Int) last) ∧ h.IsStrIter ti (strIterType x) x u i
theorem two_of {b en ti : Addr} (h : b ∈ [en, ti]) : b = en ∨ b = ti := by simpa using h
theorem turn_enumS {P : Program} {w : World} {K : PySem.W.Frag} {elts : List Expr} {kk : Nat} {tpos : Pos} (x : Str) (u : Tok) (en ti : Addr) :
    Turn P w K (.Tuple elts kk tpos) (IteS x) [en, ti] en (EnS x u en ti) where
  mem := .head _
  obj := by
    rintro i h ⟨_, ⟨last, he⟩, ob, ho, _, hd⟩ b inn
    cases two_of inn with
    | inl z =>
      subst z
      exact ⟨_, he, fun v q => by cases q⟩
    | inr z => exact ⟨ob, z ▸ ho, fun v q => by simp [hd] at q⟩
  keep := by
    rintro i h h' ⟨ne, ⟨last, he⟩, ob, ho, r⟩ same
    exact ⟨ne, ⟨last, same en (.head _) _ he⟩, ob, same ti (.tail _ (.head _)) ob ho, r⟩
  item := by
    rintro X rfl rfl rfl calm i pins s σ H E I free ⟨ne, ⟨last, he⟩, it⟩ more
    have le : en < s.heap.objs.size := Heap.lt_size he
    have lt : ti < s.heap.objs.size := it.elim fun _ q => Heap.lt_size q.1
    refine wpAny_pyNext_enum_itemD (Draws.text (A := X.A.in1) (I.ok.hd calm) ti x u) he it more ne (by simpa using ne) fun v hA tk hv hen hit hpair _ old => ?_
    obtain ⟨c, tc, at_c, rfl⟩ := hv
    refine ⟨_, rfl, wpAny_letOwnedTupleGo_enum (s := { s with heap := hA, toks := tk + 1 }) hen fun hB hen2 same => ?_⟩
    have pair : hB.get? s.heap.objs.size = some { cls := .type "tuple", data := .seq #[.int i tk, .str ⟨#[c]⟩ tc] } := by
      rw [same.2 _ (Nat.ne_of_gt le)]
      exact hpair
    let o : HO := .tup [.int (i : Nat), .str ⟨#[c]⟩]
    have laid : ObjOk X.prog X.w (upd H s.heap.objs.size o) hB s.heap.objs.size o := by
      refine ⟨by show 2 ≤ sizeLine; decide, [.int i tk, .str ⟨#[c]⟩ tc], .cons ⟨_, rfl⟩ (.cons ⟨_, rfl⟩ .nil), ?_⟩
      exact ⟨_, pair, rfl, _, rfl⟩
    have keep2 : ∀ b ob, b ∉ [en, ti] → s.heap.get? b = some ob → hB.get? b = some ob := fun b ob out q => by
      have n1 : b ≠ en := fun z => out (z ▸ .head _)
      have n2 : b ≠ ti := fun z => out (z ▸ .tail _ (.head _))
      rw [same.2 b n1]
      exact old b ob n1 n2 q
    have inv := I.turnedNew (t' := tk + 1) keep2 free (Nat.le_refl _) laid
    refine ⟨.ref s.heap.objs.size, _, inv, rfl, ⟨_, c, rfl, I.hok.fresh (Nat.le_refl _), at_c, rfl⟩, ⟨ne, ⟨.str ⟨#[c]⟩ tc, ?_⟩, ?_⟩, fun b inn => ?_⟩
    · rw [show ((i + 1 : Nat) : Int) = (i : Int) + 1 from rfl]
      exact hen2
    · obtain ⟨ob, q, r⟩ := hit
      exact ⟨ob, by rw [same.2 ti (Ne.symm ne)]; exact q, r⟩
    · have small : b ≠ s.heap.objs.size := (two_of inn).elim (fun z => z ▸ Nat.ne_of_lt le) (fun z => z ▸ Nat.ne_of_lt lt)
      rw [upd_ne small]
      exact (free b inn).1
  done := by
    rintro X rfl rfl rfl calm i pins s σ H E I free ⟨ne, ⟨last, he⟩, it⟩ over
    have z : i = x.cps.size := over
    subst z
    obtain ⟨f0, f1, _, f3, f4, f5⟩ := free ti (.tail _ (.head _))
    refine wpAny_pyNext_enum_endD (Draws.text (A := X.A.in1) (I.ok.hd calm) ti x u) he it fun hA old => ⟨rfl, ?_⟩
    exact I.turned (t' := s.toks) old f0 f1 f3 f4 f5
  self := by
    rintro A i s Q E ⟨_, ⟨_, he⟩, _⟩ q
    exact wpAny_pyIter_enum he q
def iEnumS (ta : TA) : TI := fun σ H R => ta σ H fun vs H1 => ∃ x : Str, vs = [.str x] ∧ R (IteS x) H1
theorem pi_enumS {X : Cx} {e : Expr} {ta : TA} {p pos tpos : Pos} {elts : List Expr} {kk : Nat} (hg : Gl X "enumerate") (hm : X.mg "enumerate" = none) (ha : PA X [e] ta) (hs : starEach [e] X.env = [(false, eval e X.env)] := by rfl) :
    PI X (.Tuple elts kk tpos) (.Call (.Name "enumerate" p) [e] [] pos) (iEnumS ta) where
  run := by
    intro pins s σ H R I pre
    apply Call_ (he := rfl)
    apply ld_blt I hg hm boot_enumerate
    refine PyProof.Rows.callWith_type1 (thn (ha.run pos pins s σ H _ I pre) ?_) hs rfl
    rintro us s1 ⟨vs, H1, I1, rel, x, rfl, q⟩
    cases rel with
    | cons r rest =>
      cases rest
      obtain ⟨u, rfl⟩ := r
      refine call_enumerate_str fun hA he it _ old => wpAny_pyIter_enum he ?_
      have I2 := I1.kept (t' := s1.toks) old
      refine ⟨s1.heap.objs.size + 1, [s1.heap.objs.size + 1, s1.heap.objs.size], _, _, H1, rfl, I2, turn_enumS x u (s1.heap.objs.size + 1) s1.heap.objs.size, ⟨Nat.succ_ne_self _, ⟨.none, he⟩, it⟩, fun b inn => ?_, q⟩
      have new : s1.heap.objs.size ≤ b := (two_of inn).elim (fun z => z ▸ Nat.le_succ _) (fun z => z ▸ Nat.le_refl _)
      exact I1.fpOk new (I1.hok.fresh new)
/-! ### sorted(t) and max(t), t a tuple -/
section
variable {P : Program} {w : World} {A : Around} {E : Value → Shared → Prop} {s : Shared} {t : Addr} {its : List Value}
/-- sorted(t) over texts: some new list d of them in order, all else as it was -/
theorem sort_texts_of_tup {ws : List Str} {Q : Value → Shared → Prop} (ht : IsTup s.heap t its.toArray) (hw : StrsAre its ws) (few : its.length < 64)
    (fin : ∀ (h1 hp : Heap) (d : Addr) (out : Array Value) ep ys, (∀ b o, s.heap.get? b = some o → h1.get? b = some o) → h1.objs.size ≤ d → (∀ b o, h1.get? b = some o → hp.get? b = some o) → hp.get? d = some (seqObj "list" out ep) →
      StrsAre out.toList ys → ys.Perm ws → sortedS ys = true → Q (.ref d) { s with heap := hp }) :
    wpAny (model P w) A (call (.builtin "sorted") [.ref t]) Q E s := by
  obtain ⟨ob, hob, hcl, n, hdt⟩ := ht
  have room : its.length ≤ sizeLine := small64 few
  apply Calls.call_function_entry kind_sorted plain_sorted entry_sorted (args_sorted1 _)
  unfold Builtin.«sorted»
  apply wpAny_bind (m := checkCount "sorted" 1 1 _)
  apply wpAny_pure
  apply wpAny_bind
  refine wpAny_collect_seq t (.inr rfl) hob hcl hdt (fun h1 k1 => ?_) (by simpa using room)
  rw [List.toList_toArray]
  apply wpAny_bind
  refine wpAny_newList ?_ room
  have at0 : (h1.push (seqObj "list" its.toArray 0)).get? h1.objs.size = some (seqObj "list" its.toArray 0) := Heap.get?_push_size _ rfl
  have kinds : ∀ a b r, its = a :: b :: r → keyKind' (a :: b :: r).toArray = pure oneType' := fun a b r e => keyKind_strs (e ▸ hw)
  apply wpAny_bind
  apply wpAny_holding
  refine wpAny_call_entry slot_list_sort ⟨_, at0, rfl⟩ entry_list_sort (list_sort_treeK strKind_oneLt at0 hw.keysOf kinds few fun st pm so => ⟨.none, rfl, ?_⟩) (args_list_sort _)
  obtain ⟨ys, y1, y2, y3⟩ := sorted_out_str hw pm so
  obtain ⟨ep, hd⟩ := sortedHeap_at (vs := its) (out := (arrOf st).map (·.2)) at0
  refine wpAny_pure ⟨_, rfl, fin h1 _ h1.objs.size _ ep ys k1 (Nat.le_refl _) (fun b o q => ?_) hd y1 y2 y3⟩
  have lt := Heap.lt_size q
  rw [sortedHeap_old (Nat.ne_of_lt lt) (by rw [Heap.size_push]; exact Nat.lt_succ_of_lt lt)]
  apply Heap.get?_push_of_some
  exact q
/-- the greatest of a row that begins -/
theorem maxOf_ints : ∀ (r : List Int) (x : Int), PySem.W.maxOf x r ∈ x :: r ∧ ∀ a ∈ x :: r, a ≤ PySem.W.maxOf x r
  | [], x => ⟨.head _, fun a h => by
    rw [List.mem_singleton.mp h]
    exact Int.le_refl _⟩
  | y :: r, x => by
    have ih := maxOf_ints r (if x < y then y else x)
    have e : PySem.W.maxOf x (y :: r) = PySem.W.maxOf (if x < y then y else x) r := by
      show List.foldl _ (if decide (x < y) = true then y else x) r = _
      simp only [decide_eq_true_eq]
      rfl
    rw [e]
    by_cases c : x < y
    · rw [if_pos c] at ih ⊢
      have top := ih.2 y (.head _)
      refine ⟨.tail _ ih.1, fun a h => ?_⟩
      cases h with
      | head => exact Int.le_trans (Int.le_of_lt c) top
      | tail _ h => exact ih.2 a h
    · rw [if_neg c] at ih ⊢
      have top := ih.2 x (.head _)
      refine ⟨?_, fun a h => ?_⟩
      · cases List.mem_cons.mp ih.1 with
        | inl z => rw [z]; exact .head _
        | inr z => exact .tail _ (.tail _ z)
      · cases h with
        | head => exact top
        | tail _ h => cases h with
          | head => exact Int.le_trans (Int.not_lt.mp c) top
          | tail _ h => exact ih.2 a (.tail _ h)
end
section
variable {X : Cx}
def rSortedTS (K : PySem.W.Frag) : List V → Hp → VK → Prop := fun vs H Q => ∃ (t : Addr) (ws : List Str), vs = [V.ref t] ∧ SqT K H t (ws.map V.str) ∧ ws.length < 64 ∧
  ∀ ys d, ys.Perm ws → sortedS ys = true → H d = none → Q (.ref d) (upd H d (.lst (ys.map V.str)))
theorem cr_sortedTS : CallR X (.builtin "sorted") (rSortedTS X.K) := by
  intro pins s σ H vs us Q I rel pre
  obtain ⟨t, ws, rfl, sq, few, q⟩ := pre
  obtain ⟨its, vals, tup, _⟩ := I.tuple sq
  have many : its.length = ws.length := by
    have z := vals.length
    rw [List.length_map] at z
    exact z.symm
  rw [Vals.ref1 rel]
  refine sort_texts_of_tup tup vals.strs (many ▸ few) fun h1 hp d out ep ys k1 above k2 hd y1 y2 y3 => ?_
  have fits : (ys.map V.str).length ≤ sizeLine := by
    rw [List.length_map, y2.length_eq]
    exact small64 few
  have I1 : Inv X pins σ H { s with heap := h1 } := I.kept (t' := s.toks) k1
  exact ⟨.ref d, upd H d (.lst (ys.map V.str)), I1.laid (t' := s.toks) k2 above ⟨fits, out.toList, ep, vals_of_strs y1, hd⟩, rfl, q ys d y2 y3 (I1.hok.fresh above)⟩
def rMaxT (K : PySem.W.Frag) : List V → Hp → VK → Prop := fun vs H Q => ∃ (t : Addr) (ns : List Int), vs = [V.ref t] ∧ SqT K H t (ns.map V.int) ∧ 0 < ns.length ∧
  ∀ m, m ∈ ns → (∀ y, y ∈ ns → y ≤ m) → Q (.int m) H
theorem cr_maxT (hc : X.calm = true) (hu : X.A.units + 64 < cLine) : CallR X (.builtin "max") (rMaxT X.K) := by
  intro pins s σ H vs us Q I rel pre
  obtain ⟨t, ns, rfl, sq, some1, q⟩ := pre
  cases ns with
  | nil => cases some1
  | cons x r =>
    obtain ⟨its, vals, tup, _⟩ := I.tuple sq
    rw [Vals.ref1 rel]
    refine PySem.W.max_tuple_datum (x := x) (xs := r) (I.ok.hd hc) tup (.of_ints (by simpa using vals.ints)) (Nat.lt_of_le_of_lt (by show _ + 1 + 0 ≤ _ + 64; omega) hu) fun i v hp tk _ hv old => ?_
    obtain ⟨u, rfl⟩ := PySem.W.int_of_holds hv
    have m := maxOf_ints r x
    exact ⟨.int _, H, I.kept old, ⟨u, rfl⟩, q _ m.1 m.2⟩
end
end RB

set_option maxRecDepth 100000
set_option maxHeartbeats 0
namespace RB
open PySem L2 PySem.Spec PyProof.Rows
def sg (b : Bool) : Nat := cond b 49 48
def tx (m : M) : Str := ⟨(m.map sg).toArray⟩
theorem sg_inj {a b : Bool} (h : sg a = sg b) : a = b := by cases a <;> cases b <;> first | rfl | cases h
theorem sg_beq (a b : Bool) : (sg a == sg b) = (a == b) := by cases a <;> cases b <;> rfl
theorem tx_cps (m : M) : (tx m).cps.toList = m.map sg := rfl
theorem tx_len (m : M) : (tx m).length = m.length := by simp [tx, Str.length]
theorem tx_size (m : M) : (tx m).cps.size = m.length := by simp [tx]
theorem map_sg_inj : ∀ {a b : M}, a.map sg = b.map sg → a = b
  | [], [], _ => rfl
  | [], _ :: _, h => by cases h
  | _ :: _, [], h => by cases h
  | x :: a, y :: b, h => by
    rw [List.map_cons, List.map_cons, List.cons.injEq] at h
    rw [sg_inj h.1, map_sg_inj h.2]
theorem tx_inj {a b : M} (h : tx a = tx b) : a = b := map_sg_inj (by rw [← tx_cps, ← tx_cps, h])
theorem str_ext {x y : Str} (h : x.cps.toList = y.cps.toList) : x = y := Str.ext' (Array.toList_inj.mp h)
theorem tx_app (a b : M) : tx a ++ tx b = tx (a ++ b) := str_ext (by
  have e : (tx a ++ tx b).cps.toList = (tx a).cps.toList ++ (tx b).cps.toList := TL.tl_append _ _
  rw [e, tx_cps, tx_cps, tx_cps, List.map_append])
theorem lit0 : ("0" : Str) = tx [false] := by decide +kernel
theorem lit1 : ("1" : Str) = tx [true] := by decide +kernel
theorem lit : ("" : Str) = tx [] := by decide +kernel
theorem lit01 : ("01" : Str) = tx [false, true] := by decide +kernel
theorem lit10 : ("10" : Str) = tx [true, false] := by decide +kernel
theorem tx_one (b : Bool) : tx [b] = ⟨#[sg b]⟩ := rfl
theorem tx_at {m : M} {j : Nat} {b : Bool} (h : m[j]? = some b) : (tx m).cps[j]? = some (sg b) := by
  rw [← Array.getElem?_toList, tx_cps, List.getElem?_map, h]
  all_goals rfl
theorem tx_get {m : M} {j c : Nat} (h : (tx m).cps[j]? = some c) : ∃ b, m[j]? = some b ∧ c = sg b := by
  rw [← Array.getElem?_toList, tx_cps, List.getElem?_map] at h
  cases e : m[j]? with
  | none =>
    rw [e] at h
    cases h
  | some b =>
    rw [e] at h
    exact ⟨b, rfl, (Option.some.inj h).symm⟩
theorem vtx_eq (a b : M) : decide (V.str (tx a) = V.str (tx b)) = decide (a = b) := by
  by_cases h : a = b
  · rw [h, decide_eq_true rfl, decide_eq_true rfl]
  · rw [decide_eq_false h, decide_eq_false fun z => h (tx_inj (V.str.inj z))]
/-! slices -/
theorem map_take' (m : M) (k : Nat) : (m.map sg).take k = (m.take k).map sg := by rw [List.map_take]
theorem cut_to (m : M) (k : Nat) : cutS (tx m) none (some (k : Int)) = tx (m.take k) := str_ext (by
  show (((tx m).cps.toList.drop (HT.sIx (tx m).length 0 none)).take (HT.sIx (tx m).length (tx m).length (some (k : Int)) - HT.sIx (tx m).length 0 none)) = _
  rw [HT.sIx_none, HT.sIx_nat, tx_cps, tx_cps, tx_len, List.drop_zero, Nat.sub_zero, List.map_take]
  by_cases h : k ≤ m.length
  · rw [Nat.min_eq_left h]
  · rw [Nat.min_eq_right (by omega), List.take_of_length_le (by rw [List.length_map]; omega), List.take_of_length_le (by rw [List.length_map]; omega)])
theorem cut_from (m : M) (k : Nat) : cutS (tx m) (some (k : Int)) none = tx (m.drop k) := str_ext (by
  show (((tx m).cps.toList.drop (HT.sIx (tx m).length 0 (some (k : Int)))).take (HT.sIx (tx m).length (tx m).length none - HT.sIx (tx m).length 0 (some (k : Int)))) = _
  rw [HT.sIx_none, HT.sIx_nat, tx_cps, tx_cps, tx_len, List.map_drop]
  by_cases h : k ≤ m.length
  · rw [Nat.min_eq_left h, List.take_of_length_le (by rw [List.length_drop, List.length_map]; omega)]
  · rw [Nat.min_eq_right (by omega), List.drop_of_length_le (by rw [List.length_map]; omega), List.drop_of_length_le (by rw [List.length_map]; omega), List.take_nil])
theorem cut_two (m : M) (k j : Nat) : cutS (tx m) (some (k : Int)) (some ((k + j : Nat) : Int)) = tx ((m.drop k).take j) := str_ext (by
  show (((tx m).cps.toList.drop (HT.sIx (tx m).length 0 (some (k : Int)))).take (HT.sIx (tx m).length (tx m).length (some ((k + j : Nat) : Int)) - HT.sIx (tx m).length 0 (some (k : Int)))) = _
  rw [HT.sIx_nat, HT.sIx_nat, tx_cps, tx_cps, tx_len, List.map_take, List.map_drop]
  by_cases h : k ≤ m.length
  · rw [Nat.min_eq_left h]
    by_cases h2 : k + j ≤ m.length
    · rw [Nat.min_eq_left h2, Nat.add_sub_cancel_left]
    · rw [Nat.min_eq_right (by omega), List.take_of_length_le (by rw [List.length_drop, List.length_map]; omega), List.take_of_length_le (by rw [List.length_drop, List.length_map]; omega)]
  · rw [Nat.min_eq_right (show m.length ≤ k by omega), List.drop_of_length_le (by rw [List.length_map]; omega), List.drop_of_length_le (by rw [List.length_map]; omega), List.take_nil, List.take_nil])
/-! count and rfind of one sign -/
open Builtin Builtin.Str StrLaws in
theorem occ_run (x : Str) (c : Nat) (limit : Nat) : ∀ (k a : Nat) (found : Array Nat) (free : Nat), free ≤ a → found.size ≤ a → a + k ≤ limit →
    (forIn (List.range' a k) (found, free) (occBody x ⟨#[c]⟩ x.length limit)).run.fst.toList.length = found.size + ((List.range' a k).filter fun i => x.cps.toList[i]? == some c).length
  | 0, a, found, free, _, _, _ => by simp
  | k + 1, a, found, free, h1, h2, h3 => by
    rw [List.range'_succ]
    rw [List.forIn_cons]
    unfold occBody
    by_cases hc : x.cps.toList[a]? = some c
    · obtain ⟨h4, h5⟩ := (StrLaws.subAt_one x c a).mpr hc
      rw [if_pos ⟨⟨⟨show found.size < limit by omega, h1⟩, h4⟩, h5⟩, List.filter_cons_of_pos (by simp [hc])]
      have ih := occ_run x c limit k (a + 1) (found.push a) (a + 1) (Nat.le_refl _) (by rw [Array.size_push]; omega) (by omega)
      rw [Array.size_push] at ih
      show (forIn (List.range' (a + 1) k) (found.push a, a + 1) (occBody x ⟨#[c]⟩ x.length limit)).run.fst.toList.length = _
      rw [ih, List.length_cons]
      omega
    · rw [if_neg (fun z => hc ((StrLaws.subAt_one x c a).mp ⟨z.1.2, z.2⟩)), List.filter_cons_of_neg (by rw [beq_iff_eq]; exact hc)]
      exact occ_run x c limit k (a + 1) found free (by omega) (by omega) (by omega)
theorem filter_count {α : Type} [BEq α] [LawfulBEq α] (c : α) : ∀ (l : List α) (a : Nat), ((List.range' a (l.length + 1)).filter fun i => decide (a ≤ i) && (l[i - a]? == some c)).length = l.count c
  | [], a => by simp
  | y :: l, a => by
    rw [List.length_cons, List.range'_succ]
    have e : ((List.range' (a + 1) (l.length + 1)).filter fun i => decide (a ≤ i) && ((y :: l)[i - a]? == some c)) = (List.range' (a + 1) (l.length + 1)).filter fun i => decide (a + 1 ≤ i) && (l[i - (a + 1)]? == some c) := by
      refine List.filter_congr fun i hi => ?_
      have h1 : a + 1 ≤ i := (List.mem_range'_1.mp hi).1
      rw [decide_eq_true h1, decide_eq_true (by omega : a ≤ i), show i - a = (i - (a + 1)) + 1 by omega, List.getElem?_cons_succ]
    have ih := filter_count c l (a + 1)
    by_cases h : y = c
    · subst h
      rw [List.filter_cons_of_pos (by simp), List.length_cons, e, ih, List.count_cons_self]
    · rw [List.filter_cons_of_neg (by simp [h]), e, ih, List.count_cons_of_ne h]
theorem count_one (x : Str) (c : Nat) : Txt.count x ⟨#[c]⟩ = ((x.cps.toList.count c : Nat) : Int) := by
  show (((Builtin.Str.occurrences x ⟨#[c]⟩ 0 x.length (x.length + 1)).length : Nat) : Int) = _
  rw [StrLaws.occ_eq]
  have h := occ_run x c (x.length + 1) (x.length + 1) 0 #[] 0 (Nat.le_refl _) (by simp) (by omega)
  rw [show x.length + 1 - 0 = x.length + 1 by omega, h]
  have h2 := filter_count c x.cps.toList 0
  have e : List.length x.cps.toList = x.length := by simp [Str.length]
  rw [e] at h2
  have e2 : ((List.range' 0 (x.length + 1)).filter fun i => decide (0 ≤ i) && (x.cps.toList[i - 0]? == some c)) = (List.range' 0 (x.length + 1)).filter fun i => x.cps.toList[i]? == some c := by
    refine List.filter_congr fun i _ => ?_
    simp
  rw [e2] at h2
  rw [h2]
  simp
theorem count_sg (b : Bool) : ∀ m : M, (m.map sg).count (sg b) = m.count b
  | [] => rfl
  | y :: m => by
    rw [List.map_cons, List.count_cons, List.count_cons, count_sg b m, sg_beq]
theorem tx_count (m : M) : Txt.count (tx m) (tx [true]) = ((cntB m : Nat) : Int) := by
  rw [tx_one, count_one, tx_cps, count_sg]
  rfl
theorem tx_rfind (m : M) (b : Bool) : Txt.rfind (tx m) (tx [b]) = match (places m b).getLast? with
    | some k => ((k : Nat) : Int)
    | none => -1 := by
  have key : ∀ i, StrLaws.At (tx m) (tx [b]) (tx m).length i ↔ m[i]? = some b := fun i => by
    rw [tx_one]
    refine (StrLaws.subAt_one (tx m) (sg b) i).trans ?_
    rw [Array.getElem?_toList]
    constructor
    · intro h
      obtain ⟨y, h1, h2⟩ := tx_get h
      rw [h1, sg_inj h2]
    · intro h
      exact tx_at h
  have mem : ∀ k, k ∈ places m b ↔ m[k]? = some b := fun k => by
    unfold places
    rw [List.mem_filter, List.mem_range, beq_iff_eq]
    constructor
    · exact fun z => z.2
    · exact fun z => ⟨(List.getElem?_eq_some_iff.mp z).1, z⟩
  unfold Txt.rfind
  rcases StrLaws.last_spec (tx m) (tx [b]) with ⟨h1, h2⟩ | ⟨i, h1, h2, h3⟩
  · rw [h1]
    have e : places m b = [] := by
      refine List.eq_nil_iff_forall_not_mem.mpr fun k hk => h2 k ((key k).mpr ((mem k).mp hk))
    rw [e]
    rfl
  · rw [h1]
    have hi : i ∈ places m b := (mem i).mpr ((key i).mp h2)
    have hmax : ∀ k ∈ places m b, k ≤ i := fun k hk => Nat.le_of_not_lt fun z => h3 k z ((key k).mpr ((mem k).mp hk))
    have srt : (places m b).Pairwise (· < ·) := List.Pairwise.filter _ List.pairwise_lt_range
    have ne : places m b ≠ [] := fun z => by rw [z] at hi; cases hi
    obtain ⟨l, hl⟩ : ∃ l, (places m b).getLast? = some l := ⟨_, List.getLast?_eq_some_getLast ne⟩
    rw [hl]
    have hl2 : l ∈ places m b := List.mem_of_getLast? hl
    have h4 : l ≤ i := hmax l hl2
    have h5 : i ≤ l := by
      obtain ⟨ys, ey⟩ := List.getLast?_eq_some_iff.mp hl
      rw [ey] at hi srt
      rcases List.mem_append.mp hi with z | z
      · exact Nat.le_of_lt ((List.pairwise_append.mp srt).2.2 i z l (by simp))
      · have e : i = l := by simpa using z
        omega
    have e : i = l := by omega
    rw [e]
end RB

set_option maxRecDepth 100000
set_option maxHeartbeats 0
namespace RB
open PySem L2 PySem.Spec PyProof.Rows
/-! ### the text by places -/
def topS (i : Nat) : Stmt := PySem.Challenge.pw_relaybanks_k93_across_ranks_and_heights.main.body.getD i (.Pass ⟨0, 0, 0, 0⟩)
abbrev sIsIn : Stmt := topS 9
abbrev sIsMem : Stmt := topS 10
abbrev sNeedMem : Stmt := topS 11
abbrev sIsInp : Stmt := topS 12
abbrev sNeedInp : Stmt := topS 13
abbrev sNeedSpan : Stmt := topS 14
abbrev sStep : Stmt := topS 15
abbrev sBehind : Stmt := topS 16
abbrev sAfter : Stmt := topS 17
abbrev sNeedPair : Stmt := topS 19
abbrev sCounts : Stmt := topS 20
abbrev sBelow : Stmt := topS 21
abbrev sIsBelow : Stmt := topS 22
abbrev sFromC : Stmt := topS 23
abbrev sMeet : Stmt := topS 24
abbrev sJoin : Stmt := topS 25
abbrev sRankOf : Stmt := topS 26
abbrev sRank : Stmt := topS 27
abbrev sByRank : Stmt := topS 28
abbrev sRankCounts : Stmt := topS 29
abbrev sRankWidth : Stmt := topS 30
abbrev sCoversOf : Stmt := topS 31
abbrev sCovers : Stmt := topS 32
abbrev sAllRel : Stmt := topS 34
abbrev sPlace : Stmt := topS 35
abbrev sHolds : Stmt := topS 36
abbrev sOnIn : Stmt := topS 37
abbrev sRelOn : Stmt := topS 38
abbrev sTaken : Stmt := topS 40
abbrev sPick : Stmt := topS 41
abbrev sLMem : Stmt := topS 46
abbrev sLaw : Stmt := topS 48
theorem scIsIn : FnScope ["value", "least", "most"] ["value", "least", "most"] (defScope sIsIn) := ⟨rfl, rfl, rfl, by decide +kernel, rfl, by decide +kernel, by decide +kernel⟩
theorem scIsMem : FnScope ["value"] ["value"] (defScope sIsMem) := ⟨rfl, rfl, rfl, by decide +kernel, rfl, by decide +kernel, by decide +kernel⟩
theorem scNeedMem : FnScope ["memory"] ["memory"] (defScope sNeedMem) := ⟨rfl, rfl, rfl, by decide +kernel, rfl, by decide +kernel, by decide +kernel⟩
theorem scIsInp : FnScope ["value"] ["value"] (defScope sIsInp) := ⟨rfl, rfl, rfl, by decide +kernel, rfl, by decide +kernel, by decide +kernel⟩
theorem scNeedInp : FnScope ["steps"] ["steps"] (defScope sNeedInp) := ⟨rfl, rfl, rfl, by decide +kernel, rfl, by decide +kernel, by decide +kernel⟩
theorem scNeedSpan : FnScope ["span"] ["span"] (defScope sNeedSpan) := ⟨rfl, rfl, rfl, by decide +kernel, rfl, by decide +kernel, by decide +kernel⟩
theorem scStep : FnScope ["memory", "letter", "old", "new", "at"] ["memory", "letter"] (defScope sStep) := ⟨rfl, rfl, rfl, by decide +kernel, rfl, by decide +kernel, by decide +kernel⟩
theorem scBehind : FnScope ["memory", "steps", "letter"] ["memory", "steps"] (defScope sBehind) := ⟨rfl, rfl, rfl, by decide +kernel, rfl, by decide +kernel, by decide +kernel⟩
theorem scAfter : FnScope ["memory", "steps"] ["memory", "steps"] (defScope sAfter) := ⟨rfl, rfl, rfl, by decide +kernel, rfl, by decide +kernel, by decide +kernel⟩
theorem scNeedPair : FnScope ["one", "other"] ["one", "other"] (defScope sNeedPair) := ⟨rfl, rfl, rfl, by decide +kernel, rfl, by decide +kernel, by decide +kernel⟩
theorem scCounts : FnScope ["memory", "k"] ["memory"] (defScope sCounts) := ⟨rfl, rfl, rfl, by decide +kernel, rfl, by decide +kernel, by decide +kernel⟩
theorem scBelow : FnScope ["one", "other"] ["one", "other"] (defScope sBelow) := ⟨rfl, rfl, rfl, by decide +kernel, rfl, by decide +kernel, by decide +kernel⟩
theorem scIsBelow : FnScope ["one", "other"] ["one", "other"] (defScope sIsBelow) := ⟨rfl, rfl, rfl, by decide +kernel, rfl, by decide +kernel, by decide +kernel⟩
theorem scFromC : FnScope ["some", "found", "before", "one"] ["some"] (defScope sFromC) := ⟨rfl, rfl, rfl, by decide +kernel, rfl, by decide +kernel, by decide +kernel⟩
theorem scMeet : FnScope ["one", "other", "a", "b"] ["one", "other"] (defScope sMeet) := ⟨rfl, rfl, rfl, by decide +kernel, rfl, by decide +kernel, by decide +kernel⟩
theorem scJoin : FnScope ["one", "other", "a", "b"] ["one", "other"] (defScope sJoin) := ⟨rfl, rfl, rfl, by decide +kernel, rfl, by decide +kernel, by decide +kernel⟩
theorem scRankOf : FnScope ["memory"] ["memory"] (defScope sRankOf) := ⟨rfl, rfl, rfl, by decide +kernel, rfl, by decide +kernel, by decide +kernel⟩
theorem scRank : FnScope ["memory"] ["memory"] (defScope sRank) := ⟨rfl, rfl, rfl, by decide +kernel, rfl, by decide +kernel, by decide +kernel⟩
theorem scByRank : FnScope ["span", "found", "size", "more", "k", "a", "b"] ["span"] (defScope sByRank) := ⟨rfl, rfl, rfl, by decide +kernel, rfl, by decide +kernel, by decide +kernel⟩
theorem scRankCounts : FnScope ["span"] ["span"] (defScope sRankCounts) := ⟨rfl, rfl, rfl, by decide +kernel, rfl, by decide +kernel, by decide +kernel⟩
theorem scRankWidth : FnScope ["span"] ["span"] (defScope sRankWidth) := ⟨rfl, rfl, rfl, by decide +kernel, rfl, by decide +kernel, by decide +kernel⟩
theorem scCoversOf : FnScope ["memory", "found", "at"] ["memory"] (defScope sCoversOf) := ⟨rfl, rfl, rfl, by decide +kernel, rfl, by decide +kernel, by decide +kernel⟩
theorem scCovers : FnScope ["memory"] ["memory"] (defScope sCovers) := ⟨rfl, rfl, rfl, by decide +kernel, rfl, by decide +kernel, by decide +kernel⟩
theorem scAllRel : FnScope ["span", "high", "low"] ["span"] (defScope sAllRel) := ⟨rfl, rfl, rfl, by decide +kernel, rfl, by decide +kernel, by decide +kernel⟩
theorem scPlace : FnScope ["memory", "sign", "number", "found", "at", "one"] ["memory", "sign", "number"] (defScope sPlace) := ⟨rfl, rfl, rfl, by decide +kernel, rfl, by decide +kernel, by decide +kernel⟩
theorem scHolds : FnScope ["memory", "relay", "high", "low"] ["memory", "relay"] (defScope sHolds) := ⟨rfl, rfl, rfl, by decide +kernel, rfl, by decide +kernel, by decide +kernel⟩
theorem scOnIn : FnScope ["memory", "relay"] ["memory"] (defScope sOnIn) := ⟨rfl, rfl, rfl, by decide +kernel, rfl, by decide +kernel, by decide +kernel⟩
theorem scRelOn : FnScope ["memory"] ["memory"] (defScope sRelOn) := ⟨rfl, rfl, rfl, by decide +kernel, rfl, by decide +kernel, by decide +kernel⟩
theorem scTaken : FnScope ["_law_row", "_law_many", "_law_found", "_law_cell"] ["_law_row", "_law_many"] (defScope sTaken) := ⟨rfl, rfl, rfl, by decide +kernel, rfl, by decide +kernel, by decide +kernel⟩
theorem scPick : FnScope ["_law_row", "_law_things"] ["_law_row", "_law_things"] (defScope sPick) := ⟨rfl, rfl, rfl, by decide +kernel, rfl, by decide +kernel, by decide +kernel⟩
theorem scLMem : FnScope ["_law_row", "_law_most", "_law_k"] ["_law_row", "_law_most"] (defScope sLMem) := ⟨rfl, rfl, rfl, by decide +kernel, rfl, by decide +kernel, by decide +kernel⟩
theorem scLaw : FnScope ["_law_script", "_law_row", "_law_memory_here", "_law_span", "_law_height", "_law_found", "_law_some", "_law_one", "_law_other", "_law_up", "_law_counts", "_law_k"] ["_law_script"] (defScope sLaw) := ⟨rfl, rfl, rfl, by decide +kernel, rfl, by decide +kernel, by decide +kernel⟩
/-! ### heaps: what was tracked stays, but for the code tables ts, which stay tables -/
def Good (ts : List Addr) (H : Hp) : Prop := ∀ p ∈ ts, GxR.TabG H p
structure Go (ts : List Addr) (H H' : Hp) : Prop where
  keep : ∀ b o, b ∉ ts → H b = some o → H' b = some o
  good : Good ts H'
section
variable {ts : List Addr} {H H1 H2 H' : Hp} {p a : Addr} {o : HO} {xs : List V}
theorem Go.refl (g : Good ts H) : Go ts H H := ⟨fun _ _ _ h => h, g⟩
theorem Go.trans (a : Go ts H H1) (b : Go ts H1 H2) : Go ts H H2 := ⟨fun c o n h => b.keep c o n (a.keep c o n h), b.good⟩
theorem Good.nin (g : Good ts H) (h : H p = none) : p ∉ ts := fun z => by
  obtain ⟨ps, e, _⟩ := g p z
  rw [h] at e
  cases e
theorem Good.nt (g : Good ts H) (h : H p = some o) (n : ∀ ps, o ≠ .tbl ps) : p ∉ ts := fun z => by
  obtain ⟨ps, e, _⟩ := g p z
  rw [h] at e
  exact n ps (Option.some.inj e)
theorem Good.new (g : Good ts H) (h : H p = none) : Good ts (upd H p o) := fun q hq => by
  obtain ⟨ps, e, t⟩ := g q hq
  exact ⟨ps, by rw [upd_ne (ne_of_none e h)]; exact e, t⟩
theorem Go.new (g : Good ts H) (h : H p = none) : Go ts H (upd H p o) := ⟨fun b u _ e => by rw [upd_ne (ne_of_none e h)]; exact e, g.new h⟩
theorem Good.set (g : Good ts H) (n : p ∉ ts) : Good ts (upd H p o) := fun q hq => by
  obtain ⟨ps, e, t⟩ := g q hq
  exact ⟨ps, by rw [upd_ne (fun z : q = p => n (by rw [← z]; exact hq))]; exact e, t⟩
theorem Go.tab (hp : p ∈ ts) (g : Good ts H) (t : GxR.Tabbed p H H') : Go ts H H' :=
  ⟨fun b u n e => by rw [t.2 b fun z => n (z ▸ hp)]; exact e, fun q hq => by
    by_cases e : q = p
    · rw [e]; exact t.1
    · obtain ⟨ps, e1, t1⟩ := g q hq
      exact ⟨ps, by rw [t.2 q e]; exact e1, t1⟩⟩
theorem Go.lst (m : Go ts H H') (g : Good ts H) (h : H a = some (.lst xs)) : H' a = some (.lst xs) := m.keep a _ (g.nt h fun _ z => nomatch z) h
theorem Go.tup (m : Go ts H H') (g : Good ts H) (h : H a = some (.tup xs)) : H' a = some (.tup xs) := m.keep a _ (g.nt h fun _ z => nomatch z) h
theorem Go.frz {ob : Obj} {u : HO} (m : Go ts H H') (g : Good ts H) (h : H a = some (.frz ob u)) : H' a = some (.frz ob u) := m.keep a _ (g.nt h fun _ z => nomatch z) h
theorem Go.seq {K : PySem.W.Frag} (m : Go ts H H') (g : Good ts H) (h : SqL K H a xs) : SqL K H' a xs := by
  rcases h with (h | ⟨ob, h⟩) | h
  · exact .inl (.inl (m.lst g h))
  · exact .inl (.inr ⟨ob, m.frz g h⟩)
  · exact .inr h
theorem Go.seqT {K : PySem.W.Frag} (m : Go ts H H') (g : Good ts H) (h : SqT K H a xs) : SqT K H' a xs := by
  rcases h with (h | ⟨ob, h⟩) | h
  · exact .inl (.inl (m.tup g h))
  · exact .inl (.inr ⟨ob, m.frz g h⟩)
  · exact .inr h
theorem Go.free (m : Go ts H H') (h : H' p = none) : H p = none := by
  cases e : H p with
  | none => rfl
  | some o =>
    have q := m.keep p o (m.good.nin h) e
    rw [h] at q
    cases q
/-- a new object changed again -/
theorem Go.over {o1 : HO} (m : Go ts H H') (g : Good ts H) (h : H p = none) (n : p ∉ ts) : Go ts H (upd H' p o1) :=
  ⟨fun b u nb e => by rw [upd_ne (ne_of_none e h)]; exact m.keep b u nb e, fun q hq => by
    obtain ⟨ps, e, t⟩ := m.good q hq
    exact ⟨ps, by rw [upd_ne (fun z : q = p => n (by rw [← z]; exact hq))]; exact e, t⟩⟩
end
theorem small_of {n : Nat} (h : n ≤ 1000) : n ≤ sizeLine := Nat.le_of_lt (small1000 h)
/-! ### the module's names -/
structure Txt (K : PySem.W.Frag) (mg : Str → Option Value) : Prop where
  len : mg "len" = none
  zip : mg "zip" = none
  all : mg "all" = none
  isi : mg "isinstance" = none
  int : mg "int" = none
  bool : mg "bool" = none
  str : mg "str" = none
  range : mg "range" = none
  sum : mg "sum" = none
  min : mg "min" = none
  max : mg "max" = none
  tuple : mg "tuple" = none
  sorted : mg "sorted" = none
  enum : mg "enumerate" = none
  mspan : ∃ t, mg "MOST_SPAN" = some (.int 9 t)
  msteps : ∃ t, mg "MOST_STEPS" = some (.int 200 t)
end RB

set_option maxRecDepth 100000
set_option maxHeartbeats 0
namespace RB
open PySem L2 PySem.Spec PyProof.Rows
/-! ### defs with a generator expression: the code object is known -/
structure FunC (K : PySem.W.Frag) (x qual : Str) (st : Stmt) (f : Addr) (fd : FuncData) (c : Addr) : Prop where
  ex : ∃ (oc : Value) (od : Option Addr) (kV doc pm : Value) (an : Option Addr) (ct : Value) (osl : Array (Option Value)),
    fd = PySem.W.fnOf x qual (defArgs st) (defBody st) (defScope st) .none kV doc pm an (.ref c) ct ∧ K.lookup f = some ⟨oc, od, .func fd, osl⟩ ∧ PySem.W.codeIn K (.ref c) qual = true
  kp : (PySem.W.keepIn K (.ref f)) = true
section
variable {P : Program} {w : World} {mg : Str → Option Value} {K : PySem.W.Frag} {base : Heap}
theorem FunC.fn {x qual : Str} {st : Stmt} {f : Addr} {fd : FuncData} {c : Addr} (F : FunC K x qual st f fd c) : Fun K x qual st f fd := by
  obtain ⟨oc, od, kV, doc, pm, an, ct, osl, rfl, lk, hcd⟩ := F.ex
  exact ⟨⟨oc, od, kV, doc, pm, an, _, ct, osl, rfl, lk, hcd⟩, F.kp⟩
theorem FunC.ok {x qual : Str} {st : Stmt} {f : Addr} {fd : FuncData} {c : Addr} {N ps : List Str} {k : Nat} {sp : Sp} (F : FunC K x qual st f fd c) (S : FnScope N ps (defScope st)) (len : ∀ vs H Q E, sp vs H Q E → vs.length = ps.length)
    (hbody : ∀ (A : Around) (outer : List Env) (s : Shared) (H : Hp) (vs : List V) (Q : VK) (E : XK), Room k (A.deeper (envOfC qual (defScope st) s.heap.objs.size f (.ref c))) → sp vs H Q E →
      ∃ t, PSs (cxOf CX0 P w K mg base N qual (defScope st) f (.ref c) A outer s H E).nox (defBody st) t ∧ t { nx := fun _ H' => Q .non H', rt := Q } (start N vs) H) : FnOk P w K mg base CX0 (k + 1) f fd ps sp := by
  obtain ⟨oc, od, kV, doc, pm, an, ct, osl, rfl, lk, hcd⟩ := F.ex
  refine fn_of lk hcd S len fun A outer s H vs Q E room pre => ?_
  obtain ⟨t, h, q⟩ := hbody A outer s H vs Q E room pre
  exact ⟨t, h.nox, q⟩
theorem funC_mk {x qual : Str} {st : Stmt} {f c : Addr} {oc : Value} {od an : Option Addr} {osl : Array (Option Value)} {kV doc pm ct : Value} (l : K.lookup f = some ⟨oc, od, .func (PySem.W.fnOf x qual (defArgs st) (defBody st) (defScope st) .none kV doc pm an (.ref c) ct), osl⟩)
    (h : PySem.W.codeIn K (.ref c) qual = true) (k : PySem.W.keepIn K (.ref f) = true) : FunC K x qual st f (PySem.W.fnOf x qual (defArgs st) (defBody st) (defScope st) .none kV doc pm an (.ref c) ct) c := ⟨⟨oc, od, kV, doc, pm, an, ct, osl, rfl, l, h⟩, k⟩
end
def genC (scope : Scope) (xs : List Str) : Bool :=
  (match scope.kind with | .function => true | _ => false) && !scope.isCoroutine && scope.names.all (fun y => match y.2 with | .cell => false | .free => false | _ => true) &&
    decide (scope.names.lookup (".0" : Str) = some NameKind.local) && xs.all fun x => decide (scope.names.lookup x = some .local)
theorem genC_ok {scope : Scope} {xs : List Str} (h : genC scope xs = true) : scope.kind = .function ∧ scope.isCoroutine = false ∧ (∀ y ∈ scope.names, y.2 ≠ .cell ∧ y.2 ≠ .free) ∧ scope.names.lookup (".0" : Str) = some NameKind.local ∧ ∀ x ∈ xs, scope.names.lookup x = some .local := by
  simp only [genC, Bool.and_eq_true, List.all_eq_true, decide_eq_true_eq] at h
  obtain ⟨⟨⟨⟨h1, h2⟩, h3⟩, h4⟩, h5⟩ := h
  refine ⟨?_, by simpa using h2, fun y hy => ?_, h4, h5⟩
  · split at h1
    · assumption
    · cases h1
  · have q := h3 y hy
    constructor
    · intro e
      rw [e] at q
      cases q
    · intro e
      rw [e] at q
      cases q
theorem genS_by {env : Env} {scope : Scope} {x : Str} (h : genC scope [x] = true) : GxR.GenS env scope x :=
  let ⟨a, b, c, d, e⟩ := genC_ok h
  ⟨a, b, fun y hy => (c y hy).1, d, e x (by simp), fun y hy z => absurd z (c y hy).2⟩
theorem genS2_by {env : Env} {scope : Scope} {x y : Str} (h : genC scope [x, y] = true) (n : x ≠ y) : GenS2 env scope x y :=
  let ⟨a, b, c, d, e⟩ := genC_ok h
  ⟨⟨a, b, fun z hz => (c z hz).1, d, e x (by simp), fun z hz q => absurd q (c z hz).2⟩, e y (by simp), n⟩
section
variable {P : Program} {w : World} {K : PySem.W.Frag} {mg : Str → Option Value} {base : Heap} {ts : List Addr}
theorem bl_t {p : Prop} [Decidable p] (h : p) : V.bl (decide p) = V.bl true := by rw [decide_eq_true h]
theorem bl_f {p : Prop} [Decidable p] (h : ¬ p) : V.bl (decide p) = V.bl false := by rw [decide_eq_false h]
/-! ### is_in -/
def spIsIn : Sp := fun vs H Q _ => ∃ i lo hi : Int, vs = [.int i, .int lo, .int hi] ∧ lo ≤ i ∧ i ≤ hi ∧ Q (.bl true) H
theorem ok_isin {f : Addr} {fd : FuncData} {k : Nat} (F : Fun K "is_in" "is_in" sIsIn f fd) (T : Txt K mg) : FnOk P w K mg base CX0 (k + 1) f fd ["value", "least", "most"] spIsIn := by
  refine F.ok scIsIn (fun vs H Q E h => ?_) (fun cdv A outer s H vs Q E hr h => ?_)
  · obtain ⟨i, lo, hi, rfl, _⟩ := h
    rfl
  · obtain ⟨i, lo, hi, rfl, h1, h2, q⟩ := h
    refine ⟨_, pss_one (ps_ret (pe_and (pe_callB call_isi (by rfl) T.isi (by decide +kernel) (pa_cons (pv 0) (pa_cons (pe_bltn (v := .ty "int") (by rfl) T.int (by decide +kernel) rfl) pa_nil)))
      (pe_and (pe_not (pe_callB call_isi (by rfl) T.isi (by decide +kernel) (pa_cons (pv 0) (pa_cons (pe_bltn (v := .ty "bool") (by rfl) T.bool (by decide +kernel) rfl) pa_nil))))
        (pe_one (pe_chain op_le op_le (pv 1) (pv 0) (pv 2)))))), ?_⟩
    refine ⟨_, rfl, _, _, _, _, true, rfl, .ty _, .base (.int _), kit_ty (by decide +kernel), true, rfl, iteT ?_⟩
    refine ⟨_, rfl, _, _, _, _, false, rfl, .ty _, .base (.int _), kit_ty (by decide +kernel), false, rfl, true, rfl, iteT ?_⟩
    refine ⟨_, rfl, _, rfl, _, _, rfl, rfl, true, bl_t h1, iteT ?_⟩
    refine ⟨_, rfl, _, _, rfl, rfl, ?_⟩
    show Q (.bl (decide (i ≤ hi))) H
    rw [decide_eq_true h2]
    exact q
/-! ### is_memory, is_input -/
def spIsMem (ts : List Addr) : Sp := fun vs H Q _ => ∃ m : M, vs = [.str (tx m)] ∧ 1 ≤ m.length ∧ m.length ≤ 9 ∧ Good ts H ∧ ∀ H', Go ts H H' → Q (.bl true) H'
theorem ok_ismem {f c p : Addr} {fd : FuncData} {k : Nat} (F : FunC K "is_memory" "is_memory" sIsMem f fd c) (T : Txt K mg) (TB : GxR.TabB base mg c p) (hp : p ∈ ts) : FnOk P w K mg base CX0 (k + 1) f fd ["value"] (spIsMem ts) := by
  refine F.ok scIsMem (fun vs H Q E h => ?_) (fun A outer s H vs Q E hr h => ?_)
  · obtain ⟨m, rfl, _⟩ := h
    rfl
  · obtain ⟨m, rfl, h1, h2, g, q⟩ := h
    obtain ⟨t9, m9⟩ := T.mspan
    refine ⟨_, pss_cons (ps_if (PW.pt (pw_or (pt_not (pt_val (pe_callB call_isi (by rfl) T.isi (by decide +kernel) (pa_cons (pv 0) (pa_cons (pe_bltn (v := .ty "str") (by rfl) T.str (by decide +kernel) rfl) pa_nil)))))
        (pw_or1 (pt_not (pt_chain op_le op_le pe_int (pe_callB call_len_str (by rfl) T.len PySem.boot_len (pa_cons (pv 0) pa_nil)) (pe_glob (v := .int 9) (by rfl) m9 ⟨_, rfl⟩))))))
        (pss_one (ps_ret pe_bl)) pss_nil)
      (pss_one (ps_ret (GxR.pe_allS hr (by rfl) T.all (by decide +kernel) TB rfl (genS_by (by decide +kernel)) (pv 0) (elt_in rfl rfl) (fun _ => rfl)))), ?_⟩
    refine ⟨_, rfl, _, _, _, _, true, rfl, .ty _, .base (.str _), kit_ty (by decide +kernel), true, rfl, iteF ?_⟩
    refine ⟨_, rfl, tx m, rfl, by rw [tx_len]; exact small_of (by omega), 1, _, rfl, rfl, true, bl_t (by rw [tx_len]; omega), iteT ?_⟩
    refine ⟨_, _, rfl, rfl, true, bl_t (by rw [tx_len]; omega), iteF ?_⟩
    refine ⟨_, rfl, tx m, rfl, g p hp, fun H2 t2 => ?_⟩
    have e : ((tx m).cps.toList.all fun c => decide (c ∈ ("01" : Str).cps.toList)) = true := by
      rw [lit01, tx_cps, tx_cps]
      refine List.all_eq_true.mpr fun c hc => ?_
      obtain ⟨b, _, rfl⟩ := List.mem_map.mp hc
      cases b <;> decide
    rw [e]
    exact q H2 (Go.tab hp g t2)
/-- an input: only "u" is asked -/
def spIsInp (ts : List Addr) : Sp := fun vs H Q _ => vs = [.str "u"] ∧ Good ts H ∧ ∀ H', Go ts H H' → Q (.bl true) H'
theorem litu : ("u" : Str) = ⟨#[117]⟩ := by decide +kernel
theorem litud : ("ud" : Str) = ⟨#[117, 100]⟩ := by decide +kernel
theorem ok_isinp {f c p : Addr} {fd : FuncData} {k : Nat} (F : FunC K "is_input" "is_input" sIsInp f fd c) (T : Txt K mg) (TB : GxR.TabB base mg c p) (hp : p ∈ ts) : FnOk P w K mg base CX0 (k + 1) f fd ["value"] (spIsInp ts) := by
  refine F.ok scIsInp (fun vs H Q E h => ?_) (fun A outer s H vs Q E hr h => ?_)
  · obtain ⟨rfl, _⟩ := h
    rfl
  · obtain ⟨rfl, g, q⟩ := h
    obtain ⟨t9, m9⟩ := T.msteps
    refine ⟨_, pss_cons (ps_if (PW.pt (pw_or (pt_not (pt_val (pe_callB call_isi (by rfl) T.isi (by decide +kernel) (pa_cons (pv 0) (pa_cons (pe_bltn (v := .ty "str") (by rfl) T.str (by decide +kernel) rfl) pa_nil)))))
        (pw_or1 (pt_cmpR op_gt (pe_callB call_len_str (by rfl) T.len PySem.boot_len (pa_cons (pv 0) pa_nil)) (pe_glob (v := .int 200) (by rfl) m9 ⟨_, rfl⟩) (nomark _)))))
        (pss_one (ps_ret pe_bl)) pss_nil)
      (pss_one (ps_ret (GxR.pe_allS hr (by rfl) T.all (by decide +kernel) TB rfl (genS_by (by decide +kernel)) (pv 0) (elt_in rfl rfl) (fun _ => rfl)))), ?_⟩
    have hl : ("u" : Str).length = 1 := by rw [litu]; rfl
    refine ⟨_, rfl, _, _, _, _, true, rfl, .ty _, .base (.str _), kit_ty (by decide +kernel), true, rfl, iteF ?_⟩
    refine ⟨_, rfl, "u", rfl, by rw [hl]; exact small_of (by omega), _, _, rfl, rfl, false, bl_f (by rw [hl]; decide), iteF ?_⟩
    refine ⟨_, rfl, "u", rfl, g p hp, fun H2 t2 => ?_⟩
    have e : (("u" : Str).cps.toList.all fun c => decide (c ∈ ("ud" : Str).cps.toList)) = true := by
      rw [litu, litud]
      decide
    rw [e]
    exact q H2 (Go.tab hp g t2)
end
end RB

set_option maxRecDepth 100000
set_option maxHeartbeats 0
namespace RB
open PySem L2 PySem.Spec PyProof.Rows
section
variable {P : Program} {w : World} {K : PySem.W.Frag} {mg : Str → Option Value} {base : Heap} {ts : List Addr}
/-! ### need_memory, need_input, need_span, need_pair -/
def spNeedMem (ts : List Addr) : Sp := fun vs H Q _ => ∃ m : M, vs = [.str (tx m)] ∧ 1 ≤ m.length ∧ m.length ≤ 9 ∧ Good ts H ∧ ∀ H', Go ts H H' → Q .non H'
theorem ok_needmem {f fM : Addr} {fd fdM : FuncData} {k : Nat} (F : Fun K "need_memory" "need_memory" sNeedMem f fd)
    (G : FnOk P w K mg base CX0 k fM fdM ["value"] (spIsMem ts)) (kp : PySem.W.keepIn K (.ref fM) = true) (b : Binds K fdM ["value"] []) (g : mg "is_memory" = some (.ref fM)) : FnOk P w K mg base CX0 (k + 1) f fd ["memory"] (spNeedMem ts) := by
  refine F.ok scNeedMem (fun vs H Q E h => ?_) (fun cdv A outer s H vs Q E hr h => ?_)
  · obtain ⟨m, rfl, _⟩ := h
    rfl
  · obtain ⟨m, rfl, h1, h2, gd, q⟩ := h
    refine ⟨_, pss_one (ps_if (pt_not (pt_val (pe_call G hr (by rfl) g kp b .nil pass0 (pa_cons (pv 0) pa_nil)))) (pss_one ps_never) pss_nil), ?_⟩
    exact ⟨_, rfl, m, rfl, h1, h2, gd, fun H' go => ⟨true, rfl, iteF (q H' go)⟩⟩
def spNeedInp (ts : List Addr) : Sp := fun vs H Q _ => vs = [.str "u"] ∧ Good ts H ∧ ∀ H', Go ts H H' → Q .non H'
theorem ok_needinp {f fM : Addr} {fd fdM : FuncData} {k : Nat} (F : Fun K "need_input" "need_input" sNeedInp f fd)
    (G : FnOk P w K mg base CX0 k fM fdM ["value"] (spIsInp ts)) (kp : PySem.W.keepIn K (.ref fM) = true) (b : Binds K fdM ["value"] []) (g : mg "is_input" = some (.ref fM)) : FnOk P w K mg base CX0 (k + 1) f fd ["steps"] (spNeedInp ts) := by
  refine F.ok scNeedInp (fun vs H Q E h => ?_) (fun cdv A outer s H vs Q E hr h => ?_)
  · obtain ⟨rfl, _⟩ := h
    rfl
  · obtain ⟨rfl, gd, q⟩ := h
    refine ⟨_, pss_one (ps_if (pt_not (pt_val (pe_call G hr (by rfl) g kp b .nil pass0 (pa_cons (pv 0) pa_nil)))) (pss_one ps_never) pss_nil), ?_⟩
    exact ⟨_, rfl, rfl, gd, fun H' go => ⟨true, rfl, iteF (q H' go)⟩⟩
def spNeedSpan : Sp := fun vs H Q _ => ∃ n : Nat, vs = [.int n] ∧ 1 ≤ n ∧ n ≤ 9 ∧ Q .non H
theorem ok_needspan {f fM : Addr} {fd fdM : FuncData} {k : Nat} (F : Fun K "need_span" "need_span" sNeedSpan f fd) (T : Txt K mg)
    (G : FnOk P w K mg base CX0 k fM fdM ["value", "least", "most"] spIsIn) (kp : PySem.W.keepIn K (.ref fM) = true) (b : Binds K fdM ["value", "least", "most"] []) (g : mg "is_in" = some (.ref fM)) : FnOk P w K mg base CX0 (k + 1) f fd ["span"] spNeedSpan := by
  refine F.ok scNeedSpan (fun vs H Q E h => ?_) (fun cdv A outer s H vs Q E hr h => ?_)
  · obtain ⟨n, rfl, _⟩ := h
    rfl
  · obtain ⟨n, rfl, h1, h2, q⟩ := h
    obtain ⟨t9, m9⟩ := T.mspan
    refine ⟨_, pss_one (ps_if (pt_not (pt_val (pe_call G hr (by rfl) g kp b .nil pass0 (pa_cons (pv 0) (pa_cons pe_int (pa_cons (pe_glob (v := .int 9) (by rfl) m9 ⟨_, rfl⟩) pa_nil)))))) (pss_one ps_never) pss_nil), ?_⟩
    exact ⟨_, rfl, _, _, _, rfl, by omega, by omega, true, rfl, iteF q⟩
def spNeedPair (ts : List Addr) : Sp := fun vs H Q _ => ∃ m n : M, vs = [.str (tx m), .str (tx n)] ∧ 1 ≤ m.length ∧ m.length ≤ 9 ∧ n.length = m.length ∧ Good ts H ∧ ∀ H', Go ts H H' → Q .non H'
theorem ok_needpair {f fM : Addr} {fd fdM : FuncData} {k : Nat} (F : Fun K "need_pair" "need_pair" sNeedPair f fd) (T : Txt K mg)
    (G : FnOk P w K mg base CX0 k fM fdM ["memory"] (spNeedMem ts)) (kp : PySem.W.keepIn K (.ref fM) = true) (b : Binds K fdM ["memory"] []) (g : mg "need_memory" = some (.ref fM)) : FnOk P w K mg base CX0 (k + 1) f fd ["one", "other"] (spNeedPair ts) := by
  refine F.ok scNeedPair (fun vs H Q E h => ?_) (fun cdv A outer s H vs Q E hr h => ?_)
  · obtain ⟨m, n, rfl, _⟩ := h
    rfl
  · obtain ⟨m, n, rfl, h1, h2, h3, gd, q⟩ := h
    refine ⟨_, pss_cons (ps_expr (pe_call G hr (by rfl) g kp b .nil pass0 (pa_cons (pv 0) pa_nil))) (pss_cons (ps_expr (pe_call G hr (by rfl) g kp b .nil pass0 (pa_cons (pv 1) pa_nil)))
      (pss_one (ps_if (pt_cmpR op_ne (pe_callB call_len_str (by rfl) T.len PySem.boot_len (pa_cons (pv 1) pa_nil)) (pe_callB call_len_str (by rfl) T.len PySem.boot_len (pa_cons (pv 0) pa_nil)) (nomark _)) (pss_one ps_never) pss_nil))), ?_⟩
    refine ⟨_, rfl, m, rfl, h1, h2, gd, fun H1 g1 => ?_⟩
    refine ⟨_, rfl, n, rfl, by omega, by omega, g1.good, fun H2 g2 => ?_⟩
    refine ⟨_, rfl, tx n, rfl, by rw [tx_len]; exact small_of (by omega), _, rfl, tx m, rfl, by rw [tx_len]; exact small_of (by omega), rfl, _, rfl, ?_⟩
    rw [tx_len, tx_len, h3, decide_eq_true rfl]
    exact iteF (q H2 (g1.trans g2))
/-! ### step, behind, after: one step up -/
def spStep (ts : List Addr) : Sp := fun vs H Q _ => ∃ m : M, vs = [.str (tx m), .str "u"] ∧ m.length ≤ 9 ∧ Good ts H ∧ ∀ H', Go ts H H' → Q (.str (tx (upM m))) H'
theorem lastZ_lt {m : M} {k : Nat} (h : lastZ m = some k) : k < m.length := by
  have q := List.mem_of_getLast? h
  unfold places at q
  exact List.mem_range.mp (List.mem_filter.mp q).1
theorem ok_step {f : Addr} {fd : FuncData} {k : Nat} (F : Fun K "step" "step" sStep f fd) (T : Txt K mg) : FnOk P w K mg base CX0 (k + 1) f fd ["memory", "letter"] (spStep ts) := by
  refine F.ok scStep (fun vs H Q E h => ?_) (fun cdv A outer s H vs Q E hr h => ?_)
  · obtain ⟨m, rfl, _⟩ := h
    rfl
  · obtain ⟨m, rfl, h2, gd, q⟩ := h
    refine ⟨_, pss_cons (ps_asg (pe_ifExp (pt_cmpR op_eq (pv 1) pe_str (nomark _)) (pe_tup (pa_cons pe_str (pa_cons pe_str pa_nil))) (pe_tup (pa_cons pe_str (pa_cons pe_str pa_nil))))
        (pg_tup (by rfl) (pgs_cons (pg_name (i := 2) scStep.nd rfl (.inl rfl)) (pgs_cons (pg_name (i := 3) scStep.nd rfl (.inl rfl)) pgs_nil))))
      (pss_cons (ps_set (i := 4) scStep.nd rfl (.inl rfl) (pe_m1 PySem.F.slot_str_rfind PySem.F.type_str_rfind mt_rfind (pv 0) (pv 2)))
      (pss_one (ps_ret (pe_ifExp (pt_cmpR op_lt (pv 4) pe_int (nomark _)) (pv 0)
        (pe_op op_add_str (pe_op op_add_str (pe_slice sl_str (pv 0) po_none (po_some (pv 4))) (pv 3)) (pe_slice sl_str (pv 0) (po_some (pe_op op_add (pv 4) pe_int)) po_none)))))), ?_⟩
    refine ⟨_, rfl, rfl, _, rfl, ?_⟩
    rw [decide_eq_true rfl]
    refine iteT ⟨by show 2 ≤ sizeLine; decide, fun t nt => ?_⟩
    refine ⟨t, _, rfl, .inl (.inl upd_same), rfl, _, _, rfl, _, _, rfl, rfl, ?_⟩
    have go1 : Go ts H (upd H t (.tup [.str "0", .str "1"])) := Go.new gd nt
    refine ⟨_, rfl, ⟨_, rfl⟩, _, rfl, _, _, rfl, rfl, ?_⟩
    have er : Txt.rfind (tx m) "0" = match lastZ m with
      | some k => ((k : Nat) : Int)
      | none => -1 := by
      rw [lit0]
      exact tx_rfind m false
    cases hz : lastZ m with
    | none =>
      rw [hz] at er
      refine ⟨_, rfl, _, _, rfl, rfl, _, rfl, ?_⟩
      rw [er, decide_eq_true (by decide)]
      refine iteT ⟨_, rfl, ?_⟩
      have e : upM m = m := by
        unfold upM
        rw [hz]
      have q2 := q _ go1
      rw [e] at q2
      exact q2
    | some z =>
      rw [hz] at er
      replace er : Txt.rfind (tx m) "0" = ((z : Nat) : Int) := er
      have hlt := lastZ_lt hz
      refine ⟨_, rfl, _, _, rfl, rfl, _, rfl, ?_⟩
      rw [er, decide_eq_false (by show ¬ ((z : Nat) : Int) < 0; omega)]
      refine iteF ⟨_, rfl, _, rfl, _, rfl, tx m, rfl, by rw [tx_len]; exact small_of (by omega), ?_⟩
      show ∃ _, _
      have e1 : cutS (tx m) none (some ((z : Nat) : Int)) = tx (m.take z) := cut_to m z
      have e2 : cutS (tx m) (some (((z : Nat) : Int) + 1)) none = tx (m.drop (z + 1)) := cut_from m (z + 1)
      refine ⟨_, rfl, _, _, rfl, rfl, ?_, _, rfl, _, rfl, _, _, rfl, rfl, _, rfl, tx m, rfl, by rw [tx_len]; exact small_of (by omega), _, _, rfl, rfl, ?_, ?_⟩
      · rw [e1, lit1, tx_len, tx_len, List.length_take]
        exact small_of (by show _ + 1 ≤ 1000; omega)
      · rw [e1, e2, lit1, tx_app, tx_len, tx_len, List.length_append, List.length_take, List.length_drop]
        exact small_of (by show _ + 1 + _ ≤ 1000; omega)
      · rw [e1, e2, lit1, tx_app, tx_app]
        have e : upM m = m.take z ++ [true] ++ m.drop (z + 1) := by
          unfold upM
          rw [hz]
        have q2 := q _ go1
        rw [e] at q2
        exact q2
theorem upM_len (m : M) : (upM m).length = m.length := by
  unfold upM
  cases h : lastZ m with
  | none => rfl
  | some z =>
    have hlt := lastZ_lt h
    simp only [List.length_append, List.length_take, List.length_drop, List.length_cons, List.length_nil]
    omega
theorem ok_behind {f fS : Addr} {fd fdS : FuncData} {k : Nat} (F : Fun K "behind" "behind" sBehind f fd) (T : Txt K mg)
    (G : FnOk P w K mg base CX0 k fS fdS ["memory", "letter"] (spStep ts)) (kp : PySem.W.keepIn K (.ref fS) = true) (b : Binds K fdS ["memory", "letter"] []) (g : mg "step" = some (.ref fS)) : FnOk P w K mg base CX0 (k + 1) f fd ["memory", "steps"] (spStep ts) := by
  refine F.ok scBehind (fun vs H Q E h => ?_) (fun cdv A outer s H vs Q E hr h => ?_)
  · obtain ⟨m, rfl, _⟩ := h
    rfl
  · obtain ⟨m, rfl, h2, gd, q⟩ := h
    refine ⟨_, pss_cons (ps_for PassesOwn.never rfl (pi_str (pv 1)) (pg_name (i := 2) scBehind.nd rfl (.inl rfl)) (pss_one (ps_set (i := 0) scBehind.nd rfl (.inl rfl) (pe_call G hr (by rfl) g kp b .nil pass0 (pa_cons (pv 0) (pa_cons (pv 2) pa_nil))))))
      (pss_one (ps_ret (pv 0))), ?_⟩
    have hu : ("u" : Str).cps.size = 1 := by rw [litu]; rfl
    refine ⟨_, rfl, _, rfl, for_it (walk_str (z := "u")) (fun i σ H' => ∃ y, σ = [some (.str (tx (if i = 0 then m else upM m))), some (.str "u"), y] ∧ Go ts H H') ⟨none, rfl, Go.refl gd⟩ (fun _ _ _ _ _ => trivial) ?_ ?_⟩
    · rintro i x σ H1 H2 hi ⟨y, rfl, go⟩ ⟨rfl, c, hc, rfl⟩
      have hi0 : i = 0 := by omega
      subst hi0
      have ec : c = 117 := by
        rw [litu] at hc
        exact (Option.some.inj hc).symm
      subst ec
      refine ⟨_, rfl, _, rfl, m, ?_, h2, go.good, fun H3 g3 => ⟨_, rfl, go.trans g3⟩⟩
      rw [if_pos rfl, litu]
      rfl
    · rintro σ H1 ⟨y, rfl, go⟩
      rw [hu]
      exact ⟨_, rfl, q H1 go⟩
def spAfter (ts : List Addr) : Sp := fun vs H Q _ => ∃ m : M, vs = [.str (tx m), .str "u"] ∧ 1 ≤ m.length ∧ m.length ≤ 9 ∧ Good ts H ∧ ∀ H', Go ts H H' → Q (.str (tx (upM m))) H'
theorem ok_after {f f1 f2 f3 : Addr} {fd fd1 fd2 fd3 : FuncData} {k : Nat} (F : Fun K "after" "after" sAfter f fd)
    (G1 : FnOk P w K mg base CX0 k f1 fd1 ["memory"] (spNeedMem ts)) (k1 : PySem.W.keepIn K (.ref f1) = true) (b1 : Binds K fd1 ["memory"] []) (g1 : mg "need_memory" = some (.ref f1))
    (G2 : FnOk P w K mg base CX0 k f2 fd2 ["steps"] (spNeedInp ts)) (k2 : PySem.W.keepIn K (.ref f2) = true) (b2 : Binds K fd2 ["steps"] []) (g2 : mg "need_input" = some (.ref f2))
    (G3 : FnOk P w K mg base CX0 k f3 fd3 ["memory", "steps"] (spStep ts)) (k3 : PySem.W.keepIn K (.ref f3) = true) (b3 : Binds K fd3 ["memory", "steps"] []) (g3 : mg "behind" = some (.ref f3)) :
    FnOk P w K mg base CX0 (k + 1) f fd ["memory", "steps"] (spAfter ts) := by
  refine F.ok scAfter (fun vs H Q E h => ?_) (fun cdv A outer s H vs Q E hr h => ?_)
  · obtain ⟨m, rfl, _⟩ := h
    rfl
  · obtain ⟨m, rfl, h1, h2, gd, q⟩ := h
    refine ⟨_, pss_cons (ps_expr (pe_call G1 hr (by rfl) g1 k1 b1 .nil pass0 (pa_cons (pv 0) pa_nil))) (pss_cons (ps_expr (pe_call G2 hr (by rfl) g2 k2 b2 .nil pass0 (pa_cons (pv 1) pa_nil)))
      (pss_one (ps_ret (pe_call G3 hr (by rfl) g3 k3 b3 .nil pass0 (pa_cons (pv 0) (pa_cons (pv 1) pa_nil)))))), ?_⟩
    refine ⟨_, rfl, m, rfl, h1, h2, gd, fun H1 go1 => ⟨_, rfl, rfl, go1.good, fun H2 go2 => ?_⟩⟩
    exact ⟨_, rfl, _, rfl, m, rfl, h2, go2.good, fun H3 go3 => q H3 (go1.trans (go2.trans go3))⟩
end
end RB

set_option maxRecDepth 100000
set_option maxHeartbeats 0
namespace RB
open PySem L2 PySem.Spec PyProof.Rows
theorem ci_len (m : M) : (ci m).length = m.length := by simp [ci]
theorem ci_get {m : M} {i : Nat} (h : i < m.length) : (ci m)[i]? = some ((cntB (m.take (i + 1)) : Nat) : Int) := by
  unfold ci
  rw [List.getElem?_map, List.getElem?_range h]
  rfl
theorem take_snoc {α : Type} {xs : List α} {i : Nat} {x : α} (h : xs[i]? = some x) : xs.take (i + 1) = xs.take i ++ [x] := by
  rw [List.take_add_one, h]
  rfl
/-- the last one, or b -/
def lastI (b : Int) (xs : List Int) : Int := xs.getLast?.getD b
theorem lastI_snoc (b : Int) (xs : List Int) (x : Int) : lastI b (xs ++ [x]) = x := by simp [lastI]
theorem fcI_snoc : ∀ (b : Int) (xs : List Int) (x : Int), fcI b (xs ++ [x]) = fcI b xs ++ [decide (lastI b xs < x)]
  | b, [], x => rfl
  | b, y :: xs, x => by
    show decide (b < y) :: fcI y (xs ++ [x]) = decide (b < y) :: (fcI y xs ++ [decide (lastI b (y :: xs) < x)])
    rw [fcI_snoc y xs x]
    have e : lastI b (y :: xs) = lastI y xs := by
      unfold lastI
      cases xs with
      | nil => rfl
      | cons z r => rw [List.getLast?_cons_cons, List.getLast?_eq_some_getLast (List.cons_ne_nil z r)]; rfl
    rw [e]
theorem fcI_len : ∀ (b : Int) (xs : List Int), (fcI b xs).length = xs.length
  | _, [] => rfl
  | b, x :: xs => by
    show (fcI x xs).length + 1 = xs.length + 1
    rw [fcI_len x xs]
section
variable {P : Program} {w : World} {K : PySem.W.Frag} {mg : Str → Option Value} {base : Heap} {ts : List Addr}
/-! ### counts, below, is_below -/
def spCounts (ts : List Addr) : Sp := fun vs H Q _ => ∃ m : M, vs = [.str (tx m)] ∧ m.length ≤ 9 ∧ Good ts H ∧ ∀ H' D, Go ts H H' → H D = none → H' D = some (.lst ((ci m).map V.int)) → Q (.ref D) H'
theorem ok_counts {f : Addr} {fd : FuncData} {k : Nat} (F : Fun K "counts" "counts" sCounts f fd) (T : Txt K mg) : FnOk P w K mg base CX0 (k + 1) f fd ["memory"] (spCounts ts) := by
  refine F.ok scCounts (fun vs H Q E h => ?_) (fun cdv A outer s H vs Q E hr h => ?_)
  · obtain ⟨m, rfl, _⟩ := h
    rfl
  · obtain ⟨m, rfl, h2, gd, q⟩ := h
    refine ⟨_, pss_one (ps_ret (pe_lc (own := [("k", 1)]) (g := gName 1) (tt := tYes) rfl scCounts.nd (pi_range1 (by rfl) T.range (pa_cons (pe_callB call_len_str (by rfl) T.len PySem.boot_len (pa_cons (pv 0) pa_nil)) pa_nil))
      (blkOk_by (N := ["memory", "k"]) (sc := defScope sCounts) (by decide +kernel)) (fun _ _ _ _ _ => pg_name (i := 1) scCounts.nd rfl (Or.inl rfl)) (fun _ _ _ _ _ => pts_nil)
      (fun _ _ _ _ _ => pe_m1 PySem.F.slot_str_count PySem.F.type_str_count mt_count (pe_slice sl_str (pv 0) po_none (po_some (pe_op op_add (pv 1) pe_int))) pe_str))), ?_⟩
    refine ⟨_, rfl, tx m, rfl, by rw [tx_len]; exact small_of (by omega), _, rfl, by rw [tx_len]; omega, by rw [tx_len]; omega, fun D nD => lc_range (fun i H' => Go ts H H' ∧ H' D = some (.lst (((ci m).take i).map V.int))) ⟨Go.new gd nD, upd_same⟩ ?_ ?_⟩
    · rintro i H1 hi ⟨go, hD⟩
      have hi2 : i < m.length := by rw [← tx_len m]; exact hi
      refine ⟨rfl, _, rfl, _, rfl, _, _, rfl, rfl, _, rfl, tx m, rfl, by rw [tx_len]; exact small_of (by omega), ⟨_, rfl⟩, _, _, rfl, rfl, _, hD, ?_, ?_⟩
      · rw [List.length_map, List.length_take, ci_len]
        exact small1000 (by omega)
      · have e : cutS (tx m) none (some (0 + (i : Int) + 1)) = tx (m.take (i + 1)) := by
          rw [show (0 + (i : Int) + 1) = ((i + 1 : Nat) : Int) by omega]
          exact cut_to m (i + 1)
        refine ⟨go.over gd nD (gd.nin nD), ?_⟩
        rw [upd_same, e, lit1, tx_count, take_snoc (ci_get hi2), List.map_append]
        rfl
    · rintro H1 ⟨go, hD⟩
      refine q H1 D go nD ?_
      have e : (ci m).take (((tx m).length : Int)).toNat = ci m := List.take_of_length_le (by rw [ci_len, tx_len]; exact Nat.le_refl _)
      rw [e] at hD
      exact hD
def spBelow (ts : List Addr) : Sp := fun vs H Q _ => ∃ m n : M, vs = [.str (tx m), .str (tx n)] ∧ m.length ≤ 9 ∧ n.length ≤ 9 ∧ Good ts H ∧ ∀ H', Go ts H H' → Q (.bl (belowB m n)) H'
theorem ok_below {f c p fC : Addr} {fd fdC : FuncData} {k : Nat} (F : FunC K "below" "below" sBelow f fd c) (T : Txt K mg) (TB : GxR.TabB base mg c p) (hp : p ∈ ts)
    (G : FnOk P w K mg base CX0 k fC fdC ["memory"] (spCounts ts)) (kp : PySem.W.keepIn K (.ref fC) = true) (b : Binds K fdC ["memory"] []) (g : mg "counts" = some (.ref fC)) : FnOk P w K mg base CX0 (k + 1) f fd ["one", "other"] (spBelow ts) := by
  refine F.ok scBelow (fun vs H Q E h => ?_) (fun A outer s H vs Q E hr h => ?_)
  · obtain ⟨m, n, rfl, _⟩ := h
    rfl
  · obtain ⟨m, n, rfl, h1, h2, gd, q⟩ := h
    refine ⟨_, pss_one (ps_ret (pe_allZ hr (by rfl) T.all (by decide +kernel) (by rfl) T.zip TB rfl (genS2_by (by decide +kernel) (by decide +kernel))
      (pa_cons (pe_call G hr (by rfl) g kp b .nil pass0 (pa_cons (pv 0) pa_nil)) (pa_cons (pe_call G hr (by rfl) g kp b .nil pass0 (pa_cons (pv 1) pa_nil)) pa_nil)) (elt_le rfl rfl rfl) (fun _ => rfl))), ?_⟩
    refine ⟨_, rfl, m, rfl, h1, gd, fun H1 D1 go1 n1 e1 => ⟨_, rfl, n, rfl, h2, go1.good, fun H2 D2 go2 n2 e2 => ?_⟩⟩
    exact ⟨D1, D2, ci m, ci n, rfl, SqL.of (go2.lst go1.good e1), SqL.of e2, go2.good p hp, fun H3 t3 => q H3 (go1.trans (go2.trans (Go.tab hp go2.good t3)))⟩
def spIsBelow (ts : List Addr) : Sp := fun vs H Q _ => ∃ m n : M, vs = [.str (tx m), .str (tx n)] ∧ 1 ≤ m.length ∧ m.length ≤ 9 ∧ n.length = m.length ∧ Good ts H ∧ ∀ H', Go ts H H' → Q (.bl (belowB m n)) H'
theorem ok_isbelow {f f1 f2 : Addr} {fd fd1 fd2 : FuncData} {k : Nat} (F : Fun K "is_below" "is_below" sIsBelow f fd)
    (G1 : FnOk P w K mg base CX0 k f1 fd1 ["one", "other"] (spNeedPair ts)) (k1 : PySem.W.keepIn K (.ref f1) = true) (b1 : Binds K fd1 ["one", "other"] []) (g1 : mg "need_pair" = some (.ref f1))
    (G2 : FnOk P w K mg base CX0 k f2 fd2 ["one", "other"] (spBelow ts)) (k2 : PySem.W.keepIn K (.ref f2) = true) (b2 : Binds K fd2 ["one", "other"] []) (g2 : mg "below" = some (.ref f2)) :
    FnOk P w K mg base CX0 (k + 1) f fd ["one", "other"] (spIsBelow ts) := by
  refine F.ok scIsBelow (fun vs H Q E h => ?_) (fun cdv A outer s H vs Q E hr h => ?_)
  · obtain ⟨m, n, rfl, _⟩ := h
    rfl
  · obtain ⟨m, n, rfl, h1, h2, h3, gd, q⟩ := h
    refine ⟨_, pss_cons (ps_expr (pe_call G1 hr (by rfl) g1 k1 b1 .nil pass0 (pa_cons (pv 0) (pa_cons (pv 1) pa_nil)))) (pss_one (ps_ret (pe_call G2 hr (by rfl) g2 k2 b2 .nil pass0 (pa_cons (pv 0) (pa_cons (pv 1) pa_nil))))), ?_⟩
    exact ⟨_, rfl, _, rfl, m, n, rfl, h1, h2, h3, gd, fun H1 go1 => ⟨_, rfl, _, rfl, m, n, rfl, h2, by omega, go1.good, fun H2 go2 => q H2 (go1.trans go2)⟩⟩
/-! ### from_counts, meet, join -/
def spFromC (K : PySem.W.Frag) (ts : List Addr) : Sp := fun vs H Q _ => ∃ (a : Addr) (ns : List Int), vs = [.ref a] ∧ SqL K H a (ns.map V.int) ∧ ns.length ≤ 9 ∧ Good ts H ∧ ∀ H', Go ts H H' → Q (.str (tx (fcI 0 ns))) H'
theorem ok_fromc {f : Addr} {fd : FuncData} {k : Nat} (F : Fun K "from_counts" "from_counts" sFromC f fd) : FnOk P w K mg base CX0 (k + 1) f fd ["some"] (spFromC K ts) := by
  refine F.ok scFromC (fun vs H Q E h => ?_) (fun cdv A outer s H vs Q E hr h => ?_)
  · obtain ⟨a, ns, rfl, _⟩ := h
    rfl
  · obtain ⟨a, ns, rfl, hS, h2, gd, q⟩ := h
    refine ⟨_, pss_cons (ps_asg (pe_tup (pa_cons pe_str (pa_cons pe_int pa_nil))) (pg_tup (by rfl) (pgs_cons (pg_name (i := 1) scFromC.nd rfl (.inl rfl)) (pgs_cons (pg_name (i := 2) scFromC.nd rfl (.inl rfl)) pgs_nil))))
      (pss_cons (ps_for PassesOwn.never rfl (pi_list (pv 0)) (pg_name (i := 3) scFromC.nd rfl (.inl rfl))
        (pss_cons (ps_set (i := 1) scFromC.nd rfl (.inl rfl) (pe_op op_add_str (pv 1) (pe_ifExp (pt_cmpR op_gt (pv 3) (pv 2) (nomark _)) pe_str pe_str)))
        (pss_one (ps_set (i := 2) scFromC.nd rfl (.inl rfl) (pv 3)))))
      (pss_one (ps_ret (pv 1)))), ?_⟩
    refine ⟨by show 2 ≤ sizeLine; decide, fun t nt => ?_⟩
    have go0 : Go ts H (upd H t (.tup [.str "", .int 0])) := Go.new gd nt
    refine ⟨t, _, rfl, .inl (.inl upd_same), rfl, _, _, rfl, _, _, rfl, rfl, ?_⟩
    refine ⟨_, rfl, a, rfl, ⟨_, go0.seq gd hS⟩, for_list (K := K) (a := a) (xs := ns.map V.int) (fun i σ H' => ∃ y, σ = [some (.ref a), some (.str (tx (fcI 0 (ns.take i)))), some (.int (lastI 0 (ns.take i))), y] ∧ Go ts H H') ⟨none, by rw [lit]; rfl, go0⟩ (fun i σ H' _ ⟨_, _, e⟩ => e.seq gd hS) ?_ ?_⟩
    · rintro i y σ H1 hi ⟨z, rfl, go⟩
      obtain ⟨x, hx, rfl⟩ : ∃ x, ns[i]? = some x ∧ y = V.int x := by
        rw [List.getElem?_map] at hi
        cases e : ns[i]? with
        | none => rw [e] at hi; cases hi
        | some x =>
          rw [e] at hi
          exact ⟨x, rfl, (Option.some.inj hi).symm⟩
      have il : i < ns.length := (List.getElem?_eq_some_iff.mp hx).1
      have sz : ∀ b : Bool, (tx (fcI 0 (ns.take i))).length + (tx [b]).length ≤ sizeLine := fun b => by
        rw [tx_len, tx_len, fcI_len, List.length_take]
        exact small_of (by show _ + 1 ≤ 1000; omega)
      have fin : ∀ b : Bool, b = decide (lastI 0 (ns.take i) < x) → tx (fcI 0 (ns.take i)) ++ tx [b] = tx (fcI 0 (ns.take (i + 1))) := fun b hb => by
        rw [tx_app, take_snoc hx, fcI_snoc, hb]
      refine ⟨_, rfl, _, rfl, _, rfl, _, _, rfl, rfl, _, rfl, ite2 (fun hlt => ?_) (fun hlt => ?_)⟩
      · refine ⟨_, _, rfl, rfl, by rw [lit1]; exact sz true, _, rfl, some (.int x), ?_, go⟩
        rw [lit1, fin true hlt.symm, take_snoc hx, lastI_snoc]
        rfl
      · have hf : decide (lastI 0 (ns.take i) < x) = false := by simpa using hlt
        refine ⟨_, _, rfl, rfl, by rw [lit0]; exact sz false, _, rfl, some (.int x), ?_, go⟩
        rw [lit0, fin false hf.symm, take_snoc hx, lastI_snoc]
        rfl
    · rintro σ H1 ⟨z, rfl, go⟩
      refine ⟨_, rfl, ?_⟩
      have e : ns.take (ns.map V.int).length = ns := List.take_of_length_le (by rw [List.length_map]; exact Nat.le_refl _)
      rw [e]
      exact q _ go
end
end RB

set_option maxRecDepth 100000
set_option maxHeartbeats 0
namespace RB
open PySem L2 PySem.Spec PyProof.Rows StX
theorem ints_get {ns : List Int} {i : Nat} {v : V} (h : (ns.map V.int)[i]? = some v) : ∃ x, ns[i]? = some x ∧ v = V.int x := by
  rw [List.getElem?_map] at h
  cases e : ns[i]? with
  | none =>
    rw [e] at h
    cases h
  | some x =>
    rw [e] at h
    exact ⟨x, rfl, (Option.some.inj h).symm⟩
theorem zip_get {ns ms : List Int} {i : Nat} {a b : Int} (h : ns[i]? = some a) (h' : ms[i]? = some b) : (ns.zip ms)[i]? = some (a, b) := by
  rw [List.getElem?_zip_eq_some]
  exact ⟨h, h'⟩
/-- min, max of two, item by item -/
def zl (op : Int → Int → Int) (xs ys : List Int) : List Int := (xs.zip ys).map fun p => op p.1 p.2
theorem zl_len {op : Int → Int → Int} {xs ys : List Int} : (zl op xs ys).length = min xs.length ys.length := by simp [zl]
theorem zl_snoc {op : Int → Int → Int} {xs ys : List Int} {i : Nat} {a b : Int} (h : xs[i]? = some a) (h' : ys[i]? = some b) : (zl op xs ys).take (i + 1) = (zl op xs ys).take i ++ [op a b] := by
  refine take_snoc ?_
  unfold zl
  rw [List.getElem?_map, zip_get h h']
  rfl
section
variable {P : Program} {w : World} {K : PySem.W.Frag} {mg : Str → Option Value} {base : Heap} {ts : List Addr}
/-- what [op(a, b) for a, b in zip(xs, ys)] reads, xs at D1, ys at D2 -/
theorem lc_zip2 {op : Int → Int → Int} {K : PySem.W.Frag} {H1 : Hp} {D1 D2 D : Addr} {xs ys : List Int} {vs : List Nat} {σ : L2.St} {g : TG} {te : TE} {Qd : Hp → Prop} (gd : Good ts H1) (h1 : SqL K H1 D1 (xs.map V.int)) (h2 : SqL K H1 D2 (ys.map V.int)) (hx : xs.length ≤ 1000) (hl : ys.length = xs.length) (nD : H1 D = none)
    (hs : ∀ (T : Addr) (a b : Int) (H2 : Hp) (Nx : V → Hp → Prop), H2 T = some (.tup [.int a, .int b]) → Good ts H2 → (∀ y H3, y = V.int (op a b) → H3 = H2 → Nx y H3) → g (.ref T) (wipe σ vs) H2 fun σ2 H2 => wipe σ2 vs = wipe σ vs ∧ te σ2 H2 Nx)
    (hd : ∀ H', Go ts H1 H' → H' D = some (.lst ((zl op xs ys).map V.int)) → Qd H') :
    ∃ inv : Nat → Nat → Hp → Prop, (∃ n, inv 0 n (upd H1 D (.lst []))) ∧ ∀ j n Hj, inv j n Hj →
      ((Itz K D1 D2).stop j Hj ∧ Qd Hj) ∨ ((Itz K D1 D2).go j Hj ∧ ∃ Nx : Hp → Prop, (∀ Ha, Nx Ha → ∃ n2, n2 < n ∧ inv (j + 1) n2 Ha) ∧ ∀ x Ha, (Itz K D1 D2).yld j Hj x Ha → g x (wipe σ vs) Ha fun σ2 Hb => wipe σ2 vs = wipe σ vs ∧ tYes σ2 Hb fun yes Hc =>
        if yes = true then te σ2 Hc fun y Hd => ∃ out, Hd D = some (.lst out) ∧ out.length < sizeLine ∧ Nx (upd Hd D (.lst (out ++ [y]))) else Nx Hc) := by
  refine lc_it (walk_zip (K := K) (a := D1) (b := D2) (xs := xs.map V.int) (ys := ys.map V.int) rfl) (fun i H' => Go ts H1 H' ∧ H' D = some (.lst (((zl op xs ys).take i).map V.int))) ⟨Go.new gd nD, upd_same⟩ (fun i H' _ ⟨go, _⟩ => ⟨go.seq gd h1, go.seq gd h2⟩) ?_ ?_
  · rintro i x H2 H3 hi ⟨go, hD⟩ ⟨T, a, b, rfl, nT, rfl, ha, hb⟩
    obtain ⟨a', ea, rfl⟩ := ints_get ha
    obtain ⟨b', eb, rfl⟩ := ints_get hb
    have nDT : D ≠ T := ne_of_none hD nT
    refine hs T a' b' _ _ upd_same (go.good.new nT) fun y H4 ey eh => ?_
    subst ey eh
    refine ⟨_, by rw [upd_ne nDT]; exact hD, ?_, (go.trans (Go.new go.good nT)).over gd nD (gd.nin nD), ?_⟩
    · rw [List.length_map, List.length_take, zl_len]
      exact small1000 (by omega)
    · rw [upd_same, zl_snoc ea eb, List.map_append]
      rfl
  · rintro H2 ⟨go, hD⟩
    have e : (zl op xs ys).take (min (xs.map V.int).length (ys.map V.int).length) = zl op xs ys := List.take_of_length_le (by rw [zl_len, List.length_map, List.length_map]; exact Nat.le_refl _)
    rw [e] at hD
    exact hd H2 go hD
def spMeet (ts : List Addr) (r : M → M → M) : Sp := fun vs H Q _ => ∃ m n : M, vs = [.str (tx m), .str (tx n)] ∧ 1 ≤ m.length ∧ m.length ≤ 9 ∧ n.length = m.length ∧ Good ts H ∧ ∀ H', Go ts H H' → Q (.str (tx (r m n))) H'
theorem ok_meet {f f1 f2 f3 : Addr} {fd fd1 fd2 fd3 : FuncData} {k : Nat} (F : Fun K "meet" "meet" sMeet f fd) (T : Txt K mg)
    (G1 : FnOk P w K mg base CX0 k f1 fd1 ["one", "other"] (spNeedPair ts)) (k1 : PySem.W.keepIn K (.ref f1) = true) (b1 : Binds K fd1 ["one", "other"] []) (g1 : mg "need_pair" = some (.ref f1))
    (G2 : FnOk P w K mg base CX0 k f2 fd2 ["memory"] (spCounts ts)) (k2 : PySem.W.keepIn K (.ref f2) = true) (b2 : Binds K fd2 ["memory"] []) (g2 : mg "counts" = some (.ref f2))
    (G3 : FnOk P w K mg base CX0 k f3 fd3 ["some"] (spFromC K ts)) (k3 : PySem.W.keepIn K (.ref f3) = true) (b3 : Binds K fd3 ["some"] []) (g3 : mg "from_counts" = some (.ref f3)) :
    FnOk P w K mg base CX0 (k + 1) f fd ["one", "other"] (spMeet ts meetM) := by
  refine F.ok scMeet (fun vs H Q E h => ?_) (fun cdv A outer s H vs Q E hr h => ?_)
  · obtain ⟨m, n, rfl, _⟩ := h
    rfl
  · obtain ⟨m, n, rfl, h1, h2, h3, gd, q⟩ := h
    refine ⟨_, pss_cons (ps_expr (pe_call G1 hr (by rfl) g1 k1 b1 .nil pass0 (pa_cons (pv 0) (pa_cons (pv 1) pa_nil))))
      (pss_one (ps_ret (pe_call G3 hr (by rfl) g3 k3 b3 .nil pass0 (pa_cons
        (pe_lc (own := [("a", 2), ("b", 3)]) (g := gTup K 2 (gCons (gName 2) (gCons (gName 3) gNil))) (tt := tYes) rfl scMeet.nd
          (pi_zip (by rfl) T.zip (pa_cons (pe_call G2 hr (by rfl) g2 k2 b2 .nil pass0 (pa_cons (pv 0) pa_nil)) (pa_cons (pe_call G2 hr (by rfl) g2 k2 b2 .nil pass0 (pa_cons (pv 1) pa_nil)) pa_nil)))
          (blkOk_by (N := ["one", "other", "a", "b"]) (sc := defScope sMeet) (by decide +kernel))
          (fun _ _ _ _ _ => pg_tup (by rfl) (pgs_cons (pg_name (i := 2) scMeet.nd rfl (Or.inl rfl)) (pgs_cons (pg_name (i := 3) scMeet.nd rfl (Or.inl rfl)) pgs_nil)))
          (fun _ _ _ _ _ => pts_nil) (fun _ _ _ _ _ => pe_callB (call_min2 (by rfl)) (by rfl) T.min (by decide +kernel) (pa_cons (pv 2) (pa_cons (pv 3) pa_nil)))) pa_nil)))), ?_⟩
    refine ⟨_, rfl, _, rfl, m, n, rfl, h1, h2, h3, gd, fun H1 go1 => ?_⟩
    refine ⟨_, rfl, m, rfl, h2, go1.good, fun H2 D1 go2 n1 e1 => ⟨_, rfl, n, rfl, by omega, go2.good, fun H3 D2 go3 n2 e2 => ⟨D1, D2, _, _, rfl, SqL.of (go3.lst go2.good e1), SqL.of e2, fun D nD => ?_⟩⟩⟩
    refine lc_zip2 (op := fun a b => if b < a then b else a) go3.good (SqL.of (go3.lst go2.good e1)) (SqL.of e2) (by rw [ci_len]; omega) (by rw [ci_len, ci_len]; omega) nD ?_ ?_
    · intro T a b H4 Nx hT g4 hN
      exact ⟨T, _, rfl, .inl (.inl hT), rfl, _, _, rfl, _, _, rfl, rfl, rfl, _, rfl, _, rfl, a, b, rfl, hN _ _ rfl rfl⟩
    · intro H4 go4 hD
      exact ⟨D, _, rfl, SqL.of hD, by rw [zl_len, ci_len, ci_len]; omega, go4.good, fun H5 go5 => q H5 (go1.trans (go2.trans (go3.trans (go4.trans go5))))⟩
theorem ok_join {f f1 f2 f3 : Addr} {fd fd1 fd2 fd3 : FuncData} {k : Nat} (F : Fun K "join" "join" sJoin f fd) (T : Txt K mg)
    (G1 : FnOk P w K mg base CX0 k f1 fd1 ["one", "other"] (spNeedPair ts)) (k1 : PySem.W.keepIn K (.ref f1) = true) (b1 : Binds K fd1 ["one", "other"] []) (g1 : mg "need_pair" = some (.ref f1))
    (G2 : FnOk P w K mg base CX0 k f2 fd2 ["memory"] (spCounts ts)) (k2 : PySem.W.keepIn K (.ref f2) = true) (b2 : Binds K fd2 ["memory"] []) (g2 : mg "counts" = some (.ref f2))
    (G3 : FnOk P w K mg base CX0 k f3 fd3 ["some"] (spFromC K ts)) (k3 : PySem.W.keepIn K (.ref f3) = true) (b3 : Binds K fd3 ["some"] []) (g3 : mg "from_counts" = some (.ref f3)) :
    FnOk P w K mg base CX0 (k + 1) f fd ["one", "other"] (spMeet ts joinM) := by
  refine F.ok scJoin (fun vs H Q E h => ?_) (fun cdv A outer s H vs Q E hr h => ?_)
  · obtain ⟨m, n, rfl, _⟩ := h
    rfl
  · obtain ⟨m, n, rfl, h1, h2, h3, gd, q⟩ := h
    refine ⟨_, pss_cons (ps_expr (pe_call G1 hr (by rfl) g1 k1 b1 .nil pass0 (pa_cons (pv 0) (pa_cons (pv 1) pa_nil))))
      (pss_one (ps_ret (pe_call G3 hr (by rfl) g3 k3 b3 .nil pass0 (pa_cons
        (pe_lc (own := [("a", 2), ("b", 3)]) (g := gTup K 2 (gCons (gName 2) (gCons (gName 3) gNil))) (tt := tYes) rfl scJoin.nd
          (pi_zip (by rfl) T.zip (pa_cons (pe_call G2 hr (by rfl) g2 k2 b2 .nil pass0 (pa_cons (pv 0) pa_nil)) (pa_cons (pe_call G2 hr (by rfl) g2 k2 b2 .nil pass0 (pa_cons (pv 1) pa_nil)) pa_nil)))
          (blkOk_by (N := ["one", "other", "a", "b"]) (sc := defScope sJoin) (by decide +kernel))
          (fun _ _ _ _ _ => pg_tup (by rfl) (pgs_cons (pg_name (i := 2) scJoin.nd rfl (Or.inl rfl)) (pgs_cons (pg_name (i := 3) scJoin.nd rfl (Or.inl rfl)) pgs_nil)))
          (fun _ _ _ _ _ => pts_nil) (fun _ _ _ _ _ => pe_callB (call_max2 (by rfl)) (by rfl) T.max (by decide +kernel) (pa_cons (pv 2) (pa_cons (pv 3) pa_nil)))) pa_nil)))), ?_⟩
    refine ⟨_, rfl, _, rfl, m, n, rfl, h1, h2, h3, gd, fun H1 go1 => ?_⟩
    refine ⟨_, rfl, m, rfl, h2, go1.good, fun H2 D1 go2 n1 e1 => ⟨_, rfl, n, rfl, by omega, go2.good, fun H3 D2 go3 n2 e2 => ⟨D1, D2, _, _, rfl, SqL.of (go3.lst go2.good e1), SqL.of e2, fun D nD => ?_⟩⟩⟩
    refine lc_zip2 (op := fun a b => if b > a then b else a) go3.good (SqL.of (go3.lst go2.good e1)) (SqL.of e2) (by rw [ci_len]; omega) (by rw [ci_len, ci_len]; omega) nD ?_ ?_
    · intro T a b H4 Nx hT g4 hN
      exact ⟨T, _, rfl, .inl (.inl hT), rfl, _, _, rfl, _, _, rfl, rfl, rfl, _, rfl, _, rfl, a, b, rfl, hN _ _ rfl rfl⟩
    · intro H4 go4 hD
      exact ⟨D, _, rfl, SqL.of hD, by rw [zl_len, ci_len, ci_len]; omega, go4.good, fun H5 go5 => q H5 (go1.trans (go2.trans (go3.trans (go4.trans go5))))⟩
/-! ### rank_of, rank -/
def spRankOf (ts : List Addr) : Sp := fun vs H Q _ => ∃ m : M, vs = [.str (tx m)] ∧ 1 ≤ m.length ∧ m.length ≤ 9 ∧ Good ts H ∧ ∀ H', Go ts H H' → Q (.int (rankI m)) H'
theorem ok_rankof {f f1 : Addr} {fd fd1 : FuncData} {k : Nat} (F : Fun K "rank_of" "rank_of" sRankOf f fd) (T : Txt K mg)
    (G1 : FnOk P w K mg base CX0 k f1 fd1 ["memory"] (spCounts ts)) (k1 : PySem.W.keepIn K (.ref f1) = true) (b1 : Binds K fd1 ["memory"] []) (g1 : mg "counts" = some (.ref f1)) :
    FnOk P w K mg base CX0 (k + 1) f fd ["memory"] (spRankOf ts) := by
  refine F.ok scRankOf (fun vs H Q E h => ?_) (fun cdv A outer s H vs Q E hr h => ?_)
  · obtain ⟨m, rfl, _⟩ := h
    rfl
  · obtain ⟨m, rfl, h1, h2, gd, q⟩ := h
    refine ⟨_, pss_one (ps_ret (pe_callB (cr_sum rfl) (by rfl) T.sum (by decide +kernel) (pa_cons (pe_call G1 hr (by rfl) g1 k1 b1 .nil pass0 (pa_cons (pv 0) pa_nil)) pa_nil))), ?_⟩
    exact ⟨_, rfl, m, rfl, h2, gd, fun H1 D1 go1 n1 e1 => ⟨D1, ci m, rfl, SqL.of e1, q H1 go1⟩⟩
theorem ok_rank {f f1 f2 : Addr} {fd fd1 fd2 : FuncData} {k : Nat} (F : Fun K "rank" "rank" sRank f fd) (T : Txt K mg)
    (G1 : FnOk P w K mg base CX0 k f1 fd1 ["memory"] (spNeedMem ts)) (k1 : PySem.W.keepIn K (.ref f1) = true) (b1 : Binds K fd1 ["memory"] []) (g1 : mg "need_memory" = some (.ref f1))
    (G2 : FnOk P w K mg base CX0 k f2 fd2 ["memory"] (spRankOf ts)) (k2 : PySem.W.keepIn K (.ref f2) = true) (b2 : Binds K fd2 ["memory"] []) (g2 : mg "rank_of" = some (.ref f2)) :
    FnOk P w K mg base CX0 (k + 1) f fd ["memory"] (spRankOf ts) := by
  refine F.ok scRank (fun vs H Q E h => ?_) (fun cdv A outer s H vs Q E hr h => ?_)
  · obtain ⟨m, rfl, _⟩ := h
    rfl
  · obtain ⟨m, rfl, h1, h2, gd, q⟩ := h
    refine ⟨_, pss_cons (ps_expr (pe_call G1 hr (by rfl) g1 k1 b1 .nil pass0 (pa_cons (pv 0) pa_nil))) (pss_one (ps_ret (pe_call G2 hr (by rfl) g2 k2 b2 .nil pass0 (pa_cons (pv 0) pa_nil)))), ?_⟩
    exact ⟨_, rfl, m, rfl, h1, h2, gd, fun H1 go1 => ⟨_, rfl, m, rfl, h1, h2, go1.good, fun H2 go2 => q H2 (go1.trans go2)⟩⟩
end
end RB

set_option maxRecDepth 100000
set_option maxHeartbeats 0
namespace RB
open PySem L2 PySem.Spec PyProof.Rows StX
theorem byRank_len : ∀ n : Nat, (byRank n).length ≤ 1 + n * n
  | 0 => by show 1 ≤ _; omega
  | n + 1 => by
    have ih := byRank_len n
    show (((byRank n ++ List.replicate (n + 1) 0).zip (List.replicate (n + 1) 0 ++ byRank n)).map fun (p : Int × Int) => p.1 + p.2).length ≤ _
    rw [List.length_map, List.length_zip, List.length_append, List.length_append, List.length_replicate]
    have e : (n + 1) * (n + 1) = n * n + 2 * n + 1 := by
      rw [Nat.add_mul, Nat.mul_add]
      omega
    rw [e]
    omega
theorem byRank_small {n : Nat} (h : n ≤ 9) : (byRank n).length ≤ 82 := Nat.le_trans (byRank_len n) (by
  have : n * n ≤ 9 * 9 := Nat.mul_le_mul h h
  omega)
section
variable {P : Program} {w : World} {K : PySem.W.Frag} {mg : Str → Option Value} {base : Heap} {ts : List Addr}
/-! ### counts_by_rank, rank_counts, rank_width -/
def spByRank (ts : List Addr) : Sp := fun vs H Q _ => ∃ n : Nat, vs = [.int n] ∧ n ≤ 9 ∧ Good ts H ∧ ∀ H' D, Go ts H H' → H D = none → H' D = some (.lst ((byRank n).map V.int)) → Q (.ref D) H'
theorem ok_byrank {f : Addr} {fd : FuncData} {k : Nat} (F : Fun K "counts_by_rank" "counts_by_rank" sByRank f fd) (T : Txt K mg) : FnOk P w K mg base CX0 (k + 1) f fd ["span"] (spByRank ts) := by
  refine F.ok scByRank (fun vs H Q E h => ?_) (fun cdv A outer s H vs Q E hr h => ?_)
  · obtain ⟨n, rfl, _⟩ := h
    rfl
  · obtain ⟨n, rfl, h2, gd, q⟩ := h
    refine ⟨_, pss_cons (ps_set (i := 1) scByRank.nd rfl (.inl rfl) (pe_lst (pa_cons pe_int pa_nil)))
      (pss_cons (ps_for PassesOwn.never rfl (pi_range2 (by rfl) T.range (pa_cons pe_int (pa_cons (pe_op op_add (pv 0) pe_int) pa_nil))) (pg_name (i := 2) scByRank.nd rfl (.inl rfl))
        (pss_cons (ps_setLc (i := 3) (own := [("k", 4)]) (g := gName 4) (tt := tYes) rfl scByRank.nd rfl rfl (sw_true rfl rfl rfl (by decide +kernel)) (pi_range1 (by rfl) T.range (pa_cons (pv 2) pa_nil))
          (blkOk_by (N := ["span", "found", "size", "more", "k", "a", "b"]) (sc := defScope sByRank) (by decide +kernel)) (fun _ _ _ _ _ => pg_name (i := 4) scByRank.nd rfl (Or.inl rfl)) (fun _ _ _ _ _ => pts_nil) (fun _ _ _ _ _ => pe_int))
        (pss_one (ps_setLc (i := 1) (own := [("a", 5), ("b", 6)]) (g := gTup K 2 (gCons (gName 5) (gCons (gName 6) gNil))) (tt := tYes) rfl scByRank.nd rfl rfl (sw_true rfl rfl rfl (by decide +kernel))
          (pi_zip (by rfl) T.zip (pa_cons (pe_lst (pa_star (pv 1) (pa_star (pv 3) pa_nil))) (pa_cons (pe_lst (pa_star (pv 3) (pa_star (pv 1) pa_nil))) pa_nil)))
          (blkOk_by (N := ["span", "found", "size", "more", "k", "a", "b"]) (sc := defScope sByRank) (by decide +kernel))
          (fun _ _ _ _ _ => pg_tup (by rfl) (pgs_cons (pg_name (i := 5) scByRank.nd rfl (Or.inl rfl)) (pgs_cons (pg_name (i := 6) scByRank.nd rfl (Or.inl rfl)) pgs_nil)))
          (fun _ _ _ _ _ => pts_nil) (fun _ _ _ _ _ => pe_op op_add (pv 5) (pv 6))))))
      (pss_one (ps_ret (pv 1)))), ?_⟩
    refine ⟨by show 1 ≤ sizeLine; exact small_of (by omega), fun D nD => ?_⟩
    refine ⟨_, rfl, _, _, rfl, rfl, _, _, rfl, ⟨by omega, by omega, by omega, by omega⟩, ?_⟩
    have en : ((n : Int) + 1 - 1).toNat = n := by omega
    rw [en]
    refine for_range (lo := 1) (n := n) (fun i σ H' => ∃ (D : Addr) (y2 y3 : Option V), σ = [some (.int n), some (.ref D), y2, y3, none, none, none] ∧ Go ts H H' ∧ H D = none ∧ H' D = some (.lst ((byRank i).map V.int))) ⟨D, none, none, rfl, Go.new gd nD, nD, upd_same⟩ ?_ ?_
    · rintro i σ H1 hi ⟨D1, y2, y3, rfl, go1, nD1, e1⟩
      -- more
      refine ⟨_, rfl, _, rfl, by omega, by omega, fun Z nZ => ?_⟩
      have ei : ((1 : Int) + (i : Int)).toNat = i + 1 := by omega
      rw [ei]
      refine lc_range (lo := 0) (n := i + 1) (fun j H' => Go ts H1 H' ∧ H' Z = some (.lst ((List.replicate j (0 : Int)).map V.int))) ⟨Go.new go1.good nZ, upd_same⟩ ?_ ?_
      · rintro j H2 hj ⟨go2, e2⟩
        refine ⟨rfl, _, e2, by rw [List.length_map, List.length_replicate]; exact small1000 (by omega), go2.over go1.good nZ (go1.good.nin nZ), ?_⟩
        rw [upd_same, List.replicate_succ', List.map_append]
        rfl
      · rintro H2 ⟨go2, e2⟩
        have e1' := go2.lst go1.good e1
        have sz : (byRank i).length ≤ 82 := byRank_small (by omega)
        -- [*found, *more]
        refine ⟨_, rfl, D1, _, rfl, .inr (SqL.of e1'), _, rfl, Z, _, rfl, .inr (SqL.of e2), ?_, fun L nL => ?_⟩
        · simp only [List.append_nil, List.length_append, List.length_map, List.length_replicate]
          exact small_of (by omega)
        have goL := Go.new (o := .lst ((byRank i).map V.int ++ ((List.replicate (i + 1) (0 : Int)).map V.int ++ []))) go2.good nL
        -- [*more, *found]
        refine ⟨_, rfl, Z, _, rfl, .inr (SqL.of (goL.lst go2.good e2)), _, rfl, D1, _, rfl, .inr (SqL.of (goL.lst go2.good e1')), ?_, fun R nR => ?_⟩
        · simp only [List.append_nil, List.length_append, List.length_map, List.length_replicate]
          exact small_of (by omega)
        have goR := Go.new (o := .lst ((List.replicate (i + 1) (0 : Int)).map V.int ++ ((byRank i).map V.int ++ []))) goL.good nR
        have sL : SqL K (upd (upd H2 L (.lst ((byRank i).map V.int ++ ((List.replicate (i + 1) (0 : Int)).map V.int ++ [])))) R (.lst ((List.replicate (i + 1) (0 : Int)).map V.int ++ ((byRank i).map V.int ++ [])))) L ((byRank i ++ List.replicate (i + 1) 0).map V.int) := by
          have eL : List.map V.int (byRank i ++ List.replicate (i + 1) (0 : Int)) = List.map V.int (byRank i) ++ (List.map V.int (List.replicate (i + 1) (0 : Int)) ++ []) := by rw [List.append_nil, List.map_append]
          rw [eL]
          exact goR.seq (K := K) goL.good (SqL.of (upd_same (H := H2) (a := L)))
        have sR : SqL K (upd (upd H2 L (.lst ((byRank i).map V.int ++ ((List.replicate (i + 1) (0 : Int)).map V.int ++ [])))) R (.lst ((List.replicate (i + 1) (0 : Int)).map V.int ++ ((byRank i).map V.int ++ [])))) R ((List.replicate (i + 1) 0 ++ byRank i).map V.int) := by
          have eR : List.map V.int (List.replicate (i + 1) (0 : Int) ++ byRank i) = List.map V.int (List.replicate (i + 1) (0 : Int)) ++ (List.map V.int (byRank i) ++ []) := by rw [List.append_nil, List.map_append]
          rw [eR]
          exact SqL.of upd_same
        refine ⟨L, R, _, _, rfl, sL, sR, fun D2 nD2 => ?_⟩
        refine lc_zip2 (op := fun a b => a + b) goR.good sL sR (by simp only [List.length_append, List.length_replicate]; omega) (by simp only [List.length_append, List.length_replicate]; omega) nD2 ?_ ?_
        · intro U a b H4 Nx hT g4 hN
          exact ⟨U, _, rfl, .inl (.inl hT), rfl, _, _, rfl, _, _, rfl, rfl, rfl, _, rfl, _, rfl, a, b, rfl, rfl, hN _ _ rfl rfl⟩
        · intro H4 go4 hD
          exact ⟨D2, _, _, rfl, go1.trans (go2.trans (goL.trans (goR.trans go4))), go1.free (go2.free (goL.free (goR.free nD2))), hD⟩
    · rintro σ H1 ⟨D1, y2, y3, rfl, go1, nD1, e1⟩
      exact ⟨_, rfl, q H1 D1 go1 nD1 e1⟩
def spRankCounts (ts : List Addr) : Sp := fun vs H Q _ => ∃ n : Nat, vs = [.int n] ∧ 1 ≤ n ∧ n ≤ 9 ∧ Good ts H ∧ ∀ H' D, Go ts H H' → H D = none → H' D = some (.tup ((byRank n).map V.int)) → Q (.ref D) H'
theorem ok_rankcounts {f f1 f2 : Addr} {fd fd1 fd2 : FuncData} {k : Nat} (F : Fun K "rank_counts" "rank_counts" sRankCounts f fd) (T : Txt K mg)
    (G1 : FnOk P w K mg base CX0 k f1 fd1 ["span"] spNeedSpan) (k1 : PySem.W.keepIn K (.ref f1) = true) (b1 : Binds K fd1 ["span"] []) (g1 : mg "need_span" = some (.ref f1))
    (G2 : FnOk P w K mg base CX0 k f2 fd2 ["span"] (spByRank ts)) (k2 : PySem.W.keepIn K (.ref f2) = true) (b2 : Binds K fd2 ["span"] []) (g2 : mg "counts_by_rank" = some (.ref f2)) :
    FnOk P w K mg base CX0 (k + 1) f fd ["span"] (spRankCounts ts) := by
  refine F.ok scRankCounts (fun vs H Q E h => ?_) (fun cdv A outer s H vs Q E hr h => ?_)
  · obtain ⟨n, rfl, _⟩ := h
    rfl
  · obtain ⟨n, rfl, h1, h2, gd, q⟩ := h
    refine ⟨_, pss_cons (ps_expr (pe_call G1 hr (by rfl) g1 k1 b1 .nil pass0 (pa_cons (pv 0) pa_nil))) (pss_one (ps_ret (pe_callTy call_tuple_of (by rfl) T.tuple (by decide +kernel) (pa_cons (pe_call G2 hr (by rfl) g2 k2 b2 .nil pass0 (pa_cons (pv 0) pa_nil)) pa_nil)))), ?_⟩
    exact ⟨_, rfl, n, rfl, h1, h2, _, rfl, n, rfl, h2, gd, fun H1 D1 go1 n1 e1 => ⟨D1, _, rfl, .inl ⟨SqL.of e1, fun L nL => q _ L (go1.trans (Go.new go1.good nL)) (go1.free nL) upd_same⟩⟩⟩
def spRankWidth (ts : List Addr) : Sp := fun vs H Q _ => ∃ n : Nat, vs = [.int n] ∧ 1 ≤ n ∧ n ≤ 9 ∧ 0 < (byRank n).length ∧ Good ts H ∧ ∀ H' z, Go ts H H' → z ∈ byRank n → (∀ y, y ∈ byRank n → y ≤ z) → Q (.int z) H'
theorem ok_rankwidth {f f1 f2 : Addr} {fd fd1 fd2 : FuncData} {k : Nat} (F : Fun K "rank_width" "rank_width" sRankWidth f fd) (T : Txt K mg)
    (G1 : FnOk P w K mg base CX0 k f1 fd1 ["span"] spNeedSpan) (k1 : PySem.W.keepIn K (.ref f1) = true) (b1 : Binds K fd1 ["span"] []) (g1 : mg "need_span" = some (.ref f1))
    (G2 : FnOk P w K mg base CX0 k f2 fd2 ["span"] (spByRank ts)) (k2 : PySem.W.keepIn K (.ref f2) = true) (b2 : Binds K fd2 ["span"] []) (g2 : mg "counts_by_rank" = some (.ref f2)) :
    FnOk P w K mg base CX0 (k + 1) f fd ["span"] (spRankWidth ts) := by
  refine F.ok scRankWidth (fun vs H Q E h => ?_) (fun cdv A outer s H vs Q E hr h => ?_)
  · obtain ⟨n, rfl, _⟩ := h
    rfl
  · obtain ⟨n, rfl, h1, h2, h3, gd, q⟩ := h
    refine ⟨_, pss_cons (ps_expr (pe_call G1 hr (by rfl) g1 k1 b1 .nil pass0 (pa_cons (pv 0) pa_nil))) (pss_one (ps_ret (pe_callB (cr_max rfl) (by rfl) T.max (by decide +kernel) (pa_cons (pe_call G2 hr (by rfl) g2 k2 b2 .nil pass0 (pa_cons (pv 0) pa_nil)) pa_nil)))), ?_⟩
    exact ⟨_, rfl, n, rfl, h1, h2, _, rfl, n, rfl, h2, gd, fun H1 D1 go1 n1 e1 => ⟨D1, _, rfl, SqL.of e1, h3, fun z hz hz2 => q H1 z go1 hz hz2⟩⟩
end
end RB

set_option maxRecDepth 100000
set_option maxHeartbeats 0
namespace RB
open PySem L2 PySem.Spec PyProof.Rows StX
theorem perm_map {α β : Type} (f : α → β) : ∀ {l : List α} {ys : List β}, ys.Perm (l.map f) → ∃ cs : List α, cs.Perm l ∧ ys = cs.map f
  | [], ys, h => ⟨[], .refl _, by simpa using h.eq_nil⟩
  | a :: l, ys, h => by
    have ha : f a ∈ ys := h.mem_iff.mpr (by simp)
    obtain ⟨s, t, e⟩ := List.append_of_mem ha
    subst e
    have h2 : (s ++ t).Perm (l.map f) := (List.perm_middle.symm.trans h).cons_inv
    obtain ⟨cs, h3, h4⟩ := perm_map f h2
    obtain ⟨c1, c2, e1, e2, e3⟩ := List.map_eq_append_iff.mp h4.symm
    subst e1
    refine ⟨c1 ++ a :: c2, List.perm_middle.trans (h3.cons a), ?_⟩
    rw [List.map_append, List.map_cons, e2, e3]
def covI (m : M) (i : Nat) : List M := (List.range i).filterMap (covAt m)
theorem covI_len (m : M) (i : Nat) : (covI m i).length ≤ i := Nat.le_trans (List.length_filterMap_le _ _) (by rw [List.length_range]; exact Nat.le_refl _)
theorem covI_succ (m : M) (i : Nat) : covI m (i + 1) = covI m i ++ (covAt m i).toList := by
  unfold covI
  rw [List.range_succ, List.filterMap_append]
  congr 1
def txs (cs : List M) : List V := (cs.map tx).map V.str
theorem txs_snoc (cs : List M) (c : M) : txs cs ++ [V.str (tx c)] = txs (cs ++ [c]) := by
  unfold txs
  rw [List.map_append, List.map_append]
  rfl
theorem txs_len (cs : List M) : (txs cs).length = cs.length := by simp [txs]
section
variable {P : Program} {w : World} {K : PySem.W.Frag} {mg : Str → Option Value} {base : Heap} {ts : List Addr}
/-! ### covers_of, covers -/
def spCoversOf (ts : List Addr) : Sp := fun vs H Q _ => ∃ m : M, vs = [.str (tx m)] ∧ m.length ≤ 9 ∧ Good ts H ∧ ∀ H' D cs, Go ts H H' → H D = none → cs.Perm (covL m) → sortedS (cs.map tx) = true → H' D = some (.lst (txs cs)) → Q (.ref D) H'
theorem ok_coversof {f : Addr} {fd : FuncData} {k : Nat} (F : Fun K "covers_of" "covers_of" sCoversOf f fd) (T : Txt K mg) : FnOk P w K mg base CX0 (k + 1) f fd ["memory"] (spCoversOf ts) := by
  refine F.ok scCoversOf (fun vs H Q E h => ?_) (fun cdv A outer s H vs Q E hr h => ?_)
  · obtain ⟨m, rfl, _⟩ := h
    rfl
  · obtain ⟨m, rfl, h2, gd, q⟩ := h
    refine ⟨_, pss_cons (ps_set (i := 1) scCoversOf.nd rfl (.inl rfl) (pe_lst pa_nil))
      (pss_cons (ps_for PassesOwn.never rfl (pi_range1 (by rfl) T.range (pa_cons (pe_callB call_len_str (by rfl) T.len PySem.boot_len (pa_cons (pv 0) pa_nil)) pa_nil)) (pg_name (i := 2) scCoversOf.nd rfl (.inl rfl))
        (pss_one (ps_if (PW.pt (pw_and (pt_cmpR op_eq (pe_ix ix_str (pv 0) (pv 2) (fun _ _ => rfl)) pe_str (nomark _)) (pw_and1 (pt_cmpR op_eq (pe_op op_add (pv 2) pe_int) (pe_callB call_len_str (by rfl) T.len PySem.boot_len (pa_cons (pv 0) pa_nil)) (nomark _)))))
          (pss_one (ps_expr (pe_bm PySem.F.plainAttrs_list PySem.F.slot_list_append PySem.F.type_list_append mt_append (pv 1) (pa_cons (pe_op op_add_str (pe_slice sl_str (pv 0) po_none (po_some (pv 2))) pe_str) pa_nil))))
          (pss_one (ps_if (pt_cmpR op_eq (pe_slice sl_str (pv 0) (po_some (pv 2)) (po_some (pe_op op_add (pv 2) pe_int))) pe_str (nomark _))
            (pss_one (ps_expr (pe_bm PySem.F.plainAttrs_list PySem.F.slot_list_append PySem.F.type_list_append mt_append (pv 1) (pa_cons (pe_op op_add_str (pe_op op_add_str (pe_slice sl_str (pv 0) po_none (po_some (pv 2))) pe_str) (pe_slice sl_str (pv 0) (po_some (pe_op op_add (pv 2) pe_int)) po_none)) pa_nil))))
            pss_nil)))))
      (pss_one (ps_ret (pe_callB cr_sortedS (by rfl) T.sorted (by decide +kernel) (pa_cons (pv 1) pa_nil))))), ?_⟩
    have szm : (tx m).length ≤ sizeLine := by rw [tx_len]; exact small_of (by omega)
    refine ⟨Nat.zero_le _, fun D nD => ?_⟩
    refine ⟨_, rfl, tx m, rfl, szm, _, rfl, by rw [tx_len]; omega, by rw [tx_len]; omega, ?_⟩
    refine for_range (lo := 0) (n := ((tx m).length : Int).toNat) (fun i σ H' => ∃ y, σ = [some (.str (tx m)), some (.ref D), y] ∧ Go ts H H' ∧ H' D = some (.lst (txs (covI m i)))) ⟨none, rfl, Go.new gd nD, upd_same⟩ ?_ ?_
    · rintro i σ H1 hi ⟨y, rfl, go, eD⟩
      have hi2 : i < m.length := by rw [← tx_len m]; exact hi
      have e0 : (0 : Int) + (i : Int) = ((i : Nat) : Int) := by omega
      obtain ⟨b, hb⟩ : ∃ b, m[i]? = some b := ⟨m[i], List.getElem?_eq_getElem hi2⟩
      have eat : atI (tx m).cps.toList (0 + (i : Int)) = some (sg b) := by
        rw [e0]
        refine atI_nat ?_
        rw [Array.getElem?_toList]
        exact tx_at hb
      have eto : cutS (tx m) none (some (0 + (i : Int))) = tx (m.take i) := by rw [e0]; exact cut_to m i
      have efr : cutS (tx m) (some (0 + (i : Int) + 2)) none = tx (m.drop (i + 2)) := by
        rw [show (0 : Int) + (i : Int) + 2 = ((i + 2 : Nat) : Int) by omega]
        exact cut_from m (i + 2)
      have etw : cutS (tx m) (some (0 + (i : Int))) (some (0 + (i : Int) + 2)) = tx ((m.drop i).take 2) := by
        rw [show (0 : Int) + (i : Int) + 2 = ((i + 2 : Nat) : Int) by omega, e0]
        exact cut_two m i 2
      have ltk : (tx (m.take i)).length ≤ 9 := by rw [tx_len, List.length_take]; omega
      have szc : (txs (covI m i)).length < sizeLine := by
        rw [txs_len]
        have := covI_len m i
        exact small1000 (by omega)
      -- the second test and what follows it
      have second : ¬ (m[i]? = some false ∧ i + 1 = m.length) → ∀ σ1 : L2.St, σ1 = [some (.str (tx m)), some (.ref D), some (.int (0 + (i : Int)))] →
          tIfS (tTest (tOp rEq (tSl rSlS (tVar 0) (tPart (tVar 2)) (tPart (tOp (rI0 fun i j => .int (i + j)) (tVar 2) (tC (.int 2))))) (tC (.str "01"))))
            (tDrop (tBM K "list" rAppend (tVar 1) (tCons (tOp (fun x y H Q => ∃ i j, x = V.str i ∧ y = .str j ∧ i.length + j.length ≤ sizeLine ∧ Q (.str (i ++ j)) H) (tOp (fun x y H Q => ∃ i j, x = V.str i ∧ y = .str j ∧ i.length + j.length ≤ sizeLine ∧ Q (.str (i ++ j)) H) (tSl rSlS (tVar 0) tNoPart (tPart (tVar 2))) (tC (.str "10"))) (tSl rSlS (tVar 0) (tPart (tOp (rI0 fun i j => .int (i + j)) (tVar 2) (tC (.int 2)))) tNoPart)) tNil)))
            tNext { nx := fun σ H' => ∃ y, σ = [some (.str (tx m)), some (.ref D), y] ∧ Go ts H H' ∧ H' D = some (.lst (txs (covI m (i + 1)))), rt := fun _ _ => False } σ1 H1 := by
        rintro h1 σ1 rfl
        refine ⟨_, rfl, _, rfl, _, rfl, _, rfl, _, _, rfl, rfl, _, rfl, tx m, rfl, szm, rfl, _, rfl, ?_⟩
        rw [etw, lit01, vtx_eq]
        refine ite2 (fun h3 => ?_) (fun h3 => ?_)
        · have h3' : (m.drop i).take 2 = [false, true] := of_decide_eq_true h3
          have ec : covAt m i = some (m.take i ++ [true, false] ++ m.drop (i + 2)) := by
            unfold covAt
            rw [if_neg h1, if_pos h3']
          have ltd : (tx (m.drop (i + 2))).length ≤ 9 := by rw [tx_len, List.length_drop]; omega
          refine ⟨_, rfl, .inl ⟨rfl, _, .inl (.inl eD)⟩, _, rfl, _, rfl, _, rfl, tx m, rfl, szm, ?_⟩
          rw [eto, lit10]
          refine ⟨_, _, rfl, rfl, small_of (by rw [tx_len [true, false]]; show _ + 2 ≤ 1000; omega), _, rfl, _, rfl, _, _, rfl, rfl, _, rfl, tx m, rfl, szm, ?_⟩
          rw [efr, tx_app]
          refine ⟨_, _, rfl, rfl, small_of (by rw [tx_len, List.length_append, List.length_take]; show _ + 2 + _ ≤ 1000; omega), D, _, _, rfl, rfl, eD, szc, some (.int (0 + (i : Int))), rfl, go.over gd nD (gd.nin nD), ?_⟩
          rw [upd_same, tx_app, txs_snoc, covI_succ, ec]
          rfl
        · have h3' : ¬ (m.drop i).take 2 = [false, true] := fun z => h3 (decide_eq_true z)
          have ec : covAt m i = none := by
            unfold covAt
            rw [if_neg h1, if_neg h3']
          refine ⟨some (.int (0 + (i : Int))), rfl, go, ?_⟩
          rw [covI_succ, ec]
          show H1 D = some (.lst (txs (covI m i ++ [])))
          rw [List.append_nil]
          exact eD
      refine ⟨_, rfl, _, rfl, tx m, _, _, rfl, rfl, szm, eat, rfl, _, rfl, ?_⟩
      have e4 : decide (V.str ⟨#[sg b]⟩ = V.str "0") = decide (b = false) := by
        rw [lit0]
        have := vtx_eq [b] [false]
        rw [tx_one b] at this
        rw [this]
        cases b <;> decide
      rw [e4]
      refine ite2 (fun h4 => ?_) (fun h4 => ?_)
      · have hbf : b = false := of_decide_eq_true h4
        subst hbf
        refine ⟨_, rfl, _, _, rfl, rfl, _, rfl, tx m, rfl, szm, rfl, _, rfl, ?_⟩
        have e5 : decide (V.int (0 + (i : Int) + 1) = V.int ((tx m).length : Nat)) = decide (i + 1 = m.length) := by
          rw [tx_len]
          by_cases z : i + 1 = m.length
          · rw [decide_eq_true z, decide_eq_true (by rw [← z]; exact congrArg V.int (by omega))]
          · rw [decide_eq_false z, decide_eq_false fun y => z (by have := V.int.inj y; omega)]
        rw [e5]
        refine ite2 (fun h5 => ?_) (fun h5 => ?_)
        · have hn : i + 1 = m.length := of_decide_eq_true h5
          have ec : covAt m i = some (m.take i ++ [true]) := by
            unfold covAt
            rw [if_pos ⟨hb, hn⟩]
          refine ⟨_, rfl, .inl ⟨rfl, _, .inl (.inl eD)⟩, _, rfl, _, rfl, _, rfl, tx m, rfl, szm, ?_⟩
          rw [eto, lit1]
          refine ⟨_, _, rfl, rfl, small_of (by rw [tx_len [true]]; show _ + 1 ≤ 1000; omega), D, _, _, rfl, rfl, eD, szc, some (.int (0 + (i : Int))), rfl, go.over gd nD (gd.nin nD), ?_⟩
          rw [upd_same, tx_app, txs_snoc, covI_succ, ec]
          rfl
        · exact second (fun z => h5 (decide_eq_true z.2)) _ rfl
      · exact second (fun z => h4 (decide_eq_true (Option.some.inj (hb.symm.trans z.1)))) _ rfl
    · rintro σ H1 ⟨y, rfl, go, eD⟩
      have e6 : covI m ((tx m).length : Int).toNat = covL m := by
        show covI m (tx m).length = _
        rw [tx_len]
        rfl
      rw [e6] at eD
      have hl : (covL m).length ≤ m.length := covI_len m m.length
      refine ⟨_, rfl, D, (covL m).map tx, rfl, SqL.of eD, by rw [List.length_map]; omega, fun ys p hp hs np => ?_⟩
      obtain ⟨cs, h3, rfl⟩ := perm_map tx hp
      exact q _ p cs (go.trans (Go.new go.good np)) (go.free np) h3 hs upd_same
def spCovers (ts : List Addr) : Sp := fun vs H Q _ => ∃ m : M, vs = [.str (tx m)] ∧ 1 ≤ m.length ∧ m.length ≤ 9 ∧ Good ts H ∧ ∀ H' D cs, Go ts H H' → H D = none → cs.Perm (covL m) → sortedS (cs.map tx) = true → H' D = some (.tup (txs cs)) → Q (.ref D) H'
theorem ok_covers {f f1 f2 : Addr} {fd fd1 fd2 : FuncData} {k : Nat} (F : Fun K "covers" "covers" sCovers f fd) (T : Txt K mg)
    (G1 : FnOk P w K mg base CX0 k f1 fd1 ["memory"] (spNeedMem ts)) (k1 : PySem.W.keepIn K (.ref f1) = true) (b1 : Binds K fd1 ["memory"] []) (g1 : mg "need_memory" = some (.ref f1))
    (G2 : FnOk P w K mg base CX0 k f2 fd2 ["memory"] (spCoversOf ts)) (k2 : PySem.W.keepIn K (.ref f2) = true) (b2 : Binds K fd2 ["memory"] []) (g2 : mg "covers_of" = some (.ref f2)) :
    FnOk P w K mg base CX0 (k + 1) f fd ["memory"] (spCovers ts) := by
  refine F.ok scCovers (fun vs H Q E h => ?_) (fun cdv A outer s H vs Q E hr h => ?_)
  · obtain ⟨m, rfl, _⟩ := h
    rfl
  · obtain ⟨m, rfl, h1, h2, gd, q⟩ := h
    refine ⟨_, pss_cons (ps_expr (pe_call G1 hr (by rfl) g1 k1 b1 .nil pass0 (pa_cons (pv 0) pa_nil))) (pss_one (ps_ret (pe_callTy call_tuple_of (by rfl) T.tuple (by decide +kernel) (pa_cons (pe_call G2 hr (by rfl) g2 k2 b2 .nil pass0 (pa_cons (pv 0) pa_nil)) pa_nil)))), ?_⟩
    exact ⟨_, rfl, m, rfl, h1, h2, gd, fun H1 go1 => ⟨_, rfl, m, rfl, h2, go1.good, fun H2 D2 cs go2 n2 hp hs e2 => ⟨D2, _, rfl, .inl ⟨SqL.of e2, fun L nL => q _ L cs (go1.trans (go2.trans (Go.new go2.good nL))) (go1.free (go2.free nL)) hp hs upd_same⟩⟩⟩⟩
end
end RB

set_option maxRecDepth 100000
set_option maxHeartbeats 0
namespace RB
open PySem L2 PySem.Spec PyProof.Rows StX
/-- each is the address of its pair -/
def TupsAt (H : Hp) (rs : List V) (ls : List (Nat × Nat)) : Prop := Paired (fun v (r : Nat × Nat) => ∃ t, v = V.ref t ∧ H t = some (.tup [.int (r.1 : Nat), .int (r.2 : Nat)])) rs ls
theorem TupsAt.go {ts : List Addr} {H H' : Hp} {rs : List V} {ls : List (Nat × Nat)} (t : TupsAt H rs ls) (g : Good ts H) (go : Go ts H H') : TupsAt H' rs ls :=
  Paired.mapP t fun v r ⟨a, e, h⟩ => ⟨a, e, go.tup g h⟩
theorem TupsAt.get {H : Hp} : ∀ {rs : List V} {ls : List (Nat × Nat)} {i : Nat} {v : V}, TupsAt H rs ls → rs[i]? = some v → ∃ r t, ls[i]? = some r ∧ v = V.ref t ∧ H t = some (.tup [.int (r.1 : Nat), .int (r.2 : Nat)]) := by
  intro rs ls j v h
  induction h generalizing j with
  | nil => intro e; simp at e
  | cons a t ih =>
    intro e
    cases j with
    | zero =>
      obtain ⟨t, e1, e2⟩ := a
      exact ⟨_, t, rfl, by rw [← e1]; exact (Option.some.inj e).symm, e2⟩
    | succ i => exact ih e
def relI (i : Nat) : List (Nat × Nat) := (List.range i).flatMap fun h => (List.range (h + 1)).map fun l => (h + 1, l)
theorem relI_succ (i : Nat) : relI (i + 1) = relI i ++ (List.range (i + 1)).map fun l => (i + 1, l) := by
  unfold relI
  rw [List.range_succ, List.flatMap_append]
  simp [List.range_succ]
theorem relI_len : ∀ i : Nat, (relI i).length ≤ i * i
  | 0 => Nat.le_refl _
  | i + 1 => by
    have ih := relI_len i
    rw [relI_succ, List.length_append, List.length_map, List.length_range]
    have e : (i + 1) * (i + 1) = i * i + 2 * i + 1 := by
      rw [Nat.add_mul, Nat.mul_add]
      omega
    omega
theorem relI_small {i : Nat} (h : i ≤ 9) : (relI i).length ≤ 81 := Nat.le_trans (relI_len i) (by
  have : i * i ≤ 9 * 9 := Nat.mul_le_mul h h
  omega)
theorem relI_mem {n : Nat} {r : Nat × Nat} (h : r ∈ relI n) : r.1 ≤ n ∧ r.2 < r.1 := by
  unfold relI at h
  obtain ⟨a, h1, h2⟩ := List.mem_flatMap.mp h
  obtain ⟨l, h3, rfl⟩ := List.mem_map.mp h2
  have h4 := List.mem_range.mp h1
  have h5 := List.mem_range.mp h3
  exact ⟨by show a + 1 ≤ n; omega, by show l < a + 1; omega⟩
section
variable {P : Program} {w : World} {K : PySem.W.Frag} {mg : Str → Option Value} {base : Heap} {ts : List Addr}
/-! ### all_relays -/
def spAllRel (ts : List Addr) : Sp := fun vs H Q _ => ∃ n : Nat, vs = [.int n] ∧ n ≤ 9 ∧ Good ts H ∧ ∀ H' D rs, Go ts H H' → H D = none → TupsAt H' rs (relays n) → H' D = some (.lst rs) → Q (.ref D) H'
theorem ok_allrel {f : Addr} {fd : FuncData} {k : Nat} (F : Fun K "all_relays" "all_relays" sAllRel f fd) (T : Txt K mg) : FnOk P w K mg base CX0 (k + 1) f fd ["span"] (spAllRel ts) := by
  refine F.ok scAllRel (fun vs H Q E h => ?_) (fun cdv A outer s H vs Q E hr h => ?_)
  · obtain ⟨n, rfl, _⟩ := h
    rfl
  · obtain ⟨n, rfl, h2, gd, q⟩ := h
    refine ⟨_, pss_one (ps_ret (pe_lc2 (own := [("high", 1), ("low", 2)]) (vs1 := [2]) (g := gName 1) (g1 := gName 2) (tt := tYes) (tt1 := tYes) rfl scAllRel.nd
      (pi_range2 (by rfl) T.range (pa_cons pe_int (pa_cons (pe_op op_add (pv 0) pe_int) pa_nil)))
      (blkOk_by (N := ["span", "high", "low"]) (sc := defScope sAllRel) (by decide +kernel)) (by decide)
      (fun _ _ _ _ _ => pg_name (i := 1) scAllRel.nd rfl (Or.inl rfl)) (fun _ _ _ _ _ => pts_nil)
      (fun _ _ _ _ _ => pi_range1 (by rfl) T.range (pa_cons (pv 1) pa_nil))
      (fun _ _ _ _ _ => pg_name (i := 2) scAllRel.nd rfl (Or.inl rfl)) (fun _ _ _ _ _ => pts_nil)
      (fun _ _ _ _ _ => pe_tup (pa_cons (pv 1) (pa_cons (pv 2) pa_nil))))), ?_⟩
    refine ⟨_, rfl, _, _, rfl, rfl, _, _, rfl, ⟨by omega, by omega, by omega, by omega⟩, fun D nD => ?_⟩
    have en : ((n : Int) + 1 - 1).toNat = n := by omega
    rw [en]
    refine ⟨fun i m H' => m = n - i ∧ i ≤ n ∧ ∃ rs, TupsAt H' rs (relI i) ∧ Go ts H H' ∧ H' D = some (.lst rs), ⟨n, rfl, Nat.zero_le _, [], .nil, Go.new gd nD, upd_same⟩, ?_⟩
    rintro i m H1 ⟨rfl, hi, rs, hrs, go, eD⟩
    by_cases hlt : i < n
    · refine .inr ⟨hlt, fun H' => ∃ rs, TupsAt H' rs (relI (i + 1)) ∧ Go ts H H' ∧ H' D = some (.lst rs), fun H' p' => ⟨n - (i + 1), by omega, rfl, hlt, p'⟩, fun x H' y => ?_⟩
      obtain ⟨rfl, rfl⟩ := y
      refine ⟨rfl, _, rfl, _, rfl, by omega, by omega, ?_⟩
      have ei : ((1 : Int) + (i : Int)).toNat = i + 1 := by omega
      rw [ei]
      refine ⟨fun j k H' => k = (i + 1) - j ∧ j ≤ i + 1 ∧ ∃ rs, TupsAt H' rs (relI i ++ (List.range j).map fun l => (i + 1, l)) ∧ Go ts H H' ∧ H' D = some (.lst rs), ⟨i + 1, rfl, Nat.zero_le _, rs, by rw [List.range_zero, List.map_nil, List.append_nil]; exact hrs, go, eD⟩, ?_⟩
      rintro j k H2 ⟨rfl, hj, rs2, hrs2, go2, eD2⟩
      by_cases hlt2 : j < i + 1
      · refine .inr ⟨hlt2, fun H' => ∃ rs, TupsAt H' rs (relI i ++ (List.range (j + 1)).map fun l => (i + 1, l)) ∧ Go ts H H' ∧ H' D = some (.lst rs), fun H' p' => ⟨(i + 1) - (j + 1), by omega, rfl, hlt2, p'⟩, fun x H' y => ?_⟩
        obtain ⟨rfl, rfl⟩ := y
        refine ⟨rfl, _, rfl, _, rfl, by show 2 ≤ sizeLine; decide, fun t nt => ?_⟩
        have nDt : D ≠ t := ne_of_none eD2 nt
        have g3 := Go.new (o := .tup [.int (1 + (i : Int)), .int (0 + (j : Int))]) go2.good nt
        have nDs : D ∉ ts := gd.nin nD
        refine ⟨rs2, by rw [upd_ne nDt]; exact eD2, ?_, rs2 ++ [.ref t], ?_, (go2.trans g3).over gd nD nDs, upd_same⟩
        · rw [hrs2.length, List.length_append, List.length_map, List.length_range]
          have := relI_small (i := i) (by omega)
          exact small1000 (by omega)
        · have z : TupsAt (upd H' t (.tup [.int (1 + (i : Int)), .int (0 + (j : Int))])) (rs2 ++ [.ref t]) (relI i ++ (List.range (j + 1)).map fun l => (i + 1, l)) := by
            rw [List.range_succ, List.map_append, ← List.append_assoc]
            refine Paired.snoc (hrs2.go go2.good g3) ⟨t, rfl, ?_⟩
            rw [upd_same]
            have e1 : (1 : Int) + (i : Int) = (((i + 1 : Nat) : Nat) : Int) := by omega
            have e2 : (0 : Int) + (j : Int) = ((j : Nat) : Int) := by omega
            rw [e1, e2]
          refine Paired.mapP z fun v r ⟨a, e, h⟩ => ⟨a, e, ?_⟩
          have ne : a ≠ D := fun z => by
            rw [z, upd_ne nDt, eD2] at h
            cases h
          rw [upd_ne ne]
          exact h
      · have ej : j = i + 1 := by omega
        subst ej
        exact .inl ⟨Nat.le_refl _, rs2, by rw [relI_succ]; exact hrs2, go2, eD2⟩
    · have e : i = n := by omega
      subst e
      exact .inl ⟨Nat.le_refl _, q H1 D rs go nD hrs eD⟩
end
end RB

set_option maxRecDepth 100000
set_option maxHeartbeats 0
namespace RB
open PySem L2 PySem.Spec PyProof.Rows StX
theorem walk_enumS {x : Str} : Walk (IteS x) x.cps.size (fun _ => True) (fun i H v H' => ∃ T c, v = .ref T ∧ H T = none ∧ x.cps[i]? = some c ∧ H' = upd H T (.tup [.int (i : Nat), .str ⟨#[c]⟩])) :=
  ⟨fun _ _ hi _ => hi, fun _ _ => rfl, fun _ _ _ _ _ _ y => y⟩
def plI (m : M) (s : Bool) (i : Nat) : List Nat := (List.range i).filter fun k => m[k]? == some s
theorem plI_succ (m : M) (s : Bool) (i : Nat) : plI m s (i + 1) = plI m s i ++ (if m[i]? == some s then [i] else []) := by
  unfold plI
  rw [List.range_succ, List.filter_append]
  congr 1
  by_cases h : (m[i]? == some s) = true
  · rw [if_pos h]
    simp only [List.filter_cons, h, if_true, List.filter_nil]
  · rw [if_neg h]
    simp only [List.filter_cons, h, List.filter_nil]
    rfl
theorem plI_len (m : M) (s : Bool) (i : Nat) : (plI m s i).length ≤ i := Nat.le_trans (List.length_filter_le _ _) (by rw [List.length_range]; exact Nat.le_refl _)
def nV (l : List Nat) : List V := l.map fun k => V.int (k : Nat)
section
variable {P : Program} {w : World} {K : PySem.W.Frag} {mg : Str → Option Value} {base : Heap} {ts : List Addr}
/-! ### place, holds, on_in, relays_on -/
def spPlace (ts : List Addr) : Sp := fun vs H Q _ => ∃ (m : M) (s : Bool) (k : Nat), vs = [.str (tx m), .str (tx [s]), .int ((k : Nat) + 1)] ∧ m.length ≤ 9 ∧ Good ts H ∧ ∀ H', Go ts H H' → Q (.int (placeN m s k : Nat)) H'
theorem ok_place {f : Addr} {fd : FuncData} {k : Nat} (F : Fun K "place" "place" sPlace f fd) (T : Txt K mg) : FnOk P w K mg base CX0 (k + 1) f fd ["memory", "sign", "number"] (spPlace ts) := by
  refine F.ok scPlace (fun vs H Q E h => ?_) (fun cdv A outer s H vs Q E hr h => ?_)
  · obtain ⟨m, b, j, rfl, _⟩ := h
    rfl
  · obtain ⟨m, b, j, rfl, h2, gd, q⟩ := h
    refine ⟨_, pss_cons (ps_setLc (i := 3) (own := [("at", 4), ("one", 5)]) (g := gTup K 2 (gCons (gName 4) (gCons (gName 5) gNil))) rfl scPlace.nd rfl rfl (sw_true rfl rfl rfl (by decide +kernel))
        (pi_enumS (by rfl) T.enum (pa_cons (pv 0) pa_nil))
        (blkOk_by (N := ["memory", "sign", "number", "found", "at", "one"]) (sc := defScope sPlace) (by decide +kernel))
        (fun _ _ _ _ _ => pg_tup (by rfl) (pgs_cons (pg_name (i := 4) scPlace.nd rfl (Or.inl rfl)) (pgs_cons (pg_name (i := 5) scPlace.nd rfl (Or.inl rfl)) pgs_nil)))
        (fun _ _ _ _ _ => pts_one (pt_cmpR op_eq (pv 5) (pv 1) (nomark _))) (fun _ _ _ _ _ => pv 4))
      (pss_one (ps_ret (pe_ifExp (pt_cmpR op_le (pv 2) (pe_callB call_len_seq (by rfl) T.len PySem.boot_len (pa_cons (pv 3) pa_nil)) (nomark _))
        (pe_ix ix_list (pv 3) (pe_op op_sub (pv 2) pe_int) (fun _ _ => rfl)) (pe_callB call_len_str (by rfl) T.len PySem.boot_len (pa_cons (pv 0) pa_nil))))), ?_⟩
    refine ⟨_, rfl, tx m, rfl, fun D nD => lc_it walk_enumS (fun i H' => Go ts H H' ∧ H' D = some (.lst (nV (plI m b i)))) ⟨Go.new gd nD, upd_same⟩ (fun _ _ _ _ => trivial) ?_ ?_⟩
    · rintro i x H1 H2 hi ⟨go, eD⟩ ⟨U, c, rfl, nU, hc, rfl⟩
      obtain ⟨y, hy, rfl⟩ := tx_get hc
      have nDU : D ≠ U := ne_of_none eD nU
      have g2 := Go.new (o := .tup [.int (i : Nat), .str ⟨#[sg y]⟩]) go.good nU
      have il : i < m.length := (List.getElem?_eq_some_iff.mp hy).1
      refine ⟨U, _, rfl, .inl (.inl upd_same), rfl, _, _, rfl, _, _, rfl, rfl, rfl, _, rfl, _, rfl, rfl, _, rfl, ?_⟩
      have e1 : decide (V.str ⟨#[sg y]⟩ = V.str (tx [b])) = decide (y = b) := by
        have z := vtx_eq [y] [b]
        rw [tx_one y] at z
        rw [z]
        cases y <;> cases b <;> decide
      rw [e1]
      refine ite2 (fun h => ?_) (fun h => ?_)
      · have hyb : y = b := of_decide_eq_true h
        refine ⟨_, rfl, _, by rw [upd_ne nDU]; exact eD, ?_, (go.trans g2).over gd nD (gd.nin nD), ?_⟩
        · unfold nV
          rw [List.length_map]
          have := plI_len m b i
          exact small1000 (by omega)
        · rw [upd_same, plI_succ, hy, hyb, if_pos (by simp)]
          unfold nV
          rw [List.map_append]
          rfl
      · have hyb : ¬ y = b := fun z => h (decide_eq_true z)
        refine ⟨go.trans g2, ?_⟩
        rw [upd_ne nDU, eD, plI_succ, hy, if_neg (by simpa using hyb), List.append_nil]
    · rintro H1 ⟨go, eD⟩
      have e0 : plI m b (tx m).cps.size = places m b := by rw [tx_size]; rfl
      rw [e0] at eD
      have hl : (places m b).length ≤ m.length := plI_len m b m.length
      have hlv : (nV (places m b)).length = (places m b).length := by simp [nV]
      refine ⟨_, rfl, _, rfl, D, _, rfl, .inl (SqL.of eD), _, _, rfl, rfl, _, rfl, ?_⟩
      rw [hlv]
      refine ite2 (fun h => ?_) (fun h => ?_)
      · have hj : j < (places m b).length := by
          have z := of_decide_eq_true h
          omega
        refine ⟨_, rfl, _, rfl, _, _, rfl, rfl, D, _, _, .int (((places m b)[j] : Nat) : Int), rfl, rfl, SqL.of eD, ?_, ?_⟩
        · rw [show ((j : Nat) : Int) + 1 - 1 = ((j : Nat) : Int) by omega]
          refine atI_nat ?_
          unfold nV
          rw [List.getElem?_map, List.getElem?_eq_getElem hj]
          rfl
        · have e : placeN m b j = (places m b)[j] := by
            unfold placeN
            rw [List.getElem?_eq_getElem hj]
            rfl
          rw [← e]
          exact q H1 go
      · have hj : (places m b).length ≤ j := by
          refine Nat.le_of_not_lt fun z => h (decide_eq_true ?_)
          omega
        refine ⟨_, rfl, tx m, rfl, by rw [tx_len]; exact small_of (by omega), ?_⟩
        have e : placeN m b j = m.length := by
          unfold placeN
          rw [List.getElem?_eq_none hj]
          rfl
        rw [tx_len, ← e]
        exact q H1 go
def spHolds (ts : List Addr) : Sp := fun vs H Q _ => ∃ (m : M) (t : Addr) (hi lo : Nat), vs = [.str (tx m), .ref t] ∧ m.length ≤ 9 ∧ H t = some (.tup [.int (hi : Nat), .int (lo : Nat)]) ∧ hi ≤ m.length ∧ Good ts H ∧ ∀ H', Go ts H H' → Q (.bl (holdsB m hi lo)) H'
theorem ok_holds {f f1 : Addr} {fd fd1 : FuncData} {k : Nat} (F : Fun K "holds" "holds" sHolds f fd) (T : Txt K mg)
    (G1 : FnOk P w K mg base CX0 k f1 fd1 ["memory", "sign", "number"] (spPlace ts)) (k1 : PySem.W.keepIn K (.ref f1) = true) (b1 : Binds K fd1 ["memory", "sign", "number"] []) (g1 : mg "place" = some (.ref f1)) :
    FnOk P w K mg base CX0 (k + 1) f fd ["memory", "relay"] (spHolds ts) := by
  refine F.ok scHolds (fun vs H Q E h => ?_) (fun cdv A outer s H vs Q E hr h => ?_)
  · obtain ⟨m, t, hi, lo, rfl, _⟩ := h
    rfl
  · obtain ⟨m, t, hi, lo, rfl, h2, ht, hh, gd, q⟩ := h
    refine ⟨_, pss_cons (ps_asg (pv 1) (pg_tup (by rfl) (pgs_cons (pg_name (i := 2) scHolds.nd rfl (.inl rfl)) (pgs_cons (pg_name (i := 3) scHolds.nd rfl (.inl rfl)) pgs_nil))))
      (pss_one (ps_ret (pe_cmpR op_lt (pe_call G1 hr (by rfl) g1 k1 b1 .nil pass0 (pa_cons (pv 0) (pa_cons pe_str (pa_cons (pe_op op_add (pv 3) pe_int) pa_nil))))
        (pe_call G1 hr (by rfl) g1 k1 b1 .nil pass0 (pa_cons (pv 0) (pa_cons pe_str (pa_cons (pe_op op_add (pe_op op_sub (pe_callB call_len_str (by rfl) T.len PySem.boot_len (pa_cons (pv 0) pa_nil)) (pv 2)) pe_int) pa_nil)))) (nomark _)))), ?_⟩
    refine ⟨_, rfl, t, _, rfl, .inl (.inl ht), rfl, _, _, rfl, _, _, rfl, rfl, ?_⟩
    refine ⟨_, rfl, _, rfl, _, _, rfl, rfl, m, true, lo, by rw [lit1]; rfl, h2, gd, fun H1 go1 => ?_⟩
    refine ⟨_, rfl, _, rfl, tx m, rfl, by rw [tx_len]; exact small_of (by omega), _, rfl, _, _, rfl, rfl, _, _, rfl, rfl, m, false, m.length - hi, ?_, h2, go1.good, fun H2 go2 => ?_⟩
    · rw [lit0, tx_len, show ((m.length : Nat) : Int) - (hi : Nat) = ((m.length - hi : Nat) : Int) by omega]
      rfl
    · refine ⟨_, _, rfl, rfl, ?_⟩
      have e : holdsB m hi lo = decide (((placeN m true lo : Nat) : Int) < ((placeN m false (m.length - hi) : Nat) : Int)) := by
        unfold holdsB
        by_cases z : placeN m true lo < placeN m false (m.length - hi)
        · rw [decide_eq_true z, decide_eq_true (by omega)]
        · rw [decide_eq_false z, decide_eq_false (by omega)]
      have q2 := q H2 (go1.trans go2)
      rw [e] at q2
      exact q2
def spOnIn (ts : List Addr) : Sp := fun vs H Q _ => ∃ m : M, vs = [.str (tx m)] ∧ m.length ≤ 9 ∧ Good ts H ∧ ∀ H' D xs, Go ts H H' → H D = none → xs.length = (onL m).length → H' D = some (.lst xs) → Q (.ref D) H'
theorem ok_onin {f f1 f2 : Addr} {fd fd1 fd2 : FuncData} {k : Nat} (F : Fun K "on_in" "on_in" sOnIn f fd) (T : Txt K mg)
    (G1 : FnOk P w K mg base CX0 k f1 fd1 ["span"] (spAllRel ts)) (k1 : PySem.W.keepIn K (.ref f1) = true) (b1 : Binds K fd1 ["span"] []) (g1 : mg "all_relays" = some (.ref f1))
    (G2 : FnOk P w K mg base CX0 k f2 fd2 ["memory", "relay"] (spHolds ts)) (k2 : PySem.W.keepIn K (.ref f2) = true) (b2 : Binds K fd2 ["memory", "relay"] []) (g2 : mg "holds" = some (.ref f2)) :
    FnOk P w K mg base CX0 (k + 1) f fd ["memory"] (spOnIn ts) := by
  refine F.ok scOnIn (fun vs H Q E h => ?_) (fun cdv A outer s H vs Q E hr h => ?_)
  · obtain ⟨m, rfl, _⟩ := h
    rfl
  · obtain ⟨m, rfl, h2, gd, q⟩ := h
    refine ⟨_, pss_one (ps_ret (pe_lc (own := [("relay", 1)]) (g := gName 1) rfl scOnIn.nd (pi_list (pe_call G1 hr (by rfl) g1 k1 b1 .nil pass0 (pa_cons (pe_callB call_len_str (by rfl) T.len PySem.boot_len (pa_cons (pv 0) pa_nil)) pa_nil)))
      (blkOk_by (N := ["memory", "relay"]) (sc := defScope sOnIn) (by decide +kernel)) (fun _ _ _ _ _ => pg_name (i := 1) scOnIn.nd rfl (Or.inl rfl))
      (fun _ _ _ _ _ => pts_one (pt_val (pe_call G2 hr (by rfl) g2 k2 b2 .nil pass0 (pa_cons (pv 0) (pa_cons (pv 1) pa_nil))))) (fun _ _ _ _ _ => pv 1))), ?_⟩
    refine ⟨_, rfl, tx m, rfl, by rw [tx_len]; exact small_of (by omega), m.length, by rw [tx_len]; rfl, h2, gd, fun H1 D1 rs go1 n1 hrs e1 => ⟨D1, rfl, ⟨_, SqL.of e1⟩, fun D nD => ?_⟩⟩
    have hl : rs.length = (relays m.length).length := hrs.length
    have hs81 : (relays m.length).length ≤ 81 := relI_small h2
    refine lc_list (K := K) (a := D1) (xs := rs) (fun i H' => Go ts H1 H' ∧ ∃ ys, H' D = some (.lst ys) ∧ ys.length = (((relays m.length).take i).filter fun r => holdsB m r.1 r.2).length) ⟨Go.new go1.good nD, [], upd_same, rfl⟩ (fun i H' _ ⟨go, _⟩ => go.seq go1.good (SqL.of e1)) ?_ ?_
    · rintro i x H2 hx ⟨go, ys, eD, ly⟩
      obtain ⟨r, t, hr1, rfl, ht⟩ := hrs.get hx
      have hm := relI_mem (List.mem_of_getElem? hr1)
      have nDs : D ∉ ts := go1.good.nin nD
      refine ⟨rfl, _, rfl, _, rfl, m, t, r.1, r.2, rfl, h2, go.tup go1.good ht, hm.1, go.good, fun H3 go3 => ⟨_, rfl, ite2 (fun hb => ?_) (fun hb => ?_)⟩⟩
      · have e3 := go3.lst go.good eD
        refine ⟨_, rfl, ys, e3, ?_, (go.trans go3).over go1.good nD nDs, _, upd_same, ?_⟩
        · rw [ly]
          have z := List.length_filter_le (fun r : Nat × Nat => holdsB m r.1 r.2) ((relays m.length).take i)
          rw [List.length_take] at z
          exact small1000 (by omega)
        · rw [take_snoc hr1, List.filter_append, List.length_append, List.length_append, ly, List.filter_cons_of_pos (by exact hb)]
          rfl
      · refine ⟨go.trans go3, ys, go3.lst go.good eD, ?_⟩
        rw [take_snoc hr1, List.filter_append, List.length_append, ly, List.filter_cons_of_neg (by exact hb)]
        rfl
    · rintro H2 ⟨go, ys, eD, ly⟩
      refine q H2 D ys (go1.trans go) (go1.free nD) ?_ eD
      rw [ly, List.take_of_length_le (by rw [hl]; exact Nat.le_refl _)]
      rfl
def spRelOn (ts : List Addr) : Sp := fun vs H Q _ => ∃ m : M, vs = [.str (tx m)] ∧ 1 ≤ m.length ∧ m.length ≤ 9 ∧ Good ts H ∧ ∀ H' D xs, Go ts H H' → H D = none → xs.length = (onL m).length → H' D = some (.tup xs) → Q (.ref D) H'
theorem ok_relon {f f1 f2 : Addr} {fd fd1 fd2 : FuncData} {k : Nat} (F : Fun K "relays_on" "relays_on" sRelOn f fd) (T : Txt K mg)
    (G1 : FnOk P w K mg base CX0 k f1 fd1 ["memory"] (spNeedMem ts)) (k1 : PySem.W.keepIn K (.ref f1) = true) (b1 : Binds K fd1 ["memory"] []) (g1 : mg "need_memory" = some (.ref f1))
    (G2 : FnOk P w K mg base CX0 k f2 fd2 ["memory"] (spOnIn ts)) (k2 : PySem.W.keepIn K (.ref f2) = true) (b2 : Binds K fd2 ["memory"] []) (g2 : mg "on_in" = some (.ref f2)) :
    FnOk P w K mg base CX0 (k + 1) f fd ["memory"] (spRelOn ts) := by
  refine F.ok scRelOn (fun vs H Q E h => ?_) (fun cdv A outer s H vs Q E hr h => ?_)
  · obtain ⟨m, rfl, _⟩ := h
    rfl
  · obtain ⟨m, rfl, h1, h2, gd, q⟩ := h
    refine ⟨_, pss_cons (ps_expr (pe_call G1 hr (by rfl) g1 k1 b1 .nil pass0 (pa_cons (pv 0) pa_nil))) (pss_one (ps_ret (pe_callTy call_tuple_of (by rfl) T.tuple (by decide +kernel) (pa_cons (pe_call G2 hr (by rfl) g2 k2 b2 .nil pass0 (pa_cons (pv 0) pa_nil)) pa_nil)))), ?_⟩
    exact ⟨_, rfl, m, rfl, h1, h2, gd, fun H1 go1 => ⟨_, rfl, m, rfl, h2, go1.good, fun H2 D2 xs go2 n2 hl e2 => ⟨D2, _, rfl, .inl ⟨SqL.of e2, fun L nL => q _ L xs (go1.trans (go2.trans (Go.new go2.good nL))) (go1.free (go2.free nL)) hl upd_same⟩⟩⟩⟩
end
end RB

set_option maxRecDepth 100000
set_option maxHeartbeats 0
namespace RB
open PySem L2 PySem.Spec PyProof.Rows StX
/-- the drawing row: the script's address, how far it is read, the mixed number, the rest of a cell -/
def RowL (a : Addr) (l : List V) : Prop := ∃ (i : Nat) (x z : Int), l = [.ref a, .int (i : Nat), .int x, .int z] ∧ 0 ≤ x ∧ x < 2147483647
theorem seq_row {K : PySem.W.Frag} {H : Hp} {a r : Addr} {ns : List Int} {l : List V} {o : HO} (h : SqL K H a (ns.map V.int)) (hr : H r = some (.lst l)) (hl : RowL a l) : SqL K (upd H r o) a (ns.map V.int) := by
  obtain ⟨i, x, z, rfl, _, _⟩ := hl
  rcases h with (h | ⟨ob, h⟩) | h
  · have ne : a ≠ r := fun e => by
      rw [e, hr] at h
      have q := HO.lst.inj (Option.some.inj h)
      cases ns with
      | nil => cases q
      | cons n ns =>
        rw [List.map_cons, List.cons.injEq] at q
        cases q.1
    exact .inl (.inl (by rw [upd_ne ne]; exact h))
  · have ne : a ≠ r := fun e => by
      rw [e, hr] at h
      cases h
    exact .inl (.inr ⟨ob, by rw [upd_ne ne]; exact h⟩)
  · exact .inr h
section
variable {P : Program} {w : World} {mg : Str → Option Value} {K : PySem.W.Frag} {base : Heap}
def spTaken (K : PySem.W.Frag) : Sp := fun vs H Q _ => ∃ (r a : Addr) (many : Nat) (ns : List Int) (l : List V), vs = [.ref r, .int many] ∧ 0 < many ∧ many ≤ 1000 ∧ H r = some (.lst l) ∧ RowL a l ∧ SqL K H a (ns.map V.int) ∧
  ∀ (v : Nat) l', v < many → RowL a l' → Q (.int v) (upd H r (.lst l'))
theorem ok_taken {f : Addr} {fd : FuncData} {k : Nat} (F : Fun K "_law_taken" "_law_taken" sTaken f fd) (T : Txt K mg) : FnOk P w K mg base CX0 (k + 1) f fd ["_law_row", "_law_many"] (spTaken K) := by
  refine F.ok scTaken (fun vs H Q E h => ?_) (fun cdv A outer s H vs Q E hr h => ?_)
  · obtain ⟨r, a, many, ns, l, rfl, _⟩ := h
    rfl
  · obtain ⟨r, a, many, ns, l, rfl, p1, p2, hl, ⟨i, x, z, rfl, hx0, hx⟩, hS, q⟩ := h
    refine ⟨_, pss_cons (ps_if (pt_cmpR op_gt (pe_ix ix_list (pv 0) pe_int (fun _ _ => rfl)) pe_int (nomark _))
        (pss_cons (ps_set (i := 2) scTaken.nd rfl (.inl rfl) (pe_op op_mod (pe_callTy call_int1 (by rfl) T.int (by decide +kernel) (pa_cons (pe_ix ix_list (pv 0) pe_int (fun _ _ => rfl)) pa_nil)) (pv 1)))
        (pss_cons (ps_asg (pe_op op_fdiv (pe_ix ix_list (pv 0) pe_int (fun _ _ => rfl)) (pv 1)) (pg_sub (pv 0) pe_int set_list))
        (pss_one (ps_ret (pv 2))))) pss_nil)
      (pss_cons (ps_asg (pe_op op_add (pe_ix ix_list (pv 0) pe_int (fun _ _ => rfl)) pe_int) (pg_sub (pv 0) pe_int set_list))
      (pss_cons (ps_if (pt_cmpR op_gt (pe_ix ix_list (pv 0) pe_int (fun _ _ => rfl)) (pe_callB call_len_seq (by rfl) T.len PySem.boot_len (pa_cons (pe_ix ix_list (pv 0) pe_int (fun _ _ => rfl)) pa_nil)) (nomark _))
        (pss_cons (ps_asg (pe_op op_mod (pe_callTy call_int1 (by rfl) T.int (by decide +kernel) (pa_cons (pe_op op_add (pe_op op_mul (pe_ix ix_list (pv 0) pe_int (fun _ _ => rfl)) pe_int) pe_int) pa_nil)) pe_int) (pg_sub (pv 0) pe_int set_list))
        (pss_one (ps_ret (pe_op op_mod (pe_callTy call_int1 (by rfl) T.int (by decide +kernel) (pa_cons (pe_op op_fdiv (pe_ix ix_list (pv 0) pe_int (fun _ _ => rfl)) pe_int) pa_nil)) (pv 1))))) pss_nil)
      (pss_cons (ps_set (i := 3) scTaken.nd rfl (.inl rfl) (pe_ix ix_list (pe_ix ix_list (pv 0) pe_int (fun _ _ => rfl)) (pe_op op_sub (pe_ix ix_list (pv 0) pe_int (fun _ _ => rfl)) pe_int) (fun _ _ => rfl)))
      (pss_cons (ps_asg (pe_op op_mod (pe_callTy call_int1 (by rfl) T.int (by decide +kernel) (pa_cons (pe_op op_add (pe_op op_add (pe_op op_mul (pe_ix ix_list (pv 0) pe_int (fun _ _ => rfl)) pe_int) (pv 3)) pe_int) pa_nil)) pe_int) (pg_sub (pv 0) pe_int set_list))
      (pss_cons (ps_if (pt_cmpR op_ge (pv 3) (pe_op op_pow pe_int pe_int) (nomark _)) (pss_one (ps_asg (pe_op op_fdiv (pv 3) (pv 1)) (pg_sub (pv 0) pe_int set_list))) pss_nil)
      (pss_one (ps_ret (pe_op op_mod (pe_callTy call_int1 (by rfl) T.int (by decide +kernel) (pa_cons (pv 3) pa_nil)) (pv 1))))))))), ?_⟩
    have fin : ∀ (H' : Hp) (c : Int) (l' : List V), RowL a l' → H' = upd H r (.lst l') → Q (.int (c % (many : Int))) H' := fun H' c l' h1 h2 => by
      subst h2
      have e : c % (many : Int) = (((c % (many : Int)).toNat : Nat) : Int) := (Int.toNat_of_nonneg (Int.emod_nonneg c (by omega))).symm
      rw [e]
      refine q _ l' ?_ h1
      have := Int.emod_lt_of_pos c (show (0 : Int) < (many : Int) by omega)
      omega
    have lt2 : ∀ c : Int, 0 ≤ c % 2147483647 ∧ c % 2147483647 < 2147483647 := fun c =>
      ⟨Int.emod_nonneg c (by decide), Int.emod_lt_of_pos c (by decide)⟩
    refine ⟨_, rfl, r, _, _, .int z, rfl, rfl, SqL.of hl, atI_nat (j := 3) rfl, _, _, rfl, rfl, _, rfl, ite2 (fun hz => ?_) (fun hz => ?_)⟩
    · -- the rest of a cell
      refine ⟨_, rfl, r, _, _, .int z, rfl, rfl, SqL.of hl, atI_nat (j := 3) rfl, .inl ⟨z, rfl, _, rfl, _, _, rfl, rfl, by show (0 : Int) < (many : Nat); omega, ?_⟩⟩
      refine ⟨_, rfl, r, _, _, .int z, rfl, rfl, SqL.of hl, atI_nat (j := 3) rfl, _, rfl, _, _, rfl, rfl, ⟨by show (0 : Int) < (many : Nat); omega, by show ((many : Nat) : Int) < 1073741824; omega⟩, ?_⟩
      refine ⟨_, rfl, r, _, _, 3, rfl, rfl, hl, rfl, _, rfl, ?_⟩
      exact fin _ z _ ⟨i, x, _, rfl, hx0, hx⟩ rfl
    · -- the next cell
      refine ⟨_, rfl, r, _, _, .int i, rfl, rfl, SqL.of hl, atI_nat (j := 1) rfl, _, _, rfl, rfl, ?_⟩
      refine ⟨_, rfl, r, _, _, 1, rfl, rfl, hl, rfl, ?_⟩
      have u1 : (upd H r (.lst ([V.ref a, .int i, .int x, .int z].set 1 (.int ((i : Int) + 1))))) r = some (.lst [V.ref a, .int ((i : Int) + 1), .int x, .int z]) := upd_same
      have r1 : RowL a [V.ref a, .int ((i : Int) + 1), .int x, .int z] := ⟨i + 1, x, z, rfl, hx0, hx⟩
      have S1 := seq_row (o := .lst ([V.ref a, .int i, .int x, .int z].set 1 (.int ((i : Int) + 1)))) hS hl ⟨i, x, z, rfl, hx0, hx⟩
      refine ⟨_, rfl, r, _, _, .int ((i : Int) + 1), rfl, rfl, SqL.of u1, atI_nat (j := 1) rfl, _, rfl, r, _, _, .ref a, rfl, rfl, SqL.of u1, atI_nat (j := 0) rfl, a, _, rfl, .inl S1, _, _, rfl, rfl, _, rfl, ite2 (fun hb => ?_) (fun hb => ?_)⟩
      · -- behind the script's end
        refine ⟨_, rfl, r, _, _, .int x, rfl, rfl, SqL.of u1, atI_nat (j := 2) rfl, _, _, rfl, rfl, .inl ⟨by omega, by omega⟩, _, _, rfl, rfl, .inl ⟨_, rfl, _, _, rfl, rfl, by show (0 : Int) < 2147483647; decide, ?_⟩⟩
        refine ⟨_, rfl, r, _, _, 2, rfl, rfl, u1, rfl, ?_⟩
        rw [upd_upd]
        refine ⟨_, rfl, r, _, _, .int ((x * 48271 + 11) % 2147483647), rfl, rfl, SqL.of upd_same, atI_nat (j := 2) rfl, _, _, rfl, rfl, ⟨by decide, by decide⟩, .inl ⟨_, rfl, _, rfl, _, _, rfl, rfl, by show (0 : Int) < (many : Nat); omega, ?_⟩⟩
        exact fin _ _ _ ⟨i + 1, _, z, rfl, lt2 _⟩ rfl
      · have hi : i < ns.length := by
          refine Nat.lt_of_not_le fun y => hb (decide_eq_true ?_)
          rw [List.length_map]
          omega
        obtain ⟨n, hn⟩ : ∃ n, ns[i]? = some n := ⟨ns[i], List.getElem?_eq_getElem hi⟩
        have hn' : (ns.map V.int)[i]? = some (V.int n) := by
          rw [List.getElem?_map, hn]
          rfl
        refine ⟨_, rfl, r, _, _, .ref a, rfl, rfl, SqL.of u1, atI_nat (j := 0) rfl, _, rfl, r, _, _, .int ((i : Int) + 1), rfl, rfl, SqL.of u1, atI_nat (j := 1) rfl, _, _, rfl, rfl, a, _, _, .int n, rfl, rfl, S1, ?_, ?_⟩
        · rw [show (i : Int) + 1 - 1 = ((i : Nat) : Int) by omega]
          exact atI_nat hn'
        refine ⟨_, rfl, r, _, _, .int x, rfl, rfl, SqL.of u1, atI_nat (j := 2) rfl, _, _, rfl, rfl, .inl ⟨by omega, by omega⟩, _, rfl, _, _, rfl, rfl, _, _, rfl, rfl, .inl ⟨_, rfl, _, _, rfl, rfl, by show (0 : Int) < 2147483647; decide, ?_⟩⟩
        refine ⟨_, rfl, r, _, _, 2, rfl, rfl, u1, rfl, ?_⟩
        rw [upd_upd]
        refine ⟨_, rfl, _, _, rfl, rfl, ⟨by decide, by decide, by decide⟩, _, _, rfl, rfl, _, rfl, ite2 (fun hg => ?_) (fun hg => ?_)⟩
        · refine ⟨_, rfl, _, rfl, _, _, rfl, rfl, ⟨by show (0 : Int) < (many : Nat); omega, by show ((many : Nat) : Int) < 1073741824; omega⟩, ?_⟩
          refine ⟨_, rfl, r, _, _, 3, rfl, rfl, upd_same, rfl, ?_⟩
          rw [upd_upd]
          refine ⟨_, rfl, .inl ⟨n, rfl, _, rfl, _, _, rfl, rfl, by show (0 : Int) < (many : Nat); omega, ?_⟩⟩
          exact fin _ n _ ⟨i + 1, _, _, rfl, lt2 _⟩ rfl
        · refine ⟨_, rfl, .inl ⟨n, rfl, _, rfl, _, _, rfl, rfl, by show (0 : Int) < (many : Nat); omega, ?_⟩⟩
          exact fin _ n _ ⟨i + 1, _, _, rfl, lt2 _⟩ rfl
end
end RB

set_option maxRecDepth 100000
set_option maxHeartbeats 0
namespace RB
open PySem L2 PySem.Spec PyProof.Rows StX
theorem join_tx : ∀ bs : M, Txt.join (tx []) (bs.map fun b => tx [b]) = tx bs := fun bs => by
  rw [TL.join_eq]
  refine str_ext ?_
  show TL.tl (Str.join (tx []) (bs.map fun b => tx [b])) = TL.tl (tx bs)
  rw [TL.tl_join]
  have e : (bs.map fun b => tx [b]).map TL.tl = bs.map fun b => [sg b] := by
    rw [List.map_map]
    rfl
  rw [e]
  show TL.joinL [] (bs.map fun b => [sg b]) = bs.map sg
  have key : ∀ l : M, TL.joinL [] (l.map fun b => [sg b]) = l.map sg := by
    intro l
    induction l with
    | nil => rfl
    | cons b l ih =>
      cases l with
      | nil => rfl
      | cons c r =>
        show [sg b] ++ ([] ++ TL.joinL [] ((c :: r).map fun b => [sg b])) = _
        rw [ih]
        rfl
  exact key bs
/-- all but r as it was -/
def Rest (r : Addr) (H H' : Hp) : Prop := ∀ b o, b ≠ r → H b = some o → H' b = some o
section
variable {P : Program} {w : World} {mg : Str → Option Value} {K : PySem.W.Frag} {base : Heap}
def spPick (K : PySem.W.Frag) : Sp := fun vs H Q _ => ∃ (r a : Addr) (ns : List Int) (l : List V), vs = [.ref r, .str (tx [false, true])] ∧ H r = some (.lst l) ∧ RowL a l ∧ SqL K H a (ns.map V.int) ∧
  ∀ (b : Bool) l', RowL a l' → Q (.str (tx [b])) (upd H r (.lst l'))
theorem ok_pick {f f1 : Addr} {fd fd1 : FuncData} {k : Nat} (F : Fun K "_law_pick" "_law_pick" sPick f fd) (T : Txt K mg)
    (G1 : FnOk P w K mg base CX0 k f1 fd1 ["_law_row", "_law_many"] (spTaken K)) (k1 : PySem.W.keepIn K (.ref f1) = true) (b1 : Binds K fd1 ["_law_row", "_law_many"] []) (g1 : mg "_law_taken" = some (.ref f1)) :
    FnOk P w K mg base CX0 (k + 1) f fd ["_law_row", "_law_things"] (spPick K) := by
  refine F.ok scPick (fun vs H Q E h => ?_) (fun cdv A outer s H vs Q E hr h => ?_)
  · obtain ⟨r, a, ns, l, rfl, _⟩ := h
    rfl
  · obtain ⟨r, a, ns, l, rfl, hl, rl, hS, q⟩ := h
    refine ⟨_, pss_one (ps_ret (pe_ix ix_str (pv 1) (pe_call G1 hr (by rfl) g1 k1 b1 .nil pass0 (pa_cons (pv 0) (pa_cons (pe_callB call_len_str (by rfl) T.len PySem.boot_len (pa_cons (pv 1) pa_nil)) pa_nil))) (fun _ _ => rfl))), ?_⟩
    refine ⟨_, rfl, _, rfl, _, rfl, tx [false, true], rfl, by rw [tx_len]; exact small_of (by decide), r, a, 2, ns, l, rfl, by decide, by decide, hl, rl, hS, fun v l' hv rl' => ?_⟩
    obtain ⟨b, hb⟩ : ∃ b, [false, true][v]? = some b := ⟨[false, true][v]'hv, List.getElem?_eq_getElem hv⟩
    refine ⟨tx [false, true], _, sg b, rfl, rfl, by rw [tx_len]; exact small_of (by decide), atI_nat ?_, ?_⟩
    · rw [Array.getElem?_toList]
      exact tx_at hb
    · exact q b l' rl'
def spLMem (K : PySem.W.Frag) : Sp := fun vs H Q _ => ∃ (r a : Addr) (ns : List Int) (l : List V), vs = [.ref r, .int 9] ∧ H r = some (.lst l) ∧ RowL a l ∧ SqL K H a (ns.map V.int) ∧
  ∀ (m : M) H', 1 ≤ m.length → m.length ≤ 9 → Rest r H H' → (∃ o, H' r = some (.lst o)) → Q (.str (tx m)) H'
theorem ok_lmem {f f1 f2 : Addr} {fd fd1 fd2 : FuncData} {k : Nat} (F : Fun K "_law_memory" "_law_memory" sLMem f fd) (T : Txt K mg)
    (G1 : FnOk P w K mg base CX0 k f1 fd1 ["_law_row", "_law_many"] (spTaken K)) (k1 : PySem.W.keepIn K (.ref f1) = true) (b1 : Binds K fd1 ["_law_row", "_law_many"] []) (g1 : mg "_law_taken" = some (.ref f1))
    (G2 : FnOk P w K mg base CX0 k f2 fd2 ["_law_row", "_law_things"] (spPick K)) (k2 : PySem.W.keepIn K (.ref f2) = true) (b2 : Binds K fd2 ["_law_row", "_law_things"] []) (g2 : mg "_law_pick" = some (.ref f2)) :
    FnOk P w K mg base CX0 (k + 1) f fd ["_law_row", "_law_most"] (spLMem K) := by
  refine F.ok scLMem (fun vs H Q E h => ?_) (fun cdv A outer s H vs Q E hr h => ?_)
  · obtain ⟨r, a, ns, l, rfl, _⟩ := h
    rfl
  · obtain ⟨r, a, ns, l, rfl, hl, rl, hS, q⟩ := h
    refine ⟨_, pss_one (ps_ret (pe_join pe_str (pe_lc (own := [("_law_k", 2)]) (g := gName 2) (tt := tYes) rfl scLMem.nd
      (pi_range1 (by rfl) T.range (pa_cons (pe_op op_add pe_int (pe_call G1 hr (by rfl) g1 k1 b1 .nil pass0 (pa_cons (pv 0) (pa_cons (pv 1) pa_nil)))) pa_nil))
      (blkOk_by (N := ["_law_row", "_law_most", "_law_k"]) (sc := defScope sLMem) (by decide +kernel)) (fun _ _ _ _ _ => pg_name (i := 2) scLMem.nd rfl (Or.inl rfl)) (fun _ _ _ _ _ => pts_nil)
      (fun _ _ _ _ _ => pe_call G2 hr (by rfl) g2 k2 b2 .nil pass0 (pa_cons (pv 0) (pa_cons pe_str pa_nil)))))), ?_⟩
    refine ⟨⟨_, rfl⟩, _, rfl, _, rfl, r, a, 9, ns, l, rfl, by decide, by decide, hl, rl, hS, fun v l1 hv rl1 => ?_⟩
    have S1 : SqL K (upd H r (.lst l1)) a (ns.map V.int) := seq_row hS hl rl
    refine ⟨_, _, rfl, rfl, _, rfl, by omega, by omega, fun D nD => ?_⟩
    have en : ((1 : Int) + (v : Int)).toNat = v + 1 := by omega
    rw [en]
    have nDr : D ≠ r := fun z => by
      rw [z, upd_same] at nD
      cases nD
    refine lc_range (lo := 0) (n := v + 1) (fun i H' => (∃ l', H' r = some (.lst l') ∧ RowL a l') ∧ (∀ b o, b ≠ r → b ≠ D → H b = some o → H' b = some o) ∧ ∃ bs : M, bs.length = i ∧ H' D = some (.lst ((bs.map fun b => tx [b]).map V.str))) ⟨⟨l1, by rw [upd_ne nDr.symm, upd_same], rl1⟩, fun b o h1 h2 e => by rw [upd_ne h2, upd_ne h1]; exact e, [], rfl, upd_same⟩ ?_ ?_
    · rintro i H1 hi ⟨⟨l2, e2, rl2⟩, keep, bs, hb, eD⟩
      have nD0 : H D = none := by rw [upd_ne nDr] at nD; exact nD
      have S2 : SqL K H1 a (ns.map V.int) := by
        rcases hS with (h | ⟨ob, h⟩) | h
        · have ne : a ≠ r := fun e => by
            rw [e, hl] at h
            obtain ⟨i0, x0, z0, el, _⟩ := rl
            rw [el] at h
            have q2 := HO.lst.inj (Option.some.inj h)
            cases ns with
            | nil => cases q2
            | cons n ns =>
              rw [List.map_cons, List.cons.injEq] at q2
              cases q2.1
          exact .inl (.inl (keep a _ ne (ne_of_none h nD0) h))
        · have ne : a ≠ r := fun e => by
            rw [e, hl] at h
            cases h
          exact .inl (.inr ⟨ob, keep a _ ne (ne_of_none h nD0) h⟩)
        · exact .inr h
      refine ⟨rfl, _, rfl, r, a, ns, l2, by rw [lit01]; rfl, e2, rl2, S2, fun b l3 rl3 => ⟨_, by rw [upd_ne nDr]; exact eD, ?_, ⟨l3, by rw [upd_ne nDr.symm, upd_same], rl3⟩, fun c o h1 h2 e => by rw [upd_ne h2, upd_ne h1]; exact keep c o h1 h2 e, bs ++ [b], by rw [List.length_append, hb]; rfl, ?_⟩⟩
      · rw [List.length_map, List.length_map, hb]
        exact small1000 (by omega)
      · rw [upd_same, List.map_append, List.map_append]
        rfl
    · rintro H1 ⟨⟨l2, e2, rl2⟩, keep, bs, hb, eD⟩
      have nD0 : H D = none := by rw [upd_ne nDr] at nD; exact nD
      refine ⟨_, D, bs.map fun b => tx [b], rfl, rfl, .inl (SqL.of eD), ?_, ?_⟩
      · have e1 : ((bs.map fun b => tx [b]).map (·.length)) = bs.map fun _ => 1 := by
          rw [List.map_map]
          refine List.map_congr_left fun b _ => ?_
          exact tx_len [b]
        have e3 : (bs.map fun _ => 1).sum = bs.length := by
          clear e1 eD hb
          induction bs with
          | nil => rfl
          | cons b bs ih => rw [List.map_cons, List.sum_cons, ih, List.length_cons]; omega
        rw [e1, e3, lit, tx_len, List.length_nil, Nat.mul_zero, hb]
        omega
      · rw [lit, join_tx]
        exact q bs H1 (by omega) (by omega) (fun b o h1 e => keep b o h1 (ne_of_none e nD0) e) ⟨l2, e2⟩
end
end RB

set_option maxRecDepth 100000
set_option maxHeartbeats 0
namespace RB
open PySem L2 PySem.Spec PyProof.Rows StX
theorem le_of_not {a b : List Nat} (h : ltCps b a = false) : a ≤ b := by
  rw [ltCps_eq] at h
  exact List.not_lt.mp (of_decide_eq_false h)
theorem rising_pw : ∀ (l : List Str) (p : Str), risingS p l = true → (p :: l).Pairwise fun a b => a.cps.toList ≤ b.cps.toList
  | [], p, _ => List.pairwise_singleton _ _
  | x :: l, p, h => by
    have h2 : (!ltCps x.cps.toList p.cps.toList && risingS x l) = true := h
    rw [Bool.and_eq_true] at h2
    have ih := rising_pw l x h2.2
    have hp : p.cps.toList ≤ x.cps.toList := le_of_not (by simpa using h2.1)
    refine List.pairwise_cons.mpr ⟨fun y hy => ?_, ih⟩
    cases (List.mem_cons.mp hy) with
    | inl e =>
      rw [e]
      exact hp
    | inr e => exact List.le_trans hp ((List.pairwise_cons.mp ih).1 y e)
theorem sorted_pw : ∀ l : List Str, sortedS l = true → l.Pairwise fun a b => a.cps.toList ≤ b.cps.toList
  | [], _ => .nil
  | x :: l, h => rising_pw l x h
theorem sorted_one {l k : List Str} (hl : sortedS l = true) (hk : sortedS k = true) (p : l.Perm k) : l = k :=
  List.Perm.eq_of_pairwise (fun a b _ _ h1 h2 => str_ext (List.le_antisymm h1 h2)) (sorted_pw l hl) (sorted_pw k hk) p
def dts (cs : List M) : List PyData := cs.map fun c => .str (tx c)
theorem dp_txs {K : PySem.W.Frag} {H : Hp} : ∀ cs : List M, DpAll K H (txs cs) (dts cs)
  | [] => .nil
  | c :: cs => .cons (.str _) (dp_txs cs)
theorem ok_tx (m : M) : PyData.strOk (tx m) = true := by
  unfold PyData.strOk
  rw [← Array.all_toList, tx_cps]
  refine List.all_eq_true.mpr fun c hc => ?_
  obtain ⟨b, _, rfl⟩ := List.mem_map.mp hc
  cases b <;> decide
theorem lay_dts : ∀ cs : List M, PyData.canLayAll0 (dts cs) = true
  | [] => rfl
  | c :: cs => by
    show (PyData.canLay0 (.str (tx c)) && PyData.canLayAll0 (dts cs)) = true
    rw [lay_dts cs, Bool.and_true]
    exact ok_tx c
theorem dep_dts : ∀ cs : List M, PyData.depthAll (dts cs) = 0
  | [] => by simp [dts, PyData.depthAll]
  | c :: cs => by
    have e : dts (c :: cs) = .str (tx c) :: dts cs := rfl
    rw [e, PyData.depthAll, dep_dts cs, PyData.depth]
    rfl
theorem shaped_tup (cs : List M) : SeqAt.shaped (.tuple (dts cs)) = true := by
  unfold SeqAt.shaped
  rw [PyData.depth, dep_dts]
  have h : PyData.canLay0 (.tuple (dts cs)) = true := by
    rw [PyData.canLay0]
    exact lay_dts cs
  rw [h]
  rfl
theorem shaped_nil : SeqAt.shaped (.list []) = true := by decide
theorem max_one {l : List Int} {a b : Int} (ha : a ∈ l) (hb : b ∈ l) (h1 : ∀ y, y ∈ l → y ≤ a) (h2 : ∀ y, y ∈ l → y ≤ b) : a = b := by
  have := h1 b hb
  have := h2 a ha
  omega
end RB

set_option maxRecDepth 100000
set_option maxHeartbeats 0
namespace RB
open PySem L2 PySem.Spec PyProof.Rows StX
/-- a def that stands under its name and keeps its promise -/
structure Cal (P : Program) (w : World) (K : PySem.W.Frag) (mg : Str → Option Value) (base : Heap) (k : Nat) (x : Str) (ps : List Str) (sp : Sp) : Prop where
  ex : ∃ (f : Addr) (fd : FuncData), FnOk P w K mg base CX0 k f fd ps sp ∧ PySem.W.keepIn K (.ref f) = true ∧ Binds K fd ps [] ∧ mg x = some (.ref f)
theorem pe_cal {X : Cx} {k : Nat} {x : Str} {ps : List Str} {sp : Sp} {e : Expr} {es : List Expr} {t : TA} {p pos : Pos} (C : Cal X.prog X.w X.K X.mg X.base k x ps sp) (hr : Room k X.A) (hg : Gl X x) (ha : PA X (e :: es) t)
    (hdb : (x == ("__debug__" : Str)) = false := by decide) (hst : starEach (e :: es) X.env = (false, eval e X.env) :: starEach es X.env := by rfl)
    (hpl : (backTo pos (starEach es X.env)).any (·.1) = false := by rfl) :
    PE X (.Call (.Name x p) (e :: es) [] pos) (tCall sp [] E0 t) := by
  obtain ⟨f, fd, F, hk, hb, hm⟩ := C.ex
  exact pe_call F hr hg hm hk hb .nil pass0 ha hdb hst hpl
theorem iteE {c : Bool} {A B : Prop} (h : c = false) (b : B) : if c = true then A else B := by
  rw [h]
  exact iteF b
theorem iteI {c : Bool} {A B : Prop} (h : c = true) (a : A) : if c = true then A else B := by
  rw [h]
  exact iteT a
theorem txs_get {cs : List M} {i : Nat} {v : V} (h : (txs cs)[i]? = some v) : ∃ c, c ∈ cs ∧ v = V.str (tx c) := by
  unfold txs at h
  rw [List.map_map, List.getElem?_map] at h
  cases e : cs[i]? with
  | none =>
    rw [e] at h
    cases h
  | some c =>
    rw [e] at h
    exact ⟨c, List.mem_of_getElem? e, (Option.some.inj h).symm⟩
theorem notd {p : Prop} [Decidable p] (h : p) : (!decide p) = false := by rw [decide_eq_true h]; rfl
def spotI (m : M) (i : Nat) : List Nat := (List.range i).filter fun k => (m[k]? == some false) && (decide (k + 1 = m.length) || (m[k + 1]? == some true))
theorem spotI_succ (m : M) (i : Nat) : (spotI m (i + 1)).length = (spotI m i).length + (if ((m[i]? == some false) && (decide (i + 1 = m.length) || (m[i + 1]? == some true))) = true then 1 else 0) := by
  unfold spotI
  rw [List.range_succ, List.filter_append, List.length_append]
  congr 1
  by_cases h : ((m[i]? == some false) && (decide (i + 1 = m.length) || (m[i + 1]? == some true))) = true
  · rw [if_pos h]
    simp only [List.filter_cons, h, if_true, List.filter_nil]
    rfl
  · rw [if_neg h]
    simp only [List.filter_cons, h, List.filter_nil]
    rfl
theorem spotI_len (m : M) (i : Nat) : (spotI m i).length ≤ i := Nat.le_trans (List.length_filter_le _ _) (by rw [List.length_range]; exact Nat.le_refl _)
theorem cntB_le (m : M) : cntB m ≤ m.length := List.count_le_length
section
variable {P : Program} {w : World} {K : PySem.W.Frag} {mg : Str → Option Value} {base : Heap} {ts : List Addr}
def spLaw (K : PySem.W.Frag) (ts : List Addr) : Sp := fun vs H Q _ => ∃ (a : Addr) (ns : List Int), vs = [.ref a] ∧ SqL K H a (ns.map V.int) ∧ Good ts H ∧ ∀ H', Q (.bl true) H'
theorem ok_law {f : Addr} {fd : FuncData} {k : Nat} (F : Fun K "law" "law" sLaw f fd) (T : Txt K mg)
    (cLM : Cal P w K mg base k "_law_memory" ["_law_row", "_law_most"] (spLMem K))
    (cRank : Cal P w K mg base k "rank" ["memory"] (spRankOf ts))
    (cRel : Cal P w K mg base k "relays_on" ["memory"] (spRelOn ts))
    (cCov : Cal P w K mg base k "covers" ["memory"] (spCovers ts))
    (cBel : Cal P w K mg base k "is_below" ["one", "other"] (spIsBelow ts))
    (cMeet : Cal P w K mg base k "meet" ["one", "other"] (spMeet ts meetM))
    (cJoin : Cal P w K mg base k "join" ["one", "other"] (spMeet ts joinM))
    (cAft : Cal P w K mg base k "after" ["memory", "steps"] (spAfter ts))
    (cRC : Cal P w K mg base k "rank_counts" ["span"] (spRankCounts ts))
    (cRW : Cal P w K mg base k "rank_width" ["span"] (spRankWidth ts)) :
    FnOk P w K mg base CX0 (k + 1) f fd ["_law_script"] (spLaw K ts) := by
  refine F.ok scLaw (fun vs H Q E h => ?_) (fun cdv A outer s H vs Q E hr h => ?_)
  · obtain ⟨a, ns, rfl, _⟩ := h
    rfl
  · obtain ⟨a, ns, rfl, hS, gd, q⟩ := h
    refine ⟨_, pss_cons (ps_set (i := 1) scLaw.nd rfl (.inl rfl) (pe_lst (pa_cons (pv 0) (pa_cons pe_int (pa_cons pe_int (pa_cons pe_int pa_nil))))))
      (pss_cons (ps_set (i := 2) scLaw.nd rfl (.inr rfl) (pe_cal cLM hr (by rfl) (pa_cons (pv 1) (pa_cons pe_int pa_nil))))
      (pss_cons (ps_asg (pe_tup (pa_cons (pe_callB call_len_str (by rfl) T.len PySem.boot_len (pa_cons (pv 2) pa_nil)) (pa_cons (pe_m1 PySem.F.slot_str_count PySem.F.type_str_count mt_count (pv 2) pe_str) pa_nil)))
        (pg_tup (by rfl) (pgs_cons (pg_name (i := 3) scLaw.nd rfl (.inr rfl)) (pgs_cons (pg_name (i := 4) scLaw.nd rfl (.inl rfl)) pgs_nil))))
      (pss_cons (ps_set (i := 5) scLaw.nd rfl (.inr rfl) (pe_cal cRank hr (by rfl) (pa_cons (pv 2) pa_nil)))
      (pss_cons (ps_if (pt_not (pt_chain op_le op_le (pe_op op_fdiv (pe_op op_mul (pv 4) (pe_op op_add (pv 4) pe_int)) pe_int) (pv 5) (pe_op op_sub (pe_op op_mul (pv 4) (pv 3)) (pe_op op_fdiv (pe_op op_mul (pv 4) (pe_op op_sub (pv 4) pe_int)) pe_int)))) (pss_one (ps_ret pe_bl)) pss_nil)
      (pss_cons (ps_if (pt_cmpR op_ne (pv 5) (pe_callB call_len_seq (by rfl) T.len PySem.boot_len (pa_cons (pe_cal cRel hr (by rfl) (pa_cons (pv 2) pa_nil)) pa_nil)) (nomark _)) (pss_one (ps_ret pe_bl)) pss_nil)
      (pss_cons (ps_set (i := 6) scLaw.nd rfl (.inl rfl) (pe_cal cCov hr (by rfl) (pa_cons (pv 2) pa_nil)))
      (pss_cons (ps_if (pt_cmpR (op_neD hr.units) (pe_lc (own := [("_law_one", 7)]) (g := gName 7) rfl scLaw.nd (pi_tup (pv 6))
          (blkOk_by (N := ["_law_script", "_law_row", "_law_memory_here", "_law_span", "_law_height", "_law_found", "_law_some", "_law_one", "_law_other", "_law_up", "_law_counts", "_law_k"]) (sc := defScope sLaw) (by decide +kernel))
          (fun _ _ _ _ _ => pg_name (i := 7) scLaw.nd rfl (Or.inl rfl))
          (fun _ _ _ _ _ => pts_one (PW.pt (pw_or (pt_cmpR op_ne (pe_cal cRank hr (by rfl) (pa_cons (pv 7) pa_nil)) (pe_op op_add (pv 5) pe_int) (nomark _)) (pw_or1 (pt_not (pt_val (pe_cal cBel hr (by rfl) (pa_cons (pv 2) (pa_cons (pv 7) pa_nil)))))))))
          (fun _ _ _ _ _ => pv 7)) (pe_lst pa_nil) (nomark _)) (pss_one (ps_ret pe_bl)) pss_nil)
      (pss_cons (ps_if (pt_cmpR (op_neD hr.units) (pv 6) (pe_callTy call_tuple_of (by rfl) T.tuple (by decide +kernel) (pa_cons (pe_callB cr_sortedTS (by rfl) T.sorted (by decide +kernel) (pa_cons (pv 6) pa_nil)) pa_nil)) (nomark _)) (pss_one (ps_ret pe_bl)) pss_nil)
      (pss_cons (ps_for PassesOwn.never rfl (pi_tup (pv 6)) (pg_name (i := 7) scLaw.nd rfl (.inl rfl)) (pss_one (ps_for PassesOwn.never rfl (pi_tup (pv 6)) (pg_name (i := 8) scLaw.nd rfl (.inl rfl))
        (pss_one (ps_if (PW.pt (pw_and (pt_cmpR op_ne (pv 7) (pv 8) (nomark _)) (pw_and1 (PW.pt (pw_or (pt_cmpR op_ne (pe_cal cMeet hr (by rfl) (pa_cons (pv 7) (pa_cons (pv 8) pa_nil))) (pv 2) (nomark _))
          (pw_or1 (pt_cmpR op_ne (pe_cal cRank hr (by rfl) (pa_cons (pe_cal cJoin hr (by rfl) (pa_cons (pv 7) (pa_cons (pv 8) pa_nil))) pa_nil)) (pe_op op_add (pv 5) pe_int) (nomark _)))))))) (pss_one (ps_ret pe_bl)) pss_nil)))))
      (pss_cons (ps_if (pt_cmpR op_ne (pe_callB call_len_seq (by rfl) T.len PySem.boot_len (pa_cons (pv 6) pa_nil)) (pe_callB call_len_seq (by rfl) T.len PySem.boot_len (pa_cons
          (pe_lc (own := [("_law_k", 11)]) (g := gName 11) rfl scLaw.nd (pi_range1 (by rfl) T.range (pa_cons (pv 3) pa_nil))
            (blkOk_by (N := ["_law_script", "_law_row", "_law_memory_here", "_law_span", "_law_height", "_law_found", "_law_some", "_law_one", "_law_other", "_law_up", "_law_counts", "_law_k"]) (sc := defScope sLaw) (by decide +kernel))
            (fun _ _ _ _ _ => pg_name (i := 11) scLaw.nd rfl (Or.inl rfl))
            (fun _ _ _ _ _ => pts_one (PW.pt (pw_and (pt_cmpR op_eq (pe_ix ix_str (pv 2) (pv 11) (fun _ _ => rfl)) pe_str (nomark _)) (pw_and1 (PW.pt (pw_or (pt_cmpR op_eq (pe_op op_add (pv 11) pe_int) (pv 3) (nomark _)) (pw_or1 (pt_cmpR op_eq (pe_ix ix_str (pv 2) (pe_op op_add (pv 11) pe_int) (fun _ _ => rfl)) pe_str (nomark _)))))))))
            (fun _ _ _ _ _ => pv 11)) pa_nil)) (nomark _)) (pss_one (ps_ret pe_bl)) pss_nil)
      (pss_cons (ps_set (i := 9) scLaw.nd rfl (.inl rfl) (pe_cal cAft hr (by rfl) (pa_cons (pv 2) (pa_cons pe_str pa_nil))))
      (pss_cons (ps_if (PW.pt (pw_and (pt_cmpR op_ne (pv 9) (pv 2) (nomark _)) (pw_and1 (pt_cmpR op_ne (pe_op op_sub (pe_cal cRank hr (by rfl) (pa_cons (pv 9) pa_nil)) (pv 5)) (pe_op op_sub (pv 3) (pe_m1 PySem.F.slot_str_rfind PySem.F.type_str_rfind mt_rfind (pv 2) pe_str)) (nomark _))))) (pss_one (ps_ret pe_bl)) pss_nil)
      (pss_cons (ps_set (i := 10) scLaw.nd rfl (.inl rfl) (pe_cal cRC hr (by rfl) (pa_cons (pv 3) pa_nil)))
      (pss_one (ps_ret (pe_and (pe_cmpR op_ge (pe_ix ix_tup (pv 10) (pv 5) (fun _ _ => rfl)) pe_int (nomark _))
        (pe_and (pe_cmpR op_eq (pe_cal cRW hr (by rfl) (pa_cons (pv 3) pa_nil)) (pe_callB (cr_maxT rfl hr.units) (by rfl) T.max (by decide +kernel) (pa_cons (pv 10) pa_nil)) (nomark _))
        (pe_and (pe_cmpR op_eq (pe_ix ix_tup (pv 10) pe_int (fun _ _ => rfl)) pe_int (nomark _))
        (pe_one (pe_cmpR op_eq (pe_callB call_len_seq (by rfl) T.len PySem.boot_len (pa_cons (pv 10) pa_nil)) (pe_op op_add (pe_op op_fdiv (pe_op op_mul (pv 3) (pe_op op_add (pv 3) pe_int)) pe_int) pe_int) (nomark _))))))))))))))))))))), ?_⟩
    -- the drawing row
    refine ⟨_, rfl, by show 4 ≤ sizeLine; exact small_of (by omega), fun r nr => ?_⟩
    have goR : Go ts H (upd H r (.lst [.ref a, .int 0, .int 5593, .int 0])) := Go.new gd nr
    -- the memory
    refine ⟨_, rfl, r, a, ns, _, rfl, upd_same, ⟨0, 5593, 0, rfl, by decide, by decide⟩, goR.seq gd hS, fun m H1 h1 h2 rest ⟨lo, er⟩ => ?_⟩
    have go1 : Go ts H H1 := ⟨fun b o nb e => rest b o (ne_of_none e nr) (by rw [upd_ne (ne_of_none e nr)]; exact e), fun p hp => by
      obtain ⟨ps, e, z⟩ := gd p hp
      exact ⟨ps, rest p _ (ne_of_none e nr) (by rw [upd_ne (ne_of_none e nr)]; exact e), z⟩⟩
    have L := law_ok m h1 h2
    have hc9 := cntB_le m
    have szm : (tx m).length ≤ sizeLine := by rw [tx_len]; exact small_of (by omega)
    -- its span and height
    refine ⟨_, rfl, tx m, rfl, szm, _, rfl, ⟨_, rfl⟩, _, _, rfl, rfl, by show 2 ≤ sizeLine; exact small_of (by omega), fun t nt => ?_⟩
    have ec : Txt.count (tx m) "1" = ((cntB m : Nat) : Int) := by rw [lit1]; exact tx_count m
    rw [ec, tx_len]
    refine ⟨t, _, rfl, .inl (.inl upd_same), rfl, _, _, rfl, _, _, rfl, rfl, ?_⟩
    have goT : Go ts H1 (upd H1 t (.tup [.int ((m.length : Nat) : Int), .int ((cntB m : Nat) : Int)])) := Go.new go1.good nt
    generalize (upd H1 t (.tup [.int ((m.length : Nat) : Int), .int ((cntB m : Nat) : Int)])) = H2 at goT ⊢
    -- rank
    refine ⟨_, rfl, m, rfl, h1, h2, goT.good, fun H3 go3 => ?_⟩
    -- between the least and the greatest
    have cm : ∀ j : Int, CMul ((cntB m : Nat) : Int) j := fun j => .inl ⟨by omega, by omega⟩
    refine ⟨_, rfl, _, rfl, _, _, rfl, rfl, _, _, rfl, rfl, cm _, _, _, rfl, rfl, ⟨by decide, by decide⟩, _, rfl, _, _, rfl, rfl, true, bl_t L.lo, iteT ?_⟩
    refine ⟨_, rfl, _, rfl, _, _, rfl, rfl, cm _, _, rfl, _, rfl, _, _, rfl, rfl, _, _, rfl, rfl, cm _, _, _, rfl, rfl, ⟨by decide, by decide⟩, _, _, rfl, rfl, _, _, rfl, rfl, true, bl_t L.hi, iteF ?_⟩
    -- the number of relays that are on
    refine ⟨_, rfl, _, rfl, m, rfl, h1, h2, go3.good, fun H4 D4 xs go4 n4 hl4 e4 => ⟨D4, xs, rfl, .inr (.inl (.inl e4)), rfl, _, rfl, iteE (notd ?_) ?_⟩⟩
    · rw [L.on, hl4]
    -- covers
    refine ⟨_, rfl, m, rfl, h1, h2, go4.good, fun H5 S cs go5 n5 hp hs eS => ?_⟩
    have inC : ∀ c, c ∈ cs → c ∈ covL m := fun c hc => hp.mem_iff.mp hc
    have sS : SqT K H5 S (txs cs) := .inl (.inl eS)
    -- each one rank higher and above
    refine ⟨_, rfl, S, rfl, ⟨_, sS⟩, fun D nD => lc_tup (K := K) (a := S) (xs := txs cs) (fun i H' => Go ts H5 H' ∧ H' D = some (.lst [])) ⟨Go.new go5.good nD, upd_same⟩ (fun i H' _ ⟨go, _⟩ => go.seqT go5.good sS) ?_ ?_⟩
    · rintro i v H6 hv ⟨go6, eD⟩
      obtain ⟨c, hc, rfl⟩ := txs_get hv
      obtain ⟨q1, q2, q3⟩ := L.cov c (inC c hc)
      refine ⟨rfl, _, rfl, c, rfl, by omega, by omega, go6.good, fun H7 go7 => ⟨_, rfl, _, _, rfl, rfl, rfl, _, rfl, iteE (notd (by rw [q1])) ?_⟩⟩
      refine ⟨_, rfl, _, rfl, m, c, rfl, h1, h2, q3, go7.good, fun H8 go8 => ⟨_, rfl, iteE (by rw [q2]; rfl) ⟨go6.trans (go7.trans go8), go8.lst go7.good (go7.lst go6.good eD)⟩⟩⟩
    rintro H6 ⟨go6, eD⟩
    refine ⟨Nat.zero_le _, fun Z nZ => ?_⟩
    have goZ : Go ts H6 (upd H6 Z (.lst [])) := Go.new go6.good nZ
    refine ⟨.list [], .list [], .lst (SqL.of (goZ.lst go6.good eD)) .nil, .lst (SqL.of upd_same) .nil, shaped_nil, shaped_nil, _, rfl, iteE rfl ?_⟩
    generalize (upd H6 Z (.lst [])) = H7 at goZ ⊢
    have sS7 : SqT K H7 S (txs cs) := goZ.seqT go6.good (go6.seqT go5.good sS)
    have lcs : cs.length ≤ 9 := by
      rw [hp.length_eq]
      exact Nat.le_trans (covI_len m m.length) h2
    -- ascending
    refine ⟨_, rfl, _, rfl, S, cs.map tx, rfl, sS7, by rw [List.length_map]; omega, fun ys p8 hp8 hs8 np8 => ?_⟩
    have eys : ys = cs.map tx := sorted_one hs8 hs hp8
    subst eys
    have go8 : Go ts H7 (upd H7 p8 (.lst ((cs.map tx).map V.str))) := Go.new goZ.good np8
    refine ⟨p8, _, rfl, .inl ⟨SqL.of upd_same, fun p9 np9 => ?_⟩⟩
    have go9 : Go ts (upd H7 p8 (.lst ((cs.map tx).map V.str))) (upd (upd H7 p8 (.lst ((cs.map tx).map V.str))) p9 (.tup ((cs.map tx).map V.str))) := Go.new go8.good np9
    have sS9 := go9.seqT go8.good (go8.seqT goZ.good sS7)
    refine ⟨.tuple (dts cs), .tuple (dts cs), .tup sS9 (dp_txs cs), .tup (.inl (.inl upd_same)) (dp_txs cs), shaped_tup cs, shaped_tup cs, _, rfl, iteE ?_ ?_⟩
    · have z := SeqAt.eqv_refl (.tuple (dts cs)) (SeqAt.canLay_of_shaped (shaped_tup cs))
      show (!PyData.eqv (.tuple (dts cs)) (.tuple (dts cs))) = false
      rw [z]
      rfl
    generalize (upd (upd H7 p8 (.lst ((cs.map tx).map V.str))) p9 (.tup ((cs.map tx).map V.str))) = H9 at go9 sS9 ⊢
    have goA : Good ts H9 := go9.good
    -- two covers
    refine ⟨_, rfl, S, rfl, ⟨_, sS9⟩, for_tup (K := K) (a := S) (xs := txs cs) (fun i σ H' => ∃ y7 y8, σ = [some (.ref a), some (.ref r), some (.str (tx m)), some (.int ((m.length : Nat) : Int)), some (.int ((cntB m : Nat) : Int)), some (.int (rankI m)), some (.ref S), y7, y8, none, none, none] ∧ Go ts H9 H') ⟨none, none, rfl, Go.refl goA⟩ (fun i σ H' _ ⟨_, _, _, go⟩ => go.seqT goA sS9) ?_ ?_⟩
    · rintro i v σ H10 hv ⟨y7, y8, rfl, go10⟩
      obtain ⟨c, hc, rfl⟩ := txs_get hv
      refine ⟨_, rfl, S, rfl, ⟨_, go10.seqT goA sS9⟩, for_tup (K := K) (a := S) (xs := txs cs) (fun i σ H' => ∃ y8, σ = [some (.ref a), some (.ref r), some (.str (tx m)), some (.int ((m.length : Nat) : Int)), some (.int ((cntB m : Nat) : Int)), some (.int (rankI m)), some (.ref S), some (.str (tx c)), y8, none, none, none] ∧ Go ts H9 H') ⟨y8, rfl, go10⟩ (fun i σ H' _ ⟨_, _, go⟩ => go.seqT goA sS9) ?_ ?_⟩
      · rintro j v σ H11 hv ⟨y8, rfl, go11⟩
        obtain ⟨d, hd, rfl⟩ := txs_get hv
        have q3 := (L.cov c (inC c hc)).2.2
        have q4 := (L.cov d (inC d hd)).2.2
        refine ⟨_, rfl, _, rfl, rfl, _, rfl, ?_⟩
        rw [vtx_eq]
        by_cases e : c = d
        · refine iteE (notd e) (iteE rfl ⟨_, rfl, go11⟩)
        · obtain ⟨q5, q6, q7⟩ := L.two c (inC c hc) d (inC d hd) e
          refine iteI (by rw [decide_eq_false e]; rfl) ?_
          refine ⟨_, rfl, _, rfl, c, d, rfl, by omega, by omega, by omega, go11.good, fun H12 go12 => ⟨_, rfl, rfl, _, rfl, iteE (notd (by rw [q5])) ?_⟩⟩
          refine ⟨_, rfl, _, rfl, c, d, rfl, by omega, by omega, by omega, go12.good, fun H13 go13 => ?_⟩
          refine ⟨joinM c d, rfl, by omega, by omega, go13.good, fun H14 go14 => ⟨_, rfl, _, _, rfl, rfl, rfl, _, rfl, iteE (notd (by rw [q6])) ⟨_, rfl, go11.trans (go12.trans (go13.trans go14))⟩⟩⟩
      · rintro σ H11 ⟨y8, rfl, go11⟩
        exact ⟨_, _, rfl, go11⟩
    rintro σ H10 ⟨y7, y8, rfl, go10⟩
    have sS10 := go10.seqT goA sS9
    -- how many covers
    refine ⟨_, rfl, S, _, rfl, .inr sS10, _, rfl, _, rfl, by omega, by omega, fun D11 nD11 => ?_⟩
    have e0m : (((m.length : Nat) : Int)).toNat = m.length := rfl
    rw [e0m]
    refine lc_range (lo := 0) (n := m.length) (fun i H' => Go ts H10 H' ∧ ∃ ys, H' D11 = some (.lst ys) ∧ ys.length = (spotI m i).length) ⟨Go.new go10.good nD11, [], upd_same, rfl⟩ ?_ ?_
    · rintro i H11 hi ⟨go11, ys, eD, ly⟩
      have e0 : (0 : Int) + (i : Int) = ((i : Nat) : Int) := by omega
      obtain ⟨b, hb⟩ : ∃ b, m[i]? = some b := ⟨m[i], List.getElem?_eq_getElem hi⟩
      have eat : atI (tx m).cps.toList (0 + (i : Int)) = some (sg b) := by
        rw [e0]
        refine atI_nat ?_
        rw [Array.getElem?_toList]
        exact tx_at hb
      have nDs : D11 ∉ ts := go10.good.nin nD11
      have yes : ((m[i]? == some false) && (decide (i + 1 = m.length) || (m[i + 1]? == some true))) = true → ∀ H', H' = H11 → ∃ acc, H' D11 = some (.lst acc) ∧ acc.length < sizeLine ∧ Go ts H10 (upd H' D11 (.lst (acc ++ [.int (0 + (i : Int))]))) ∧ ∃ ys, (upd H' D11 (.lst (acc ++ [.int (0 + (i : Int))]))) D11 = some (.lst ys) ∧ ys.length = (spotI m (i + 1)).length := by
        rintro hy H' rfl
        have := spotI_len m i
        exact ⟨ys, eD, small1000 (by omega), go11.over go10.good nD11 nDs, _, upd_same, by rw [List.length_append, ly, spotI_succ, if_pos hy]; rfl⟩
      have no : ¬ ((m[i]? == some false) && (decide (i + 1 = m.length) || (m[i + 1]? == some true))) = true → Go ts H10 H11 ∧ ∃ ys, H11 D11 = some (.lst ys) ∧ ys.length = (spotI m (i + 1)).length := fun hn => ⟨go11, ys, eD, by rw [ly, spotI_succ, if_neg hn]; rfl⟩
      have e4 : decide (V.str ⟨#[sg b]⟩ = V.str "0") = decide (b = false) := by
        rw [lit0]
        have z := vtx_eq [b] [false]
        rw [tx_one b] at z
        rw [z]
        cases b <;> decide
      refine ⟨rfl, _, rfl, _, rfl, tx m, _, _, rfl, rfl, szm, eat, rfl, _, rfl, ?_⟩
      rw [e4]
      by_cases hbf : b = false
      · refine iteI (decide_eq_true hbf) ?_
        have hb0 : (m[i]? == some false) = true := by rw [hb, hbf]; rfl
        refine ⟨_, rfl, _, _, rfl, rfl, _, rfl, rfl, _, rfl, ?_⟩
        have e5 : decide (V.int (0 + (i : Int) + 1) = V.int ((m.length : Nat) : Int)) = decide (i + 1 = m.length) := by
          by_cases z : i + 1 = m.length
          · rw [decide_eq_true z, decide_eq_true (by rw [← z]; exact congrArg V.int (by omega))]
          · rw [decide_eq_false z, decide_eq_false fun y => z (by have := V.int.inj y; omega)]
        rw [e5]
        by_cases hn : i + 1 = m.length
        · refine iteI (decide_eq_true hn) (iteI rfl ⟨_, rfl, yes (by rw [hb0, decide_eq_true hn]; rfl) _ rfl⟩)
        · refine iteE (decide_eq_false hn) ?_
          obtain ⟨b2, hb2⟩ : ∃ b, m[i + 1]? = some b := ⟨m[i + 1], List.getElem?_eq_getElem (by omega)⟩
          have eat2 : atI (tx m).cps.toList (0 + (i : Int) + 1) = some (sg b2) := by
            rw [show (0 : Int) + (i : Int) + 1 = ((i + 1 : Nat) : Int) by omega]
            refine atI_nat ?_
            rw [Array.getElem?_toList]
            exact tx_at hb2
          have e6 : decide (V.str ⟨#[sg b2]⟩ = V.str "1") = decide (b2 = true) := by
            rw [lit1]
            have z := vtx_eq [b2] [true]
            rw [tx_one b2] at z
            rw [z]
            cases b2 <;> decide
          refine ⟨_, rfl, _, rfl, _, _, rfl, rfl, tx m, _, _, rfl, rfl, szm, eat2, rfl, _, rfl, ?_⟩
          rw [e6]
          by_cases hbt : b2 = true
          · exact iteI (decide_eq_true hbt) ⟨_, rfl, yes (by rw [hb0, hb2, hbt, decide_eq_false hn]; rfl) _ rfl⟩
          · exact iteE (decide_eq_false hbt) (no (by rw [hb0, hb2, decide_eq_false hn]; simpa using hbt))
      · refine iteE (decide_eq_false hbf) (iteE rfl (no ?_))
        rw [hb]
        cases b
        · exact absurd rfl hbf
        · simp
    rintro H11 ⟨go11, ys, eD, ly⟩
    refine ⟨D11, ys, rfl, .inl (SqL.of eD), rfl, _, rfl, iteE (notd ?_) ?_⟩
    · rw [txs_len, ly, hp.length_eq, L.many]
      rfl
    -- a step up
    refine ⟨_, rfl, m, rfl, h1, h2, go11.good, fun H12 go12 => ?_⟩
    refine ⟨_, rfl, _, rfl, rfl, _, rfl, ?_⟩
    rw [vtx_eq]
    obtain ⟨rk, z, erk, ez, hz⟩ := L.byr
    have hpos : 0 < (byRank m.length).length := by
      exact (List.getElem?_eq_some_iff.mp L.first).1
    by_cases e : upM m = m
    · refine iteE (notd e) (iteE rfl ?_)
      have gX := go12.good
      generalize H12 = HX at gX ⊢
      refine ⟨_, rfl, m.length, rfl, h1, h2, gX, fun H14 D14 go14 n14 e14 => ?_⟩
      have atR : atI ((byRank m.length).map V.int) (rankI m) = some (.int z) := by
        rw [erk]
        refine atI_nat ?_
        rw [List.getElem?_map, ez]
        rfl
      have at0 : atI ((byRank m.length).map V.int) ((0 : Nat) : Int) = some (.int 1) := by
        refine atI_nat ?_
        rw [List.getElem?_map, L.first]
        rfl
      refine ⟨_, rfl, _, rfl, D14, _, _, .int z, rfl, rfl, .inl (.inl e14), atR, _, _, rfl, rfl, _, rfl, iteI (decide_eq_true hz) ?_⟩
      refine ⟨_, rfl, m.length, rfl, h1, h2, hpos, go14.good, fun H15 zw go15 hm hM => ?_⟩
      have e15 := go15.tup go14.good e14
      refine ⟨_, rfl, D14, _, rfl, .inl (.inl e15), hpos, fun mx hmx hMx => ⟨rfl, _, rfl, iteI (decide_eq_true (congrArg V.int (max_one hm hmx hM hMx))) ?_⟩⟩
      refine ⟨_, rfl, D14, _, _, .int 1, rfl, rfl, .inl (.inl e15), at0, rfl, _, rfl, iteI (decide_eq_true rfl) ?_⟩
      refine ⟨_, rfl, D14, _, rfl, .inr (.inl (.inl e15)), _, rfl, _, rfl, _, _, rfl, rfl, _, _, rfl, rfl, .inl ⟨by omega, by omega⟩, _, _, rfl, rfl, ⟨by decide, by decide⟩, _, _, rfl, rfl, rfl, ?_⟩
      have es : V.int ((((byRank m.length).map V.int).length : Nat) : Int) = V.int (((m.length : Nat) : Int) * (((m.length : Nat) : Int) + 1) / 2 + 1) := by
        rw [List.length_map]
        exact congrArg V.int L.size
      rw [decide_eq_true es]
      exact q _
    · refine iteI (by rw [decide_eq_false e]; rfl) ?_
      obtain ⟨kz, hkz⟩ : ∃ kz, lastZ m = some kz := by
        cases hk : lastZ m with
        | none =>
          refine absurd ?_ e
          unfold upM
          rw [hk]
        | some kz => exact ⟨kz, rfl⟩
      have er : Txt.rfind (tx m) "0" = ((kz : Nat) : Int) := by
        rw [lit0, tx_rfind m false]
        unfold lastZ at hkz
        rw [hkz]
      refine ⟨_, rfl, upM m, rfl, by rw [upM_len]; exact h1, by rw [upM_len]; exact h2, go12.good, fun HX goX => ?_⟩
      refine ⟨_, rfl, _, _, rfl, rfl, _, rfl, _, rfl, ⟨_, rfl⟩, _, _, rfl, rfl, _, _, rfl, rfl, rfl, _, rfl, iteE (notd (by rw [er]; exact congrArg V.int (L.up kz hkz))) ?_⟩
      have gX := goX.good
      refine ⟨_, rfl, m.length, rfl, h1, h2, gX, fun H14 D14 go14 n14 e14 => ?_⟩
      have atR : atI ((byRank m.length).map V.int) (rankI m) = some (.int z) := by
        rw [erk]
        refine atI_nat ?_
        rw [List.getElem?_map, ez]
        rfl
      have at0 : atI ((byRank m.length).map V.int) ((0 : Nat) : Int) = some (.int 1) := by
        refine atI_nat ?_
        rw [List.getElem?_map, L.first]
        rfl
      refine ⟨_, rfl, _, rfl, D14, _, _, .int z, rfl, rfl, .inl (.inl e14), atR, _, _, rfl, rfl, _, rfl, iteI (decide_eq_true hz) ?_⟩
      refine ⟨_, rfl, m.length, rfl, h1, h2, hpos, go14.good, fun H15 zw go15 hm hM => ?_⟩
      have e15 := go15.tup go14.good e14
      refine ⟨_, rfl, D14, _, rfl, .inl (.inl e15), hpos, fun mx hmx hMx => ⟨rfl, _, rfl, iteI (decide_eq_true (congrArg V.int (max_one hm hmx hM hMx))) ?_⟩⟩
      refine ⟨_, rfl, D14, _, _, .int 1, rfl, rfl, .inl (.inl e15), at0, rfl, _, rfl, iteI (decide_eq_true rfl) ?_⟩
      refine ⟨_, rfl, D14, _, rfl, .inr (.inl (.inl e15)), _, rfl, _, rfl, _, _, rfl, rfl, _, _, rfl, rfl, .inl ⟨by omega, by omega⟩, _, _, rfl, rfl, ⟨by decide, by decide⟩, _, _, rfl, rfl, rfl, ?_⟩
      have es : V.int ((((byRank m.length).map V.int).length : Nat) : Int) = V.int (((m.length : Nat) : Int) * (((m.length : Nat) : Int) + 1) / 2 + 1) := by
        rw [List.length_map]
        exact congrArg V.int L.size
      rw [decide_eq_true es]
      exact q _
end
end RB

set_option maxRecDepth 100000
set_option maxHeartbeats 0
namespace RB
open PySem L2 PySem.Spec PyProof.Rows
/-! ### what the top has written -/
structure DefAt (K : PySem.W.Frag) (x : Str) (st : Stmt) : Prop where
  ex : ∃ (f : Addr) (fd : FuncData), PySem.W.nsIn K mainGlobals x = some (some (.ref f)) ∧ Fun K x x st f fd
theorem def_at {K : PySem.W.Frag} {x : Str} {st : Stmt} {f : Addr} {od an : Option Addr} {sl : Array (Option Value)} {oc kV dc pm cd ct : Value}
    (a : PySem.W.nsIn K mainGlobals x = some (some (.ref f))) (l : K.lookup f = some ⟨oc, od, .func (PySem.W.fnOf x x (defArgs st) (defBody st) (defScope st) .none kV dc pm an cd ct), sl⟩) (c : PySem.W.codeIn K cd x = true) (k : PySem.W.keepIn K (.ref f) = true) : DefAt K x st :=
  ⟨f, _, a, fun_mk l c k⟩
structure DefTab (K : PySem.W.Frag) (x : Str) (st : Stmt) (c p : Addr) : Prop where
  ex : ∃ (f : Addr) (fd : FuncData), PySem.W.nsIn K mainGlobals x = some (some (.ref f)) ∧ FunC K x x st f fd c
  tab : PySem.W.tabIn K x = some (c, p)
theorem tab_at {K : PySem.W.Frag} {x : Str} {st : Stmt} {f c p : Addr} {od an od2 : Option Addr} {sl sl2 : Array (Option Value)} {oc kV dc pm ct oc2 : Value} {vs : Array Value}
    (a : PySem.W.nsIn K mainGlobals x = some (some (.ref f))) (l : K.lookup f = some ⟨oc, od, .func (PySem.W.fnOf x x (defArgs st) (defBody st) (defScope st) .none kV dc pm an (.ref c) ct), sl⟩) (h : PySem.W.codeIn K (.ref c) x = true) (k : PySem.W.keepIn K (.ref f) = true)
    (lc : K.lookup c = some ⟨oc2, od2, .fields vs, sl2⟩) (hv : vs[11]? = some (.ref p)) : DefTab K x st c p := by
  refine ⟨⟨f, _, a, funC_mk l h k⟩, ?_⟩
  unfold PySem.W.tabIn
  rw [a]
  dsimp only
  rw [l]
  dsimp only [PySem.W.fnOf]
  rw [lc]
  dsimp only
  rw [hv]
theorem no_tab {K : PySem.W.Frag} {h : Heap} {p : Addr} (X : K.In h) (nt : PySem.W.noTabs K = true) (e : h.get? p = some (PySem.W.tabObj #[])) : K.lookup p = none := by
  cases q : K.lookup p with
  | none => rfl
  | some o =>
    have e2 := X p o q
    rw [e] at e2
    have e3 : o = PySem.W.tabObj #[] := (Option.some.inj e2).symm
    subst e3
    have z := List.all_eq_true.mp nt (p, PySem.W.tabObj #[]) (PySem.W.mem_of_lookupK q)
    exact absurd (show false = true from z) Bool.false_ne_true
theorem cal_mk {P : Program} {w : World} {K : PySem.W.Frag} {mg : Str → Option Value} {base : Heap} {j k : Nat} {x : Str} {ps : List Str} {sp : Sp} {f : Addr} {fd : FuncData} (G : FnOk P w K mg base CX0 j f fd ps sp) (hj : j ≤ k) (kp : PySem.W.keepIn K (.ref f) = true) (b : Binds K fd ps []) (g : mg x = some (.ref f)) : Cal P w K mg base k x ps sp :=
  ⟨f, fd, G.mono hj, kp, b, g⟩
theorem fns_ok {P : Program} {w : World} {K : PySem.W.Frag} {h : Heap} {mg : Str → Option Value} {fa : Addr} {c_ismemory p_ismemory c_isinput p_isinput c_below p_below : Addr} {t9 t200 : Tok} (X : K.In h) (G : h.Ns mainGlobals mg) (hfa : mg "law" = some (.ref fa))
    (d_isin : DefAt K "is_in" sIsIn)
    (d_needmemory : DefAt K "need_memory" sNeedMem)
    (d_needinput : DefAt K "need_input" sNeedInp)
    (d_needspan : DefAt K "need_span" sNeedSpan)
    (d_step : DefAt K "step" sStep)
    (d_behind : DefAt K "behind" sBehind)
    (d_after : DefAt K "after" sAfter)
    (d_needpair : DefAt K "need_pair" sNeedPair)
    (d_counts : DefAt K "counts" sCounts)
    (d_isbelow : DefAt K "is_below" sIsBelow)
    (d_fromcounts : DefAt K "from_counts" sFromC)
    (d_meet : DefAt K "meet" sMeet)
    (d_join : DefAt K "join" sJoin)
    (d_rankof : DefAt K "rank_of" sRankOf)
    (d_rank : DefAt K "rank" sRank)
    (d_countsbyrank : DefAt K "counts_by_rank" sByRank)
    (d_rankcounts : DefAt K "rank_counts" sRankCounts)
    (d_rankwidth : DefAt K "rank_width" sRankWidth)
    (d_coversof : DefAt K "covers_of" sCoversOf)
    (d_covers : DefAt K "covers" sCovers)
    (d_allrelays : DefAt K "all_relays" sAllRel)
    (d_place : DefAt K "place" sPlace)
    (d_holds : DefAt K "holds" sHolds)
    (d_onin : DefAt K "on_in" sOnIn)
    (d_relayson : DefAt K "relays_on" sRelOn)
    (d_lawtaken : DefAt K "_law_taken" sTaken)
    (d_lawpick : DefAt K "_law_pick" sPick)
    (d_lawmemory : DefAt K "_law_memory" sLMem)
    (d_law : DefAt K "law" sLaw)
    (d_ismemory : DefTab K "is_memory" sIsMem c_ismemory p_ismemory)
    (d_isinput : DefTab K "is_input" sIsInp c_isinput p_isinput)
    (d_below : DefTab K "below" sBelow c_below p_below)
    (z_len : PySem.W.nsIn K mainGlobals "len" = some none) (z_zip : PySem.W.nsIn K mainGlobals "zip" = some none) (z_all : PySem.W.nsIn K mainGlobals "all" = some none) (z_isinstance : PySem.W.nsIn K mainGlobals "isinstance" = some none) (z_int : PySem.W.nsIn K mainGlobals "int" = some none) (z_bool : PySem.W.nsIn K mainGlobals "bool" = some none) (z_str : PySem.W.nsIn K mainGlobals "str" = some none) (z_range : PySem.W.nsIn K mainGlobals "range" = some none) (z_sum : PySem.W.nsIn K mainGlobals "sum" = some none) (z_min : PySem.W.nsIn K mainGlobals "min" = some none) (z_max : PySem.W.nsIn K mainGlobals "max" = some none) (z_tuple : PySem.W.nsIn K mainGlobals "tuple" = some none) (z_sorted : PySem.W.nsIn K mainGlobals "sorted" = some none) (z_enumerate : PySem.W.nsIn K mainGlobals "enumerate" = some none)
    (m_9 : PySem.W.nsIn K mainGlobals "MOST_SPAN" = some (some (.int 9 t9))) (m_200 : PySem.W.nsIn K mainGlobals "MOST_STEPS" = some (some (.int 200 t200))) :
    ∃ fd : FuncData, (∀ (s : Shared) (u : Value), BindsTo s fd ⟨[u], []⟩ [("_law_script", u)]) ∧ ∀ base : Heap, GxR.TabB base mg c_ismemory p_ismemory → GxR.TabB base mg c_isinput p_isinput → GxR.TabB base mg c_below p_below → FnOk P w K mg base CX0 5 fa fd ["_law_script"] (spLaw K [p_ismemory, p_isinput, p_below]) := by
  have T : Txt K mg := ⟨PySem.W.mg_none_of X G z_len, PySem.W.mg_none_of X G z_zip, PySem.W.mg_none_of X G z_all, PySem.W.mg_none_of X G z_isinstance, PySem.W.mg_none_of X G z_int, PySem.W.mg_none_of X G z_bool, PySem.W.mg_none_of X G z_str, PySem.W.mg_none_of X G z_range, PySem.W.mg_none_of X G z_sum, PySem.W.mg_none_of X G z_min, PySem.W.mg_none_of X G z_max, PySem.W.mg_none_of X G z_tuple, PySem.W.mg_none_of X G z_sorted, PySem.W.mg_none_of X G z_enumerate, ⟨t9, PySem.W.mg_of X G m_9⟩, ⟨t200, PySem.W.mg_of X G m_200⟩⟩
  obtain ⟨f_isin, fd_isin, a_isin, F_isin⟩ := d_isin
  have g_isin := PySem.W.mg_of X G a_isin
  have b_isin := F_isin.binds (ps := ["value", "least", "most"]) fun _ _ _ _ _ _ us hl => match us, hl with | [_, _, _], _ => rfl
  obtain ⟨f_needmemory, fd_needmemory, a_needmemory, F_needmemory⟩ := d_needmemory
  have g_needmemory := PySem.W.mg_of X G a_needmemory
  have b_needmemory := F_needmemory.binds (ps := ["memory"]) fun _ _ _ _ _ _ us hl => match us, hl with | [_], _ => rfl
  obtain ⟨f_needinput, fd_needinput, a_needinput, F_needinput⟩ := d_needinput
  have g_needinput := PySem.W.mg_of X G a_needinput
  have b_needinput := F_needinput.binds (ps := ["steps"]) fun _ _ _ _ _ _ us hl => match us, hl with | [_], _ => rfl
  obtain ⟨f_needspan, fd_needspan, a_needspan, F_needspan⟩ := d_needspan
  have g_needspan := PySem.W.mg_of X G a_needspan
  have b_needspan := F_needspan.binds (ps := ["span"]) fun _ _ _ _ _ _ us hl => match us, hl with | [_], _ => rfl
  obtain ⟨f_step, fd_step, a_step, F_step⟩ := d_step
  have g_step := PySem.W.mg_of X G a_step
  have b_step := F_step.binds (ps := ["memory", "letter"]) fun _ _ _ _ _ _ us hl => match us, hl with | [_, _], _ => rfl
  obtain ⟨f_behind, fd_behind, a_behind, F_behind⟩ := d_behind
  have g_behind := PySem.W.mg_of X G a_behind
  have b_behind := F_behind.binds (ps := ["memory", "steps"]) fun _ _ _ _ _ _ us hl => match us, hl with | [_, _], _ => rfl
  obtain ⟨f_after, fd_after, a_after, F_after⟩ := d_after
  have g_after := PySem.W.mg_of X G a_after
  have b_after := F_after.binds (ps := ["memory", "steps"]) fun _ _ _ _ _ _ us hl => match us, hl with | [_, _], _ => rfl
  obtain ⟨f_needpair, fd_needpair, a_needpair, F_needpair⟩ := d_needpair
  have g_needpair := PySem.W.mg_of X G a_needpair
  have b_needpair := F_needpair.binds (ps := ["one", "other"]) fun _ _ _ _ _ _ us hl => match us, hl with | [_, _], _ => rfl
  obtain ⟨f_counts, fd_counts, a_counts, F_counts⟩ := d_counts
  have g_counts := PySem.W.mg_of X G a_counts
  have b_counts := F_counts.binds (ps := ["memory"]) fun _ _ _ _ _ _ us hl => match us, hl with | [_], _ => rfl
  obtain ⟨f_isbelow, fd_isbelow, a_isbelow, F_isbelow⟩ := d_isbelow
  have g_isbelow := PySem.W.mg_of X G a_isbelow
  have b_isbelow := F_isbelow.binds (ps := ["one", "other"]) fun _ _ _ _ _ _ us hl => match us, hl with | [_, _], _ => rfl
  obtain ⟨f_fromcounts, fd_fromcounts, a_fromcounts, F_fromcounts⟩ := d_fromcounts
  have g_fromcounts := PySem.W.mg_of X G a_fromcounts
  have b_fromcounts := F_fromcounts.binds (ps := ["some"]) fun _ _ _ _ _ _ us hl => match us, hl with | [_], _ => rfl
  obtain ⟨f_meet, fd_meet, a_meet, F_meet⟩ := d_meet
  have g_meet := PySem.W.mg_of X G a_meet
  have b_meet := F_meet.binds (ps := ["one", "other"]) fun _ _ _ _ _ _ us hl => match us, hl with | [_, _], _ => rfl
  obtain ⟨f_join, fd_join, a_join, F_join⟩ := d_join
  have g_join := PySem.W.mg_of X G a_join
  have b_join := F_join.binds (ps := ["one", "other"]) fun _ _ _ _ _ _ us hl => match us, hl with | [_, _], _ => rfl
  obtain ⟨f_rankof, fd_rankof, a_rankof, F_rankof⟩ := d_rankof
  have g_rankof := PySem.W.mg_of X G a_rankof
  have b_rankof := F_rankof.binds (ps := ["memory"]) fun _ _ _ _ _ _ us hl => match us, hl with | [_], _ => rfl
  obtain ⟨f_rank, fd_rank, a_rank, F_rank⟩ := d_rank
  have g_rank := PySem.W.mg_of X G a_rank
  have b_rank := F_rank.binds (ps := ["memory"]) fun _ _ _ _ _ _ us hl => match us, hl with | [_], _ => rfl
  obtain ⟨f_countsbyrank, fd_countsbyrank, a_countsbyrank, F_countsbyrank⟩ := d_countsbyrank
  have g_countsbyrank := PySem.W.mg_of X G a_countsbyrank
  have b_countsbyrank := F_countsbyrank.binds (ps := ["span"]) fun _ _ _ _ _ _ us hl => match us, hl with | [_], _ => rfl
  obtain ⟨f_rankcounts, fd_rankcounts, a_rankcounts, F_rankcounts⟩ := d_rankcounts
  have g_rankcounts := PySem.W.mg_of X G a_rankcounts
  have b_rankcounts := F_rankcounts.binds (ps := ["span"]) fun _ _ _ _ _ _ us hl => match us, hl with | [_], _ => rfl
  obtain ⟨f_rankwidth, fd_rankwidth, a_rankwidth, F_rankwidth⟩ := d_rankwidth
  have g_rankwidth := PySem.W.mg_of X G a_rankwidth
  have b_rankwidth := F_rankwidth.binds (ps := ["span"]) fun _ _ _ _ _ _ us hl => match us, hl with | [_], _ => rfl
  obtain ⟨f_coversof, fd_coversof, a_coversof, F_coversof⟩ := d_coversof
  have g_coversof := PySem.W.mg_of X G a_coversof
  have b_coversof := F_coversof.binds (ps := ["memory"]) fun _ _ _ _ _ _ us hl => match us, hl with | [_], _ => rfl
  obtain ⟨f_covers, fd_covers, a_covers, F_covers⟩ := d_covers
  have g_covers := PySem.W.mg_of X G a_covers
  have b_covers := F_covers.binds (ps := ["memory"]) fun _ _ _ _ _ _ us hl => match us, hl with | [_], _ => rfl
  obtain ⟨f_allrelays, fd_allrelays, a_allrelays, F_allrelays⟩ := d_allrelays
  have g_allrelays := PySem.W.mg_of X G a_allrelays
  have b_allrelays := F_allrelays.binds (ps := ["span"]) fun _ _ _ _ _ _ us hl => match us, hl with | [_], _ => rfl
  obtain ⟨f_place, fd_place, a_place, F_place⟩ := d_place
  have g_place := PySem.W.mg_of X G a_place
  have b_place := F_place.binds (ps := ["memory", "sign", "number"]) fun _ _ _ _ _ _ us hl => match us, hl with | [_, _, _], _ => rfl
  obtain ⟨f_holds, fd_holds, a_holds, F_holds⟩ := d_holds
  have g_holds := PySem.W.mg_of X G a_holds
  have b_holds := F_holds.binds (ps := ["memory", "relay"]) fun _ _ _ _ _ _ us hl => match us, hl with | [_, _], _ => rfl
  obtain ⟨f_onin, fd_onin, a_onin, F_onin⟩ := d_onin
  have g_onin := PySem.W.mg_of X G a_onin
  have b_onin := F_onin.binds (ps := ["memory"]) fun _ _ _ _ _ _ us hl => match us, hl with | [_], _ => rfl
  obtain ⟨f_relayson, fd_relayson, a_relayson, F_relayson⟩ := d_relayson
  have g_relayson := PySem.W.mg_of X G a_relayson
  have b_relayson := F_relayson.binds (ps := ["memory"]) fun _ _ _ _ _ _ us hl => match us, hl with | [_], _ => rfl
  obtain ⟨f_lawtaken, fd_lawtaken, a_lawtaken, F_lawtaken⟩ := d_lawtaken
  have g_lawtaken := PySem.W.mg_of X G a_lawtaken
  have b_lawtaken := F_lawtaken.binds (ps := ["_law_row", "_law_many"]) fun _ _ _ _ _ _ us hl => match us, hl with | [_, _], _ => rfl
  obtain ⟨f_lawpick, fd_lawpick, a_lawpick, F_lawpick⟩ := d_lawpick
  have g_lawpick := PySem.W.mg_of X G a_lawpick
  have b_lawpick := F_lawpick.binds (ps := ["_law_row", "_law_things"]) fun _ _ _ _ _ _ us hl => match us, hl with | [_, _], _ => rfl
  obtain ⟨f_lawmemory, fd_lawmemory, a_lawmemory, F_lawmemory⟩ := d_lawmemory
  have g_lawmemory := PySem.W.mg_of X G a_lawmemory
  have b_lawmemory := F_lawmemory.binds (ps := ["_law_row", "_law_most"]) fun _ _ _ _ _ _ us hl => match us, hl with | [_, _], _ => rfl
  obtain ⟨⟨f_ismemory, fd_ismemory, a_ismemory, F_ismemory⟩, _⟩ := d_ismemory
  have g_ismemory := PySem.W.mg_of X G a_ismemory
  have b_ismemory := F_ismemory.fn.binds (ps := ["value"]) fun _ _ _ _ _ _ us hl => match us, hl with | [_], _ => rfl
  obtain ⟨⟨f_isinput, fd_isinput, a_isinput, F_isinput⟩, _⟩ := d_isinput
  have g_isinput := PySem.W.mg_of X G a_isinput
  have b_isinput := F_isinput.fn.binds (ps := ["value"]) fun _ _ _ _ _ _ us hl => match us, hl with | [_], _ => rfl
  obtain ⟨⟨f_below, fd_below, a_below, F_below⟩, _⟩ := d_below
  have g_below := PySem.W.mg_of X G a_below
  have b_below := F_below.fn.binds (ps := ["one", "other"]) fun _ _ _ _ _ _ us hl => match us, hl with | [_, _], _ => rfl
  obtain ⟨f_law, fd_law, a_law, F_law⟩ := d_law
  have e := hfa.symm.trans (PySem.W.mg_of X G a_law)
  cases e
  refine ⟨fd_law, ?_, fun base B1 B2 B3 => ?_⟩
  · obtain ⟨oc, od, kV, doc, pm, an, cdv, ct, osl, rfl, lk, hcd⟩ := F_law.ex
    exact fun s v => .of_eq rfl
  have G_ismemory : FnOk P w K mg base CX0 1 f_ismemory fd_ismemory ["value"] (spIsMem [p_ismemory, p_isinput, p_below]) := ok_ismem F_ismemory T B1 (by simp)
  have G_isinput : FnOk P w K mg base CX0 1 f_isinput fd_isinput ["value"] (spIsInp [p_ismemory, p_isinput, p_below]) := ok_isinp F_isinput T B2 (by simp)
  have G_isin : FnOk P w K mg base CX0 1 f_isin fd_isin ["value", "least", "most"] spIsIn := ok_isin (k := 0) F_isin T
  have G_needmemory : FnOk P w K mg base CX0 2 f_needmemory fd_needmemory ["memory"] (spNeedMem [p_ismemory, p_isinput, p_below]) := ok_needmem (k := 1) F_needmemory (G_ismemory.mono (by decide)) F_ismemory.kp b_ismemory g_ismemory
  have G_needinput : FnOk P w K mg base CX0 2 f_needinput fd_needinput ["steps"] (spNeedInp [p_ismemory, p_isinput, p_below]) := ok_needinp (k := 1) F_needinput (G_isinput.mono (by decide)) F_isinput.kp b_isinput g_isinput
  have G_needspan : FnOk P w K mg base CX0 2 f_needspan fd_needspan ["span"] spNeedSpan := ok_needspan (k := 1) F_needspan T (G_isin.mono (by decide)) F_isin.kp b_isin g_isin
  have G_needpair : FnOk P w K mg base CX0 3 f_needpair fd_needpair ["one", "other"] (spNeedPair [p_ismemory, p_isinput, p_below]) := ok_needpair (k := 2) F_needpair T (G_needmemory.mono (by decide)) F_needmemory.kp b_needmemory g_needmemory
  have G_step : FnOk P w K mg base CX0 1 f_step fd_step ["memory", "letter"] (spStep [p_ismemory, p_isinput, p_below]) := ok_step (k := 0) F_step T
  have G_behind : FnOk P w K mg base CX0 2 f_behind fd_behind ["memory", "steps"] (spStep [p_ismemory, p_isinput, p_below]) := ok_behind (k := 1) F_behind T (G_step.mono (by decide)) F_step.kp b_step g_step
  have G_after : FnOk P w K mg base CX0 3 f_after fd_after ["memory", "steps"] (spAfter [p_ismemory, p_isinput, p_below]) := ok_after (k := 2) F_after (G_needmemory.mono (by decide)) F_needmemory.kp b_needmemory g_needmemory (G_needinput.mono (by decide)) F_needinput.kp b_needinput g_needinput (G_behind.mono (by decide)) F_behind.kp b_behind g_behind
  have G_counts : FnOk P w K mg base CX0 1 f_counts fd_counts ["memory"] (spCounts [p_ismemory, p_isinput, p_below]) := ok_counts (k := 0) F_counts T
  have G_below : FnOk P w K mg base CX0 2 f_below fd_below ["one", "other"] (spBelow [p_ismemory, p_isinput, p_below]) := ok_below (k := 1) F_below T B3 (by simp) (G_counts.mono (by decide)) F_counts.kp b_counts g_counts
  have G_isbelow : FnOk P w K mg base CX0 4 f_isbelow fd_isbelow ["one", "other"] (spIsBelow [p_ismemory, p_isinput, p_below]) := ok_isbelow (k := 3) F_isbelow (G_needpair.mono (by decide)) F_needpair.kp b_needpair g_needpair (G_below.mono (by decide)) F_below.kp b_below g_below
  have G_fromcounts : FnOk P w K mg base CX0 1 f_fromcounts fd_fromcounts ["some"] (spFromC K [p_ismemory, p_isinput, p_below]) := ok_fromc (k := 0) F_fromcounts
  have G_meet : FnOk P w K mg base CX0 4 f_meet fd_meet ["one", "other"] (spMeet [p_ismemory, p_isinput, p_below] meetM) := ok_meet (k := 3) F_meet T (G_needpair.mono (by decide)) F_needpair.kp b_needpair g_needpair (G_counts.mono (by decide)) F_counts.kp b_counts g_counts (G_fromcounts.mono (by decide)) F_fromcounts.kp b_fromcounts g_fromcounts
  have G_join : FnOk P w K mg base CX0 4 f_join fd_join ["one", "other"] (spMeet [p_ismemory, p_isinput, p_below] joinM) := ok_join (k := 3) F_join T (G_needpair.mono (by decide)) F_needpair.kp b_needpair g_needpair (G_counts.mono (by decide)) F_counts.kp b_counts g_counts (G_fromcounts.mono (by decide)) F_fromcounts.kp b_fromcounts g_fromcounts
  have G_rankof : FnOk P w K mg base CX0 2 f_rankof fd_rankof ["memory"] (spRankOf [p_ismemory, p_isinput, p_below]) := ok_rankof (k := 1) F_rankof T (G_counts.mono (by decide)) F_counts.kp b_counts g_counts
  have G_rank : FnOk P w K mg base CX0 3 f_rank fd_rank ["memory"] (spRankOf [p_ismemory, p_isinput, p_below]) := ok_rank (k := 2) F_rank T (G_needmemory.mono (by decide)) F_needmemory.kp b_needmemory g_needmemory (G_rankof.mono (by decide)) F_rankof.kp b_rankof g_rankof
  have G_countsbyrank : FnOk P w K mg base CX0 1 f_countsbyrank fd_countsbyrank ["span"] (spByRank [p_ismemory, p_isinput, p_below]) := ok_byrank (k := 0) F_countsbyrank T
  have G_rankcounts : FnOk P w K mg base CX0 3 f_rankcounts fd_rankcounts ["span"] (spRankCounts [p_ismemory, p_isinput, p_below]) := ok_rankcounts (k := 2) F_rankcounts T (G_needspan.mono (by decide)) F_needspan.kp b_needspan g_needspan (G_countsbyrank.mono (by decide)) F_countsbyrank.kp b_countsbyrank g_countsbyrank
  have G_rankwidth : FnOk P w K mg base CX0 3 f_rankwidth fd_rankwidth ["span"] (spRankWidth [p_ismemory, p_isinput, p_below]) := ok_rankwidth (k := 2) F_rankwidth T (G_needspan.mono (by decide)) F_needspan.kp b_needspan g_needspan (G_countsbyrank.mono (by decide)) F_countsbyrank.kp b_countsbyrank g_countsbyrank
  have G_coversof : FnOk P w K mg base CX0 1 f_coversof fd_coversof ["memory"] (spCoversOf [p_ismemory, p_isinput, p_below]) := ok_coversof (k := 0) F_coversof T
  have G_covers : FnOk P w K mg base CX0 3 f_covers fd_covers ["memory"] (spCovers [p_ismemory, p_isinput, p_below]) := ok_covers (k := 2) F_covers T (G_needmemory.mono (by decide)) F_needmemory.kp b_needmemory g_needmemory (G_coversof.mono (by decide)) F_coversof.kp b_coversof g_coversof
  have G_allrelays : FnOk P w K mg base CX0 1 f_allrelays fd_allrelays ["span"] (spAllRel [p_ismemory, p_isinput, p_below]) := ok_allrel (k := 0) F_allrelays T
  have G_place : FnOk P w K mg base CX0 1 f_place fd_place ["memory", "sign", "number"] (spPlace [p_ismemory, p_isinput, p_below]) := ok_place (k := 0) F_place T
  have G_holds : FnOk P w K mg base CX0 2 f_holds fd_holds ["memory", "relay"] (spHolds [p_ismemory, p_isinput, p_below]) := ok_holds (k := 1) F_holds T (G_place.mono (by decide)) F_place.kp b_place g_place
  have G_onin : FnOk P w K mg base CX0 3 f_onin fd_onin ["memory"] (spOnIn [p_ismemory, p_isinput, p_below]) := ok_onin (k := 2) F_onin T (G_allrelays.mono (by decide)) F_allrelays.kp b_allrelays g_allrelays (G_holds.mono (by decide)) F_holds.kp b_holds g_holds
  have G_relayson : FnOk P w K mg base CX0 4 f_relayson fd_relayson ["memory"] (spRelOn [p_ismemory, p_isinput, p_below]) := ok_relon (k := 3) F_relayson T (G_needmemory.mono (by decide)) F_needmemory.kp b_needmemory g_needmemory (G_onin.mono (by decide)) F_onin.kp b_onin g_onin
  have G_lawtaken : FnOk P w K mg base CX0 1 f_lawtaken fd_lawtaken ["_law_row", "_law_many"] (spTaken K) := ok_taken (k := 0) F_lawtaken T
  have G_lawpick : FnOk P w K mg base CX0 2 f_lawpick fd_lawpick ["_law_row", "_law_things"] (spPick K) := ok_pick (k := 1) F_lawpick T (G_lawtaken.mono (by decide)) F_lawtaken.kp b_lawtaken g_lawtaken
  have G_lawmemory : FnOk P w K mg base CX0 3 f_lawmemory fd_lawmemory ["_law_row", "_law_most"] (spLMem K) := ok_lmem (k := 2) F_lawmemory T (G_lawtaken.mono (by decide)) F_lawtaken.kp b_lawtaken g_lawtaken (G_lawpick.mono (by decide)) F_lawpick.kp b_lawpick g_lawpick
  exact ok_law (k := 4) F_law T (cal_mk G_lawmemory (by decide) F_lawmemory.kp b_lawmemory g_lawmemory) (cal_mk G_rank (by decide) F_rank.kp b_rank g_rank) (cal_mk G_relayson (by decide) F_relayson.kp b_relayson g_relayson) (cal_mk G_covers (by decide) F_covers.kp b_covers g_covers) (cal_mk G_isbelow (by decide) F_isbelow.kp b_isbelow g_isbelow) (cal_mk G_meet (by decide) F_meet.kp b_meet g_meet) (cal_mk G_join (by decide) F_join.kp b_join g_join) (cal_mk G_after (by decide) F_after.kp b_after g_after) (cal_mk G_rankcounts (by decide) F_rankcounts.kp b_rankcounts g_rankcounts) (cal_mk G_rankwidth (by decide) F_rankwidth.kp b_rankwidth g_rankwidth)
theorem fin {P : Program} {w : World} {K : PySem.W.Frag} {mg mb : Str → Option Value} {q : Program} {loose : List Str} {mean : ExcName → Option Value} {fa a : Addr} {s₁ : Shared} {vs : List Value} {ns : List Int} {c_ismemory p_ismemory c_isinput p_isinput c_below p_below : Addr} {t9 t200 : Tok} {dr_ismemory dr_isinput dr_below : DefRec}
    (X : K.In s₁.heap) (T : Top q loose mean mg mb s₁.heap) (hg : s₁.gens = #[]) (ha : s₁.heap.get? a = some { cls := .type "list", data := .seq vs.toArray }) (hi : IntsAre vs ns) (hl : ns.length ≤ 63) (hfa : mg "law" = some (.ref fa)) (nt : PySem.W.noTabs K = true)
    (r_ismemory : (recsOf q).find? (fun e => e.name == ("is_memory" : Str)) = some dr_ismemory)
    (r_isinput : (recsOf q).find? (fun e => e.name == ("is_input" : Str)) = some dr_isinput)
    (r_below : (recsOf q).find? (fun e => e.name == ("below" : Str)) = some dr_below)
    (d_isin : DefAt K "is_in" sIsIn)
    (d_needmemory : DefAt K "need_memory" sNeedMem)
    (d_needinput : DefAt K "need_input" sNeedInp)
    (d_needspan : DefAt K "need_span" sNeedSpan)
    (d_step : DefAt K "step" sStep)
    (d_behind : DefAt K "behind" sBehind)
    (d_after : DefAt K "after" sAfter)
    (d_needpair : DefAt K "need_pair" sNeedPair)
    (d_counts : DefAt K "counts" sCounts)
    (d_isbelow : DefAt K "is_below" sIsBelow)
    (d_fromcounts : DefAt K "from_counts" sFromC)
    (d_meet : DefAt K "meet" sMeet)
    (d_join : DefAt K "join" sJoin)
    (d_rankof : DefAt K "rank_of" sRankOf)
    (d_rank : DefAt K "rank" sRank)
    (d_countsbyrank : DefAt K "counts_by_rank" sByRank)
    (d_rankcounts : DefAt K "rank_counts" sRankCounts)
    (d_rankwidth : DefAt K "rank_width" sRankWidth)
    (d_coversof : DefAt K "covers_of" sCoversOf)
    (d_covers : DefAt K "covers" sCovers)
    (d_allrelays : DefAt K "all_relays" sAllRel)
    (d_place : DefAt K "place" sPlace)
    (d_holds : DefAt K "holds" sHolds)
    (d_onin : DefAt K "on_in" sOnIn)
    (d_relayson : DefAt K "relays_on" sRelOn)
    (d_lawtaken : DefAt K "_law_taken" sTaken)
    (d_lawpick : DefAt K "_law_pick" sPick)
    (d_lawmemory : DefAt K "_law_memory" sLMem)
    (d_law : DefAt K "law" sLaw)
    (d_ismemory : DefTab K "is_memory" sIsMem c_ismemory p_ismemory)
    (d_isinput : DefTab K "is_input" sIsInp c_isinput p_isinput)
    (d_below : DefTab K "below" sBelow c_below p_below)
    (z_len : PySem.W.nsIn K mainGlobals "len" = some none) (z_zip : PySem.W.nsIn K mainGlobals "zip" = some none) (z_all : PySem.W.nsIn K mainGlobals "all" = some none) (z_isinstance : PySem.W.nsIn K mainGlobals "isinstance" = some none) (z_int : PySem.W.nsIn K mainGlobals "int" = some none) (z_bool : PySem.W.nsIn K mainGlobals "bool" = some none) (z_str : PySem.W.nsIn K mainGlobals "str" = some none) (z_range : PySem.W.nsIn K mainGlobals "range" = some none) (z_sum : PySem.W.nsIn K mainGlobals "sum" = some none) (z_min : PySem.W.nsIn K mainGlobals "min" = some none) (z_max : PySem.W.nsIn K mainGlobals "max" = some none) (z_tuple : PySem.W.nsIn K mainGlobals "tuple" = some none) (z_sorted : PySem.W.nsIn K mainGlobals "sorted" = some none) (z_enumerate : PySem.W.nsIn K mainGlobals "enumerate" = some none)
    (m_9 : PySem.W.nsIn K mainGlobals "MOST_SPAN" = some (some (.int 9 t9))) (m_200 : PySem.W.nsIn K mainGlobals "MOST_STEPS" = some (some (.int 200 t200))) :
    codeAny (model P w) callerA (.call (.ref fa) ⟨[.ref a], []⟩) (fun res st => res = .ok (.ret (.bool true)) ∧ OldK s₁.heap st.heap ∧ st.os = s₁.os ∧ AllBare st.gens) s₁ := by
  obtain ⟨C_ismemory, e_ismemory⟩ := PySem.W.tab_of T X r_ismemory d_ismemory.tab
  obtain ⟨C_isinput, e_isinput⟩ := PySem.W.tab_of T X r_isinput d_isinput.tab
  obtain ⟨C_below, e_below⟩ := PySem.W.tab_of T X r_below d_below.tab
  obtain ⟨fd, hb, hF⟩ := fns_ok (P := P) (w := w) X T.g hfa d_isin d_needmemory d_needinput d_needspan d_step d_behind d_after d_needpair d_counts d_isbelow d_fromcounts d_meet d_join d_rankof d_rank d_countsbyrank d_rankcounts d_rankwidth d_coversof d_covers d_allrelays d_place d_holds d_onin d_relayson d_lawtaken d_lawpick d_lawmemory d_law d_ismemory d_isinput d_below z_len z_zip z_all z_isinstance z_int z_bool z_str z_range z_sum z_min z_max z_tuple z_sorted z_enumerate m_9 m_200
  have hT : ∀ p ∈ ([(c_ismemory, p_ismemory), (c_isinput, p_isinput), (c_below, p_below)] : List (Addr × Addr)), s₁.heap.get? p.2 = some { cls := .none, data := .fields #[] } := by
    intro p hp
    simp only [List.mem_cons, List.not_mem_nil, or_false] at hp
    rcases hp with rfl | rfl | rfl
    · exact e_ismemory
    · exact e_isinput
    · exact e_below
  have nT : ∀ p ∈ ([(c_ismemory, p_ismemory), (c_isinput, p_isinput), (c_below, p_below)] : List (Addr × Addr)), K.lookup p.2 = none := by
    intro p hp
    simp only [List.mem_cons, List.not_mem_nil, or_false] at hp
    rcases hp with rfl | rfl | rfl
    · exact no_tab X nt e_ismemory
    · exact no_tab X nt e_isinput
    · exact no_tab X nt e_below
  have hC : ∀ p ∈ ([(c_ismemory, p_ismemory), (c_isinput, p_isinput), (c_below, p_below)] : List (Addr × Addr)), PySem.W.CodeHd s₁.heap p.1 p.2 := by
    intro p hp
    simp only [List.mem_cons, List.not_mem_nil, or_false] at hp
    rcases hp with rfl | rfl | rfl
    · exact C_ismemory
    · exact C_isinput
    · exact C_below
  refine LamX.law_callTs (cs := [(c_ismemory, p_ismemory), (c_isinput, p_isinput), (c_below, p_below)]) (k := 5) (fd := fd) (x := "_law_script") (sp := spLaw K [p_ismemory, p_isinput, p_below]) (CX := CX0) X T.g T.b T.builtins T.nolimit hg hT nT hC T.bmain ha hi (small_of (by omega)) ⟨rfl, by decide, by decide⟩ (fun base _ _ hB => ?_) hb (fun H hH hS => ?_) (fun H e s' z => z)
  · have cv : ∀ c p, (c, p) ∈ ([(c_ismemory, p_ismemory), (c_isinput, p_isinput), (c_below, p_below)] : List (Addr × Addr)) → GxR.TabB base mg c p := fun c p m => let z := hB (c, p) m; ⟨z.code, z.bm, z.gP⟩
    exact hF base (cv _ _ (by simp)) (cv _ _ (by simp)) (cv _ _ (by simp))
  · refine ⟨a, ns, rfl, hS, fun p hp => ?_, fun H' => rfl⟩
    simp only [List.mem_cons, List.not_mem_nil, or_false] at hp
    rcases hp with e9 | e9 | e9
    · rw [e9]; exact ⟨#[], hH (c_ismemory, p_ismemory) (by simp), True.intro⟩
    · rw [e9]; exact ⟨#[], hH (c_isinput, p_isinput) (by simp), True.intro⟩
    · rw [e9]; exact ⟨#[], hH (c_below, p_below) (by simp), True.intro⟩
end RB

open PySem PySem.W PyProof.Rows
set_option maxRecDepth 100000 in
set_option maxHeartbeats 0 in
theorem PySem.Challenge.cw_relaybanks_k93_across_ranks_and_heights_holds : PySem.Challenge.rw_relaybanks_k93_across_ranks_and_heights.Holds := by
  w_on; o_law; k_head; (case hw => w_witness2)
  k_fill
  refine Att.attach_callB (l := PySem.Challenge.rw_relaybanks_k93_across_ranks_and_heights) (n := 63) rfl rfl fun w s₀ s₁ mg mb fa o pm cd doc a vs ns G Y ho hd hcd hmg hobj hints hlen hbits hg => ?_
  have KX := PySem.W.kIn_of Y
  refine' RB.fin KX G.T hg hobj hints hlen hmg ?nt ?r_ismemory ?r_isinput ?r_below ?d_isin ?d_needmemory ?d_needinput ?d_needspan ?d_step ?d_behind ?d_after ?d_needpair ?d_counts ?d_isbelow ?d_fromcounts ?d_meet ?d_join ?d_rankof ?d_rank ?d_countsbyrank ?d_rankcounts ?d_rankwidth ?d_coversof ?d_covers ?d_allrelays ?d_place ?d_holds ?d_onin ?d_relayson ?d_lawtaken ?d_lawpick ?d_lawmemory ?d_law ?d_ismemory ?d_isinput ?d_below ?z_len ?z_zip ?z_all ?z_isinstance ?z_int ?z_bool ?z_str ?z_range ?z_sum ?z_min ?z_max ?z_tuple ?z_sorted ?z_enumerate ?m_9 ?m_200
  (case nt => kernel_rfl)
  (case r_ismemory => exact rfl)
  (case r_isinput => exact rfl)
  (case r_below => exact rfl)
  (case d_isin => (refine' RB.def_at ?a ?l ?c ?k; (case a => k_is); (case l => k_is); (case c => k_is); (case k => k_is)))
  (case d_needmemory => (refine' RB.def_at ?a ?l ?c ?k; (case a => k_is); (case l => k_is); (case c => k_is); (case k => k_is)))
  (case d_needinput => (refine' RB.def_at ?a ?l ?c ?k; (case a => k_is); (case l => k_is); (case c => k_is); (case k => k_is)))
  (case d_needspan => (refine' RB.def_at ?a ?l ?c ?k; (case a => k_is); (case l => k_is); (case c => k_is); (case k => k_is)))
  (case d_step => (refine' RB.def_at ?a ?l ?c ?k; (case a => k_is); (case l => k_is); (case c => k_is); (case k => k_is)))
  (case d_behind => (refine' RB.def_at ?a ?l ?c ?k; (case a => k_is); (case l => k_is); (case c => k_is); (case k => k_is)))
  (case d_after => (refine' RB.def_at ?a ?l ?c ?k; (case a => k_is); (case l => k_is); (case c => k_is); (case k => k_is)))
  (case d_needpair => (refine' RB.def_at ?a ?l ?c ?k; (case a => k_is); (case l => k_is); (case c => k_is); (case k => k_is)))
  (case d_counts => (refine' RB.def_at ?a ?l ?c ?k; (case a => k_is); (case l => k_is); (case c => k_is); (case k => k_is)))
  (case d_isbelow => (refine' RB.def_at ?a ?l ?c ?k; (case a => k_is); (case l => k_is); (case c => k_is); (case k => k_is)))
  (case d_fromcounts => (refine' RB.def_at ?a ?l ?c ?k; (case a => k_is); (case l => k_is); (case c => k_is); (case k => k_is)))
  (case d_meet => (refine' RB.def_at ?a ?l ?c ?k; (case a => k_is); (case l => k_is); (case c => k_is); (case k => k_is)))
  (case d_join => (refine' RB.def_at ?a ?l ?c ?k; (case a => k_is); (case l => k_is); (case c => k_is); (case k => k_is)))
  (case d_rankof => (refine' RB.def_at ?a ?l ?c ?k; (case a => k_is); (case l => k_is); (case c => k_is); (case k => k_is)))
  (case d_rank => (refine' RB.def_at ?a ?l ?c ?k; (case a => k_is); (case l => k_is); (case c => k_is); (case k => k_is)))
  (case d_countsbyrank => (refine' RB.def_at ?a ?l ?c ?k; (case a => k_is); (case l => k_is); (case c => k_is); (case k => k_is)))
  (case d_rankcounts => (refine' RB.def_at ?a ?l ?c ?k; (case a => k_is); (case l => k_is); (case c => k_is); (case k => k_is)))
  (case d_rankwidth => (refine' RB.def_at ?a ?l ?c ?k; (case a => k_is); (case l => k_is); (case c => k_is); (case k => k_is)))
  (case d_coversof => (refine' RB.def_at ?a ?l ?c ?k; (case a => k_is); (case l => k_is); (case c => k_is); (case k => k_is)))
  (case d_covers => (refine' RB.def_at ?a ?l ?c ?k; (case a => k_is); (case l => k_is); (case c => k_is); (case k => k_is)))
  (case d_allrelays => (refine' RB.def_at ?a ?l ?c ?k; (case a => k_is); (case l => k_is); (case c => k_is); (case k => k_is)))
  (case d_place => (refine' RB.def_at ?a ?l ?c ?k; (case a => k_is); (case l => k_is); (case c => k_is); (case k => k_is)))
  (case d_holds => (refine' RB.def_at ?a ?l ?c ?k; (case a => k_is); (case l => k_is); (case c => k_is); (case k => k_is)))
  (case d_onin => (refine' RB.def_at ?a ?l ?c ?k; (case a => k_is); (case l => k_is); (case c => k_is); (case k => k_is)))
  (case d_relayson => (refine' RB.def_at ?a ?l ?c ?k; (case a => k_is); (case l => k_is); (case c => k_is); (case k => k_is)))
  (case d_lawtaken => (refine' RB.def_at ?a ?l ?c ?k; (case a => k_is); (case l => k_is); (case c => k_is); (case k => k_is)))
  (case d_lawpick => (refine' RB.def_at ?a ?l ?c ?k; (case a => k_is); (case l => k_is); (case c => k_is); (case k => k_is)))
  (case d_lawmemory => (refine' RB.def_at ?a ?l ?c ?k; (case a => k_is); (case l => k_is); (case c => k_is); (case k => k_is)))
  (case d_law => (refine' RB.def_at ?a ?l ?c ?k; (case a => k_is); (case l => k_is); (case c => k_is); (case k => k_is)))
  (case d_ismemory => (refine' RB.tab_at ?a ?l ?h ?k ?lc ?hv; (case a => k_is); (case l => k_is); (case h => k_is); (case k => k_is); (case lc => k_is); (case hv => exact rfl)))
  (case d_isinput => (refine' RB.tab_at ?a ?l ?h ?k ?lc ?hv; (case a => k_is); (case l => k_is); (case h => k_is); (case k => k_is); (case lc => k_is); (case hv => exact rfl)))
  (case d_below => (refine' RB.tab_at ?a ?l ?h ?k ?lc ?hv; (case a => k_is); (case l => k_is); (case h => k_is); (case k => k_is); (case lc => k_is); (case hv => exact rfl)))
  (case z_len => k_is)
  (case z_zip => k_is)
  (case z_all => k_is)
  (case z_isinstance => k_is)
  (case z_int => k_is)
  (case z_bool => k_is)
  (case z_str => k_is)
  (case z_range => k_is)
  (case z_sum => k_is)
  (case z_min => k_is)
  (case z_max => k_is)
  (case z_tuple => k_is)
  (case z_sorted => k_is)
  (case z_enumerate => k_is)
  (case m_9 => k_is)
  (case m_200 => k_is)
