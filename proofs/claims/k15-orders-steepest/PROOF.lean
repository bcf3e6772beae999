import PyProof.Rows.All
import Wide.All
import OpenK.AllK
import Wide.FinOn
import HandS.ForMost
import HandS.ForExc
import HandS.Wide
import HandS.TupAny
import HandS.IsInst
import KE.KSuper
import KE.KExcSuper
import HandS.ExcInit
import HandS.ExcIs
import HandS.ExcField
import HandS.TryMany
import KE.KEqSeq
import KE.KEqDeep
import HandS.StrMore
import HandS.Text
import HandS.Iter
import KE.GoesMore
import KE.GoesZip
import KE.GoesEnum
import HandS.Property
import HandS.OwnEq
import HandS.IterVal
import KE.KOwnIter
import PyProof.EnumMake
import HandS.MakeKwOnly
import HandS.ClsMeth
import OpenK.KOps
import PyProof.Rows.SumAny
import HandS.Conv
import HandS.Deep
import HandS.Zip
import HandS.More
import PySem.Challenge.RW_nightsoff_k15_orders_whole_steepest
set_option Elab.async false
set_option linter.all false
set_option maxRecDepth 100000
set_option maxHeartbeats 4000000
/-! houses that can be watched: the greedy choice, what lacks at each end. Plain Lean. -/
namespace Hse
/-- how many have come by e -/
def hereN (cs : List Int) (e : Int) : Nat := cs.countP fun c => decide (c ≤ e)
/-- ns[a:b] summed -/
def win (ns : List Int) (a b : Nat) : Int := ((ns.drop a).take (b - a)).sum
def lack (ns cs : List Int) (r e : Nat) : Int := win ns (e - 1 - r) e - hereN cs e
theorem win_succ {ns : List Int} {a i : Nat} (ha : a ≤ i) (hi : i < ns.length) : win ns a (i + 1) = win ns a i + ns.getD i 0 := by
  unfold win
  have e : i + 1 - a = (i - a) + 1 := by omega
  have hd : i - a < (ns.drop a).length := by rw [List.length_drop]; omega
  rw [e, List.take_succ_eq_append_getElem hd, List.sum_append]
  congr 1
  rw [List.getElem_drop]
  have e2 : a + (i - a) = i := by omega
  simp [e2, hi]
theorem win_self {ns : List Int} {a : Nat} : win ns a a = 0 := by unfold win; simp
theorem win_take {ns : List Int} {a i : Nat} : win (ns.take i) a i = win ns a i := by
  unfold win
  rw [List.drop_take]
  by_cases h : a ≤ i
  · rw [List.take_take, Nat.min_self]
  · have : i - a = 0 := by omega
    rw [this]; simp
/-- the greedy numbers of the first i nights -/
def gr (ns cs : List Int) (r : Nat) : Nat → List Int
  | 0 => []
  | i + 1 => gr ns cs r i ++ [min (ns.getD i 0) (hereN cs ((i : Nat) + 1) - win (gr ns cs r i) (i - r) i)]
theorem gr_len (ns cs : List Int) (r : Nat) : ∀ i, (gr ns cs r i).length = i
  | 0 => rfl
  | i + 1 => by rw [gr, List.length_append, gr_len]; rfl
theorem gr_le (ns cs : List Int) (r : Nat) : ∀ i, i ≤ ns.length → ∀ j < i, (gr ns cs r i).getD j 0 ≤ ns.getD j 0
  | 0, _, j, hj => absurd hj (Nat.not_lt_zero _)
  | i + 1, hi, j, hj => by
    rw [gr]
    by_cases e : j = i
    · subst e
      have : (gr ns cs r j ++ [min (ns.getD j 0) (hereN cs ((j : Nat) + 1) - win (gr ns cs r j) (j - r) j)]).getD j 0 = min (ns.getD j 0) (hereN cs ((j : Nat) + 1) - win (gr ns cs r j) (j - r) j) := by
        rw [List.getD_eq_getElem?_getD, List.getElem?_append_right (by rw [gr_len]; exact Nat.le_refl _), gr_len]; simp
      rw [this]; omega
    · have : (gr ns cs r i ++ [min (ns.getD i 0) (hereN cs ((i : Nat) + 1) - win (gr ns cs r i) (i - r) i)]).getD j 0 = (gr ns cs r i).getD j 0 := by
        rw [List.getD_eq_getElem?_getD, List.getElem?_append_left (by rw [gr_len]; omega), ← List.getD_eq_getElem?_getD]
      rw [this]
      exact gr_le ns cs r i (by omega) j (by omega)
theorem sum_le : ∀ {l m : List Int}, l.length = m.length → (∀ j < l.length, l.getD j 0 ≤ m.getD j 0) → l.sum ≤ m.sum ∧ (l.sum = m.sum → l = m)
  | [], [], _, _ => ⟨Int.le_refl _, fun _ => rfl⟩
  | a :: l, b :: m, h, k => by
    obtain ⟨h1, h2⟩ := sum_le (l := l) (m := m) (by simpa using h) fun j hj => by
      have := k (j + 1) (by simp; omega)
      simpa using this
    have h0 : a ≤ b := by simpa using k 0 (by simp)
    simp only [List.sum_cons]
    refine ⟨by omega, fun e => ?_⟩
    have e1 : a = b := by omega
    have e2 := h2 (by omega)
    rw [e1, e2]
  | [], _ :: _, h, _ => by simp at h
  | _ :: _, [], h, _ => by simp at h
theorem gr_take {ns cs : List Int} {r : Nat} (hl : ∀ e, 1 ≤ e → e ≤ ns.length → lack ns cs r e ≤ 0) : ∀ i, i ≤ ns.length → gr ns cs r i = ns.take i
  | 0, _ => by simp [gr]
  | i + 1, hi => by
    have ih := gr_take hl i (by omega)
    rw [gr, ih, List.take_succ_eq_append_getElem (by omega), win_take]
    congr 2
    have h1 := hl (i + 1) (by omega) hi
    unfold lack at h1
    have e : i + 1 - 1 - r = i - r := by omega
    rw [e, win_succ (by omega) (by omega)] at h1
    have e2 : ns.getD i 0 = ns[i] := by simp [show i < ns.length by omega]
    rw [e2] at h1 ⊢
    have e3 : ((i + 1 : Nat) : Int) = (i : Int) + 1 := by omega
    rw [e3] at h1
    omega
/-- the greedy choice fills all wants just where nothing lacks -/
theorem gr_iff {ns cs : List Int} {r : Nat} : (gr ns cs r ns.length).sum = ns.sum ↔ ∀ e, 1 ≤ e → e ≤ ns.length → lack ns cs r e ≤ 0 := by
  constructor
  · intro h
    have eq := (sum_le (gr_len ns cs r _) (fun j hj => gr_le ns cs r ns.length (Nat.le_refl _) j (by rw [gr_len] at hj; exact hj))).2 h
    have pre : ∀ i, i ≤ ns.length → ∀ k, i + k ≤ ns.length → (gr ns cs r (i + k)).take i = gr ns cs r i := by
      intro i hi k
      induction k with
      | zero => intro _; rw [Nat.add_zero, List.take_of_length_le (by rw [gr_len]; exact Nat.le_refl _)]
      | succ k ih =>
        intro hk
        have e : i + (k + 1) = (i + k) + 1 := by omega
        rw [e, gr, List.take_append_of_le_length (by rw [gr_len]; omega)]
        exact ih (by omega)
    intro e h1 h2
    obtain ⟨i, rfl⟩ : ∃ i, e = i + 1 := ⟨e - 1, by omega⟩
    have p1 : gr ns cs r (i + 1) = ns.take (i + 1) := by
      have := pre (i + 1) h2 (ns.length - (i + 1)) (by omega)
      rw [show i + 1 + (ns.length - (i + 1)) = ns.length by omega, eq] at this
      exact this.symm
    have p0 : gr ns cs r i = ns.take i := by
      have := pre i (by omega) (ns.length - i) (by omega)
      rw [show i + (ns.length - i) = ns.length by omega, eq] at this
      exact this.symm
    rw [gr, p0, List.take_succ_eq_append_getElem (by omega), win_take] at p1
    have p2 := List.append_cancel_left p1
    have p3 : min (ns.getD i 0) (hereN cs ((i : Nat) + 1) - win ns (i - r) i) = ns[i] := by
      injection p2
    have e2 : ns.getD i 0 = ns[i] := by simp [show i < ns.length by omega]
    unfold lack
    have e1 : i + 1 - 1 - r = i - r := by omega
    rw [e1, win_succ (by omega) (by omega), e2]
    have e3 : ((i + 1 : Nat) : Int) = (i : Int) + 1 := by omega
    rw [e3]
    omega
  · intro h
    rw [gr_take h ns.length (Nat.le_refl _), List.take_length]
/-- the greatest lack of the first k ends, and the first end that has it -/
def need (f : Nat → Int) : Nat → Int × Option Nat
  | 0 => (0, none)
  | k + 1 => if (need f k).1 < f (k + 1) then (f (k + 1), some (k + 1)) else need f k
theorem need_ok (f : Nat → Int) : ∀ k, 0 ≤ (need f k).1 ∧ (∀ e, 1 ≤ e → e ≤ k → f e ≤ (need f k).1) ∧
    (((need f k).2 = none ∧ (need f k).1 = 0) ∨ ∃ e, (need f k).2 = some e ∧ 1 ≤ e ∧ e ≤ k ∧ f e = (need f k).1 ∧ 0 < (need f k).1 ∧ ∀ e', 1 ≤ e' → e' < e → f e' < (need f k).1)
  | 0 => ⟨Int.le_refl _, fun e a b => by omega, .inl ⟨rfl, rfl⟩⟩
  | k + 1 => by
    obtain ⟨h1, h2, h3⟩ := need_ok f k
    rw [need]
    by_cases c : (need f k).1 < f (k + 1)
    · rw [if_pos c]
      refine ⟨by show 0 ≤ f (k + 1); omega, fun e a b => ?_, .inr ⟨k + 1, rfl, by omega, by omega, rfl, by show 0 < f (k + 1); omega, fun e' a b => ?_⟩⟩
      · show f e ≤ f (k + 1)
        by_cases q : e = k + 1
        · subst q; exact Int.le_refl _
        · have := h2 e a (by omega); omega
      · have := h2 e' a (by omega)
        show f e' < f (k + 1)
        omega
    · rw [if_neg c]
      refine ⟨h1, fun e a b => ?_, ?_⟩
      · by_cases q : e = k + 1
        · subst q; omega
        · exact h2 e a (by omega)
      · rcases h3 with h3 | ⟨e, a1, a2, a3, a4⟩
        · exact .inl h3
        · exact .inr ⟨e, a1, a2, by omega, a4⟩
theorem here_app (cs : List Int) (k : Nat) {e : Int} (h : 1 ≤ e) : hereN (cs ++ List.replicate k 1) e = hereN cs e + k := by
  unfold hereN
  rw [List.countP_append, List.countP_replicate]
  simp [h]
theorem lack_app (ns cs : List Int) (r k : Nat) {e : Nat} (h : 1 ≤ e) : lack ns (cs ++ List.replicate k 1) r e = lack ns cs r e - k := by
  unfold lack
  rw [here_app cs k (by omega)]
  omega
/-- the persons that have come by e -/
def hereL (cs : List Int) (e : Int) : List Int := ((List.range cs.length).filter fun p => decide (cs.getD p 0 ≤ e)).map fun p => ((p : Nat) : Int)
theorem countP_range : ∀ (cs : List Int) (q : Int → Bool), ((List.range cs.length).filter fun p => q (cs.getD p 0)).length = cs.countP q
  | [], q => rfl
  | c :: cs, q => by
    have ih := countP_range cs q
    rw [List.length_cons, List.range_succ_eq_map, List.filter_cons, List.filter_map, List.countP_cons]
    have e : ((fun p => q ((c :: cs).getD p 0)) ∘ Nat.succ) = fun p => q (cs.getD p 0) := by
      funext p; simp
    rw [e]
    have c0 : (c :: cs).getD 0 0 = c := rfl
    rw [c0]
    by_cases h : q c = true
    · rw [if_pos h, if_pos h, List.length_cons, List.length_map, ih]
    · rw [if_neg h, if_neg h, List.length_map, ih]; rfl
theorem hereL_len (cs : List Int) (e : Int) : (hereL cs e).length = hereN cs e := by
  unfold hereL hereN
  rw [List.length_map]
  exact countP_range cs fun c => decide (c ≤ e)
/-- the nights of a window, one by one -/
theorem win_filter (ns : List Int) (r e : Nat) (he : 1 ≤ e) : ∀ n, n ≤ ns.length → (((List.range n).filter fun i => decide ((e : Int) - r ≤ 1 + (i : Nat) ∧ 1 + ((i : Nat) : Int) ≤ e)).map fun i => ns.getD i 0).sum = win ns (e - 1 - r) (min e n)
  | 0, _ => by
    have : win ns (e - 1 - r) (min e 0) = 0 := by
      unfold win
      have : min e 0 - (e - 1 - r) = 0 := by omega
      rw [this]; simp
    rw [this]; rfl
  | n + 1, hn => by
    have ih := win_filter ns r e he n (by omega)
    rw [List.range_succ, List.filter_append, List.map_append, List.sum_append, ih]
    by_cases c : e ≤ n
    · have h : decide ((e : Int) - r ≤ 1 + (n : Nat) ∧ 1 + ((n : Nat) : Int) ≤ e) = false := by
        rw [decide_eq_false_iff_not]; omega
      rw [List.filter_cons, h]
      have e1 : min e n = e := by omega
      have e2 : min e (n + 1) = e := by omega
      rw [e1, e2]; simp
    · have e1 : min e n = n := by omega
      have e2 : min e (n + 1) = n + 1 := by omega
      rw [e1, e2]
      by_cases d : (e : Int) - r ≤ 1 + (n : Nat)
      · have h : decide ((e : Int) - r ≤ 1 + (n : Nat) ∧ 1 + ((n : Nat) : Int) ≤ e) = true := by
          rw [decide_eq_true_eq]; omega
        rw [List.filter_cons, h, win_succ (by omega) (by omega)]
        simp
      · have h : decide ((e : Int) - r ≤ 1 + (n : Nat) ∧ 1 + ((n : Nat) : Int) ≤ e) = false := by
          rw [decide_eq_false_iff_not]; omega
        rw [List.filter_cons, h]
        have w0 : ∀ m, m ≤ e - 1 - r → win ns (e - 1 - r) m = 0 := fun m hm => by
          unfold win
          have : m - (e - 1 - r) = 0 := by omega
          rw [this]; simp
        rw [w0 n (by omega), w0 (n + 1) (by omega)]
        simp
end Hse
namespace Hse
theorem here_step (cs : List Int) (i : Nat) : (hereN cs ((i : Nat) + 1) : Int) = hereN cs (i : Nat) + cs.countP fun c => decide (c = (i : Int) + 1) := by
  unfold hereN
  induction cs with
  | nil => rfl
  | cons c cs ih =>
    rw [List.countP_cons, List.countP_cons, List.countP_cons]
    by_cases h1 : c ≤ (i : Int)
    · have a1 : decide (c ≤ (i : Int)) = true := decide_eq_true h1
      have a2 : decide (c ≤ (i : Int) + 1) = true := decide_eq_true (by omega)
      have a3 : decide (c = (i : Int) + 1) = false := decide_eq_false (by omega)
      rw [a1, a2, a3]
      simp only [if_true, Bool.false_eq_true, if_false]
      omega
    · by_cases h3 : c = (i : Int) + 1
      · have a1 : decide (c ≤ (i : Int)) = false := decide_eq_false h1
        have a2 : decide (c ≤ (i : Int) + 1) = true := decide_eq_true (by omega)
        have a3 : decide (c = (i : Int) + 1) = true := decide_eq_true h3
        rw [a1, a2, a3]
        simp only [if_true, Bool.false_eq_true, if_false]
        omega
      · have a1 : decide (c ≤ (i : Int)) = false := decide_eq_false h1
        have a2 : decide (c ≤ (i : Int) + 1) = false := decide_eq_false (by omega)
        have a3 : decide (c = (i : Int) + 1) = false := decide_eq_false h3
        rw [a1, a2, a3]
        simp only [Bool.false_eq_true, if_false]
        omega
theorem here_zero (cs : List Int) (h : ∀ c ∈ cs, 1 ≤ c) : hereN cs 0 = 0 := by
  unfold hereN
  rw [List.countP_eq_zero]
  intro c hc
  have := h c hc
  simp; omega
theorem win_shift {l : List Int} {i r : Nat} (h : r < i) (hi : i ≤ l.length) : win l (i - r) i = win l (i - 1 - r) i - l.getD (i - r - 1) 0 := by
  have e : i - 1 - r = i - r - 1 := by omega
  rw [e]
  unfold win
  have hd : i - r - 1 < l.length := by omega
  rw [List.drop_eq_getElem_cons hd]
  have e2 : i - (i - r - 1) = (i - (i - r)) + 1 := by omega
  rw [e2, List.take_succ_cons, List.sum_cons]
  have e3 : i - r - 1 + 1 = i - r := by omega
  rw [e3]
  have e4 : l.getD (i - r - 1) 0 = l[i - r - 1] := by simp [hd]
  rw [e4]; omega
theorem win_app {l : List Int} {x : Int} {a i : Nat} (h : i ≤ l.length) : win (l ++ [x]) a i = win l a i := by
  have : win ((l ++ [x]).take i) a i = win (l.take i) a i := by rw [List.take_append_of_le_length h]
  rw [win_take, win_take] at this
  exact this
end Hse
/-! x is True, x is False, x is not True .. of any x -/
namespace L2
open PySem PySem.Spec PyProof.Rows
section
variable {X : Cx}
theorem nk_isB {M : Model} {A : Around} {E : Value → Shared → Prop} {s : Shared} {x : V} {v : Value} {b : Bool} {Q : Value → Shared → Prop} (r : RelV x v) (h : Q (.bool (decide (x = .bl b))) s) : wpAny M A (compareOp .Is v (.bool b)) Q E s := by
  cases x with
  | non => cases r; exact wpAny_pure h
  | bl c =>
    cases r
    have e : (Value.bool c == Value.bool b) = decide (V.bl c = V.bl b) := by cases c <;> cases b <;> rfl
    rw [← e] at h
    exact wpAny_pure h
  | int _ => obtain ⟨t, rfl⟩ := r; exact wpAny_pure h
  | str _ => obtain ⟨t, rfl⟩ := r; exact wpAny_pure h
  | byt _ => obtain ⟨t, rfl⟩ := r; exact wpAny_pure h
  | flt _ => obtain ⟨t, rfl⟩ := r; exact wpAny_pure h
  | ref _ => cases r; exact wpAny_pure h
  | ty _ => cases r; exact wpAny_pure h
theorem nk_isnotB {M : Model} {A : Around} {E : Value → Shared → Prop} {s : Shared} {x : V} {v : Value} {b : Bool} {Q : Value → Shared → Prop} (r : RelV x v) (h : Q (.bool (!decide (x = .bl b))) s) : wpAny M A (compareOp .IsNot v (.bool b)) Q E s := by
  cases x with
  | non => cases r; exact wpAny_pure h
  | bl c =>
    cases r
    have e : (Value.bool c == Value.bool b) = decide (V.bl c = V.bl b) := by cases c <;> cases b <;> rfl
    rw [← e] at h
    exact wpAny_pure h
  | int _ => obtain ⟨t, rfl⟩ := r; exact wpAny_pure h
  | str _ => obtain ⟨t, rfl⟩ := r; exact wpAny_pure h
  | byt _ => obtain ⟨t, rfl⟩ := r; exact wpAny_pure h
  | flt _ => obtain ⟨t, rfl⟩ := r; exact wpAny_pure h
  | ref _ => cases r; exact wpAny_pure h
  | ty _ => cases r; exact wpAny_pure h
def rIsBl : R2 := fun x y H Q => ∃ b, y = .bl b ∧ Q (.bl (decide (x = .bl b))) H
def rNotBl : R2 := fun x y H Q => ∃ b, y = .bl b ∧ Q (.bl (!decide (x = .bl b))) H
theorem op_isB : OpR X (compareOp .Is) rIsBl := by
  intro pins s σ H x y v u Q I rx ry h
  obtain ⟨b, rfl, q⟩ := h
  cases ry
  exact nk_isB rx (fin_bl I q rfl)
theorem op_isnotB : OpR X (compareOp .IsNot) rNotBl := by
  intro pins s σ H x y v u Q I rx ry h
  obtain ⟨b, rfl, q⟩ := h
  cases ry
  exact nk_isnotB rx (fin_bl I q rfl)
end
end L2
/-! Rules that take their operands as they come (ints, texts, lists, tuples): the reading is a match on the values. -/
namespace L2
open PySem PySem.Spec PyProof.Rows
/-! ### operators -/
section
variable {X : Cx}
def aAdd (K : PySem.W.Frag) : R2 := fun x y H Q => match x, y with
  | .int i, .int j => Q (.int (i + j)) H
  | .int i, .bl k => Q (.int (i + b2i k)) H
  | .str i, .str j => i.length + j.length ≤ sizeLine ∧ Q (.str (i ++ j)) H
  | .ref a, .ref b => rCat (.ref a) (.ref b) H Q ∨ rCatA K (.ref a) (.ref b) H Q
  | _, _ => False
theorem oa_add : OpR X (binaryOp .Add) (aAdd X.K) := by
  intro pins s σ H x y v u Q I rx ry h
  cases x <;> cases y <;> first
    | exact False.elim h
    | exact op_add pins s σ H _ _ v u Q I rx ry ⟨_, _, rfl, rfl, h⟩
    | exact op_add_ib pins s σ H _ _ v u Q I rx ry ⟨_, _, rfl, rfl, h⟩
    | exact op_add_str pins s σ H _ _ v u Q I rx ry ⟨_, _, rfl, rfl, h.1, h.2⟩
    | exact (op_cat.or op_catA) pins s σ H _ _ v u Q I rx ry h
def aSub : R2 := fun x y H Q => match x, y with
  | .int i, .int j => Q (.int (i - j)) H
  | _, _ => False
theorem oa_sub : OpR X (binaryOp .Sub) aSub := by
  intro pins s σ H x y v u Q I rx ry h
  cases x <;> cases y <;> first
    | exact False.elim h
    | exact op_sub pins s σ H _ _ v u Q I rx ry ⟨_, _, rfl, rfl, h⟩
def aMul (K : PySem.W.Frag) : R2 := fun x y H Q => match x, y with
  | .int i, .int j => IntMulOk i j ∧ Q (.int (i * j)) H
  | .ref a, .int j => rRep (.ref a) (.int j) H Q
  | .str z, .int j => (-1000000 ≤ j ∧ j ≤ 10000 ∧ z.length ≤ 1000) ∧ Q (.str (Txt.mul z j)) H
  | _, _ => False
theorem mulOk_of {z : Str} {j : Int} (h : -1000000 ≤ j ∧ j ≤ 10000 ∧ z.length ≤ 1000) : MulOk z j := by
  obtain ⟨h1, h2, h3⟩ := h
  refine ⟨?_, fun a _ => ?_, fun a _ => ?_⟩
  · rw [Bool.or_eq_false_iff, decide_eq_false_iff_not, decide_eq_false_iff_not]
    constructor <;> omega
  · have : (1000 : Int) ≤ (2 ^ 63 - 1) / j := Int.le_ediv_of_mul_le (by omega) (by omega)
    omega
  · have b : z.length * j.toNat ≤ 1000 * 10000 := Nat.mul_le_mul h3 (by omega)
    unfold Builtin.Str.tooLong
    rw [decide_eq_false_iff_not]
    have : (1000 * 10000 : Nat) ≤ sizeLine := by decide
    omega
theorem oa_mul : OpR X (binaryOp .Mult) (aMul X.K) := by
  intro pins s σ H x y v u Q I rx ry h
  cases x <;> cases y <;> first
    | exact False.elim h
    | (obtain ⟨t, rfl⟩ := rx; obtain ⟨t', rfl⟩ := ry; exact mul_int ⟨.int _, H, I.tok _, ⟨_, rfl⟩, h.2⟩ h.1)
    | exact op_rep pins s σ H _ _ v u Q I rx ry h
    | (obtain ⟨t, rfl⟩ := rx; obtain ⟨t', rfl⟩ := ry; exact SB.mul (mulOk_of h.1) fun t' k => ⟨.str _, H, I.tok k, ⟨t', rfl⟩, h.2⟩)
def aDiv : R2 := fun x y H Q => match x, y with
  | .int i, .int j => j ≠ 0 ∧ j.natAbs.log2 < 9000 ∧ Q (.int (i.fdiv j)) H
  | _, _ => False
theorem oa_div : OpR X (binaryOp .FloorDiv) aDiv := by
  intro pins s σ H x y v u Q I rx ry h
  cases x <;> cases y <;> first
    | exact False.elim h
    | (obtain ⟨t, rfl⟩ := rx; obtain ⟨t', rfl⟩ := ry; exact floordiv_int h.1 ⟨.int _, H, I.tok _, ⟨_, rfl⟩, h.2.2⟩ (.inl (PyProof.noPylong_of_log2 h.2.1)))
def aMod : R2 := fun x y H Q => match x, y with
  | .int i, .int j => j ≠ 0 ∧ Q (.int (i.fmod j)) H
  | _, _ => False
theorem oa_mod : OpR X (binaryOp .Mod) aMod := by
  intro pins s σ H x y v u Q I rx ry h
  cases x <;> cases y <;> first
    | exact False.elim h
    | exact op_modN pins s σ H _ _ v u Q I rx ry ⟨_, _, rfl, rfl, h.1, h.2⟩
def aPow : R2 := fun x y H Q => match x, y with
  | .int i, .int j => (0 ≤ j ∧ j ≤ 1000000 ∧ i.natAbs < 2 ^ 64) ∧ Q (.int (i ^ j.toNat)) H
  | _, _ => False
theorem oa_pow : OpR X (binaryOp .Pow) aPow := by
  intro pins s σ H x y v u Q I rx ry h
  cases x <;> cases y <;> first
    | exact False.elim h
    | exact op_pow pins s σ H _ _ v u Q I rx ry ⟨_, _, rfl, rfl, h.1, h.2⟩
def aNeg : V → Hp → VK → Prop := fun x H Q => match x with
  | .int i => Q (.int (-i)) H
  | _ => False
theorem oa_neg : UnR X (unaryOp .USub) aNeg := by
  intro pins s σ H x v Q I rx h
  cases x <;> first
    | exact False.elim h
    | exact un_neg pins s σ H _ v Q I rx ⟨_, rfl, h⟩
/-! ### comparisons -/
def aEq (K : PySem.W.Frag) : R2 := fun x y H Q => match x, y with
  | .ref a, .ref b => rEqD K (.ref a) (.ref b) H Q
  | x, y => scal x y = true ∧ Q (.bl (decide (x = y))) H
theorem oa_eq (hu : X.A.units + 64 < cLine) : OpR X (compareOp .Eq) (aEq X.K) := by
  intro pins s σ H x y v u Q I rx ry h
  by_cases e : ∃ a b, x = .ref a ∧ y = .ref b
  · obtain ⟨a, b, rfl, rfl⟩ := e
    exact op_eqD hu pins s σ H _ _ v u Q I rx ry h
  · have h' : scal x y = true ∧ Q (.bl (decide (x = y))) H := by
      cases x <;> cases y <;> first
        | exact h
        | exact absurd ⟨_, _, rfl, rfl⟩ e
    exact op_eq pins s σ H _ _ v u Q I rx ry h'
def aNe (K : PySem.W.Frag) : R2 := fun x y H Q => match x, y with
  | .ref a, .ref b => rNeD K (.ref a) (.ref b) H Q
  | x, y => scal x y = true ∧ Q (.bl (!decide (x = y))) H
theorem oa_ne (hu : X.A.units + 64 < cLine) : OpR X (compareOp .NotEq) (aNe X.K) := by
  intro pins s σ H x y v u Q I rx ry h
  by_cases e : ∃ a b, x = .ref a ∧ y = .ref b
  · obtain ⟨a, b, rfl, rfl⟩ := e
    exact op_neD hu pins s σ H _ _ v u Q I rx ry h
  · have h' : scal x y = true ∧ Q (.bl (!decide (x = y))) H := by
      cases x <;> cases y <;> first
        | exact h
        | exact absurd ⟨_, _, rfl, rfl⟩ e
    exact op_ne pins s σ H _ _ v u Q I rx ry h'
def aCmp (p : Int → Int → Bool) : R2 := fun x y H Q => match x, y with
  | .int i, .int j => Q (.bl (p i j)) H
  | _, _ => False
theorem oa_cmp {op : CmpOp} {p : Int → Int → Bool} (h0 : OpR X (compareOp op) (rI0 fun i j => .bl (p i j))) : OpR X (compareOp op) (aCmp p) := by
  intro pins s σ H x y v u Q I rx ry h
  cases x <;> cases y <;> first
    | exact False.elim h
    | exact h0 pins s σ H _ _ v u Q I rx ry ⟨_, _, rfl, rfl, h⟩
abbrev aLt : R2 := aCmp fun i j => decide (i < j)
abbrev aLe : R2 := aCmp fun i j => decide (i ≤ j)
abbrev aGt : R2 := aCmp fun i j => decide (j < i)
abbrev aGe : R2 := aCmp fun i j => decide (j ≤ i)
theorem oa_lt : OpR X (compareOp .Lt) aLt := oa_cmp op_lt
theorem oa_le : OpR X (compareOp .LtE) aLe := oa_cmp op_le
theorem oa_gt : OpR X (compareOp .Gt) aGt := oa_cmp op_gt
theorem oa_ge : OpR X (compareOp .GtE) aGe := oa_cmp op_ge
/-- x is y: None, True, False on the right -/
def aIs : R2 := fun x y H Q => match y with
  | .non => Q (.bl (decide (x = .non))) H
  | .bl b => Q (.bl (decide (x = .bl b))) H
  | _ => False
theorem oa_is : OpR X (compareOp .Is) aIs := by
  intro pins s σ H x y v u Q I rx ry h
  cases y <;> first
    | exact False.elim h
    | exact op_isN pins s σ H _ _ v u Q I rx ry ⟨rfl, h⟩
    | exact op_isB pins s σ H _ _ v u Q I rx ry ⟨_, rfl, h⟩
def aIsnot : R2 := fun x y H Q => match y with
  | .non => Q (.bl (!decide (x = .non))) H
  | .bl b => Q (.bl (!decide (x = .bl b))) H
  | _ => False
theorem oa_isnot : OpR X (compareOp .IsNot) aIsnot := by
  intro pins s σ H x y v u Q I rx ry h
  cases y <;> first
    | exact False.elim h
    | exact op_notN pins s σ H _ _ v u Q I rx ry ⟨rfl, h⟩
    | exact op_isnotB pins s σ H _ _ v u Q I rx ry ⟨_, rfl, h⟩
/-! ### subscripts, slices, len -/
def aIx (K : PySem.W.Frag) : R2 := fun x y H Q => match x, y with
  | .str z, .int i => z.length ≤ sizeLine ∧ ∃ c, atI z.cps.toList i = some c ∧ Q (.str ⟨#[c]⟩) H
  | .ref p, .int i => ∃ xs v, (SqL K H p xs ∨ SqT K H p xs) ∧ atI xs i = some v ∧ Q v H
  | _, _ => False
theorem oa_ix : IxR X (aIx X.K) := by
  intro va sl pins s σ H x y v u Q I rx ry h hs
  cases x <;> cases y <;> first
    | exact False.elim h
    | (obtain ⟨h1, c, h2, q⟩ := h; exact ix_str va sl pins s σ H _ _ v u Q I rx ry ⟨_, _, _, rfl, rfl, h1, h2, q⟩ hs)
    | (obtain ⟨xs, w, h1 | h1, h2, q⟩ := h
       · exact ix_list va sl pins s σ H _ _ v u Q I rx ry ⟨_, _, _, _, rfl, rfl, h1, h2, q⟩ hs
       · exact ix_tup va sl pins s σ H _ _ v u Q I rx ry ⟨_, _, _, _, rfl, rfl, h1, h2, q⟩ hs)
def aLen (K : PySem.W.Frag) : List V → Hp → VK → Prop := fun xs H Q => match xs with
  | [.str z] => z.length ≤ sizeLine ∧ Q (.int z.length) H
  | [.ref p] => ∃ ys, (SqL K H p ys ∨ SqT K H p ys) ∧ Q (.int ys.length) H
  | _ => False
theorem ca_len : CallR X (.builtin "len") (aLen X.K) := by
  intro pins s σ H xs us Q I r h
  match xs, h with
  | [.str z], h => exact call_len_str pins s σ H _ us Q I r ⟨_, rfl, h.1, h.2⟩
  | [.ref p], ⟨ys, h1, q⟩ => exact call_len_seq pins s σ H _ us Q I r ⟨_, _, rfl, h1, q⟩
/-- int(x) of an int -/
def aInt : List V → Hp → VK → Prop := fun xs H Q => match xs with
  | [.int i] => Q (.int i) H
  | [.bl k] => Q (.int (if k then 1 else 0)) H
  | _ => False
theorem ca_int : CallR X (.type "int") aInt := by
  intro pins s σ H xs us Q I r h
  match xs, h with
  | [.int i], h => exact call_int1 pins s σ H _ us Q I r (.inl ⟨_, rfl, h⟩)
  | [.bl k], h => exact call_int1 pins s σ H _ us Q I r (.inr ⟨_, rfl, h⟩)
def aAbs : List V → Hp → VK → Prop := fun xs H Q => match xs with
  | [.int i] => Q (.int (i.natAbs : Int)) H
  | _ => False
theorem ca_abs : CallR X (.builtin "abs") aAbs := by
  intro pins s σ H xs us Q I r h
  match xs, h with
  | [.int i], h =>
    have e : (if i < 0 then -i else i) = (i.natAbs : Int) := by split <;> omega
    exact call_abs pins s σ H _ us Q I r ⟨_, rfl, by rw [e]; exact h⟩
/-- list(x) of a list or a tuple -/
def aList (K : PySem.W.Frag) : List V → Hp → VK → Prop := fun xs H Q => match xs with
  | [.ref p] => ∃ ys, (SqL K H p ys ∨ SqT K H p ys) ∧ ∀ l, H l = none → Q (.ref l) (upd H l (.lst ys))
  | _ => False
theorem ca_list : CallR X (.type "list") (aList X.K) := by
  intro pins s σ H xs us Q I r h
  match xs, h with
  | [.ref p], ⟨ys, h1, q⟩ => exact call_list_of pins s σ H _ us Q I r ⟨_, _, rfl, h1, q⟩
/-- tuple(x) of a list -/
def aTuple (K : PySem.W.Frag) : List V → Hp → VK → Prop := fun xs H Q => match xs with
  | [.ref p] => ∃ ys, ((SqL K H p ys ∧ ∀ l, H l = none → Q (.ref l) (upd H l (.tup ys))) ∨ (SqT K H p ys ∧ Q (.ref p) H))
  | _ => False
theorem ca_tuple : CallR X (.type "tuple") (aTuple X.K) := by
  intro pins s σ H xs us Q I r h
  match xs, h with
  | [.ref p], ⟨ys, h1⟩ => exact call_tuple_of pins s σ H _ us Q I r ⟨_, _, rfl, h1⟩
def aSl (K : PySem.W.Frag) : V → Option Int → Option Int → Hp → VK → Prop := fun x lo hi H Q => rSlL K x lo hi H Q ∨ (rSlA K x lo hi H Q ∨ rSlS x lo hi H Q)
theorem oa_sl : SlR X (aSl X.K) := sl_list.or (sl_tupA.or sl_str)
/-- max(a, b), min(a, b) of two ints; max(xs), min(xs) of a list of ints -/
def aMax (K : PySem.W.Frag) : List V → Hp → VK → Prop := fun xs H Q => match xs with
  | [.int i, .int j] => Q (.int (max i j)) H
  | [.ref p] => ∃ ns : List Int, SqL K H p (ns.map V.int) ∧ 0 < ns.length ∧ ∀ m, m ∈ ns → (∀ y, y ∈ ns → y ≤ m) → Q (.int m) H
  | _ => False
theorem ca_max (hc : X.calm = true) : CallR X (.builtin "max") (aMax X.K) := by
  intro pins s σ H xs us Q I r h
  match xs, h with
  | [.int i, .int j], h =>
    have e : (if j > i then j else i) = max i j := by split <;> omega
    exact call_max2 hc pins s σ H _ us Q I r ⟨_, _, rfl, by rw [e]; exact h⟩
  | [.ref p], ⟨ns, h1, h2, q⟩ => exact cr_max hc pins s σ H _ us Q I r ⟨_, _, rfl, h1, h2, q⟩
def aMin (K : PySem.W.Frag) : List V → Hp → VK → Prop := fun xs H Q => match xs with
  | [.int i, .int j] => Q (.int (min i j)) H
  | [.ref p] => ∃ ns : List Int, SqL K H p (ns.map V.int) ∧ 0 < ns.length ∧ ∀ m, m ∈ ns → (∀ y, y ∈ ns → m ≤ y) → Q (.int m) H
  | _ => False
theorem ca_min (hc : X.calm = true) : CallR X (.builtin "min") (aMin X.K) := by
  intro pins s σ H xs us Q I r h
  match xs, h with
  | [.int i, .int j], h =>
    have e : (if j < i then j else i) = min i j := by split <;> omega
    exact call_min2 hc pins s σ H _ us Q I r ⟨_, _, rfl, by rw [e]; exact h⟩
  | [.ref p], ⟨ns, h1, h2, q⟩ => exact cr_min hc pins s σ H _ us Q I r ⟨_, _, rfl, h1, h2, q⟩
/-- truth of any value: TruV -/
def tTr (K : PySem.W.Frag) (ta : TE) : TT := fun σ H Q => ta σ H fun x H' => match x with
  | .bl b => Q b H'
  | .int i => Q (i != 0) H'
  | .non => Q false H'
  | x => ∃ k, TruV K x H' k ∧ Q k H'
theorem pt_tr {a : Expr} {ta : TE} (ha : PE X a ta) (he : ∀ whole, isTrue a X.env whole = (do let v ← whole; standAt a.pos; holding [v] (truthy v)) := by intro _; rfl) : PT X a (tTr X.K ta) := by
  refine ⟨fun pins s σ H Q I hw => ?_⟩
  refine isTrue_plain (thn (ha.run pins s σ H _ I hw) fun v s1 ⟨x, H1, I1, r1, q1⟩ => ?_) (he _)
  refine tru_ok pins s1 σ H1 x v Q I1 r1 ?_
  cases x <;> first
    | exact q1
    | exact ⟨_, rfl, q1⟩
end
end L2
/-! An own error class over ValueError (through own classes) whose __init__ says super().__init__(a text), then stores each of its arguments as a field of that name: made by a call. -/
namespace PySem
namespace NKE
open PySem.W PySem.Calls PyProof.Rows PySem.HandSPX PySem.OEX
/-- self.f = f -/
def IsFld (f : Str) (st : Stmt) : Prop := ∃ p q r z, st = .Assign [.Attribute (.Name "self" p) f q] (.Name f r) z
inductive IsFlds : List Str → List Stmt → Prop
  | nil : IsFlds [] []
  | cons {f : Str} {st : Stmt} {fs : List Str} {sts : List Stmt} : IsFld f st → IsFlds fs sts → IsFlds (f :: fs) (st :: sts)
/-- super().__init__(txt) -/
def IsSup (st : Stmt) : Prop := ∃ (p0 p1 p2 p3 p4 p5 : Pos) (j : Nat) (txt : Str), (p2.endLine == p4.line) = true ∧ st = .Expr (.Call (.Attribute (.Call (.Name "super" p0) [] [] p1) "__init__" p2) [.Constant (.str txt) j p3] [] p4) p5
/-- what the written part says of the class at C, and of its __init__, at fI -/
structure ErrTxt (K : Frag) (C fI : Addr) (fs : List Str) : Prop where
  cls : ∃ nm q N bs bm sn sub ab col dd k0 k1 k2 k3 k5, K.lookup C = some (excClassObj nm q C N bs bm true sn sub ab col dd k0 k1 k2 k3 k5 "ValueError.__new__") ∧ refsVE bm = true
  sa : findIn K (.ref C) "__setattr__" = some (some (.builtin "object.__setattr__"))
  noN : ∀ f ∈ fs, findIn K (.ref C) f = some none
  iC : findIn K (.ref C) "__init__" = some (some (.ref fI))
  tC : typeIn K (.ref fI) = some (.type "function")
  kC : keepIn K (.ref C) = true
  exC : subIn K (.ref C) (.type "BaseException") = some true
  veC : subIn K (.ref C) (.type "ValueError") = some true
  tyC : typeIn K (.ref C) = some (.type "type")
  sup : ks_superIn K C C "__init__" = some (some (.builtin "ValueError.__init__"))
  selfC : mroIn K C (.ref C) = some true
  tp : nsIn K cStatics "thirdparty.any" = some none
  nosup : nsIn K mainGlobals "super" = some none
  fn : ∃ (oc : Value) (od : Option Addr) (qual : Str) (params : Arguments) (body : List Stmt) (scope : Scope) (dV kV doc pm : Value) (an : Option Addr) (cda : Addr) (ct : Value) (osl : Array (Option Value)) (cc : Addr) (ar : Arg) (ccl cl : Value) (cdd cld : Option Addr) (vs : Array Value) (file : Str) (tf : Tok) (ccs csl : Array (Option Value)) (st : Stmt) (sts : List Stmt),
    K.lookup fI = some ⟨oc, od, .func (ksFn "__init__" qual params body scope dV kV doc pm an (.ref cda) ct cc), osl⟩ ∧ codeIn K (.ref cda) qual = true ∧
    (params.posonlyargs ++ params.args).head? = some ar ∧ ar.arg = "self" ∧
    K.lookup cda = some ⟨ccl, cdd, .fields vs, ccs⟩ ∧ vs[2]? = some (.str file tf) ∧ ((("/claim/cut.py" : Str)) == file) = true ∧
    K.lookup cc = some ⟨cl, cld, .cell (some (.ref C)), csl⟩ ∧
    body = st :: sts ∧ IsSup st ∧ IsFlds fs sts ∧
    scope.names.lookup ("super" : Str) = some .globalImplicit ∧ scope.names.lookup ("__class__" : Str) = some .free ∧ (∀ f ∈ ("self" : Str) :: fs, scope.names.lookup f = some .local) ∧ scope.kind = .function ∧
    (∀ x ∈ scope.names, x.2 ≠ .cell) ∧ scope.isCoroutine = false ∧ scope.isGenerator = false ∧
    (∀ us : List Value, us.length = fs.length + 1 → bindArgs (ksFn "__init__" qual params body scope dV kV doc pm an (.ref cda) ct cc) ⟨us, []⟩ = pure ((("self" : Str) :: fs).zip us)) ∧
    (("self" : Str) :: fs).Nodup ∧ (∀ f ∈ fs, (f == ("__debug__" : Str)) = false)

section
variable {prog : Program} {w : World} {A : Around} {E : Value → Shared → Prop} {R : Result → Shared → Prop} {s : Shared} {K : Frag} {mg : Str → Option Value} {C fI : Addr} {fs : List Str}
theorem in_but {h h' : Heap} {x : Addr} (X : K.In h) (hx : K.lookup x = none) (k : ∀ b o, b ≠ x → h.get? b = some o → h'.get? b = some o) : K.In h' := fun a o e =>
  k a o (fun z => by rw [z, hx] at e; cases e) (X a o e)
/-- the name self, the name f, in the frame at L -/
theorem ld1 {M : Model} {env : Env} {m : Str → Option Value} {x : Str} {pos : Pos} {v : Value} {Q : Value → Shared → Prop} (hn : s.heap.Ns env.locals m) (hv : m x = some v) (h : Q v s)
    (hk : env.scope.kind = .function) (hl : env.kindOf x = some .local) (hd : (x == ("__debug__" : Str)) = false) :
    wpAny M A (eval (.Name x pos) env) Q E s := wpAny_Name (wpAny_loadName_local hk hl hn hv h) hd
/-- the exception at x as __init__ leaves it -/
def excB (C t1 : Addr) (d : Option Addr) : Obj := { cls := .ref C, dict := d, data := .fields #[.ref t1, .none, .none, .none, .bool false, .none] }
/-- the stores behind the first -/
theorem err_stores {env : Env} {x t1 dx : Addr} {nm q : Str} {N : Addr} {bs bm : List Value} {sn : List Str} {sub : List Value} {ab : Bool} {col : Option Bool}
    (hcl : clsIn K C = some { name := nm, bases := bs, mro := .ref C :: bm, ns := N, qualname := q, hasDict := true, slotNames := sn, subclasses := sub, abstract := ab, collection := col, hasDel := false }) (hbm : refsVE bm = true)
    (sa : findIn K (.ref C) "__setattr__" = some (some (.builtin "object.__setattr__"))) (hxK : K.lookup x = none) (hdK : K.lookup dx = none)
    (hk : env.scope.kind = .function) (hself : env.kindOf "self" = some .local) {m : Str → Option Value} (hms : m "self" = some (.ref x)) (hxl : x ≠ env.locals) (hdl : dx ≠ env.locals) (hdx : dx ≠ x) :
    ∀ {fs : List Str} {sts : List Stmt}, IsFlds fs sts → ∀ {us : List Value} {m0 : Str → Option Value} {nl : List Str} {s : Shared}, us.length = fs.length → (∀ f ∈ fs, env.kindOf f = some .local) → (∀ f ∈ fs, (f == ("__debug__" : Str)) = false) → (∀ f ∈ fs, findIn K (.ref C) f = some none) →
      (∀ (i : Nat) (f : Str) (u : Value), fs[i]? = some f → us[i]? = some u → m f = some u) → K.In s.heap → s.heap.Ns env.locals m → s.heap.get? x = some (excB C t1 (some dx)) → s.heap.Ns1 dx m0 → Within m0 nl → nl.length + fs.length ≤ 900 →
      ∀ {Q : Flow → Shared → Prop}, (∀ h' tk, (∀ b o, b ≠ x → b ≠ dx → s.heap.get? b = some o → h'.get? b = some o) → h'.get? x = some (excB C t1 (some dx)) → h'.Ns1 dx (fun y => (((fs.zip us).reverse.lookup y).or (m0 y))) → Q .next { s with heap := h', toks := tk }) →
      wpAny (model prog w) A (execs sts env) Q E s := by
  intro fs sts hf
  induction hf with
  | nil =>
    intro us m0 nl s hl _ _ _ _ X hn hx hd hw hz Q hq
    refine wpAny_execs_nil ?_
    have := hq s.heap s.toks (fun _ _ _ _ e => e) hx (by simpa using hd)
    exact this
  | @cons f st fs sts h1 hr ih =>
    intro us m0 nl s hl hloc hdb hno hmv X hn hx hd hw hz Q hq
    obtain ⟨p, q', r, z, rfl⟩ := h1
    obtain ⟨u, us, rfl⟩ : ∃ u r, us = u :: r := by
      cases us with
      | nil => simp at hl
      | cons u r => exact ⟨u, r, rfl⟩
    have hl' : us.length = fs.length := by simpa using hl
    have hu : m f = some u := hmv 0 f u rfl rfl
    refine wpAny_execs_cons (plainObj_wpAny_Assign_Attribute ?_)
    refine ld1 (v := u) hn hu (ld1 (v := .ref x) hn hms ?_ hk hself (by decide +kernel)) hk (hloc f (by simp)) (hdb f (by simp))
    obtain ⟨hp, g, dr, tk, os⟩ := s
    obtain ⟨oD, es, ep, hoD, hdD, hrest⟩ := id hd
    refine set_plain X (ox := excB C t1 (some dx)) (od := some oD) ⟨hx, rfl, rfl, hoD⟩ sa ?_
    refine osa_old X hx hd hw (by simp at hz; omega) hcl (show refsVE (.ref C :: bm) = true from hbm) rfl (hno f (by simp)) (fun h' tk' k' hn' => ?_)
    have hd' : h'.Ns env.locals m := by
      obtain ⟨o, es, ep, e, rest⟩ := hn
      exact ⟨o, es, ep, k' _ _ (fun z => hdl z.symm) e, rest⟩
    refine ih (us := us) (m0 := fun y => if y = f then some u else m0 y) (nl := f :: nl) (s := ⟨h', g, dr, tk', os⟩) hl' (fun y hy => hloc y (by simp [hy])) (fun y hy => hdb y (by simp [hy])) (fun y hy => hno y (by simp [hy])) (fun i f' u' h1 h2 => hmv (i + 1) f' u' (by simpa using h1) (by simpa using h2))
      (in_but X hdK fun b o hb e => k' b o hb e) hd' (k' _ _ hdx.symm hx) hn' (Within.cons f u hw) (by simp at hz ⊢; omega) (fun h2 tk2 k2 hx2 hn2 => ?_)
    refine hq h2 tk2 (fun b o hb1 hb2 e => k2 b o hb1 hb2 (k' b o hb2 e)) hx2 ?_
    have e : (fun y => ((((f :: fs).zip (u :: us)).reverse.lookup y).or (m0 y))) = (fun y => (((fs.zip us).reverse.lookup y).or ((fun y => if y = f then some u else m0 y) y))) := by
      funext y
      rw [List.zip_cons_cons, List.reverse_cons, List.lookup_append]
      cases hh : (fs.zip us).reverse.lookup y with
      | some v => simp
      | none =>
        by_cases hy : y = f
        · subst hy; simp [List.lookup]
        · have : (y == f) = false := by simpa using hy
          simp [List.lookup, this, hy]
    rw [e]
    exact hn2
/-- what __init__ leaves of a fresh exception at x -/
structure InitEnd (h h' : Heap) (x C dx t1 : Addr) (fs : List Str) (us : List Value) : Prop where
  keep : ∀ b o, b ≠ x → h.get? b = some o → h'.get? b = some o
  obj : h'.get? x = some (excB C t1 (some dx))
  dbig : h.objs.size ≤ dx
  dne : dx ≠ x
  ns : h'.Ns1 dx (fun y => (fs.zip us).reverse.lookup y)
theorem lk_zip : ∀ {fs : List Str} {us : List Value} {i : Nat} {f : Str} {u : Value}, fs.Nodup → fs[i]? = some f → us[i]? = some u → (fs.zip us).reverse.lookup f = some u
  | [], _, _, _, _, _, h, _ => by simp at h
  | _ :: _, [], _, _, _, _, _, h => by simp at h
  | g :: fs, v :: us, 0, f, u, nd, h1, h2 => by
    simp at h1 h2
    subst h1 h2
    rw [List.zip_cons_cons, List.reverse_cons, List.lookup_append]
    have : (fs.zip us).reverse.lookup g = none := by
      rw [List.lookup_eq_none_iff]
      intro p hp
      have := (List.of_mem_zip (List.mem_reverse.mp hp)).1
      have n := (List.nodup_cons.mp nd).1
      simp
      rintro rfl
      exact n this
    rw [this]
    simp [List.lookup]
  | g :: fs, v :: us, i + 1, f, u, nd, h1, h2 => by
    have ih := lk_zip (i := i) (List.nodup_cons.mp nd).2 (by simpa using h1) (by simpa using h2)
    rw [List.zip_cons_cons, List.reverse_cons, List.lookup_append, ih]
    rfl
/-- what a method call asks whether .. -/
def pl_ (o : Expr) (env : Env) : Sem Bool := do return (← importBound o env).getD true
theorem sup_eq {o : Expr} {name : Str} {p2 p4 p3 : Pos} {txt : Str} {j : Nat} {env : Env} (h : (p2.endLine == p4.line) = true) : eval (.Call (.Attribute o name p2) [.Constant (.str txt) j p3] [] p4) env = (do
      let ov ← attributeBase o name env (eval o env)
      standAt p2.atName
      let (f, first) ← holding [ov] (getMethod ov name (pl_ o env))
      callWith p4 f first (backTo p4 (starEach [.Constant (.str txt) j p3] env)) []) := by
  rw [arm_eval_Call]
  unfold methodCall methodCallPos
  simp only [h, Bool.or_true, if_true]
  rfl
theorem err_init (T : ErrTxt K C fI fs) (hfs : fs ≠ []) (hfl : fs.length ≤ 800) (hfile : ((prog.main.file : Str) == "/claim/cut.py") = true) (htop : (prog.main.scope.names.lookup ("super" : Str)).isSome = false) {x t0 : Addr} {us : List Value} (hus : us.length = fs.length) (X : K.In s.heap) (hlim : s.heap.NoLimit)
    {mb : Str → Option Value} (hG : s.heap.Ns mainGlobals mg) (hB : s.heap.Ns builtinsNs mb) (hbb : ∀ x : Str, x ≠ "__name__" → mb x = bootBuiltins x) (hms : mg "super" = none)
    (hx : s.heap.get? x = some (excO C t0)) (hnx : K.lookup x = none) (hroom : A.depth < recursionLimit)
    (hq : ∀ h' tk dx t1, InitEnd s.heap h' x C dx t1 fs us → R (.ok (.ret .none)) { s with heap := h', toks := tk }) :
    codeAny (model prog w) A (.call (.ref fI) ⟨.ref x :: us, []⟩) R s := by
  obtain ⟨oc, od, qual, params, body, scope, dV, kV, doc, pm, an, cda, ct, osl, cc, ar, ccl, cl, cdd, cld, vs, file, tf, ccs, csl, st, sts, ho, hcd, har, hself, hcda, hvs, hfl2, hcc, rfl, hsup, hflds, hks, hkc, hloc, hkind, hcell, hco, hgen, hbind, hnd, hdbg⟩ := T.fn
  obtain ⟨nm, q, N, bs, bm, sn, sub, ab, col, dd, k0, k1, k2, k3, k5, hC, hbm⟩ := T.cls
  have hcl : clsIn K C = some { name := nm, bases := bs, mro := .ref C :: bm, ns := N, qualname := q, hasDict := true, slotNames := sn, subclasses := sub, abstract := ab, collection := col, hasDel := false } := by unfold clsIn; rw [hC] <;> rfl
  have hxs : x < s.heap.objs.size := Heap.lt_size hx
  refine ks_codeAny_call_defAt (fd := ksFn "__init__" qual params (st :: sts) scope dV kV doc pm an (.ref cda) ct cc) (body := st :: sts) (binds := (("self" : Str) :: fs).zip (.ref x :: us)) hroom (X _ _ ho) rfl hlim (codeRec_of X hcd) rfl
    (BindsTo.of_eq (hbind _ (by simp [hus]))) hcell (fun y hy => hloc y.1 (List.of_mem_zip hy).1) (fun h₁ hns hk₁ => ?_) hco hgen hkind
  have X₁ : K.In h₁ := X.keeps hk₁
  have hx₁ := hk₁ _ _ hx
  obtain ⟨hp, g, dr, tk, os⟩ := s
  generalize tk + ((("self" : Str) :: fs).zip (.ref x :: us)).length = tk1
  obtain ⟨p0, p1, p2, p3, p4, p5, j, txt, hpos, rfl⟩ := hsup
  -- the frame's names
  have hm : ∀ (i : Nat) (f : Str) (u : Value), (("self" : Str) :: fs)[i]? = some f → (Value.ref x :: us)[i]? = some u → ((("self" : Str) :: fs).zip (Value.ref x :: us)).reverse.lookup f = some u := by
    intro i f u h1 h2
    exact lk_zip hnd h1 h2
  refine ks_wpAt_execs_cons (ks_wpAt_Expr_any (hi := (show (scope.kind == .module && _) = false by rw [hkind]; rfl)) (ks_wpAt_MethodCall ?_ (pl := pl_ _ _) (he := sup_eq hpos)))
  refine ks_wpAt_super_base (f := fI) (cc := cda) hks hkc (by decide +kernel) rfl (hk₁ _ _ (X _ _ ho)) rfl har rfl (hk₁ _ _ (X _ _ hcda)) rfl hvs (by rw [beq_iff_eq] at hfile hfl2 ⊢; rw [hfile, hfl2]) htop ?_
  refine ks_loadName_global hkind hks (loadGlobal_builtin (hG.keeps hk₁) hms (hB.keeps hk₁) ((hbb _ (by decide +kernel)).trans (by first | boot_by_name | rfl | kernel_rfl)) ⟨rfl, ?_⟩)
  refine wpAny_loadName_free hkind hkc rfl ⟨_, X₁ _ _ hcc, rfl⟩ ?_
  refine wpAny_loadName_local hkind (hself ▸ hloc "self" (by simp)) hns (v := .ref x) (by rw [hself]; exact hm 0 "self" (.ref x) rfl rfl) ?_
  refine ks_wpAny_isType_cls (X₁ _ _ hC) rfl ⟨rfl, ?_⟩
  refine ks_wpAny_call_super (X₁ _ _ hC) rfl hx₁ rfl (fun c e => by cases e) (looks_mroIn X₁ T.selfC) (fun h2 hso k2 => ?_)
  have X2 : K.In h2 := X₁.keeps k2
  have hx2 := k2 _ _ hx₁
  have I2 : InstAt h2 x (excO C t0) C none := ⟨hx2, rfl, rfl, trivial⟩
  have hal : alongIn K "__init__" (((Value.ref C :: bm).dropWhile (· != .ref C)).drop 1) = some (some (.builtin "ValueError.__init__")) := by
    have z := T.sup
    unfold ks_superIn at z
    rw [hcl] at z
    exact z
  refine kxs_getMethod kxs_ValueError hso (looks_opaque X2 T.tp) (l₀ := .ref C :: bm) (fun A Q E s k q => wpAny_bind ((looks_clsIn X2 hcl) A _ E s k (wpAny_pure q))) rfl X2 hal (I2.type.andThen (looks_subIn X2 T.veC)) (ks_ne X2 I2 hcl) (by decide +kernel) ?_
  have hu : (h2.push (kxs_mw "ValueError.__init__" x)).get? h2.objs.size = some (kxs_mw "ValueError.__init__" x) := by heap_get
  have k3 : ∀ b o, h2.get? b = some o → (h2.push (kxs_mw "ValueError.__init__" x)).get? b = some o := fun b o e => Heap.get?_push_of_some _ e
  refine kxs_callWith (u := h2.objs.size) (i := "ValueError.__init__") (x := x) rfl (evalArgs_plain ?_)
  show wpAny _ _ (spliced ((false, eval (.Constant (.str txt) j p3) _) :: _)) _ _ _
  refine Calls.spliced_cons (Calls.Constant_str (Calls.spliced_nil ⟨hu, ?_⟩))
  generalize hh3 : h2.push (kxs_mw "ValueError.__init__" x) = h3 at hu k3 ⊢
  have X3 : K.In h3 := X2.keeps k3
  have hx3 := k3 _ _ hx2
  refine wpAny_call (codeAny_of_tree ?_)
  show wpAny _ _ (callAny (.ref h2.objs.size) _) _ _ _
  simp only [callAny]
  refine wpAny_bind (wpAny_load hu ?_)
  simp only [kxs_mw, show (Value.type "method-wrapper" == Value.type "method" || Value.type "method-wrapper" == Value.type "builtin_function_or_method" || Value.type "method-wrapper" == Value.type "method-wrapper") = true by decide, if_true]
  refine KFB.if_so (by decide) ?_
  have FB := F.excBase_ValueError
  refine wpAny_bind (check_bound_init FB.toExcCallFacts (X3 _ _ hC) hx3 rfl ?_)
  refine wpAny_bind (wpAny_pure (wpAny_pure ?_))
  refine ⟨plainId_quiet FB.init.plain _, codeAny_builtin FB.initEntry ?_⟩
  refine exc_init_tree (cls := .ref C) (t0 := t0) (dv := none) (c2 := .none) (c3 := .none) (b4 := .bool false) hx3 (by rw [sizeLine_eq]; exact (by decide : 1 ≤ 16777216)) (fun h4 k4 hx4 _ => ?_)
  -- the first field
  have old : ∀ b o, b ≠ x → hp.get? b = some o → h4.get? b = some o := fun b o hb e => k4 b o hb (k3 _ _ (k2 _ _ (hk₁ _ _ e)))
  have hL : x ≠ hp.objs.size := Nat.ne_of_lt hxs
  have hn4 : h4.Ns hp.objs.size (fun y => ((("self" : Str) :: fs).zip (Value.ref x :: us)).reverse.lookup y) := by
    obtain ⟨o, es, ep, e, rest⟩ := hns
    exact ⟨o, es, ep, k4 _ _ hL.symm (k3 _ _ (k2 _ _ e)), rest⟩
  have X4 : K.In h4 := in_but X hnx old
  have hx4' : h4.get? x = some (excO C h3.objs.size) := hx4
  have h3L : hp.objs.size < h4.objs.size := hn4.lt
  have hself' : (callEnv (ksFn "__init__" qual params (Stmt.Expr (.Call (.Attribute (.Call (.Name "super" p0) [] [] p1) "__init__" p2) [.Constant (.str txt) j p3] [] p4) p5 :: sts) scope dV kV doc pm an (.ref cda) ct cc) hp.objs.size fI).kindOf "self" = some .local := hloc "self" (by simp)
  cases hflds with
  | nil => exact absurd rfl hfs
  | @cons f st fs sts hf1 hfr =>
  obtain ⟨pp, qq, rr, zz, rfl⟩ := hf1
  obtain ⟨u, us, rfl⟩ : ∃ u r, us = u :: r := by
    cases us with
    | nil => simp at hus
    | cons u r => exact ⟨u, r, rfl⟩
  refine wpAt_of_wpAny ?_
  refine wpAny_execs_cons (plainObj_wpAny_Assign_Attribute ?_)
  refine ld1 (v := u) hn4 (hm 1 f u rfl rfl) (ld1 (v := .ref x) hn4 (hm 0 "self" (.ref x) rfl rfl) ?_ hkind hself' (by decide +kernel)) hkind (hloc f (by simp)) (hdbg f (by simp))
  refine set_plain X4 (ox := excO C h3.objs.size) (od := none) ⟨hx4', rfl, rfl, trivial⟩ T.sa ?_
  refine exc_osa X4 hx4' hcl (show refsVE (.ref C :: bm) = true from hbm) rfl (T.noN f (by simp)) (fun h5 tk5 dx k5 dn dne hx5 hn5 => ?_)
  have hdL : dx ≠ hp.objs.size := Nat.ne_of_gt (Nat.lt_of_lt_of_le h3L dn)
  have hdK : K.lookup dx = none := by
    cases e : K.lookup dx with
    | none => rfl
    | some o => exact absurd (Heap.lt_size (X4 _ _ e)) (Nat.not_lt.mpr dn)
  have hn5' : h5.Ns hp.objs.size (fun y => ((("self" : Str) :: f :: fs).zip (Value.ref x :: u :: us)).reverse.lookup y) := by
    obtain ⟨o, es, ep, e, rest⟩ := hn4
    exact ⟨o, es, ep, k5 _ _ hL.symm e, rest⟩
  show wpAny _ _ (execs sts _) _ _ _
  refine err_stores (s := ⟨h5, g, dr, tk5, os⟩) (t1 := h3.objs.size) (us := us) (nl := [f]) (m0 := fun y => if y = f then some u else none) (x := x) (dx := dx) hcl hbm T.sa hnx hdK hkind hself' (hm 0 "self" (.ref x) rfl rfl) hL hdL dne hfr (by simpa using hus) (fun y hy => hloc y (by simp [hy])) (fun y hy => hdbg y (by simp [hy])) (fun y hy => T.noN y (by simp [hy]))
    (fun i f' u' h1 h2 => hm (i + 2) f' u' (by simpa using h1) (by simpa using h2)) (in_but X4 hnx k5) hn5' hx5 hn5 (Within.cons f u Within.nil) (by simp at hfl ⊢; omega) (fun h6 tk6 k6 hx6 hn6 => ?_)
  refine hq h6 tk6 dx h3.objs.size ⟨fun b o hb e => k6 b o hb (fun z => ?_) (k5 b o hb (old b o hb e)), hx6, Nat.le_of_lt (Nat.lt_of_lt_of_le h3L dn), dne, ?_⟩
  · subst z
    exact absurd (Nat.lt_trans (Heap.lt_size e) h3L) (Nat.not_lt.mpr dn)
  · have e : (fun y => (((f :: fs).zip (u :: us)).reverse.lookup y)) = (fun y => (((fs.zip us).reverse.lookup y).or ((fun y => if y = f then some u else none) y))) := by
      funext y
      rw [List.zip_cons_cons, List.reverse_cons, List.lookup_append]
      cases hh : (fs.zip us).reverse.lookup y with
      | some v => simp
      | none =>
        by_cases hy : y = f
        · subst hy; simp [List.lookup]
        · have : (y == f) = false := by simpa using hy
          simp [List.lookup, this, hy]
    rw [e]
    exact hn6
/-- a made one -/
structure ErrMade (h h' : Heap) (e C d : Addr) (fs : List Str) (us : List Value) : Prop where
  keep : ∀ b o, h.get? b = some o → h'.get? b = some o
  new : h.objs.size ≤ e
  obj : ∃ oe vs, h'.get? e = some oe ∧ oe.cls = .ref C ∧ oe.dict = some d ∧ oe.data = .fields vs ∧ vs[1]? = some .none
  dbig : h.objs.size ≤ d
  dne : d ≠ e
  ns : h'.Ns1 d (fun y => (fs.zip us).reverse.lookup y)
theorem err_made (T : ErrTxt K C fI fs) (hfs : fs ≠ []) (hfl : fs.length ≤ 800) (hfile : ((prog.main.file : Str) == "/claim/cut.py") = true) (htop : (prog.main.scope.names.lookup ("super" : Str)).isSome = false) {us : List Value} (hus : us.length = fs.length) (X : K.In s.heap) (hlim : s.heap.NoLimit)
    {mb : Str → Option Value} (hG : s.heap.Ns mainGlobals mg) (hB : s.heap.Ns builtinsNs mb) (hbb : ∀ x : Str, x ≠ "__name__" → mb x = bootBuiltins x) (hms : mg "super" = none) (hroom : A.depth + 1 < recursionLimit)
    (hq : ∀ h' tk e d, ErrMade s.heap h' e C d fs us → R (.ok (.ret (.ref e))) { s with heap := h', toks := tk }) :
    codeAny (model prog w) A (.call (.ref C) ⟨us, []⟩) R s := by
  obtain ⟨nm, q, N, bs, bm, sn, sub, ab, col, dd, k0, k1, k2, k3, k5, hC, hbm⟩ := T.cls
  obtain ⟨hp, g, dr, tk, os⟩ := s
  have k : ∀ b o, hp.get? b = some o → ((hp.push (kdv_tup us)).push (excO C hp.objs.size)).get? b = some o := fun b o e => Heap.get?_push_of_some _ (Heap.get?_push_of_some _ e)
  have hget : ((hp.push (kdv_tup us)).push (excO C hp.objs.size)).get? (hp.objs.size + 1) = some (excO C hp.objs.size) := by heap_get
  have hnx : K.lookup (hp.objs.size + 1) = none := by
    cases e : K.lookup (hp.objs.size + 1) with
    | none => rfl
    | some o =>
      have z : hp.get? (hp.objs.size + 1) = some o := X _ _ e
      exact absurd (Nat.lt_of_succ_lt (Heap.lt_size z)) (Nat.lt_irrefl _)
  refine call_own F.excBase_ValueError (fun X => refsVE_contains X bm hbm) (X _ _ hC) (looks_findIn X T.iC) (fun self => bind_fn X self T.tC) (by rw [hus, sizeLine_eq]; omega) ?_
  refine err_init (s := ⟨(hp.push (kdv_tup us)).push (excO C hp.objs.size), g, dr, tk, os⟩) T hfs hfl hfile htop hus (X.keeps k) (hlim.keeps k) (hG.keeps k) (hB.keeps k) hbb hms hget hnx ?_ fun h' tk' dx t1 ⟨k', hx, dn, dne, hns⟩ => ?_
  · show A.depth + 1 < recursionLimit
    exact hroom
  · have old : ∀ b o, hp.get? b = some o → h'.get? b = some o := fun b o e => k' b o (Nat.ne_of_lt (Nat.lt_succ_of_lt (Heap.lt_size e))) (k b o e)
    have z : hp.objs.size + 1 + 1 ≤ dx := by
      first
        | (simpa only [Heap.size_push] using dn)
        | exact dn
        | (have q := dn; rw [Heap.size_push, Heap.size_push] at q; exact q)
    exact ⟨rfl, hq h' tk' (hp.objs.size + 1) dx ⟨old, Nat.le_succ _, ⟨_, _, hx, rfl, rfl, rfl, rfl⟩, Nat.le_trans (Nat.le_trans (Nat.le_succ _) (Nat.le_succ _)) z, dne, hns⟩⟩
end
end NKE
end PySem
namespace L2
open PySem PySem.Spec PyProof.Rows
theorem relO_err : ∀ {fs : List Str} {vs : List V} {us : List Value}, Vals vs us → fs.length = vs.length → fs.Nodup → ∀ f, RelO (List.lookup f (fs.zip vs)) ((fs.zip us).reverse.lookup f)
  | [], _, _, _, _, _, f => by simp [List.lookup]; trivial
  | g :: fs, [], _, _, h, _, f => by simp at h
  | g :: fs, v :: vs, _, rr, h, nd, f => by
    cases rr with
    | cons r rs =>
    rename_i u us
    have ih := relO_err rs (by simpa using h) (List.nodup_cons.mp nd).2 f
    rw [List.zip_cons_cons, List.zip_cons_cons, List.reverse_cons, List.lookup_append]
    by_cases hg : f = g
    · subst hg
      have : (fs.zip us).reverse.lookup f = none := by
        rw [List.lookup_eq_none_iff]
        intro p hp
        have q := (List.of_mem_zip (List.mem_reverse.mp hp)).1
        have n := (List.nodup_cons.mp nd).1
        simp
        rintro rfl
        exact n q
      rw [this]
      simp [List.lookup]
      exact r
    · have hb : (f == g) = false := by simpa using hg
      rw [List.lookup_cons, hb]
      have e : ((fs.zip us).reverse.lookup f).or (List.lookup f [(g, u)]) = (fs.zip us).reverse.lookup f := by
        simp [List.lookup, hb]
      rw [e]
      exact ih
section
variable {X : Cx} {C fI : Addr} {fs : List Str}
/-- C(e, ..): an error of the class at C with the fields fs -/
def tMkErr (C : Addr) (fs : List Str) (ta : TA) : St → Hp → XK → Prop := fun σ H Q => ta σ H fun vs H1 => vs.length = fs.length ∧ ∀ d, H1 d = none → Q (.ref C) (some d) (upd H1 d (.xd (fs.zip vs)))
theorem pmk_err {x : Str} {a : Expr} {as : List Expr} {ta : TA} {p pos : Pos} {k : Nat} (T : PySem.NKE.ErrTxt X.K C fI fs) (hfs : fs ≠ []) (hfl : fs.length ≤ 800) (hnd : fs.Nodup) (hfile : ((X.prog.main.file : Str) == "/claim/cut.py") = true) (htop : (X.prog.main.scope.names.lookup ("super" : Str)).isSome = false) (hms : X.mg "super" = none)
    (hr : Room k X.A) (gC : X.mg x = some (.ref C)) (ha : PA X (a :: as) ta) (hg : Gl X x := by rfl) (hdb : (x == ("__debug__" : Str)) = false := by decide)
    (he : starEach (a :: as) X.env = (false, eval a X.env) :: starEach as X.env := by rfl) (hpl : (backTo pos (starEach as X.env)).any (·.1) = false := by rfl) :
    PMk X (.Call (.Name x p) (a :: as) [] pos) (tMkErr C fs ta) := by
  intro pins s σ H Q I h
  refine wpAny_Call_Name_kw (ld_glob I hg gC ?_ hdb)
  refine PySem.W.callWith_K (h₀ := X.base) I.ok.mod.kin T.kC (thn (ha.run pos pins s σ H _ I h) fun us s1 hh => ?_) he hpl
  obtain ⟨vs, H1, I1, r1, ev, q1⟩ := hh
  refine ⟨I1.kIn, ?_⟩
  show wpAny _ _ (call (.ref C) us) _ _ _
  have hlim := I1.nolimit
  obtain ⟨mb, hb1, hb2⟩ := I1.mod.blt
  have hGl : s1.heap.Ns mainGlobals X.mg := I1.mod.glob.keeps I1.bk
  have hBl : s1.heap.Ns builtinsNs mb := hb1.keeps I1.bk
  obtain ⟨hp, g, dr, tk, os⟩ := s1
  refine wpAny_call (PySem.NKE.err_made T hfs hfl hfile htop (by rw [← r1.length, ev]) I1.kIn hlim hGl hBl hb2 hms (by have := hr.dp; omega) fun h' tk' e d M => ?_)
  show MkP X pins σ Q (.ref e) ⟨h', g, dr, tk', os⟩
  obtain ⟨oe, fv, hoe, hc, hd, hdat, h1⟩ := M.obj
  have hns := M.ns
  obtain ⟨G', g1, g2⟩ := restrict h' fun b => decide (b ≠ e)
  have gk : ∀ b, b ≠ e → G'.get? b = h'.get? b := fun b hb => g1 b (decide_eq_true hb)
  have ge : G'.get? e = none := g2 e (by simp)
  have old : ∀ b o, hp.get? b = some o → G'.get? b = some o := fun b o q => (gk b (Nat.ne_of_lt (Nat.lt_of_lt_of_le (Heap.lt_size q) M.new))).trans (M.keep b o q)
  have ob : ObjOk X.prog X.w (upd H1 d (.xd (fs.zip vs))) G' d (.xd (fs.zip vs)) :=
    ⟨_, hns.at (fun o q => (gk d M.dne).trans q), relO_err r1 ev.symm hnd⟩
  have J : Inv X pins σ (upd H1 d (.xd (fs.zip vs))) ⟨G', g, dr, tk', os⟩ := I1.laid (t' := tk') old M.dbig ob
  refine ⟨e, oe, fv, ⟨G', g, dr, tk', os⟩, _, .ref C, some d, rfl, J, fun b o q => ?_, ge, hoe, ⟨hc, hd⟩, hdat, h1, ?_, rfl, I1.bare, raises_own T.exC T.tyC, q1 d (I1.hok.fresh M.dbig)⟩
  · by_cases hb : b = e
    · subst hb
      rw [ge] at q
      cases q
    · exact (gk b hb).symm.trans q
  · rw [upd_ne M.dne.symm]
    exact I1.hok.fresh M.new
end
end L2
/-! isinstance of a caught error that has its own dict; several except clauses with names. -/
namespace PySem.W
open PySem PySem.Spec PySem.Calls PyProof.Rows
section
variable {prog : Program} {w : World} {A : Around} {E : Value → Shared → Prop} {s : Shared} {K : Frag} {x D : Addr} {ox : Obj} {od : Option Obj}
theorem nk_findObj {C : Addr} {name : Str} {a g : Value} (hc : (clsIn K C).isSome = true) (ha : findIn K (.ref C) name = some (some a)) (hg : specialIn K a "__get__" = some (some g)) (ht : takesIn K a = some true) : findObj K C od name = some (.bind g a) := by
  obtain ⟨cd, hc⟩ := Option.isSome_iff_exists.mp hc
  unfold findObj
  rw [hc, Option.bind_some, ha, Option.bind_some]
  simp [hg, ht]
theorem nk_classE {Q : Option Value → Shared → Prop} (hga : findIn K (.ref D) "__getattribute__" = some (some (.builtin "BaseException.__getattribute__"))) (hgt : findIn K (.ref D) "__getattr__" = some none) (hsub : subIn K (.ref D) (.type "BaseException") = some true)
    (hdct : hasDictIn K D = true) (ha : findIn K (.ref D) "__class__" = some (some (.builtin "object.__class__")))
    (hn : specialIn K (.builtin "object.__class__") "__get__" = some (some (.builtin "getset_descriptor.__get__"))) (htk : takesIn K (.builtin "object.__class__") = some true) (hm : mroIn K D (.type "object") = some true)
    (X : K.In s.heap) (I : InstAt s.heap x ox D od) (h : Q (some (.ref D)) { s with toks := s.toks + 1 }) : wpAny (model prog w) A (getAttr? (.ref x) "__class__") Q E s := by
  have hf : findObj K D od "__class__" = some (.bind (.builtin "getset_descriptor.__get__") (.builtin "object.__class__")) := nk_findObj (by obtain ⟨cd, hc, _⟩ := any_some hdct; rw [hc]; rfl) ha hn htk
  obtain ⟨hp, g, d, t, os⟩ := s
  have L0 := I.type (M := model prog w)
  have L1 := looks_findIn (M := model prog w) X hga
  have L2 := looks_findIn (M := model prog w) X hgt
  have L3 := looks_find (M := model prog w) X I hf
  have sub : Looks (model prog w) hp (isInstance (.ref x) (.type "BaseException")) true := L0.andThen (looks_subIn X hsub)
  have hx0 : (false && onTheHeap (Value.builtin "BaseException.__getattribute__")) = false := rfl
  have hx2 : (Value.builtin "BaseException.__getattribute__" == Value.builtin "object.__getattribute__") = false := by decide +kernel
  have hx1 : (onTheHeap (Value.ref D) && Value.builtin "BaseException.__getattribute__" == Value.builtin "object.__getattribute__") = false := by rw [hx2]; rfl
  unfold getAttr? getAttrBy? getAttrBy
  refine wpAny_bind (wpAny_mkText (wpAny_bind (wpAny_attempt (wpAny_holding (wpAny_bind (L0.at (wpAny_bind (L1.at ?_))))))))
  show wpAny _ _ (if (onTheHeap (Value.ref D) && Value.builtin "BaseException.__getattribute__" == Value.builtin "object.__getattribute__") = true then _ else _) _ _ _
  rw [hx1, if_neg Bool.false_ne_true]
  unfold getAttrByItsOwn hookBefore
  refine wpAny_bind ?_
  rw [if_pos (show onTheHeap (Value.ref D) = true from rfl)]
  refine L2.at ?_
  refine wpAny_bind (wpAny_attempt (wpAny_holding ?_))
  unfold callGetattribute
  rw [hx0, if_neg Bool.false_ne_true]
  unfold boundAndCalled
  rw [PySem.F.excAttr_ValueError.ga.bind (.ref x)]
  refine wpAny_bind (wpAny_pure ?_)
  show wpAny _ _ (call (.builtin "BaseException.__getattribute__") [.ref x, .str "__class__" t]) _ _ _
  refine wpAny_call (codeAny_call_builtin PySem.F.excAttr_ValueError.ga.plain PySem.F.entry_bexc_ga ?_)
  refine @check_slot (model prog w) _ _ ⟨hp, g, d, t + 1, os⟩ "BaseException.__getattribute__" "BaseException" "__getattribute__" (.ref x) [.str "__class__" t] [] _ (by decide +kernel) (by decide +kernel) sub (PySem.F.args_bexc_ga (.ref x) (.str "__class__" t)) ?_
  unfold Builtin.«object.__getattribute__»
  refine wpAny_bind (wpAny_of_eq (a := ((Value.ref x : Value), [Value.str "__class__" t])) (by first | rfl | (simp only [slotArgs]; rfl)) ?_)
  refine wpAny_bind (wpAny_pure (wpAny_bind (L0.at (wpAny_bind (L3.at ?_)))))
  show wpAny _ _ (holding [Value.builtin "object.__class__"] (call (.builtin "getset_descriptor.__get__") [.builtin "object.__class__", .ref x, .ref D]) >>= ret) _ _ _
  refine wpAny_bind (wpAny_holding (wpAny_call (class_get (s := ⟨hp, g, d, t + 1, os⟩) (ox := ox) (od := od) X I hm ?_)))
  refine wpAny_pure ?_
  show wpAny _ _ (handedOut (.ref D)) _ _ _
  rw [handedOut_of (v := .ref D) rfl]
  first
    | exact wpAny_pure (wpAny_pure h)
    | exact wpAny_pure h
    | exact wpAny_pure (wpAny_bind (wpAny_pure (wpAny_pure h)))
theorem nk_kitx (hga : findIn K (.ref D) "__getattribute__" = some (some (.builtin "BaseException.__getattribute__"))) (hgt : findIn K (.ref D) "__getattr__" = some none) (hsub : subIn K (.ref D) (.type "BaseException") = some true) (hdct : hasDictIn K D = true) (ha : findIn K (.ref D) "__class__" = some (some (.builtin "object.__class__")))
    (hn : specialIn K (.builtin "object.__class__") "__get__" = some (some (.builtin "getset_descriptor.__get__"))) (htk : takesIn K (.builtin "object.__class__") = some true) (hm : mroIn K D (.type "object") = some true) :
    KitX K (.ref x) (.ref D) (fun h => ∃ od, InstAt h x ox D od) where
  ty := fun _ _ _ ⟨_, I⟩ => I.type
  it := fun _ _ X _ => by
    obtain ⟨cdD, hcD, _⟩ := any_some hdct
    unfold clsIn at hcD
    split at hcD
    · rename_i c' d' cd' sl' ho
      intro A' Q' E' s' k q
      unfold isType loadHead
      exact wpAny_bind (wpAny_loadPart (k _ _ (X _ _ ho)) (wpAny_pure q))
    · cases hcD
  ne := fun h tp dd its n sl X htp => by
    obtain ⟨cdD, hcD, _⟩ := any_some hdct
    refine Bool.eq_false_iff.mpr fun q => ?_
    have e : D = tp := Value.ref.inj (beq_iff_eq.mp q)
    subst e
    unfold clsIn at hcD
    split at hcD
    · rename_i c' d' cd' sl' ho
      have z := (X _ _ ho).symm.trans htp
      cases z
    · cases hcD
  ca := fun X ⟨_, I⟩ k => nk_classE hga hgt hsub hdct ha hn htk hm X I k
end
end PySem.W
namespace L2
open PySem PySem.Spec PyProof.Rows
/-- isinstance(e, c), e the error that the suite holds at a, of the class at D -/
def rIsX (K : PySem.W.Frag) (D a : Addr) (cls : Value) (d : Option Addr) : List V → Hp → VK → Prop := fun xs H Q => ∃ (c : V) (cv : Value) (b : Bool), xs = [.ref a, c] ∧ cls = .ref D ∧ (∀ u, RelV c u → u = cv) ∧ (∀ dd, d = some dd → ∃ fs, H dd = some (.xd fs)) ∧ PySem.W.kitOne K (.ref D) cv = some b ∧ Q (.bl b) H
theorem call_isX {X : Cx} {a D : Addr} {oe : Obj} {cls : Value} {d : Option Addr} {pn : List (Addr × Obj)} (C : ExcC X.K D) (hz : Zc cls d oe) (hf : ∃ vs, oe.data = .fields vs) : CallR (X.suite a ((a, oe) :: pn)) (.builtin "isinstance") (rIsX X.K D a cls d) := by
  intro pins s σ H xs us Q I r h
  obtain ⟨c, cv, b, rfl, rfl, hcv, hdd, e, q⟩ := h
  cases r with
  | cons rx rr =>
    cases rr with
    | cons rt rr =>
      cases rr
      cases rx
      have ec := hcv _ rt
      subst ec
      obtain ⟨hget, _⟩ := I.pin (a, oe) (List.mem_append.mpr (.inl List.mem_cons_self))
      obtain ⟨vs, hv⟩ := hf
      have J : ∃ od, PySem.W.InstAt s.heap a oe D od := by
        obtain ⟨oc, od, oda, osl⟩ := oe
        obtain ⟨h1, h2⟩ := hz
        dsimp only at h1 h2 hv
        subst h1 h2 hv
        cases od with
        | none => exact ⟨none, hget, rfl, rfl, trivial⟩
        | some dd =>
          obtain ⟨fs, hx⟩ := hdd dd rfl
          obtain ⟨mA, ⟨o, es, ep, ho, _⟩, _⟩ : ∃ mA, s.heap.Ns1 dd mA ∧ _ := I.hok dd _ hx
          exact ⟨some o, hget, rfl, rfl, ho⟩
      exact PySem.W.kia_one (PySem.W.nk_kitx C.hg C.hk C.hs C.hd C.ha C.hn C.ht C.hm) I.kIn J e (fun z => nomatch z) fun tk => ⟨.bl b, H, I.kept (t' := tk) fun _ _ z => z, rfl, q⟩

/-! ### several except clauses, each with or without a name -/
/-- a clause: the class it names; the slot of its name; what its suite asks -/
abbrev Hd := Value × Option Nat × (Addr → Value → Option Addr → TS)
/-- what the clauses wish of an exception of the body, one after the other -/
def wHds (K : PySem.W.Frag) (Wout : WX) (D : Ends) : List Hd → WX
  | [] => Wout
  | (c, none, ts) :: r => fun cls d σ H => ∃ b, PySem.W.exmOne K cls c = some b ∧ (b = true → ∀ a, H a = none → ts a cls d D σ H) ∧ (b = false → wHds K Wout D r cls d σ H)
  | (c, some i, ts) :: r => fun cls d σ H => ∃ b, PySem.W.exmOne K cls c = some b ∧ (b = true → ∀ a, H a = none → ts a cls d { nx := fun σ' H' => D.nx (σ'.set i none) H', rt := D.rt, bk := fun σ' H' => D.bk (σ'.set i none) H', ct := fun σ' H' => D.ct (σ'.set i none) H' } (σ.set i (some (.ref a))) H) ∧ (b = false → wHds K Wout D r cls d σ H)
inductive HdsN (X : Cx) : List ExceptHandler → List Hd → Prop
  | nil : HdsN X [] []
  | bare {x : Str} {c : Value} {ts : Addr → Value → Option Addr → TS} {b₀ : Stmt} {suite : List Stmt} {np pos' : Pos} {hds : List ExceptHandler} {l : List Hd} (hc : Names X x c)
      (hsu : ∀ (a : Addr) (oe : Obj) (cls : Value) (d : Option Addr) (pn : List (Addr × Obj)), Zc cls d oe → (∃ vs, oe.data = .fields vs) → PSs (X.suite a ((a, oe) :: pn)) (b₀ :: suite) (ts a cls d)) (r : HdsN X hds l) :
      HdsN X (.ExceptHandler (some (.Name x np)) none (b₀ :: suite) pos' :: hds) ((c, none, ts) :: l)
  | as_ {x n : Str} {i : Nat} {c : Value} {ts : Addr → Value → Option Addr → TS} {b₀ : Stmt} {suite : List Stmt} {np pos' : Pos} {hds : List ExceptHandler} {l : List Hd} (hi : X.N[i]? = some n) (hln : X.env.kindOf n = some .local) (hc : Names X x c)
      (hsu : ∀ (a : Addr) (oe : Obj) (cls : Value) (d : Option Addr) (pn : List (Addr × Obj)), Zc cls d oe → (∃ vs, oe.data = .fields vs) → PSs (X.suite a ((a, oe) :: pn)) (b₀ :: suite) (ts a cls d)) (r : HdsN X hds l) :
      HdsN X (.ExceptHandler (some (.Name x np)) (some n) (b₀ :: suite) pos' :: hds) ((c, some i, ts) :: l)
section
variable {X : Cx} {body : List Stmt} {h₀ : ExceptHandler} {hds : List ExceptHandler} {l : List Hd} {pos : Pos} {tb : WX → TS} {Wout : WX}
theorem ps_try_hds (hs : X.stack = X.env :: X.outer) (hf : X.env.frame = some X.env.locals) (hN : X.N.Nodup) (tk : Takes X Wout)
    (hb : ∀ (W : WX) (pn : List (Addr × Obj)) (xe : Value → Shared → Prop), Takes (X.tr pn xe) W → PassesOwn (model X.prog X.w) X.A X.env xe → PSs (X.tr pn xe) body (tb W))
    (hh : HdsN X (h₀ :: hds) l) : PS X (.Try body (h₀ :: hds) [] [] pos) (fun D σ H => tb (wHds X.K Wout D l) D σ H) := by
  refine ⟨fun pins s σ H D I h => ?_⟩
  have ok := I.ok
  have hfr : X.A.frames = some (X.env :: X.outer) := by rw [ok.frames, hs]
  refine wpAny_Try_except ?_
  refine wpAny_mono ((hb (wHds X.K Wout D l) (X.pn ++ pins) (fun e s₁ => wpAny (model X.prog X.w) X.A (noteFrame e X.env) (fun _ s₂ => wpAny (model X.prog X.w) X.A (setFlight e none) (fun _ s₃ =>
    wpAny (model X.prog X.w) X.A (handleBy e X.env (h₀ :: hds)) (SP X pins D) X.xe s₃) X.xe s₂) X.xe s₁) (fun u s' xx => ?_) PassesOwn.looking).run [] s σ H D (I.toTry _) h) (fun f s1 hsp => ?_) (fun e s1 he => he)
  · -- the catch
    obtain ⟨a, B, sI, pins', σ', H', cls, d, rfl, J', nb, up, sky, na, os, ag, w⟩ := xx
    have J : Inv X pins σ' H' sI := J'.ofTry ok
    have sky' : Sky B (X.env :: X.outer) a (Zc cls d) X.env.locals s'.heap := by rw [← hs]; exact sky
    show wpAny (model X.prog X.w) X.A (noteFrame (.ref a) X.env) _ _ _
    refine Sky.land Zc.steady hfr hf sky' fun h3 fl3 up3 => ?_
    have J3 : Inv X pins σ' H' { s' with heap := h3 } := J.landed nb fl3.1 (up.trans up3) os ag
    obtain ⟨oe3, vs3, he3, hz3, hd3⟩ := fl3.there
    have notFr : ∀ {h : Heap} {o : Obj} {vs : Array Value}, h.FunFrames B (X.env :: X.outer) → h.get? a = some o → o.data = .fields vs → a ∉ frs (X.env :: X.outer) := fun {h o vs} ff e dd hm => by
      obtain ⟨_, o', e', hnf⟩ := ff.mem hm
      rw [e] at e'; cases e'
      exact hnf _ dd
    have nfr := notFr fl3.2.2.1 he3 hd3
    have nL : a ≠ X.env.locals := fun z => nfr (List.mem_filterMap.mpr ⟨X.env, List.mem_cons_self, by rw [hf, z]⟩)
    have nF : a ∉ X.fs := fun hm => by
      obtain ⟨e, he, q⟩ := List.mem_filterMap.mp hm
      exact nfr (List.mem_filterMap.mpr ⟨e, List.mem_cons_of_mem _ he, q⟩)
    have S3 := J3.suite he3 hd3 na nL nF
    have test : ∀ {x : Str} {np : Pos} {c : Value} {Q : Value → Shared → Prop} {E : Value → Shared → Prop}, Names X x c → Q c { s' with heap := h3 } → wpAny (model X.prog X.w) (X.A.mark (some (.ref a))) (eval (.Name x np) X.env) Q E { s' with heap := h3 } := fun {x np c Q E} hc q => by
      obtain ⟨hg, hdbg, hm | ⟨hm, hv, hnn⟩⟩ := hc
      · exact ld_glob (X := X.suite a ((a, oe3) :: (X.pn ++ pins))) S3 hg hm q hdbg
      · exact ld_blt (X := X.suite a ((a, oe3) :: (X.pn ++ pins))) S3 hg hm hv q hnn hdbg
    have LT : PySem.W.Looks (model X.prog X.w) h3 (typeOf (.ref a)) cls := fun A Q E s k q => wpAny_typeOf_ref (k _ _ he3) (by rw [hz3.1]; exact q)
    have go : ∀ {hds' : List ExceptHandler} {l' : List Hd}, HdsN X hds' l' → wHds X.K Wout D l' cls d σ' H' →
        wpAny (model X.prog X.w) X.A (handleBy (.ref a) X.env hds') (SP X pins D) X.xe { s' with heap := h3 } := by
      intro hds' l' hk
      induction hk with
      | nil =>
        intro w
        refine wpAny_handleBy_nil ?_
        obtain ⟨k1, k2, k3, oe, vs, T, oT, ts', he, hz, hd, h1, hr⟩ := id fl3
        unfold PySem.passOn
        refine wpAny_bind (wpAny_field he hd h1 ?_)
        rw [if_neg (show ¬ ((Value.ref T == Value.none) = true) from by simp)]
        have fin : wpAny (model X.prog X.w) X.A (setFlight (.ref a) X.env.frame) (fun _ s4 => wpAny (model X.prog X.w) X.A (throw (.ref a) : Sem Flow) (SP X pins D) X.xe s4) X.xe { s' with heap := h3 } := by
          rw [hf]
          refine HandSPX.setFlight_upZ fl3 fun h4 hh4 up4 => wpAny_throw (tk _ _ ?_)
          exact ⟨a, B, sI, pins, σ', H', cls, d, rfl, J, nb, (up.trans up3).trans up4, .inr (.inr (by rw [hs]; exact hh4)), na, os, ag, w⟩
        first
          | exact wpAny_bind (wpAny_pure (wpAny_bind fin))
          | exact wpAny_bind fin
      | @bare x c ts b₀ suite np pos' hds2 l2 hc hsu r ih =>
        intro w
        obtain ⟨b, hb1, hyes, hno⟩ := w
        refine wpAny_handleBy_cons (codeAny_handlers_test ?_) (by intro q; cases q)
        have LM := PySem.W.exm_one (M := model X.prog X.w) (J3.kIn) LT hb1
        refine test hc (LM.here ?_)
        cases b with
        | true =>
          refine codeAny_handlers_suite ?_
          refine HandSPX.lands_againZ fl3 fun h4 fl4 up4 => ?_
          have J4 : Inv X pins σ' H' { s' with heap := h4 } := J.landed nb fl4.1 ((up.trans up3).trans up4) os ag
          obtain ⟨oe4, vs4, he4, hz4, hd4⟩ := fl4.there
          have S4 := J4.suite he4 hd4 na nL nF
          refine wpAny_mono ((hsu a oe4 cls d (X.pn ++ pins) hz4 ⟨_, hd4⟩).run [] _ _ H' _ S4 (hyes rfl a na)) (fun f s6 hsp => ?_) (fun _ _ z => False.elim z)
          cases f with
          | next =>
            obtain ⟨σ6, H6, S6, q6⟩ := hsp
            exact ⟨_, _, S6.unsuite ok, q6⟩
          | brk =>
            obtain ⟨σ6, H6, S6, q6⟩ := hsp
            exact ⟨_, _, S6.unsuite ok, q6⟩
          | cont =>
            obtain ⟨σ6, H6, S6, q6⟩ := hsp
            exact ⟨_, _, S6.unsuite ok, q6⟩
          | ret u =>
            obtain ⟨v6, σ6, H6, S6, r6, q6⟩ := hsp
            exact ⟨_, _, _, S6.unsuite ok, r6, q6⟩
        | false =>
          show wpAny _ X.A (handleBy (.ref a) X.env hds2) _ _ _
          exact ih (hno rfl)
      | @as_ x n i c ts b₀ suite np pos' hds2 l2 hi hln hc hsu r ih =>
        intro w
        obtain ⟨b, hb1, hyes, hno⟩ := w
        refine wpAny_handleBy_cons (codeAny_handlers_test ?_) (by intro q; cases q)
        have LM := PySem.W.exm_one (M := model X.prog X.w) (J3.kIn) LT hb1
        refine test hc (LM.here ?_)
        have hloc : Loc X.env.scope n := .inl hln
        cases b with
        | true =>
          refine codeAny_handlers_suite_as ?_
          refine HandSPX.lands_againZ fl3 fun h4 fl4 up4 => ?_
          have J4 : Inv X pins σ' H' { s' with heap := h4 } := J.landed nb fl4.1 ((up.trans up3).trans up4) os ag
          obtain ⟨oe4, vs4, he4, hz4, hd4⟩ := fl4.there
          have S4 := J4.suite he4 hd4 na nL nF
          refine store_ok (X := X.suite a ((a, oe4) :: (X.pn ++ pins))) (v := .ref a) S4 hN hi hloc rfl (fun s5 S5 => ?_) (.inr hln)
          refine wpAny_mono ((hsu a oe4 cls d (X.pn ++ pins) hz4 ⟨_, hd4⟩).run [] s5 _ H' _ S5 (hyes rfl a na)) (fun f s6 hsp => ?_) (fun _ _ z => False.elim z)
          have end_ : ∀ {σ6 : St} {H6 : Hp} {Q : Shared → Prop}, Inv (X.suite a ((a, oe4) :: (X.pn ++ pins))) [] σ6 H6 s6 → (∀ s7, Inv X pins (σ6.set i none) H6 s7 → Q s7) →
              wpAny (model X.prog X.w) X.A (do bindName X.env n .none; unbindBehindTheSuite X.env n pos') (fun _ s7 => Q s7) X.xe s6 := fun {σ6 H6 Q} S6 hq => gone_ok (S6.unsuite ok) hN hi hln hq
          cases f with
          | next =>
            obtain ⟨σ6, H6, S6, q6⟩ := hsp
            exact end_ S6 fun s7 J7 => ⟨_, _, J7, q6⟩
          | brk =>
            obtain ⟨σ6, H6, S6, q6⟩ := hsp
            exact end_ S6 fun s7 J7 => ⟨_, _, J7, q6⟩
          | cont =>
            obtain ⟨σ6, H6, S6, q6⟩ := hsp
            exact end_ S6 fun s7 J7 => ⟨_, _, J7, q6⟩
          | ret u =>
            obtain ⟨v6, σ6, H6, S6, r6, q6⟩ := hsp
            exact end_ S6 fun s7 J7 => ⟨_, _, _, J7, r6, q6⟩
        | false =>
          show wpAny _ X.A (handleBy (.ref a) X.env hds2) _ _ _
          exact ih (hno rfl)
    exact go hh w
  · cases f with
    | next =>
      obtain ⟨σ', H', J', q⟩ := hsp
      exact wpAny_execs_nil ⟨σ', H', J'.ofTry ok, q⟩
    | brk =>
      obtain ⟨σ', H', J', q⟩ := hsp
      exact ⟨σ', H', J'.ofTry ok, q⟩
    | cont =>
      obtain ⟨σ', H', J', q⟩ := hsp
      exact ⟨σ', H', J'.ofTry ok, q⟩
    | ret u =>
      obtain ⟨v, σ', H', J', r, q⟩ := hsp
      exact ⟨v, σ', H', J'.ofTry ok, r, q⟩
end
end L2
/-! Calls in short, what a reading comes to (s_*), the ledger of what may change (W). -/
namespace L2
open PySem PySem.Spec PyProof.Rows
/-! ### calls -/
/-- the def named x keeps the promise sp (it may let errors out) -/
def FnAt (P : Program) (w : World) (K : PySem.W.Frag) (mg : Str → Option Value) (base : Heap) (k : Nat) (x : Str) (ps : List Str) (sp : Sp) : Prop :=
  ∃ (f : Addr) (fd : FuncData), FnOk P w K mg base (L2.CX P w) k f fd ps sp ∧ mg x = some (.ref f) ∧ PySem.W.keepIn K (.ref f) = true ∧ Binds K fd ps []
section
variable {X : Cx} {k : Nat} {x : Str} {ps : List Str} {sp : Sp} {E : XK} {t : TA} {e : Expr} {es : List Expr} {p pos : Pos}
theorem pe_fn (C : FnAt X.prog X.w X.K X.mg X.base k x ps sp) (hr : Room k X.A) (hx : Passes (L2.CX X.prog X.w) X E) (ha : PA X (e :: es) t) (hg : Gl X x := by rfl) (hdb : (x == ("__debug__" : Str)) = false := by decide)
    (he : starEach (e :: es) X.env = (false, eval e X.env) :: starEach es X.env := by rfl) (hpl : (backTo pos (starEach es X.env)).any (·.1) = false := by rfl) : PE X (.Call (.Name x p) (e :: es) [] pos) (tCall sp [] E t) := by
  obtain ⟨f, fd, F, hm, hk, hb⟩ := C
  exact pe_call F hr hg hm hk hb .nil hx ha hdb he hpl
theorem pe_fn0 (C : FnAt X.prog X.w X.K X.mg X.base k x ps sp) (hr : Room k X.A) (hx : Passes (L2.CX X.prog X.w) X E) (hg : Gl X x := by rfl) (hdb : (x == ("__debug__" : Str)) = false := by decide) : PE X (.Call (.Name x p) [] [] pos) (tCall sp [] E tNil) := by
  obtain ⟨f, fd, F, hm, hk, hb⟩ := C
  exact pe_call0 F hr hg hm hk hb .nil hx hdb
/-- within a try -/
theorem pe_fnS {Eσ : St → XK} (C : FnAt X.prog X.w X.K X.mg X.base k x ps sp) (hr : Room k X.A) (hx : ∀ σ, PassesAt (L2.CX X.prog X.w) X σ (Eσ σ)) (ha : PA X (e :: es) t) (hg : Gl X x := by rfl) (hdb : (x == ("__debug__" : Str)) = false := by decide)
    (he : starEach (e :: es) X.env = (false, eval e X.env) :: starEach es X.env := by rfl) (hpl : (backTo pos (starEach es X.env)).any (·.1) = false := by rfl) : PE X (.Call (.Name x p) (e :: es) [] pos) (tCallS sp Eσ t) := by
  obtain ⟨f, fd, F, hm, hk, hb⟩ := C
  exact pe_callS F hr hg hm hk hb hx ha hdb he hpl
/-- a def whose errors go out of the def that calls it -/
theorem passE {W : WX} (tk : Takes X W) (hW : ∀ c d σ H, E c d H → W c d σ H) : Passes (L2.CX X.prog X.w) X E := passes_call tk hW
theorem FnAt.of {P : Program} {w : World} {K : PySem.W.Frag} {mg : Str → Option Value} {base : Heap} {x : Str} {st : Stmt} {f : Addr} {fd : FuncData} {ps : List Str} {k : Nat} {sp : Sp} (F : Fun K x x st f fd) (hm : mg x = some (.ref f)) (h : FnOk P w K mg base (L2.CX P w) k f fd ps sp)
    (hb : Binds K fd ps []) : FnAt P w K mg base k x ps sp := ⟨f, fd, h, hm, F.kp, hb⟩
/-! ### statements in short -/
/-- x = e -/
theorem ps_st (i : Nat) {y : Str} {te : TE} {pos' : Pos} (hN : X.N.Nodup) (he : PE X e te) (hi : X.N[i]? = some y := by rfl) (hx : Loc X.env.scope y := by first | exact Or.inl rfl | exact Or.inr rfl) (hs : swapsWith e (some (.Name y pos')) pos.line X.env = pure false := by rfl) (hf : X.fn y = true ∨ X.env.scope.names.lookup y = some .local := by first | exact .inl rfl | exact .inr rfl) :
    PS X (.Assign [.Name y pos'] e pos) (tAsg te (gName i)) := ps_set hN hi hx he hs hf
/-- a target that is the name in slot i -/
theorem pg_n (i : Nat) {y : Str} (hN : X.N.Nodup) (hi : X.N[i]? = some y := by rfl) (hx : Loc X.env.scope y := by first | exact Or.inl rfl | exact Or.inr rfl) (hf : X.fn y = true ∨ X.env.scope.names.lookup y = some .local := by first | exact .inl rfl | exact .inr rfl) : PG X (.Name y pos) (gName i) := pg_name hN hi hx hf
/-- what a for walks: a list or a tuple -/
def iSeq (K : PySem.W.Frag) (tl : TE) : TI := fun σ H R => tl σ H fun x H1 => ∃ a, x = .ref a ∧ ((∃ xs, SqL K H1 a xs) ∧ R (Itl K a) H1 ∨ (∃ xs, SqT K H1 a xs) ∧ R (Itt K a) H1)
theorem pi_seq {tg l : Expr} {tl : TE} (hl : PE X l tl) : PI X tg l (iSeq X.K tl) := by
  refine ⟨fun pins s σ H R I h => ?_⟩
  refine thn (hl.run pins s σ H _ I h) fun v s1 ⟨x, H1, I1, r1, q1⟩ => ?_
  obtain ⟨a, rfl, ⟨⟨xs, hq⟩, q⟩ | ⟨⟨xs, hq⟩, q⟩⟩ := q1
  · cases r1
    obtain ⟨its, rv, p, hz⟩ := I1.list hq
    refine wpAny_pyIter_list p.isList ?_
    refine ⟨s1.heap.objs.size, [s1.heap.objs.size], _, _, H1, rfl, I1.kept (t' := s1.toks) fun b o e => Heap.get?_push_of_some _ e, turn_list a _, ⟨_, Heap.get?_push_size _ rfl, rfl, rfl⟩, fun b hb => ?_, q⟩
    have e : b = s1.heap.objs.size := by simpa using hb
    subst e
    exact I1.fpOk (Nat.le_refl _) (I1.hok.fresh (Nat.le_refl _))
  · cases r1
    obtain ⟨its, rv, p, hz⟩ := I1.tuple hq
    refine wpAny_pyIter_tuple (show s1.heap.IsTuple a its.toArray from p) ?_
    refine ⟨s1.heap.objs.size, [s1.heap.objs.size], _, _, H1, rfl, I1.kept (t' := s1.toks) fun b o e => Heap.get?_push_of_some _ e, turn_tuple a _, ⟨_, Heap.get?_push_size _ rfl, rfl, rfl⟩, fun b hb => ?_, q⟩
    have e : b = s1.heap.objs.size := by simpa using hb
    subst e
    exact I1.fpOk (Nat.le_refl _) (I1.hok.fresh (Nat.le_refl _))
end
/-! ### what a reading comes to -/
section
variable {K : PySem.W.Frag} {t u : TS} {te ta tb tc : TE} {tt c tA tB' : TT} {g : TG} {D : Ends} {σ : St} {H : Hp} {Q : VK} {QT : Bool → Hp → Prop} {QA : List V → Hp → Prop} {QG : St → Hp → Prop} {i j : Nat} {v x y : V} {r r' : R2} {tr : TA} {gs : TGs}
theorem s_seq : tSeq t u D σ H = t { D with nx := u D } σ H := rfl
theorem s_next : tNext D σ H = D.nx σ H := rfl
theorem s_brk : tBreak D σ H = D.bk σ H := rfl
theorem s_cont : tCont D σ H = D.ct σ H := rfl
theorem s_drop : tDrop te D σ H = te σ H (fun _ H1 => D.nx σ H1) := rfl
theorem s_ret : tRet te D σ H = te σ H D.rt := rfl
theorem s_retN : tRetN D σ H = D.rt .non H := rfl
/-- the ways behind an if: not opened before it is known which -/
def tBr (t u : TS) (D : Ends) (σ : St) (b : Bool) (H : Hp) : Prop := if b = true then t D σ H else u D σ H
theorem s_ifS : tIfS c t u D σ H = c σ H (fun b H1 => tBr t u D σ b H1) := rfl
theorem s_br1 : tBr t u D σ true H = t D σ H := rfl
theorem s_br0 : tBr t u D σ false H = u D σ H := rfl
theorem w_br {p : Prop} [Decidable p] (h1 : p → t D σ H) (h2 : ¬ p → u D σ H) : tBr t u D σ (decide p) H := by
  by_cases h : p
  · rw [decide_eq_true h]; exact h1 h
  · rw [decide_eq_false h]; exact h2 h
theorem w_brN {p : Prop} [Decidable p] (h1 : ¬ p → t D σ H) (h2 : p → u D σ H) : tBr t u D σ (!decide p) H := by
  by_cases h : p
  · rw [decide_eq_true h]; exact h2 h
  · rw [decide_eq_false h]; exact h1 h
theorem w_brB {b : Bool} (h1 : b = true → t D σ H) (h2 : b = false → u D σ H) : tBr t u D σ b H := by
  cases b with
  | true => exact h1 rfl
  | false => exact h2 rfl
theorem w_brNB {b : Bool} (h1 : b = false → t D σ H) (h2 : b = true → u D σ H) : tBr t u D σ (!b) H := by
  cases b with
  | true => exact h2 rfl
  | false => exact h1 rfl
/-- a store behind an evaluation: not opened before the value's kind is known -/
def tAs (g : TG) (D : Ends) (σ : St) (x : V) (H : Hp) : Prop := g x σ H D.nx
theorem s_asg : tAsg te g D σ H = te σ H (fun x H1 => tAs g D σ x H1) := rfl
theorem s_asV : tAs g D σ x H = g x σ H D.nx := rfl
theorem s_asI {a : Int} : tAs g D σ (.int a) H = g (.int a) σ H D.nx := rfl
theorem s_asB {a : Bool} : tAs g D σ (.bl a) H = g (.bl a) σ H D.nx := rfl
theorem s_asN : tAs g D σ .non H = g .non σ H D.nx := rfl
theorem s_asS {a : Str} : tAs g D σ (.str a) H = g (.str a) σ H D.nx := rfl
theorem s_asR {a : Addr} : tAs g D σ (.ref a) H = g (.ref a) σ H D.nx := rfl
theorem s_gName : gName i v σ H QG = QG (σ.set i (some v)) H := rfl
theorem s_gSub {ts : TSet} : gSub ta tb ts v σ H QG = ta σ H (fun o H1 => tb σ H1 (fun i H2 => ts o i v H2 (fun H3 => QG σ H3))) := rfl
theorem s_gNil {vs : List V} : gNil vs σ H QG = (vs = [] ∧ QG σ H) := rfl
theorem s_gCons {vs : List V} : gCons g gs vs σ H QG = ∃ v r, vs = v :: r ∧ g v σ H (fun σ' H' => gs r σ' H' QG) := rfl
theorem s_var : tVar i σ H Q = ∃ v, σ[i]? = some (some v) ∧ Q v H := rfl
theorem s_C : tC v σ H Q = Q v H := rfl
theorem s_op : tOp r ta tb σ H Q = ta σ H (fun x H1 => tb σ H1 (fun y H2 => r x y H2 Q)) := rfl
theorem s_un {ru : V → Hp → VK → Prop} : tUn ru ta σ H Q = ta σ H (fun x H1 => ru x H1 Q) := rfl
theorem s_chain : tChain r r' ta tb tc σ H Q = ta σ H (fun x H1 => tb σ H1 (fun y H2 => r x y H2 (fun z H3 => ∃ k, z = .bl k ∧ (if k = true then tc σ H3 (fun w' H4 => r' y w' H4 Q) else Q (.bl false) H3)))) := rfl
theorem s_test : tTest te σ H QT = te σ H (fun x H' => ∃ k, x = .bl k ∧ QT k H') := rfl
theorem s_B : tB te σ H QT = te σ H (fun x H' => ∃ k, x = .bl k ∧ QT k H') := rfl
/-- and, or: the second part -/
def aB (tB' : TT) (σ : St) (QT : Bool → Hp → Prop) (b : Bool) (H : Hp) : Prop := if b = true then tB' σ H QT else QT false H
def oB (tB' : TT) (σ : St) (QT : Bool → Hp → Prop) (b : Bool) (H : Hp) : Prop := if b = true then QT true H else tB' σ H QT
theorem s_and : tAnd tA tB' σ H QT = tA σ H (fun c H1 => aB tB' σ QT c H1) := rfl
theorem s_or : tOr tA tB' σ H QT = tA σ H (fun c H1 => oB tB' σ QT c H1) := rfl
theorem s_aB1 : aB tB' σ QT true H = tB' σ H QT := rfl
theorem s_aB0 : aB tB' σ QT false H = QT false H := rfl
theorem s_oB1 : oB tB' σ QT true H = QT true H := rfl
theorem s_oB0 : oB tB' σ QT false H = tB' σ H QT := rfl
theorem w_aB {p : Prop} [Decidable p] (h1 : p → tB' σ H QT) (h2 : ¬ p → QT false H) : aB tB' σ QT (decide p) H := by
  by_cases h : p
  · rw [decide_eq_true h]; exact h1 h
  · rw [decide_eq_false h]; exact h2 h
theorem w_aBN {p : Prop} [Decidable p] (h1 : ¬ p → tB' σ H QT) (h2 : p → QT false H) : aB tB' σ QT (!decide p) H := by
  by_cases h : p
  · rw [decide_eq_true h]; exact h2 h
  · rw [decide_eq_false h]; exact h1 h
theorem w_aBB {b : Bool} (h1 : b = true → tB' σ H QT) (h2 : b = false → QT false H) : aB tB' σ QT b H := by
  cases b with
  | true => exact h1 rfl
  | false => exact h2 rfl
theorem w_oB {p : Prop} [Decidable p] (h1 : p → QT true H) (h2 : ¬ p → tB' σ H QT) : oB tB' σ QT (decide p) H := by
  by_cases h : p
  · rw [decide_eq_true h]; exact h1 h
  · rw [decide_eq_false h]; exact h2 h
theorem w_oBN {p : Prop} [Decidable p] (h1 : ¬ p → QT true H) (h2 : p → tB' σ H QT) : oB tB' σ QT (!decide p) H := by
  by_cases h : p
  · rw [decide_eq_true h]; exact h2 h
  · rw [decide_eq_false h]; exact h1 h
theorem w_oBB {b : Bool} (h1 : b = true → QT true H) (h2 : b = false → tB' σ H QT) : oB tB' σ QT b H := by
  cases b with
  | true => exact h1 rfl
  | false => exact h2 rfl
theorem s_not : tNot tA σ H QT = tA σ H (fun c H1 => QT (!c) H1) := rfl
/-- .. as values -/
def aE (tb : TE) (σ : St) (Q : VK) (x : V) (H : Hp) : Prop := ∃ c, x = .bl c ∧ if c = true then tb σ H Q else Q (.bl false) H
def oE (tb : TE) (σ : St) (Q : VK) (x : V) (H : Hp) : Prop := ∃ c, x = .bl c ∧ if c = true then Q (.bl true) H else tb σ H Q
theorem s_andV : tAndV ta tb σ H Q = ta σ H (fun x H1 => aE tb σ Q x H1) := rfl
theorem s_orV : tOrV ta tb σ H Q = ta σ H (fun x H1 => oE tb σ Q x H1) := rfl
theorem s_aE1 : aE tb σ Q (.bl true) H = tb σ H Q := propext ⟨fun ⟨c, e, h⟩ => by cases e; exact h, fun h => ⟨true, rfl, h⟩⟩
theorem s_aE0 : aE tb σ Q (.bl false) H = Q (.bl false) H := propext ⟨fun ⟨c, e, h⟩ => by cases e; exact h, fun h => ⟨false, rfl, h⟩⟩
theorem s_oE1 : oE tb σ Q (.bl true) H = Q (.bl true) H := propext ⟨fun ⟨c, e, h⟩ => by cases e; exact h, fun h => ⟨true, rfl, h⟩⟩
theorem s_oE0 : oE tb σ Q (.bl false) H = tb σ H Q := propext ⟨fun ⟨c, e, h⟩ => by cases e; exact h, fun h => ⟨false, rfl, h⟩⟩
theorem w_aE {p : Prop} [Decidable p] (h1 : p → tb σ H Q) (h2 : ¬ p → Q (.bl false) H) : aE tb σ Q (.bl (decide p)) H := by
  by_cases h : p
  · rw [decide_eq_true h, s_aE1]; exact h1 h
  · rw [decide_eq_false h, s_aE0]; exact h2 h
theorem w_aEB {b : Bool} (h1 : b = true → tb σ H Q) (h2 : b = false → Q (.bl false) H) : aE tb σ Q (.bl b) H := by
  cases b with
  | true => rw [s_aE1]; exact h1 rfl
  | false => rw [s_aE0]; exact h2 rfl
theorem w_oE {p : Prop} [Decidable p] (h1 : p → Q (.bl true) H) (h2 : ¬ p → tb σ H Q) : oE tb σ Q (.bl (decide p)) H := by
  by_cases h : p
  · rw [decide_eq_true h, s_oE1]; exact h1 h
  · rw [decide_eq_false h, s_oE0]; exact h2 h
theorem w_oEB {b : Bool} (h1 : b = true → Q (.bl true) H) (h2 : b = false → tb σ H Q) : oE tb σ Q (.bl b) H := by
  cases b with
  | true => rw [s_oE1]; exact h1 rfl
  | false => rw [s_oE0]; exact h2 rfl
def nE (Q : VK) (x : V) (H : Hp) : Prop := ∃ c, x = .bl c ∧ Q (.bl (!c)) H
theorem s_notV : tNotV ta σ H Q = ta σ H (fun x H1 => nE Q x H1) := rfl
theorem s_nE {b : Bool} : nE Q (.bl b) H = Q (.bl (!b)) H := propext ⟨fun ⟨c, e, h⟩ => by cases e; exact h, fun h => ⟨b, rfl, h⟩⟩
def iE (ta tb : TE) (σ : St) (Q : VK) (c : Bool) (H : Hp) : Prop := if c = true then ta σ H Q else tb σ H Q
theorem s_if : tIf tt ta tb σ H Q = tt σ H (fun c H1 => iE ta tb σ Q c H1) := rfl
theorem s_iE1 : iE ta tb σ Q true H = ta σ H Q := rfl
theorem s_iE0 : iE ta tb σ Q false H = tb σ H Q := rfl
theorem w_iE {p : Prop} [Decidable p] (h1 : p → ta σ H Q) (h2 : ¬ p → tb σ H Q) : iE ta tb σ Q (decide p) H := by
  by_cases h : p
  · rw [decide_eq_true h]; exact h1 h
  · rw [decide_eq_false h]; exact h2 h
theorem w_iEB {b : Bool} (h1 : b = true → ta σ H Q) (h2 : b = false → tb σ H Q) : iE ta tb σ Q b H := by
  cases b with
  | true => exact h1 rfl
  | false => exact h2 rfl
/-- truth -/
def trV (K : PySem.W.Frag) (QT : Bool → Hp → Prop) (x : V) (H : Hp) : Prop := match x with
  | .bl b => QT b H
  | .int i => QT (i != 0) H
  | .non => QT false H
  | x => ∃ k, TruV K x H k ∧ QT k H
theorem s_tr : tTr K ta σ H QT = ta σ H (fun x H' => trV K QT x H') := rfl
theorem s_trB {b : Bool} : trV K QT (.bl b) H = QT b H := rfl
theorem s_trI {a : Int} : trV K QT (.int a) H = QT (a != 0) H := rfl
theorem s_trN : trV K QT .non H = QT false H := rfl
theorem w_trL {p : Addr} {xs : List V} (h : SqL K H p xs) (q : QT (!xs.isEmpty) H) : trV K QT (.ref p) H := ⟨_, .inl ⟨xs, h, rfl⟩, q⟩
theorem w_trT {p : Addr} {xs : List V} (h : SqT K H p xs) (q : QT (!xs.isEmpty) H) : trV K QT (.ref p) H := ⟨_, .inr (.inl ⟨xs, h, rfl⟩), q⟩
theorem s_nil : tNil σ H QA = QA [] H := rfl
theorem s_cons : tCons ta tr σ H QA = ta σ H (fun x H1 => tr σ H1 (fun xs H2 => QA (x :: xs) H2)) := rfl
theorem s_CB {rc : List V → Hp → VK → Prop} : tCB rc tr σ H Q = tr σ H (fun vs H1 => rc vs H1 Q) := rfl
theorem s_call {sp : Sp} {dvs : List V} {E : XK} : tCall sp dvs E tr σ H Q = tr σ H (fun vs H1 => sp (vs ++ dvs) H1 Q E) := rfl
theorem s_callS {sp : Sp} {E : St → XK} : tCallS sp E tr σ H Q = tr σ H (fun vs H1 => sp vs H1 Q (E σ)) := rfl
theorem s_sl {rs : V → Option Int → Option Int → Hp → VK → Prop} {tl th : TO} : tSl rs te tl th σ H Q = te σ H (fun x H1 => tl σ H1 (fun l H2 => th σ H2 (fun u H3 => rs x l u H3 Q))) := rfl
theorem s_part {QO : Option Int → Hp → Prop} : tPart te σ H QO = te σ H (fun x H1 => ∃ i, x = .int i ∧ QO (some i) H1) := rfl
theorem s_noPart {QO : Option Int → Hp → Prop} : tNoPart σ H QO = QO none H := rfl
theorem s_BM0 {T : String} {rm : V → List V → Hp → VK → Prop} : tBM0 K T rm te σ H Q = te σ H (fun x H1 => tyV K T x H1 ∧ rm x [] H1 Q) := rfl
theorem s_BM {T : String} {rm : V → List V → Hp → VK → Prop} : tBM K T rm te tr σ H Q = te σ H (fun x H1 => tyV K T x H1 ∧ tr σ H1 (fun xs H2 => rm x xs H2 Q)) := rfl
variable {a b : Int} {k : Bool}
theorem v_addI : aAdd K (.int a) (.int b) H Q = Q (.int (a + b)) H := rfl
theorem v_subI : aSub (.int a) (.int b) H Q = Q (.int (a - b)) H := rfl
theorem v_mulI : aMul K (.int a) (.int b) H Q = (IntMulOk a b ∧ Q (.int (a * b)) H) := rfl
theorem v_divI (h : 0 < b) (h9 : b.natAbs.log2 < 9000) : aDiv (.int a) (.int b) H Q = Q (.int (a / b)) H := by
  show (b ≠ 0 ∧ b.natAbs.log2 < 9000 ∧ Q (.int (a.fdiv b)) H) = _
  rw [Int.fdiv_eq_ediv_of_nonneg a (by omega)]
  exact propext ⟨fun h => h.2.2, fun q => ⟨by omega, h9, q⟩⟩
theorem v_modI (h : 0 < b) : aMod (.int a) (.int b) H Q = Q (.int (a % b)) H := by
  show (b ≠ 0 ∧ Q (.int (a.fmod b)) H) = _
  rw [Int.fmod_eq_emod_of_nonneg a (by omega)]
  exact propext ⟨fun h => h.2, fun q => ⟨by omega, q⟩⟩
theorem v_powI (h0 : 0 ≤ b) (h1 : b ≤ 1000000) (h2 : a.natAbs < 18446744073709551616) : aPow (.int a) (.int b) H Q = Q (.int (a ^ b.toNat)) H := by
  show ((0 ≤ b ∧ b ≤ 1000000 ∧ a.natAbs < 2 ^ 64) ∧ Q (.int (a ^ b.toNat)) H) = _
  exact propext ⟨fun h => h.2, fun q => ⟨⟨h0, h1, h2⟩, q⟩⟩
theorem v_negI : aNeg (.int a) H Q = Q (.int (-a)) H := rfl
theorem v_cmp {p : Int → Int → Bool} : aCmp p (.int a) (.int b) H Q = Q (.bl (p a b)) H := rfl
theorem v_eqI : aEq K (.int a) (.int b) H Q = Q (.bl (decide (a = b))) H := by
  show (true = true ∧ Q (.bl (decide (V.int a = V.int b))) H) = _
  simp
theorem v_neI : aNe K (.int a) (.int b) H Q = Q (.bl (!decide (a = b))) H := by
  show (true = true ∧ Q (.bl (!decide (V.int a = V.int b))) H) = _
  simp
theorem v_isN : aIs x .non H Q = Q (.bl (decide (x = .non))) H := rfl
theorem v_isB : aIs x (.bl k) H Q = Q (.bl (decide (x = .bl k))) H := rfl
theorem v_isnotN : aIsnot x .non H Q = Q (.bl (!decide (x = .non))) H := rfl
theorem v_isnotB : aIsnot x (.bl k) H Q = Q (.bl (!decide (x = .bl k))) H := rfl
theorem v_int : aInt [.int a] H Q = Q (.int a) H := rfl
theorem v_abs : aAbs [.int a] H Q = Q (.int (a.natAbs : Int)) H := rfl
theorem v_max2 : aMax K [.int a, .int b] H Q = Q (.int (max a b)) H := rfl
theorem v_min2 : aMin K [.int a, .int b] H Q = Q (.int (min a b)) H := rfl
variable {p q : Addr} {xs ys : List V}
theorem w_ixL {w : V} (h : SqL K H p xs) (e : atI xs a = some w) (hq : Q w H) : aIx K (.ref p) (.int a) H Q := ⟨xs, w, .inl h, e, hq⟩
theorem w_ixT {w : V} (h : SqT K H p xs) (e : atI xs a = some w) (hq : Q w H) : aIx K (.ref p) (.int a) H Q := ⟨xs, w, .inr h, e, hq⟩
theorem w_lenL (h : SqL K H p xs) (hq : Q (.int xs.length) H) : aLen K [.ref p] H Q := ⟨xs, .inl h, hq⟩
theorem w_lenT (h : SqT K H p xs) (hq : Q (.int xs.length) H) : aLen K [.ref p] H Q := ⟨xs, .inr h, hq⟩
theorem w_list (h : SqL K H p xs ∨ SqT K H p xs) (hq : ∀ l, H l = none → Q (.ref l) (upd H l (.lst xs))) : aList K [.ref p] H Q := ⟨xs, h, hq⟩
theorem w_set {v : V} {QS : Hp → Prop} {jj : Nat} {kk : Int} (h : H p = some (.lst xs)) (e : ixN xs.length kk = some jj) (hq : QS (upd H p (.lst (xs.set jj v)))) : rSetL (.ref p) (.int kk) v H QS := ⟨p, xs, kk, jj, rfl, rfl, h, e, hq⟩
theorem w_app {v : V} (h : H p = some (.lst xs)) (hz : xs.length < sizeLine) (hq : Q .non (upd H p (.lst (xs ++ [v])))) : tyV K "list" (.ref p) H ∧ rAppend (.ref p) [v] H Q :=
  ⟨.inl ⟨rfl, _, SqL.of h⟩, p, xs, v, rfl, rfl, h, hz, hq⟩
theorem w_lst (hz : xs.length ≤ sizeLine) (hq : ∀ p, H p = none → Q (.ref p) (upd H p (.lst xs))) : xs.length ≤ sizeLine ∧ ∀ p, H p = none → Q (.ref p) (upd H p (.lst xs)) := ⟨hz, hq⟩
theorem s_lst : tLst tr σ H Q = tr σ H (fun xs H1 => xs.length ≤ sizeLine ∧ ∀ p, H1 p = none → Q (.ref p) (upd H1 p (.lst xs))) := rfl
theorem s_tup : tTup tr σ H Q = tr σ H (fun xs H1 => xs.length ≤ sizeLine ∧ ∀ p, H1 p = none → Q (.ref p) (upd H1 p (.tup xs))) := rfl
/-! ### loops -/
/-- a for over what J walks -/
def forJ (J : It) (g : TG) (tb : TS) (D : Ends) (σ : St) (H : Hp) : Prop := ∃ W : Nat → Nat → St → Hp → Prop, (∃ m, W 0 m σ H) ∧ ∀ i m σ H, W i m σ H →
  (J.stop i H ∧ D.nx σ H) ∨ (J.go i H ∧ ∃ N : St → Hp → Prop, (∀ σ' H', N σ' H' → ∃ m', m' < m ∧ W (i + 1) m' σ' H') ∧ ∀ x H', J.yld i H x H' → g x σ H' fun σ2 H2 => tb { D with nx := N, ct := N, bk := D.nx } σ2 H2)
theorem s_for {wi : TI} : tFor wi g t D σ H = wi σ H (fun J H1 => forJ J g t D σ H1) := rfl
/-- a list comprehension over what J walks -/
def lcJ (J : It) (g : TG) (tt : TT) (te : TE) (vs : List Nat) (σ : St) (Q : VK) (H1 : Hp) : Prop := ∀ D, H1 D = none → ∃ W : Nat → Nat → Hp → Prop, (∃ m, W 0 m (upd H1 D (.lst []))) ∧ ∀ i m H, W i m H →
  (J.stop i H ∧ Q (.ref D) H) ∨ (J.go i H ∧ ∃ Nx : Hp → Prop, (∀ H', Nx H' → ∃ m', m' < m ∧ W (i + 1) m' H') ∧ ∀ x H', J.yld i H x H' → g x (wipe σ vs) H' fun σ2 H2 => wipe σ2 vs = wipe σ vs ∧ tt σ2 H2 fun b H3 =>
    if b = true then te σ2 H3 fun y H4 => ∃ acc, H4 D = some (.lst acc) ∧ acc.length < sizeLine ∧ Nx (upd H4 D (.lst (acc ++ [y]))) else Nx H3)
theorem s_lc {wi : TI} {vs : List Nat} : tLc wi g tt te vs σ H Q = wi σ H (fun J H1 => lcJ J g tt te vs σ Q H1) := rfl
def rg1 (vs : List V) (H : Hp) (R : It → Hp → Prop) : Prop := ∃ j : Int, vs = [.int j] ∧ -(2 ^ 62) ≤ j ∧ j < 2 ^ 62 ∧ R (Itr 0 j.toNat) H
def rg2 (vs : List V) (H : Hp) (R : It → Hp → Prop) : Prop := ∃ i j : Int, vs = [.int i, .int j] ∧ (-(2 ^ 62) ≤ i ∧ i < 2 ^ 62 ∧ -(2 ^ 62) ≤ j ∧ j < 2 ^ 62) ∧ R (Itr i (j - i).toNat) H
def rg3 (vs : List V) (H : Hp) (R : It → Hp → Prop) : Prop := ∃ (i j c : Int) (n : Nat), vs = [.int i, .int j, .int c] ∧ RgC i j c n ∧ R (Itc i c n) H
def enm (K : PySem.W.Frag) (vs : List V) (H : Hp) (R : It → Hp → Prop) : Prop := ∃ a xs, vs = [.ref a] ∧ SqL K H a xs ∧ R (Ite K a) H
def zpp (K : PySem.W.Frag) (vs : List V) (H : Hp) (R : It → Hp → Prop) : Prop := ∃ a b xs ys, vs = [.ref a, .ref b] ∧ SqL K H a xs ∧ SqL K H b ys ∧ R (Itz K a b) H
def sqq (K : PySem.W.Frag) (x : V) (H : Hp) (R : It → Hp → Prop) : Prop := ∃ a, x = .ref a ∧ ((∃ xs, SqL K H a xs) ∧ R (Itl K a) H ∨ (∃ xs, SqT K H a xs) ∧ R (Itt K a) H)
variable {R : It → Hp → Prop}
theorem s_rng1 : iRng1 tr σ H R = tr σ H (fun vs H1 => rg1 vs H1 R) := rfl
theorem s_rng2 : iRng2 tr σ H R = tr σ H (fun vs H1 => rg2 vs H1 R) := rfl
theorem s_rng3 : iRng3 tr σ H R = tr σ H (fun vs H1 => rg3 vs H1 R) := rfl
theorem s_enum : iEnum K tr σ H R = tr σ H (fun vs H1 => enm K vs H1 R) := rfl
theorem s_zip : iZip K tr σ H R = tr σ H (fun vs H1 => zpp K vs H1 R) := rfl
theorem s_seqI : iSeq K te σ H R = te σ H (fun x H1 => sqq K x H1 R) := rfl
theorem w_rg1 {j : Int} (h1 : -4611686018427387904 ≤ j) (h2 : j < 4611686018427387904) (q : R (Itr 0 j.toNat) H) : rg1 [.int j] H R := ⟨j, rfl, h1, h2, q⟩
theorem w_rg2 {i j : Int} (h1 : -4611686018427387904 ≤ i) (h2 : i < 4611686018427387904) (h3 : -4611686018427387904 ≤ j) (h4 : j < 4611686018427387904) (q : R (Itr i (j - i).toNat) H) : rg2 [.int i, .int j] H R := ⟨i, j, rfl, ⟨h1, h2, h3, h4⟩, q⟩
theorem w_enum {a : Addr} {xs : List V} (h : SqL K H a xs) (q : R (Ite K a) H) : enm K [.ref a] H R := ⟨a, xs, rfl, h, q⟩
theorem w_zip {a b : Addr} {xs ys : List V} (h : SqL K H a xs) (h' : SqL K H b ys) (q : R (Itz K a b) H) : zpp K [.ref a, .ref b] H R := ⟨a, b, xs, ys, rfl, h, h', q⟩
theorem w_sqL {a : Addr} {xs : List V} (h : SqL K H a xs) (q : R (Itl K a) H) : sqq K (.ref a) H R := ⟨a, rfl, .inl ⟨⟨xs, h⟩, q⟩⟩
theorem w_sqT {a : Addr} {xs : List V} (h : SqT K H a xs) (q : R (Itt K a) H) : sqq K (.ref a) H R := ⟨a, rfl, .inr ⟨⟨xs, h⟩, q⟩⟩
theorem w_forR {lo : Int} {n : Nat} (Pv : Nat → St → Hp → Prop) (h0 : Pv 0 σ H)
    (hs : ∀ i σ H, i < n → Pv i σ H → g (.int (lo + i)) σ H fun σ2 H2 => t { D with nx := Pv (i + 1), ct := Pv (i + 1), bk := D.nx } σ2 H2) (hd : ∀ σ H, Pv n σ H → D.nx σ H) : forJ (Itr lo n) g t D σ H := for_range Pv h0 hs hd
theorem w_forC {lo c : Int} {n : Nat} (Pv : Nat → St → Hp → Prop) (h0 : Pv 0 σ H)
    (hs : ∀ i σ H, i < n → Pv i σ H → g (.int (lo + (i : Nat) * c)) σ H fun σ2 H2 => t { D with nx := Pv (i + 1), ct := Pv (i + 1), bk := D.nx } σ2 H2) (hd : ∀ σ H, Pv n σ H → D.nx σ H) : forJ (Itc lo c n) g t D σ H := for_rangeC Pv h0 hs hd
theorem w_forL {a : Addr} {xs : List V} (Pv : Nat → St → Hp → Prop) (h0 : Pv 0 σ H) (hl : ∀ i σ H, i ≤ xs.length → Pv i σ H → SqL K H a xs)
    (hs : ∀ i x σ H, xs[i]? = some x → Pv i σ H → g x σ H fun σ2 H2 => t { D with nx := Pv (i + 1), ct := Pv (i + 1), bk := D.nx } σ2 H2) (hd : ∀ σ H, Pv xs.length σ H → D.nx σ H) : forJ (Itl K a) g t D σ H := for_list Pv h0 hl hs hd
theorem w_forT {a : Addr} {xs : List V} (Pv : Nat → St → Hp → Prop) (h0 : Pv 0 σ H) (hl : ∀ i σ H, i ≤ xs.length → Pv i σ H → SqT K H a xs)
    (hs : ∀ i x σ H, xs[i]? = some x → Pv i σ H → g x σ H fun σ2 H2 => t { D with nx := Pv (i + 1), ct := Pv (i + 1), bk := D.nx } σ2 H2) (hd : ∀ σ H, Pv xs.length σ H → D.nx σ H) : forJ (Itt K a) g t D σ H := for_tup Pv h0 hl hs hd
/-- for i, x in enumerate(xs): the pair is of no more use -/
theorem w_forE {a : Addr} {xs : List V} {p q : Nat} (Pv : Nat → St → Hp → Prop) (h0 : Pv 0 σ H) (hl : ∀ i σ H, i ≤ xs.length → Pv i σ H → SqL K H a xs)
    (hs : ∀ i x σ H H', xs[i]? = some x → Pv i σ H → Same H H' → t { D with nx := Pv (i + 1), ct := Pv (i + 1), bk := D.nx } ((σ.set p (some (.int (i : Nat)))).set q (some x)) H') (hd : ∀ σ H, Pv xs.length σ H → D.nx σ H) :
    forJ (Ite K a) (gTup K 2 (gCons (gName p) (gCons (gName q) gNil))) t D σ H := by
  refine ⟨fun i m σ H => m = xs.length - i ∧ i ≤ xs.length ∧ Pv i σ H, ⟨xs.length, by simp, Nat.zero_le _, h0⟩, ?_⟩
  rintro i m σ H ⟨rfl, hi, pp⟩
  have hS := hl i σ H hi pp
  by_cases hlt : i < xs.length
  · refine .inr ⟨⟨xs, xs[i], hS, by simp [hlt]⟩, Pv (i + 1), fun σ' H' p' => ⟨xs.length - (i + 1), by omega, rfl, hlt, p'⟩, fun x H' y => ?_⟩
    obtain ⟨T, z, rfl, hT, rfl, y⟩ := y
    have sm : Same H (upd H T (.tup [.int (i : Nat), z])) := fun b o e => by rw [upd_ne (ne_of_none e hT)]; exact e
    refine ⟨T, _, rfl, SqT.of upd_same, rfl, .int (i : Nat), [z], rfl, z, [], rfl, rfl, ?_⟩
    exact hs i z σ H _ (y xs hS) pp sm
  · have e : i = xs.length := by omega
    subst e
    exact .inl ⟨⟨xs, hS, Nat.le_refl _⟩, hd σ H pp⟩
/-- for x, y in zip(xs, ys) -/
theorem w_forZ {a b : Addr} {xs ys : List V} {p q : Nat} (hlen : xs.length = ys.length) (Pv : Nat → St → Hp → Prop) (h0 : Pv 0 σ H) (hl : ∀ i σ H, i ≤ xs.length → Pv i σ H → SqL K H a xs ∧ SqL K H b ys)
    (hs : ∀ i x y σ H H', xs[i]? = some x → ys[i]? = some y → Pv i σ H → Same H H' → t { D with nx := Pv (i + 1), ct := Pv (i + 1), bk := D.nx } ((σ.set p (some x)).set q (some y)) H') (hd : ∀ σ H, Pv xs.length σ H → D.nx σ H) :
    forJ (Itz K a b) (gTup K 2 (gCons (gName p) (gCons (gName q) gNil))) t D σ H := by
  refine ⟨fun i m σ H => m = xs.length - i ∧ i ≤ xs.length ∧ Pv i σ H, ⟨xs.length, by simp, Nat.zero_le _, h0⟩, ?_⟩
  rintro i m σ H ⟨rfl, hi, pp⟩
  obtain ⟨hS, hS'⟩ := hl i σ H hi pp
  by_cases hlt : i < xs.length
  · refine .inr ⟨⟨xs, ys, xs[i], ys[i]'(by omega), hS, hS', by simp [hlt], by simp [← hlen, hlt]⟩, Pv (i + 1), fun σ' H' p' => ⟨xs.length - (i + 1), by omega, rfl, hlt, p'⟩, fun x H' y => ?_⟩
    obtain ⟨T, z, z', rfl, hT, rfl, y, y'⟩ := y
    have sm : Same H (upd H T (.tup [z, z'])) := fun b o e => by rw [upd_ne (ne_of_none e hT)]; exact e
    refine ⟨T, _, rfl, SqT.of upd_same, rfl, z, [z'], rfl, z', [], rfl, rfl, ?_⟩
    exact hs i z z' σ H _ (y xs hS) (y' ys hS') pp sm
  · have e : i = xs.length := by omega
    subst e
    exact .inl ⟨⟨xs, ys, hS, hS', .inl (Nat.le_refl _)⟩, hd σ H pp⟩
/-- comprehensions: Pv says what the list at L holds behind i turns -/
theorem w_lcR {lo : Int} {n : Nat} {vs : List Nat} (Pv : Addr → Nat → Hp → Prop) (h0 : ∀ L, H L = none → Pv L 0 (upd H L (.lst [])))
    (hs : ∀ L i H, i < n → Pv L i H → g (.int (lo + i)) (wipe σ vs) H fun σ2 H2 => wipe σ2 vs = wipe σ vs ∧ tt σ2 H2 fun b H3 =>
      if b = true then te σ2 H3 fun y H4 => ∃ acc, H4 L = some (.lst acc) ∧ acc.length < sizeLine ∧ Pv L (i + 1) (upd H4 L (.lst (acc ++ [y]))) else Pv L (i + 1) H3) (hd : ∀ L H', H L = none → Pv L n H' → Q (.ref L) H') :
    lcJ (Itr lo n) g tt te vs σ Q H := fun L hL => lc_range (Pv L) (h0 L hL) (fun i H => hs L i H) (fun H' => hd L H' hL)
theorem w_lcL {a : Addr} {xs : List V} {vs : List Nat} (Pv : Addr → Nat → Hp → Prop) (h0 : ∀ L, H L = none → Pv L 0 (upd H L (.lst []))) (hl : ∀ L i H, i ≤ xs.length → Pv L i H → SqL K H a xs)
    (hs : ∀ L i x H, xs[i]? = some x → Pv L i H → g x (wipe σ vs) H fun σ2 H2 => wipe σ2 vs = wipe σ vs ∧ tt σ2 H2 fun b H3 =>
      if b = true then te σ2 H3 fun y H4 => ∃ acc, H4 L = some (.lst acc) ∧ acc.length < sizeLine ∧ Pv L (i + 1) (upd H4 L (.lst (acc ++ [y]))) else Pv L (i + 1) H3) (hd : ∀ L H', H L = none → Pv L xs.length H' → Q (.ref L) H') :
    lcJ (Itl K a) g tt te vs σ Q H := fun L hL => lc_list (Pv L) (h0 L hL) (hl L) (fun i x H => hs L i x H) (fun H' => hd L H' hL)
theorem w_lcT {a : Addr} {xs : List V} {vs : List Nat} (Pv : Addr → Nat → Hp → Prop) (h0 : ∀ L, H L = none → Pv L 0 (upd H L (.lst []))) (hl : ∀ L i H, i ≤ xs.length → Pv L i H → SqT K H a xs)
    (hs : ∀ L i x H, xs[i]? = some x → Pv L i H → g x (wipe σ vs) H fun σ2 H2 => wipe σ2 vs = wipe σ vs ∧ tt σ2 H2 fun b H3 =>
      if b = true then te σ2 H3 fun y H4 => ∃ acc, H4 L = some (.lst acc) ∧ acc.length < sizeLine ∧ Pv L (i + 1) (upd H4 L (.lst (acc ++ [y]))) else Pv L (i + 1) H3) (hd : ∀ L H', H L = none → Pv L xs.length H' → Q (.ref L) H') :
    lcJ (Itt K a) g tt te vs σ Q H := fun L hL => lc_tup (Pv L) (h0 L hL) (hl L) (fun i x H => hs L i x H) (fun H' => hd L H' hL)
/-- while, by a word and a measure -/
def whB (Pv : Nat → St → Hp → Prop) (m : Nat) (t : TS) (D : Ends) (σ : St) (b : Bool) (H : Hp) : Prop :=
  if b = true then ∃ N : St → Hp → Prop, (∀ σ' H', N σ' H' → ∃ m', m' < m ∧ Pv m' σ' H') ∧ t { D with nx := N, ct := N, bk := D.nx } σ H else D.nx σ H
theorem w_while (Pv : Nat → St → Hp → Prop) (m : Nat) (h0 : Pv m σ H) (hs : ∀ m σ H, Pv m σ H → c σ H fun b H1 => whB Pv m t D σ b H1) : tWhile c t D σ H := ⟨Pv, ⟨m, h0⟩, hs⟩
theorem w_wh {Pv : Nat → St → Hp → Prop} {m : Nat} {p : Prop} [Decidable p] (h1 : p → t { D with nx := fun σ' H' => ∃ m', m' < m ∧ Pv m' σ' H', ct := fun σ' H' => ∃ m', m' < m ∧ Pv m' σ' H', bk := D.nx } σ H) (h2 : ¬ p → D.nx σ H) : whB Pv m t D σ (decide p) H := by
  by_cases h : p
  · rw [decide_eq_true h]; exact ⟨_, fun _ _ h => h, h1 h⟩
  · rw [decide_eq_false h]; exact h2 h
theorem w_whN {Pv : Nat → St → Hp → Prop} {m : Nat} {p : Prop} [Decidable p] (h1 : ¬ p → t { D with nx := fun σ' H' => ∃ m', m' < m ∧ Pv m' σ' H', ct := fun σ' H' => ∃ m', m' < m ∧ Pv m' σ' H', bk := D.nx } σ H) (h2 : p → D.nx σ H) : whB Pv m t D σ (!decide p) H := by
  by_cases h : p
  · rw [decide_eq_true h]; exact h2 h
  · rw [decide_eq_false h]; exact ⟨_, fun _ _ h => h, h1 h⟩
theorem w_whB {Pv : Nat → St → Hp → Prop} {m : Nat} {b : Bool} (h1 : b = true → t { D with nx := fun σ' H' => ∃ m', m' < m ∧ Pv m' σ' H', ct := fun σ' H' => ∃ m', m' < m ∧ Pv m' σ' H', bk := D.nx } σ H) (h2 : b = false → D.nx σ H) : whB Pv m t D σ b H := by
  cases b with
  | true => exact ⟨_, fun _ _ h => h, h1 rfl⟩
  | false => exact h2 rfl
theorem cxK {CX : CXT} {P : Program} {w : World} {mg : Str → Option Value} {base : Heap} {N : List Str} {qual : Str} {scope : Scope} {f : Addr} {cd : Value} {A : Around} {outer : List Env} {s : Shared} {H : Hp} {E : XK} : (cxOf CX P w K mg base N qual scope f cd A outer s H E).K = K := rfl
theorem atI_int {ns : List Int} {i : Int} (h0 : 0 ≤ i) (h1 : i < ns.length) : atI (ns.map V.int) i = some (.int (ns.getD i.toNat 0)) := by
  obtain ⟨j, rfl⟩ := Int.eq_ofNat_of_zero_le h0
  refine atI_nat ?_
  have hj : j < ns.length := by omega
  rw [List.getElem?_map, List.getElem?_eq_getElem hj]
  simp [hj]
theorem small1000' {n : Nat} (h : n ≤ 100000) : n < sizeLine := Nat.lt_of_le_of_lt h (by decide)
theorem le_line {n : Nat} (h : n ≤ 1000) : (n ≤ sizeLine) = True := eq_true (Nat.le_of_lt (small1000 h))
theorem mulokL {i j : Int} (h : -18446744073709551616 < i ∧ i < 18446744073709551616) : IntMulOk i j := CMul.ok (.inl h)
theorem mulokR {i j : Int} (h : -18446744073709551616 < j ∧ j < 18446744073709551616) : IntMulOk i j := CMul.ok (.inr h)
theorem log2_lt {b : Int} {n : Nat} (h0 : 0 < b) (h : b.toNat < 2 ^ n) (hn : n ≤ 9000) (h1 : 0 < n) : b.natAbs.log2 < 9000 := by
  have e : b.natAbs = b.toNat := by omega
  rw [e]
  have := (Nat.log2_lt (by omega : b.toNat ≠ 0)).mpr h
  omega
end
/-! ### the ledger: F stands, L may change -/
def But (p : Addr) (H H' : Hp) : Prop := ∀ b o, b ≠ p → H b = some o → H' b = some o
structure W (F : Hp) (L : List (Addr × HO)) (H : Hp) : Prop where
  fr : Same F H
  nd : (L.map (·.1)).Nodup
  at_ : ∀ p ∈ L, H p.1 = some p.2
  off : ∀ p ∈ L, F p.1 = none
def rem (H : Hp) (a : Addr) : Hp := fun b => if b = a then none else H b
theorem rem_same {H : Hp} {a : Addr} : rem H a a = none := if_pos rfl
theorem rem_ne {H : Hp} {a b : Addr} (h : b ≠ a) : rem H a b = H b := if_neg h
theorem Same.rem {H : Hp} {a : Addr} : Same (rem H a) H := fun b o e => by
  by_cases h : b = a
  · subst h; rw [rem_same] at e; cases e
  · rw [rem_ne h] at e; exact e
section
variable {F F' H H' : Hp} {L L' : List (Addr × HO)} {p r : Addr} {o o' o2 : HO}
theorem W.start : W H [] H := ⟨Same.refl H, List.nodup_nil, (fun _ h => nomatch h), (fun _ h => nomatch h)⟩
theorem W.own (h : H p = some o) : W (rem H p) [(p, o)] H :=
  ⟨Same.rem, by simp, fun q hq => by simp at hq; subst hq; exact h, fun q hq => by simp at hq; subst hq; exact rem_same⟩
theorem W.get (w : W F L H) (i : Nat) (h : L[i]? = some (p, o)) : H p = some o := w.at_ _ (List.mem_of_getElem? h)
theorem W.offI (w : W F L H) (i : Nat) (h : L[i]? = some (p, o)) : F p = none := w.off _ (List.mem_of_getElem? h)
theorem W.new (w : W F L H) (h : H p = none) : W F ((p, o) :: L) (upd H p o) := by
  refine ⟨fun b u e => ?_, ?_, fun q hq => ?_, fun q hq => ?_⟩
  · rw [upd_ne (ne_of_none (w.fr b u e) h)]; exact w.fr b u e
  · rw [List.map_cons, List.nodup_cons]
    refine ⟨fun hm => ?_, w.nd⟩
    obtain ⟨q, hq, e⟩ := List.mem_map.mp hm
    have z := w.at_ q hq
    rw [e, h] at z
    cases z
  · rcases List.mem_cons.mp hq with rfl | hq
    · exact upd_same
    · rw [upd_ne (ne_of_none (w.at_ q hq) h)]; exact w.at_ q hq
  · rcases List.mem_cons.mp hq with rfl | hq
    · cases e : F p with
      | none => rfl
      | some u =>
        have z := w.fr p u e
        rw [h] at z; cases z
    · exact w.off q hq
/-- what stood at p in the ledger is another thing now -/
theorem W.mut (w : W F L H) (i : Nat) (h : L[i]? = some (p, o)) (hb : But p H H') (hp : H' p = some o') : W F (L.set i (p, o')) H' := by
  have hm : (L.set i (p, o')).map (·.1) = L.map (·.1) := by
    obtain ⟨hi, e⟩ := List.getElem?_eq_some_iff.mp h
    rw [List.map_set]
    apply List.ext_getElem?
    intro n
    by_cases hn : i = n
    · subst hn
      rw [List.getElem?_set_self (by simpa using hi), List.getElem?_map, h]
      rfl
    · rw [List.getElem?_set_ne hn]
  have hF : F p = none := w.offI i h
  have key : ∀ q ∈ L.set i (p, o'), q = (p, o') ∨ (q ∈ L ∧ q.1 ≠ p) := fun q hq => by
    obtain ⟨n, hn, e⟩ := List.mem_iff_getElem.mp hq
    by_cases hi : i = n
    · subst hi
      rw [List.getElem_set_self] at e
      exact .inl e.symm
    · rw [List.getElem_set_ne hi] at e
      refine .inr ⟨e ▸ List.getElem_mem _, fun z => hi ?_⟩
      obtain ⟨hi', e'⟩ := List.getElem?_eq_some_iff.mp h
      have hn' : n < L.length := by simpa using hn
      have nd := w.nd
      have := (List.getElem_inj (i := i) (j := n) (h₀ := by simpa using hi') (h₁ := by simpa using hn') nd).mp (by rw [List.getElem_map, List.getElem_map, e', e]; exact z.symm)
      exact this
  refine ⟨fun b u e => hb b u (fun z => by rw [z, hF] at e; cases e) (w.fr b u e), by rw [hm]; exact w.nd, fun q hq => ?_, fun q hq => ?_⟩
  · rcases key q hq with rfl | ⟨h1, h2⟩
    · exact hp
    · exact hb _ _ h2 (w.at_ q h1)
  · rcases key q hq with rfl | ⟨h1, h2⟩
    · exact hF
    · exact w.off q h1
theorem But.upd : But p H (upd H p o) := fun b u hb e => by rw [upd_ne hb]; exact e
theorem W.upd (w : W F L H) (i : Nat) (h : L[i]? = some (p, o)) : W F (L.set i (p, o')) (upd H p o') := w.mut i h But.upd upd_same
/-- a call that changed nothing that stood -/
theorem W.grow (w : W F L H) (s : Same H H') : W F L H' := ⟨w.fr.trans s, w.nd, fun q hq => s _ _ (w.at_ q hq), w.off⟩
/-- a new thing of a call's -/
theorem W.add (w' : W F L' H') (w : W F L H) (hr : H r = none) (hr' : H' r = some o) (hm : L'.map (·.1) = L.map (·.1) := by rfl) : W F ((r, o) :: L') H' := by
  refine ⟨w'.fr, ?_, fun q hq => ?_, fun q hq => ?_⟩
  · rw [List.map_cons, List.nodup_cons]
    refine ⟨fun hx => ?_, w'.nd⟩
    rw [hm] at hx
    obtain ⟨q, hq, e⟩ := List.mem_map.mp hx
    have z := w.at_ q hq
    rw [e, hr] at z
    cases z
  · rcases List.mem_cons.mp hq with rfl | hq
    · exact hr'
    · exact w'.at_ q hq
  · rcases List.mem_cons.mp hq with rfl | hq
    · cases e : F r with
      | none => rfl
      | some u =>
        have z := w.fr r u e
        rw [hr] at z; cases z
    · exact w'.off q hq
/-- it will not change any more -/
theorem W.frz (w : W F ((p, o) :: L) H) : Same F (L2.upd F p o) ∧ W (L2.upd F p o) L H := by
  have hF := w.off _ List.mem_cons_self
  have nd := List.nodup_cons.mp w.nd
  refine ⟨fun b u e => by rw [upd_ne (ne_of_none e hF)]; exact e, fun b u e => ?_, nd.2, fun q hq => w.at_ q (List.mem_cons_of_mem _ hq), fun q hq => ?_⟩
  · by_cases hb : b = p
    · subst hb; rw [upd_same] at e; cases e
      exact w.at_ _ List.mem_cons_self
    · rw [upd_ne hb] at e; exact w.fr b u e
  · have hb : q.1 ≠ p := fun z => nd.1 (List.mem_map.mpr ⟨q, hq, z⟩)
    rw [upd_ne hb]; exact w.off q (List.mem_cons_of_mem _ hq)
/-- it is of no more use -/
theorem W.drop (w : W F ((p, o) :: L) H) : W F L H := ⟨w.fr, (List.nodup_cons.mp w.nd).2, fun q hq => w.at_ q (List.mem_cons_of_mem _ hq), fun q hq => w.off q (List.mem_cons_of_mem _ hq)⟩
theorem W.perm (w : W F L H) (h : L.Perm L') : W F L' H := ⟨w.fr, (h.map _).nodup w.nd, fun q hq => w.at_ q (h.mem_iff.mpr hq), fun q hq => w.off q (h.mem_iff.mpr hq)⟩
theorem Same.but (s : Same H H') : But p H H' := fun b o _ e => s b o e
theorem But.trans {H1 : Hp} (a : But p H H1) (b : But p H1 H') : But p H H' := fun c o hc e => b c o hc (a c o hc e)
/-- what a caller keeps: all that stood but p -/
theorem W.but (w : W (L2.rem H r) ((r, o) :: L) H') : But r H H' := fun b u hb e => w.fr b u (by rw [rem_ne hb]; exact e)
end
end L2
/-! The built-in names: none of them is bound by the module. -/
namespace L2
open PySem PySem.Spec PyProof.Rows
structure Blt (mg : Str → Option Value) : Prop where
  len : mg "len" = none
  abs : mg "abs" = none
  max : mg "max" = none
  min : mg "min" = none
  sum : mg "sum" = none
  sorted : mg "sorted" = none
  isinstance : mg "isinstance" = none
  iter : mg "iter" = none
  ord : mg "ord" = none
  any : mg "any" = none
  all : mg "all" = none
  int : mg "int" = none
  bool : mg "bool" = none
  str : mg "str" = none
  list : mg "list" = none
  tuple : mg "tuple" = none
  dict : mg "dict" = none
  set : mg "set" = none
  range : mg "range" = none
  enumerate : mg "enumerate" = none
  zip : mg "zip" = none
  reversed : mg "reversed" = none
  super : mg "super" = none
  ValueError : mg "ValueError" = none
theorem bt_len : bootBuiltins "len" = some (.builtin "len") := by first | boot_by_name | decide +kernel
theorem bt_abs : bootBuiltins "abs" = some (.builtin "abs") := by first | boot_by_name | decide +kernel
theorem bt_max : bootBuiltins "max" = some (.builtin "max") := by first | boot_by_name | decide +kernel
theorem bt_min : bootBuiltins "min" = some (.builtin "min") := by first | boot_by_name | decide +kernel
theorem bt_sum : bootBuiltins "sum" = some (.builtin "sum") := by first | boot_by_name | decide +kernel
theorem bt_sorted : bootBuiltins "sorted" = some (.builtin "sorted") := by first | boot_by_name | decide +kernel
theorem bt_isinstance : bootBuiltins "isinstance" = some (.builtin "isinstance") := by first | boot_by_name | decide +kernel
theorem bt_iter : bootBuiltins "iter" = some (.builtin "iter") := by first | boot_by_name | decide +kernel
theorem bt_ord : bootBuiltins "ord" = some (.builtin "ord") := by first | boot_by_name | decide +kernel
theorem bt_any : bootBuiltins "any" = some (.builtin "any") := by first | boot_by_name | decide +kernel
theorem bt_all : bootBuiltins "all" = some (.builtin "all") := by first | boot_by_name | decide +kernel
theorem bt_int : bootBuiltins "int" = some (.type "int") := by first | boot_by_name | decide +kernel
theorem bt_bool : bootBuiltins "bool" = some (.type "bool") := by first | boot_by_name | decide +kernel
theorem bt_str : bootBuiltins "str" = some (.type "str") := by first | boot_by_name | decide +kernel
theorem bt_list : bootBuiltins "list" = some (.type "list") := by first | boot_by_name | decide +kernel
theorem bt_tuple : bootBuiltins "tuple" = some (.type "tuple") := by first | boot_by_name | decide +kernel
theorem bt_dict : bootBuiltins "dict" = some (.type "dict") := by first | boot_by_name | decide +kernel
theorem bt_set : bootBuiltins "set" = some (.type "set") := by first | boot_by_name | decide +kernel
theorem bt_range : bootBuiltins "range" = some (.type "range") := by first | boot_by_name | decide +kernel
theorem bt_enumerate : bootBuiltins "enumerate" = some (.type "enumerate") := by first | boot_by_name | decide +kernel
theorem bt_zip : bootBuiltins "zip" = some (.type "zip") := by first | boot_by_name | decide +kernel
theorem bt_reversed : bootBuiltins "reversed" = some (.type "reversed") := by first | boot_by_name | decide +kernel
theorem bt_super : bootBuiltins "super" = some (.type "super") := by first | boot_by_name | decide +kernel
theorem bt_ValueError : bootBuiltins "ValueError" = some (.type "ValueError") := by first | boot_by_name | decide +kernel
theorem Blt.of {K : PySem.W.Frag} {h : Heap} {mg : Str → Option Value} (X : K.In h) (G : h.Ns mainGlobals mg)
    (z_len : PySem.W.nsIn K mainGlobals "len" = some none)    (z_abs : PySem.W.nsIn K mainGlobals "abs" = some none)    (z_max : PySem.W.nsIn K mainGlobals "max" = some none)    (z_min : PySem.W.nsIn K mainGlobals "min" = some none)    (z_sum : PySem.W.nsIn K mainGlobals "sum" = some none)    (z_sorted : PySem.W.nsIn K mainGlobals "sorted" = some none)    (z_isinstance : PySem.W.nsIn K mainGlobals "isinstance" = some none)    (z_iter : PySem.W.nsIn K mainGlobals "iter" = some none)    (z_ord : PySem.W.nsIn K mainGlobals "ord" = some none)    (z_any : PySem.W.nsIn K mainGlobals "any" = some none)    (z_all : PySem.W.nsIn K mainGlobals "all" = some none)    (z_int : PySem.W.nsIn K mainGlobals "int" = some none)    (z_bool : PySem.W.nsIn K mainGlobals "bool" = some none)    (z_str : PySem.W.nsIn K mainGlobals "str" = some none)    (z_list : PySem.W.nsIn K mainGlobals "list" = some none)    (z_tuple : PySem.W.nsIn K mainGlobals "tuple" = some none)    (z_dict : PySem.W.nsIn K mainGlobals "dict" = some none)    (z_set : PySem.W.nsIn K mainGlobals "set" = some none)    (z_range : PySem.W.nsIn K mainGlobals "range" = some none)    (z_enumerate : PySem.W.nsIn K mainGlobals "enumerate" = some none)    (z_zip : PySem.W.nsIn K mainGlobals "zip" = some none)    (z_reversed : PySem.W.nsIn K mainGlobals "reversed" = some none)    (z_super : PySem.W.nsIn K mainGlobals "super" = some none)    (z_ValueError : PySem.W.nsIn K mainGlobals "ValueError" = some none) : Blt mg := ⟨PySem.W.mg_none_of X G z_len, PySem.W.mg_none_of X G z_abs, PySem.W.mg_none_of X G z_max, PySem.W.mg_none_of X G z_min, PySem.W.mg_none_of X G z_sum, PySem.W.mg_none_of X G z_sorted, PySem.W.mg_none_of X G z_isinstance, PySem.W.mg_none_of X G z_iter, PySem.W.mg_none_of X G z_ord, PySem.W.mg_none_of X G z_any, PySem.W.mg_none_of X G z_all, PySem.W.mg_none_of X G z_int, PySem.W.mg_none_of X G z_bool, PySem.W.mg_none_of X G z_str, PySem.W.mg_none_of X G z_list, PySem.W.mg_none_of X G z_tuple, PySem.W.mg_none_of X G z_dict, PySem.W.mg_none_of X G z_set, PySem.W.mg_none_of X G z_range, PySem.W.mg_none_of X G z_enumerate, PySem.W.mg_none_of X G z_zip, PySem.W.mg_none_of X G z_reversed, PySem.W.mg_none_of X G z_super, PySem.W.mg_none_of X G z_ValueError⟩
end L2
/-! Nested data: what isinstance says of it; the same data. -/
namespace L2
open PySem PySem.Spec PyProof.Rows
def tyN : PyData → String
  | .none => "NoneType"
  | .bool _ => "bool"
  | .int _ => "int"
  | .str _ => "str"
  | .list _ => "list"
  | .tuple _ => "tuple"
  | .dict _ => "dict"
section
variable {K : PySem.W.Frag} {H H' : Hp} {v : V} {d : PyData} {Q : VK}
theorem Same.seqT {a : Addr} {xs : List V} (e : Same H H') (h : SqT K H a xs) : SqT K H' a xs := by
  rcases h with (h | ⟨o, h⟩) | h
  · exact .inl (.inl (e _ _ h))
  · exact .inl (.inr ⟨o, e _ _ h⟩)
  · exact .inr h
mutual
theorem Dp.mono (e : Same H H') : ∀ {v : V} {d : PyData}, Dp K H v d → Dp K H' v d
  | _, _, .non => .non
  | _, _, .bl b => .bl b
  | _, _, .int i => .int i
  | _, _, .str x => .str x
  | _, _, .lst h r => .lst (e.seq h) (DpAll.mono e r)
  | _, _, .tup h r => .tup (e.seqT h) (DpAll.mono e r)
theorem DpAll.mono (e : Same H H') : ∀ {vs : List V} {ds : List PyData}, DpAll K H vs ds → DpAll K H' vs ds
  | _, _, .nil => .nil
  | _, _, .cons h r => .cons (Dp.mono e h) (DpAll.mono e r)
end
theorem Dp.ty (h : Dp K H v d) : TyX K H v (.type (tyN d)) := by
  cases h with
  | non => exact .base .non
  | bl b => exact .base (.bl b)
  | int i => exact .base (.int i)
  | str x => exact .base (.str x)
  | lst h r =>
    rcases h with (h | ⟨o, h⟩) | ⟨o, its, n, h1, h2, _⟩
    · exact .base (.lst h)
    · exact .base (.frz h)
    · exact .kList h1 h2
  | tup h r =>
    rcases h with (h | ⟨o, h⟩) | ⟨o, its, n, h1, h2, _⟩
    · exact .base (.tup h)
    · exact .fTuple h
    · exact .kTuple h1 h2
theorem DpAll.length : ∀ {vs : List V} {ds : List PyData}, DpAll K H vs ds → vs.length = ds.length
  | _, _, .nil => rfl
  | _, _, .cons _ r => by simp [DpAll.length r]
theorem DpAll.get : ∀ {vs : List V} {ds : List PyData} {i : Nat} {d : PyData}, DpAll K H vs ds → ds[i]? = some d → ∃ v, vs[i]? = some v ∧ Dp K H v d
  | _, _, _, _, .nil, h => by simp at h
  | _, _, 0, _, .cons h r, e => by simp at e; subst e; exact ⟨_, rfl, h⟩
  | _, _, i + 1, d, .cons h r, e => by
    obtain ⟨v, h1, h2⟩ := DpAll.get (i := i) r (by simpa using e)
    exact ⟨v, by simpa using h1, h2⟩
theorem DpAll.ints : ∀ ns : List Int, DpAll K H (ns.map V.int) (ns.map PyData.int)
  | [] => .nil
  | n :: ns => .cons (.int n) (DpAll.ints ns)
theorem DpAll.strs : ∀ ns : List Str, DpAll K H (ns.map V.str) (ns.map PyData.str)
  | [] => .nil
  | n :: ns => .cons (.str n) (DpAll.strs ns)
theorem Dp.intL {a : Addr} {ns : List Int} (h : SqL K H a (ns.map V.int)) : Dp K H (.ref a) (.list (ns.map PyData.int)) := .lst h (DpAll.ints ns)
theorem Dp.intT {a : Addr} {ns : List Int} (h : SqT K H a (ns.map V.int)) : Dp K H (.ref a) (.tuple (ns.map PyData.int)) := .tup h (DpAll.ints ns)
/-- isinstance(v, T), T a built-in type -/
def isInt : PyData → Bool | .int _ => true | .bool _ => true | _ => false
def isBool : PyData → Bool | .bool _ => true | _ => false
def isStr : PyData → Bool | .str _ => true | _ => false
def isList : PyData → Bool | .list _ => true | _ => false
def isTuple : PyData → Bool | .tuple _ => true | _ => false
theorem isi_ty {T : String} {b : Bool} (h : Dp K H v d) (hb : kitB (tyN d) T = some b) (q : Q (.bl b) H) : rIsi K [v, .ty T] H Q :=
  ⟨v, .ty T, .type (tyN d), .type T, b, rfl, .ty T, h.ty, kit_ty hb, q⟩
theorem isi_int (h : Dp K H v d) (q : Q (.bl (isInt d)) H) : rIsi K [v, .ty "int"] H Q := isi_ty h (by
  cases d <;> first
    | (show kitB "NoneType" "int" = some false; decide +kernel)
    | (show kitB "bool" "int" = some true; decide +kernel)
    | (show kitB "int" "int" = some true; decide +kernel)
    | (show kitB "str" "int" = some false; decide +kernel)
    | (show kitB "list" "int" = some false; decide +kernel)
    | (show kitB "tuple" "int" = some false; decide +kernel)
    | (show kitB "dict" "int" = some false; decide +kernel)) q
theorem isi_bool (h : Dp K H v d) (q : Q (.bl (isBool d)) H) : rIsi K [v, .ty "bool"] H Q := isi_ty h (by
  cases d <;> first
    | (show kitB "NoneType" "bool" = some false; decide +kernel)
    | (show kitB "bool" "bool" = some true; decide +kernel)
    | (show kitB "int" "bool" = some false; decide +kernel)
    | (show kitB "str" "bool" = some false; decide +kernel)
    | (show kitB "list" "bool" = some false; decide +kernel)
    | (show kitB "tuple" "bool" = some false; decide +kernel)
    | (show kitB "dict" "bool" = some false; decide +kernel)) q
theorem isi_str (h : Dp K H v d) (q : Q (.bl (isStr d)) H) : rIsi K [v, .ty "str"] H Q := isi_ty h (by
  cases d <;> first
    | (show kitB "NoneType" "str" = some false; decide +kernel)
    | (show kitB "bool" "str" = some false; decide +kernel)
    | (show kitB "int" "str" = some false; decide +kernel)
    | (show kitB "str" "str" = some true; decide +kernel)
    | (show kitB "list" "str" = some false; decide +kernel)
    | (show kitB "tuple" "str" = some false; decide +kernel)
    | (show kitB "dict" "str" = some false; decide +kernel)) q
theorem isi_list (h : Dp K H v d) (q : Q (.bl (isList d)) H) : rIsi K [v, .ty "list"] H Q := isi_ty h (by
  cases d <;> first
    | (show kitB "NoneType" "list" = some false; decide +kernel)
    | (show kitB "bool" "list" = some false; decide +kernel)
    | (show kitB "int" "list" = some false; decide +kernel)
    | (show kitB "str" "list" = some false; decide +kernel)
    | (show kitB "list" "list" = some true; decide +kernel)
    | (show kitB "tuple" "list" = some false; decide +kernel)
    | (show kitB "dict" "list" = some false; decide +kernel)) q
theorem isi_tuple (h : Dp K H v d) (q : Q (.bl (isTuple d)) H) : rIsi K [v, .ty "tuple"] H Q := isi_ty h (by
  cases d <;> first
    | (show kitB "NoneType" "tuple" = some false; decide +kernel)
    | (show kitB "bool" "tuple" = some false; decide +kernel)
    | (show kitB "int" "tuple" = some false; decide +kernel)
    | (show kitB "str" "tuple" = some false; decide +kernel)
    | (show kitB "list" "tuple" = some false; decide +kernel)
    | (show kitB "tuple" "tuple" = some true; decide +kernel)
    | (show kitB "dict" "tuple" = some false; decide +kernel)) q
end
/-! ### the same data -/
mutual
def sm : PyData → PyData → Bool
  | .none, .none => true
  | .bool c, .bool b => c == b
  | .int j, .int i => j == i
  | .str t, .str s => t == s
  | .tuple gs, .tuple ds => smL gs ds
  | .list gs, .list ds => smL gs ds
  | _, _ => false
def smL : List PyData → List PyData → Bool
  | [], [] => true
  | g :: gs, d :: ds => sm g d && smL gs ds
  | _, _ => false
end
def fits : Nat → PyData → Prop
  | _, .none => True
  | _, .bool _ => True
  | _, .int _ => True
  | _, .str _ => True
  | n + 1, .tuple ds => ds.length ≤ 100000 ∧ ∀ d ∈ ds, fits n d
  | n + 1, .list ds => ds.length ≤ 100000 ∧ ∀ d ∈ ds, fits n d
  | _, _ => False
theorem smL_len : ∀ {gs ds : List PyData}, smL gs ds = true → gs.length = ds.length
  | [], [], _ => rfl
  | g :: gs, d :: ds, h => by
    simp only [smL, Bool.and_eq_true] at h
    simp [smL_len h.2]
theorem smL_all : ∀ {gs ds : List PyData}, gs.length = ds.length → smL gs ds = (List.range ds.length).all fun i => sm (gs.getD i .none) (ds.getD i .none)
  | [], [], _ => by simp [smL]
  | g :: gs, d :: ds, h => by
    have ih := smL_all (gs := gs) (ds := ds) (by simpa using h)
    rw [smL, ih, List.length_cons, List.range_succ_eq_map, List.all_cons, List.all_map]
    rfl
  | [], _ :: _, h => by simp at h
  | _ :: _, [], h => by simp at h
theorem sm_refl : ∀ (n : Nat) (d : PyData), fits n d → sm d d = true
  | _, .none, _ => by simp [sm]
  | _, .bool _, _ => by simp [sm]
  | _, .int _, _ => by simp [sm]
  | _, .str _, _ => by simp [sm]
  | n + 1, .tuple ds, h => by
    rw [sm, smL_all rfl, List.all_eq_true]
    intro i hi
    have hi' : i < ds.length := List.mem_range.mp hi
    have : ds.getD i .none = ds[i] := by simp [hi']
    rw [this]
    exact sm_refl n _ (h.2 _ (List.getElem_mem hi'))
  | n + 1, .list ds, h => by
    rw [sm, smL_all rfl, List.all_eq_true]
    intro i hi
    have hi' : i < ds.length := List.mem_range.mp hi
    have : ds.getD i .none = ds[i] := by simp [hi']
    rw [this]
    exact sm_refl n _ (h.2 _ (List.getElem_mem hi'))
  | _, .dict _, h => by cases ‹Nat› <;> exact h.elim
  | 0, .tuple _, h => h.elim
  | 0, .list _, h => h.elim
theorem sm_eq {n : Nat} {g d : PyData} (e : g = d) (h : fits n d) : sm g d = true := by rw [e]; exact sm_refl n d h
end L2
/-! The error classes of the text. -/
namespace L2
open PySem PySem.Spec PyProof.Rows
/-- an exception class of the text that stands at C -/
structure ExcB (K : PySem.W.Frag) (mg : Str → Option Value) (x : Str) (C : Addr) : Prop where
  g : mg x = some (.ref C)
  exC : PySem.W.subIn K (.ref C) (.type "BaseException") = some true
  veC : PySem.W.subIn K (.ref C) (.type "ValueError") = some true
  tyC : PySem.W.typeIn K (.ref C) = some (.type "type")
  hdC : PySem.W.hasDictIn K C = true
  seC : PySem.W.subIn K (.ref C) (.ref C) = some true
  ex : ExcC K C
  xf : XfC K C
/-- .. with fields -/
structure ErrC (K : PySem.W.Frag) (mg : Str → Option Value) (x : Str) (C fI : Addr) (fs : List Str) : Prop extends ExcB K mg x C where
  txt : PySem.NKE.ErrTxt K C fI fs
section
variable {K : PySem.W.Frag} {mg : Str → Option Value} {x : Str} {C D : Addr} {b : Bool}
theorem ExcB.cls (h : ExcB K mg x C) : (PySem.W.clsIn K C).isSome = true := by
  obtain ⟨cd, hc, _⟩ := PySem.W.any_some h.hdC
  rw [hc]; rfl
theorem ExcB.kit (h : ExcB K mg x C) {t : Value} (s : PySem.W.subIn K t (.ref C) = some b) : PySem.W.kitCls K t (.ref C) = some b := by
  have e2 : ((PySem.W.clsIn K C).isSome && PySem.W.typeIn K (.ref C) == some (.type "type")) = true := by rw [h.cls, h.tyC] <;> rfl
  show (if ((PySem.W.clsIn K C).isSome && PySem.W.typeIn K (.ref C) == some (.type "type")) = true then PySem.W.subIn K t (.ref C) else none) = some b
  rw [if_pos e2]; exact s
theorem ExcB.kit1 (h : ExcB K mg x C) {D : Addr} (s : PySem.W.subIn K (.ref D) (.ref C) = some b) : PySem.W.kitOne K (.ref D) (.ref C) = some b := by
  unfold PySem.W.kitOne
  by_cases e : D = C
  · subst e
    rw [h.seC] at s
    cases s
    rw [if_pos (by simp)]
  · rw [if_neg (by simp [e])]
    exact h.kit s
theorem ExcB.exm (h : ExcB K mg x C) {t : Value} (s : PySem.W.subIn K t (.ref C) = some b) : PySem.W.exmOne K t (.ref C) = some b := by
  have e1 : (PySem.W.subIn K (.ref C) (.type "BaseException") == some true) = true := by rw [h.exC] <;> rfl
  show (if (PySem.W.subIn K (.ref C) (.type "BaseException") == some true) = true then PySem.W.kitCls K t (.ref C) else none) = some b
  rw [if_pos e1]; exact h.kit s
theorem kit_VE {t : Addr} (s : PySem.W.subIn K (.ref t) (.type "ValueError") = some b) : PySem.W.kitOne K (.ref t) (.type "ValueError") = some b := by
  unfold PySem.W.kitOne
  rw [if_neg (by simp)]
  show (if PySem.W.kitMeta "ValueError" = true then PySem.W.subIn K (.ref t) (.type "ValueError") else none) = some b
  rw [if_pos (by decide +kernel)]; exact s
/-- isinstance of the error at hand -/
theorem w_isX {a : Addr} {d : Addr} {H : Hp} {Q : VK} {fs : List (Str × V)} (h : ExcB K mg x C) (hd : H d = some (.xd fs)) (s : PySem.W.subIn K (.ref D) (.ref C) = some b) (q : Q (.bl b) H) : rIsX K D a (.ref D) (some d) [.ref a, .ref C] H Q :=
  ⟨.ref C, .ref C, b, rfl, rfl, fun u r => r, fun dd e => by cases e; exact ⟨fs, hd⟩, h.kit1 s, q⟩
theorem w_isX0 {a : Addr} {H : Hp} {Q : VK} (h : ExcB K mg x C) (s : PySem.W.subIn K (.ref D) (.ref C) = some b) (q : Q (.bl b) H) : rIsX K D a (.ref D) none [.ref a, .ref C] H Q :=
  ⟨.ref C, .ref C, b, rfl, rfl, fun u r => r, fun dd e => (by cases e), h.kit1 s, q⟩
theorem w_isXV {a : Addr} {d : Addr} {H : Hp} {Q : VK} {fs : List (Str × V)} (hd : H d = some (.xd fs)) (s : PySem.W.subIn K (.ref D) (.type "ValueError") = some b) (q : Q (.bl b) H) : rIsX K D a (.ref D) (some d) [.ref a, .ty "ValueError"] H Q :=
  ⟨.ty "ValueError", .type "ValueError", b, rfl, rfl, fun u r => r, fun dd e => by cases e; exact ⟨fs, hd⟩, kit_VE s, q⟩
theorem w_isXV0 {a : Addr} {H : Hp} {Q : VK} (s : PySem.W.subIn K (.ref D) (.type "ValueError") = some b) (q : Q (.bl b) H) : rIsX K D a (.ref D) none [.ref a, .ty "ValueError"] H Q :=
  ⟨.ty "ValueError", .type "ValueError", b, rfl, rfl, fun u r => r, fun dd e => (by cases e), kit_VE s, q⟩
/-- a new error -/
def mkE (C : Addr) (fs : List Str) (vs : List V) (H1 : Hp) (Q : XK) : Prop := vs.length = fs.length ∧ ∀ d, H1 d = none → Q (.ref C) (some d) (upd H1 d (.xd (fs.zip vs)))
theorem s_mk {fs : List Str} {ta : TA} {σ : St} {H : Hp} {Q : XK} : tMkErr C fs ta σ H Q = ta σ H (fun vs H1 => mkE C fs vs H1 Q) := rfl
/-- a field of the error at hand -/
def xfV (a : Addr) (cls : Value) (d : Option Addr) (C : Addr) (f : Str) (x : V) (H : Hp) (Q : VK) : Prop := x = .ref a ∧ cls = .ref C ∧ ∃ (dd : Addr) (fs : List (Str × V)) (v : V), d = some dd ∧ H dd = some (.xd fs) ∧ fs.lookup f = some v ∧ Q v H
theorem s_xf {a : Addr} {cls : Value} {d : Option Addr} {f : Str} {te : TE} {σ : St} {H : Hp} {Q : VK} : tXf a cls d C f te σ H Q = te σ H (fun x H1 => xfV a cls d C f x H1 Q) := rfl
theorem w_xf {a d : Addr} {f : Str} {H : Hp} {Q : VK} {fs : List (Str × V)} {v : V} (hd : H d = some (.xd fs)) (l : fs.lookup f = some v) (q : Q v H) : xfV a (.ref C) (some d) C f (.ref a) H Q := ⟨rfl, rfl, d, fs, v, rfl, hd, l, q⟩
end
end L2
/-! More readings. -/
namespace L2
open PySem PySem.Spec PyProof.Rows
section
variable {K : PySem.W.Frag} {F H H' : Hp} {L : List (Addr × HO)} {a b p r : Addr} {o o' : HO} {Q : VK} {ns ms : List Int} {xs : List V}
theorem eqv_ints : PyData.eqv (.list (ns.map PyData.int)) (.list (ms.map PyData.int)) = decide (ns = ms) := by
  rw [PyData.eqv]; exact PySem.W.ked_eqvAll ns ms
theorem w_neIL (h : SqL K H a (ns.map V.int)) (h' : SqL K H b (ms.map V.int)) (q : Q (.bl (!decide (ns = ms))) H) : aNe K (.ref a) (.ref b) H Q :=
  ⟨_, _, Dp.intL h, Dp.intL h', PySem.W.ke_shaped_ints ns, PySem.W.ke_shaped_ints ms, by rw [eqv_ints]; exact q⟩
theorem w_eqIL (h : SqL K H a (ns.map V.int)) (h' : SqL K H b (ms.map V.int)) (q : Q (.bl (decide (ns = ms))) H) : aEq K (.ref a) (.ref b) H Q :=
  ⟨_, _, Dp.intL h, Dp.intL h', PySem.W.ke_shaped_ints ns, PySem.W.ke_shaped_ints ms, by rw [eqv_ints]; exact q⟩
theorem w_sum (h : SqL K H a (ns.map V.int)) (q : Q (.int ns.sum) H) : rSum K [.ref a] H Q := ⟨a, ns, rfl, h, q⟩
/-- [x] * k -/
theorem w_rep1 {x : V} {k : Int} (h : H p = some (.lst [x])) (h1 : -9223372036854775808 ≤ k) (h2 : k ≤ 100000) (q : ∀ r, H r = none → Q (.ref r) (upd H r (.lst (List.replicate k.toNat x)))) : aMul K (.ref p) (.int k) H Q := by
  refine ⟨p, k, [x], rfl, rfl, h, by omega, by omega, ?_, fun r hr => ?_⟩
  · have : k.toNat ≤ 100000 := by omega
    simp only [List.length_singleton, Nat.one_mul]
    exact Nat.le_of_lt (small1000' this)
  · have := q r hr
    rwa [List.flatten_replicate_singleton]
theorem at_last (h : 0 < ns.length) : atI (ns.map V.int) (-1) = some (.int (ns.getD (ns.length - 1) 0)) := by
  have hj : ns.length - 1 < ns.length := by omega
  have e : ixN (ns.map V.int).length (-1) = some (ns.length - 1) := by
    unfold ixN
    rw [List.length_map, if_neg (by decide), if_pos (by omega)]
    congr 1; omega
  unfold atI
  rw [e]
  simp [hj]
theorem FnAt.no {P : Program} {w : World} {mg : Str → Option Value} {base : Heap} {f : Addr} {fd : FuncData} {x : Str} {st : Stmt} {ps : List Str} {k : Nat} (F : Fun K x x st f fd) (hm : mg x = some (.ref f)) (hb : Binds K fd ps []) : FnAt P w K mg base k x ps (fun _ _ _ _ => False) :=
  ⟨f, fd, ⟨fun _ _ _ _ h => h.elim, fun _ _ _ _ _ _ _ _ _ _ _ _ _ h => h.elim⟩, hm, F.kp, hb⟩
section
variable {t u : TS} {D : Ends} {σ : St}
/-- an if whose ways meet again: J holds there -/
theorem w_brJ {p : Prop} [Decidable p] (J : St → Hp → Prop) (hJ : ∀ σ H, J σ H → D.nx σ H) (h1 : p → ∀ nx : St → Hp → Prop, (∀ σ H, J σ H → nx σ H) → t { D with nx := nx } σ H) (h2 : ¬ p → ∀ nx : St → Hp → Prop, (∀ σ H, J σ H → nx σ H) → u { D with nx := nx } σ H) : tBr t u D σ (decide p) H := by
  by_cases h : p
  · rw [decide_eq_true h]; exact h1 h D.nx hJ
  · rw [decide_eq_false h]; exact h2 h D.nx hJ
theorem w_brJN {p : Prop} [Decidable p] (J : St → Hp → Prop) (hJ : ∀ σ H, J σ H → D.nx σ H) (h1 : ¬ p → ∀ nx : St → Hp → Prop, (∀ σ H, J σ H → nx σ H) → t { D with nx := nx } σ H) (h2 : p → ∀ nx : St → Hp → Prop, (∀ σ H, J σ H → nx σ H) → u { D with nx := nx } σ H) : tBr t u D σ (!decide p) H := by
  by_cases h : p
  · rw [decide_eq_true h]; exact h2 h D.nx hJ
  · rw [decide_eq_false h]; exact h1 h D.nx hJ
theorem w_brJB {b : Bool} (J : St → Hp → Prop) (hJ : ∀ σ H, J σ H → D.nx σ H) (h1 : b = true → ∀ nx : St → Hp → Prop, (∀ σ H, J σ H → nx σ H) → t { D with nx := nx } σ H) (h2 : b = false → ∀ nx : St → Hp → Prop, (∀ σ H, J σ H → nx σ H) → u { D with nx := nx } σ H) : tBr t u D σ b H := by
  cases b with
  | true => exact h1 rfl D.nx hJ
  | false => exact h2 rfl D.nx hJ
end
theorem s_yes {σ : St} {QT : Bool → Hp → Prop} : tYes σ H QT = QT true H := rfl
theorem W.noF (w : W F L H) (h : H r = none) : F r = none := by
  cases e : F r with
  | none => rfl
  | some u => rw [w.fr r u e] at h; cases h
theorem W.noL (w : W F L H) (h : H r = none) : r ∉ L.map (·.1) := fun hm => by
  obtain ⟨q, hq, e⟩ := List.mem_map.mp hm
  have z := w.at_ q hq
  rw [e, h] at z
  cases z
theorem W.ins (w : W F L H) (h1 : F r = none) (h2 : r ∉ L.map (·.1)) (h3 : H r = some o) : W F ((r, o) :: L) H := by
  refine ⟨w.fr, List.nodup_cons.mpr ⟨h2, w.nd⟩, fun q hq => ?_, fun q hq => ?_⟩
  · rcases List.mem_cons.mp hq with rfl | hq
    · exact h3
    · exact w.at_ q hq
  · rcases List.mem_cons.mp hq with rfl | hq
    · exact h1
    · exact w.off q hq
/-- two new things -/
theorem W.add2 {L' : List (Addr × HO)} {c : Addr} (w' : W F L' H') (w : W F L H) (hr : H r = none) (hc : H c = none) (hr' : H' r = some o) (hc' : H' c = some o') (hne : o ≠ o') (hm : L'.map (·.1) = L.map (·.1) := by rfl) : W F ((r, o) :: (c, o') :: L') H' := by
  refine (w'.ins (w.noF hc) (by rw [hm]; exact w.noL hc) hc').ins (w.noF hr) ?_ hr'
  rw [List.map_cons, List.mem_cons, hm]
  rintro (z | z)
  · have z' : r = c := z
    subst z'
    rw [hr'] at hc'
    exact hne (Option.some.inj hc')
  · exact w.noL hr z
/-- what stands in F stands beside p -/
theorem W.frem (w : W F L H) (i : Nat) (h : L[i]? = some (p, o)) : Same F (rem H p) := fun b u e => by
  rw [rem_ne (ne_of_none e (w.offI i h))]; exact w.fr b u e
end
end L2
/-! What the written part must say, premise by premise. -/
namespace L2
open PySem PySem.Spec PyProof.Rows PySem.W PySem.NKE
section
variable {K : PySem.W.Frag} {h : Heap} {mg : Str → Option Value} {x : Str} {C fI : Addr} {fs : List Str}
theorem ExcB.of (X : K.In h) (G : h.Ns mainGlobals mg) (aC : nsIn K mainGlobals x = some (some (.ref C))) (exC : subIn K (.ref C) (.type "BaseException") = some true) (veC : subIn K (.ref C) (.type "ValueError") = some true)
    (tyC : typeIn K (.ref C) = some (.type "type")) (hdC : hasDictIn K C = true) (seC : subIn K (.ref C) (.ref C) = some true) (hg : findIn K (.ref C) "__getattribute__" = some (some (.builtin "BaseException.__getattribute__"))) (hk : findIn K (.ref C) "__getattr__" = some none)
    (ha : findIn K (.ref C) "__class__" = some (some (.builtin "object.__class__"))) (hn : specialIn K (.builtin "object.__class__") "__get__" = some (some (.builtin "getset_descriptor.__get__"))) (ht : takesIn K (.builtin "object.__class__") = some true) (hm : mroIn K C (.type "object") = some true) : ExcB K mg x C :=
  ⟨mg_of X G aC, exC, veC, tyC, hdC, seC, ⟨hg, hk, exC, hdC, ha, hn, ht, hm⟩, ⟨hg, hk, exC, hdC⟩⟩
/-- what the text of __init__ is -/
structure SupInit (st : Stmt) (fs : List Str) : Prop where
  ar : ∃ ar, ((defArgs st).posonlyargs ++ (defArgs st).args).head? = some ar ∧ ar.arg = "self"
  body : ∃ s0 sts, defBody st = s0 :: sts ∧ IsSup s0 ∧ IsFlds fs sts
  sup : (defScope st).names.lookup ("super" : Str) = some .globalImplicit
  cls : (defScope st).names.lookup ("__class__" : Str) = some .free
  loc : ∀ f ∈ ("self" : Str) :: fs, (defScope st).names.lookup f = some .local
  kind : (defScope st).kind = .function
  noc : ∀ x ∈ (defScope st).names, x.2 ≠ .cell
  coro : (defScope st).isCoroutine = false
  gen : (defScope st).isGenerator = false
  bind : ∀ (qual : Str) (dV kV doc pm : Value) (an : Option Addr) (cd ct : Value) (cc : Addr) (us : List Value), dV = .none → us.length = fs.length + 1 → bindArgs (ksFn "__init__" qual (defArgs st) (defBody st) (defScope st) dV kV doc pm an cd ct cc) ⟨us, []⟩ = pure ((("self" : Str) :: fs).zip us)
  nd : (("self" : Str) :: fs).Nodup
  nodbg : ∀ f ∈ fs, (f == ("__debug__" : Str)) = false
theorem ErrTxt.of {st : Stmt} {qual : Str} (S : SupInit st fs) {nm q : Str} {N : Addr} {bs bm : List Value} {sn : List Str} {sub : List Value} {ab : Bool} {col : Option Bool} {dd : Option Addr} {k0 k1 k2 k3 k5 : Option Value}
    {oc kV doc pm ct ccl cl : Value} {od an cdd cld : Option Addr} {osl ccs csl : Array (Option Value)} {cda cc : Addr} {vs : Array Value} {file : Str} {tf : Tok}
    (B : ExcB K mg x C) (lC : K.lookup C = some (excClassObj nm q C N bs bm true sn sub ab col dd k0 k1 k2 k3 k5 "ValueError.__new__")) (hb : PySem.HandSPX.refsVE bm = true)
    (sa : findIn K (.ref C) "__setattr__" = some (some (.builtin "object.__setattr__"))) (noN : ∀ f ∈ fs, findIn K (.ref C) f = some none) (iC : findIn K (.ref C) "__init__" = some (some (.ref fI))) (tC : typeIn K (.ref fI) = some (.type "function")) (kC : keepIn K (.ref C) = true)
    (sup : ks_superIn K C C "__init__" = some (some (.builtin "ValueError.__init__"))) (selfC : mroIn K C (.ref C) = some true) (tp : nsIn K cStatics "thirdparty.any" = some none) (nosup : nsIn K mainGlobals "super" = some none)
    (lI : K.lookup fI = some ⟨oc, od, .func (ksFn "__init__" qual (defArgs st) (defBody st) (defScope st) .none kV doc pm an (.ref cda) ct cc), osl⟩) (cI : codeIn K (.ref cda) qual = true)
    (lK : K.lookup cda = some ⟨ccl, cdd, .fields vs, ccs⟩) (hf : vs[2]? = some (.str file tf)) (hf2 : ((("/claim/cut.py" : Str)) == file) = true) (lc : K.lookup cc = some ⟨cl, cld, .cell (some (.ref C)), csl⟩) : ErrC K mg x C fI fs := by
  refine ⟨B, ⟨⟨nm, q, N, bs, bm, sn, sub, ab, col, dd, k0, k1, k2, k3, k5, lC, hb⟩, sa, noN, iC, tC, kC, B.exC, B.veC, B.tyC, sup, selfC, tp, nosup, ?_⟩⟩
  obtain ⟨ar, h1, h2⟩ := S.ar
  obtain ⟨s0, sts, h3, h4, h5⟩ := S.body
  exact ⟨oc, od, qual, _, _, _, _, kV, doc, pm, an, cda, ct, osl, cc, ar, ccl, cl, cdd, cld, vs, file, tf, ccs, csl, s0, sts, lI, cI, h1, h2, lK, hf, hf2, lc, h3, h4, h5, S.sup, S.cls, S.loc, S.kind, S.noc, S.coro, S.gen, fun us => S.bind _ _ _ _ _ _ _ _ _ us rfl, S.nd, S.nodbg⟩
end
end L2
/-! Texts. -/
namespace L2
open PySem PySem.Spec PyProof.Rows TL
section
variable {K : PySem.W.Frag} {H : Hp} {Q : VK} {x y z : Str} {n i : Int}
theorem v_addS : aAdd K (.str x) (.str y) H Q = (x.length + y.length ≤ sizeLine ∧ Q (.str (x ++ y)) H) := rfl
theorem v_mulS : aMul K (.str z) (.int n) H Q = ((-1000000 ≤ n ∧ n ≤ 10000 ∧ z.length ≤ 1000) ∧ Q (.str (Txt.mul z n)) H) := rfl
theorem v_lenS : aLen K [.str z] H Q = (z.length ≤ sizeLine ∧ Q (.int z.length) H) := rfl
theorem v_eqS : aEq K (.str x) (.str y) H Q = Q (.bl (decide (x = y))) H := by
  show (true = true ∧ Q (.bl (decide (V.str x = V.str y))) H) = _
  have e : decide (V.str x = V.str y) = decide (x = y) := by
    by_cases h : x = y
    · subst h; simp
    · simp [h]
  rw [e]; simp
theorem v_neS : aNe K (.str x) (.str y) H Q = Q (.bl (!decide (x = y))) H := by
  show (true = true ∧ Q (.bl (!decide (V.str x = V.str y))) H) = _
  have e : decide (V.str x = V.str y) = decide (x = y) := by
    by_cases h : x = y
    · subst h; simp
    · simp [h]
  rw [e]; simp
theorem w_ixS (h : z.length ≤ sizeLine) (h0 : 0 ≤ i) (h1 : i < z.length) (q : ∀ c, (tl z)[i.toNat]? = some c → Q (.str ⟨#[c]⟩) H) : aIx K (.str z) (.int i) H Q := by
  obtain ⟨j, rfl⟩ := Int.eq_ofNat_of_zero_le h0
  have hj : j < (tl z).length := by rw [← len_tl]; omega
  refine ⟨h, (tl z)[j], atI_nat (List.getElem?_eq_getElem hj), ?_⟩
  exact q _ (List.getElem?_eq_getElem hj)
theorem w_slS {lo hi : Option Int} (h : z.length ≤ sizeLine) (q : Q (.str (cutS z lo hi)) H) : aSl K (.str z) lo hi H Q := .inr (.inr ⟨z, rfl, h, q⟩)
theorem w_slL {a : Addr} {xs : List V} {lo hi : Option Int} (h : SqL K H a xs) (q : ∀ p, H p = none → Q (.ref p) (upd H p (.lst (cutV xs lo hi)))) : aSl K (.ref a) lo hi H Q := .inl ⟨a, xs, rfl, h, q⟩
theorem joinC {ys : List Str} {m : Nat} (hm : ∀ y ∈ ys, y.length ≤ m) (hz : ys.length * (m + x.length) ≤ 16000000) : (ys.map (·.length)).sum + ys.length * x.length ≤ 16777216 := by
  have : (ys.map (·.length)).sum ≤ ys.length * m := by
    clear hz
    induction ys with
    | nil => simp
    | cons y ys ih =>
      have h1 := hm y List.mem_cons_self
      have h2 := ih fun y hy => hm y (List.mem_cons_of_mem _ hy)
      simp only [List.map_cons, List.sum_cons, List.length_cons, Nat.succ_mul]
      omega
  rw [Nat.mul_add] at hz
  omega
theorem w_join {p : Addr} {ys : List Str} {m : Nat} (h : SqL K H p (ys.map V.str)) (hm : ∀ y ∈ ys, y.length ≤ m) (hz : ys.length * (m + x.length) ≤ 16000000) (q : Q (.str (Str.join x ys)) H) :
    tyV K "str" (.str x) H ∧ ∃ (a : Str) (p' : Addr), ∃ ys' : List Str, V.str x = .str a ∧ [V.ref p] = [.ref p'] ∧ (SqL K H p' (ys'.map V.str) ∨ SqT K H p' (ys'.map V.str)) ∧ (ys'.map (·.length)).sum + ys'.length * a.length ≤ 16777216 ∧ Q (.str (Txt.join a ys')) H := by
  refine ⟨rfl, x, p, ys, rfl, rfl, .inl h, ?_, by rw [join_eq]; exact q⟩
  have : (ys.map (·.length)).sum ≤ ys.length * m := by
    clear h hz q
    induction ys with
    | nil => simp
    | cons y ys ih =>
      have h1 := hm y List.mem_cons_self
      have h2 := ih fun y hy => hm y (List.mem_cons_of_mem _ hy)
      simp only [List.map_cons, List.sum_cons, List.length_cons, Nat.succ_mul]
      omega
  rw [Nat.mul_add] at hz
  omega
theorem w_rstrip (h : z.length ≤ sizeLine) (q : Q (.str (Txt.rstripChars z x)) H) :
    tyV K "str" (.str z) H ∧ ∃ a b : Str, V.str z = .str a ∧ [V.str x] = [.str b] ∧ a.length ≤ sizeLine ∧ Q (.str (Txt.rstripChars a b)) H := ⟨rfl, z, x, rfl, rfl, h, q⟩
/-- list + list -/
theorem w_catL {p q : Addr} {xs ys : List V} (h : H p = some (.lst xs)) (h' : H q = some (.lst ys)) (hz : xs.length + ys.length ≤ sizeLine) (k : ∀ r, H r = none → Q (.ref r) (upd H r (.lst (xs ++ ys)))) : aAdd K (.ref p) (.ref q) H Q := .inl ⟨p, q, xs, ys, rfl, rfl, h, h', hz, k⟩
end
theorem tl_mul (x : Str) (n : Int) : tl (Txt.mul x n) = (List.replicate n.toNat (tl x)).flatten := by
  unfold Txt.mul
  by_cases h : n < 1
  · rw [if_pos h]
    have : n.toNat = 0 := by omega
    rw [this]; rfl
  · rw [if_neg h]
    by_cases h2 : (n == 1 || x.length == 0) = true
    · rw [if_pos h2]
      rcases Bool.or_eq_true_iff.mp h2 with h3 | h3
      · have : n = 1 := by simpa using h3
        subst this; simp
      · have e : x.length = 0 := by simpa using h3
        rw [len_tl] at e
        have e := List.length_eq_zero_iff.mp e
        rw [e]; simp
    · rw [if_neg h2]
      have key : ∀ (m : Nat) (b : Array Nat), ((List.replicate m x.cps).foldl (· ++ ·) b).toList = b.toList ++ (List.replicate m (tl x)).flatten := by
        intro m
        induction m with
        | zero => intro b; simp
        | succ m ih =>
          intro b
          rw [List.replicate_succ, List.foldl_cons, ih, List.replicate_succ, List.flatten_cons, Array.toList_append, List.append_assoc]
      exact key _ _
theorem len_mul {x : Str} {n : Int} : (Txt.mul x n).length = n.toNat * x.length := by
  rw [len_tl, tl_mul, len_tl]
  induction n.toNat with
  | zero => simp
  | succ m ih => rw [List.replicate_succ, List.flatten_cons, List.length_append, ih, Nat.succ_mul]; omega
theorem len_app (x y : Str) : (x ++ y).length = x.length + y.length := by rw [len_tl, tl_append, List.length_append, ← len_tl, ← len_tl]
/-- where the text ends, the spaces behind it aside -/
def rend (l : List Nat) : Nat := l.length - (l.reverse.takeWhile (· == 32)).length
theorem rend_le (l : List Nat) : rend l ≤ l.length := Nat.sub_le _ _
theorem tl_rstrip (x : Str) : tl (Txt.rstripChars x " ") = (tl x).take (rend (tl x)) := by
  have c : (Str.ofString " ").cps.contains = fun c => (c == 32) := by
    have e : (Str.ofString " ").cps = #[32] := by decide +kernel
    rw [e]; funext c
    rw [Bool.eq_iff_iff, Array.contains_iff_mem]
    simp
  have hi : stripHi (Str.ofString " ").cps.contains true x (stripLo (Str.ofString " ").cps.contains false x) = rend (tl x) := by
    show x.length - (((tl x).drop 0).reverse.takeWhile _).length = _
    rw [c, List.drop_zero, len_tl]; rfl
  show tl (if stripSame _ _ _ x = true then x else stripped _ _ _ x) = _
  by_cases h : stripSame (Str.ofString " ").cps.contains false true x = true
  · rw [if_pos h]
    have h2 := (Bool.and_eq_true_iff.mp h).2
    rw [hi] at h2
    have : rend (tl x) = x.length := by simpa using h2
    rw [this, len_tl, List.take_length]
  · rw [if_neg h]
    unfold stripped
    rw [hi, tl_strSub]
    show ((tl x).drop 0).take (rend (tl x) - 0) = _
    simp
theorem rend_uniq {l : List Nat} {e : Nat} (h : e ≤ l.length) (h1 : ∀ j, e ≤ j → j < l.length → l[j]? = some 32) (h2 : e = 0 ∨ l[e - 1]? ≠ some 32) : rend l = e := by
  have key : ∀ (m : List Nat), (∀ c ∈ m, c = 32) → ∀ (a : List Nat), (a = [] ∨ a.getLast? ≠ some 32) → ((a ++ m).reverse.takeWhile (· == 32)).length = m.length := by
    intro m hm a ha
    rw [List.reverse_append, List.takeWhile_append_of_pos (by intro c hc; simpa using hm c (by simpa using hc))]
    have : a.reverse.takeWhile (· == 32) = [] := by
      rcases ha with rfl | ha
      · rfl
      · cases e : a.reverse with
        | nil => rfl
        | cons c r =>
          have e2 : a.getLast? = some c := by rw [List.getLast?_eq_head?_reverse, e]; rfl
          rw [e2] at ha
          have : (c == 32) = false := by
            rw [beq_eq_false_iff_ne]
            intro z; exact ha (by rw [z])
          simp [List.takeWhile, this]
    rw [this]; simp
  unfold rend
  have hl : l = l.take e ++ l.drop e := (List.take_append_drop e l).symm
  have k := key (l.drop e) (fun c hc => ?_) (l.take e) ?_
  · rw [← hl] at k
    rw [k, List.length_drop]; omega
  · obtain ⟨j, hj, e1⟩ := List.mem_iff_getElem.mp hc
    rw [List.length_drop] at hj
    have := h1 (e + j) (by omega) (by omega)
    rw [List.getElem_drop] at e1
    rw [List.getElem?_eq_getElem (by omega)] at this
    rw [← e1]; exact Option.some.inj this
  · rcases h2 with rfl | h2
    · exact .inl rfl
    · by_cases e0 : e = 0
      · subst e0; exact .inl rfl
      · refine .inr ?_
        rw [List.getLast?_eq_getElem?, List.length_take, Nat.min_eq_left h, List.getElem?_take_of_lt (by omega)]
        exact h2
theorem join_snoc (y x : Str) {xs : List Str} (h : xs ≠ []) : Str.join y (xs ++ [x]) = Str.join y xs ++ y ++ x := by
  apply ext_tl
  rw [tl_join, tl_append, tl_append, tl_join]
  rw [List.map_append, List.map_singleton]
  have key : ∀ (ps : List (List Nat)) (S p : List Nat), ps ≠ [] → joinL S (ps ++ [p]) = joinL S ps ++ S ++ p := by
    intro ps S p
    induction ps with
    | nil => intro h; exact absurd rfl h
    | cons a r ih =>
      intro _
      cases r with
      | nil => show a ++ (S ++ p) = a ++ S ++ p; rw [List.append_assoc]
      | cons b r =>
        have := ih (by simp)
        show a ++ (S ++ joinL S ((b :: r) ++ [p])) = a ++ (S ++ joinL S (b :: r)) ++ S ++ p
        rw [this]; simp [List.append_assoc]
  exact key _ _ _ (by simpa using h)
theorem join_one (y x : Str) : Str.join y [x] = x := by
  apply ext_tl
  rw [tl_join]; rfl
theorem join_nil (y : Str) : Str.join y [] = Str.empty := by
  apply ext_tl
  rw [tl_join]; rfl
end L2
/-! for x, y, z in zip(list, list, text) -/
namespace L2
open PySem PySem.Spec PyProof.Rows
/-- the lists at a and b as they stand at each turn, the signs of x, in new triples -/
def Itz3 (K : PySem.W.Frag) (a b : Addr) (x : Str) : It :=
  ⟨fun i H => ∃ (xs ys : List V), SqL K H a xs ∧ SqL K H b ys ∧ i < xs.length ∧ i < ys.length ∧ i < x.cps.size,
    fun i H v H' => ∃ (T : Addr) (u w : V) (c : Nat), v = .ref T ∧ H T = none ∧ H' = upd H T (.tup [u, w, .str ⟨#[c]⟩]) ∧ (∀ xs, SqL K H a xs → xs[i]? = some u) ∧ (∀ ys, SqL K H b ys → ys[i]? = some w) ∧ x.cps[i]? = some c,
    fun i H => ∃ xs ys : List V, SqL K H a xs ∧ SqL K H b ys ∧ i = min (min xs.length ys.length) x.cps.size⟩
theorem mem36 {c z TI TO i1 i2 i3 : Addr} (h : c ∈ [z, TO, i1, i2, i3]) : c ∈ [z, TI, TO, i1, i2, i3] := by
  simp only [List.mem_cons, List.not_mem_nil, or_false] at h ⊢
  rcases h with e | e | e | e | e <;> simp [e]
theorem turn_zip3 {P : Program} {w : World} {K : PySem.W.Frag} {elts : List Expr} {kk : Nat} {tpos : Pos} {a b z TI TO i1 i2 i3 : Addr} {x : Str} {t : Tok} (D : ZipSep3 z TI TO i1 i2 i3 [i1, a] [i2, b] [i3]) (na : a ≠ i1) (nb : b ≠ i2) :
    Turn P w K (.Tuple elts kk tpos) (Itz3 K a b x) [z, TI, TO, i1, i2, i3] z (fun i h => IsZip h z TI TO .none ∧ IsTupOf3 h TI (.ref i1) (.ref i2) (.ref i3) ∧ (∃ a1 a2 a3, IsTupOf3 h TO a1 a2 a3) ∧ h.IsListIter i1 a i ∧ h.IsListIter i2 b i ∧ h.IsStrIter i3 (strIterType x) x t i) where
  mem := by simp
  obj := fun i h st c hc => by
    obtain ⟨hz, hTI, ⟨_, _, _, hTO⟩, ⟨o1, e1, _, d1⟩, ⟨o2, e2, _, d2⟩, ⟨o3, e3, _, d3⟩⟩ := st
    have e' : c = z ∨ c = TI ∨ c = TO ∨ c = i1 ∨ c = i2 ∨ c = i3 := by simpa using hc
    rcases e' with q | q | q | q | q | q
    · rw [q]; exact ⟨_, hz, fun v q => nomatch q⟩
    · rw [q]; exact ⟨_, hTI, fun v q => nomatch q⟩
    · rw [q]; exact ⟨_, hTO, fun v q => nomatch q⟩
    · rw [q]; exact ⟨o1, e1, fun v q => by rw [d1] at q; cases q⟩
    · rw [q]; exact ⟨o2, e2, fun v q => by rw [d2] at q; cases q⟩
    · rw [q]; exact ⟨o3, e3, fun v q => by rw [d3] at q; cases q⟩
  keep := fun i h h' st k => by
    obtain ⟨hz, hTI, ⟨a1, a2, a3, hTO⟩, h1, h2, ⟨o3, e3, d3⟩⟩ := st
    exact ⟨k z (by simp) _ hz, k TI (by simp) _ hTI, ⟨a1, a2, a3, k TO (by simp) _ hTO⟩, h1.at fun o q => k i1 (by simp) o q, h2.at fun o q => k i2 (by simp) o q, ⟨o3, k i3 (by simp) _ e3, d3⟩⟩
  item := by
    intro X hP hw hK hc i pins s σ H E I hf st hg
    subst hP hw hK
    obtain ⟨hz, hTI, hTO, h1, h2, h3⟩ := st
    obtain ⟨xs, ys, hqx, hqy, hx, hy, hxx⟩ := hg
    obtain ⟨its, rv, p, _⟩ := I.list hqx
    obtain ⟨its2, rv2, p2, _⟩ := I.list hqy
    have l1 := rv.length
    have l2 := rv2.length
    have hh : X.A.in1.handled = none := I.ok.hd hc
    have D1 := Draws.list (prog := X.prog) (w := X.w) hh i1 a na its.toArray
    have D2 := Draws.list (prog := X.prog) (w := X.w) hh i2 b nb its2.toArray
    have D3 := Draws.text (prog := X.prog) (w := X.w) hh i3 x t
    have T3 := WalksT.zipD3 (A := X.A) D D1 D2 D3
    refine wpAny_mono (T3.item i s (fun r s1 => ∃ u, r = some u ∧ wpAny (model X.prog X.w) X.A (letOwnedTupleGo (.Tuple elts kk tpos) (.ref z) u) (fun _ s2 => ∃ x_1 H', Inv X pins σ H' s2 ∧ RelV x_1 u ∧ (Itz3 X.K a b x).yld i H x_1 H' ∧
      (IsZip s2.heap z TI TO .none ∧ IsTupOf3 s2.heap TI (.ref i1) (.ref i2) (.ref i3) ∧ (∃ a1 a2 a3, IsTupOf3 s2.heap TO a1 a2 a3) ∧ s2.heap.IsListIter i1 a (i + 1) ∧ s2.heap.IsListIter i2 b (i + 1) ∧ s2.heap.IsStrIter i3 (strIterType x) x t (i + 1)) ∧ ∀ b ∈ [z, TI, TO, i1, i2, i3], H' b = none) E s1) E ?_ ⟨hz, hTI, hTO, ⟨h1, p.isList⟩, ⟨h2, p2.isList⟩, h3⟩ fun T vals h' tk ⟨u1, u2, u3, y1, y2, ⟨c, tc, y3, y3'⟩, ev⟩ hge hT mid hk => ⟨_, rfl, ?_⟩) (fun _ _ q => q) fun _ _ q => q
    · simp; omega
    subst ev y3'
    have ap := T3.apart _ _ _ mid
    refine T3.go elts kk tpos i T { s with heap := h', toks := tk } _ _ mid fun h'' st'' hk'' => ?_
    obtain ⟨hz', hTI', hTO', ⟨h1', _⟩, ⟨h2', _⟩, h3'⟩ := st''
    obtain ⟨u, hu, ru⟩ := rv.get (i := i) (List.getElem?_eq_getElem hx)
    obtain ⟨v, hv, rv'⟩ := rv2.get (i := i) (List.getElem?_eq_getElem hy)
    obtain rfl : u = u1 := by
      have : its[i]? = some u1 := by simpa using y1
      rw [hu] at this; exact Option.some.inj this
    obtain rfl : v = u2 := by
      have : its2[i]? = some u2 := by simpa using y2
      rw [hv] at this; exact Option.some.inj this
    have hT2 : h''.IsTuple T #[u, v, .str ⟨#[c]⟩ tc] := hT.at fun o e => hk'' T o ap e
    have hk2 : ∀ b o, b ∉ [z, TO, i1, i2, i3] → s.heap.get? b = some o → h''.get? b = some o := fun b o hb e => hk'' b o hb (hk b o hb e)
    have new : ObjOk X.prog X.w (upd H T (.tup [xs[i], ys[i], .str ⟨#[c]⟩])) h'' T (.tup [xs[i], ys[i], .str ⟨#[c]⟩]) :=
      ⟨by show 3 ≤ sizeLine; decide, [u, v, .str ⟨#[c]⟩ tc], .cons ru (.cons rv' (.cons ⟨tc, rfl⟩ .nil)), hT2⟩
    have I1 : Inv X pins σ (upd H T (.tup [xs[i], ys[i], .str ⟨#[c]⟩])) { s with heap := h'', toks := tk } :=
      I.turnedNew (ch := [z, TI, TO, i1, i2, i3]) (fun c o hb q => hk2 c o (fun z => hb (mem36 z)) q) hf hge new
    refine ⟨.ref T, _, I1, rfl, ⟨T, xs[i], ys[i], c, rfl, I.hok.fresh hge, rfl, fun l hl => by rw [I.list_inj hl hqx]; exact List.getElem?_eq_getElem hx, fun l hl => by rw [I.list_inj hl hqy]; exact List.getElem?_eq_getElem hy, y3⟩, ⟨hz', hTI', hTO', h1', h2', h3'⟩, fun c hcm => ?_⟩
    have hlt : c < s.heap.objs.size := by
        have e' : c = z ∨ c = TI ∨ c = TO ∨ c = i1 ∨ c = i2 ∨ c = i3 := by simpa using hcm
        rcases e' with q | q | q | q | q | q
        · rw [q]; exact Heap.lt_size hz
        · rw [q]; exact Heap.lt_size hTI
        · rw [q]; obtain ⟨_, _, _, e⟩ := hTO; exact Heap.lt_size e
        · rw [q]; obtain ⟨_, e1, _⟩ := h1; exact Heap.lt_size e1
        · rw [q]; obtain ⟨_, e1, _⟩ := h2; exact Heap.lt_size e1
        · rw [q]; obtain ⟨_, e1, _⟩ := h3; exact Heap.lt_size e1
    rw [upd_ne (Nat.ne_of_lt (Nat.lt_of_lt_of_le hlt hge))]
    exact (hf c hcm).1
  done := by
    intro X hP hw hK hc i pins s σ H E I hf st hg
    subst hP hw hK
    obtain ⟨hz, hTI, hTO, h1, h2, h3⟩ := st
    obtain ⟨xs, ys, hqx, hqy, hend⟩ := hg
    obtain ⟨its, rv, p, _⟩ := I.list hqx
    obtain ⟨its2, rv2, p2, _⟩ := I.list hqy
    have l1 := rv.length
    have l2 := rv2.length
    have hh : X.A.in1.handled = none := I.ok.hd hc
    have D1 := Draws.list (prog := X.prog) (w := X.w) hh i1 a na its.toArray
    have D2 := Draws.list (prog := X.prog) (w := X.w) hh i2 b nb its2.toArray
    have D3 := Draws.text (prog := X.prog) (w := X.w) hh i3 x t
    have T3 := WalksT.zipD3 (A := X.A) D D1 D2 D3
    have ei : i = min (min its.toArray.size its2.toArray.size) x.cps.size := by simp; omega
    refine T3.done s _ E (by rw [← ei]; exact ⟨hz, hTI, hTO, ⟨h1, p.isList⟩, ⟨h2, p2.isList⟩, h3⟩) fun h' tk hk => ⟨rfl, I.turnedL (ch := [z, TI, TO, i1, i2, i3]) (fun c o hb q => hk c o (fun z => hb (mem36 z)) q) hf⟩
  self := fun A i s Q E st h => wpAny_pyIter_zip st.1 h
def zp3 (K : PySem.W.Frag) (vs : List V) (H : Hp) (R : It → Hp → Prop) : Prop := ∃ (a b : Addr) (x : Str) (xs ys : List V), vs = [.ref a, .ref b, .str x] ∧ SqL K H a xs ∧ SqL K H b ys ∧ R (Itz3 K a b x) H
def iZip3 (K : PySem.W.Frag) (ta : TA) : TI := fun σ H R => ta σ H fun vs H1 => zp3 K vs H1 R
theorem pi_zip3 {X : Cx} {e e2 e3 : Expr} {ta : TA} {p pos tpos : Pos} {elts : List Expr} {kk : Nat} (hg : Gl X "zip") (hm : X.mg "zip" = none) (ha : PA X [e, e2, e3] ta)
    (hs : starEach [e, e2, e3] X.env = (false, eval e X.env) :: starEach [e2, e3] X.env := by rfl) (hpl : (backTo pos (starEach [e2, e3] X.env)).any (·.1) = false := by rfl) :
    PI X (.Tuple elts kk tpos) (.Call (.Name "zip" p) [e, e2, e3] [] pos) (iZip3 X.K ta) := by
  refine ⟨fun pins s σ H R I h => ?_⟩
  refine Call_ (ld_blt I hg hm PyProof.Rows.boot_zip (PyProof.Rows.callWith_type1 (thn (ha.run pos pins s σ H _ I h) fun us s1 ⟨vs, H1, I1, r1, q1⟩ => ?_) hs hpl))
  obtain ⟨a, b, x, xs, ys, ex, hqx, hqy, q⟩ := q1
  subst ex
  cases r1 with
  | cons r rr =>
    cases rr with
    | cons r' rr =>
      cases rr with
      | cons r'' rr =>
      cases rr
      cases r
      cases r'
      obtain ⟨t, rfl⟩ := r''
      obtain ⟨its, rv, p1, _⟩ := I1.list hqx
      obtain ⟨its2, rv2, p2, _⟩ := I1.list hqy
      have la : a < s1.heap.objs.size := p1.lt
      have lb : b < s1.heap.objs.size := p2.lt
      refine zip_begins3 (begins_list a its.toArray) (begins_list b its2.toArray) (begins_text x t) p1.isList p2.isList trivial fun h' hz hTI hTO e1 e2 e3 hsz hk => wpAny_pyIter_zip hz ?_
      have I2 : Inv X pins σ H1 { s1 with heap := h' } := I1.kept (t' := s1.toks) hk
      have SP := zip_sep3 (N := s1.heap.objs.size) (fp1 := [a]) (fp2 := [b]) (fp3 := []) (by simpa using la) (by simpa using lb) (by simp)
      refine ⟨s1.heap.objs.size + 5, [s1.heap.objs.size + 5, s1.heap.objs.size + 3, s1.heap.objs.size + 4, s1.heap.objs.size, s1.heap.objs.size + 1, s1.heap.objs.size + 2], _, _, H1, rfl, I2, turn_zip3 (t := t) SP (Nat.ne_of_lt la) (Nat.ne_of_lt (Nat.lt_succ_of_lt lb)), ⟨hz, hTI, ⟨_, _, _, hTO⟩, ⟨_, e1, rfl, rfl⟩, ⟨_, e2, rfl, rfl⟩, ⟨_, e3, rfl, rfl⟩⟩, fun c hcm => ?_, q⟩
      have e' : c = s1.heap.objs.size + 5 ∨ c = s1.heap.objs.size + 3 ∨ c = s1.heap.objs.size + 4 ∨ c = s1.heap.objs.size ∨ c = s1.heap.objs.size + 1 ∨ c = s1.heap.objs.size + 2 := by simpa using hcm
      have hle : s1.heap.objs.size ≤ c := by
        rcases e' with z | z | z | z | z | z
        · rw [z]; exact Nat.le_add_right _ _
        · rw [z]; exact Nat.le_add_right _ _
        · rw [z]; exact Nat.le_add_right _ _
        · rw [z]; exact Nat.le_refl _
        · rw [z]; exact Nat.le_add_right _ _
        · rw [z]; exact Nat.le_add_right _ _
      exact I1.fpOk hle (I1.hok.fresh hle)
theorem s_zip3 {K : PySem.W.Frag} {tr : TA} {σ : L2.St} {H : Hp} {R : It → Hp → Prop} : iZip3 K tr σ H R = tr σ H (fun vs H1 => zp3 K vs H1 R) := rfl
end L2
/-! The rules within a comprehension: the written part by its own name. -/
namespace L2
open PySem PySem.Spec PyProof.Rows
section
variable {X : Cx} {K : PySem.W.Frag}
theorem opK {op : Value → Value → Sem Value} {r : PySem.W.Frag → R2} (h : OpR X op (r X.K)) (e : X.K = K) : OpR X op (r K) := e ▸ h
theorem ixK {r : PySem.W.Frag → R2} (h : IxR X (r X.K)) (e : X.K = K) : IxR X (r K) := e ▸ h
theorem calK {f : Value} {r : PySem.W.Frag → List V → Hp → VK → Prop} (h : CallR X f (r X.K)) (e : X.K = K) : CallR X f (r K) := e ▸ h
theorem slK {r : PySem.W.Frag → V → Option Int → Option Int → Hp → VK → Prop} (h : SlR X (r X.K)) (e : X.K = K) : SlR X (r K) := e ▸ h
end
end L2
/-! Comprehensions whose elements change nothing that stood. -/
namespace L2
open PySem PySem.Spec PyProof.Rows
section
variable {K : PySem.W.Frag} {te : TE} {g : TG} {σ : St} {H : Hp} {Q : VK} {vs : List Nat}
theorem lc_step {f : Nat → V} {i : Nat} {L : Addr} {H' H4 : Hp} (hL : H L = none) (s1 : Same H H') (e : H' L = some (.lst ((List.range i).map f))) (hi : i < 100000) (s2 : Same H' H4) :
    ∃ acc, H4 L = some (.lst acc) ∧ acc.length < sizeLine ∧ (H L = none ∧ Same H (upd H4 L (.lst (acc ++ [f i]))) ∧ (upd H4 L (.lst (acc ++ [f i]))) L = some (.lst ((List.range (i + 1)).map f))) := by
  refine ⟨_, s2 _ _ e, by rw [List.length_map, List.length_range]; exact small1000' (by omega), hL, fun b o z => ?_, ?_⟩
  · rw [upd_ne (ne_of_none z hL)]
    exact s2 _ _ (s1 _ _ z)
  · rw [upd_same, List.range_succ, List.map_append]; rfl
theorem w_lcLf {a : Addr} {xs : List V} (f : Nat → V) (hS : SqL K H a xs) (hz : xs.length ≤ 100000)
    (hs : ∀ i x H' (N : VK), xs[i]? = some x → Same H H' → (∀ H4, Same H' H4 → N (f i) H4) → g x (wipe σ vs) H' fun σ2 H2 => wipe σ2 vs = wipe σ vs ∧ te σ2 H2 N)
    (hd : ∀ L H', Same H H' → H L = none → H' L = some (.lst ((List.range xs.length).map f)) → Q (.ref L) H') : lcJ (Itl K a) g tYes te vs σ Q H := by
  refine w_lcL (fun L i H' => H L = none ∧ Same H H' ∧ H' L = some (.lst ((List.range i).map f))) (fun L hL => ⟨hL, (W.start.new hL).fr, upd_same⟩) (fun L i H' _ p => p.2.1.seq hS) (fun L i x H' hx p => ?_) (fun L H' hL p => hd L H' p.2.1 p.1 p.2.2)
  have hi : i < xs.length := (List.getElem?_eq_some_iff.mp hx).1
  exact hs i x H' _ hx p.2.1 fun H4 s => lc_step p.1 p.2.1 p.2.2 (by omega) s
theorem w_lcRf {lo : Int} {n : Nat} (f : Nat → V) (hz : n ≤ 100000)
    (hs : ∀ (i : Nat) H' (N : VK), i < n → Same H H' → (∀ H4, Same H' H4 → N (f i) H4) → g (.int (lo + i)) (wipe σ vs) H' fun σ2 H2 => wipe σ2 vs = wipe σ vs ∧ te σ2 H2 N)
    (hd : ∀ L H', Same H H' → H L = none → H' L = some (.lst ((List.range n).map f)) → Q (.ref L) H') : lcJ (Itr lo n) g tYes te vs σ Q H := by
  refine w_lcR (fun L i H' => H L = none ∧ Same H H' ∧ H' L = some (.lst ((List.range i).map f))) (fun L hL => ⟨hL, (W.start.new hL).fr, upd_same⟩) (fun L i H' hi p => ?_) (fun L H' hL p => hd L H' p.2.1 p.1 p.2.2)
  exact hs i H' _ hi p.2.1 fun H4 s => lc_step p.1 p.2.1 p.2.2 (by omega) s
theorem w_lc3f {a b : Addr} {x : Str} {xs ys : List V} {p q r : Nat} (f : Nat → V) (hS : SqL K H a xs) (hS2 : SqL K H b ys) (e1 : ys.length = xs.length) (e2 : x.cps.size = xs.length) (hz : xs.length ≤ 100000)
    (hs : ∀ i u w c H' (N : VK), xs[i]? = some u → ys[i]? = some w → x.cps[i]? = some c → Same H H' → (∀ H4, Same H' H4 → N (f i) H4) →
      wipe ((((wipe σ vs).set p (some u)).set q (some w)).set r (some (.str ⟨#[c]⟩))) vs = wipe σ vs ∧ te ((((wipe σ vs).set p (some u)).set q (some w)).set r (some (.str ⟨#[c]⟩))) H' N)
    (hd : ∀ L H', Same H H' → H L = none → H' L = some (.lst ((List.range xs.length).map f)) → Q (.ref L) H') : lcJ (Itz3 K a b x) (gTup K 3 (gCons (gName p) (gCons (gName q) (gCons (gName r) gNil)))) tYes te vs σ Q H := by
  intro D hD
  refine ⟨fun i m H' => m = xs.length - i ∧ i ≤ xs.length ∧ (H D = none ∧ Same H H' ∧ H' D = some (.lst ((List.range i).map f))), ⟨xs.length, by simp, Nat.zero_le _, hD, (W.start.new hD).fr, upd_same⟩, ?_⟩
  rintro i m H1 ⟨rfl, hi, hD0, s1, e⟩
  have hX := s1.seq hS
  have hY := s1.seq hS2
  by_cases hlt : i < xs.length
  · refine .inr ⟨⟨xs, ys, hX, hY, hlt, by omega, by omega⟩, fun H' => H D = none ∧ Same H H' ∧ H' D = some (.lst ((List.range (i + 1)).map f)), fun H' p' => ⟨xs.length - (i + 1), by omega, rfl, hlt, p'⟩, fun v H' y => ?_⟩
    obtain ⟨T, u, w, c, rfl, hT, rfl, y1, y2, y3⟩ := y
    have sm : Same H1 (upd H1 T (.tup [u, w, .str ⟨#[c]⟩])) := fun b o e => by rw [upd_ne (ne_of_none e hT)]; exact e
    refine ⟨T, _, rfl, SqT.of upd_same, rfl, u, _, rfl, w, _, rfl, _, [], rfl, rfl, ?_⟩
    have := hs i u w c _ (fun y H4 => ∃ acc, H4 D = some (.lst acc) ∧ acc.length < sizeLine ∧ (H D = none ∧ Same H (upd H4 D (.lst (acc ++ [y]))) ∧ (upd H4 D (.lst (acc ++ [y]))) D = some (.lst ((List.range (i + 1)).map f)))) (y1 _ hX) (y2 _ hY) y3 (s1.trans sm) fun H4 s => lc_step hD0 (s1.trans sm) (sm _ _ e) (by omega) s
    exact this
  · have e' : i = xs.length := by omega
    subst e'
    exact .inl ⟨⟨xs, ys, hX, hY, by omega⟩, hd D H1 s1 hD0 e⟩
end
end L2
/-! Comprehensions whose elements are new things; nested lists as data. -/
namespace L2
open PySem PySem.Spec PyProof.Rows TL
section
variable {K : PySem.W.Frag} {te : TE} {g : TG} {σ : St} {H : Hp} {Q : VK} {vs : List Nat}
theorem w_lcNew {a : Addr} {xs : List V} (ob : Nat → HO) (hS : SqL K H a xs) (hz : xs.length ≤ 100000)
    (hs : ∀ i x H' (N : VK), xs[i]? = some x → Same H H' → (∀ l H4, Same H' H4 → H' l = none → H4 l = some (ob i) → N (.ref l) H4) → g x (wipe σ vs) H' fun σ2 H2 => wipe σ2 vs = wipe σ vs ∧ te σ2 H2 N)
    (hd : ∀ L H' (bs : List Addr), Same H H' → H L = none → H' L = some (.lst (bs.map V.ref)) → bs.length = xs.length → (∀ (j : Nat) (b : Addr), bs[j]? = some b → H b = none ∧ b ≠ L ∧ H' b = some (ob j)) → bs.Nodup → Q (.ref L) H') : lcJ (Itl K a) g tYes te vs σ Q H := by
  refine w_lcL (fun L i H' => H L = none ∧ Same H H' ∧ ∃ bs : List Addr, H' L = some (.lst (bs.map V.ref)) ∧ bs.length = i ∧ (∀ (j : Nat) (b : Addr), bs[j]? = some b → H b = none ∧ b ≠ L ∧ H' b = some (ob j)) ∧ bs.Nodup)
    (fun L hL => ⟨hL, (W.start.new hL).fr, [], upd_same, rfl, fun j b e => by simp at e, List.nodup_nil⟩) (fun L i H' _ p => p.2.1.seq hS) (fun L i x H' hx p => ?_) (fun L H' hL p => ?_)
  · have hi : i < xs.length := (List.getElem?_eq_some_iff.mp hx).1
    obtain ⟨hL, s1, bs, e1, e2, e3, e4⟩ := p
    refine hs i x H' _ hx s1 fun l H4 s2 hl hl4 => ?_
    have ne : l ≠ L := fun z => by rw [z, e1] at hl; cases hl
    have hl0 : H l = none := s1.free hl
    refine ⟨_, s2 _ _ e1, by rw [List.length_map]; exact small1000' (by omega), hL, fun b o z => ?_, bs ++ [l], ?_, by simp [e2], fun j b hb => ?_, ?_⟩
    · rw [upd_ne (ne_of_none z hL)]
      exact s2 _ _ (s1 _ _ z)
    · rw [upd_same, List.map_append]; rfl
    · by_cases hj : j < bs.length
      · rw [List.getElem?_append_left hj] at hb
        obtain ⟨h1, h2, h3⟩ := e3 j b hb
        exact ⟨h1, h2, by rw [upd_ne h2]; exact s2 _ _ h3⟩
      · rw [List.getElem?_append_right (by omega)] at hb
        have hj' : j - bs.length = 0 := by
          have := (List.getElem?_eq_some_iff.mp hb).1
          simp at this; omega
        rw [hj'] at hb
        cases Option.some.inj hb
        have : j = i := by omega
        subst this
        exact ⟨hl0, ne, by rw [upd_ne ne]; exact hl4⟩
    · rw [List.nodup_append]
      refine ⟨e4, by simp, fun b hb c hc => ?_⟩
      have hc' : c = l := by simpa using hc
      subst hc'
      obtain ⟨j, hj, e⟩ := List.mem_iff_getElem.mp hb
      obtain ⟨_, _, h3⟩ := e3 j b (by rw [List.getElem?_eq_getElem hj, e])
      intro z
      rw [z, hl] at h3; cases h3
  · obtain ⟨_, s1, bs, e1, e2, e3, e4⟩ := p
    exact hd L H' bs s1 hL e1 e2 e3 e4
end
section
variable {K : PySem.W.Frag} {H : Hp}
/-- lists of lists of texts as data -/
abbrev dS (r : List Str) : PyData := .list (r.map PyData.str)
theorem Dp.strL {a : Addr} {ns : List Str} (h : SqL K H a (ns.map V.str)) : Dp K H (.ref a) (dS ns) := .lst h (DpAll.strs ns)
theorem dpAll_of {α : Type} (d : α → PyData) : ∀ {as : List Addr} {rs : List α}, as.length = rs.length → (∀ (i : Nat) (a : Addr) (r : α), as[i]? = some a → rs[i]? = some r → Dp K H (.ref a) (d r)) → DpAll K H (as.map V.ref) (rs.map d)
  | [], [], _, _ => .nil
  | a :: as, r :: rs, h, k => .cons (k 0 a r rfl rfl) (dpAll_of d (by simpa using h) fun i a r h1 h2 => k (i + 1) a r (by simpa using h1) (by simpa using h2))
  | [], _ :: _, h, _ => by simp at h
  | _ :: _, [], h, _ => by simp at h
theorem fits_dS {n : Nat} {r : List Str} (h : r.length ≤ 100000) : fits (n + 1) (dS r) := by
  refine ⟨by rw [List.length_map]; exact h, fun d hd => ?_⟩
  obtain ⟨x, _, rfl⟩ := List.mem_map.mp hd
  cases n <;> trivial
end
/-- an if whose ways meet again, not opened by the walk: w_ifJ -/
def tIfJ (c : TT) (t u : TS) : TS := tIfS c t u
theorem ps_ifJ {X : Cx} {c : Expr} {th el : List Stmt} {pos : Pos} {tt : TT} {t u : TS} (h : PS X (.If c th el pos) (tIfS tt t u)) : PS X (.If c th el pos) (tIfJ tt t u) := h
theorem w_ifJ {c : TT} {t u : TS} {D : Ends} {σ : St} {H : Hp} (J : St → Hp → Prop) (hJ : ∀ σ H, J σ H → D.nx σ H) (h : ∀ nx : St → Hp → Prop, (∀ σ H, J σ H → nx σ H) → tIfS c t u { D with nx := nx } σ H) : tIfJ c t u D σ H := h D.nx hJ
theorem w_orA {tB' : TT} {σ : St} {QT : Bool → Hp → Prop} {b : Bool} {H : Hp} (hall : ∀ b, QT b H) (h2 : (∀ b, QT b H) → tB' σ H QT) : oB tB' σ QT b H := by
  cases b with
  | true => exact hall true
  | false => exact h2 hall
theorem joinL_nil : ∀ ps : List (List Nat), joinL [] ps = ps.flatten
  | [] => rfl
  | [p] => by simp [joinL]
  | p :: q :: r => by
    have := joinL_nil (q :: r)
    show p ++ ([] ++ joinL [] (q :: r)) = _
    rw [this]; simp
theorem join0_len {ys : List Str} (h : ∀ y ∈ ys, y.length = 1) : (Str.join "" ys).length = ys.length := by
  rw [len_tl, tl_join]
  have e : tl ("" : Str) = [] := by decide +kernel
  rw [e, joinL_nil]
  induction ys with
  | nil => rfl
  | cons y ys ih =>
    have h1 := h y List.mem_cons_self
    have h2 := ih fun y hy => h y (List.mem_cons_of_mem _ hy)
    rw [len_tl] at h1
    simp only [List.map_cons, List.flatten_cons, List.length_append, List.length_cons, h1, h2]
    omega
theorem one_sign (c : Nat) : (⟨#[c]⟩ : Str).length = 1 := rfl
end L2
/-! Own classes: __iter__ that hands out a tuple's iterator, __len__. -/
namespace L2
open PySem PySem.Spec PyProof.Rows
/-- a def's promise that may speak of the heap's size at the call -/
structure FnN (P : Program) (w : World) (K : PySem.W.Frag) (mg : Str → Option Value) (base : Heap) (CX : CXT) (k : Nat) (f : Addr) (fd : FuncData) (ps : List Str) (sp : Nat → Sp) : Prop where
  len : ∀ n vs H Q E, sp n vs H Q E → vs.length = ps.length
  run : ∀ (A : Around) (outer : List Env) (s : Shared) (H : Hp) (args : Args) (us : List Value) (vs : List V) (Q : VK) (E : XK), Room k A → Env0 P w K mg base A outer s H → BindsTo s fd args (ps.zip us) → Vals vs us → sp s.heap.objs.size vs H Q E →
    codeAny (model P w) A (.call (.ref f) args) (CR CX outer P w H s Q E) s
theorem fn_ofN {CX : CXT} {P : Program} {w : World} {K : PySem.W.Frag} {mg : Str → Option Value} {base : Heap} {k : Nat} {f : Addr} {name qual : Str} {params : Arguments} {body : List Stmt} {scope : Scope} {dV kV doc pm cdv ct oc : Value} {an od : Option Addr}
    {osl : Array (Option Value)} {N ps : List Str} {sp : Nat → Sp} (lk : K.lookup f = some ⟨oc, od, .func (PySem.W.fnOf name qual params body scope dV kV doc pm an cdv ct), osl⟩) (hcd : PySem.W.codeIn K cdv qual = true) (S : FnScope N ps scope)
    (len : ∀ n vs H Q E, sp n vs H Q E → vs.length = ps.length)
    (hbody : ∀ (A : Around) (outer : List Env) (s : Shared) (H : Hp) (vs : List V) (Q : VK) (E : XK), Room k (A.deeper (envOfC qual scope s.heap.objs.size f cdv)) → sp s.heap.objs.size vs H Q E →
      ∃ t, PSs (cxOf CX P w K mg base N qual scope f cdv A outer s H E) body t ∧ t { nx := fun _ H' => Q .non H', rt := Q } (start N vs) H) :
    FnN P w K mg base CX (k + 1) f (PySem.W.fnOf name qual params body scope dV kV doc pm an cdv ct) ps sp := by
  refine ⟨len, fun A outer s H args us vs Q E hr e0 hb r hsp => ?_⟩
  have hl := len _ _ _ _ _ hsp
  have KX : K.In s.heap := e0.mod.kin.keeps fun b o e => (e0.bs b o e).1
  have lim : s.heap.NoLimit := e0.mod.nolimit.keeps fun b o e => (e0.bs b o e).1
  have hkind : ∀ y ∈ ps.zip us, scope.names.lookup y.1 = some .local ∨ (scope.names.lookup y.1 = some .cell ∧ ((cellsFrom (s.heap.objs.size + 1) scope.names []).lookup y.1).isSome = true) := fun ⟨n, v⟩ hy => by
    rcases S.par n (List.of_mem_zip hy).1 with q | q
    · exact .inl q
    · exact .inr ⟨q, PySem.W.cellsFrom_some _ _ _ (.inl q)⟩
  refine codeAny_call_function hr.depth (KX _ _ lk) rfl S.co S.gen rfl (PySem.W.codeRec_of KX hcd) (hb _ _ _ _ ?_)
  refine wpAny_newFunctionEnv_cells S.kind hkind fun env he s1 x => ?_
  subst he
  refine ⟨lim.keeps x.toInCall.keep, codeAny_func ?_⟩
  obtain ⟨t, ht, hq⟩ := hbody A outer s H vs Q E (hr.deeper _) hsp
  have I : Inv (cxOf CX P w K mg base N qual scope f cdv A outer s H E) [] (start N vs) H s1 := inv_start S hr.hd e0 hl r x
  refine wpAny_mono (ht.run [] s1 (start N vs) H _ I hq) (fun fl s' hs => ?_) fun e s' hs => hs
  have fin : ∀ {σ' : St} {H' : Hp} {v : V} {u : Value}, Inv (cxOf CX P w K mg base N qual scope f cdv A outer s H E) [] σ' H' s' → RelV v u → Q v H' → CE outer P w H s Q u s' :=
    fun {σ' H' v u} J rv q => ⟨v, H', J.os, J.bare, J.base, J.hok, rv, q⟩
  cases fl with
  | ret u =>
    obtain ⟨v, σ', H', J, rv, q⟩ := hs
    exact fin J rv q
  | next =>
    obtain ⟨σ', H', J, q⟩ := hs
    exact fin (v := V.non) (u := Value.none) J rfl q
  | brk =>
    obtain ⟨_, _, _, q⟩ := hs
    exact False.elim q
  | cont =>
    obtain ⟨_, _, _, q⟩ := hs
    exact False.elim q
/-! ### iter(t), t a tuple -/
/-- the iterator of the tuple at t, at its place i -/
def ItTO (t it : Addr) (i : Nat) : HO := .ext fun h => h.IsTupleIter it t i
theorem itTO_ok {P : Program} {w : World} {H : Hp} {h : Heap} {t it : Addr} {i : Nat} (e : h.IsTupleIter it t i) : ObjOk P w H h it (ItTO t it i) := ⟨e, (let ⟨o, ho, _⟩ := e; ⟨o, ho⟩), fun h1 h2 q k => q.at fun o z => k _ z⟩
def rIterT (K : PySem.W.Frag) (n : Nat) : List V → Hp → VK → Prop := fun xs H Q => ∃ (t : Addr) (zs : List V), xs = [.ref t] ∧ SqT K H t zs ∧ ∀ it, H it = none → n ≤ it → Q (.ref it) (upd H it (ItTO t it 0))
theorem call_iterT {X : Cx} : CallR X (.builtin "iter") (rIterT X.K X.s_0.heap.objs.size) := by
  intro pins s σ H xs us Q I r h
  obtain ⟨t, zs, rfl, hq, q⟩ := h
  obtain ⟨u, rfl, ru⟩ := vals1 r
  cases ru
  obtain ⟨its, rv, pl, hz⟩ := I.tuple hq
  refine Calls.call_function_entry (by decide +kernel) (by decide +kernel) PySem.W.kdk_entry_iter (PySem.W.kdk_args_iter _) ?_
  unfold Builtin.«iter»
  refine wpAny_bind (m := someArgs "iter" 1 2 _) (wpAny_of_eq (a := [Value.ref t]) (by first | rfl | kernel_rfl!) ?_)
  show wpAny _ _ (pyIter (.ref t) >>= _) _ _ _
  refine wpAny_bind (wpAny_pyIter_tuple (show s.heap.IsTuple t its.toArray from pl) ?_)
  refine wpAny_pure ⟨_, rfl, ?_⟩
  exact ⟨.ref s.heap.objs.size, _, I.laid (t' := s.toks) (fun b u e => Heap.get?_push_of_some _ e) (Nat.le_refl _) (itTO_ok ⟨_, Heap.get?_push_size _ rfl, rfl, rfl⟩), rfl, q _ (I.hok.fresh (Nat.le_refl _)) I.sz⟩
/-! ### iter(o): o an instance whose __iter__ is `return iter(self.fld)`, fld a tuple -/
structure OwnIt (K : PySem.W.Frag) (C f : Addr) : Prop where
  it : PySem.W.findIn K (.ref C) "__iter__" = some (some (.ref f))
  fn : PySem.W.isFn K (.ref f) = true
def spIt (K : PySem.W.Frag) (C : Addr) (fld : Str) (n : Nat) : Sp := fun vs H Q _ => ∃ (a dx : Addr) (fs : List (Str × V)) (t : Addr) (zs : List V), vs = [.ref a] ∧ H a = some (.ins C dx fs) ∧ fs.lookup fld = some (.ref t) ∧ SqT K H t zs ∧ ∀ it, H it = none → n ≤ it → Q (.ref it) (upd H it (ItTO t it 0))
theorem own_iter {X : Cx} {A1 : Around} {n : Nat} {C fi a dx t : Addr} {fdI : FuncData} {fld : Str} {fs : List (Str × V)} {zs : List V} {pins : List (Addr × Obj)} {σ : St} {H : Hp} {s : Shared} {Qi : Value → Shared → Prop} (sb : L2.Sub X n A1) (hc : OwnIt X.K C fi)
    (FI : FnN X.prog X.w X.K X.mg X.base (CX X.prog X.w) n fi fdI ["self"] (spIt X.K C fld)) (bI : Binds X.K fdI ["self"] []) (I : Inv X pins σ H s) (ha : H a = some (.ins C dx fs)) (hf : fs.lookup fld = some (.ref t)) (hS : SqT X.K H t zs)
    (h : ∀ it s', Inv X pins σ H s' → s'.heap.IsTupleIter it t 0 → FpOk X pins H it → Qi (.ref it) s') : wpAny (model X.prog X.w) A1 (pyIter (.ref a)) Qi X.xe s := by
  obtain ⟨mA, O, _, _, _, _⟩ := ins_get I.hok ha
  obtain ⟨od, J, _⟩ := O.look
  obtain ⟨m, hF⟩ := I.fr
  refine PySem.W.owit_iter hF I.ok.mod.kin J hc.it hc.fn ?_
  have e0 : Env0 X.prog X.w X.K X.mg X.base A1 X.stack s H := by
    have e := I.env0
    exact ⟨by rw [sb.fr]; exact e.frames, e.mod, e.bs, e.bsz, e.funs, e.frf, e.hok, e.bare⟩
  have r2 : Vals [V.ref a] [Value.ref a] := .cons rfl .nil
  have hsp : spIt X.K C fld s.heap.objs.size [.ref a] H (fun v H' => ∃ it, v = .ref it ∧ H it = none ∧ s.heap.objs.size ≤ it ∧ H' = upd H it (ItTO t it 0)) (fun _ _ _ => False) :=
    ⟨a, dx, fs, t, zs, rfl, ha, hf, hS, fun it h1 h2 => ⟨it, rfl, h1, h2, rfl⟩⟩
  refine wpAny_call (codeAny_mono (FI.run A1 X.stack s H ⟨[.ref a], []⟩ [.ref a] [.ref a] _ _ sb.room e0 (by
    have := bI s [.ref a] I.kIn (by rfl)
    simpa using this) r2 hsp) fun r s' hq => ?_)
  cases r with
  | error e => exact passL pins σ H s e s' I hq
  | ok fl =>
    cases fl with
    | ret u =>
      obtain ⟨v, H', I', rv, it, rfl, h1, h2, rfl⟩ := I.after hq
      cases rv
      have ex : (upd H it (ItTO t it 0)) it = some (ItTO t it 0) := upd_same
      have e : s'.heap.IsTupleIter it t 0 := (I'.hok it _ ex).1
      have I2 := ItX.inv_drop I' (φ := fun h => h.IsTupleIter it t 0) ex
      have fp := ItX.inv_fp I' ex (Nat.le_trans I.sz h2)
      rw [ItX.dropH_upd h1] at I2 fp
      obtain ⟨o, ho, hcl, hd⟩ := id e
      show wpAny _ _ (specialOf (.ref it) "__next__") _ _ _
      refine wpAny_specialOf (name := Str.ofString "__next__") (show s'.TypeIs (.ref it) "tuple_iterator" from ⟨o, ho, hcl⟩) PySem.F.slot_tuple_iterator_next.lookup ?_
      exact h it s' I2 e fp
    | next => exact False.elim hq
    | brk => exact False.elim hq
    | cont => exact False.elim hq

end L2
namespace L2
open PySem PySem.Spec PyProof.Rows
section
variable {prog : Program} {w : World} {A : Around} {s : Shared}
theorem enum_new {v : Value} {E : Value → Shared → Prop} {R : Result → Shared → Prop} (h : wpAny (model prog w) A (pyIter v) (fun it s1 => ∃ b, it = .ref b ∧ R (.ok (.ret (.ref s1.heap.objs.size))) { s1 with heap := s1.heap.push { cls := .type "enumerate", data := .fields #[.none, .bool false, .ref b, rawInt 0, .none, .none] } }) E s) :
    wpAny (model prog w) A (Builtin.«enumerate.__new__» ⟨[.type "enumerate", v], []⟩) (fun fin s' => ∃ r, fin = .done r ∧ R (.ok r) s') E s := by
  obtain ⟨hp, g, d, tk, os⟩ := s
  have hsub := sub_enumerate
  have q1 : ∀ {Q' : Value → Shared → Prop} {E' : Value → Shared → Prop}, (∀ e s', E e s' → E' e s') → (∀ b s1, R (.ok (.ret (.ref s1.heap.objs.size))) { s1 with heap := s1.heap.push { cls := .type "enumerate", data := .fields #[.none, .bool false, .ref b, rawInt 0, .none, .none] } } → Q' (.ref b) s1) → wpAny (model prog w) A (pyIter v) Q' E' ⟨hp, g, d, tk, os⟩ :=
    fun a b => wpAny_mono h (fun it s1 ⟨c, e, z⟩ => by subst e; exact b c s1 z) a
  wp_walk using q1
  refine wpAny_stack_any fun st => wpAny_pure ?_
  split
  · rename_i c _ _ _ _ _
    cases (c == Value.type "enumerate")
    · wp_walk using q1
      · exact fun _ _ z => z
      · rintro b ⟨hp1, g1, d1, tk1, os1⟩ hR
        wp_walk
        exact ⟨_, rfl, hR⟩
    · wp_walk using q1
      · exact fun _ _ z => z
      · rintro b ⟨hp1, g1, d1, tk1, os1⟩ hR
        wp_walk
        exact ⟨_, rfl, hR⟩
  · wp_walk using q1
    · exact fun _ _ z => z
    · rintro b ⟨hp1, g1, d1, tk1, os1⟩ hR
      wp_walk
      exact ⟨_, rfl, hR⟩
/-- enumerate(v): what iter(v) gives, and the new cell -/
theorem call_enumG {v : Value} {E Q : Value → Shared → Prop} (h : wpAny (model prog w) A.in1.in1 (pyIter v) (fun it s1 => ∃ b, it = .ref b ∧ ∀ h', IsEnum h' s1.heap.objs.size b 0 .none → h'.objs.size = s1.heap.objs.size + 1 →
      (∀ c o, s1.heap.get? c = some o → h'.get? c = some o) → Q (.ref s1.heap.objs.size) { s1 with heap := h' }) E s) : wpAny (model prog w) A (call (.type "enumerate") [v]) Q E s := by
  refine callType_codes (Q₁ := fun obj s₁ => s₁.TypeIs obj "enumerate" ∧ Q obj s₁) F.called_enumerate (F.typeCall_enumerate_1 _) F.entry_object_init ?_ fun obj s₁ hq => ⟨hq.1, F.args_object_init_2 obj _, ?_⟩
  · refine codeAny_call_builtin F.called_enumerate.plain F.entry_enumerate_new (wpAny_of_eq (F.newCall_enumerate_1 _) ?_)
    refine wpAny_mono (enum_new (R := wants (fun obj s₁ => s₁.TypeIs obj "enumerate" ∧ Q obj s₁) E) (wpAny_mono h (fun it s1 ⟨b, e, z⟩ => ⟨b, e, ?_⟩) fun _ _ z => z)) (fun fin s' hf => ?_) fun _ _ z => z
    · have g := Heap.get?_push_size s1.heap (o := { cls := .type "enumerate", data := .fields #[.none, .bool false, .ref b, rawInt 0, .none, .none] }) rfl
      exact ⟨⟨_, g, rfl⟩, z _ g (Heap.size_push ..) fun c o q => Heap.get?_push_of_some _ q⟩
    · obtain ⟨r, rfl, hr⟩ := hf
      exact hr
  · exact object_init_meets (newId := "enumerate.__new__") F.called_enumerate.init.lookup F.called_enumerate.made (by decide) prog w A.in1 _ s₁ ⟨hq.1, rfl, hq.2⟩
end
end L2
/-! enumerate of a tuple, of an own instance; for over an own instance. -/
namespace L2
open PySem PySem.Spec PyProof.Rows
def IteT (K : PySem.W.Frag) (a : Addr) : It :=
  ⟨fun i H => ∃ (xs : List V) (x : V), SqT K H a xs ∧ xs[i]? = some x, fun i H v H' => ∃ T x, v = .ref T ∧ H T = none ∧ H' = upd H T (.tup [.int (i : Nat), x]) ∧ ∀ xs, SqT K H a xs → xs[i]? = some x, fun i H => ∃ xs : List V, SqT K H a xs ∧ xs.length = i⟩
theorem turn_enumT {P : Program} {w : World} {K : PySem.W.Frag} {elts : List Expr} {kk : Nat} {tpos : Pos} {a e it : Addr} (nit : a ≠ it) (nea : e ≠ a) :
    Turn P w K (.Tuple elts kk tpos) (IteT K a) [e, it] e (fun i h => (∃ old, IsEnum h e it ((i : Nat) : Int) old) ∧ h.IsTupleIter it a i ∧ e ≠ it) where
  mem := by simp
  obj := fun i h st b hb => by
    obtain ⟨⟨old, he⟩, ⟨o, ho, hc, hd⟩, _⟩ := st
    have e' : b = e ∨ b = it := by simpa using hb
    rcases e' with z | z
    · rw [z]; exact ⟨_, he, fun v q => nomatch q⟩
    · rw [z]; exact ⟨o, ho, fun v q => by rw [hd] at q; cases q⟩
  keep := fun i h h' st k => let ⟨⟨old, he⟩, hi, hne⟩ := st; ⟨⟨old, k e (by simp) _ he⟩, hi.at fun o q => k it (by simp) o q, hne⟩
  item := by
    intro X hP hw hK hc i pins s σ H E I hf st hg
    subst hP hw hK
    obtain ⟨he, hit, hne⟩ := st
    obtain ⟨xs, x, hq, hx⟩ := hg
    obtain ⟨its, rv, p, hz⟩ := I.tuple hq
    obtain ⟨u, hu, ru⟩ := rv.get hx
    have l1 := rv.length
    have hlt : i < xs.length := (List.getElem?_eq_some_iff.mp hx).1
    have hh : X.A.in1.handled = none := I.ok.hd hc
    have D1 := Draws.tuple (prog := X.prog) (w := X.w) hh it a nit its.toArray
    have T2 := WalksT.enumerateD (A := X.A) D1 e hne (by simp; exact ⟨hne, nea⟩) (by simp)
    have hel : e < s.heap.objs.size := by obtain ⟨_, q⟩ := he; exact Heap.lt_size q
    have hil : it < s.heap.objs.size := by obtain ⟨_, q, _⟩ := hit; exact Heap.lt_size q
    refine T2.item i s _ E (by simp; omega) ⟨he, hit, show s.heap.IsTuple a its.toArray from p⟩ fun T vals h' tk ⟨t, x1, y1, ev⟩ hge hT mid hk => ⟨_, rfl, ?_⟩
    subst ev
    have ap := T2.apart _ _ _ mid
    refine T2.go elts kk tpos i T { s with heap := h', toks := tk } _ _ mid fun h'' st'' hk'' => ?_
    obtain ⟨he', hit', _⟩ := st''
    obtain rfl : u = x1 := by
      have : its[i]? = some x1 := by simpa using y1
      rw [hu] at this; exact Option.some.inj this
    have hT2 : h''.IsTuple T #[.int i t, u] := hT.at fun o q => hk'' T o ap q
    have hk2 : ∀ b o, b ∉ [e, it] → s.heap.get? b = some o → h''.get? b = some o := fun b o hb q => hk'' b o hb (hk b o hb q)
    have new : ObjOk X.prog X.w (upd H T (.tup [.int (i : Nat), x])) h'' T (.tup [.int (i : Nat), x]) :=
      ⟨by show 2 ≤ sizeLine; decide, [.int i t, u], .cons ⟨_, rfl⟩ (.cons ru .nil), hT2⟩
    have I1 : Inv X pins σ (upd H T (.tup [.int (i : Nat), x])) { s with heap := h'', toks := tk } := I.turnedNew (ch := [e, it]) hk2 hf hge new
    refine ⟨.ref T, _, I1, rfl, ⟨T, x, rfl, I.hok.fresh hge, rfl, fun ys hy => by rw [I.tuple_inj hy hq]; exact hx⟩, ⟨by
      have e1 : ((i + 1 : Nat) : Int) = (i : Int) + 1 := by omega
      first
        | exact he'
        | (rw [e1]; exact he'), hit', hne⟩, fun b hb => ?_⟩
    have hb' : b < s.heap.objs.size := by
      have e' : b = e ∨ b = it := by simpa using hb
      rcases e' with z | z
      · rw [z]; exact hel
      · rw [z]; exact hil
    rw [upd_ne (Nat.ne_of_lt (Nat.lt_of_lt_of_le hb' hge))]
    exact (hf b hb).1
  done := by
    intro X hP hw hK hc i pins s σ H E I hf st hg
    subst hP hw hK
    obtain ⟨he, hit, hne⟩ := st
    obtain ⟨xs, hq, hx⟩ := hg
    obtain ⟨its, rv, p, hz⟩ := I.tuple hq
    have l1 := rv.length
    have hh : X.A.in1.handled = none := I.ok.hd hc
    have D1 := Draws.tuple (prog := X.prog) (w := X.w) hh it a nit its.toArray
    have T2 := WalksT.enumerateD (A := X.A) D1 e hne (by simp; exact ⟨hne, nea⟩) (by simp)
    have ei : i = its.toArray.size := by simp; omega
    refine T2.done s _ E (by rw [← ei]; exact ⟨he, hit, show s.heap.IsTuple a its.toArray from p⟩) fun h' tk hk => ⟨rfl, I.turnedL (ch := [e, it]) hk hf⟩
  self := fun A i s Q E st h => let ⟨⟨_, he⟩, _⟩ := st; wpAny_pyIter_enum he h
/-- what enumerate is of: a list, a tuple -/
def enmA (K : PySem.W.Frag) (vs : List V) (H : Hp) (R : It → Hp → Prop) : Prop := ∃ a, vs = [.ref a] ∧ ((∃ xs, SqL K H a xs ∧ R (Ite K a) H) ∨ ∃ xs, SqT K H a xs ∧ R (IteT K a) H)
def iEnumA (K : PySem.W.Frag) (ta : TA) : TI := fun σ H R => ta σ H fun vs H1 => enmA K vs H1 R
theorem pi_enumA {X : Cx} {e : Expr} {ta : TA} {p pos tpos : Pos} {elts : List Expr} {kk : Nat} (hg : Gl X "enumerate") (hm : X.mg "enumerate" = none) (ha : PA X [e] ta) (hs : starEach [e] X.env = [(false, eval e X.env)] := by rfl) :
    PI X (.Tuple elts kk tpos) (.Call (.Name "enumerate" p) [e] [] pos) (iEnumA X.K ta) := by
  refine ⟨fun pins s σ H R I h => ?_⟩
  refine Call_ (ld_blt I hg hm boot_enumerate (PyProof.Rows.callWith_type1 (thn (ha.run pos pins s σ H _ I h) fun us s1 ⟨vs, H1, I1, r1, q1⟩ => ?_) hs rfl))
  obtain ⟨a, ex, q1⟩ := q1
  subst ex
  cases r1 with
  | cons r rr =>
    cases rr
    cases r
    have fpO : ∀ b, b ∈ [s1.heap.objs.size + 1, s1.heap.objs.size] → FpOk X pins H1 b := fun b hb => by
      have e' : b = s1.heap.objs.size + 1 ∨ b = s1.heap.objs.size := by simpa using hb
      have hle : s1.heap.objs.size ≤ b := by
        rcases e' with z | z
        · rw [z]; exact Nat.le_add_right _ _
        · rw [z]; exact Nat.le_refl _
      exact I1.fpOk hle (I1.hok.fresh hle)
    rcases q1 with ⟨xs, hq, q⟩ | ⟨xs, hq, q⟩
    · obtain ⟨its, rv, p', hz⟩ := I1.list hq
      refine call_enumerate_list p'.isList fun h' he hit hsz hk => wpAny_pyIter_enum he ?_
      have I2 : Inv X pins σ H1 { s1 with heap := h' } := I1.kept (t' := s1.toks) hk
      exact ⟨s1.heap.objs.size + 1, [s1.heap.objs.size + 1, s1.heap.objs.size], _, _, H1, rfl, I2, turn_enum a (s1.heap.objs.size + 1) s1.heap.objs.size, ⟨⟨.none, he⟩, hit, Nat.succ_ne_self _⟩, fpO, q⟩
    · obtain ⟨its, rv, p', hz⟩ := I1.tuple hq
      have pt : s1.heap.IsTuple a its.toArray := p'
      have la : a < s1.heap.objs.size := by obtain ⟨o, ho, _⟩ := pt; exact Heap.lt_size ho
      refine call_enumG (wpAny_pyIter_tuple pt ⟨_, rfl, fun h' he hsz hk => wpAny_pyIter_enum he ?_⟩)
      have z1 : (s1.heap.push { cls := .type "tuple_iterator", data := .fields #[.ref a, .int 0 0] }).objs.size = s1.heap.objs.size + 1 := Heap.size_push ..
      rw [z1] at he
      have hit : h'.IsTupleIter s1.heap.objs.size a 0 := ⟨_, hk _ _ (Heap.get?_push_size _ rfl), rfl, rfl⟩
      have I2 : Inv X pins σ H1 { s1 with heap := h' } := I1.kept (t' := s1.toks) fun c o q => hk c o (Heap.get?_push_of_some _ q)
      show PIE X pins σ _ R (.ref (Heap.push s1.heap _).objs.size) _
      rw [z1]
      exact ⟨s1.heap.objs.size + 1, [s1.heap.objs.size + 1, s1.heap.objs.size], _, _, H1, rfl, I2, turn_enumT (Nat.ne_of_lt la) (Nat.ne_of_gt (Nat.lt_succ_of_lt la)), ⟨⟨.none, he⟩, hit, Nat.succ_ne_self _⟩, fpO, q⟩
/-! ### own instances -/
def ownT (K : PySem.W.Frag) (C : Addr) (fld : Str) (x : V) (H : Hp) (t : Addr) : Prop := ∃ (a dx : Addr) (fs : List (Str × V)), x = .ref a ∧ H a = some (.ins C dx fs) ∧ fs.lookup fld = some (.ref t) ∧ ∃ zs, SqT K H t zs
def iEnumO (K : PySem.W.Frag) (C : Addr) (fld : Str) (ta : TA) : TI := fun σ H R => ta σ H fun vs H1 => ∃ x t, vs = [x] ∧ ownT K C fld x H1 t ∧ R (IteT K t) H1
theorem pi_enumO {X : Cx} {n : Nat} {C fi : Addr} {fdI : FuncData} {fld : Str} {e : Expr} {ta : TA} {p pos tpos : Pos} {elts : List Expr} {kk : Nat} (hc : OwnIt X.K C fi)
    (FI : FnN X.prog X.w X.K X.mg X.base (CX X.prog X.w) n fi fdI ["self"] (spIt X.K C fld)) (bI : Binds X.K fdI ["self"] []) (hr : Room (n + 2) X.A) (hg : Gl X "enumerate") (hm : X.mg "enumerate" = none) (ha : PA X [e] ta) (hs : starEach [e] X.env = [(false, eval e X.env)] := by rfl) :
    PI X (.Tuple elts kk tpos) (.Call (.Name "enumerate" p) [e] [] pos) (iEnumO X.K C fld ta) := by
  refine ⟨fun pins s σ H R I h => ?_⟩
  refine Call_ (ld_blt I hg hm boot_enumerate (PyProof.Rows.callWith_type1 (thn (ha.run pos pins s σ H _ I h) fun us s1 ⟨vs, H1, I1, r1, q1⟩ => ?_) hs rfl))
  obtain ⟨x, t, ex, ⟨a, dx, fs, rfl, ha', hf, zs, hS⟩, q⟩ := q1
  subst ex
  cases r1 with
  | cons r rr =>
    cases rr
    cases r
    have sb : L2.Sub X n X.A.in1.in1 := L2.Sub.in1 (L2.Sub.in1 (⟨hr, rfl⟩ : L2.Sub X (n + 2) X.A))
    refine call_enumG (own_iter sb hc FI bI I1 ha' hf hS fun it s2 I2 hit fp => ⟨it, rfl, fun h' he hsz hk => wpAny_pyIter_enum he ?_⟩)
    obtain ⟨its, rv, p', hz⟩ := I2.tuple hS
    have pt : s2.heap.IsTuple t its.toArray := p'
    have la : t < s2.heap.objs.size := by obtain ⟨o, ho, _⟩ := pt; exact Heap.lt_size ho
    have lit : it < s2.heap.objs.size := by obtain ⟨o, ho, _⟩ := hit; exact Heap.lt_size ho
    have nti : t ≠ it := fun z => by
      obtain ⟨o, ho, hcl, _⟩ := hit
      obtain ⟨o2, ho2, hc2, _⟩ := pt
      rw [z, ho] at ho2
      cases ho2
      rw [hcl] at hc2
      exact absurd (Value.type.inj hc2) (by decide)
    have hit' : h'.IsTupleIter it t 0 := hit.at fun o z => hk _ _ z
    have I3 : Inv X pins σ H1 { s2 with heap := h' } := I2.kept (t' := s2.toks) hk
    refine ⟨s2.heap.objs.size, [s2.heap.objs.size, it], _, _, H1, rfl, I3, turn_enumT nti (Nat.ne_of_gt la), ⟨⟨.none, he⟩, hit', Nat.ne_of_gt lit⟩, fun b hb => ?_, q⟩
    have e' : b = s2.heap.objs.size ∨ b = it := by simpa using hb
    rcases e' with z | z
    · rw [z]; exact I2.fpOk (Nat.le_refl _) (I2.hok.fresh (Nat.le_refl _))
    · rw [z]; exact fp
def iOwn (K : PySem.W.Frag) (C : Addr) (fld : Str) (te : TE) : TI := fun σ H R => te σ H fun x H1 => ∃ t, ownT K C fld x H1 t ∧ R (Itt K t) H1
theorem pi_own {X : Cx} {n : Nat} {C fi : Addr} {fdI : FuncData} {fld : Str} {tg e : Expr} {te : TE} (hc : OwnIt X.K C fi)
    (FI : FnN X.prog X.w X.K X.mg X.base (CX X.prog X.w) n fi fdI ["self"] (spIt X.K C fld)) (bI : Binds X.K fdI ["self"] []) (hr : Room n X.A) (he : PE X e te) : PI X tg e (iOwn X.K C fld te) := by
  refine ⟨fun pins s σ H R I h => ?_⟩
  refine thn (he.run pins s σ H _ I h) fun v s1 hh => ?_
  obtain ⟨x, H1, I1, r1, t, ⟨a, dx, fs, rfl, ha', hf, zs, hS⟩, q⟩ := hh
  cases r1
  refine own_iter (⟨hr, rfl⟩ : L2.Sub X n X.A) hc FI bI I1 ha' hf hS fun it s2 I2 hit fp => ?_
  refine ⟨it, [it], _, _, H1, rfl, I2, turn_tuple t it, hit, fun b hb => ?_, q⟩
  have e : b = it := by simpa using hb
  rw [e]; exact fp
end L2
/-! Own classes in short: what making one promises, methods, properties, fields, len. -/
namespace L2
open PySem PySem.Spec PyProof.Rows
/-! ### making: mk tells of the values handed in and the instance, not of its parts -/
def MkAt (P : Program) (w : World) (K : PySem.W.Frag) (mg : Str → Option Value) (base : Heap) (k : Nat) (x : Str) (C : Addr) (mk : Sp) : Prop :=
  mg x = some (.ref C) ∧ ∃ (f : Addr) (fd : FuncData) (ps : List Str) (sp : Sp), Mk K C f ∧ FnOk P w K mg base (CX P w) k f fd ps sp ∧ Binds K fd ps [] ∧
    ∀ vs H Q E, mk vs H Q E → ∀ x dx, H x = none → H dx = none → dx ≠ x → sp (.ref x :: vs) (upd (upd H dx (.own x)) x (.ins C dx [])) (fun v H2 => v = .non ∧ Q (.ref x) H2) E
/-- .. with keyword-only values (all of them written) -/
def MkAtK (P : Program) (w : World) (K : PySem.W.Frag) (mg : Str → Option Value) (base : Heap) (k : Nat) (x : Str) (C : Addr) (n : Nat) (ks : List Str) (mk : Sp) : Prop :=
  mg x = some (.ref C) ∧ ∃ (f : Addr) (fd : FuncData) (ps : List Str) (sp : Sp), Mk K C f ∧ FnOk P w K mg base (CX P w) k f fd ps sp ∧ KBn K fd ps (n + 1) ks (fun us ws => us ++ ws) (fun vs zs => vs ++ zs) ∧
    ∀ vs H Q E, mk vs H Q E → ∀ x dx, H x = none → H dx = none → dx ≠ x → sp (.ref x :: vs) (upd (upd H dx (.own x)) x (.ins C dx [])) (fun v H2 => v = .non ∧ Q (.ref x) H2) E
def tMkK (mk : Sp) (n m : Nat) (E : XK) (t tk : TA) : TE := fun σ H Q => t σ H fun vs H1 => tk σ H1 fun zs H2 => vs.length = n ∧ zs.length = m ∧ mk (vs ++ zs) H2 Q E
section
variable {X : Cx} {k n : Nat} {C : Addr} {x : Str} {mk : Sp} {E : XK} {e : Expr} {es : List Expr} {t tk : TA} {p pos : Pos} {ks : List Str} {kws : List Keyword}
theorem pe_mk (M : MkAt X.prog X.w X.K X.mg X.base k x C mk) (hr : Room (k + 1) X.A) (hx : Passes (L2.CX X.prog X.w) X E) (ha : PA X (e :: es) t) (hg : Gl X x := by rfl) (hdb : (x == ("__debug__" : Str)) = false := by decide)
    (he : starEach (e :: es) X.env = (false, eval e X.env) :: starEach es X.env := by rfl) (hpl : (backTo pos (starEach es X.env)).any (·.1) = false := by rfl) : PE X (.Call (.Name x p) (e :: es) [] pos) (tCall mk [] E t) := by
  obtain ⟨hm, f, fd, ps, sp, M1, F, hb, hmk⟩ := M
  refine ⟨fun pins s σ H Q I h => ?_⟩
  refine wpAny_Call_Name_kw (ld_glob I hg hm ?_ hdb)
  refine PySem.W.callWith_K (h₀ := X.base) I.ok.mod.kin M1.kp (thn (ha.run pos pins s σ H _ I h) fun us s1 ⟨vs, H1, I1, r, q⟩ => ⟨I1.kIn, ?_⟩) he hpl
  refine run_make M1 F hr hb .nil hx I1 r fun x dx h1 h2 h3 => ?_
  have q' : mk (vs ++ []) H1 Q E := q
  rw [List.append_nil] at q' ⊢
  exact hmk _ _ _ _ q' x dx h1 h2 h3
theorem pe_mkK (M : MkAtK X.prog X.w X.K X.mg X.base k x C n ks mk) (hr : Room (k + 1) X.A) (hx : Passes (L2.CX X.prog X.w) X E) (ha : PA X (e :: es) t) (hkw : PK X kws tk) (hg : Gl X x := by rfl)
    (hall : (backToKw pos (keywordEach kws X.env)).all (·.1.isSome) = true := by rfl) (hks : (backToKw pos (keywordEach kws X.env)).filterMap (·.1) = ks := by rfl) (hdb : (x == ("__debug__" : Str)) = false := by decide)
    (he : starEach (e :: es) X.env = (false, eval e X.env) :: starEach es X.env := by rfl) (hpl : ((backTo pos (starEach (e :: es) X.env)).any (·.1) || (backToKw pos (keywordEach kws X.env)).any (·.1.isNone)) = false := by rfl) :
    PE X (.Call (.Name x p) (e :: es) kws pos) (tMkK mk n ks.length E t tk) := by
  obtain ⟨hm, f, fd, ps, sp, M1, F, hb, hmk⟩ := M
  refine ⟨fun pins s σ H Q I h => ?_⟩
  refine wpAny_Call_Name_kw (ld_glob I hg hm ?_ hdb)
  refine PySem.W.callWith_KW (h₀ := X.base) I.ok.mod.kin M1.kp hall (thn (ha.run pos pins s σ H _ I h) fun us s1 ⟨vs, H1, I1, r, q⟩ => ?_) hpl he
  refine thn (hkw.run pos pins s1 σ H1 _ I1 q) fun ws s2 ⟨zs, H2, I2, rz, l1, l2, q2⟩ => ⟨I2.kIn, ?_⟩
  rw [hks]
  exact run_makeK M1 F hr hb hx I2 r rz l1 l2 fun x dx h1 h2 h3 => hmk _ _ _ _ q2 x dx h1 h2 h3
end
theorem s_mkK {mk : Sp} {n m : Nat} {E : XK} {t tk : TA} {σ : St} {H : Hp} {Q : VK} : tMkK mk n m E t tk σ H Q = t σ H (fun vs H1 => tk σ H1 (fun zs H2 => vs.length = n ∧ zs.length = m ∧ mk (vs ++ zs) H2 Q E)) := rfl
/-! ### methods -/
def MeAt (P : Program) (w : World) (K : PySem.W.Frag) (mg : Str → Option Value) (base : Heap) (k : Nat) (C : Addr) (m : Str) (ps : List Str) (sp : Sp) : Prop :=
  Cls K C ∧ ∃ (f : Addr) (fd : FuncData), Meth K C m f ∧ FnOk P w K mg base (CX P w) k f fd ps sp ∧ Binds K fd ps []
section
variable {X : Cx} {k : Nat} {C : Addr} {m : Str} {ps : List Str} {sp : Sp} {E : XK} {o e : Expr} {es : List Expr} {ta : TE} {t : TA} {apos pos : Pos}
theorem pe_me {pl : Sem Bool} (M : MeAt X.prog X.w X.K X.mg X.base k C m ps sp) (hr : Room k X.A) (hx : Passes (L2.CX X.prog X.w) X E) (he : PE X o ta) (ha : PA X (e :: es) t)
    (hst : starEach (e :: es) X.env = (false, eval e X.env) :: starEach es X.env := by rfl) (hpl : (backTo pos (starEach es X.env)).any (·.1) = false := by rfl)
    (ht : eval (.Call (.Attribute o m apos) (e :: es) [] pos) X.env = (do
      let ov ← eval o X.env
      standAt apos.atName
      let (f, first) ← holding [ov] (getMethod ov m pl)
      callWith pos f first (backTo pos (starEach (e :: es) X.env)) (backToKw pos (keywordEach [] X.env))) := by rfl) :
    PE X (.Call (.Attribute o m apos) (e :: es) [] pos) (tMeth C m sp [] E ta t) := by
  obtain ⟨c, f, fd, hm, F, hb⟩ := M
  exact pe_meth he c hm F hr hb .nil hx ha hst hpl ht
theorem pe_me0 {pl : Sem Bool} (M : MeAt X.prog X.w X.K X.mg X.base k C m ps sp) (hr : Room k X.A) (hx : Passes (L2.CX X.prog X.w) X E) (he : PE X o ta)
    (ht : eval (.Call (.Attribute o m apos) [] [] pos) X.env = (do
      let ov ← eval o X.env
      standAt apos.atName
      let (f, first) ← holding [ov] (getMethod ov m pl)
      callWith pos f first (backTo pos (starEach [] X.env)) (backToKw pos (keywordEach [] X.env))) := by rfl) :
    PE X (.Call (.Attribute o m apos) [] [] pos) (tMeth C m sp [] E ta tNil) := by
  obtain ⟨c, f, fd, hm, F, hb⟩ := M
  exact pe_meth0 he c hm F hr hb .nil hx ht
end
/-- a method of the instance at hand -/
def meV (C : Addr) (m : Str) (sp : Sp) (E : XK) (t : TA) (σ : St) (Q : VK) (x : V) (H : Hp) : Prop := ∃ a dx fs, x = .ref a ∧ H a = some (.ins C dx fs) ∧ fs.lookup m = none ∧ t σ H fun vs H2 => sp (x :: (vs ++ [])) H2 Q E
theorem s_meth {C : Addr} {m : Str} {sp : Sp} {E : XK} {ta : TE} {t : TA} {σ : St} {H : Hp} {Q : VK} : tMeth C m sp [] E ta t σ H Q = ta σ H (fun x H1 => meV C m sp E t σ Q x H1) := rfl
theorem w_me {C a dx : Addr} {m : Str} {sp : Sp} {E : XK} {t : TA} {σ : St} {H : Hp} {Q : VK} {fs : List (Str × V)} (h : H a = some (.ins C dx fs)) (l : fs.lookup m = none) (q : t σ H fun vs H2 => sp (.ref a :: (vs ++ [])) H2 Q E) : meV C m sp E t σ Q (.ref a) H := ⟨a, dx, fs, rfl, h, l, q⟩
/-! ### properties -/
def PrAt (P : Program) (w : World) (K : PySem.W.Frag) (mg : Str → Option Value) (base : Heap) (k : Nat) (C : Addr) (m : Str) (sp : Sp) : Prop :=
  Cls K C ∧ ∃ (p g : Addr) (fd : FuncData), PropOf K C m p g ∧ FnOk P w K mg base (CX P w) k g fd ["self"] sp ∧ Binds K fd ["self"] []
theorem pe_pr {X : Cx} {k : Nat} {C : Addr} {m : Str} {sp : Sp} {e : Expr} {ta : TE} {pos : Pos} (M : PrAt X.prog X.w X.K X.mg X.base k C m sp) (hr : Room (k + 1) X.A) (he : PE X e ta) (hab : attributeBase e m X.env (eval e X.env) = eval e X.env := by rfl) :
    PE X (.Attribute e m pos) (tProp C sp [] E0 ta) := by
  obtain ⟨c, p, g, fd, hp, F, hb⟩ := M
  exact pe_prop he c hp F hr hb .nil (passL (X := X.nox)) hab
def prV (C : Addr) (sp : Sp) (Q : VK) (x : V) (H : Hp) : Prop := ∃ a dx fs, x = .ref a ∧ H a = some (.ins C dx fs) ∧ sp [.ref a] H Q E0
theorem s_prop {C : Addr} {sp : Sp} {ta : TE} {σ : St} {H : Hp} {Q : VK} : tProp C sp [] E0 ta σ H Q = ta σ H (fun x H1 => prV C sp Q x H1) := rfl
theorem w_pr {C a dx : Addr} {sp : Sp} {H : Hp} {Q : VK} {fs : List (Str × V)} (h : H a = some (.ins C dx fs)) (q : sp [.ref a] H Q E0) : prV C sp Q (.ref a) H := ⟨a, dx, fs, rfl, h, q⟩
/-! ### fields -/
def fldV (K : PySem.W.Frag) (f : Str) (Q : VK) (x : V) (H : Hp) : Prop := ∃ a C dx fs v, x = .ref a ∧ H a = some (.ins C dx fs) ∧ Cls K C ∧ NoAttr K C f ∧ fs.lookup f = some v ∧ Q v H
theorem s_fld {K : PySem.W.Frag} {ta : TE} {f : Str} {σ : St} {H : Hp} {Q : VK} : tFld K ta f σ H Q = ta σ H (fun x H1 => fldV K f Q x H1) := rfl
theorem w_fld {K : PySem.W.Frag} {f : Str} {a C dx : Addr} {H : Hp} {Q : VK} {fs : List (Str × V)} {v : V} (h : H a = some (.ins C dx fs)) (c : Cls K C) (n : NoAttr K C f) (l : fs.lookup f = some v) (q : Q v H) : fldV K f Q (.ref a) H := ⟨a, C, dx, fs, v, rfl, h, c, n, l, q⟩
def stF (K : PySem.W.Frag) (f : Str) (D : Ends) (σ : St) (y x : V) (H : Hp) : Prop := ∃ a C dx fs, x = .ref a ∧ H a = some (.ins C dx fs) ∧ Cls K C ∧ NoAttr K C f ∧ fs.length < 1000 ∧ D.nx σ (upd H a (.ins C dx (putF f y fs)))
theorem s_stF {K : PySem.W.Frag} {ta tv : TE} {f : Str} {D : Ends} {σ : St} {H : Hp} : sFld K ta tv f D σ H = tv σ H (fun y H1 => ta σ H1 (fun x H2 => stF K f D σ y x H2)) := rfl
theorem w_stF {K : PySem.W.Frag} {f : Str} {D : Ends} {σ : St} {y : V} {a C dx : Addr} {H : Hp} {fs : List (Str × V)} (h : H a = some (.ins C dx fs)) (c : Cls K C) (n : NoAttr K C f) (l : fs.length < 1000) (q : D.nx σ (upd H a (.ins C dx (putF f y fs)))) : stF K f D σ y (.ref a) H := ⟨a, C, dx, fs, rfl, h, c, n, l, q⟩
/-! ### C.f, a constant of the class -/
open ClX in
def cvV (K : PySem.W.Frag) (f : Str) (Q : VK) (x : V) (H : Hp) : Prop := ∃ C mc v u, x = .ref C ∧ CRead K C mc ∧ CVal K C mc f v u ∧ Q v H
open ClX in
theorem s_cv {K : PySem.W.Frag} {ta : TE} {f : Str} {σ : St} {H : Hp} {Q : VK} : tCVal K ta f σ H Q = ta σ H (fun x H1 => cvV K f Q x H1) := rfl
open ClX in
theorem w_cv {K : PySem.W.Frag} {f : Str} {C : Addr} {mc u : Value} {v : V} {H : Hp} {Q : VK} (r : CRead K C mc) (c : CVal K C mc f v u) (q : Q v H) : cvV K f Q (.ref C) H := ⟨C, mc, v, u, rfl, r, c, q⟩
/-! ### len(o) -/
def rLenO (C : Addr) (sp : Sp) : List V → Hp → VK → Prop := fun xs H Q => ∃ a dx fs, xs = [.ref a] ∧ H a = some (.ins C dx fs) ∧ sp [.ref a] H (fun v H' => ∃ n : Int, v = .int n ∧ 0 ≤ n ∧ n < 9223372036854775808 ∧ Q (.int n) H') E0
theorem call_lenO {X : Cx} {k : Nat} {C f : Addr} {fd : FuncData} {sp : Sp} (hs : PySem.W.findIn X.K (.ref C) "__len__" = some (some (.ref f))) (hf : PySem.W.isFn X.K (.ref f) = true) (F : FnOk X.prog X.w X.K X.mg X.base (CX X.prog X.w) k f fd ["self"] sp) (hb : Binds X.K fd ["self"] []) (hr : Room (k + 1) X.A) :
    CallR X (.builtin "len") (rLenO C sp) := by
  intro pins s σ H xs us Q I r h
  obtain ⟨a, dx, fs, rfl, ha, q⟩ := h
  obtain ⟨u, rfl, ru⟩ := vals1 r
  cases ru
  obtain ⟨mA, O, _, _, _, _⟩ := ins_get I.hok ha
  obtain ⟨od, J, _⟩ := O.look
  obtain ⟨m, hF⟩ := I.fr
  refine PySem.W.len_K hF I.ok.mod.kin J hs hf ?_
  have r2 : Vals [V.ref a] [Value.ref a] := .cons rfl .nil
  refine wpAny_call (codeAny_mono (F.run X.A.in1 X.stack s H ⟨[.ref a], []⟩ [.ref a] [.ref a] _ _ hr.in1 I.env0.in1 (by
    have := hb s [.ref a] I.kIn (by rfl)
    simpa using this) r2 q) fun r s' hq => ?_)
  cases r with
  | error e => exact passL pins σ H s e s' I hq
  | ok fl =>
    cases fl with
    | ret u =>
      obtain ⟨v, H', I', rv, n, rfl, h0, h1, q'⟩ := I.after hq
      obtain ⟨t, rfl⟩ := rv
      exact ⟨⟨h0, by omega⟩, .int n, H', I'.tok _, ⟨_, rfl⟩, q'⟩
    | next => exact False.elim hq
    | brk => exact False.elim hq
    | cont => exact False.elim hq
end L2
/-! sum of a tuple of ints; op= -/
namespace L2
open PySem PySem.Spec PyProof.Rows
section
variable {prog : Program} {w : World} {A : Around} {E : Value → Shared → Prop} {s : Shared} {l : Addr}
theorem sum_intTupG {xs : Array (Int × Tok)} {Q : Value → Shared → Prop} (hh : A.handled = none) (hl : s.heap.IsTuple l (intItems xs))
    (h : ∀ h' tk t', (∀ b o, s.heap.get? b = some o → h'.get? b = some o) → Q (.int (preSum (numAt xs) xs.size) t') { s with heap := h', toks := tk }) :
    wpAny (model prog w) A (call (.builtin "sum") [.ref l]) Q E s := by
  have hlt : l < s.heap.objs.size := by obtain ⟨_, e, _⟩ := hl; exact Heap.lt_size e
  refine call_sum_walkG (wpAny_pyIter_tuple hl ?_)
  refine ⟨_, _, _, _, _, _, numAt xs, rfl, Walks.tuple (A := A.in1) hh s.heap.objs.size l (Nat.ne_of_lt hlt) (intItems xs), ⟨⟨_, Heap.get?_push_size _ rfl, rfl, rfl⟩, hl.at fun o e => Heap.get?_push_of_some _ e⟩, fun b hb => ?_, (fun _ _ => intItems_at), fun h' tk t' hk => ?_⟩
  · show b < (s.heap.push _).objs.size
    rw [Heap.size_push]
    rcases List.mem_cons.mp hb with rfl | hb
    · exact Nat.lt_succ_self _
    · rcases List.mem_cons.mp hb with rfl | hb
      · exact Nat.lt_succ_of_lt hlt
      · cases hb
  · have := h h' tk t' fun b o e => hk b o (fun hm => by
      rcases List.mem_cons.mp hm with e1 | hm
      · exact absurd (e1 ▸ Heap.lt_size e) (Nat.lt_irrefl _)
      · cases hm) (Heap.get?_push_of_some _ e)
    simpa [intItems] using this
end
def rSumA (K : PySem.W.Frag) : List V → Hp → VK → Prop := fun vs H Q => ∃ (a : Addr) (ns : List Int), vs = [V.ref a] ∧ (SqL K H a (ns.map V.int) ∨ SqT K H a (ns.map V.int)) ∧ Q (.int ns.sum) H
theorem cr_sumA {X : Cx} (hc : X.calm = true) : CallR X (.builtin "sum") (rSumA X.K) := by
  intro pins s σ H vs us Q I r h
  obtain ⟨a, ns, rfl, hs | hs, q⟩ := h
  · exact cr_sum hc pins s σ H _ us Q I r ⟨a, ns, rfl, hs, q⟩
  · obtain ⟨its, rv, hl, _⟩ := I.tuple hs
    rw [Vals.ref1 r]
    obtain ⟨xs, e⟩ := rv.ints.allInts.items
    have hn : numsOf (intItems xs).toList = ns := by rw [← e]; exact rv.ints.numsOf
    rw [nums_intItems] at hn
    have hl' : s.heap.IsTuple a its.toArray := hl
    rw [e] at hl'
    refine sum_intTupG (I.ok.hd hc) hl' fun h' tk t' hk => ?_
    rw [preSum_eq, List.take_of_length_le (by simp), hn]
    exact ⟨.int _, H, I.kept hk, ⟨_, rfl⟩, q⟩
theorem w_sumL {K : PySem.W.Frag} {H : Hp} {Q : VK} {a : Addr} {ns : List Int} (h : SqL K H a (ns.map V.int)) (q : Q (.int ns.sum) H) : rSumA K [.ref a] H Q := ⟨a, ns, rfl, .inl h, q⟩
theorem w_sumT {K : PySem.W.Frag} {H : Hp} {Q : VK} {a : Addr} {ns : List Int} (h : SqT K H a (ns.map V.int)) (q : Q (.int ns.sum) H) : rSumA K [.ref a] H Q := ⟨a, ns, rfl, .inr h, q⟩
theorem w_slT {K : PySem.W.Frag} {H : Hp} {Q : VK} {a : Addr} {xs : List V} {lo hi : Option Int} (h : rSlA K (.ref a) lo hi H Q) : aSl K (.ref a) lo hi H Q := .inr (.inl h)
/-- enumerate, for over own things -/
theorem s_enumA {K : PySem.W.Frag} {tr : TA} {σ : St} {H : Hp} {R : It → Hp → Prop} : iEnumA K tr σ H R = tr σ H (fun vs H1 => enmA K vs H1 R) := rfl
theorem w_enumL {K : PySem.W.Frag} {H : Hp} {R : It → Hp → Prop} {a : Addr} {xs : List V} (h : SqL K H a xs) (q : R (Ite K a) H) : enmA K [.ref a] H R := ⟨a, rfl, .inl ⟨xs, h, q⟩⟩
theorem w_enumT {K : PySem.W.Frag} {H : Hp} {R : It → Hp → Prop} {a : Addr} {xs : List V} (h : SqT K H a xs) (q : R (IteT K a) H) : enmA K [.ref a] H R := ⟨a, rfl, .inr ⟨xs, h, q⟩⟩
def enO (K : PySem.W.Frag) (C : Addr) (fld : Str) (vs : List V) (H : Hp) (R : It → Hp → Prop) : Prop := ∃ x t, vs = [x] ∧ ownT K C fld x H t ∧ R (IteT K t) H
theorem s_enumO {K : PySem.W.Frag} {C : Addr} {fld : Str} {tr : TA} {σ : St} {H : Hp} {R : It → Hp → Prop} : iEnumO K C fld tr σ H R = tr σ H (fun vs H1 => enO K C fld vs H1 R) := rfl
theorem w_enumO {K : PySem.W.Frag} {C : Addr} {fld : Str} {H : Hp} {R : It → Hp → Prop} {x : V} {t : Addr} (h : ownT K C fld x H t) (q : R (IteT K t) H) : enO K C fld [x] H R := ⟨x, t, rfl, h, q⟩
def owV (K : PySem.W.Frag) (C : Addr) (fld : Str) (x : V) (H : Hp) (R : It → Hp → Prop) : Prop := ∃ t, ownT K C fld x H t ∧ R (Itt K t) H
theorem s_own {K : PySem.W.Frag} {C : Addr} {fld : Str} {te : TE} {σ : St} {H : Hp} {R : It → Hp → Prop} : iOwn K C fld te σ H R = te σ H (fun x H1 => owV K C fld x H1 R) := rfl
/-- for i, x in enumerate(t) -/
theorem w_forET {K : PySem.W.Frag} {t : TS} {D : Ends} {σ : St} {H : Hp} {a : Addr} {xs : List V} {p q : Nat} (Pv : Nat → St → Hp → Prop) (h0 : Pv 0 σ H) (hl : ∀ i σ H, i ≤ xs.length → Pv i σ H → SqT K H a xs)
    (hs : ∀ i x σ H H', xs[i]? = some x → Pv i σ H → Same H H' → t { D with nx := Pv (i + 1), ct := Pv (i + 1), bk := D.nx } ((σ.set p (some (.int (i : Nat)))).set q (some x)) H') (hd : ∀ σ H, Pv xs.length σ H → D.nx σ H) :
    forJ (IteT K a) (gTup K 2 (gCons (gName p) (gCons (gName q) gNil))) t D σ H := by
  refine ⟨fun i m σ H => m = xs.length - i ∧ i ≤ xs.length ∧ Pv i σ H, ⟨xs.length, by simp, Nat.zero_le _, h0⟩, ?_⟩
  rintro i m σ H ⟨rfl, hi, pp⟩
  have hS := hl i σ H hi pp
  by_cases hlt : i < xs.length
  · refine .inr ⟨⟨xs, xs[i], hS, by simp [hlt]⟩, Pv (i + 1), fun σ' H' p' => ⟨xs.length - (i + 1), by omega, rfl, hlt, p'⟩, fun x H' y => ?_⟩
    obtain ⟨T, z, rfl, hT, rfl, y⟩ := y
    have sm : Same H (upd H T (.tup [.int (i : Nat), z])) := fun b o e => by rw [upd_ne (ne_of_none e hT)]; exact e
    refine ⟨T, _, rfl, SqT.of upd_same, rfl, .int (i : Nat), [z], rfl, z, [], rfl, rfl, ?_⟩
    exact hs i z σ H _ (y xs hS) pp sm
  · have e : i = xs.length := by omega
    subst e
    exact .inl ⟨⟨xs, hS, rfl⟩, hd σ H pp⟩
/-- for i, x in enumerate(a), a a list or a tuple -/
theorem w_enumAF {K : PySem.W.Frag} {t : TS} {D : Ends} {σ : St} {H : Hp} {a : Addr} {xs : List V} {p q : Nat} (h : SqL K H a xs ∨ SqT K H a xs) (Pv : Nat → St → Hp → Prop) (h0 : Pv 0 σ H) (hl : ∀ i σ H', i ≤ xs.length → Pv i σ H' → Same H H')
    (hs : ∀ i x σ H H', xs[i]? = some x → Pv i σ H → Same H H' → t { D with nx := Pv (i + 1), ct := Pv (i + 1), bk := D.nx } ((σ.set p (some (.int (i : Nat)))).set q (some x)) H') (hd : ∀ σ H, Pv xs.length σ H → D.nx σ H) :
    enmA K [.ref a] H (fun J H1 => forJ J (gTup K 2 (gCons (gName p) (gCons (gName q) gNil))) t D σ H1) := by
  rcases h with h | h
  · exact w_enumL h (w_forE Pv h0 (fun i σ H' hi p => (hl i σ H' hi p).seq h) hs hd)
  · exact w_enumT h (w_forET Pv h0 (fun i σ H' hi p => (hl i σ H' hi p).seqT h) hs hd)
/-- tuple(a) -/
theorem w_tupleB {K : PySem.W.Frag} {H : Hp} {Q : VK} {a : Addr} {xs : List V} (h : SqL K H a xs ∨ SqT K H a xs) (q : ∀ t H', Same H H' → SqT K H' t xs → Q (.ref t) H') : aTuple K [.ref a] H Q := by
  rcases h with h | h
  · exact ⟨xs, .inl ⟨h, fun l hl => q l _ (W.start.new hl).fr (SqT.of upd_same)⟩⟩
  · exact ⟨xs, .inr ⟨h, q a H (Same.refl _) h⟩⟩
theorem sqT_ins {K : PySem.W.Frag} {H : Hp} {t x C dx : Addr} {fs : List (Str × V)} {xs : List V} {o : HO} (h : SqT K H t xs) (hx : H x = some (.ins C dx fs)) : SqT K (upd H x o) t xs := by
  rcases h with (h | ⟨u, h⟩) | h
  · have : t ≠ x := fun z => by rw [z, hx] at h; cases h
    exact .inl (.inl (by rw [upd_ne this]; exact h))
  · have : t ≠ x := fun z => by rw [z, hx] at h; cases h
    exact .inl (.inr ⟨u, by rw [upd_ne this]; exact h⟩)
  · exact .inr h
/-- a name of the module -/
structure GNm (mg : Str → Option Value) (x : Str) (C : Addr) : Prop where
  g : mg x = some (.ref C)
/-! ### op= -/
def augV (ti : TIp) (i : Nat) (D : Ends) (σ : St) (x y : V) (H : Hp) : Prop := ti x y H fun z H2 => D.nx (σ.set i (some z)) H2
theorem s_aug {i : Nat} {te : TE} {ti : TIp} {D : Ends} {σ : St} {H : Hp} : tAug i te ti D σ H = ∃ x, σ[i]? = some (some x) ∧ te σ H fun y H1 => augV ti i D σ x y H1 := rfl
theorem v_aug {f : Int → Int → Int} {i : Nat} {D : Ends} {σ : St} {a b : Int} {H : Hp} : augV (ipI f) i D σ (.int a) (.int b) H = D.nx (σ.set i (some (.int (f a b)))) H :=
  propext ⟨fun ⟨x, y, e1, e2, q⟩ => by cases e1; cases e2; exact q, fun q => ⟨a, b, rfl, rfl, q⟩⟩
/-- l[i] op= e: the reading of l[i] -/
theorem pget_list {X : Cx} : PGet X (rIxL X.K) := by
  intro pins s σ H x y v u Q I rx ry h
  obtain ⟨p, xs, i, z, rfl, rfl, hq, he, q⟩ := h
  cases rx
  obtain ⟨t, rfl⟩ := ry
  obtain ⟨its, r, pl, hz⟩ := I.list hq
  obtain ⟨j, h1, h2, h3, h4, h5⟩ := atI_get he
  obtain ⟨w, ew, rw'⟩ := r.get h2
  have hl := r.length
  have hn := line63
  have fin : EP X pins σ Q w s := ⟨z, H, I, rw', q⟩
  by_cases h0 : 0 ≤ i
  · have hj : i.toNat = j := by
      rw [seqIndex_of h0 h5] at h1
      exact Option.some.inj h1
    exact wpAny_getItem_list pl.isList h0 (by omega) (by rw [hj]; simpa using ew) fin
  · have hj : (i + (its.toArray.size : Int)).toNat = j := by
      rw [seqIndex_neg (by omega) h4] at h1
      rw [List.size_toArray, ← hl]
      exact Option.some.inj h1
    exact wpAny_getItem_list_neg pl.isList (by omega) (by rw [List.size_toArray] <;> omega) (by omega) (by rw [hj]; simpa using ew) fin
def augS (K : PySem.W.Frag) (te : TE) (ti : TIp) (ts : TSet) (D : Ends) (σ : St) (o i : V) (H : Hp) : Prop := rIxL K o i H fun x H3 => te σ H3 fun y H4 => ti x y H4 fun z H5 => ts o i z H5 fun H6 => D.nx σ H6
theorem s_augS {K : PySem.W.Frag} {to ti te : TE} {tip : TIp} {ts : TSet} {D : Ends} {σ : St} {H : Hp} : tAugS to ti te (rIxL K) tip ts D σ H = to σ H (fun o H1 => ti σ H1 (fun i H2 => augS K te tip ts D σ o i H2)) := rfl
/-- a statement that is not reached -/
theorem ps_no {X : Cx} {st : Stmt} : PS X st (fun _ _ _ => False) := ⟨fun pins s σ H D I h => h.elim⟩
/-- what the text must have of a class that is walked, and measured -/
structure OwnC (P : Program) (w : World) (K : PySem.W.Frag) (mg : Str → Option Value) (base : Heap) (C : Addr) (fld : Str) (fL fI : Addr) (fdL fdI : FuncData) (spL : Sp) : Prop where
  cl : Cls K C
  lenA : PySem.W.findIn K (.ref C) "__len__" = some (some (.ref fL))
  lenF : PySem.W.isFn K (.ref fL) = true
  lenOk : FnOk P w K mg base (CX P w) 1 fL fdL ["self"] spL
  lenB : Binds K fdL ["self"] []
  it : OwnIt K C fI
  itOk : FnN P w K mg base (CX P w) 1 fI fdI ["self"] (spIt K C fld)
  itB : Binds K fdI ["self"] []
end L2
/-! Comprehensions with an if. -/
namespace L2
open PySem PySem.Spec PyProof.Rows
def lcC (te : TE) (σ : St) (N : VK) (M : Hp → Prop) (b : Bool) (H : Hp) : Prop := if b = true then te σ H N else M H
section
variable {K : PySem.W.Frag} {tt : TT} {te : TE} {g : TG} {σ : St} {H : Hp} {Q : VK} {vs : List Nat}
theorem s_lcC1 {N : VK} {M : Hp → Prop} : lcC te σ N M true H = te σ H N := rfl
theorem s_lcC0 {N : VK} {M : Hp → Prop} : lcC te σ N M false H = M H := rfl
theorem w_lcC {p : Prop} [Decidable p] {N : VK} {M : Hp → Prop} (h1 : p → te σ H N) (h2 : ¬ p → M H) : lcC te σ N M (decide p) H := by
  by_cases h : p
  · rw [decide_eq_true h]; exact h1 h
  · rw [decide_eq_false h]; exact h2 h
theorem lc_stepF {p : Nat → Bool} {f : Nat → V} {i : Nat} {L : Addr} {H' : Hp} (hL : H L = none) (s1 : Same H H') (e : H' L = some (.lst (((List.range i).filter p).map f))) (hi : i < 100000) :
    (p i = true → ∀ H4, Same H' H4 → ∃ acc, H4 L = some (.lst acc) ∧ acc.length < sizeLine ∧ (H L = none ∧ Same H (upd H4 L (.lst (acc ++ [f i]))) ∧ (upd H4 L (.lst (acc ++ [f i]))) L = some (.lst (((List.range (i + 1)).filter p).map f)))) ∧
    (p i = false → ∀ H4, Same H' H4 → (H L = none ∧ Same H H4 ∧ H4 L = some (.lst (((List.range (i + 1)).filter p).map f)))) := by
  have el : ∀ c, p i = c → ((List.range (i + 1)).filter p).map f = ((List.range i).filter p).map f ++ if c = true then [f i] else [] := fun c hc => by
    rw [List.range_succ, List.filter_append, List.map_append]
    cases c <;> simp [List.filter_cons, hc]
  refine ⟨fun hp H4 s2 => ⟨_, s2 _ _ e, ?_, hL, fun b o z => ?_, ?_⟩, fun hp H4 s2 => ⟨hL, s1.trans s2, ?_⟩⟩
  · rw [List.length_map]
    have : ((List.range i).filter p).length ≤ i := by
      have := List.length_filter_le p (List.range i)
      rwa [List.length_range] at this
    exact small1000' (by omega)
  · rw [upd_ne (ne_of_none z hL)]
    exact s2 _ _ (s1 _ _ z)
  · rw [upd_same, el true hp]; rfl
  · rw [el false hp]
    rw [if_neg (by decide), List.append_nil]
    exact s2 _ _ e
theorem w_lcLF {a : Addr} {xs : List V} (p : Nat → Bool) (f : Nat → V) (hS : SqL K H a xs) (hz : xs.length ≤ 100000)
    (hs : ∀ i x H' (N : VK) (M : Hp → Prop), xs[i]? = some x → Same H H' → (p i = true → ∀ H4, Same H' H4 → N (f i) H4) → (p i = false → ∀ H4, Same H' H4 → M H4) → g x (wipe σ vs) H' fun σ2 H2 => wipe σ2 vs = wipe σ vs ∧ tt σ2 H2 fun b H3 => lcC te σ2 N M b H3)
    (hd : ∀ L H', Same H H' → H L = none → H' L = some (.lst (((List.range xs.length).filter p).map f)) → Q (.ref L) H') : lcJ (Itl K a) g tt te vs σ Q H := by
  refine w_lcL (fun L i H' => H L = none ∧ Same H H' ∧ H' L = some (.lst (((List.range i).filter p).map f))) (fun L hL => ⟨hL, (W.start.new hL).fr, upd_same⟩) (fun L i H' _ q => q.2.1.seq hS) (fun L i x H' hx q => ?_) (fun L H' hL q => hd L H' q.2.1 q.1 q.2.2)
  have hi : i < xs.length := (List.getElem?_eq_some_iff.mp hx).1
  obtain ⟨k1, k2⟩ := lc_stepF q.1 q.2.1 q.2.2 (by omega)
  exact hs i x H' _ _ hx q.2.1 k1 k2
theorem w_lcRF {lo : Int} {n : Nat} (p : Nat → Bool) (f : Nat → V) (hz : n ≤ 100000)
    (hs : ∀ (i : Nat) H' (N : VK) (M : Hp → Prop), i < n → Same H H' → (p i = true → ∀ H4, Same H' H4 → N (f i) H4) → (p i = false → ∀ H4, Same H' H4 → M H4) → g (.int (lo + i)) (wipe σ vs) H' fun σ2 H2 => wipe σ2 vs = wipe σ vs ∧ tt σ2 H2 fun b H3 => lcC te σ2 N M b H3)
    (hd : ∀ L H', Same H H' → H L = none → H' L = some (.lst (((List.range n).filter p).map f)) → Q (.ref L) H') : lcJ (Itr lo n) g tt te vs σ Q H := by
  refine w_lcR (fun L i H' => H L = none ∧ Same H H' ∧ H' L = some (.lst (((List.range i).filter p).map f))) (fun L hL => ⟨hL, (W.start.new hL).fr, upd_same⟩) (fun L i H' hi q => ?_) (fun L H' hL q => hd L H' q.2.1 q.1 q.2.2)
  obtain ⟨k1, k2⟩ := lc_stepF q.1 q.2.1 q.2.2 (by omega)
  exact hs i H' _ _ hi q.2.1 k1 k2
/-- [.. for i, x in enumerate(t) if ..], t a tuple -/
theorem w_lcETF {a : Addr} {xs : List V} {u v : Nat} (p : Nat → Bool) (f : Nat → V) (hS : SqT K H a xs) (hz : xs.length ≤ 100000)
    (hs : ∀ i x H' (N : VK) (M : Hp → Prop), xs[i]? = some x → Same H H' → (p i = true → ∀ H4, Same H' H4 → N (f i) H4) → (p i = false → ∀ H4, Same H' H4 → M H4) →
      wipe (((wipe σ vs).set u (some (.int (i : Nat)))).set v (some x)) vs = wipe σ vs ∧ tt (((wipe σ vs).set u (some (.int (i : Nat)))).set v (some x)) H' fun b H3 => lcC te (((wipe σ vs).set u (some (.int (i : Nat)))).set v (some x)) N M b H3)
    (hd : ∀ L H', Same H H' → H L = none → H' L = some (.lst (((List.range xs.length).filter p).map f)) → Q (.ref L) H') : lcJ (IteT K a) (gTup K 2 (gCons (gName u) (gCons (gName v) gNil))) tt te vs σ Q H := by
  intro D hD
  refine ⟨fun i m H' => m = xs.length - i ∧ i ≤ xs.length ∧ (H D = none ∧ Same H H' ∧ H' D = some (.lst (((List.range i).filter p).map f))), ⟨xs.length, by simp, Nat.zero_le _, hD, (W.start.new hD).fr, upd_same⟩, ?_⟩
  rintro i m H1 ⟨rfl, hi, hD0, s1, e⟩
  have hX := s1.seqT hS
  by_cases hlt : i < xs.length
  · refine .inr ⟨⟨xs, xs[i], hX, by simp [hlt]⟩, fun H' => H D = none ∧ Same H H' ∧ H' D = some (.lst (((List.range (i + 1)).filter p).map f)), fun H' p' => ⟨xs.length - (i + 1), by omega, rfl, hlt, p'⟩, fun x H' y => ?_⟩
    obtain ⟨T, z, rfl, hT, rfl, y⟩ := y
    have sm : Same H1 (upd H1 T (.tup [.int (i : Nat), z])) := fun b o e => by rw [upd_ne (ne_of_none e hT)]; exact e
    refine ⟨T, _, rfl, SqT.of upd_same, rfl, .int (i : Nat), [z], rfl, z, [], rfl, rfl, ?_⟩
    obtain ⟨k1, k2⟩ := lc_stepF hD0 (s1.trans sm) (sm _ _ e) (by omega : i < 100000)
    exact hs i z _ _ _ (y xs hX) (s1.trans sm) k1 k2
  · have e' : i = xs.length := by omega
    subst e'
    exact .inl ⟨⟨xs, hX, rfl⟩, hd D H1 s1 hD0 e⟩
/-- list(range(n)) -/
def lrV (Q : VK) (x : V) (H : Hp) : Prop := ∃ n, x = .int n ∧ (RgOk 0 n ∧ ∀ q, H q = none → Q (.ref q) (upd H q (.lst (rgV 0 n))))
theorem s_lstRg {ta : TE} : tLstRg (tRg1 ta) σ H Q = ta σ H (fun x H1 => lrV Q x H1) := rfl
theorem rgV_nat (n : Nat) : rgV 0 (n : Int) = ((List.range n).map fun p => ((p : Nat) : Int)).map V.int := by
  unfold rgV
  rw [List.map_map, show ((n : Int) - 0).toNat = n by omega]
  refine List.map_congr_left fun p _ => ?_
  show V.int (0 + (p : Int)) = V.int (p : Int)
  rw [Int.zero_add]
theorem w_lr {n : Nat} (h : n ≤ 1000000) (q : ∀ l, H l = none → Q (.ref l) (upd H l (.lst (((List.range n).map fun p => ((p : Nat) : Int)).map V.int)))) : lrV Q (.int n) H := by
  refine ⟨n, rfl, RgOk.of_le (by omega) (by omega) (by omega) (by omega), fun l hl => ?_⟩
  rw [rgV_nat]; exact q l hl
theorem w_slTB {a : Addr} {xs : List V} {lo hi : Option Int} (h : SqT K H a xs) (q : ∀ p H', Same H H' → SqT K H' p (cutV xs lo hi) → Q (.ref p) H') : aSl K (.ref a) lo hi H Q := by
  refine .inr (.inl ⟨a, xs, rfl, h, fun hw => ?_, fun _ p hp => q p _ (W.start.new hp).fr (SqT.of upd_same)⟩)
  refine q a H (Same.refl _) ?_
  have : cutV xs lo hi = xs := by
    unfold cutV
    rw [hw.1, hw.2, List.drop_zero, Nat.sub_zero, List.take_length]
  rw [this]; exact h
end
end L2
/-! Data in place of the heap: what stands for which data (Rp), slots (Sl), the ledger behind them (Env). -/
namespace DL
open PySem L2
inductive D where
  | non | bl (b : Bool) | int (i : Int) | str (s : Str) | lst (xs : List D) | tup (xs : List D) | ins (C : Addr) (fs : List (Str × D)) | scr (ns : List Int) | ty (t : String)
/-- a class whose instances' fields are read as they stand -/
def GoodC (K : PySem.W.Frag) (C : Addr) (gs : List (Str × D)) : Prop := Cls K C ∧ ∀ f ∈ gs.map (·.1), NoAttr K C f
mutual
inductive Rp (K : PySem.W.Frag) (H : Hp) : V → D → Prop
  | non : Rp K H .non .non
  | bl (b : Bool) : Rp K H (.bl b) (.bl b)
  | int (i : Int) : Rp K H (.int i) (.int i)
  | str (s : Str) : Rp K H (.str s) (.str s)
  | ty (t : String) : Rp K H (.ty t) (.ty t)
  | lst {a : Addr} {vs : List V} {ds : List D} : H a = some (.lst vs) → Rps K H vs ds → Rp K H (.ref a) (.lst ds)
  | tup {a : Addr} {vs : List V} {ds : List D} : SqT K H a vs → Rps K H vs ds → Rp K H (.ref a) (.tup ds)
  | ins {a C dx : Addr} {fs : List (Str × V)} {gs : List (Str × D)} : H a = some (.ins C dx fs) → GoodC K C gs → Rpf K H fs gs → Rp K H (.ref a) (.ins C gs)
  | scr {a : Addr} {ns : List Int} : SqL K H a (ns.map V.int) → Rp K H (.ref a) (.scr ns)
inductive Rps (K : PySem.W.Frag) (H : Hp) : List V → List D → Prop
  | nil : Rps K H [] []
  | cons {v : V} {d : D} {vs : List V} {ds : List D} : Rp K H v d → Rps K H vs ds → Rps K H (v :: vs) (d :: ds)
inductive Rpf (K : PySem.W.Frag) (H : Hp) : List (Str × V) → List (Str × D) → Prop
  | nil : Rpf K H [] []
  | cons {f : Str} {v : V} {d : D} {vs : List (Str × V)} {ds : List (Str × D)} : Rp K H v d → Rpf K H vs ds → Rpf K H ((f, v) :: vs) ((f, d) :: ds)
end
section
variable {K : PySem.W.Frag} {F H H' : Hp}
mutual
theorem Rp.mono (e : Same H H') : ∀ {v : V} {d : D}, Rp K H v d → Rp K H' v d
  | _, _, .non => .non
  | _, _, .bl b => .bl b
  | _, _, .int i => .int i
  | _, _, .str x => .str x
  | _, _, .ty x => .ty x
  | _, _, .lst h r => .lst (e _ _ h) (Rps.mono e r)
  | _, _, .tup h r => .tup (e.seqT h) (Rps.mono e r)
  | _, _, .ins h g r => .ins (e _ _ h) g (Rpf.mono e r)
  | _, _, .scr h => .scr (e.seq h)
theorem Rps.mono (e : Same H H') : ∀ {vs : List V} {ds : List D}, Rps K H vs ds → Rps K H' vs ds
  | _, _, .nil => .nil
  | _, _, .cons h r => .cons (Rp.mono e h) (Rps.mono e r)
theorem Rpf.mono (e : Same H H') : ∀ {vs : List (Str × V)} {ds : List (Str × D)}, Rpf K H vs ds → Rpf K H' vs ds
  | _, _, .nil => .nil
  | _, _, .cons h r => .cons (Rp.mono e h) (Rpf.mono e r)
end
theorem Rps.length : ∀ {vs : List V} {ds : List D}, Rps K H vs ds → vs.length = ds.length
  | _, _, .nil => rfl
  | _, _, .cons _ r => by rw [List.length_cons, List.length_cons, Rps.length r]
theorem Rps.get : ∀ {vs : List V} {ds : List D} {i : Nat} {v : V}, Rps K H vs ds → vs[i]? = some v → ∃ d, ds[i]? = some d ∧ Rp K H v d
  | _, _, 0, _, .cons h r, e => by cases e; exact ⟨_, rfl, h⟩
  | _, _, i + 1, _, .cons h r, e => by
    rw [List.getElem?_cons_succ] at e
    obtain ⟨d, h1, h2⟩ := Rps.get r e
    exact ⟨d, by rw [List.getElem?_cons_succ]; exact h1, h2⟩
theorem Rps.getD : ∀ {vs : List V} {ds : List D} {i : Nat} {d : D}, Rps K H vs ds → ds[i]? = some d → ∃ v, vs[i]? = some v ∧ Rp K H v d
  | _, _, 0, _, .cons h r, e => by cases e; exact ⟨_, rfl, h⟩
  | _, _, i + 1, _, .cons h r, e => by
    rw [List.getElem?_cons_succ] at e
    obtain ⟨d, h1, h2⟩ := Rps.getD r e
    exact ⟨d, by rw [List.getElem?_cons_succ]; exact h1, h2⟩
theorem Rps.append : ∀ {vs ws : List V} {ds es : List D}, Rps K H vs ds → Rps K H ws es → Rps K H (vs ++ ws) (ds ++ es)
  | _, _, _, _, .nil, r => r
  | _, _, _, _, .cons h r, r' => .cons h (Rps.append r r')
theorem Rps.drop : ∀ {vs : List V} {ds : List D} (n : Nat), Rps K H vs ds → Rps K H (vs.drop n) (ds.drop n)
  | _, _, 0, r => r
  | _, _, n + 1, .nil => .nil
  | _, _, n + 1, .cons h r => Rps.drop n r
theorem Rps.take : ∀ {vs : List V} {ds : List D} (n : Nat), Rps K H vs ds → Rps K H (vs.take n) (ds.take n)
  | _, _, 0, r => .nil
  | _, _, n + 1, .nil => .nil
  | _, _, n + 1, .cons h r => .cons h (Rps.take n r)
theorem Rps.set : ∀ {vs : List V} {ds : List D} {v : V} {d : D} (n : Nat), Rps K H vs ds → Rp K H v d → Rps K H (vs.set n v) (ds.set n d)
  | _, _, _, _, 0, .nil, q => .nil
  | _, _, _, _, 0, .cons h r, q => .cons q r
  | _, _, _, _, n + 1, .nil, q => .nil
  | _, _, _, _, n + 1, .cons h r, q => .cons h (Rps.set n r q)
theorem Rps.rev : ∀ {vs : List V} {ds : List D}, Rps K H vs ds → Rps K H vs.reverse ds.reverse
  | _, _, .nil => .nil
  | _, _, .cons h r => by rw [List.reverse_cons, List.reverse_cons]; exact Rps.append (Rps.rev r) (.cons h .nil)
theorem Rps.replicate {v : V} {d : D} (h : Rp K H v d) : ∀ n : Nat, Rps K H (List.replicate n v) (List.replicate n d)
  | 0 => .nil
  | n + 1 => .cons h (Rps.replicate h n)
theorem Rps.flat {vs : List V} {ds : List D} (h : Rps K H vs ds) : ∀ n : Nat, Rps K H (List.replicate n vs).flatten (List.replicate n ds).flatten
  | 0 => .nil
  | n + 1 => Rps.append h (Rps.flat h n)
def li (ns : List Int) : List D := ns.map D.int
theorem Rps.li : ∀ (ns : List Int), Rps K H (ns.map V.int) (DL.li ns)
  | [] => .nil
  | n :: ns => .cons (.int n) (Rps.li ns)
theorem Rps.liV : ∀ {ns : List Int} {vs : List V}, Rps K H vs (DL.li ns) → vs = ns.map V.int
  | [], _, .nil => rfl
  | n :: ns, _, .cons (.int _) r => by rw [Rps.liV r]; rfl
theorem Rpf.look {f : Str} : ∀ {vs : List (Str × V)} {ds : List (Str × D)} {d : D}, Rpf K H vs ds → ds.lookup f = some d → ∃ v, vs.lookup f = some v ∧ Rp K H v d
  | _, _, d, .nil, e => by cases e
  | _, _, d, .cons (f := g) h r, e => by
    rw [List.lookup_cons] at e ⊢
    cases hb : f == g with
    | true => rw [hb] at e; cases e; exact ⟨_, rfl, h⟩
    | false => rw [hb] at e; exact Rpf.look r e
theorem Rpf.look0 {f : Str} : ∀ {vs : List (Str × V)} {ds : List (Str × D)}, Rpf K H vs ds → ds.lookup f = none → vs.lookup f = none
  | _, _, .nil, e => rfl
  | _, _, .cons (f := g) h r, e => by
    rw [List.lookup_cons] at e ⊢
    cases hb : f == g with
    | true => rw [hb] at e; cases e
    | false => rw [hb] at e; exact Rpf.look0 r e
theorem Rpf.length : ∀ {vs : List (Str × V)} {ds : List (Str × D)}, Rpf K H vs ds → vs.length = ds.length
  | _, _, .nil => rfl
  | _, _, .cons _ r => by rw [List.length_cons, List.length_cons, Rpf.length r]
theorem Rpf.zip : ∀ {fs : List Str} {vs : List V} {ds : List D}, Rps K H vs ds → Rpf K H (fs.zip vs) (fs.zip ds)
  | [], _, _, _ => by simp only [List.zip_nil_left]; exact .nil
  | _ :: _, _, _, .nil => by simp only [List.zip_nil_right]; exact .nil
  | _ :: _, _, _, .cons h r => by simp only [List.zip_cons_cons]; exact .cons h (Rpf.zip r)
/-- what stands at v now (its parts stand in F) -/
inductive RpT (K : PySem.W.Frag) (F H : Hp) : V → D → Prop
  | sc {v : V} {d : D} : Rp K F v d → RpT K F H v d
  | lst {a : Addr} {vs : List V} {ds : List D} : H a = some (.lst vs) → Rps K F vs ds → RpT K F H (.ref a) (.lst ds)
  | ins {a C dx : Addr} {fs : List (Str × V)} {gs : List (Str × D)} : H a = some (.ins C dx fs) → GoodC K C gs → Rpf K F fs gs → RpT K F H (.ref a) (.ins C gs)
theorem RpT.rp (s : Same F H) {v : V} {d : D} (h : RpT K F H v d) : Rp K H v d := by
  cases h with
  | sc h => exact h.mono s
  | lst h r => exact .lst h (r.mono s)
  | ins h g r => exact .ins h g (r.mono s)
theorem RpT.lstD (s : Same F H) {v : V} {ds : List D} (h : RpT K F H v (.lst ds)) : ∃ a vs, v = .ref a ∧ H a = some (.lst vs) ∧ Rps K F vs ds := by
  cases h with
  | sc h => cases h with | lst h r => exact ⟨_, _, rfl, s _ _ h, r⟩
  | lst h r => exact ⟨_, _, rfl, h, r⟩
theorem RpT.tupD {v : V} {ds : List D} (h : RpT K F H v (.tup ds)) : ∃ a vs, v = .ref a ∧ SqT K F a vs ∧ Rps K F vs ds := by
  cases h with
  | sc h => cases h with | tup h r => exact ⟨_, _, rfl, h, r⟩
theorem RpT.insD (s : Same F H) {v : V} {C : Addr} {gs : List (Str × D)} (h : RpT K F H v (.ins C gs)) : ∃ a dx vs, v = .ref a ∧ H a = some (.ins C dx vs) ∧ GoodC K C gs ∧ Rpf K F vs gs := by
  cases h with
  | sc h => cases h with | ins h g r => exact ⟨_, _, _, rfl, s _ _ h, g, r⟩
  | ins h g r => exact ⟨_, _, _, rfl, h, g, r⟩
theorem RpT.intD {v : V} {i : Int} (h : RpT K F H v (.int i)) : v = .int i := by cases h with | sc h => cases h with | int => rfl
theorem RpT.blD {v : V} {i : Bool} (h : RpT K F H v (.bl i)) : v = .bl i := by cases h with | sc h => cases h with | bl => rfl
theorem RpT.strD {v : V} {i : Str} (h : RpT K F H v (.str i)) : v = .str i := by cases h with | sc h => cases h with | str => rfl
theorem RpT.nonD {v : V} (h : RpT K F H v .non) : v = .non := by cases h with | sc h => cases h with | non => rfl
theorem RpT.tyD {v : V} {t : String} (h : RpT K F H v (.ty t)) : v = .ty t := by cases h with | sc h => cases h with | ty => rfl
theorem Rp.intD {v : V} {i : Int} (h : Rp K H v (.int i)) : v = .int i := by cases h with | int => rfl
theorem Rp.blD {v : V} {i : Bool} (h : Rp K H v (.bl i)) : v = .bl i := by cases h with | bl => rfl
end
/-! ### trees: lists and tuples of the frame's own, one within the other -/
inductive Tr where
  | v (d : D) | l (ts : List Tr) | t (ts : List Tr)
mutual
def Tr.d : Tr → D
  | .v d => d
  | .l ts => .lst (Tr.ds ts)
  | .t ts => .tup (Tr.ds ts)
def Tr.ds : List Tr → List D
  | [] => []
  | x :: xs => x.d :: Tr.ds xs
end
mutual
inductive RD (K : PySem.W.Frag) (F : Hp) : List (Addr × HO) → V → Tr → Prop
  | v {v : V} {d : D} : Rp K F v d → RD K F [] v (.v d)
  | l {a : Addr} {L : List (Addr × HO)} {vs : List V} {ts : List Tr} : RDs K F L vs ts → RD K F ((a, .lst vs) :: L) (.ref a) (.l ts)
  | t {a : Addr} {L : List (Addr × HO)} {vs : List V} {ts : List Tr} : SqT K F a vs → RDs K F L vs ts → RD K F L (.ref a) (.t ts)
inductive RDs (K : PySem.W.Frag) (F : Hp) : List (Addr × HO) → List V → List Tr → Prop
  | nil : RDs K F [] [] []
  | cons {L L' : List (Addr × HO)} {v : V} {t : Tr} {vs : List V} {ts : List Tr} : RD K F L v t → RDs K F L' vs ts → RDs K F (L ++ L') (v :: vs) (t :: ts)
end
section
variable {K : PySem.W.Frag} {F H H' : Hp}
mutual
theorem RD.mono (e : Same H H') : ∀ {L : List (Addr × HO)} {v : V} {t : Tr}, RD K H L v t → RD K H' L v t
  | _, _, _, .v h => .v (h.mono e)
  | _, _, _, .l r => .l (RDs.mono e r)
  | _, _, _, .t h r => .t (e.seqT h) (RDs.mono e r)
theorem RDs.mono (e : Same H H') : ∀ {L : List (Addr × HO)} {vs : List V} {ts : List Tr}, RDs K H L vs ts → RDs K H' L vs ts
  | _, _, _, .nil => .nil
  | _, _, _, .cons h r => .cons (RD.mono e h) (RDs.mono e r)
end
theorem RDs.length : ∀ {L : List (Addr × HO)} {vs : List V} {ts : List Tr}, RDs K F L vs ts → vs.length = ts.length
  | _, _, _, .nil => rfl
  | _, _, _, .cons _ r => by rw [List.length_cons, List.length_cons, RDs.length r]
end
/-! ### slots -/
inductive Sl where
  | dead | val (d : D) | raw (v : V) | own (ds : List D) | par (ds : List D) | obj (C : Addr) (fs : List (Str × D)) | exc (a d C : Addr) (fs : List (Str × D)) | exc0 (a C : Addr) | otup (p ds q : List D) | tre (t : Tr)
/-- pa: where the thing stands that is handed in to be changed (mut, obj) -/
inductive Sls (K : PySem.W.Frag) (pa : Addr) (F : Hp) : List (Addr × HO) → List (Option V) → List Sl → Prop
  | nil : Sls K pa F [] [] []
  | dead {L : List (Addr × HO)} {σ : List (Option V)} {δ : List Sl} (x : Option V) : Sls K pa F L σ δ → Sls K pa F L (x :: σ) (.dead :: δ)
  | val {L : List (Addr × HO)} {σ : List (Option V)} {δ : List Sl} {v : V} {d : D} : Rp K F v d → Sls K pa F L σ δ → Sls K pa F L (some v :: σ) (.val d :: δ)
  | raw {L : List (Addr × HO)} {σ : List (Option V)} {δ : List Sl} (v : V) : Sls K pa F L σ δ → Sls K pa F L (some v :: σ) (.raw v :: δ)
  | own {L : List (Addr × HO)} {σ : List (Option V)} {δ : List Sl} {a : Addr} {vs : List V} {ds : List D} : Rps K F vs ds → Sls K pa F L σ δ → Sls K pa F ((a, .lst vs) :: L) (some (.ref a) :: σ) (.own ds :: δ)
  | par {L : List (Addr × HO)} {σ : List (Option V)} {δ : List Sl} {vs : List V} {ds : List D} : Rps K F vs ds → Sls K pa F L σ δ → Sls K pa F ((pa, .lst vs) :: L) (some (.ref pa) :: σ) (.par ds :: δ)
  | obj {L : List (Addr × HO)} {σ : List (Option V)} {δ : List Sl} {C dx : Addr} {vs : List (Str × V)} {fs : List (Str × D)} : GoodC K C fs → Rpf K F vs fs → Sls K pa F L σ δ → Sls K pa F ((pa, .ins C dx vs) :: L) (some (.ref pa) :: σ) (.obj C fs :: δ)
  | exc {L : List (Addr × HO)} {σ : List (Option V)} {δ : List Sl} {a d C : Addr} {vs : List (Str × V)} {fs : List (Str × D)} : F d = some (.xd vs) → Rpf K F vs fs → Sls K pa F L σ δ → Sls K pa F L (some (.ref a) :: σ) (.exc a d C fs :: δ)
  | exc0 {L : List (Addr × HO)} {σ : List (Option V)} {δ : List Sl} {a C : Addr} : Sls K pa F L σ δ → Sls K pa F L (some (.ref a) :: σ) (.exc0 a C :: δ)
  | otup {L : List (Addr × HO)} {σ : List (Option V)} {δ : List Sl} {a T : Addr} {us vs ws : List V} {p ds q : List D} : SqT K F T (us ++ .ref a :: ws) → Rps K F us p → Rps K F vs ds → Rps K F ws q → Sls K pa F L σ δ → Sls K pa F ((a, .lst vs) :: L) (some (.ref T) :: σ) (.otup p ds q :: δ)
  | tre {L0 L : List (Addr × HO)} {σ : List (Option V)} {δ : List Sl} {v : V} {t : Tr} : RD K F L0 v t → Sls K pa F L σ δ → Sls K pa F (L0 ++ L) (some v :: σ) (.tre t :: δ)
section
variable {K : PySem.W.Frag} {pa : Addr} {F F' H H' : Hp} {L L1 L2 Lf : List (Addr × HO)} {σ : List (Option V)} {δ : List Sl}
theorem Sls.mono (s : Same F F') (h : Sls K pa F L σ δ) : Sls K pa F' L σ δ := by
  induction h with
  | nil => exact .nil
  | dead x _ ih => exact .dead x ih
  | val h _ ih => exact .val (h.mono s) ih
  | raw v _ ih => exact .raw v ih
  | own h _ ih => exact .own (h.mono s) ih
  | par h _ ih => exact .par (h.mono s) ih
  | obj g h _ ih => exact .obj g (h.mono s) ih
  | exc e h _ ih => exact .exc (s _ _ e) (h.mono s) ih
  | exc0 _ ih => exact .exc0 ih
  | otup t h1 h2 h3 _ ih => exact .otup (s.seqT t) (h1.mono s) (h2.mono s) (h3.mono s) ih
  | tre h _ ih => exact .tre (h.mono s) ih
theorem Sls.length (h : Sls K pa F L σ δ) : σ.length = δ.length := by
  induction h <;> simp_all
def Env (K : PySem.W.Frag) (pa : Addr) (F H : Hp) (σ : List (Option V)) (δ : List Sl) (Lf : List (Addr × HO)) : Prop := ∃ L, W F (L ++ Lf) H ∧ Sls K pa F L σ δ
theorem W.sub {L L' : List (Addr × HO)} (w : W F L H) (h : L'.Sublist L) : W F L' H :=
  ⟨w.fr, (h.map _).nodup w.nd, fun p hp => w.at_ p (h.subset hp), fun p hp => w.off p (h.subset hp)⟩
theorem W.subP {L L' L2 : List (Addr × HO)} (w : W F L H) (h : L.Perm (L2 ++ L')) : W F L' H := W.sub (w.perm h) (List.sublist_append_right _ _)
theorem Env.drop (h : Env K pa F H σ δ (L1 ++ Lf)) : Env K pa F H σ δ Lf := by
  obtain ⟨L, w, s⟩ := h
  refine ⟨L, ?_, s⟩
  exact W.sub w (List.Sublist.append (List.Sublist.refl _) (List.sublist_append_right _ _))
theorem Env.dropR (h : Env K pa F H σ δ (Lf ++ L1)) : Env K pa F H σ δ Lf := by
  obtain ⟨L, w, s⟩ := h
  refine ⟨L, ?_, s⟩
  exact W.sub w (List.Sublist.append (List.Sublist.refl _) (List.sublist_append_left _ _))
theorem Env.permF (h : Env K pa F H σ δ L1) (p : L1.Perm L2) : Env K pa F H σ δ L2 := by
  obtain ⟨L, w, s⟩ := h
  exact ⟨L, w.perm (p.append_left _), s⟩
theorem Env.fr (h : Env K pa F H σ δ Lf) : Same F H := by
  obtain ⟨L, w, s⟩ := h
  exact w.fr
/-! ### results -/
inductive Rk where
  | val (d : D) | own (ds : List D) | bor (i : Nat) | raw (v : V) | otup (p ds q : List D) | tre (t : Tr)
inductive RR (K : PySem.W.Frag) (F : Hp) (σ : List (Option V)) : List (Addr × HO) → V → Rk → Prop
  | val {v : V} {d : D} : Rp K F v d → RR K F σ [] v (.val d)
  | own {a : Addr} {vs : List V} {ds : List D} : Rps K F vs ds → RR K F σ [(a, .lst vs)] (.ref a) (.own ds)
  | bor {i : Nat} {v : V} : σ[i]? = some (some v) → RR K F σ [] v (.bor i)
  | raw (v : V) : RR K F σ [] v (.raw v)
  | otup {a T : Addr} {us vs ws : List V} {p ds q : List D} : SqT K F T (us ++ .ref a :: ws) → Rps K F us p → Rps K F vs ds → Rps K F ws q → RR K F σ [(a, .lst vs)] (.ref T) (.otup p ds q)
  | tre {L : List (Addr × HO)} {v : V} {t : Tr} : RD K F L v t → RR K F σ L v (.tre t)
theorem RR.mono {v : V} {r : Rk} (s : Same F F') (h : RR K F σ L v r) : RR K F' σ L v r := by
  cases h with
  | val h => exact .val (h.mono s)
  | own h => exact .own (h.mono s)
  | bor h => exact .bor h
  | raw => exact .raw _
  | otup t h1 h2 h3 => exact .otup (s.seqT t) (h1.mono s) (h2.mono s) (h3.mono s)
  | tre h => exact .tre (h.mono s)
def sdat : Sl → Option D
  | .val d => some d
  | .own ds => some (.lst ds)
  | .par ds => some (.lst ds)
  | .obj C fs => some (.ins C fs)
  | _ => none
def dat (δ : List Sl) : Rk → Option D
  | .val d => some d
  | .own ds => some (.lst ds)
  | .bor i => (δ[i]?).bind sdat
  | .raw _ => none
  | .otup _ _ _ => none
  | .tre _ => none
theorem Sls.at_ (h : Sls K pa F L σ δ) : ∀ {i : Nat} {v : V} {d : D}, σ[i]? = some (some v) → (δ[i]?).bind sdat = some d → (∀ p ∈ L, H p.1 = some p.2) → RpT K F H v d := by
  induction h with
  | nil => intro i v d e; simp at e
  | dead x _ ih =>
    intro i v d e e2 hl
    cases i with
    | zero => simp [sdat] at e2
    | succ i => exact ih e e2 hl
  | val h _ ih =>
    intro i v d e e2 hl
    cases i with
    | zero => simp [sdat] at e e2; subst e e2; exact .sc h
    | succ i => exact ih e e2 hl
  | raw w _ ih =>
    intro i v d e e2 hl
    cases i with
    | zero => simp [sdat] at e2
    | succ i => exact ih e e2 hl
  | own h _ ih =>
    intro i v d e e2 hl
    cases i with
    | zero => simp [sdat] at e e2; subst e e2; exact .lst (hl _ List.mem_cons_self) h
    | succ i => exact ih e e2 fun p hp => hl p (List.mem_cons_of_mem _ hp)
  | par h _ ih =>
    intro i v d e e2 hl
    cases i with
    | zero => simp [sdat] at e e2; subst e e2; exact .lst (hl _ List.mem_cons_self) h
    | succ i => exact ih e e2 fun p hp => hl p (List.mem_cons_of_mem _ hp)
  | obj g h _ ih =>
    intro i v d e e2 hl
    cases i with
    | zero => simp [sdat] at e e2; subst e e2; exact .ins (hl _ List.mem_cons_self) g h
    | succ i => exact ih e e2 fun p hp => hl p (List.mem_cons_of_mem _ hp)
  | exc e' h _ ih =>
    intro i v d e e2 hl
    cases i with
    | zero => simp [sdat] at e2
    | succ i => exact ih e e2 hl
  | exc0 _ ih =>
    intro i v d e e2 hl
    cases i with
    | zero => simp [sdat] at e2
    | succ i => exact ih e e2 hl
  | otup _ _ _ _ _ ih =>
    intro i v d e e2 hl
    cases i with
    | zero => simp [sdat] at e2
    | succ i => exact ih e e2 fun p hp => hl p (List.mem_cons_of_mem _ hp)
  | tre _ _ ih =>
    intro i v d e e2 hl
    cases i with
    | zero => simp [sdat] at e2
    | succ i => exact ih e e2 fun p hp => hl p (List.mem_append_right _ hp)
/-- the data that a result stands for, as it stands -/
theorem view {v : V} {r : Rk} {d : D} (hE : Env K pa F H σ δ Lf) (h : RR K F σ L1 v r) (hL : ∀ p ∈ L1, p ∈ Lf) (e : dat δ r = some d) : RpT K F H v d := by
  obtain ⟨L, w, s⟩ := hE
  cases h with
  | val h => cases e; exact .sc h
  | own h => cases e; exact .lst (w.at_ _ (List.mem_append_right _ (hL _ List.mem_cons_self))) h
  | bor h => exact s.at_ h e fun p hp => w.at_ p (List.mem_append_left _ hp)
  | raw => cases e
  | otup => cases e
  | tre => cases e
/-! ### slots set -/
theorem Sls.cat {x : Option V} {s : Sl} (h1 : Sls K pa F L1 [x] [s]) (h : Sls K pa F L σ δ) : Sls K pa F (L1 ++ L) (x :: σ) (s :: δ) := by
  cases h1 with
  | dead _ q => cases q; exact .dead _ h
  | val a q => cases q; exact .val a h
  | raw _ q => cases q; exact .raw _ h
  | own a q => cases q; exact .own a h
  | par a q => cases q; exact .par a h
  | obj g a q => cases q; exact .obj g a h
  | exc a b q => cases q; exact .exc a b h
  | exc0 q => cases q; exact .exc0 h
  | otup t a b c q => cases q; exact .otup t a b c h
  | tre a q => cases q; rw [List.append_nil]; exact .tre a h
theorem Sls.ex (h : Sls K pa F L σ δ) : ∀ (i : Nat) {s : Sl} {x : Option V} {L1 : List (Addr × HO)}, i < δ.length → Sls K pa F L1 [x] [s] → ∃ L2 L3, Sls K pa F L2 (σ.set i x) (δ.set i s) ∧ (L1 ++ L).Perm (L3 ++ L2) := by
  induction h with
  | nil => intro i s x L1 hi; simp at hi
  | dead y h ih =>
    intro i s x L1 hi h1
    cases i with
    | zero => exact ⟨_, [], h1.cat h, List.Perm.refl _⟩
    | succ i =>
      obtain ⟨L2, L3, a, b⟩ := ih i (by simpa using hi) h1
      exact ⟨L2, L3, .dead y a, b⟩
  | val y h ih =>
    intro i s x L1 hi h1
    cases i with
    | zero => exact ⟨_, [], h1.cat h, List.Perm.refl _⟩
    | succ i =>
      obtain ⟨L2, L3, a, b⟩ := ih i (by simpa using hi) h1
      exact ⟨L2, L3, .val y a, b⟩
  | raw y h ih =>
    intro i s x L1 hi h1
    cases i with
    | zero => exact ⟨_, [], h1.cat h, List.Perm.refl _⟩
    | succ i =>
      obtain ⟨L2, L3, a, b⟩ := ih i (by simpa using hi) h1
      exact ⟨L2, L3, .raw y a, b⟩
  | @own L σ δ c vs ds y h ih =>
    intro i s x L1 hi h1
    cases i with
    | zero => exact ⟨_, [(c, .lst vs)], h1.cat h, List.perm_middle⟩
    | succ i =>
      obtain ⟨L2, L3, a, b⟩ := ih i (by simpa using hi) h1
      exact ⟨_, L3, .own y a, (List.perm_middle.trans (b.cons _)).trans List.perm_middle.symm⟩
  | @par L σ δ vs ds y h ih =>
    intro i s x L1 hi h1
    cases i with
    | zero => exact ⟨_, [(pa, .lst vs)], h1.cat h, List.perm_middle⟩
    | succ i =>
      obtain ⟨L2, L3, a, b⟩ := ih i (by simpa using hi) h1
      exact ⟨_, L3, .par y a, (List.perm_middle.trans (b.cons _)).trans List.perm_middle.symm⟩
  | @obj L σ δ C dx vs fs g y h ih =>
    intro i s x L1 hi h1
    cases i with
    | zero => exact ⟨_, [(pa, .ins C dx vs)], h1.cat h, List.perm_middle⟩
    | succ i =>
      obtain ⟨L2, L3, a, b⟩ := ih i (by simpa using hi) h1
      exact ⟨_, L3, .obj g y a, (List.perm_middle.trans (b.cons _)).trans List.perm_middle.symm⟩
  | exc e y h ih =>
    intro i s x L1 hi h1
    cases i with
    | zero => exact ⟨_, [], h1.cat h, List.Perm.refl _⟩
    | succ i =>
      obtain ⟨L2, L3, a, b⟩ := ih i (by simpa using hi) h1
      exact ⟨L2, L3, .exc e y a, b⟩
  | exc0 h ih =>
    intro i s x L1 hi h1
    cases i with
    | zero => exact ⟨_, [], h1.cat h, List.Perm.refl _⟩
    | succ i =>
      obtain ⟨L2, L3, a, b⟩ := ih i (by simpa using hi) h1
      exact ⟨L2, L3, .exc0 a, b⟩
  | @otup L σ δ c T us vs ws p ds q t y1 y2 y3 h ih =>
    intro i s x L1 hi h1
    cases i with
    | zero => exact ⟨_, [(c, .lst vs)], h1.cat h, List.perm_middle⟩
    | succ i =>
      obtain ⟨L2, L3, a, b⟩ := ih i (by simpa using hi) h1
      exact ⟨_, L3, .otup t y1 y2 y3 a, (List.perm_middle.trans (b.cons _)).trans List.perm_middle.symm⟩
  | @tre L0 L σ δ v t y h ih =>
    intro i s x L1 hi h1
    cases i with
    | zero => exact ⟨_, L0, h1.cat h, by rw [← List.append_assoc, ← List.append_assoc]; exact List.perm_append_comm.append_right _⟩
    | succ i =>
      obtain ⟨L2, L3, a, b⟩ := ih i (by simpa using hi) h1
      refine ⟨_, L3, .tre y a, ?_⟩
      have e1 : (L1 ++ (L0 ++ L)).Perm (L0 ++ (L1 ++ L)) := by rw [← List.append_assoc, ← List.append_assoc]; exact List.perm_append_comm.append_right _
      have e2 : (L0 ++ (L3 ++ L2)).Perm (L3 ++ (L0 ++ L2)) := by rw [← List.append_assoc, ← List.append_assoc]; exact List.perm_append_comm.append_right _
      exact (e1.trans (b.append_left _)).trans e2
/-- slot i holds another thing now -/
theorem Env.put {i : Nat} {s : Sl} {x : Option V} (hE : Env K pa F H σ δ (L1 ++ Lf)) (hi : i < δ.length) (h1 : Sls K pa F L1 [x] [s]) : Env K pa F H (σ.set i x) (δ.set i s) Lf := by
  obtain ⟨L, w, sl⟩ := hE
  obtain ⟨L2, L3, a, b⟩ := sl.ex i hi h1
  refine ⟨L2, ?_, a⟩
  have p : (L ++ (L1 ++ Lf)).Perm (L3 ++ (L2 ++ Lf)) := by
    rw [← List.append_assoc, ← List.append_assoc]
    exact ((List.perm_append_comm).trans b).append_right _
  exact W.subP w p
end
end DL
/-! Expressions over data. -/
namespace DL
open PySem L2
abbrev DX := Addr → Option (List (Str × D)) → List Sl → Prop
abbrev DQ := Rk → List Sl → Prop
abbrev DTE := DX → List Sl → DQ → Prop
abbrev DTA := DX → List Sl → (List Rk → List Sl → Prop) → Prop
abbrev DTT := DX → List Sl → (Bool → List Sl → Prop) → Prop
abbrev DOp1 := D → (Rk → Prop) → Prop
abbrev DOp2 := D → D → (Rk → Prop) → Prop
structure XSim (K : PySem.W.Frag) (pa : Addr) (F : Hp) (Lf : List (Addr × HO)) (Wx : WX) (X : DX) : Prop where
  some_ : ∀ F' H' σ δ C d vs fs, Same F F' → Env K pa F' H' σ δ Lf → F' d = some (.xd vs) → Rpf K F' vs fs → X C (some fs) δ → Wx (.ref C) (some d) σ H'
  none_ : ∀ F' H' σ δ C, Same F F' → Env K pa F' H' σ δ Lf → X C none δ → Wx (.ref C) none σ H'
section
variable {K : PySem.W.Frag} {pa : Addr} {F F' H H' : Hp} {L L1 L2 L3 Lf : List (Addr × HO)} {σ : St} {δ δ' : List Sl} {Wx : WX} {X : DX}
theorem XSim.mono (s : Same F F') (h : XSim K pa F Lf Wx X) : XSim K pa F' Lf Wx X :=
  ⟨fun F2 H2 σ δ C d vs fs s2 => h.some_ F2 H2 σ δ C d vs fs (s.trans s2), fun F2 H2 σ δ C s2 => h.none_ F2 H2 σ δ C (s.trans s2)⟩
theorem XSim.frame (h : XSim K pa F Lf Wx X) : XSim K pa F (L1 ++ Lf) Wx X :=
  ⟨fun F2 H2 σ δ C d vs fs s2 E => h.some_ F2 H2 σ δ C d vs fs s2 E.drop, fun F2 H2 σ δ C s2 E => h.none_ F2 H2 σ δ C s2 E.drop⟩
theorem XSim.no : XSim K pa F Lf Wx fun _ _ _ => False := ⟨fun _ _ _ _ _ _ _ _ _ _ _ _ h => h.elim, fun _ _ _ _ _ _ _ h => h.elim⟩
/-- what a result leads to -/
def KE (K : PySem.W.Frag) (pa : Addr) (F : Hp) (Lf : List (Addr × HO)) (σ : St) (Q' : DQ) (Q : VK) : Prop :=
  ∀ F' H' v r δ' L1, Same F F' → Env K pa F' H' σ δ' (L1 ++ Lf) → RR K F' σ L1 v r → Q' r δ' → Q v H'
def DE (K : PySem.W.Frag) (pa : Addr) (Wx : WX) (te : TE) (de : DTE) : Prop :=
  ∀ F H σ δ Lf X Q' Q, Env K pa F H σ δ Lf → XSim K pa F Lf Wx X → de X δ Q' → KE K pa F Lf σ Q' Q → te σ H Q
inductive RRs (K : PySem.W.Frag) (F : Hp) (σ : St) : List (Addr × HO) → List V → List Rk → Prop
  | nil : RRs K F σ [] [] []
  | cons {L1 L2 : List (Addr × HO)} {v : V} {r : Rk} {vs : List V} {rs : List Rk} : RR K F σ L1 v r → RRs K F σ L2 vs rs → RRs K F σ (L2 ++ L1) (v :: vs) (r :: rs)
theorem RRs.mono {vs : List V} {rs : List Rk} (s : Same F F') (h : RRs K F σ L vs rs) : RRs K F' σ L vs rs := by
  induction h with
  | nil => exact .nil
  | cons h _ ih => exact .cons (h.mono s) ih
def DA (K : PySem.W.Frag) (pa : Addr) (Wx : WX) (ta : TA) (da : DTA) : Prop :=
  ∀ F H σ δ Lf X Q' Q, Env K pa F H σ δ Lf → XSim K pa F Lf Wx X → da X δ Q' → (∀ F' H' vs rs δ' L1, Same F F' → Env K pa F' H' σ δ' (L1 ++ Lf) → RRs K F' σ L1 vs rs → Q' rs δ' → Q vs H') → ta σ H Q
def DT (K : PySem.W.Frag) (pa : Addr) (Wx : WX) (tt : TT) (dt : DTT) : Prop :=
  ∀ F H σ δ Lf X (Q' : Bool → List Sl → Prop) Q, Env K pa F H σ δ Lf → XSim K pa F Lf Wx X → dt X δ Q' → (∀ F' H' b δ', Same F F' → Env K pa F' H' σ δ' Lf → Q' b δ' → Q b H') → tt σ H Q
/-! ### names, constants -/
theorem Sls.slot (h : Sls K pa F L σ δ) : ∀ {i : Nat} {s : Sl}, δ[i]? = some s → (∀ d, s = .val d → ∃ v, σ[i]? = some (some v) ∧ Rp K F v d) ∧ (∀ v, s = .raw v → σ[i]? = some (some v)) ∧ ((sdat s).isSome → ∃ v, σ[i]? = some (some v)) ∧
    (∀ a d C fs, s = .exc a d C fs → σ[i]? = some (some (.ref a)) ∧ ∃ vs, F d = some (.xd vs) ∧ Rpf K F vs fs) ∧ (∀ a C, s = .exc0 a C → σ[i]? = some (some (.ref a))) := by
  induction h with
  | nil => intro i s e; simp at e
  | dead x _ ih =>
    intro i s e
    cases i with
    | zero => cases e; refine ⟨?_, ?_, ?_, ?_, ?_⟩ <;> simp [sdat]
    | succ i => exact ih e
  | val hv _ ih =>
    intro i s e
    cases i with
    | zero => cases e; exact ⟨fun d z => (by cases z; exact ⟨_, rfl, hv⟩), fun v z => (by cases z), fun _ => ⟨_, rfl⟩, (fun _ _ _ _ z => by cases z), (fun _ _ z => by cases z)⟩
    | succ i => exact ih e
  | raw hv _ ih =>
    intro i s e
    cases i with
    | zero => cases e; exact ⟨fun d z => (by cases z), fun v z => (by cases z; rfl), fun _ => ⟨_, rfl⟩, (fun _ _ _ _ z => by cases z), (fun _ _ z => by cases z)⟩
    | succ i => exact ih e
  | own hv _ ih =>
    intro i s e
    cases i with
    | zero => cases e; exact ⟨fun d z => (by cases z), fun v z => (by cases z), fun _ => ⟨_, rfl⟩, (fun _ _ _ _ z => by cases z), (fun _ _ z => by cases z)⟩
    | succ i => exact ih e
  | par hv _ ih =>
    intro i s e
    cases i with
    | zero => cases e; exact ⟨fun d z => (by cases z), fun v z => (by cases z), fun _ => ⟨_, rfl⟩, (fun _ _ _ _ z => by cases z), (fun _ _ z => by cases z)⟩
    | succ i => exact ih e
  | obj _ hv _ ih =>
    intro i s e
    cases i with
    | zero => cases e; exact ⟨fun d z => (by cases z), fun v z => (by cases z), fun _ => ⟨_, rfl⟩, (fun _ _ _ _ z => by cases z), (fun _ _ z => by cases z)⟩
    | succ i => exact ih e
  | exc hd hv _ ih =>
    intro i s e
    cases i with
    | zero => cases e; exact ⟨fun d z => (by cases z), fun v z => (by cases z), fun _ => ⟨_, rfl⟩, (fun _ _ _ _ z => by cases z; exact ⟨rfl, _, hd, hv⟩), (fun _ _ z => by cases z)⟩
    | succ i => exact ih e
  | exc0 _ ih =>
    intro i s e
    cases i with
    | zero => cases e; exact ⟨fun d z => (by cases z), fun v z => (by cases z), fun _ => ⟨_, rfl⟩, (fun _ _ _ _ z => by cases z), (fun _ _ z => by cases z; rfl)⟩
    | succ i => exact ih e
  | otup _ _ _ _ _ ih =>
    intro i s e
    cases i with
    | zero => cases e; exact ⟨fun d z => (by cases z), fun v z => (by cases z), fun _ => ⟨_, rfl⟩, (fun _ _ _ _ z => by cases z), (fun _ _ z => by cases z)⟩
    | succ i => exact ih e
  | tre _ _ ih =>
    intro i s e
    cases i with
    | zero => cases e; exact ⟨fun d z => (by cases z), fun v z => (by cases z), fun _ => ⟨_, rfl⟩, (fun _ _ _ _ z => by cases z), (fun _ _ z => by cases z)⟩
    | succ i => exact ih e
theorem p_up {α : Type} {A B C D : List α} (h : B.Perm (C ++ D)) : (A ++ B).Perm (C ++ (A ++ D)) := by
  refine (h.append_left A).trans ?_
  rw [← List.append_assoc, ← List.append_assoc]
  exact List.perm_append_comm.append_right _
/-- slot i by itself -/
theorem Sls.out (h : Sls K pa F L σ δ) : ∀ {i : Nat} {s : Sl}, δ[i]? = some s → ∃ x L0 L', σ[i]? = some x ∧ L.Perm (L0 ++ L') ∧ Sls K pa F L0 [x] [s] ∧ ∀ F' s', Same F F' → Sls K pa F' [] [x] [s'] → Sls K pa F' L' σ (δ.set i s') := by
  induction h with
  | nil => intro i s e; simp at e
  | dead x h ih =>
    intro i s e
    cases i with
    | zero => cases e; exact ⟨x, [], _, rfl, List.Perm.refl _, .dead x .nil, fun F' s' f z => z.cat (h.mono f)⟩
    | succ i => obtain ⟨x, L0, L', h1, h2, h3, h4⟩ := ih e; exact ⟨x, L0, L', h1, h2, h3, fun F' s' f z => .dead _ (h4 F' s' f z)⟩
  | val y h ih =>
    intro i s e
    cases i with
    | zero => cases e; exact ⟨_, [], _, rfl, List.Perm.refl _, .val y .nil, fun F' s' f z => z.cat (h.mono f)⟩
    | succ i => obtain ⟨x, L0, L', h1, h2, h3, h4⟩ := ih e; exact ⟨x, L0, L', h1, h2, h3, fun F' s' f z => .val (y.mono f) (h4 F' s' f z)⟩
  | raw y h ih =>
    intro i s e
    cases i with
    | zero => cases e; exact ⟨_, [], _, rfl, List.Perm.refl _, .raw y .nil, fun F' s' f z => z.cat (h.mono f)⟩
    | succ i => obtain ⟨x, L0, L', h1, h2, h3, h4⟩ := ih e; exact ⟨x, L0, L', h1, h2, h3, fun F' s' f z => .raw y (h4 F' s' f z)⟩
  | @own L σ δ a vs ds y h ih =>
    intro i s e
    cases i with
    | zero => cases e; exact ⟨_, [(a, .lst vs)], _, rfl, List.Perm.refl _, .own y .nil, fun F' s' f z => z.cat (h.mono f)⟩
    | succ i => obtain ⟨x, L0, L', h1, h2, h3, h4⟩ := ih e; exact ⟨x, L0, _, h1, p_up (A := [(a, HO.lst vs)]) h2, h3, fun F' s' f z => .own (y.mono f) (h4 F' s' f z)⟩
  | @par L σ δ vs ds y h ih =>
    intro i s e
    cases i with
    | zero => cases e; exact ⟨_, [(pa, .lst vs)], _, rfl, List.Perm.refl _, .par y .nil, fun F' s' f z => z.cat (h.mono f)⟩
    | succ i => obtain ⟨x, L0, L', h1, h2, h3, h4⟩ := ih e; exact ⟨x, L0, _, h1, p_up (A := [(pa, HO.lst vs)]) h2, h3, fun F' s' f z => .par (y.mono f) (h4 F' s' f z)⟩
  | @obj L σ δ C dx vs fs g y h ih =>
    intro i s e
    cases i with
    | zero => cases e; exact ⟨_, [(pa, .ins C dx vs)], _, rfl, List.Perm.refl _, .obj g y .nil, fun F' s' f z => z.cat (h.mono f)⟩
    | succ i => obtain ⟨x, L0, L', h1, h2, h3, h4⟩ := ih e; exact ⟨x, L0, _, h1, p_up (A := [(pa, HO.ins C dx vs)]) h2, h3, fun F' s' f z => .obj g (y.mono f) (h4 F' s' f z)⟩
  | exc hd y h ih =>
    intro i s e
    cases i with
    | zero => cases e; exact ⟨_, [], _, rfl, List.Perm.refl _, .exc hd y .nil, fun F' s' f z => z.cat (h.mono f)⟩
    | succ i => obtain ⟨x, L0, L', h1, h2, h3, h4⟩ := ih e; exact ⟨x, L0, L', h1, h2, h3, fun F' s' f z => .exc (f _ _ hd) (y.mono f) (h4 F' s' f z)⟩
  | exc0 h ih =>
    intro i s e
    cases i with
    | zero => cases e; exact ⟨_, [], _, rfl, List.Perm.refl _, .exc0 .nil, fun F' s' f z => z.cat (h.mono f)⟩
    | succ i => obtain ⟨x, L0, L', h1, h2, h3, h4⟩ := ih e; exact ⟨x, L0, L', h1, h2, h3, fun F' s' f z => .exc0 (h4 F' s' f z)⟩
  | @otup L σ δ a T us vs ws p ds q t y1 y2 y3 h ih =>
    intro i s e
    cases i with
    | zero => cases e; exact ⟨_, [(a, .lst vs)], _, rfl, List.Perm.refl _, .otup t y1 y2 y3 .nil, fun F' s' f z => z.cat (h.mono f)⟩
    | succ i => obtain ⟨x, L0, L', h1, h2, h3, h4⟩ := ih e; exact ⟨x, L0, _, h1, p_up (A := [(a, HO.lst vs)]) h2, h3, fun F' s' f z => .otup (f.seqT t) (y1.mono f) (y2.mono f) (y3.mono f) (h4 F' s' f z)⟩
  | @tre L0' L σ δ v t y h ih =>
    intro i s e
    cases i with
    | zero => cases e; exact ⟨_, L0', _, rfl, List.Perm.refl _, by have := Sls.tre (L := []) (δ := []) (σ := []) (pa := pa) y .nil; rwa [List.append_nil] at this, fun F' s' f z => z.cat (h.mono f)⟩
    | succ i => obtain ⟨x, L0, L', h1, h2, h3, h4⟩ := ih e; exact ⟨x, L0, _, h1, p_up h2, h3, fun F' s' f z => .tre (y.mono f) (h4 F' s' f z)⟩
/-- slot i, a tuple of the frame's own with one list in it -/
theorem Sls.takeO (h : Sls K pa F L σ δ) : ∀ {i : Nat} {p ds q : List D}, δ[i]? = some (.otup p ds q) → ∃ a T us vs ws L', σ[i]? = some (some (.ref T)) ∧ L.Perm ((a, .lst vs) :: L') ∧ SqT K F T (us ++ .ref a :: ws) ∧ Rps K F us p ∧ Rps K F vs ds ∧ Rps K F ws q ∧
    ∀ F' s, Same F F' → (s = .dead ∨ (s = .val (.tup (p ++ .lst ds :: q)) ∧ F' a = some (.lst vs))) → Sls K pa F' L' σ (δ.set i s) := by
  induction h with
  | nil => intro i p ds q e; simp at e
  | dead x h ih =>
    intro i p ds q e
    cases i with
    | zero => cases e
    | succ i => obtain ⟨a, T, us, vs, ws, L', h1, h2, h3, h4, h5, h6, h7⟩ := ih e; exact ⟨a, T, us, vs, ws, L', h1, h2, h3, h4, h5, h6, fun F' s f z => .dead x (h7 F' s f z)⟩
  | val y h ih =>
    intro i p ds q e
    cases i with
    | zero => cases e
    | succ i => obtain ⟨a, T, us, vs, ws, L', h1, h2, h3, h4, h5, h6, h7⟩ := ih e; exact ⟨a, T, us, vs, ws, L', h1, h2, h3, h4, h5, h6, fun F' s f z => .val (y.mono f) (h7 F' s f z)⟩
  | raw y h ih =>
    intro i p ds q e
    cases i with
    | zero => cases e
    | succ i => obtain ⟨a, T, us, vs, ws, L', h1, h2, h3, h4, h5, h6, h7⟩ := ih e; exact ⟨a, T, us, vs, ws, L', h1, h2, h3, h4, h5, h6, fun F' s f z => .raw y (h7 F' s f z)⟩
  | own y h ih =>
    intro i p ds q e
    cases i with
    | zero => cases e
    | succ i => obtain ⟨a, T, us, vs, ws, L', h1, h2, h3, h4, h5, h6, h7⟩ := ih e; exact ⟨a, T, us, vs, ws, _, h1, (h2.cons _).trans (List.Perm.swap _ _ _), h3, h4, h5, h6, fun F' s f z => .own (y.mono f) (h7 F' s f z)⟩
  | par y h ih =>
    intro i p ds q e
    cases i with
    | zero => cases e
    | succ i => obtain ⟨a, T, us, vs, ws, L', h1, h2, h3, h4, h5, h6, h7⟩ := ih e; exact ⟨a, T, us, vs, ws, _, h1, (h2.cons _).trans (List.Perm.swap _ _ _), h3, h4, h5, h6, fun F' s f z => .par (y.mono f) (h7 F' s f z)⟩
  | obj g y h ih =>
    intro i p ds q e
    cases i with
    | zero => cases e
    | succ i => obtain ⟨a, T, us, vs, ws, L', h1, h2, h3, h4, h5, h6, h7⟩ := ih e; exact ⟨a, T, us, vs, ws, _, h1, (h2.cons _).trans (List.Perm.swap _ _ _), h3, h4, h5, h6, fun F' s f z => .obj g (y.mono f) (h7 F' s f z)⟩
  | exc hd y h ih =>
    intro i p ds q e
    cases i with
    | zero => cases e
    | succ i => obtain ⟨a, T, us, vs, ws, L', h1, h2, h3, h4, h5, h6, h7⟩ := ih e; exact ⟨a, T, us, vs, ws, L', h1, h2, h3, h4, h5, h6, fun F' s f z => .exc (f _ _ hd) (y.mono f) (h7 F' s f z)⟩
  | exc0 h ih =>
    intro i p ds q e
    cases i with
    | zero => cases e
    | succ i => obtain ⟨a, T, us, vs, ws, L', h1, h2, h3, h4, h5, h6, h7⟩ := ih e; exact ⟨a, T, us, vs, ws, L', h1, h2, h3, h4, h5, h6, fun F' s f z => .exc0 (h7 F' s f z)⟩
  | @otup L σ δ c T us vs ws p0 ds0 q0 t y1 y2 y3 h ih =>
    intro i p ds q e
    cases i with
    | zero =>
      cases e
      refine ⟨c, T, us, vs, ws, L, rfl, List.Perm.refl _, t, y1, y2, y3, fun F' s f z => ?_⟩
      rcases z with rfl | ⟨rfl, z⟩
      · exact .dead _ (h.mono f)
      · exact .val (.tup (f.seqT t) ((y1.mono f).append (.cons (.lst z (y2.mono f)) (y3.mono f)))) (h.mono f)
    | succ i => obtain ⟨a, T, us, vs, ws, L', h1, h2, h3, h4, h5, h6, h7⟩ := ih e; exact ⟨a, T, us, vs, ws, _, h1, (h2.cons _).trans (List.Perm.swap _ _ _), h3, h4, h5, h6, fun F' s f z => .otup (f.seqT t) (y1.mono f) (y2.mono f) (y3.mono f) (h7 F' s f z)⟩
  | @tre L9 L σ δ v t y h ih =>
    intro i p ds q e
    cases i with
    | zero => cases e
    | succ i => obtain ⟨a, T, us, vs, ws, L', h1, h2, h3, h4, h5, h6, h7⟩ := ih e; exact ⟨a, T, us, vs, ws, L9 ++ L', h1, p_up (C := [_]) h2, h3, h4, h5, h6, fun F' s f z => .tre (y.mono f) (h7 F' s f z)⟩
def varK (i : Nat) (δ : List Sl) (Q : DQ) : Option Sl → Prop
  | some (.val d) => Q (.val d) δ
  | some (.raw v) => Q (.raw v) δ
  | some (.own _) => Q (.bor i) δ
  | some (.par _) => Q (.bor i) δ
  | some (.obj _ _) => Q (.bor i) δ
  | some (.exc a _ _ _) => Q (.raw (.ref a)) δ
  | some (.exc0 a _) => Q (.raw (.ref a)) δ
  | some (.otup _ _ _) => Q (.bor i) δ
  | some (.tre _) => Q (.bor i) δ
  | _ => False
def dVar (i : Nat) : DTE := fun _ δ Q => varK i δ Q δ[i]?
theorem DE.var (i : Nat) : DE K pa Wx (tVar i) (dVar i) := by
  intro F H σ δ Lf X Q' Q hE hX h k
  obtain ⟨L, w, s⟩ := id hE
  have fin : ∀ v r, σ[i]? = some (some v) → RR K F σ [] v r → Q' r δ → tVar i σ H Q := fun v r e rr q => ⟨v, e, k F H v r δ [] (Same.refl _) hE rr q⟩
  unfold dVar at h
  cases e : δ[i]? with
  | none => rw [e] at h; exact h.elim
  | some sl =>
    rw [e] at h
    obtain ⟨h1, h2, h3, h4, h5⟩ := s.slot e
    cases sl with
    | dead => exact h.elim
    | val d => obtain ⟨v, e1, e2⟩ := h1 d rfl; exact fin v _ e1 (.val e2) h
    | raw v => exact fin v _ (h2 v rfl) (.raw v) h
    | own ds => obtain ⟨v, e1⟩ := h3 rfl; exact fin v _ e1 (.bor e1) h
    | par ds => obtain ⟨v, e1⟩ := h3 rfl; exact fin v _ e1 (.bor e1) h
    | obj C fs => obtain ⟨v, e1⟩ := h3 rfl; exact fin v _ e1 (.bor e1) h
    | exc a d C fs => exact fin _ _ (h4 a d C fs rfl).1 (.raw _) h
    | exc0 a C => exact fin _ _ (h5 a C rfl) (.raw _) h
    | otup p ds q => obtain ⟨a, T, us, vs, ws, L', e1, _⟩ := s.takeO e; exact fin _ _ e1 (.bor e1) h
    | tre t => obtain ⟨x, L0, L', e1, _, e3, _⟩ := s.out e; cases e3; exact fin _ _ e1 (.bor e1) h
def dC (d : D) : DTE := fun _ δ Q => Q (.val d) δ
def dRaw (v : V) : DTE := fun _ δ Q => Q (.raw v) δ
theorem DE.c {v : V} {d : D} (h : ∀ F, Rp K F v d) : DE K pa Wx (tC v) (dC d) := fun F H σ δ Lf X Q' Q hE hX q k => k F H v _ δ [] (Same.refl _) hE (.val (h F)) q
theorem DE.raw (v : V) : DE K pa Wx (tC v) (dRaw v) := fun F H σ δ Lf X Q' Q hE hX q k => k F H v _ δ [] (Same.refl _) hE (.raw v) q
/-! ### what operators ask -/
def KO (K : PySem.W.Frag) (F : Hp) (L : List (Addr × HO)) (Q' : Rk → Prop) (Q : VK) : Prop :=
  ∀ F' H' u r L3, Same F F' → W F' (L3 ++ L) H' → (∀ σ : St, RR K F' σ L3 u r) → Q' r → Q u H'
def Op1 (K : PySem.W.Frag) (r : V → Hp → VK → Prop) (o : DOp1) : Prop := ∀ F H v d L Q' Q, W F L H → RpT K F H v d → o d Q' → KO K F L Q' Q → r v H Q
def Op2 (K : PySem.W.Frag) (r : R2) (o : DOp2) : Prop := ∀ F H v w d e L Q' Q, W F L H → RpT K F H v d → RpT K F H w e → o d e Q' → KO K F L Q' Q → r v w H Q
def op1K (o : DOp1) (r : Rk) (δ : List Sl) (Q : DQ) : Prop := match dat δ r with
  | some d => o d fun u => Q u δ
  | none => False
def op2K (o : DOp2) (r1 r2 : Rk) (δ : List Sl) (Q : DQ) : Prop := match dat δ r1, dat δ r2 with
  | some d, some e => o d e fun u => Q u δ
  | _, _ => False
def dOp (o : DOp2) (da db : DTE) : DTE := fun X δ Q => da X δ fun r1 δ1 => db X δ1 fun r2 δ2 => op2K o r1 r2 δ2 Q
def dUn (o : DOp1) (da : DTE) : DTE := fun X δ Q => da X δ fun r1 δ1 => op1K o r1 δ1 Q
theorem p_sw (A B C : List (Addr × HO)) : (A ++ (B ++ C)).Perm (B ++ (A ++ C)) := by
  rw [← List.append_assoc, ← List.append_assoc]
  exact List.perm_append_comm.append_right _
/-- behind an operator: the operands are of no more use -/
theorem KO.of {Q' : DQ} {Q : VK} {LT : List (Addr × HO)} (k : KE K pa F Lf σ Q' Q) (hs : Sls K pa F L σ δ) : KO K F (L ++ (LT ++ Lf)) (fun r => Q' r δ) Q := by
  intro F' H' u r L3 s w rr q
  refine k F' H' u r δ L3 s ⟨L, ?_, hs.mono s⟩ (rr σ) q
  refine W.subP (L2 := LT) w ?_
  exact ((List.Perm.append_left _ (p_sw L LT Lf)).trans (p_sw L3 LT (L ++ Lf))).trans (List.Perm.append_left _ (p_sw L3 L Lf))
theorem DE.un {r : V → Hp → VK → Prop} {o : DOp1} {ta : TE} {da : DTE} (ho : Op1 K r o) (ha : DE K pa Wx ta da) : DE K pa Wx (tUn r ta) (dUn o da) := by
  intro F H σ δ Lf X Q' Q hE hX h k
  refine ha F H σ δ Lf X _ _ hE hX h fun F1 H1 v r1 δ1 L1 s1 E1 R1 q => ?_
  unfold op1K at q
  cases e : dat δ1 r1 with
  | none => rw [e] at q; exact q.elim
  | some d =>
    rw [e] at q
    have vw := view E1 R1 (fun p hp => List.mem_append_left _ hp) e
    obtain ⟨L, w, sl⟩ := E1
    exact ho F1 H1 v d _ _ Q w vw q (KO.of (fun F' H' v r δ' L1 s => k F' H' v r δ' L1 (s1.trans s)) sl)
theorem DE.op {r : R2} {o : DOp2} {ta tb : TE} {da db : DTE} (ho : Op2 K r o) (ha : DE K pa Wx ta da) (hb : DE K pa Wx tb db) : DE K pa Wx (tOp r ta tb) (dOp o da db) := by
  intro F H σ δ Lf X Q' Q hE hX h k
  refine ha F H σ δ Lf X _ _ hE hX h fun F1 H1 v r1 δ1 L1 s1 E1 R1 q => ?_
  refine hb F1 H1 σ δ1 (L1 ++ Lf) X _ _ E1 (hX.mono s1).frame q fun F2 H2 w r2 δ2 L2 s2 E2 R2 q => ?_
  unfold op2K at q
  cases e : dat δ2 r1 with
  | none => rw [e] at q; exact q.elim
  | some d =>
    cases e2 : dat δ2 r2 with
    | none => rw [e, e2] at q; exact q.elim
    | some d2 =>
      rw [e, e2] at q
      have vw := view E2 (R1.mono s2) (fun p hp => List.mem_append_right _ (List.mem_append_left _ hp)) e
      have vw2 := view E2 R2 (fun p hp => List.mem_append_left _ hp) e2
      obtain ⟨L, ww, sl⟩ := E2
      rw [← List.append_assoc L2] at ww
      exact ho F2 H2 v w d d2 _ _ Q ww vw vw2 q (KO.of (fun F' H' v r δ' L1 s => k F' H' v r δ' L1 (s1.trans (s2.trans s))) sl)
/-! ### tests -/
def isB : Option D → (Bool → Prop) → Prop
  | some (.bl b), Q => Q b
  | _, _ => False
def dTest (de : DTE) : DTT := fun X δ Q => de X δ fun r δ1 => isB (dat δ1 r) fun b => Q b δ1
theorem DT.test {te : TE} {de : DTE} (h : DE K pa Wx te de) : DT K pa Wx (tTest te) (dTest de) := by
  intro F H σ δ Lf X Q' Q hE hX q k
  refine h F H σ δ Lf X _ _ hE hX q fun F1 H1 v r δ1 L1 s1 E1 R1 q => ?_
  cases e : dat δ1 r with
  | none => rw [e] at q; exact q.elim
  | some d =>
    rw [e] at q
    have vw := view E1 R1 (fun p hp => List.mem_append_left _ hp) e
    cases d with
    | bl b => exact ⟨b, vw.blD, k F1 H1 b δ1 s1 E1.drop q⟩
    | _ => exact q.elim
theorem DT.tb {te : TE} {de : DTE} (h : DE K pa Wx te de) : DT K pa Wx (tB te) (dTest de) := DT.test h
def truD : Option D → (Bool → Prop) → Prop
  | some (.bl b), Q => Q b
  | some (.int i), Q => Q (i != 0)
  | some .non, Q => Q false
  | some (.lst ds), Q => Q (!ds.isEmpty)
  | some (.tup ds), Q => Q (!ds.isEmpty)
  | _, _ => False
def dTr (de : DTE) : DTT := fun X δ Q => de X δ fun r δ1 => truD (dat δ1 r) fun b => Q b δ1
theorem DT.tr {te : TE} {de : DTE} (h : DE K pa Wx te de) : DT K pa Wx (tTr K te) (dTr de) := by
  intro F H σ δ Lf X Q' Q hE hX q k
  refine h F H σ δ Lf X _ _ hE hX q fun F1 H1 v r δ1 L1 s1 E1 R1 q => ?_
  cases e : dat δ1 r with
  | none => rw [e] at q; exact q.elim
  | some d =>
    rw [e] at q
    have vw := view E1 R1 (fun p hp => List.mem_append_left _ hp) e
    cases d with
    | bl b => rw [vw.blD]; exact k F1 H1 b δ1 s1 E1.drop q
    | int i => rw [vw.intD]; exact k F1 H1 _ δ1 s1 E1.drop q
    | non => rw [vw.nonD]; exact k F1 H1 _ δ1 s1 E1.drop q
    | lst ds =>
      obtain ⟨a, vs, rfl, h1, h2⟩ := vw.lstD E1.fr
      have e2 : vs.isEmpty = ds.isEmpty := by cases h2 <;> rfl
      exact w_trL (SqL.of h1) (by rw [e2]; exact k F1 H1 _ δ1 s1 E1.drop q)
    | tup ds =>
      obtain ⟨a, vs, rfl, h1, h2⟩ := vw.tupD
      have e2 : vs.isEmpty = ds.isEmpty := by cases h2 <;> rfl
      exact w_trT (E1.fr.seqT h1) (by rw [e2]; exact k F1 H1 _ δ1 s1 E1.drop q)
    | _ => exact q.elim
def dAndK (b : DTT) (X : DX) (Q : Bool → List Sl → Prop) (c : Bool) (δ : List Sl) : Prop := if c = true then b X δ Q else Q false δ
def dOrK (b : DTT) (X : DX) (Q : Bool → List Sl → Prop) (c : Bool) (δ : List Sl) : Prop := if c = true then Q true δ else b X δ Q
def dAnd (a b : DTT) : DTT := fun X δ Q => a X δ fun c δ1 => dAndK b X Q c δ1
def dOr (a b : DTT) : DTT := fun X δ Q => a X δ fun c δ1 => dOrK b X Q c δ1
def dNot (a : DTT) : DTT := fun X δ Q => a X δ fun c δ1 => Q (!c) δ1
theorem DT.and {t u : TT} {a b : DTT} (h : DT K pa Wx t a) (h2 : DT K pa Wx u b) : DT K pa Wx (tAnd t u) (dAnd a b) := by
  intro F H σ δ Lf X Q' Q hE hX q k
  refine h F H σ δ Lf X _ _ hE hX q fun F1 H1 c δ1 s1 E1 q => ?_
  cases c with
  | true => exact h2 F1 H1 σ δ1 Lf X _ _ E1 (hX.mono s1) q fun F2 H2 b δ2 s2 E2 q => k F2 H2 b δ2 (s1.trans s2) E2 q
  | false => exact k F1 H1 _ δ1 s1 E1 q
theorem DT.or {t u : TT} {a b : DTT} (h : DT K pa Wx t a) (h2 : DT K pa Wx u b) : DT K pa Wx (tOr t u) (dOr a b) := by
  intro F H σ δ Lf X Q' Q hE hX q k
  refine h F H σ δ Lf X _ _ hE hX q fun F1 H1 c δ1 s1 E1 q => ?_
  cases c with
  | false => exact h2 F1 H1 σ δ1 Lf X _ _ E1 (hX.mono s1) q fun F2 H2 b δ2 s2 E2 q => k F2 H2 b δ2 (s1.trans s2) E2 q
  | true => exact k F1 H1 _ δ1 s1 E1 q
theorem DT.not {t : TT} {a : DTT} (h : DT K pa Wx t a) : DT K pa Wx (tNot t) (dNot a) := by
  intro F H σ δ Lf X Q' Q hE hX q k
  exact h F H σ δ Lf X _ _ hE hX q fun F1 H1 c δ1 s1 E1 q => k F1 H1 _ δ1 s1 E1 q
def dYes : DTT := fun _ δ Q => Q true δ
theorem DT.yes : DT K pa Wx tYes dYes := fun F H σ δ Lf X Q' Q hE hX q k => k F H true δ (Same.refl _) hE q
/-- values and, or, not; if-else -/
def dAndVK (b : DTE) (X : DX) (Q : DQ) (δ : List Sl) (c : Bool) : Prop := if c = true then b X δ Q else Q (.val (.bl false)) δ
def dOrVK (b : DTE) (X : DX) (Q : DQ) (δ : List Sl) (c : Bool) : Prop := if c = true then Q (.val (.bl true)) δ else b X δ Q
def dAndV (a b : DTE) : DTE := fun X δ Q => a X δ fun r δ1 => isB (dat δ1 r) (dAndVK b X Q δ1)
def dOrV (a b : DTE) : DTE := fun X δ Q => a X δ fun r δ1 => isB (dat δ1 r) (dOrVK b X Q δ1)
def dNotV (a : DTE) : DTE := fun X δ Q => a X δ fun r δ1 => isB (dat δ1 r) fun c => Q (.val (.bl (!c))) δ1
theorem DE.andV {t u : TE} {a b : DTE} (h : DE K pa Wx t a) (h2 : DE K pa Wx u b) : DE K pa Wx (tAndV t u) (dAndV a b) := by
  intro F H σ δ Lf X Q' Q hE hX q k
  refine h F H σ δ Lf X _ _ hE hX q fun F1 H1 v r δ1 L1 s1 E1 R1 q => ?_
  cases e : dat δ1 r with
  | none => rw [e] at q; exact q.elim
  | some d =>
    rw [e] at q
    have vw := view E1 R1 (fun p hp => List.mem_append_left _ hp) e
    cases d with
    | bl c =>
      refine ⟨c, vw.blD, ?_⟩
      cases c with
      | true => exact h2 F1 H1 σ δ1 Lf X _ _ E1.drop (hX.mono s1) q fun F2 H2 v2 r2 δ2 L2 s2 E2 R2 q => k F2 H2 v2 r2 δ2 L2 (s1.trans s2) E2 R2 q
      | false => exact k F1 H1 _ _ δ1 [] s1 E1.drop (.val (.bl false)) q
    | _ => exact q.elim
theorem DE.orV {t u : TE} {a b : DTE} (h : DE K pa Wx t a) (h2 : DE K pa Wx u b) : DE K pa Wx (tOrV t u) (dOrV a b) := by
  intro F H σ δ Lf X Q' Q hE hX q k
  refine h F H σ δ Lf X _ _ hE hX q fun F1 H1 v r δ1 L1 s1 E1 R1 q => ?_
  cases e : dat δ1 r with
  | none => rw [e] at q; exact q.elim
  | some d =>
    rw [e] at q
    have vw := view E1 R1 (fun p hp => List.mem_append_left _ hp) e
    cases d with
    | bl c =>
      refine ⟨c, vw.blD, ?_⟩
      cases c with
      | false => exact h2 F1 H1 σ δ1 Lf X _ _ E1.drop (hX.mono s1) q fun F2 H2 v2 r2 δ2 L2 s2 E2 R2 q => k F2 H2 v2 r2 δ2 L2 (s1.trans s2) E2 R2 q
      | true => exact k F1 H1 _ _ δ1 [] s1 E1.drop (.val (.bl true)) q
    | _ => exact q.elim
theorem DE.notV {t : TE} {a : DTE} (h : DE K pa Wx t a) : DE K pa Wx (tNotV t) (dNotV a) := by
  intro F H σ δ Lf X Q' Q hE hX q k
  refine h F H σ δ Lf X _ _ hE hX q fun F1 H1 v r δ1 L1 s1 E1 R1 q => ?_
  cases e : dat δ1 r with
  | none => rw [e] at q; exact q.elim
  | some d =>
    rw [e] at q
    have vw := view E1 R1 (fun p hp => List.mem_append_left _ hp) e
    cases d with
    | bl c => exact ⟨c, vw.blD, k F1 H1 _ _ δ1 [] s1 E1.drop (.val (.bl _)) q⟩
    | _ => exact q.elim
def dIfK (a b : DTE) (X : DX) (Q : DQ) (c : Bool) (δ : List Sl) : Prop := if c = true then a X δ Q else b X δ Q
def dIf (c : DTT) (a b : DTE) : DTE := fun X δ Q => c X δ fun k δ1 => dIfK a b X Q k δ1
theorem DE.ite {tt : TT} {ta tb : TE} {c : DTT} {a b : DTE} (hc : DT K pa Wx tt c) (h1 : DE K pa Wx ta a) (h2 : DE K pa Wx tb b) : DE K pa Wx (tIf tt ta tb) (dIf c a b) := by
  intro F H σ δ Lf X Q' Q hE hX q k
  refine hc F H σ δ Lf X _ _ hE hX q fun F1 H1 c δ1 s1 E1 q => ?_
  cases c with
  | true => exact h1 F1 H1 σ δ1 Lf X _ _ E1 (hX.mono s1) q fun F2 H2 v2 r2 δ2 L2 s2 E2 R2 q => k F2 H2 v2 r2 δ2 L2 (s1.trans s2) E2 R2 q
  | false => exact h2 F1 H1 σ δ1 Lf X _ _ E1 (hX.mono s1) q fun F2 H2 v2 r2 δ2 L2 s2 E2 R2 q => k F2 H2 v2 r2 δ2 L2 (s1.trans s2) E2 R2 q
/-- a < b < c -/
def dChK (o2 : DOp2) (c : DTE) (X : DX) (Q : DQ) (r2 : Rk) (δ : List Sl) (k : Bool) : Prop := if k = true then c X δ fun r3 δ3 => op2K o2 r2 r3 δ3 Q else Q (.val (.bl false)) δ
def dChain (o1 o2 : DOp2) (a b c : DTE) : DTE := fun X δ Q => a X δ fun r1 δ1 => b X δ1 fun r2 δ2 => op2K o1 r1 r2 δ2 fun r _ => isB (dat δ2 r) (dChK o2 c X Q r2 δ2)
theorem DE.chain {r r' : R2} {o1 o2 : DOp2} {ta tb tc : TE} {a b c : DTE} (ho : Op2 K r o1) (ho' : Op2 K r' o2) (ha : DE K pa Wx ta a) (hb : DE K pa Wx tb b) (hc : DE K pa Wx tc c) : DE K pa Wx (tChain r r' ta tb tc) (dChain o1 o2 a b c) := by
  intro F H σ δ Lf X Q' Q hE hX h k
  refine ha F H σ δ Lf X _ _ hE hX h fun F1 H1 v r1 δ1 L1 s1 E1 R1 q => ?_
  refine hb F1 H1 σ δ1 (L1 ++ Lf) X _ _ E1 (hX.mono s1).frame q fun F2 H2 w r2 δ2 L2 s2 E2 R2 q => ?_
  unfold op2K at q
  cases e : dat δ2 r1 with
  | none => rw [e] at q; exact q.elim
  | some d =>
    cases e2 : dat δ2 r2 with
    | none => rw [e, e2] at q; exact q.elim
    | some d2 =>
      rw [e, e2] at q
      have vw := view E2 (R1.mono s2) (fun p hp => List.mem_append_right _ (List.mem_append_left _ hp)) e
      have vw2 := view E2 R2 (fun p hp => List.mem_append_left _ hp) e2
      obtain ⟨L, ww, sl⟩ := E2
      rw [← List.append_assoc L2] at ww
      refine ho F2 H2 v w d d2 _ _ _ ww vw vw2 q fun F3 H3 u r L3 s3 w3 rr q => ?_
      have E3 : Env K pa F3 H3 σ δ2 (L3 ++ (L2 ++ (L1 ++ Lf))) := by
        refine ⟨L, ?_, sl.mono s3⟩
        refine w3.perm ?_
        rw [List.append_assoc]
        exact p_sw _ _ _
      dsimp only at q
      cases e3 : dat δ2 r with
      | none => rw [e3] at q; exact q.elim
      | some d3 =>
        rw [e3] at q
        have vw3 := view E3 (rr σ) (fun p hp => List.mem_append_left _ hp) e3
        cases d3 with
        | bl c =>
          refine ⟨c, vw3.blD, ?_⟩
          cases c with
          | false => exact k F3 H3 _ _ δ2 [] (s1.trans (s2.trans s3)) E3.drop.drop.drop (.val (.bl false)) q
          | true =>
            refine hc F3 H3 σ δ2 (L2 ++ Lf) X _ _ ?_ (hX.mono (s1.trans (s2.trans s3))).frame q fun F4 H4 w4 r4 δ4 L4 s4 E4 R4 q => ?_
            · refine (E3.drop).permF ?_ |>.drop (L1 := L1)
              exact p_sw _ _ _
            · unfold op2K at q
              cases e4 : dat δ4 r2 with
              | none => rw [e4] at q; exact q.elim
              | some d4 =>
                cases e5 : dat δ4 r4 with
                | none => rw [e4, e5] at q; exact q.elim
                | some d5 =>
                  rw [e4, e5] at q
                  have vw4 := view E4 (R2.mono (s3.trans s4)) (fun p hp => List.mem_append_right _ (List.mem_append_left _ hp)) e4
                  have vw5 := view E4 R4 (fun p hp => List.mem_append_left _ hp) e5
                  obtain ⟨L', ww4, sl4⟩ := E4
                  rw [← List.append_assoc L4] at ww4
                  exact ho' F4 H4 w w4 d4 d5 _ _ Q ww4 vw4 vw5 q (KO.of (fun F' H' v r δ' L1 s => k F' H' v r δ' L1 (s1.trans (s2.trans (s3.trans (s4.trans s))))) sl4)
        | _ => exact q.elim
/-! ### lists of values -/
def dNil : DTA := fun _ δ Q => Q [] δ
def dCons (a : DTE) (r : DTA) : DTA := fun X δ Q => a X δ fun x δ1 => r X δ1 fun xs δ2 => Q (x :: xs) δ2
theorem DA.nil : DA K pa Wx tNil dNil := fun F H σ δ Lf X Q' Q hE hX q k => k F H [] [] δ [] (Same.refl _) hE .nil q
theorem DA.cons {ta : TE} {tr : TA} {a : DTE} {r : DTA} (h1 : DE K pa Wx ta a) (h2 : DA K pa Wx tr r) : DA K pa Wx (tCons ta tr) (dCons a r) := by
  intro F H σ δ Lf X Q' Q hE hX q k
  refine h1 F H σ δ Lf X _ _ hE hX q fun F1 H1 v r1 δ1 L1 s1 E1 R1 q => ?_
  refine h2 F1 H1 σ δ1 (L1 ++ Lf) X _ _ E1 (hX.mono s1).frame q fun F2 H2 vs rs δ2 L2 s2 E2 R2 q => ?_
  exact k F2 H2 (v :: vs) (r1 :: rs) δ2 (L2 ++ L1) (s1.trans s2) (by rw [List.append_assoc]; exact E2) (.cons (R1.mono s2) R2) q
/-! ### a result, no more to be changed -/
def frzD (r : Rk) (δ : List Sl) (Q : D → List Sl → Prop) : Prop := match r with
  | .val d => Q d δ
  | .own ds => Q (.lst ds) δ
  | .raw _ => False
  | .otup p ds q => Q (.tup (p ++ .lst ds :: q)) δ
  | .tre t => Q t.d δ
  | .bor i => match δ[i]? with
    | some (.own ds) => Q (.lst ds) (δ.set i (.val (.lst ds)))
    | some (.val d) => Q d δ
    | some (.otup p ds q) => Q (.tup (p ++ .lst ds :: q)) (δ.set i (.val (.tup (p ++ .lst ds :: q))))
    | some (.tre t) => Q t.d (δ.set i (.val t.d))
    | _ => False
theorem Env.cell {a : Addr} {o : HO} (h : Env K pa F H σ δ ((a, o) :: Lf)) : Same F (upd F a o) ∧ Env K pa (upd F a o) H σ δ Lf := by
  obtain ⟨L, w, s⟩ := h
  have w2 := w.perm (List.perm_middle (a := (a, o)) (l₁ := L) (l₂ := Lf))
  obtain ⟨sF, w3⟩ := w2.frz
  exact ⟨sF, L, w3, s.mono sF⟩
/-- slot i, a list of the frame's own: it will not change any more -/
theorem Sls.thaw (h : Sls K pa F L σ δ) : ∀ {i : Nat} {ds : List D}, δ[i]? = some (.own ds) → ∃ a vs L', σ[i]? = some (some (.ref a)) ∧ L.Perm ((a, .lst vs) :: L') ∧ Rps K F vs ds ∧ ∀ F', Same F F' → F' a = some (.lst vs) → Sls K pa F' L' σ (δ.set i (.val (.lst ds))) := by
  induction h with
  | nil => intro i ds e; simp at e
  | dead x h ih =>
    intro i ds e
    cases i with
    | zero => cases e
    | succ i => obtain ⟨a, vs, L', h1, h2, h3, h4⟩ := ih e; exact ⟨a, vs, L', h1, h2, h3, fun F' s z => .dead x (h4 F' s z)⟩
  | val y h ih =>
    intro i ds e
    cases i with
    | zero => cases e
    | succ i => obtain ⟨a, vs, L', h1, h2, h3, h4⟩ := ih e; exact ⟨a, vs, L', h1, h2, h3, fun F' s z => .val (y.mono s) (h4 F' s z)⟩
  | raw y h ih =>
    intro i ds e
    cases i with
    | zero => cases e
    | succ i => obtain ⟨a, vs, L', h1, h2, h3, h4⟩ := ih e; exact ⟨a, vs, L', h1, h2, h3, fun F' s z => .raw y (h4 F' s z)⟩
  | @own L σ δ c ws es y h ih =>
    intro i ds e
    cases i with
    | zero => cases e; exact ⟨c, ws, L, rfl, List.Perm.refl _, y, fun F' s z => .val (.lst z (y.mono s)) (h.mono s)⟩
    | succ i => obtain ⟨a, vs, L', h1, h2, h3, h4⟩ := ih e; exact ⟨a, vs, _, h1, (h2.cons _).trans (List.Perm.swap _ _ _), h3, fun F' s z => .own (y.mono s) (h4 F' s z)⟩
  | par y h ih =>
    intro i ds e
    cases i with
    | zero => cases e
    | succ i => obtain ⟨a, vs, L', h1, h2, h3, h4⟩ := ih e; exact ⟨a, vs, _, h1, (h2.cons _).trans (List.Perm.swap _ _ _), h3, fun F' s z => .par (y.mono s) (h4 F' s z)⟩
  | obj g y h ih =>
    intro i ds e
    cases i with
    | zero => cases e
    | succ i => obtain ⟨a, vs, L', h1, h2, h3, h4⟩ := ih e; exact ⟨a, vs, _, h1, (h2.cons _).trans (List.Perm.swap _ _ _), h3, fun F' s z => .obj g (y.mono s) (h4 F' s z)⟩
  | exc hd y h ih =>
    intro i ds e
    cases i with
    | zero => cases e
    | succ i => obtain ⟨a, vs, L', h1, h2, h3, h4⟩ := ih e; exact ⟨a, vs, L', h1, h2, h3, fun F' s z => .exc (s _ _ hd) (y.mono s) (h4 F' s z)⟩
  | exc0 h ih =>
    intro i ds e
    cases i with
    | zero => cases e
    | succ i => obtain ⟨a, vs, L', h1, h2, h3, h4⟩ := ih e; exact ⟨a, vs, L', h1, h2, h3, fun F' s z => .exc0 (h4 F' s z)⟩
  | otup t y1 y2 y3 h ih =>
    intro i ds e
    cases i with
    | zero => cases e
    | succ i => obtain ⟨a, vs, L', h1, h2, h3, h4⟩ := ih e; exact ⟨a, vs, _, h1, (h2.cons _).trans (List.Perm.swap _ _ _), h3, fun F' s z => .otup (s.seqT t) (y1.mono s) (y2.mono s) (y3.mono s) (h4 F' s z)⟩
  | @tre L9 L σ δ v t y h ih =>
    intro i ds e
    cases i with
    | zero => cases e
    | succ i => obtain ⟨a, vs, L', h1, h2, h3, h4⟩ := ih e; exact ⟨a, vs, L9 ++ L', h1, p_up (C := [_]) h2, h3, fun F' s z => .tre (y.mono s) (h4 F' s z)⟩
mutual
/-- a tree, no more to be changed -/
theorem RD.frz : ∀ {v : V} {t : Tr} {F : Hp} {L0 Lr : List (Addr × HO)}, RD K F L0 v t → W F (L0 ++ Lr) H → ∃ F', Same F F' ∧ (∀ p ∈ L0, F' p.1 = some p.2) ∧ (∀ x o, F' x = some o → F x = none → ∃ vs, o = .lst vs) ∧ W F' Lr H ∧ Rp K F' v t.d
  | _, _, F, _, _, .v h, w => ⟨F, Same.refl _, by simp, (fun x o e n => by rw [n] at e; cases e), w, h⟩
  | _, _, F, _, Lr, .l (a := a) (vs := vs) r, w => by
    obtain ⟨F1, s1, k1, n1, w1, r1⟩ := RDs.frz r (w.perm List.perm_middle.symm)
    obtain ⟨sF, w2⟩ := W.frz w1
    refine ⟨_, s1.trans sF, fun p hp => ?_, fun x o e n => ?_, w2, .lst upd_same (r1.mono sF)⟩
    · rcases List.mem_cons.mp hp with rfl | hp
      · exact upd_same
      · exact sF _ _ (k1 p hp)
    · by_cases z : x = a
      · subst z; rw [upd_same] at e; cases e; exact ⟨_, rfl⟩
      · rw [upd_ne z] at e; exact n1 x o e n
  | _, _, F, _, Lr, .t h r, w => by
    obtain ⟨F1, s1, k1, n1, w1, r1⟩ := RDs.frz r w
    exact ⟨F1, s1, k1, n1, w1, .tup (s1.seqT h) r1⟩
theorem RDs.frz : ∀ {vs : List V} {ts : List Tr} {F : Hp} {L0 Lr : List (Addr × HO)}, RDs K F L0 vs ts → W F (L0 ++ Lr) H → ∃ F', Same F F' ∧ (∀ p ∈ L0, F' p.1 = some p.2) ∧ (∀ x o, F' x = some o → F x = none → ∃ vs, o = .lst vs) ∧ W F' Lr H ∧ Rps K F' vs (Tr.ds ts)
  | _, _, F, _, _, .nil, w => ⟨F, Same.refl _, by simp, (fun x o e n => by rw [n] at e; cases e), w, .nil⟩
  | _, _, F, _, Lr, .cons h r, w => by
    rw [List.append_assoc] at w
    obtain ⟨F1, s1, k1, n1, w1, r1⟩ := RD.frz h w
    obtain ⟨F2, s2, k2, n2, w2, r2⟩ := RDs.frz (r.mono s1) w1
    refine ⟨F2, s1.trans s2, fun p hp => ?_, fun x o e n => ?_, w2, .cons (r1.mono s2) r2⟩
    · rcases List.mem_append.mp hp with hp | hp
      · exact s2 _ _ (k1 p hp)
      · exact k2 p hp
    · cases e1 : F1 x with
      | none => exact n2 x o e e1
      | some o1 =>
        have := s2 _ _ e1
        rw [e] at this; cases this
        exact n1 x o e1 n
end
theorem frz_ok {v : V} {r : Rk} {Q : D → List Sl → Prop} {R : Prop} (hE : Env K pa F H σ δ (L1 ++ Lf)) (rr : RR K F σ L1 v r) (h : frzD r δ Q) (k : ∀ F' d δ', Same F F' → Env K pa F' H σ δ' Lf → Rp K F' v d → Q d δ' → R) : R := by
  cases rr with
  | val hv => exact k F _ δ (Same.refl _) hE hv h
  | @own a vs ds hv =>
    obtain ⟨sF, E2⟩ := hE.cell
    exact k _ _ δ sF E2 (.lst upd_same (hv.mono sF)) h
  | raw => exact h.elim
  | @otup a T us vs ws p ds q t h1 h2 h3 =>
    obtain ⟨sF, E2⟩ := hE.cell
    exact k _ _ δ sF E2 (.tup (sF.seqT t) ((h1.mono sF).append (.cons (.lst upd_same (h2.mono sF)) (h3.mono sF)))) h
  | tre h1 =>
    obtain ⟨L, w, sl⟩ := hE
    obtain ⟨F', sF, _, _, w2, r⟩ := h1.frz (w.perm (by rw [← List.append_assoc, ← List.append_assoc]; exact List.perm_append_comm.append_right _ : (L ++ (L1 ++ Lf)).Perm (L1 ++ (L ++ Lf))))
    exact k F' _ δ sF ⟨L, w2, sl.mono sF⟩ r h
  | @bor i v e =>
    unfold frzD at h
    dsimp only at h
    cases e2 : δ[i]? with
    | none => rw [e2] at h; exact h.elim
    | some sl =>
      rw [e2] at h
      cases sl with
      | own ds =>
        obtain ⟨L, w, s⟩ := hE
        obtain ⟨a, vs, L', h1, h2, h3, h4⟩ := s.thaw e2
        rw [e] at h1
        cases h1
        have w2 := w.perm (h2.append_right _)
        obtain ⟨sF, w3⟩ := w2.frz
        exact k _ _ _ sF ⟨L', w3, h4 _ sF upd_same⟩ (.lst upd_same (h3.mono sF)) h
      | val d =>
        obtain ⟨L, w, s⟩ := id hE
        obtain ⟨v2, h1, h2⟩ := (s.slot e2).1 _ rfl
        rw [e] at h1
        cases h1
        exact k F _ δ (Same.refl _) hE h2 h
      | tre t =>
        obtain ⟨L, w, s⟩ := hE
        obtain ⟨x, L0, L', h1, h2, h3, h4⟩ := s.out e2
        rw [e] at h1
        cases h1
        cases h3 with
        | @tre L9 _ _ _ _ _ y q9 =>
        cases q9
        rw [List.append_nil] at h2
        have w2 := w.perm (h2.append_right _)
        rw [List.append_assoc] at w2
        obtain ⟨F', sF, _, _, w3, r⟩ := y.frz w2
        have E3 : Env K pa F' H σ (δ.set i (.val t.d)) Lf := ⟨L', w3, h4 F' _ sF (.val r .nil)⟩
        exact k F' _ _ sF E3 r h
      | otup p ds q =>
        obtain ⟨L, w, s⟩ := hE
        obtain ⟨a, T, us, vs, ws, L', h1, h2, h3, h4, h5, h6, h7⟩ := s.takeO e2
        rw [e] at h1
        cases h1
        have w2 := w.perm (h2.append_right _)
        obtain ⟨sF, w3⟩ := w2.frz
        exact k _ _ _ sF ⟨L', w3, h7 _ _ sF (.inr ⟨rfl, upd_same⟩)⟩ (.tup (sF.seqT h3) ((h4.mono sF).append (.cons (.lst upd_same (h5.mono sF)) (h6.mono sF)))) h
      | _ => exact h.elim
/-- all of them -/
def frzs : List Rk → List Sl → (List D → List Sl → Prop) → Prop
  | [], δ, Q => Q [] δ
  | r :: rs, δ, Q => frzD r δ fun d δ1 => frzs rs δ1 fun ds δ2 => Q (d :: ds) δ2
theorem RRs.nil' {vs : List V} (h : RRs K F σ L vs []) : L = [] ∧ vs = [] := by cases h; exact ⟨rfl, rfl⟩
theorem frzs_ok {R : Prop} : ∀ {rs : List Rk} {vs : List V} {F : Hp} {δ : List Sl} {L1 : List (Addr × HO)} {Q : List D → List Sl → Prop}, Env K pa F H σ δ (L1 ++ Lf) → RRs K F σ L1 vs rs → frzs rs δ Q → (∀ F' ds δ', Same F F' → Env K pa F' H σ δ' Lf → Rps K F' vs ds → Q ds δ' → R) → R
  | [], vs, F, δ, L1, Q, hE, rr, h, k => by
    obtain ⟨rfl, rfl⟩ := rr.nil'
    exact k F [] δ (Same.refl _) hE .nil h
  | r :: rs, vs, F, δ, L1, Q, hE, rr, h, k => by
    cases rr with
    | @cons L1 L2 v _ vs _ r1 r2 =>
      have E1 : Env K pa F H σ δ (L1 ++ (L2 ++ Lf)) := hE.permF (by rw [← List.append_assoc]; exact List.perm_append_comm.append_right _)
      refine frz_ok E1 r1 h fun F1 d δ1 s1 E2 rd h => ?_
      refine frzs_ok E2 (r2.mono s1) h fun F2 ds δ2 s2 E3 rds q => ?_
      exact k F2 (d :: ds) δ2 (s1.trans s2) E3 (.cons (rd.mono s2) rds) q
/-! ### displays -/
def dLst (a : DTA) : DTE := fun X δ Q => a X δ fun rs δ1 => frzs rs δ1 fun ds δ2 => ds.length ≤ 100000 ∧ Q (.own ds) δ2
def dTup (a : DTA) : DTE := fun X δ Q => a X δ fun rs δ1 => frzs rs δ1 fun ds δ2 => ds.length ≤ 100000 ∧ Q (.val (.tup ds)) δ2
theorem Env.new {p : Addr} {o : HO} (h : Env K pa F H σ δ Lf) (hp : H p = none) : Env K pa F (upd H p o) σ δ ((p, o) :: Lf) := by
  obtain ⟨L, w, s⟩ := h
  exact ⟨L, (w.new hp).perm List.perm_middle.symm, s⟩
theorem Env.newF {p : Addr} {o : HO} (h : Env K pa F H σ δ Lf) (hp : H p = none) : Same F (upd F p o) ∧ Env K pa (upd F p o) (upd H p o) σ δ Lf := (h.new hp).cell
theorem DE.lst {ta : TA} {a : DTA} (h : DA K pa Wx ta a) : DE K pa Wx (tLst ta) (dLst a) := by
  intro F H σ δ Lf X Q' Q hE hX q k
  refine h F H σ δ Lf X _ _ hE hX q fun F1 H1 vs rs δ1 L1 s1 E1 R1 q => ?_
  refine frzs_ok E1 R1 q fun F2 ds δ2 s2 E2 R2 q => ?_
  refine ⟨by rw [R2.length]; exact Nat.le_of_lt (small1000' q.1), fun p hp => ?_⟩
  exact k F2 _ _ _ δ2 [(p, .lst vs)] (s1.trans s2) (E2.new hp) (.own R2) q.2
theorem DE.tup {ta : TA} {a : DTA} (h : DA K pa Wx ta a) : DE K pa Wx (tTup ta) (dTup a) := by
  intro F H σ δ Lf X Q' Q hE hX q k
  refine h F H σ δ Lf X _ _ hE hX q fun F1 H1 vs rs δ1 L1 s1 E1 R1 q => ?_
  refine frzs_ok E1 R1 q fun F2 ds δ2 s2 E2 R2 q => ?_
  refine ⟨by rw [R2.length]; exact Nat.le_of_lt (small1000' q.1), fun p hp => ?_⟩
  obtain ⟨sF, E3⟩ := E2.newF (o := .tup vs) hp
  exact k _ _ _ _ δ2 [] (s1.trans (s2.trans sF)) E3 (.val (.tup (SqT.of upd_same) (R2.mono sF))) q.2
end
end DL
/-! Operators over data. -/
namespace DL
open PySem L2
open PyProof.Rows (b2i)
/-! ### plain data, == -/
mutual
def toP : D → PyData
  | .non => .none
  | .bl b => .bool b
  | .int i => .int i
  | .str s => .str s
  | .lst xs => .list (toPs xs)
  | .tup xs => .tuple (toPs xs)
  | .ins _ _ => .none
  | .scr _ => .none
  | .ty _ => .none
def toPs : List D → List PyData
  | [] => []
  | x :: xs => toP x :: toPs xs
end
mutual
/-- no instances, at most n deep -/
def pl : Nat → D → Prop
  | _, .non => True
  | _, .bl _ => True
  | _, .int _ => True
  | _, .str s => PyData.strOk s = true
  | n + 1, .lst xs => pls n xs
  | n + 1, .tup xs => pls n xs
  | 0, .lst _ => False
  | 0, .tup _ => False
  | _, .ins _ _ => False
  | _, .scr _ => False
  | _, .ty _ => False
def pls : Nat → List D → Prop
  | _, [] => True
  | n, x :: xs => pl n x ∧ pls n xs
end
theorem toPs_map : ∀ xs : List D, toPs xs = xs.map toP
  | [] => rfl
  | x :: xs => by rw [toPs, toPs_map xs]; rfl
theorem pls_all {n : Nat} : ∀ {xs : List D}, pls n xs ↔ ∀ x ∈ xs, pl n x
  | [] => by simp [pls]
  | x :: xs => by simp [pls, pls_all (xs := xs)]
section
variable {K : PySem.W.Frag} {F H : Hp}
mutual
theorem Rp.dp : ∀ {n : Nat} {v : V} {d : D}, Rp K H v d → pl n d → Dp K H v (toP d)
  | _, _, _, .non, _ => by rw [toP]; exact .non
  | _, _, _, .bl b, _ => by rw [toP]; exact .bl b
  | _, _, _, .int i, _ => by rw [toP]; exact .int i
  | _, _, _, .str x, _ => by rw [toP]; exact .str x
  | 0, _, _, .lst h r, p => by simp [pl] at p
  | n + 1, _, _, .lst h r, p => by rw [toP]; rw [pl] at p; exact .lst (SqL.of h) (Rps.dp r p)
  | 0, _, _, .tup h r, p => by simp [pl] at p
  | n + 1, _, _, .tup h r, p => by rw [toP]; rw [pl] at p; exact .tup h (Rps.dp r p)
  | n, _, _, .ins h _ r, p => by cases n <;> simp [pl] at p
  | n, _, _, .scr h, p => by cases n <;> simp [pl] at p
  | n, _, _, .ty h, p => by cases n <;> simp [pl] at p
theorem Rps.dp : ∀ {n : Nat} {vs : List V} {ds : List D}, Rps K H vs ds → pls n ds → DpAll K H vs (toPs ds)
  | _, _, _, .nil, _ => by rw [toPs]; exact .nil
  | n, _, _, .cons h r, p => by rw [toPs]; rw [pls] at p; exact .cons (Rp.dp h p.1) (Rps.dp r p.2)
end
end
mutual
theorem pl_lay : ∀ {n : Nat} {d : D}, pl n d → (toP d).canLay0 = true
  | n, .non, _ => by cases n <;> simp [toP, PyData.canLay0]
  | n, .bl b, _ => by cases n <;> simp [toP, PyData.canLay0]
  | n, .int b, _ => by cases n <;> simp [toP, PyData.canLay0]
  | n, .str b, p => by cases n <;> simpa [toP, PyData.canLay0, pl] using p
  | 0, .lst xs, p => by simp [pl] at p
  | n + 1, .lst xs, p => by rw [pl] at p; simp [toP, PyData.canLay0, pls_lay p]
  | 0, .tup xs, p => by simp [pl] at p
  | n + 1, .tup xs, p => by rw [pl] at p; simp [toP, PyData.canLay0, pls_lay p]
  | n, .ins _ _, p => by cases n <;> simp [pl] at p
  | n, .scr _, p => by cases n <;> simp [pl] at p
  | n, .ty _, p => by cases n <;> simp [pl] at p
theorem pls_lay : ∀ {n : Nat} {ds : List D}, pls n ds → PyData.canLayAll0 (toPs ds) = true
  | _, [], _ => by simp [toPs, PyData.canLayAll0]
  | n, d :: ds, p => by rw [pls] at p; simp [toPs, PyData.canLayAll0, pl_lay p.1, pls_lay p.2]
end
mutual
theorem pl_dep : ∀ {n : Nat} {d : D}, pl n d → (toP d).depth ≤ n
  | n, .non, _ => by cases n <;> simp [toP, PyData.depth]
  | n, .bl b, _ => by cases n <;> simp [toP, PyData.depth]
  | n, .int b, _ => by cases n <;> simp [toP, PyData.depth]
  | n, .str b, _ => by cases n <;> simp [toP, PyData.depth]
  | 0, .lst xs, p => by simp [pl] at p
  | n + 1, .lst xs, p => by rw [pl] at p; have := pls_dep p; simp [toP, PyData.depth]; omega
  | 0, .tup xs, p => by simp [pl] at p
  | n + 1, .tup xs, p => by rw [pl] at p; have := pls_dep p; simp [toP, PyData.depth]; omega
  | n, .ins _ _, p => by cases n <;> simp [pl] at p
  | n, .scr _, p => by cases n <;> simp [pl] at p
  | n, .ty _, p => by cases n <;> simp [pl] at p
theorem pls_dep : ∀ {n : Nat} {ds : List D}, pls n ds → PyData.depthAll (toPs ds) ≤ n
  | _, [], _ => by simp [toPs, PyData.depthAll]
  | n, d :: ds, p => by rw [pls] at p; have h1 := pl_dep p.1; have h2 := pls_dep p.2; simp [toPs, PyData.depthAll]; omega
end
theorem pl_shaped {n : Nat} {d : D} (h : pl n d) (hn : n ≤ 20) : SeqAt.shaped (toP d) = true := by
  unfold SeqAt.shaped
  rw [pl_lay h, Bool.true_and, decide_eq_true_iff]
  have := pl_dep h
  omega
def eqD (d e : D) : Bool := PyData.eqv (toP d) (toP e)
theorem eqD_int (i j : Int) : eqD (.int i) (.int j) = decide (i = j) := by
  rw [Bool.eq_iff_iff]; simp [eqD, toP, PyData.eqv]
theorem eqD_str (i j : Str) : eqD (.str i) (.str j) = decide (i = j) := by
  rw [Bool.eq_iff_iff]; simp [eqD, toP, PyData.eqv]
theorem eqD_bl (i j : Bool) : eqD (.bl i) (.bl j) = decide (i = j) := by
  rw [Bool.eq_iff_iff]; simp [eqD, toP, PyData.eqv]
theorem eqvAll_li : ∀ ns ms : List Int, PyData.eqvAll (toPs (li ns)) (toPs (li ms)) = decide (ns = ms)
  | [], [] => by simp [li, toPs, PyData.eqvAll]
  | [], m :: ms => by simp [li, toPs, PyData.eqvAll]
  | n :: ns, [] => by simp [li, toPs, PyData.eqvAll]
  | n :: ns, m :: ms => by
    have := eqvAll_li ns ms
    simp only [li] at this
    simp only [li, List.map_cons, toPs, toP, PyData.eqvAll, PyData.eqv, this]
    rw [Bool.eq_iff_iff]; simp
theorem eqD_li (ns ms : List Int) : eqD (.lst (li ns)) (.lst (li ms)) = decide (ns = ms) := by rw [← eqvAll_li]; simp [eqD, toP, PyData.eqv]
theorem eqD_liT (ns ms : List Int) : eqD (.tup (li ns)) (.tup (li ms)) = decide (ns = ms) := by rw [← eqvAll_li]; simp [eqD, toP, PyData.eqv]
/-- several of them -/
inductive RpTs (K : PySem.W.Frag) (F H : Hp) : List V → List D → Prop
  | nil : RpTs K F H [] []
  | cons {v : V} {d : D} {vs : List V} {ds : List D} : RpT K F H v d → RpTs K F H vs ds → RpTs K F H (v :: vs) (d :: ds)
/-! ### the operators -/
def cutD (xs : List D) (lo hi : Option Int) : List D := (xs.drop (HT.sIx xs.length 0 lo)).take (HT.sIx xs.length xs.length hi - HT.sIx xs.length 0 lo)
def dAdd : DOp2
  | .int i, .int j, Q => Q (.val (.int (i + j)))
  | .int i, .bl k, Q => Q (.val (.int (i + b2i k)))
  | .str x, .str y, Q => x.length + y.length ≤ 1000000 ∧ Q (.val (.str (x ++ y)))
  | .lst xs, .lst ys, Q => xs.length + ys.length ≤ 100000 ∧ Q (.own (xs ++ ys))
  | .tup xs, .tup ys, Q => xs.length + ys.length ≤ 100000 ∧ Q (.val (.tup (xs ++ ys)))
  | _, _, _ => False
section
variable {K : PySem.W.Frag} {F F' H H' : Hp} {L : List (Addr × HO)} {Q' : Rk → Prop} {Q : VK}
theorem line_of {n : Nat} (h : n ≤ 1000000) : n ≤ sizeLine := Nat.le_trans h (by decide)
theorem KO.sc {v : V} {d : D} (k : KO K F L Q' Q) (w : W F L H) (h : Rp K F v d) (q : Q' (.val d)) : Q v H := k F H v _ [] (Same.refl _) w (fun _ => .val h) q
theorem KO.newL {vs : List V} {ds : List D} (k : KO K F L Q' Q) (w : W F L H) (h : Rps K F vs ds) (q : Q' (.own ds)) : ∀ p, H p = none → Q (.ref p) (upd H p (.lst vs)) :=
  fun p hp => k F _ _ _ [(p, .lst vs)] (Same.refl _) (w.new hp) (fun _ => .own h) q
theorem KO.newT {vs : List V} {ds : List D} (k : KO K F L Q' Q) (w : W F L H) (h : Rps K F vs ds) (q : Q' (.val (.tup ds))) : ∀ p, H p = none → Q (.ref p) (upd H p (.tup vs)) := fun p hp => by
  obtain ⟨sF, w3⟩ := (w.new (o := .tup vs) hp).frz
  exact k _ _ _ _ [] sF w3 (fun _ => .val (.tup (SqT.of upd_same) (h.mono sF))) q
theorem Op2.add : Op2 K (aAdd K) dAdd := by
  intro F H v w d e L Q' Q ww hv hw q k
  cases d <;> cases e <;> try exact q.elim
  · rw [hv.intD, hw.blD]; exact k.sc ww (.int _) q
  · rw [hv.intD, hw.intD]; exact k.sc ww (.int _) q
  · rw [hv.strD, hw.strD]; exact ⟨line_of q.1, k.sc ww (.str _) q.2⟩
  · obtain ⟨a, vs, rfl, h1, h2⟩ := hv.lstD ww.fr
    obtain ⟨b, ws, rfl, h3, h4⟩ := hw.lstD ww.fr
    have l1 := h2.length
    have l2 := h4.length
    exact .inl ⟨a, b, vs, ws, rfl, rfl, h1, h3, line_of (by have := q.1; omega), k.newL ww (h2.append h4) q.2⟩
  · obtain ⟨a, vs, rfl, h1, h2⟩ := hv.tupD
    obtain ⟨b, ws, rfl, h3, h4⟩ := hw.tupD
    have l1 := h2.length
    have l2 := h4.length
    refine .inr ⟨a, b, vs, ws, rfl, rfl, ww.fr.seqT h1, ww.fr.seqT h3, line_of (by have := q.1; omega), fun e => ?_, fun e e2 => ?_, fun _ _ => k.newT ww (h2.append h4) q.2⟩
    · subst e; cases h2; exact k.sc ww (.tup h3 h4) q.2
    · subst e2; cases h4
      have := q.2
      rw [List.append_nil] at this
      exact k.sc ww (.tup h1 h2) this
def dSub : DOp2
  | .int i, .int j, Q => Q (.val (.int (i - j)))
  | _, _, _ => False
theorem Op2.sub : Op2 K aSub dSub := by
  intro F H v w d e L Q' Q ww hv hw q k
  cases d <;> cases e <;> try exact q.elim
  rw [hv.intD, hw.intD]; exact k.sc ww (.int _) q
def dMul : DOp2
  | .int i, .int j, Q => (-18446744073709551616 < i ∧ i < 18446744073709551616 ∨ -18446744073709551616 < j ∧ j < 18446744073709551616) ∧ Q (.val (.int (i * j)))
  | .lst xs, .int k, Q => (-1000000 ≤ k ∧ k ≤ 100000 ∧ xs.length * k.toNat ≤ 100000) ∧ Q (.own (List.replicate k.toNat xs).flatten)
  | .str z, .int k, Q => (-1000000 ≤ k ∧ k ≤ 10000 ∧ z.length ≤ 1000) ∧ Q (.val (.str (Txt.mul z k)))
  | _, _, _ => False
theorem Op2.mul : Op2 K (aMul K) dMul := by
  intro F H v w d e L Q' Q ww hv hw q k
  cases d <;> cases e <;> try exact q.elim
  · rw [hv.intD, hw.intD]
    refine ⟨?_, k.sc ww (.int _) q.2⟩
    rcases q.1 with h | h
    · exact mulokL h
    · exact mulokR h
  · rw [hv.strD, hw.intD]; exact ⟨q.1, k.sc ww (.str _) q.2⟩
  · obtain ⟨a, vs, rfl, h1, h2⟩ := hv.lstD ww.fr
    have l1 := h2.length
    rw [hw.intD]
    obtain ⟨⟨q1, q2, q3⟩, q4⟩ := q
    exact ⟨a, _, vs, rfl, rfl, h1, by omega, by omega, line_of (by rw [l1]; omega), k.newL ww (h2.flat _) q4⟩
def dDiv : DOp2
  | .int i, .int j, Q => (0 < j ∧ j.natAbs.log2 < 9000) ∧ Q (.val (.int (i / j)))
  | _, _, _ => False
theorem Op2.div : Op2 K aDiv dDiv := by
  intro F H v w d e L Q' Q ww hv hw q k
  cases d <;> cases e <;> try exact q.elim
  rw [hv.intD, hw.intD, v_divI q.1.1 q.1.2]; exact k.sc ww (.int _) q.2
def dMod : DOp2
  | .int i, .int j, Q => 0 < j ∧ Q (.val (.int (i % j)))
  | _, _, _ => False
theorem Op2.mod : Op2 K aMod dMod := by
  intro F H v w d e L Q' Q ww hv hw q k
  cases d <;> cases e <;> try exact q.elim
  rw [hv.intD, hw.intD, v_modI q.1]; exact k.sc ww (.int _) q.2
def dPow : DOp2
  | .int i, .int j, Q => (0 ≤ j ∧ j ≤ 1000000 ∧ i.natAbs < 18446744073709551616) ∧ Q (.val (.int (i ^ j.toNat)))
  | _, _, _ => False
theorem Op2.pow : Op2 K aPow dPow := by
  intro F H v w d e L Q' Q ww hv hw q k
  cases d <;> cases e <;> try exact q.elim
  rw [hv.intD, hw.intD, v_powI q.1.1 q.1.2.1 q.1.2.2]; exact k.sc ww (.int _) q.2
def dNeg : DOp1
  | .int i, Q => Q (.val (.int (-i)))
  | _, _ => False
theorem Op1.neg : Op1 K aNeg dNeg := by
  intro F H v d L Q' Q ww hv q k
  cases d <;> try exact q.elim
  rw [hv.intD]; exact k.sc ww (.int _) q
def dCmp (p : Int → Int → Bool) : DOp2
  | .int i, .int j, Q => Q (.val (.bl (p i j)))
  | _, _, _ => False
theorem Op2.cmp {p : Int → Int → Bool} : Op2 K (aCmp p) (dCmp p) := by
  intro F H v w d e L Q' Q ww hv hw q k
  cases d <;> cases e <;> try exact q.elim
  rw [hv.intD, hw.intD]; exact k.sc ww (.bl _) q
abbrev dLt : DOp2 := dCmp fun i j => decide (i < j)
abbrev dLe : DOp2 := dCmp fun i j => decide (i ≤ j)
abbrev dGt : DOp2 := dCmp fun i j => decide (j < i)
abbrev dGe : DOp2 := dCmp fun i j => decide (j ≤ i)
def dEq : DOp2
  | .int i, .int j, Q => Q (.val (.bl (decide (i = j))))
  | .str i, .str j, Q => Q (.val (.bl (decide (i = j))))
  | .bl i, .bl j, Q => Q (.val (.bl (decide (i = j))))
  | .int _, .str _, Q => Q (.val (.bl false))
  | .str _, .int _, Q => Q (.val (.bl false))
  | .non, .non, Q => Q (.val (.bl true))
  | .non, .int _, Q => Q (.val (.bl false))
  | .int _, .non, Q => Q (.val (.bl false))
  | .non, .str _, Q => Q (.val (.bl false))
  | .str _, .non, Q => Q (.val (.bl false))
  | .lst xs, .lst ys, Q => (pls 8 xs ∧ pls 8 ys) ∧ Q (.val (.bl (eqD (.lst xs) (.lst ys))))
  | .tup xs, .tup ys, Q => (pls 8 xs ∧ pls 8 ys) ∧ Q (.val (.bl (eqD (.tup xs) (.tup ys))))
  | .lst xs, .tup ys, Q => (pls 8 xs ∧ pls 8 ys) ∧ Q (.val (.bl false))
  | .tup xs, .lst ys, Q => (pls 8 xs ∧ pls 8 ys) ∧ Q (.val (.bl false))
  | _, _, _ => False
theorem dp_lst {v : V} {ds : List D} (s : Same F H) (h : RpT K F H v (.lst ds)) (p : pls 8 ds) : ∃ a, v = .ref a ∧ Dp K H (.ref a) (toP (.lst ds)) ∧ SeqAt.shaped (toP (.lst ds)) = true := by
  obtain ⟨a, vs, rfl, h1, h2⟩ := h.lstD s
  have p9 : pl 9 (.lst ds) := by rw [pl]; exact p
  exact ⟨a, rfl, Rp.dp (.lst h1 (h2.mono s)) p9, pl_shaped p9 (by omega)⟩
theorem dp_tup {v : V} {ds : List D} (s : Same F H) (h : RpT K F H v (.tup ds)) (p : pls 8 ds) : ∃ a, v = .ref a ∧ Dp K H (.ref a) (toP (.tup ds)) ∧ SeqAt.shaped (toP (.tup ds)) = true := by
  obtain ⟨a, vs, rfl, h1, h2⟩ := h.tupD
  have p9 : pl 9 (.tup ds) := by rw [pl]; exact p
  exact ⟨a, rfl, Rp.dp (.tup (s.seqT h1) (h2.mono s)) p9, pl_shaped p9 (by omega)⟩
theorem Op2.eq : Op2 K (aEq K) dEq := by
  intro F H v w d e L Q' Q ww hv hw q k
  cases d <;> cases e <;> try exact q.elim
  case non.non => rw [hv.nonD, hw.nonD]; exact ⟨rfl, k.sc ww (.bl _) q⟩
  case non.int => rw [hv.nonD, hw.intD]; exact ⟨rfl, k.sc ww (.bl _) q⟩
  case non.str => rw [hv.nonD, hw.strD]; exact ⟨rfl, k.sc ww (.bl _) q⟩
  case int.non => rw [hv.intD, hw.nonD]; exact ⟨rfl, k.sc ww (.bl _) q⟩
  case str.non => rw [hv.strD, hw.nonD]; exact ⟨rfl, k.sc ww (.bl _) q⟩
  case int.str => rw [hv.intD, hw.strD]; exact ⟨rfl, k.sc ww (.bl _) q⟩
  case str.int => rw [hv.strD, hw.intD]; exact ⟨rfl, k.sc ww (.bl _) q⟩
  case int.int => rw [hv.intD, hw.intD, v_eqI]; exact k.sc ww (.bl _) q
  case str.str => rw [hv.strD, hw.strD, v_eqS]; exact k.sc ww (.bl _) q
  case bl.bl i j =>
    rw [hv.blD, hw.blD]
    refine ⟨rfl, ?_⟩
    have : decide (V.bl i = V.bl j) = decide (i = j) := by cases i <;> cases j <;> rfl
    rw [this]
    exact k.sc ww (.bl _) q
  case lst.lst =>
    obtain ⟨a, rfl, h1, h2⟩ := dp_lst ww.fr hv q.1.1
    obtain ⟨b, rfl, h3, h4⟩ := dp_lst ww.fr hw q.1.2
    exact ⟨_, _, h1, h3, h2, h4, k.sc ww (.bl _) q.2⟩
  case tup.tup =>
    obtain ⟨a, rfl, h1, h2⟩ := dp_tup ww.fr hv q.1.1
    obtain ⟨b, rfl, h3, h4⟩ := dp_tup ww.fr hw q.1.2
    exact ⟨_, _, h1, h3, h2, h4, k.sc ww (.bl _) q.2⟩
  case lst.tup =>
    obtain ⟨a, rfl, h1, h2⟩ := dp_lst ww.fr hv q.1.1
    obtain ⟨b, rfl, h3, h4⟩ := dp_tup ww.fr hw q.1.2
    refine ⟨_, _, h1, h3, h2, h4, ?_⟩
    simp only [toP, PyData.eqv]; exact k.sc ww (.bl _) q.2
  case tup.lst =>
    obtain ⟨a, rfl, h1, h2⟩ := dp_tup ww.fr hv q.1.1
    obtain ⟨b, rfl, h3, h4⟩ := dp_lst ww.fr hw q.1.2
    refine ⟨_, _, h1, h3, h2, h4, ?_⟩
    simp only [toP, PyData.eqv]; exact k.sc ww (.bl _) q.2
def nB (Q : Rk → Prop) : Rk → Prop
  | .val (.bl b) => Q (.val (.bl (!b)))
  | _ => False
def dNe : DOp2 := fun d e Q => dEq d e (nB Q)
theorem Op2.ne : Op2 K (aNe K) dNe := by
  intro F H v w d e L Q' Q ww hv hw q k
  unfold dNe at q
  cases d <;> cases e <;> try exact q.elim
  case non.non => rw [hv.nonD, hw.nonD]; exact ⟨rfl, k.sc ww (.bl _) q⟩
  case non.int => rw [hv.nonD, hw.intD]; exact ⟨rfl, k.sc ww (.bl _) q⟩
  case non.str => rw [hv.nonD, hw.strD]; exact ⟨rfl, k.sc ww (.bl _) q⟩
  case int.non => rw [hv.intD, hw.nonD]; exact ⟨rfl, k.sc ww (.bl _) q⟩
  case str.non => rw [hv.strD, hw.nonD]; exact ⟨rfl, k.sc ww (.bl _) q⟩
  case int.str => rw [hv.intD, hw.strD]; exact ⟨rfl, k.sc ww (.bl _) q⟩
  case str.int => rw [hv.strD, hw.intD]; exact ⟨rfl, k.sc ww (.bl _) q⟩
  case int.int => rw [hv.intD, hw.intD, v_neI]; exact k.sc ww (.bl _) q
  case str.str => rw [hv.strD, hw.strD, v_neS]; exact k.sc ww (.bl _) q
  case bl.bl i j =>
    rw [hv.blD, hw.blD]
    refine ⟨rfl, ?_⟩
    have : decide (V.bl i = V.bl j) = decide (i = j) := by cases i <;> cases j <;> rfl
    rw [this]
    exact k.sc ww (.bl _) q
  case lst.lst =>
    obtain ⟨a, rfl, h1, h2⟩ := dp_lst ww.fr hv q.1.1
    obtain ⟨b, rfl, h3, h4⟩ := dp_lst ww.fr hw q.1.2
    exact ⟨_, _, h1, h3, h2, h4, k.sc ww (.bl _) q.2⟩
  case tup.tup =>
    obtain ⟨a, rfl, h1, h2⟩ := dp_tup ww.fr hv q.1.1
    obtain ⟨b, rfl, h3, h4⟩ := dp_tup ww.fr hw q.1.2
    exact ⟨_, _, h1, h3, h2, h4, k.sc ww (.bl _) q.2⟩
  case lst.tup =>
    obtain ⟨a, rfl, h1, h2⟩ := dp_lst ww.fr hv q.1.1
    obtain ⟨b, rfl, h3, h4⟩ := dp_tup ww.fr hw q.1.2
    refine ⟨_, _, h1, h3, h2, h4, ?_⟩
    simp only [toP, PyData.eqv]; exact k.sc ww (.bl _) q.2
  case tup.lst =>
    obtain ⟨a, rfl, h1, h2⟩ := dp_tup ww.fr hv q.1.1
    obtain ⟨b, rfl, h3, h4⟩ := dp_lst ww.fr hw q.1.2
    refine ⟨_, _, h1, h3, h2, h4, ?_⟩
    simp only [toP, PyData.eqv]; exact k.sc ww (.bl _) q.2
def isNon : D → Bool
  | .non => true
  | _ => false
def isBl (b : Bool) : D → Bool
  | .bl c => c == b
  | _ => false
def dIs : DOp2
  | d, .non, Q => Q (.val (.bl (isNon d)))
  | d, .bl b, Q => Q (.val (.bl (isBl b d)))
  | _, _, _ => False
theorem RpT.isNon {v : V} {d : D} (h : RpT K F H v d) : decide (v = .non) = isNon d := by
  cases h with
  | sc h => cases h <;> simp [DL.isNon]
  | lst h r => simp [DL.isNon]
  | ins h _ r => simp [DL.isNon]
theorem RpT.isBl {v : V} {d : D} {b : Bool} (h : RpT K F H v d) : decide (v = .bl b) = isBl b d := by
  cases h with
  | sc h =>
    cases h with
    | bl c => cases b <;> cases c <;> rfl
    | _ => simp [DL.isBl]
  | lst h r => simp [DL.isBl]
  | ins h _ r => simp [DL.isBl]
theorem Op2.is : Op2 K aIs dIs := by
  intro F H v w d e L Q' Q ww hv hw q k
  cases e <;> try (cases d <;> exact q.elim)
  case non =>
    have q : Q' (.val (.bl (DL.isNon d))) := by cases d <;> exact q
    rw [hw.nonD, v_isN, hv.isNon]; exact k.sc ww (.bl _) q
  case bl b =>
    have q : Q' (.val (.bl (DL.isBl b d))) := by cases d <;> exact q
    rw [hw.blD, v_isB, hv.isBl]; exact k.sc ww (.bl _) q
def dIsnot : DOp2
  | d, .non, Q => Q (.val (.bl (!isNon d)))
  | d, .bl b, Q => Q (.val (.bl (!isBl b d)))
  | _, _, _ => False
theorem Op2.isnot : Op2 K aIsnot dIsnot := by
  intro F H v w d e L Q' Q ww hv hw q k
  cases e <;> try (cases d <;> exact q.elim)
  case non =>
    have q : Q' (.val (.bl (!DL.isNon d))) := by cases d <;> exact q
    rw [hw.nonD, v_isnotN, hv.isNon]; exact k.sc ww (.bl _) q
  case bl b =>
    have q : Q' (.val (.bl (!DL.isBl b d))) := by cases d <;> exact q
    rw [hw.blD, v_isnotB, hv.isBl]; exact k.sc ww (.bl _) q
/-! ### subscripts -/
def dIx : DOp2
  | .lst xs, .int i, Q => ∃ d, atI xs i = some d ∧ Q (.val d)
  | .tup xs, .int i, Q => ∃ d, atI xs i = some d ∧ Q (.val d)
  | .str z, .int i, Q => z.length ≤ 1000000 ∧ ∃ c, atI z.cps.toList i = some c ∧ Q (.val (.str ⟨#[c]⟩))
  | .scr ns, .int i, Q => (0 ≤ i ∧ i < ns.length) ∧ Q (.val (.int (ns.getD i.toNat 0)))
  | _, _, _ => False
theorem Rps.atI {vs : List V} {ds : List D} {i : Int} {d : D} (h : Rps K F vs ds) (e : L2.atI ds i = some d) : ∃ v, L2.atI vs i = some v ∧ Rp K F v d := by
  unfold L2.atI at e ⊢
  rw [h.length]
  cases e2 : ixN ds.length i with
  | none => rw [e2] at e; cases e
  | some j =>
    rw [e2] at e
    exact h.getD e
theorem RpT.scrD {v : V} {ns : List Int} (s : Same F H) (h : RpT K F H v (.scr ns)) : ∃ a, v = .ref a ∧ SqL K H a (ns.map V.int) := by
  cases h with
  | sc h => cases h with | scr h => exact ⟨_, rfl, s.seq h⟩
theorem Op2.ix : Op2 K (aIx K) dIx := by
  intro F H v w d e L Q' Q ww hv hw q k
  cases d <;> cases e <;> try exact q.elim
  · obtain ⟨q1, c, q2, q3⟩ := q
    rw [hv.strD, hw.intD]; exact ⟨line_of q1, c, q2, k.sc ww (.str _) q3⟩
  · obtain ⟨a, vs, rfl, h1, h2⟩ := hv.lstD ww.fr
    obtain ⟨d, e, q⟩ := q
    obtain ⟨u, e2, r⟩ := h2.atI e
    rw [hw.intD]; exact ⟨vs, u, .inl (SqL.of h1), e2, k.sc ww r q⟩
  · obtain ⟨a, vs, rfl, h1, h2⟩ := hv.tupD
    obtain ⟨d, e, q⟩ := q
    obtain ⟨u, e2, r⟩ := h2.atI e
    rw [hw.intD]; exact ⟨vs, u, .inr (ww.fr.seqT h1), e2, k.sc ww r q⟩
  · obtain ⟨a, rfl, h1⟩ := hv.scrD ww.fr
    rw [hw.intD]; exact ⟨_, _, .inl h1, atI_int q.1.1 q.1.2, k.sc ww (.int _) q.2⟩
/-! ### in -/
def inP (d : D) (xs : List D) : Bool := xs.any fun z => eqD z d
def flD : D → Bool
  | .non => true
  | .bl _ => true
  | .int _ => true
  | .str _ => true
  | _ => false
def flatD (d : D) (xs : List D) : Prop := flD d = true ∧ xs.all flD = true
def dIn (neg : Bool) : DOp2
  | d, .lst xs, Q => flatD d xs ∧ Q (.val (.bl (if neg then !inP d xs else inP d xs)))
  | d, .tup xs, Q => flatD d xs ∧ Q (.val (.bl (if neg then !inP d xs else inP d xs)))
  | _, _, _ => False
theorem Rp.fl {v : V} {d : D} (h : Rp K F v d) (f : flD d = true) : flatV v = true := by cases h <;> first | rfl | cases f
theorem RpT.fl {v : V} {d : D} (h : RpT K F H v d) (f : flD d = true) : flatV v = true := by
  cases h with
  | sc h => exact h.fl f
  | lst => cases f
  | ins => cases f
theorem Rp.eqf {v w : V} {d e : D} (h : Rp K F v d) (h2 : RpT K F H w e) (f : flD d = true) (f2 : flD e = true) : eqV v w = eqD d e := by
  cases h2 with
  | lst => cases f2
  | ins => cases f2
  | sc h2 =>
    cases h <;> (try cases f) <;> cases h2 <;> (try cases f2) <;> simp [eqV, eqD, toP, PyData.eqv]
theorem Rps.inP {w : V} {e : D} (h2 : RpT K F H w e) (f2 : flD e = true) : ∀ {vs : List V} {ds : List D}, Rps K F vs ds → ds.all flD = true → vs.all flatV = true ∧ inV w vs = DL.inP e ds
  | _, _, .nil, _ => ⟨rfl, rfl⟩
  | _, _, .cons h r, f => by
    rw [List.all_cons, Bool.and_eq_true] at f
    obtain ⟨h3, h4⟩ := Rps.inP h2 f2 r f.2
    refine ⟨by rw [List.all_cons, h.fl f.1, h3]; rfl, ?_⟩
    unfold inV DL.inP at h4 ⊢
    rw [List.any_cons, List.any_cons, h.eqf h2 f.1 f2, h4]
theorem Op2.inn {neg : Bool} : Op2 K (rIn K neg) (dIn neg) := by
  intro F H v w d e L Q' Q ww hv hw q k
  cases e <;> try (cases d <;> exact q.elim)
  case lst xs =>
    have q : flatD d xs ∧ Q' (.val (.bl (if neg then !DL.inP d xs else DL.inP d xs))) := by cases d <;> exact q
    obtain ⟨a, vs, rfl, h1, h2⟩ := hw.lstD ww.fr
    obtain ⟨h3, h4⟩ := Rps.inP hv q.1.1 h2 q.1.2
    refine ⟨a, vs, rfl, .inl (SqL.of h1), hv.fl q.1.1, h3, ?_⟩
    rw [h4]; exact k.sc ww (.bl _) q.2
  case tup xs =>
    have q : flatD d xs ∧ Q' (.val (.bl (if neg then !DL.inP d xs else DL.inP d xs))) := by cases d <;> exact q
    obtain ⟨a, vs, rfl, h1, h2⟩ := hw.tupD
    obtain ⟨h3, h4⟩ := Rps.inP hv q.1.1 h2 q.1.2
    refine ⟨a, vs, rfl, .inr (ww.fr.seqT h1), hv.fl q.1.1, h3, ?_⟩
    rw [h4]; exact k.sc ww (.bl _) q.2
theorem inP_li (i : Int) : ∀ ns : List Int, DL.inP (.int i) (li ns) = decide (i ∈ ns)
  | [] => by simp [DL.inP, li]
  | n :: ns => by
    have := inP_li i ns
    unfold DL.inP li at this ⊢
    rw [List.map_cons, List.any_cons, this, eqD_int, Bool.eq_iff_iff]
    simp only [Bool.or_eq_true, decide_eq_true_eq, List.mem_cons]
    constructor
    · rintro (h | h)
      · exact .inl h.symm
      · exact .inr h
    · rintro (h | h)
      · exact .inl h.symm
      · exact .inr h
theorem flat_li (i : Int) (ns : List Int) : flatD (.int i) (li ns) := ⟨rfl, by simp [li, flD]⟩
/-! ### slices -/
def dSlK (d : D) (lo hi : Option Int) (Q : Rk → Prop) : Prop := match d with
  | .lst xs => Q (.own (cutD xs lo hi))
  | .tup xs => Q (.val (.tup (cutD xs lo hi)))
  | .str z => z.length ≤ 1000000 ∧ Q (.val (.str (cutS z lo hi)))
  | _ => False
theorem Rps.cut {vs : List V} {ds : List D} {lo hi : Option Int} (h : Rps K F vs ds) : Rps K F (cutV vs lo hi) (cutD ds lo hi) := by
  unfold cutV cutD
  rw [h.length]
  exact (h.drop _).take _
theorem sl_ok {v : V} {d : D} {lo hi : Option Int} (w : W F L H) (hv : RpT K F H v d) (q : dSlK d lo hi Q') (k : KO K F L Q' Q) : aSl K v lo hi H Q := by
  cases d <;> try exact q.elim
  · rw [hv.strD]; exact w_slS (line_of q.1) (k.sc w (.str _) q.2)
  · obtain ⟨a, vs, rfl, h1, h2⟩ := hv.lstD w.fr
    exact w_slL (SqL.of h1) (k.newL w h2.cut q)
  · obtain ⟨a, vs, rfl, h1, h2⟩ := hv.tupD
    refine .inr (.inl ⟨a, vs, rfl, w.fr.seqT h1, fun hw => ?_, fun _ => k.newT w h2.cut q⟩)
    refine k.sc w (d := .tup (cutD _ lo hi)) ?_ q
    have : cutV vs lo hi = vs := by
      unfold cutV
      rw [hw.1, hw.2, List.drop_zero, Nat.sub_zero, List.take_length]
    exact .tup h1 (this ▸ h2.cut)
abbrev DTO := DX → List Sl → (Option Int → List Sl → Prop) → Prop
def DO (K : PySem.W.Frag) (pa : Addr) (Wx : WX) (to : TO) (dto : DTO) : Prop :=
  ∀ F H σ δ Lf X (Q' : Option Int → List Sl → Prop) Q, Env K pa F H σ δ Lf → XSim K pa F Lf Wx X → dto X δ Q' → (∀ F' H' i δ', Same F F' → Env K pa F' H' σ δ' Lf → Q' i δ' → Q i H') → to σ H Q
def isI : Option D → (Int → Prop) → Prop
  | some (.int i), Q => Q i
  | _, _ => False
def dPart (a : DTE) : DTO := fun X δ Q => a X δ fun r δ1 => isI (dat δ1 r) fun i => Q (some i) δ1
def dNoPart : DTO := fun _ δ Q => Q none δ
variable {pa : Addr} {Wx : WX} {σ : St} {δ : List Sl}
theorem DO.part {te : TE} {a : DTE} (h : DE K pa Wx te a) : DO K pa Wx (tPart te) (dPart a) := by
  intro F H σ δ Lf X Q' Q hE hX q k
  refine h F H σ δ Lf X _ _ hE hX q fun F1 H1 v r δ1 L1 s1 E1 R1 q => ?_
  cases e : dat δ1 r with
  | none => rw [e] at q; exact q.elim
  | some d =>
    rw [e] at q
    have vw := view E1 R1 (fun p hp => List.mem_append_left _ hp) e
    cases d with
    | int i => exact ⟨i, vw.intD, k F1 H1 _ δ1 s1 E1.drop q⟩
    | _ => exact q.elim
theorem DO.no : DO K pa Wx tNoPart dNoPart := fun F H σ δ Lf X Q' Q hE hX q k => k F H none δ (Same.refl _) hE q
def slK' (r : Rk) (lo hi : Option Int) (δ : List Sl) (Q : DQ) : Prop := match dat δ r with
  | some d => dSlK d lo hi fun u => Q u δ
  | none => False
def dSl (a : DTE) (lo hi : DTO) : DTE := fun X δ Q => a X δ fun r δ1 => lo X δ1 fun l δ2 => hi X δ2 fun u δ3 => slK' r l u δ3 Q
theorem DE.sl {te : TE} {tl th : TO} {a : DTE} {lo hi : DTO} (h : DE K pa Wx te a) (h1 : DO K pa Wx tl lo) (h2 : DO K pa Wx th hi) : DE K pa Wx (tSl (aSl K) te tl th) (dSl a lo hi) := by
  intro F H σ δ Lf X Q' Q hE hX q k
  refine h F H σ δ Lf X _ _ hE hX q fun F1 H1 v r δ1 L1 s1 E1 R1 q => ?_
  refine h1 F1 H1 σ δ1 (L1 ++ Lf) X _ _ E1 (hX.mono s1).frame q fun F2 H2 l δ2 s2 E2 q => ?_
  refine h2 F2 H2 σ δ2 (L1 ++ Lf) X _ _ E2 (hX.mono (s1.trans s2)).frame q fun F3 H3 u δ3 s3 E3 q => ?_
  unfold slK' at q
  cases e : dat δ3 r with
  | none => rw [e] at q; exact q.elim
  | some d =>
    rw [e] at q
    have vw := view E3 (R1.mono (s2.trans s3)) (fun p hp => List.mem_append_left _ hp) e
    obtain ⟨L, w, sl⟩ := E3
    exact sl_ok w vw q (KO.of (fun F' H' v r δ' L1 s => k F' H' v r δ' L1 (s1.trans (s2.trans (s3.trans s)))) sl)
/-! ### built-in functions -/
def CallO (K : PySem.W.Frag) (rc : List V → Hp → VK → Prop) (o : List D → (Rk → Prop) → Prop) : Prop :=
  ∀ F H vs ds L Q' Q, W F L H → RpTs K F H vs ds → o ds Q' → KO K F L Q' Q → rc vs H Q
def dats (δ : List Sl) : List Rk → Option (List D)
  | [] => some []
  | r :: rs => match dat δ r, dats δ rs with
    | some d, some ds => some (d :: ds)
    | _, _ => none
def cbK (o : List D → (Rk → Prop) → Prop) (rs : List Rk) (δ : List Sl) (Q : DQ) : Prop := match dats δ rs with
  | some ds => o ds fun u => Q u δ
  | none => False
def dCB (o : List D → (Rk → Prop) → Prop) (da : DTA) : DTE := fun X δ Q => da X δ fun rs δ1 => cbK o rs δ1 Q
theorem views {Lf : List (Addr × HO)} (hE : Env K pa F H σ δ Lf) : ∀ {L1 : List (Addr × HO)} {vs : List V} {rs : List Rk} {ds : List D}, RRs K F σ L1 vs rs → (∀ p ∈ L1, p ∈ Lf) → dats δ rs = some ds → RpTs K F H vs ds
  | _, _, [], _, h, hL, e => by
    obtain ⟨rfl, rfl⟩ := h.nil'
    cases e; exact .nil
  | _, _, r :: rs, _, h, hL, e => by
    cases h with
    | cons h1 h2 =>
      unfold dats at e
      cases e1 : dat δ r with
      | none => rw [e1] at e; cases e
      | some d =>
        cases e2 : dats δ rs with
        | none => rw [e1, e2] at e; cases e
        | some ds =>
          rw [e1, e2] at e
          cases e
          exact .cons (view hE h1 (fun p hp => hL p (List.mem_append_right _ hp)) e1) (views hE h2 (fun p hp => hL p (List.mem_append_left _ hp)) e2)
theorem DE.cb {rc : List V → Hp → VK → Prop} {o : List D → (Rk → Prop) → Prop} {ta : TA} {da : DTA} (ho : CallO K rc o) (ha : DA K pa Wx ta da) : DE K pa Wx (tCB rc ta) (dCB o da) := by
  intro F H σ δ Lf X Q' Q hE hX h k
  refine ha F H σ δ Lf X _ _ hE hX h fun F1 H1 vs rs δ1 L1 s1 E1 R1 q => ?_
  unfold cbK at q
  cases e : dats δ1 rs with
  | none => rw [e] at q; exact q.elim
  | some ds =>
    rw [e] at q
    have vw := views E1 R1 (fun p hp => List.mem_append_left _ hp) e
    obtain ⟨L, w, sl⟩ := E1
    exact ho F1 H1 vs ds _ _ Q w vw q (KO.of (fun F' H' v r δ' L1 s => k F' H' v r δ' L1 (s1.trans s)) sl)
def oLen (ds : List D) (Q : Rk → Prop) : Prop := match ds with
  | [.str z] => z.length ≤ 1000000 ∧ Q (.val (.int z.length))
  | [.lst xs] => Q (.val (.int xs.length))
  | [.tup xs] => Q (.val (.int xs.length))
  | [.scr xs] => Q (.val (.int xs.length))
  | _ => False
theorem RpTs.one {vs : List V} {d : D} (h : RpTs K F H vs [d]) : ∃ v, vs = [v] ∧ RpT K F H v d := by
  cases h with
  | cons h r => cases r; exact ⟨_, rfl, h⟩
theorem RpTs.two {vs : List V} {d e : D} (h : RpTs K F H vs [d, e]) : ∃ v w, vs = [v, w] ∧ RpT K F H v d ∧ RpT K F H w e := by
  cases h with
  | cons h r => obtain ⟨w, rfl, h2⟩ := r.one; exact ⟨_, _, rfl, h, h2⟩
theorem CallO.len : CallO K (aLen K) oLen := by
  intro F H vs ds L Q' Q w hv q k
  unfold oLen at q
  split at q
  · obtain ⟨v, rfl, h⟩ := hv.one
    rw [h.strD]; exact ⟨line_of q.1, k.sc w (.int _) q.2⟩
  · obtain ⟨v, rfl, h⟩ := hv.one
    obtain ⟨a, vs, rfl, h1, h2⟩ := h.lstD w.fr
    exact w_lenL (SqL.of h1) (by rw [h2.length]; exact k.sc w (.int _) q)
  · obtain ⟨v, rfl, h⟩ := hv.one
    obtain ⟨a, vs, rfl, h1, h2⟩ := h.tupD
    exact w_lenT (w.fr.seqT h1) (by rw [h2.length]; exact k.sc w (.int _) q)
  · obtain ⟨v, rfl, h⟩ := hv.one
    obtain ⟨a, rfl, h1⟩ := h.scrD w.fr
    exact w_lenL h1 (by rw [List.length_map]; exact k.sc w (.int _) q)
  · exact q.elim
def oInt (ds : List D) (Q : Rk → Prop) : Prop := match ds with
  | [.int i] => Q (.val (.int i))
  | [.bl b] => Q (.val (.int (if b then 1 else 0)))
  | _ => False
theorem CallO.int : CallO K aInt oInt := by
  intro F H vs ds L Q' Q w hv q k
  unfold oInt at q
  split at q
  · obtain ⟨v, rfl, h⟩ := hv.one
    rw [h.intD]; exact k.sc w (.int _) q
  · obtain ⟨v, rfl, h⟩ := hv.one
    rw [h.blD]; exact k.sc w (.int _) q
  · exact q.elim
def oAbs (ds : List D) (Q : Rk → Prop) : Prop := match ds with
  | [.int i] => Q (.val (.int (i.natAbs : Int)))
  | _ => False
theorem CallO.abs : CallO K aAbs oAbs := by
  intro F H vs ds L Q' Q w hv q k
  unfold oAbs at q
  split at q
  · obtain ⟨v, rfl, h⟩ := hv.one
    rw [h.intD]; exact k.sc w (.int _) q
  · exact q.elim
/-- the ints of a list -/
def intsOf : List D → Option (List Int)
  | [] => some []
  | .int i :: xs => (intsOf xs).map (i :: ·)
  | _ => none
theorem intsOf_li : ∀ ns : List Int, intsOf (li ns) = some ns
  | [] => rfl
  | n :: ns => by
    have := intsOf_li ns
    unfold li at this ⊢
    rw [List.map_cons, intsOf, this]; rfl
theorem intsOf_eq : ∀ {ds : List D} {ns : List Int}, intsOf ds = some ns → ds = li ns
  | [], ns, e => by cases e; rfl
  | .int i :: xs, ns, e => by
    rw [intsOf] at e
    cases e2 : intsOf xs with
    | none => rw [e2] at e; cases e
    | some ms => rw [e2] at e; cases e; rw [intsOf_eq e2]; rfl
  | .non :: _, _, e => by cases e
  | .bl _ :: _, _, e => by cases e
  | .str _ :: _, _, e => by cases e
  | .lst _ :: _, _, e => by cases e
  | .tup _ :: _, _, e => by cases e
  | .ins _ _ :: _, _, e => by cases e
  | .scr _ :: _, _, e => by cases e
  | .ty _ :: _, _, e => by cases e
def extK (b : Bool) (Q : Rk → Prop) : Option (List Int) → Prop
  | some ns => 0 < ns.length ∧ ∀ m, m ∈ ns → (∀ y, y ∈ ns → if b then y ≤ m else m ≤ y) → Q (.val (.int m))
  | none => False
def oMax (ds : List D) (Q : Rk → Prop) : Prop := match ds with
  | [.int i, .int j] => Q (.val (.int (max i j)))
  | [.lst xs] => extK true Q (intsOf xs)
  | _ => False
def oMin (ds : List D) (Q : Rk → Prop) : Prop := match ds with
  | [.int i, .int j] => Q (.val (.int (min i j)))
  | [.lst xs] => extK false Q (intsOf xs)
  | _ => False
theorem CallO.max : CallO K (aMax K) oMax := by
  intro F H vs ds L Q' Q w hv q k
  unfold oMax at q
  split at q
  · obtain ⟨v, u, rfl, h, h2⟩ := hv.two
    rw [h.intD, h2.intD]; exact k.sc w (.int _) q
  · obtain ⟨v, rfl, h⟩ := hv.one
    rename_i xs
    cases e : intsOf xs with
    | none => rw [e] at q; exact q.elim
    | some ns =>
      rw [e] at q
      obtain rfl := intsOf_eq e
      obtain ⟨a, vs, rfl, h1, h2⟩ := h.lstD w.fr
      obtain rfl := h2.liV
      exact ⟨ns, SqL.of h1, q.1, fun m hm hy => k.sc w (.int _) (q.2 m hm (by simpa using hy))⟩
  · exact q.elim
theorem CallO.min : CallO K (aMin K) oMin := by
  intro F H vs ds L Q' Q w hv q k
  unfold oMin at q
  split at q
  · obtain ⟨v, u, rfl, h, h2⟩ := hv.two
    rw [h.intD, h2.intD]; exact k.sc w (.int _) q
  · obtain ⟨v, rfl, h⟩ := hv.one
    rename_i xs
    cases e : intsOf xs with
    | none => rw [e] at q; exact q.elim
    | some ns =>
      rw [e] at q
      obtain rfl := intsOf_eq e
      obtain ⟨a, vs, rfl, h1, h2⟩ := h.lstD w.fr
      obtain rfl := h2.liV
      exact ⟨ns, SqL.of h1, q.1, fun m hm hy => k.sc w (.int _) (q.2 m hm (by simpa using hy))⟩
  · exact q.elim
def sumK (Q : Rk → Prop) : Option (List Int) → Prop
  | some ns => Q (.val (.int ns.sum))
  | none => False
def oSum (ds : List D) (Q : Rk → Prop) : Prop := match ds with
  | [.lst xs] => sumK Q (intsOf xs)
  | [.tup xs] => sumK Q (intsOf xs)
  | _ => False
theorem CallO.sum : CallO K (rSumA K) oSum := by
  intro F H vs ds L Q' Q w hv q k
  unfold oSum at q
  split at q
  · obtain ⟨v, rfl, h⟩ := hv.one
    rename_i xs
    cases e : intsOf xs with
    | none => rw [e] at q; exact q.elim
    | some ns =>
      rw [e] at q
      obtain rfl := intsOf_eq e
      obtain ⟨a, vs, rfl, h1, h2⟩ := h.lstD w.fr
      obtain rfl := h2.liV
      exact w_sumL (SqL.of h1) (k.sc w (.int _) q)
  · obtain ⟨v, rfl, h⟩ := hv.one
    rename_i xs
    cases e : intsOf xs with
    | none => rw [e] at q; exact q.elim
    | some ns =>
      rw [e] at q
      obtain rfl := intsOf_eq e
      obtain ⟨a, vs, rfl, h1, h2⟩ := h.tupD
      obtain rfl := h2.liV
      exact w_sumT (w.fr.seqT h1) (k.sc w (.int _) q)
  · exact q.elim
def oList (ds : List D) (Q : Rk → Prop) : Prop := match ds with
  | [.lst xs] => Q (.own xs)
  | [.tup xs] => Q (.own xs)
  | _ => False
theorem CallO.list : CallO K (aList K) oList := by
  intro F H vs ds L Q' Q w hv q k
  unfold oList at q
  split at q
  · obtain ⟨v, rfl, h⟩ := hv.one
    obtain ⟨a, vs, rfl, h1, h2⟩ := h.lstD w.fr
    exact w_list (.inl (SqL.of h1)) (k.newL w h2 q)
  · obtain ⟨v, rfl, h⟩ := hv.one
    obtain ⟨a, vs, rfl, h1, h2⟩ := h.tupD
    exact w_list (.inr (w.fr.seqT h1)) (k.newL w h2 q)
  · exact q.elim
def oTuple (ds : List D) (Q : Rk → Prop) : Prop := match ds with
  | [.lst xs] => Q (.val (.tup xs))
  | [.tup xs] => Q (.val (.tup xs))
  | _ => False
theorem CallO.tuple : CallO K (aTuple K) oTuple := by
  intro F H vs ds L Q' Q w hv q k
  unfold oTuple at q
  split at q
  · obtain ⟨v, rfl, h⟩ := hv.one
    obtain ⟨a, vs, rfl, h1, h2⟩ := h.lstD w.fr
    exact ⟨vs, .inl ⟨SqL.of h1, k.newT w h2 q⟩⟩
  · obtain ⟨v, rfl, h⟩ := hv.one
    obtain ⟨a, vs, rfl, h1, h2⟩ := h.tupD
    exact ⟨vs, .inr ⟨w.fr.seqT h1, k.sc w (.tup h1 h2) q⟩⟩
  · exact q.elim
/-- list(range(n)) -/
def dLr (a : DTE) : DTE := fun X δ Q => a X δ fun r δ1 => isI (dat δ1 r) fun n => (0 ≤ n ∧ n ≤ 100000) ∧ Q (.own (li ((List.range n.toNat).map fun i => ((i : Nat) : Int)))) δ1
theorem rgV_toNat (n : Int) : rgV 0 n = ((List.range n.toNat).map fun p => ((p : Nat) : Int)).map V.int := by
  unfold rgV
  rw [List.map_map, show (n - 0).toNat = n.toNat by omega]
  refine List.map_congr_left fun p _ => ?_
  show V.int (0 + (p : Int)) = V.int (p : Int)
  rw [Int.zero_add]
theorem DE.lr {te : TE} {a : DTE} (h : DE K pa Wx te a) : DE K pa Wx (tLstRg (tRg1 te)) (dLr a) := by
  intro F H σ δ Lf X Q' Q hE hX q k
  refine h F H σ δ Lf X _ _ hE hX q fun F1 H1 v r δ1 L1 s1 E1 R1 q => ?_
  cases e : dat δ1 r with
  | none => rw [e] at q; exact q.elim
  | some d =>
    rw [e] at q
    have vw := view E1 R1 (fun p hp => List.mem_append_left _ hp) e
    cases d with
    | int n =>
      obtain ⟨q1, q⟩ := q
      refine ⟨n, vw.intD, ?_⟩
      refine ⟨RgOk.of_le (by omega) (by omega) (by omega) q1.1, fun p hp => ?_⟩
      rw [rgV_toNat]
      exact k F1 _ _ _ δ1 [(p, _)] s1 (E1.drop.new hp) (.own (Rps.li _)) q
    | _ => exact q.elim
end
end DL
/-! Statements over data. -/
namespace DL
open PySem L2
structure DEnds where
  nx : List Sl → Prop
  bk : List Sl → Prop
  ct : List Sl → Prop
  rt : Rk → List Sl → Prop
  ex : DX
abbrev DTS := DEnds → List Sl → Prop
structure Sim (K : PySem.W.Frag) (pa : Addr) (F : Hp) (Lf : List (Addr × HO)) (Wx : WX) (D : Ends) (D' : DEnds) : Prop where
  nx : ∀ F' H' σ δ, Same F F' → Env K pa F' H' σ δ Lf → D'.nx δ → D.nx σ H'
  bk : ∀ F' H' σ δ, Same F F' → Env K pa F' H' σ δ Lf → D'.bk δ → D.bk σ H'
  ct : ∀ F' H' σ δ, Same F F' → Env K pa F' H' σ δ Lf → D'.ct δ → D.ct σ H'
  rt : ∀ F' H' σ v r δ L1, Same F F' → Env K pa F' H' σ δ (L1 ++ Lf) → RR K F' σ L1 v r → D'.rt r δ → D.rt v H'
  ex : XSim K pa F Lf Wx D'.ex
def DS (K : PySem.W.Frag) (pa : Addr) (Wx : WX) (ts : TS) (ds : DTS) : Prop := ∀ F H σ δ Lf D D', Env K pa F H σ δ Lf → Sim K pa F Lf Wx D D' → ds D' δ → ts D σ H
section
variable {K : PySem.W.Frag} {pa : Addr} {F F' H H' : Hp} {L L1 L2 L3 Lf : List (Addr × HO)} {σ σ' : St} {δ δ' : List Sl} {Wx : WX} {X : DX} {D : Ends} {D' : DEnds}
theorem Sim.mono (s : Same F F') (h : Sim K pa F Lf Wx D D') : Sim K pa F' Lf Wx D D' :=
  ⟨fun F2 H2 σ δ s2 => h.nx F2 H2 σ δ (s.trans s2), fun F2 H2 σ δ s2 => h.bk F2 H2 σ δ (s.trans s2), fun F2 H2 σ δ s2 => h.ct F2 H2 σ δ (s.trans s2), fun F2 H2 σ v r δ L1 s2 => h.rt F2 H2 σ v r δ L1 (s.trans s2), h.ex.mono s⟩
/-! ### sequences, ends -/
def dSeq (t u : DTS) : DTS := fun D δ => t { D with nx := u D } δ
def dNext : DTS := fun D δ => D.nx δ
def dBreak : DTS := fun D δ => D.bk δ
def dCont : DTS := fun D δ => D.ct δ
theorem DS.seq {t u : TS} {a b : DTS} (h1 : DS K pa Wx t a) (h2 : DS K pa Wx u b) : DS K pa Wx (tSeq t u) (dSeq a b) := by
  intro F H σ δ Lf D D' hE hS h
  exact h1 F H σ δ Lf _ { D' with nx := b D' } hE ⟨fun F2 H2 σ2 δ2 s2 E2 q => h2 F2 H2 σ2 δ2 Lf D D' E2 (hS.mono s2) q, hS.bk, hS.ct, hS.rt, hS.ex⟩ h
theorem DS.next : DS K pa Wx tNext dNext := fun F H σ δ Lf D D' hE hS h => hS.nx F H σ δ (Same.refl _) hE h
theorem DS.brk : DS K pa Wx tBreak dBreak := fun F H σ δ Lf D D' hE hS h => hS.bk F H σ δ (Same.refl _) hE h
theorem DS.cont : DS K pa Wx tCont dCont := fun F H σ δ Lf D D' hE hS h => hS.ct F H σ δ (Same.refl _) hE h
def dDrop (a : DTE) : DTS := fun D δ => a D.ex δ fun _ δ1 => D.nx δ1
theorem DS.drop {te : TE} {a : DTE} (h : DE K pa Wx te a) : DS K pa Wx (tDrop te) (dDrop a) := by
  intro F H σ δ Lf D D' hE hS q
  exact h F H σ δ Lf _ _ _ hE hS.ex q fun F1 H1 v r δ1 L1 s1 E1 R1 q => hS.nx F1 H1 σ δ1 s1 E1.drop q
/-! ### return -/
def retB (i : Nat) (Q : DQ) (δ : List Sl) : Option Sl → Prop
  | some (.own ds) => Q (.own ds) (δ.set i .dead)
  | some (.val d) => Q (.val d) δ
  | some (.otup p ds q) => Q (.otup p ds q) (δ.set i .dead)
  | some (.tre t) => Q (.tre t) (δ.set i .dead)
  | _ => False
def retK (Q : DQ) (r : Rk) (δ : List Sl) : Prop := match r with
  | .bor i => retB i Q δ δ[i]?
  | .val d => Q (.val d) δ
  | .own ds => Q (.own ds) δ
  | .raw v => Q (.raw v) δ
  | .otup p ds q => Q (.otup p ds q) δ
  | .tre t => Q (.tre t) δ
theorem Sls.take (h : Sls K pa F L σ δ) : ∀ {i : Nat} {ds : List DL.D}, δ[i]? = some (.own ds) → ∃ a vs L', σ[i]? = some (some (.ref a)) ∧ L.Perm ((a, .lst vs) :: L') ∧ Rps K F vs ds ∧ Sls K pa F L' σ (δ.set i .dead) := by
  induction h with
  | nil => intro i ds e; simp at e
  | dead x h ih =>
    intro i ds e
    cases i with
    | zero => cases e
    | succ i => obtain ⟨a, vs, L', h1, h2, h3, h4⟩ := ih e; exact ⟨a, vs, L', h1, h2, h3, .dead x h4⟩
  | val y h ih =>
    intro i ds e
    cases i with
    | zero => cases e
    | succ i => obtain ⟨a, vs, L', h1, h2, h3, h4⟩ := ih e; exact ⟨a, vs, L', h1, h2, h3, .val y h4⟩
  | raw y h ih =>
    intro i ds e
    cases i with
    | zero => cases e
    | succ i => obtain ⟨a, vs, L', h1, h2, h3, h4⟩ := ih e; exact ⟨a, vs, L', h1, h2, h3, .raw y h4⟩
  | @own L σ δ c ws es y h ih =>
    intro i ds e
    cases i with
    | zero => cases e; exact ⟨c, ws, L, rfl, List.Perm.refl _, y, .dead _ h⟩
    | succ i => obtain ⟨a, vs, L', h1, h2, h3, h4⟩ := ih e; exact ⟨a, vs, _, h1, (h2.cons _).trans (List.Perm.swap _ _ _), h3, .own y h4⟩
  | par y h ih =>
    intro i ds e
    cases i with
    | zero => cases e
    | succ i => obtain ⟨a, vs, L', h1, h2, h3, h4⟩ := ih e; exact ⟨a, vs, _, h1, (h2.cons _).trans (List.Perm.swap _ _ _), h3, .par y h4⟩
  | obj g y h ih =>
    intro i ds e
    cases i with
    | zero => cases e
    | succ i => obtain ⟨a, vs, L', h1, h2, h3, h4⟩ := ih e; exact ⟨a, vs, _, h1, (h2.cons _).trans (List.Perm.swap _ _ _), h3, .obj g y h4⟩
  | exc hd y h ih =>
    intro i ds e
    cases i with
    | zero => cases e
    | succ i => obtain ⟨a, vs, L', h1, h2, h3, h4⟩ := ih e; exact ⟨a, vs, L', h1, h2, h3, .exc hd y h4⟩
  | exc0 h ih =>
    intro i ds e
    cases i with
    | zero => cases e
    | succ i => obtain ⟨a, vs, L', h1, h2, h3, h4⟩ := ih e; exact ⟨a, vs, L', h1, h2, h3, .exc0 h4⟩
  | otup t y1 y2 y3 h ih =>
    intro i ds e
    cases i with
    | zero => cases e
    | succ i => obtain ⟨a, vs, L', h1, h2, h3, h4⟩ := ih e; exact ⟨a, vs, _, h1, (h2.cons _).trans (List.Perm.swap _ _ _), h3, .otup t y1 y2 y3 h4⟩
  | @tre L9 L σ δ v t y h ih =>
    intro i ds e
    cases i with
    | zero => cases e
    | succ i => obtain ⟨a, vs, L', h1, h2, h3, h4⟩ := ih e; exact ⟨a, vs, L9 ++ L', h1, p_up (C := [_]) h2, h3, .tre y h4⟩
theorem ret_ok {v : V} {r : Rk} {Q : DQ} {R : Prop} (hE : Env K pa F H σ δ (L1 ++ Lf)) (rr : RR K F σ L1 v r) (h : retK Q r δ) (k : ∀ r δ' L1, Env K pa F H σ δ' (L1 ++ Lf) → RR K F σ L1 v r → Q r δ' → R) : R := by
  cases rr with
  | val hv => exact k _ δ [] hE (.val hv) h
  | own hv => exact k _ δ _ hE (.own hv) h
  | raw => exact k _ δ [] hE (.raw _) h
  | otup t h1 h2 h3 => exact k _ δ _ hE (.otup t h1 h2 h3) h
  | tre y => exact k _ δ _ hE (.tre y) h
  | @bor i v e =>
    unfold retK at h
    dsimp only at h
    cases e2 : δ[i]? with
    | none => rw [e2] at h; exact h.elim
    | some sl =>
      rw [e2] at h
      cases sl with
      | own ds =>
        obtain ⟨L, w, s⟩ := hE
        obtain ⟨a, vs, L', h1, h2, h3, h4⟩ := s.take e2
        rw [e] at h1
        cases h1
        exact k _ _ [(a, .lst vs)] ⟨L', w.perm ((h2.append_right _).trans List.perm_middle.symm), h4⟩ (.own h3) h
      | val d =>
        obtain ⟨L, w, s⟩ := id hE
        obtain ⟨v2, h1, h2⟩ := (s.slot e2).1 _ rfl
        rw [e] at h1
        cases h1
        exact k _ δ [] hE (.val h2) h
      | otup p ds q =>
        obtain ⟨L, w, s⟩ := hE
        obtain ⟨a, T, us, vs, ws, L', h1, h2, h3, h4, h5, h6, h7⟩ := s.takeO e2
        rw [e] at h1
        cases h1
        exact k _ _ [(a, .lst vs)] ⟨L', w.perm ((h2.append_right _).trans List.perm_middle.symm), h7 _ _ (Same.refl _) (.inl rfl)⟩ (.otup h3 h4 h5 h6) h
      | tre t =>
        obtain ⟨L, w, s⟩ := hE
        obtain ⟨x, L0, L', h1, h2, h3, h4⟩ := s.out e2
        rw [e] at h1
        cases h1
        cases h3 with
        | @tre L9 _ _ _ _ _ y q9 =>
        cases q9
        rw [List.append_nil] at h2
        refine k _ _ L9 ⟨L', w.perm ((h2.append_right _).trans ?_), h4 _ _ (Same.refl _) (.dead _ .nil)⟩ (.tre y) h
        rw [List.nil_append, ← List.append_assoc L']
        exact List.perm_append_comm.append_right _
      | _ => exact h.elim
def dRet (a : DTE) : DTS := fun D δ => a D.ex δ fun r δ1 => retK D.rt r δ1
def dRetN : DTS := fun D δ => D.rt (.val .non) δ
theorem DS.ret {te : TE} {a : DTE} (h : DE K pa Wx te a) : DS K pa Wx (tRet te) (dRet a) := by
  intro F H σ δ Lf D D' hE hS q
  refine h F H σ δ Lf _ _ _ hE hS.ex q fun F1 H1 v r δ1 L1 s1 E1 R1 q => ?_
  exact ret_ok E1 R1 q fun r δ2 L2 E2 R2 q => hS.rt F1 H1 σ v r δ2 L2 s1 E2 R2 q
theorem DS.retN : DS K pa Wx tRetN dRetN := fun F H σ δ Lf D D' hE hS h => hS.rt F H σ .non _ δ [] (Same.refl _) hE (.val .non) h
/-! ### if -/
def dBr (t u : DTS) (D : DEnds) (b : Bool) (δ : List Sl) : Prop := if b = true then t D δ else u D δ
def dIfS (c : DTT) (t u : DTS) : DTS := fun D δ => c D.ex δ fun b δ1 => dBr t u D b δ1
theorem DS.ifs {tt : TT} {t u : TS} {c : DTT} {a b : DTS} (hc : DT K pa Wx tt c) (h1 : DS K pa Wx t a) (h2 : DS K pa Wx u b) : DS K pa Wx (tIfS tt t u) (dIfS c a b) := by
  intro F H σ δ Lf D D' hE hS q
  refine hc F H σ δ Lf _ _ _ hE hS.ex q fun F1 H1 b δ1 s1 E1 q => ?_
  cases b with
  | true => exact h1 F1 H1 σ δ1 Lf D D' E1 (hS.mono s1) q
  | false => exact h2 F1 H1 σ δ1 Lf D D' E1 (hS.mono s1) q
/-! ### assignment -/
def asgB (i j : Nat) (N : List Sl → Prop) (δ : List Sl) : Option Sl → Prop
  | some (.own ds) => N ((δ.set j (.val (.lst ds))).set i (.val (.lst ds)))
  | some (.val d) => N (δ.set i (.val d))
  | _ => False
def asgK (i : Nat) (N : List Sl → Prop) (r : Rk) (δ : List Sl) : Prop := match r with
  | .val d => N (δ.set i (.val d))
  | .own ds => N (δ.set i (.own ds))
  | .raw v => N (δ.set i (.raw v))
  | .otup p ds q => N (δ.set i (.otup p ds q))
  | .tre t => N (δ.set i (.tre t))
  | .bor j => asgB i j N δ δ[j]?
def dAsg (i : Nat) (a : DTE) : DTS := fun D δ => i < δ.length ∧ a D.ex δ fun r δ1 => i < δ1.length ∧ asgK i D.nx r δ1
theorem DS.asg {i : Nat} {te : TE} {a : DTE} (h : DE K pa Wx te a) : DS K pa Wx (tAsg te (gName i)) (dAsg i a) := by
  intro F H σ δ Lf D D' hE hS q
  refine h F H σ δ Lf _ _ _ hE hS.ex q.2 fun F1 H1 v r δ1 L1 s1 E1 R1 q => ?_
  obtain ⟨hi, q⟩ := q
  show D.nx _ _
  cases R1 with
  | val hv => exact hS.nx F1 H1 _ _ s1 (E1.put (L1 := []) hi (.val hv .nil)) q
  | own hv => exact hS.nx F1 H1 _ _ s1 (E1.put hi (.own hv .nil)) q
  | raw => exact hS.nx F1 H1 _ _ s1 (E1.put (L1 := []) hi (.raw _ .nil)) q
  | otup t h1 h2 h3 => exact hS.nx F1 H1 _ _ s1 (E1.put hi (.otup t h1 h2 h3 .nil)) q
  | tre y =>
    refine hS.nx F1 H1 _ _ s1 (E1.put hi ?_) q
    have := Sls.tre (L := []) (δ := []) (σ := []) (pa := pa) y .nil
    rwa [List.append_nil] at this
  | @bor j v e =>
    unfold asgK at q
    dsimp only at q
    cases e2 : δ1[j]? with
    | none => rw [e2] at q; exact q.elim
    | some sl =>
      rw [e2] at q
      cases sl with
      | own ds =>
        have hf : frzD (.bor j) δ1 (fun d δ2 => d = .lst ds ∧ δ2 = δ1.set j (.val (.lst ds))) := by
          unfold frzD; dsimp only; rw [e2]; exact ⟨rfl, rfl⟩
        refine frz_ok (L1 := []) E1 (.bor e) hf fun F2 d δ2 s2 E2 hd z => ?_
        obtain ⟨rfl, rfl⟩ := z
        exact hS.nx F2 H1 _ _ (s1.trans s2) (E2.put (L1 := []) (by simpa using hi) (.val hd .nil)) q
      | val d =>
        obtain ⟨L, w, s⟩ := id E1
        obtain ⟨v2, h1, h2⟩ := (s.slot e2).1 _ rfl
        rw [e] at h1
        cases h1
        exact hS.nx F1 H1 _ _ s1 (E1.put (L1 := []) hi (.val h2 .nil)) q
      | _ => exact q.elim
/-- targets -/
abbrev DTG := DL.D → List Sl → (List Sl → Prop) → Prop
def DG (K : PySem.W.Frag) (pa : Addr) (ps : List Nat) (tg : TG) (dg : DTG) : Prop := ∀ F H σ δ Lf v d (Q : St → Hp → Prop) Q', Env K pa F H σ δ Lf → Rp K F v d → dg d δ Q' →
  (∀ σ' δ', Env K pa F H σ' δ' Lf → σ'.length = σ.length → (∀ i, i ∉ ps → σ'[i]? = σ[i]?) → Q' δ' → Q σ' H) → tg v σ H Q
def DGs (K : PySem.W.Frag) (pa : Addr) (ps : List Nat) (tg : TGs) (dg : List DL.D → List Sl → (List Sl → Prop) → Prop) : Prop := ∀ F H σ δ Lf vs ds (Q : St → Hp → Prop) Q', Env K pa F H σ δ Lf → Rps K F vs ds → dg ds δ Q' →
  (∀ σ' δ', Env K pa F H σ' δ' Lf → σ'.length = σ.length → (∀ i, i ∉ ps → σ'[i]? = σ[i]?) → Q' δ' → Q σ' H) → tg vs σ H Q
def dgName (i : Nat) : DTG := fun d δ Q => i < δ.length ∧ Q (δ.set i (.val d))
theorem DG.name (i : Nat) : DG K pa [i] (gName i) (dgName i) := by
  intro F H σ δ Lf v d Q Q' hE hv q k
  refine k _ _ (hE.put (L1 := []) q.1 (.val hv .nil)) (by simp) (fun j hj => ?_) q.2
  rw [List.getElem?_set_ne]
  intro e; exact hj (by simp [e])
def dgNil (ds : List DL.D) (δ : List Sl) (Q : List Sl → Prop) : Prop := match ds with
  | [] => Q δ
  | _ => False
def dgCons (g : DTG) (gs : List DL.D → List Sl → (List Sl → Prop) → Prop) (ds : List DL.D) (δ : List Sl) (Q : List Sl → Prop) : Prop := match ds with
  | d :: r => g d δ fun δ1 => gs r δ1 Q
  | [] => False
theorem DGs.nil : DGs K pa [] gNil dgNil := by
  intro F H σ δ Lf vs ds Q Q' hE hv q k
  cases hv with
  | nil => exact ⟨rfl, k σ δ hE rfl (fun _ _ => rfl) q⟩
  | cons => exact q.elim
theorem DGs.cons {ps qs : List Nat} {g : TG} {gs : TGs} {a : DTG} {b : List DL.D → List Sl → (List Sl → Prop) → Prop} (h1 : DG K pa ps g a) (h2 : DGs K pa qs gs b) : DGs K pa (ps ++ qs) (gCons g gs) (dgCons a b) := by
  intro F H σ δ Lf vs ds Q Q' hE hv q k
  cases hv with
  | nil => exact q.elim
  | cons hv hr =>
    refine ⟨_, _, rfl, ?_⟩
    refine h1 F H σ δ Lf _ _ _ _ hE hv q fun σ1 δ1 E1 l1 o1 q => ?_
    refine h2 F H σ1 δ1 Lf _ _ _ _ E1 hr q fun σ2 δ2 E2 l2 o2 q => ?_
    exact k σ2 δ2 E2 (l2.trans l1) (fun i hi => (o2 i (fun z => hi (List.mem_append_right _ z))).trans (o1 i fun z => hi (List.mem_append_left _ z))) q
def dgTup (n : Nat) (gs : List DL.D → List Sl → (List Sl → Prop) → Prop) : DTG := fun d δ Q => match d with
  | .tup ds => ds.length = n ∧ gs ds δ Q
  | _ => False
theorem DG.tup {ps : List Nat} {n : Nat} {gs : TGs} {b : List DL.D → List Sl → (List Sl → Prop) → Prop} (h : DGs K pa ps gs b) : DG K pa ps (gTup K n gs) (dgTup n b) := by
  intro F H σ δ Lf v d Q Q' hE hv q k
  cases hv with
  | tup h1 h2 => exact ⟨_, _, rfl, hE.fr.seqT h1, by rw [h2.length]; exact q.1, h F H σ δ Lf _ _ _ _ hE h2 q.2 k⟩
  | _ => exact q.elim
/-- a, b = e -/
def dAsgG (a : DTE) (g : DTG) : DTS := fun D δ => a D.ex δ fun r δ1 => frzD r δ1 fun d δ2 => g d δ2 D.nx
theorem DS.asgG {ps : List Nat} {te : TE} {g : TG} {a : DTE} {b : DTG} (h : DE K pa Wx te a) (hg : DG K pa ps g b) : DS K pa Wx (tAsg te g) (dAsgG a b) := by
  intro F H σ δ Lf D D' hE hS q
  refine h F H σ δ Lf _ _ _ hE hS.ex q fun F1 H1 v r δ1 L1 s1 E1 R1 q => ?_
  refine frz_ok E1 R1 q fun F2 d δ2 s2 E2 hd q => ?_
  exact hg F2 H1 σ δ2 Lf v d _ _ E2 hd q fun σ' δ' E' _ _ q => hS.nx F2 H1 σ' δ' (s1.trans s2) E' q
/-- i op= e, of ints -/
def augI (f : Int → Int → Int) (i : Nat) (N : List Sl → Prop) (δ : List Sl) : Option Sl → Option DL.D → Prop
  | some (.val (.int a)), some (.int b) => N (δ.set i (.val (.int (f a b))))
  | _, _ => False
def isVI : Option Sl → Prop
  | some (.val (.int _)) => True
  | _ => False
def dAug (i : Nat) (a : DTE) (f : Int → Int → Int) : DTS := fun D δ => isVI δ[i]? ∧ a D.ex δ fun r δ1 => (δ1[i]? = δ[i]?) ∧ augI f i D.nx δ1 δ[i]? (dat δ1 r)
theorem DS.aug {i : Nat} {te : TE} {a : DTE} {f : Int → Int → Int} (h : DE K pa Wx te a) : DS K pa Wx (tAug i te (ipI f)) (dAug i a f) := by
  intro F H σ δ Lf D D' hE hS q
  obtain ⟨q0, q⟩ := q
  obtain ⟨x, e, rx⟩ : ∃ x, δ[i]? = some (.val (.int x)) ∧ σ[i]? = some (some (.int x)) := by
    cases e : δ[i]? with
    | none => rw [e] at q0; exact q0.elim
    | some sl =>
      rw [e] at q0
      cases sl with
      | val d =>
        cases d with
        | int x =>
          obtain ⟨L, w, s⟩ := hE
          obtain ⟨v, h1, h2⟩ := (s.slot e).1 _ rfl
          rw [h2.intD] at h1
          exact ⟨x, rfl, h1⟩
        | _ => exact q0.elim
      | _ => exact q0.elim
  refine ⟨_, rx, ?_⟩
  refine h F H σ δ Lf _ _ _ hE hS.ex q fun F1 H1 v r δ1 L1 s1 E1 R1 q => ?_
  obtain ⟨q1, q⟩ := q
  rw [e] at q q1
  cases e2 : dat δ1 r with
  | none => rw [e2] at q; exact q.elim
  | some d =>
    rw [e2] at q
    have vw := view E1 R1 (fun p hp => List.mem_append_left _ hp) e2
    cases d with
    | int b =>
      refine ⟨x, b, rfl, vw.intD, hS.nx F1 H1 _ _ s1 (E1.drop.put (L1 := []) ?_ (.val (.int _) .nil)) q⟩
      exact (List.getElem?_eq_some_iff.mp q1).1
    | _ => exact q.elim
/-! ### lists that change -/
def reS : Sl → List DL.D → Sl
  | .par _, ds => .par ds
  | _, ds => .own ds
theorem Sls.cell (h : Sls K pa F L σ δ) : ∀ {i : Nat} {s : Sl} {ds : List DL.D}, δ[i]? = some s → (s = .own ds ∨ s = .par ds) → ∃ a vs La Lb, σ[i]? = some (some (.ref a)) ∧ L = La ++ (a, .lst vs) :: Lb ∧ Rps K F vs ds ∧
    ∀ F' vs' ds', Same F F' → Rps K F' vs' ds' → Sls K pa F' (La ++ (a, .lst vs') :: Lb) σ (δ.set i (reS s ds')) := by
  induction h with
  | nil => intro i s ds e; simp at e
  | dead x h ih =>
    intro i s ds e e2
    cases i with
    | zero => cases e; rcases e2 with e2 | e2 <;> cases e2
    | succ i => obtain ⟨a, vs, La, Lb, h1, h2, h3, h4⟩ := ih e e2; exact ⟨a, vs, La, Lb, h1, h2, h3, fun F' vs' ds' sF r => .dead x (h4 F' vs' ds' sF r)⟩
  | val y h ih =>
    intro i s ds e e2
    cases i with
    | zero => cases e; rcases e2 with e2 | e2 <;> cases e2
    | succ i => obtain ⟨a, vs, La, Lb, h1, h2, h3, h4⟩ := ih e e2; exact ⟨a, vs, La, Lb, h1, h2, h3, fun F' vs' ds' sF r => .val (y.mono sF) (h4 F' vs' ds' sF r)⟩
  | raw y h ih =>
    intro i s ds e e2
    cases i with
    | zero => cases e; rcases e2 with e2 | e2 <;> cases e2
    | succ i => obtain ⟨a, vs, La, Lb, h1, h2, h3, h4⟩ := ih e e2; exact ⟨a, vs, La, Lb, h1, h2, h3, fun F' vs' ds' sF r => .raw y (h4 F' vs' ds' sF r)⟩
  | @own L σ δ c ws es y h ih =>
    intro i s ds e e2
    cases i with
    | zero =>
      cases e
      rcases e2 with e2 | e2
      · cases e2; exact ⟨c, ws, [], L, rfl, rfl, y, fun F' vs' ds' sF r => .own r (h.mono sF)⟩
      · cases e2
    | succ i => obtain ⟨a, vs, La, Lb, h1, h2, h3, h4⟩ := ih e e2; exact ⟨a, vs, _ :: La, Lb, h1, by rw [h2]; rfl, h3, fun F' vs' ds' sF r => .own (y.mono sF) (h4 F' vs' ds' sF r)⟩
  | @par L σ δ ws es y h ih =>
    intro i s ds e e2
    cases i with
    | zero =>
      cases e
      rcases e2 with e2 | e2
      · cases e2
      · cases e2; exact ⟨pa, ws, [], L, rfl, rfl, y, fun F' vs' ds' sF r => .par r (h.mono sF)⟩
    | succ i => obtain ⟨a, vs, La, Lb, h1, h2, h3, h4⟩ := ih e e2; exact ⟨a, vs, _ :: La, Lb, h1, by rw [h2]; rfl, h3, fun F' vs' ds' sF r => .par (y.mono sF) (h4 F' vs' ds' sF r)⟩
  | obj g y h ih =>
    intro i s ds e e2
    cases i with
    | zero => cases e; rcases e2 with e2 | e2 <;> cases e2
    | succ i => obtain ⟨a, vs, La, Lb, h1, h2, h3, h4⟩ := ih e e2; exact ⟨a, vs, _ :: La, Lb, h1, by rw [h2]; rfl, h3, fun F' vs' ds' sF r => .obj g (y.mono sF) (h4 F' vs' ds' sF r)⟩
  | exc hd y h ih =>
    intro i s ds e e2
    cases i with
    | zero => cases e; rcases e2 with e2 | e2 <;> cases e2
    | succ i => obtain ⟨a, vs, La, Lb, h1, h2, h3, h4⟩ := ih e e2; exact ⟨a, vs, La, Lb, h1, h2, h3, fun F' vs' ds' sF r => .exc (sF _ _ hd) (y.mono sF) (h4 F' vs' ds' sF r)⟩
  | exc0 h ih =>
    intro i s ds e e2
    cases i with
    | zero => cases e; rcases e2 with e2 | e2 <;> cases e2
    | succ i => obtain ⟨a, vs, La, Lb, h1, h2, h3, h4⟩ := ih e e2; exact ⟨a, vs, La, Lb, h1, h2, h3, fun F' vs' ds' sF r => .exc0 (h4 F' vs' ds' sF r)⟩
  | otup t y1 y2 y3 h ih =>
    intro i s ds e e2
    cases i with
    | zero => cases e; rcases e2 with e2 | e2 <;> cases e2
    | succ i => obtain ⟨a, vs, La, Lb, h1, h2, h3, h4⟩ := ih e e2; exact ⟨a, vs, _ :: La, Lb, h1, by rw [h2]; rfl, h3, fun F' vs' ds' sF r => .otup (sF.seqT t) (y1.mono sF) (y2.mono sF) (y3.mono sF) (h4 F' vs' ds' sF r)⟩
  | @tre L9 L σ δ v t y h ih =>
    intro i s ds e e2
    cases i with
    | zero => cases e; rcases e2 with e2 | e2 <;> cases e2
    | succ i =>
      obtain ⟨a, vs, La, Lb, h1, h2, h3, h4⟩ := ih e e2
      refine ⟨a, vs, L9 ++ La, Lb, h1, by rw [h2, List.append_assoc], h3, fun F' vs' ds' sF r => ?_⟩
      rw [List.append_assoc]
      exact .tre (y.mono sF) (h4 F' vs' ds' sF r)
/-- slot i holds a list that may change: its items; and the slots with other items -/
def lisK (δ : List Sl) (i : Nat) (k : List DL.D → (List DL.D → List Sl) → Prop) : Option Sl → Prop
  | some (.own ds) => k ds fun es => δ.set i (.own es)
  | some (.par ds) => k ds fun es => δ.set i (.par es)
  | _ => False
theorem lis_ok {i : Nat} {k : List DL.D → (List DL.D → List Sl) → Prop} (hE : Env K pa F H σ δ Lf) (h : lisK δ i k δ[i]?) : ∃ a vs ds f, σ[i]? = some (some (.ref a)) ∧ H a = some (.lst vs) ∧ Rps K F vs ds ∧ k ds f ∧ ∀ vs' ds', Rps K F vs' ds' → Env K pa F (upd H a (.lst vs')) σ (f ds') Lf := by
  obtain ⟨L, w, s⟩ := hE
  cases e : δ[i]? with
  | none => rw [e] at h; exact h.elim
  | some sl =>
    rw [e] at h
    have key : ∀ ds, (sl = .own ds ∨ sl = .par ds) → ∃ a vs, σ[i]? = some (some (.ref a)) ∧ H a = some (.lst vs) ∧ Rps K F vs ds ∧ ∀ vs' ds', Rps K F vs' ds' → Env K pa F (upd H a (.lst vs')) σ (δ.set i (reS sl ds')) Lf := fun ds e2 => by
      obtain ⟨a, vs, La, Lb, h1, rfl, h3, h4⟩ := s.cell e e2
      refine ⟨a, vs, h1, w.at_ (a, .lst vs) (by simp), h3, fun vs' ds' r => ⟨_, ?_, h4 F vs' ds' (Same.refl _) r⟩⟩
      have hi : ((La ++ (a, HO.lst vs) :: Lb) ++ Lf)[La.length]? = some (a, .lst vs) := by simp
      have w2 := w.upd (o' := .lst vs') La.length hi
      have e3 : ((La ++ (a, HO.lst vs) :: Lb) ++ Lf).set La.length (a, .lst vs') = (La ++ (a, .lst vs') :: Lb) ++ Lf := by simp
      rw [e3] at w2
      exact w2
    cases sl with
    | own ds => obtain ⟨a, vs, h1, h2, h3, h4⟩ := key ds (.inl rfl); exact ⟨a, vs, ds, _, h1, h2, h3, h, h4⟩
    | par ds => obtain ⟨a, vs, h1, h2, h3, h4⟩ := key ds (.inr rfl); exact ⟨a, vs, ds, _, h1, h2, h3, h, h4⟩
    | _ => exact h.elim
def isLs : Option Sl → Prop
  | some (.own _) => True
  | some (.par _) => True
  | _ => False
/-- x.append(e) -/
def appK (Q : DQ) (i : Nat) (ds : List DL.D) (δ : List Sl) : Prop := match ds with
  | [d] => lisK δ i (fun xs f => xs.length ≤ 100000 ∧ Q (.val .non) (f (xs ++ [d]))) δ[i]?
  | _ => False
def dApp (i : Nat) (a : DTA) : DTE := fun X δ Q => isLs δ[i]? ∧ a X δ fun rs δ1 => frzs rs δ1 fun ds δ2 => appK Q i ds δ2
theorem isLs_ok {i : Nat} (hE : Env K pa F H σ δ Lf) (h : isLs δ[i]?) : ∃ a vs, σ[i]? = some (some (.ref a)) ∧ H a = some (.lst vs) := by
  have : lisK δ i (fun _ _ => True) δ[i]? := by
    cases e : δ[i]? with
    | none => rw [e] at h; exact h.elim
    | some sl => rw [e] at h; cases sl <;> first | trivial | exact h.elim
  obtain ⟨a, vs, ds, f, h1, h2, _⟩ := lis_ok hE this
  exact ⟨a, vs, h1, h2⟩
theorem DE.app {i : Nat} {ta : TA} {a : DTA} (h : DA K pa Wx ta a) : DE K pa Wx (tBM K "list" rAppend (tVar i) ta) (dApp i a) := by
  intro F H σ δ Lf X Q' Q hE hX q k
  obtain ⟨p, vs0, hp, hp2⟩ := isLs_ok hE q.1
  refine ⟨_, hp, .inl ⟨rfl, _, SqL.of hp2⟩, ?_⟩
  refine h F H σ δ Lf X _ _ hE hX q.2 fun F1 H1 vs rs δ1 L1 s1 E1 R1 q => ?_
  refine frzs_ok E1 R1 q fun F2 ds δ2 s2 E2 R2 q => ?_
  unfold appK at q
  split at q
  · cases R2 with
    | cons hv hn =>
      cases hn
      obtain ⟨a, us, es, f, h1, h2, h3, ⟨h4, h5⟩, h6⟩ := lis_ok E2 q
      rw [hp] at h1
      cases h1
      exact ⟨_, us, _, rfl, rfl, h2, by rw [h3.length]; exact small1000' h4, k F2 _ _ _ _ [] (s1.trans s2) (h6 _ _ (h3.append (.cons hv .nil))) (.val .non) h5⟩
  · exact q.elim
/-- x.extend(e) -/
def extK' (Q : DQ) (i : Nat) (ds : List DL.D) (δ : List Sl) : Prop := match ds with
  | [.lst ys] => lisK δ i (fun xs f => xs.length + ys.length ≤ 100000 ∧ Q (.val .non) (f (xs ++ ys))) δ[i]?
  | _ => False
def dExt (i : Nat) (a : DTA) : DTE := fun X δ Q => isLs δ[i]? ∧ a X δ fun rs δ1 => frzs rs δ1 fun ds δ2 => extK' Q i ds δ2
theorem DE.ext {i : Nat} {ta : TA} {a : DTA} (h : DA K pa Wx ta a) : DE K pa Wx (tBM K "list" rExtend (tVar i) ta) (dExt i a) := by
  intro F H σ δ Lf X Q' Q hE hX q k
  obtain ⟨p, vs0, hp, hp2⟩ := isLs_ok hE q.1
  refine ⟨_, hp, .inl ⟨rfl, _, SqL.of hp2⟩, ?_⟩
  refine h F H σ δ Lf X _ _ hE hX q.2 fun F1 H1 vs rs δ1 L1 s1 E1 R1 q => ?_
  refine frzs_ok E1 R1 q fun F2 ds δ2 s2 E2 R2 q => ?_
  unfold extK' at q
  split at q
  · cases R2 with
    | cons hv hn =>
      cases hn
      cases hv with
      | lst hb hr =>
        obtain ⟨a, us, es, f, h1, h2, h3, ⟨h4, h5⟩, h6⟩ := lis_ok E2 q
        rw [hp] at h1
        cases h1
        exact ⟨_, _, us, _, rfl, rfl, h2, E2.fr _ _ hb, line_of (by rw [h3.length, hr.length]; omega), k F2 _ _ _ _ [] (s1.trans s2) (h6 _ _ (h3.append hr)) (.val .non) h5⟩
  · exact q.elim
/-- x[e] = .. as a target -/
def setK (i : Nat) (d : DL.D) (N : List Sl → Prop) (δ : List Sl) : Option DL.D → Prop
  | some (.int z) => lisK δ i (fun xs f => ∃ j, ixN xs.length z = some j ∧ N (f (xs.set j d))) δ[i]?
  | _ => False
/-- x[e2] = e1 -/
def dSetI (i : Nat) (a b : DTE) : DTS := fun D δ => a D.ex δ fun r δ1 => frzD r δ1 fun d δ2 => isLs δ2[i]? ∧ b D.ex δ2 fun r2 δ3 => setK i d D.nx δ3 (dat δ3 r2)
theorem DS.setI {i : Nat} {te ti : TE} {a b : DTE} (h : DE K pa Wx te a) (h2 : DE K pa Wx ti b) : DS K pa Wx (tAsg te (gSub (tVar i) ti rSetL)) (dSetI i a b) := by
  intro F H σ δ Lf D D' hE hS q
  refine h F H σ δ Lf _ _ _ hE hS.ex q fun F1 H1 v r δ1 L1 s1 E1 R1 q => ?_
  refine frz_ok E1 R1 q fun F2 d δ2 s2 E2 hd q => ?_
  obtain ⟨p, vs0, hp, hp2⟩ := isLs_ok E2 q.1
  refine ⟨_, hp, ?_⟩
  refine h2 F2 H1 σ δ2 Lf _ _ _ E2 (hS.ex.mono (s1.trans s2)) q.2 fun F3 H3 w r2 δ3 L3 s3 E3 R3 q => ?_
  cases e : dat δ3 r2 with
  | none => rw [e] at q; exact q.elim
  | some z =>
    rw [e] at q
    have vw := view E3 R3 (fun p hp => List.mem_append_left _ hp) e
    cases z with
    | int z =>
      unfold setK at q
      dsimp only at q
      obtain ⟨a, us, es, f, h1, h2, h3, ⟨j, h4, h5⟩, h6⟩ := lis_ok E3.drop q
      rw [hp] at h1
      cases h1
      exact ⟨_, us, z, j, rfl, vw.intD, h2, by rw [h3.length]; exact h4, hS.nx F3 _ _ _ (s1.trans (s2.trans s3)) (h6 _ _ (h3.set j (hd.mono s3))) h5⟩
    | _ => exact q.elim
/-- x[e1] op= e2, of ints -/
def augSK (f : Int → Int → Int) (i : Nat) (N : List Sl → Prop) (δ : List Sl) (z : Int) (old : Int) : Option DL.D → Prop
  | some (.int b) => lisK δ i (fun xs g => ∃ j, ixN xs.length z = some j ∧ N (g (xs.set j (.int (f old b))))) δ[i]?
  | _ => False
def dAugS (i : Nat) (a b : DTE) (f : Int → Int → Int) : DTS := fun D δ => isLs δ[i]? ∧ a D.ex δ fun r δ1 => isI (dat δ1 r) fun z => lisK δ1 i (fun xs _ => ∃ old, atI xs z = some (.int old) ∧ b D.ex δ1 fun r2 δ2 => augSK f i D.nx δ2 z old (dat δ2 r2)) δ1[i]?
theorem DS.augS {i : Nat} {ti te : TE} {a b : DTE} {f : Int → Int → Int} (h : DE K pa Wx ti a) (h2 : DE K pa Wx te b) : DS K pa Wx (tAugS (tVar i) ti te (rIxL K) (ipI f) rSetL) (dAugS i a b f) := by
  intro F H σ δ Lf D D' hE hS q
  obtain ⟨p, vs0, hp, hp2⟩ := isLs_ok hE q.1
  refine ⟨_, hp, ?_⟩
  refine h F H σ δ Lf _ _ _ hE hS.ex q.2 fun F1 H1 v r δ1 L1 s1 E1 R1 q => ?_
  cases e : dat δ1 r with
  | none => rw [e] at q; exact q.elim
  | some z =>
    rw [e] at q
    have vw := view E1 R1 (fun p hp => List.mem_append_left _ hp) e
    cases z with
    | int z =>
      unfold isI at q
      dsimp only at q
      obtain ⟨a, us, es, g, h1, h2', h3, ⟨old, h4, h5⟩, h6⟩ := lis_ok E1.drop q
      rw [hp] at h1
      cases h1
      obtain ⟨u, h7, h8⟩ := h3.atI h4
      refine ⟨_, us, z, u, rfl, vw.intD, SqL.of h2', h7, ?_⟩
      refine h2 F1 H1 σ δ1 Lf _ _ _ E1.drop (hS.ex.mono s1) h5 fun F3 H3 w r2 δ3 L3 s3 E3 R3 q => ?_
      cases e : dat δ3 r2 with
      | none => rw [e] at q; exact q.elim
      | some y =>
        rw [e] at q
        have vw2 := view E3 R3 (fun p hp => List.mem_append_left _ hp) e
        cases y with
        | int y =>
          unfold augSK at q
          dsimp only at q
          obtain ⟨a, us, es, g, h1, h2', h3, ⟨j, h4, h5⟩, h6⟩ := lis_ok E3.drop q
          rw [hp] at h1
          cases h1
          refine ⟨old, y, h8.intD, vw2.intD, ?_⟩
          exact ⟨_, us, z, j, rfl, vw.intD, h2', by rw [h3.length]; exact h4, hS.nx F3 _ _ _ (s1.trans s3) (h6 _ _ (h3.set j (.int _))) h5⟩
        | _ => exact q.elim
    | _ => exact q.elim
end
end DL
/-! Loops and comprehensions over data. -/
namespace DL
open PySem L2
abbrev DTI := DX → List Sl → (List D → List Sl → Prop) → Prop
def ItOk (K : PySem.W.Frag) (F : Hp) (J : It) (items : List D) : Prop := ∀ F' H L, Same F F' → W F' L H → (∀ i, i = items.length → J.stop i H) ∧
  ∀ i d, items[i]? = some d → J.go i H ∧ ∀ x H', J.yld i H x H' → ∃ F'', Same F' F'' ∧ W F'' L H' ∧ Rp K F'' x d
def DI (K : PySem.W.Frag) (pa : Addr) (Wx : WX) (ti : TI) (di : DTI) : Prop := ∀ F H σ δ Lf X Q' R, Env K pa F H σ δ Lf → XSim K pa F Lf Wx X → di X δ Q' →
  (∀ F' H' items δ' J, Same F F' → Env K pa F' H' σ δ' Lf → ItOk K F' J items → Q' items δ' → R J H') → ti σ H R
section
variable {K : PySem.W.Frag} {pa : Addr} {F F' H H' : Hp} {L Lf : List (Addr × HO)} {σ σ' : St} {δ δ' : List Sl} {Wx : WX} {X : DX} {D : Ends} {D' : DEnds}
theorem ItOk.mono {J : It} {items : List DL.D} (h : ItOk K F J items) (s : Same F F') : ItOk K F' J items := fun F2 H L s2 w => h F2 H L (s.trans s2) w
theorem ItOk.list {a : Addr} {vs : List V} {ds : List DL.D} (h : F a = some (.lst vs)) (r : Rps K F vs ds) : ItOk K F (Itl K a) ds := by
  intro F' H L s w
  have hS : SqL K H a vs := SqL.of (w.fr _ _ (s _ _ h))
  refine ⟨fun i e => ⟨vs, hS, by rw [r.length]; omega⟩, fun i d e => ?_⟩
  obtain ⟨v, e2, rv⟩ := r.getD e
  refine ⟨⟨vs, v, hS, e2⟩, fun x H' y => ?_⟩
  obtain ⟨rfl, y⟩ := y
  have := y vs hS
  rw [e2] at this
  cases this
  exact ⟨F', Same.refl _, w, rv.mono s⟩
theorem ItOk.tup {a : Addr} {vs : List V} {ds : List DL.D} (h : SqT K F a vs) (r : Rps K F vs ds) : ItOk K F (Itt K a) ds := by
  intro F' H L s w
  have hS : SqT K H a vs := w.fr.seqT (s.seqT h)
  refine ⟨fun i e => ⟨vs, hS, by rw [r.length]; omega⟩, fun i d e => ?_⟩
  obtain ⟨v, e2, rv⟩ := r.getD e
  refine ⟨⟨vs, v, hS, e2⟩, fun x H' y => ?_⟩
  obtain ⟨rfl, y⟩ := y
  have := y vs hS
  rw [e2] at this
  cases this
  exact ⟨F', Same.refl _, w, rv.mono s⟩
/-- lo, lo + c, .. -/
def rngD (lo c : Int) (n : Nat) : List DL.D := (List.range n).map fun i => .int (lo + (i : Nat) * c)
theorem rng_at {lo c : Int} {n i : Nat} {d : DL.D} (h : (rngD lo c n)[i]? = some d) : i < n ∧ d = .int (lo + (i : Nat) * c) := by
  unfold rngD at h
  rw [List.getElem?_map] at h
  by_cases hi : i < n
  · rw [List.getElem?_range hi] at h; exact ⟨hi, by cases h; rfl⟩
  · rw [List.getElem?_eq_none (by simpa using hi)] at h; cases h
theorem rng_len {lo c : Int} {n : Nat} : (rngD lo c n).length = n := by simp [rngD]
theorem ItOk.rng {lo : Int} {n : Nat} : ItOk K F (Itr lo n) (rngD lo 1 n) := by
  intro F' H L s w
  refine ⟨fun i e => by rw [rng_len] at e; exact Nat.le_of_eq e.symm, fun i d e => ?_⟩
  obtain ⟨hi, rfl⟩ := rng_at e
  refine ⟨hi, fun x H' y => ?_⟩
  obtain ⟨rfl, rfl⟩ := y
  exact ⟨F', Same.refl _, w, by rw [Int.mul_one]; exact .int _⟩
theorem ItOk.rngC {lo c : Int} {n : Nat} : ItOk K F (Itc lo c n) (rngD lo c n) := by
  intro F' H L s w
  refine ⟨fun i e => by rw [rng_len] at e; exact Nat.le_of_eq e.symm, fun i d e => ?_⟩
  obtain ⟨hi, rfl⟩ := rng_at e
  refine ⟨hi, fun x H' y => ?_⟩
  obtain ⟨rfl, rfl⟩ := y
  exact ⟨F', Same.refl _, w, .int _⟩
def enumD (ds : List DL.D) : List DL.D := (List.range ds.length).map fun i => .tup [.int (i : Nat), ds.getD i .non]
theorem enum_at {ds : List DL.D} {i : Nat} {d : DL.D} (h : (enumD ds)[i]? = some d) : ∃ e, ds[i]? = some e ∧ d = .tup [.int (i : Nat), e] := by
  unfold enumD at h
  rw [List.getElem?_map] at h
  by_cases hi : i < ds.length
  · rw [List.getElem?_range hi] at h
    cases h
    refine ⟨ds[i], List.getElem?_eq_getElem hi, ?_⟩
    show DL.D.tup [.int (i : Nat), ds.getD i .non] = _
    rw [List.getD_eq_getElem?_getD, List.getElem?_eq_getElem hi]; rfl
  · rw [List.getElem?_eq_none (by simpa using hi)] at h; cases h
theorem enum_len {ds : List DL.D} : (enumD ds).length = ds.length := by simp [enumD]
theorem pairF {T : Addr} {xs : List V} {ds : List DL.D} (w : W F L H) (hT : H T = none) (r : Rps K F xs ds) : ∃ F'', Same F F'' ∧ W F'' L (upd H T (.tup xs)) ∧ Rp K F'' (.ref T) (.tup ds) := by
  obtain ⟨sF, w3⟩ := (w.new (o := .tup xs) hT).frz
  exact ⟨_, sF, w3, .tup (SqT.of upd_same) (r.mono sF)⟩
theorem ItOk.enumL {a : Addr} {vs : List V} {ds : List DL.D} (h : F a = some (.lst vs)) (r : Rps K F vs ds) : ItOk K F (Ite K a) (enumD ds) := by
  intro F' H L s w
  have hS : SqL K H a vs := SqL.of (w.fr _ _ (s _ _ h))
  refine ⟨fun i e => ⟨vs, hS, by rw [r.length]; rw [enum_len] at e; omega⟩, fun i d e => ?_⟩
  obtain ⟨e, e1, rfl⟩ := enum_at e
  obtain ⟨v, e2, rv⟩ := r.getD e1
  refine ⟨⟨vs, v, hS, e2⟩, fun x H' y => ?_⟩
  obtain ⟨T, z, rfl, hT, rfl, y⟩ := y
  have := y vs hS
  rw [e2] at this
  cases this
  exact pairF w hT (.cons (.int _) (.cons (rv.mono s) .nil))
theorem ItOk.enumT {a : Addr} {vs : List V} {ds : List DL.D} (h : SqT K F a vs) (r : Rps K F vs ds) : ItOk K F (IteT K a) (enumD ds) := by
  intro F' H L s w
  have hS : SqT K H a vs := w.fr.seqT (s.seqT h)
  refine ⟨fun i e => ⟨vs, hS, by rw [r.length]; rw [enum_len] at e; omega⟩, fun i d e => ?_⟩
  obtain ⟨e, e1, rfl⟩ := enum_at e
  obtain ⟨v, e2, rv⟩ := r.getD e1
  refine ⟨⟨vs, v, hS, e2⟩, fun x H' y => ?_⟩
  obtain ⟨T, z, rfl, hT, rfl, y⟩ := y
  have := y vs hS
  rw [e2] at this
  cases this
  exact pairF w hT (.cons (.int _) (.cons (rv.mono s) .nil))
def zipD (xs ys : List DL.D) : List DL.D := (xs.zip ys).map fun p => .tup [p.1, p.2]
theorem zip_at {xs ys : List DL.D} {i : Nat} {d : DL.D} (h : (zipD xs ys)[i]? = some d) : ∃ e f, xs[i]? = some e ∧ ys[i]? = some f ∧ d = .tup [e, f] := by
  unfold zipD at h
  rw [List.getElem?_map] at h
  cases e : (xs.zip ys)[i]? with
  | none => rw [e] at h; cases h
  | some p =>
    rw [e] at h
    obtain ⟨h1, h2⟩ := List.getElem?_zip_eq_some.mp e
    exact ⟨p.1, p.2, h1, h2, by cases h; rfl⟩
theorem zip_len {xs ys : List DL.D} : (zipD xs ys).length = min xs.length ys.length := by simp [zipD]
theorem ItOk.zipL {a b : Addr} {vs ws : List V} {ds es : List DL.D} (h : F a = some (.lst vs)) (r : Rps K F vs ds) (h' : F b = some (.lst ws)) (r' : Rps K F ws es) : ItOk K F (Itz K a b) (zipD ds es) := by
  intro F' H L s w
  have hS : SqL K H a vs := SqL.of (w.fr _ _ (s _ _ h))
  have hS' : SqL K H b ws := SqL.of (w.fr _ _ (s _ _ h'))
  refine ⟨fun i e => ⟨vs, ws, hS, hS', by rw [r.length, r'.length]; rw [zip_len] at e; omega⟩, fun i d e => ?_⟩
  obtain ⟨e, f, e1, f1, rfl⟩ := zip_at e
  obtain ⟨v, e2, rv⟩ := r.getD e1
  obtain ⟨u, f2, ru⟩ := r'.getD f1
  refine ⟨⟨vs, ws, v, u, hS, hS', e2, f2⟩, fun x H' y => ?_⟩
  obtain ⟨T, z, z', rfl, hT, rfl, y, y'⟩ := y
  have := y vs hS
  rw [e2] at this
  cases this
  have := y' ws hS'
  rw [f2] at this
  cases this
  exact pairF w hT (.cons (rv.mono s) (.cons (ru.mono s) .nil))
theorem ItOk.zipT {a b : Addr} {vs ws : List V} {ds es : List DL.D} (h : SqT K F a vs) (r : Rps K F vs ds) (h' : SqT K F b ws) (r' : Rps K F ws es) : ItOk K F (RZ.ItzT K a b) (zipD ds es) := by
  intro F' H L s w
  have hS : SqT K H a vs := w.fr.seqT (s.seqT h)
  have hS' : SqT K H b ws := w.fr.seqT (s.seqT h')
  refine ⟨fun i e => ⟨vs, ws, hS, hS', by rw [r.length, r'.length]; rw [zip_len] at e; omega⟩, fun i d e => ?_⟩
  obtain ⟨e, f, e1, f1, rfl⟩ := zip_at e
  obtain ⟨v, e2, rv⟩ := r.getD e1
  obtain ⟨u, f2, ru⟩ := r'.getD f1
  refine ⟨⟨vs, ws, v, u, hS, hS', e2, f2⟩, fun x H' y => ?_⟩
  obtain ⟨T, z, z', rfl, hT, rfl, y, y'⟩ := y
  have := y vs hS
  rw [e2] at this
  cases this
  have := y' ws hS'
  rw [f2] at this
  cases this
  exact pairF w hT (.cons (rv.mono s) (.cons (ru.mono s) .nil))
/-! ### what a for walks -/
def seqK (d : DL.D) (Q : List DL.D → Prop) : Prop := match d with
  | .lst ds => Q ds
  | .tup ds => Q ds
  | _ => False
def iSeqD (a : DTE) : DTI := fun X δ Q => a X δ fun r δ1 => frzD r δ1 fun d δ2 => seqK d fun items => Q items δ2
theorem Rp.lstE {v : V} {ds : List DL.D} (h : Rp K F v (.lst ds)) : ∃ a vs, v = .ref a ∧ F a = some (.lst vs) ∧ Rps K F vs ds := by cases h with | lst h r => exact ⟨_, _, rfl, h, r⟩
theorem Rp.tupE {v : V} {ds : List DL.D} (h : Rp K F v (.tup ds)) : ∃ a vs, v = .ref a ∧ SqT K F a vs ∧ Rps K F vs ds := by cases h with | tup h r => exact ⟨_, _, rfl, h, r⟩
theorem DI.seq {te : TE} {a : DTE} (h : DE K pa Wx te a) : DI K pa Wx (iSeq K te) (iSeqD a) := by
  intro F H σ δ Lf X Q' R hE hX q k
  refine h F H σ δ Lf X _ _ hE hX q fun F1 H1 v r δ1 L1 s1 E1 R1 q => ?_
  refine frz_ok E1 R1 q fun F2 d δ2 s2 E2 hd q => ?_
  cases d with
  | lst ds =>
    obtain ⟨a, vs, rfl, h1, h2⟩ := hd.lstE
    exact ⟨a, rfl, .inl ⟨⟨vs, SqL.of (E2.fr _ _ h1)⟩, k F2 H1 ds δ2 _ (s1.trans s2) E2 (ItOk.list h1 h2) q⟩⟩
  | tup ds =>
    obtain ⟨a, vs, rfl, h1, h2⟩ := hd.tupE
    exact ⟨a, rfl, .inr ⟨⟨vs, E2.fr.seqT h1⟩, k F2 H1 ds δ2 _ (s1.trans s2) E2 (ItOk.tup h1 h2) q⟩⟩
  | _ => exact q.elim
def rg1K (ds : Option (List DL.D)) (Q : List DL.D → Prop) : Prop := match ds with
  | some [.int j] => (-1000000 ≤ j ∧ j ≤ 1000000) ∧ Q (rngD 0 1 j.toNat)
  | _ => False
def iRg1 (a : DTA) : DTI := fun X δ Q => a X δ fun rs δ1 => rg1K (dats δ1 rs) fun items => Q items δ1
theorem DI.rg1 {ta : TA} {a : DTA} (h : DA K pa Wx ta a) : DI K pa Wx (iRng1 ta) (iRg1 a) := by
  intro F H σ δ Lf X Q' R hE hX q k
  refine h F H σ δ Lf X _ _ hE hX q fun F1 H1 vs rs δ1 L1 s1 E1 R1 q => ?_
  unfold rg1K at q
  split at q
  · rename_i j e
    obtain ⟨v, rfl, hv⟩ := (views E1 R1 (fun p hp => List.mem_append_left _ hp) e).one
    rw [hv.intD]
    exact ⟨j, rfl, by omega, by omega, k F1 H1 _ δ1 _ s1 E1.drop ItOk.rng q.2⟩
  · exact q.elim
def rg2K (ds : Option (List DL.D)) (Q : List DL.D → Prop) : Prop := match ds with
  | some [.int i, .int j] => (-1000000 ≤ i ∧ i ≤ 1000000 ∧ -1000000 ≤ j ∧ j ≤ 1000000) ∧ Q (rngD i 1 (j - i).toNat)
  | _ => False
def iRg2 (a : DTA) : DTI := fun X δ Q => a X δ fun rs δ1 => rg2K (dats δ1 rs) fun items => Q items δ1
theorem DI.rg2 {ta : TA} {a : DTA} (h : DA K pa Wx ta a) : DI K pa Wx (iRng2 ta) (iRg2 a) := by
  intro F H σ δ Lf X Q' R hE hX q k
  refine h F H σ δ Lf X _ _ hE hX q fun F1 H1 vs rs δ1 L1 s1 E1 R1 q => ?_
  unfold rg2K at q
  split at q
  · rename_i i j e
    obtain ⟨v, u, rfl, hv, hu⟩ := (views E1 R1 (fun p hp => List.mem_append_left _ hp) e).two
    rw [hv.intD, hu.intD]
    exact ⟨i, j, rfl, by omega, k F1 H1 _ δ1 _ s1 E1.drop ItOk.rng q.2⟩
  · exact q.elim
/-- range(i, j, -1) -/
def rg3K (ds : Option (List DL.D)) (Q : List DL.D → Prop) : Prop := match ds with
  | some [.int i, .int j, .int c] => c = -1 ∧ (-1000000 ≤ i ∧ i ≤ 1000000 ∧ -1000000 ≤ j ∧ j ≤ 1000000) ∧ Q (rngD i (-1) (i - j).toNat)
  | _ => False
def iRg3 (a : DTA) : DTI := fun X δ Q => a X δ fun rs δ1 => rg3K (dats δ1 rs) fun items => Q items δ1
theorem RpTs.three {vs : List V} {d e f : DL.D} (h : RpTs K F H vs [d, e, f]) : ∃ v w u, vs = [v, w, u] ∧ RpT K F H v d ∧ RpT K F H w e ∧ RpT K F H u f := by
  cases h with
  | cons h r => obtain ⟨w, u, rfl, h2, h3⟩ := r.two; exact ⟨_, _, _, rfl, h, h2, h3⟩
theorem DI.rg3 {ta : TA} {a : DTA} (h : DA K pa Wx ta a) : DI K pa Wx (iRng3 ta) (iRg3 a) := by
  intro F H σ δ Lf X Q' R hE hX q k
  refine h F H σ δ Lf X _ _ hE hX q fun F1 H1 vs rs δ1 L1 s1 E1 R1 q => ?_
  unfold rg3K at q
  split at q
  · rename_i i j c e
    obtain ⟨v, u, w, rfl, hv, hu, hw⟩ := (views E1 R1 (fun p hp => List.mem_append_left _ hp) e).three
    obtain ⟨rfl, q1, q⟩ := q
    rw [hv.intD, hu.intD, hw.intD]
    exact ⟨i, j, -1, _, rfl, RgC.neg (by omega) (by omega) (by omega) (by omega), k F1 H1 _ δ1 _ s1 E1.drop ItOk.rngC q⟩
  · exact q.elim
def enK (ds : List DL.D) (Q : List DL.D → Prop) : Prop := match ds with
  | [.lst es] => Q (enumD es)
  | [.tup es] => Q (enumD es)
  | _ => False
def iEnD (a : DTA) : DTI := fun X δ Q => a X δ fun rs δ1 => frzs rs δ1 fun ds δ2 => enK ds fun items => Q items δ2
theorem DI.enumA {ta : TA} {a : DTA} (h : DA K pa Wx ta a) : DI K pa Wx (iEnumA K ta) (iEnD a) := by
  intro F H σ δ Lf X Q' R hE hX q k
  refine h F H σ δ Lf X _ _ hE hX q fun F1 H1 vs rs δ1 L1 s1 E1 R1 q => ?_
  refine frzs_ok E1 R1 q fun F2 ds δ2 s2 E2 hds q => ?_
  unfold enK at q
  split at q
  · cases hds with
    | cons hd hn =>
      cases hn
      obtain ⟨a, vs, rfl, h1, h2⟩ := hd.lstE
      exact w_enumL (SqL.of (E2.fr _ _ h1)) (k F2 H1 _ δ2 _ (s1.trans s2) E2 (ItOk.enumL h1 h2) q)
  · cases hds with
    | cons hd hn =>
      cases hn
      obtain ⟨a, vs, rfl, h1, h2⟩ := hd.tupE
      exact w_enumT (E2.fr.seqT h1) (k F2 H1 _ δ2 _ (s1.trans s2) E2 (ItOk.enumT h1 h2) q)
  · exact q.elim
/-- zip of two lists -/
def zpK (ds : List DL.D) (Q : List DL.D → Prop) : Prop := match ds with
  | [.lst xs, .lst ys] => Q (zipD xs ys)
  | _ => False
def iZpD (a : DTA) : DTI := fun X δ Q => a X δ fun rs δ1 => frzs rs δ1 fun ds δ2 => zpK ds fun items => Q items δ2
theorem DI.zip {ta : TA} {a : DTA} (h : DA K pa Wx ta a) : DI K pa Wx (iZip K ta) (iZpD a) := by
  intro F H σ δ Lf X Q' R hE hX q k
  refine h F H σ δ Lf X _ _ hE hX q fun F1 H1 vs rs δ1 L1 s1 E1 R1 q => ?_
  refine frzs_ok E1 R1 q fun F2 ds δ2 s2 E2 hds q => ?_
  unfold zpK at q
  split at q
  · cases hds with
    | cons hd hn =>
      cases hn with
      | cons hd2 hn =>
        cases hn
        obtain ⟨a, vs, rfl, h1, h2⟩ := hd.lstE
        obtain ⟨b, ws, rfl, h3, h4⟩ := hd2.lstE
        exact w_zip (SqL.of (E2.fr _ _ h1)) (SqL.of (E2.fr _ _ h3)) (k F2 H1 _ δ2 _ (s1.trans s2) E2 (ItOk.zipL h1 h2 h3 h4) q)
  · exact q.elim
/-- an own instance that hands out its tuple -/
def ownK (C : Addr) (fld : Str) (d : DL.D) (Q : List DL.D → Prop) : Prop := match d with
  | .ins C' fs => C' = C ∧ ∃ ds, fs.lookup fld = some (.tup ds) ∧ Q ds
  | _ => False
def iOwnD (C : Addr) (fld : Str) (a : DTE) : DTI := fun X δ Q => a X δ fun r δ1 => frzD r δ1 fun d δ2 => ownK C fld d fun items => Q items δ2
theorem Rp.insE {v : V} {C : Addr} {gs : List (Str × DL.D)} (h : Rp K F v (.ins C gs)) : ∃ a dx vs, v = .ref a ∧ F a = some (.ins C dx vs) ∧ GoodC K C gs ∧ Rpf K F vs gs := by cases h with | ins h g r => exact ⟨_, _, _, rfl, h, g, r⟩
theorem own_at {C : Addr} {fld : Str} {v : V} {d : DL.D} {Q : List DL.D → Prop} (hd : Rp K F v d) (s : Same F H) (q : ownK C fld d Q) : ∃ t vs ds, ownT K C fld v H t ∧ SqT K F t vs ∧ Rps K F vs ds ∧ Q ds := by
  cases d with
  | ins C' fs =>
    obtain ⟨rfl, ds, e, q⟩ := q
    obtain ⟨a, dx, vs, rfl, h1, _, h2⟩ := hd.insE
    obtain ⟨u, e2, r⟩ := h2.look e
    obtain ⟨t, ws, rfl, h3, h4⟩ := r.tupE
    exact ⟨t, ws, ds, ⟨a, dx, vs, rfl, s _ _ h1, e2, ws, s.seqT h3⟩, h3, h4, q⟩
  | _ => exact q.elim
theorem DI.own {C : Addr} {fld : Str} {te : TE} {a : DTE} (h : DE K pa Wx te a) : DI K pa Wx (iOwn K C fld te) (iOwnD C fld a) := by
  intro F H σ δ Lf X Q' R hE hX q k
  refine h F H σ δ Lf X _ _ hE hX q fun F1 H1 v r δ1 L1 s1 E1 R1 q => ?_
  refine frz_ok E1 R1 q fun F2 d δ2 s2 E2 hd q => ?_
  obtain ⟨t, vs, ds, h1, h2, h3, q⟩ := own_at hd E2.fr q
  exact ⟨t, h1, k F2 H1 ds δ2 _ (s1.trans s2) E2 (ItOk.tup h2 h3) q⟩
def enOK (C : Addr) (fld : Str) (ds : List DL.D) (Q : List DL.D → Prop) : Prop := match ds with
  | [d] => ownK C fld d fun items => Q (enumD items)
  | _ => False
def iEnO (C : Addr) (fld : Str) (a : DTA) : DTI := fun X δ Q => a X δ fun rs δ1 => frzs rs δ1 fun ds δ2 => enOK C fld ds fun items => Q items δ2
theorem DI.enumO {C : Addr} {fld : Str} {ta : TA} {a : DTA} (h : DA K pa Wx ta a) : DI K pa Wx (iEnumO K C fld ta) (iEnO C fld a) := by
  intro F H σ δ Lf X Q' R hE hX q k
  refine h F H σ δ Lf X _ _ hE hX q fun F1 H1 vs rs δ1 L1 s1 E1 R1 q => ?_
  refine frzs_ok E1 R1 q fun F2 ds δ2 s2 E2 hds q => ?_
  unfold enOK at q
  split at q
  · cases hds with
    | cons hd hn =>
      cases hn
      obtain ⟨t, vs, ds, h1, h2, h3, q⟩ := own_at hd E2.fr q
      exact ⟨_, t, rfl, h1, k F2 H1 _ δ2 _ (s1.trans s2) E2 (ItOk.enumT h2 h3) q⟩
  · exact q.elim
/-! ### for -/
def forK (items : List DL.D) (dg : DTG) (db : DTS) (D : DEnds) (δ1 : List Sl) : Prop := ∃ Inv : Nat → List Sl → Prop, Inv 0 δ1 ∧
  (∀ i d δ, items[i]? = some d → Inv i δ → dg d δ fun δ2 => db { D with nx := Inv (i + 1), ct := Inv (i + 1), bk := D.nx } δ2) ∧ ∀ δ, Inv items.length δ → D.nx δ
def dFor (di : DTI) (dg : DTG) (db : DTS) : DTS := fun D δ => di D.ex δ fun items δ1 => forK items dg db D δ1
theorem DS.for_ {ti : TI} {g : TG} {tb : TS} {di : DTI} {dg : DTG} {db : DTS} {ps : List Nat} (hi : DI K pa Wx ti di) (hg : DG K pa ps g dg) (hb : DS K pa Wx tb db) : DS K pa Wx (tFor ti g tb) (dFor di dg db) := by
  intro F H σ δ Lf D D' hE hS q
  refine hi F H σ δ Lf _ _ _ hE hS.ex q fun F1 H1 items δ1 J s1 E1 hJ q => ?_
  obtain ⟨Inv, h0, hs, hd⟩ := q
  refine ⟨fun i m σ H => ∃ F' δ, Same F1 F' ∧ Env K pa F' H σ δ Lf ∧ Inv i δ ∧ i ≤ items.length ∧ m = items.length - i, ⟨_, F1, δ1, Same.refl _, E1, h0, Nat.zero_le _, rfl⟩, ?_⟩
  rintro i m σ2 H2 ⟨F2, δ2, s2, E2, hI, hi, rfl⟩
  obtain ⟨L, w, sl⟩ := id E2
  obtain ⟨j1, j2⟩ := hJ F2 H2 _ s2 w
  cases e : items[i]? with
  | none =>
    have : i = items.length := by have := List.getElem?_eq_none_iff.mp e; omega
    subst this
    exact .inl ⟨j1 _ rfl, hS.nx F2 H2 σ2 δ2 (s1.trans s2) E2 (hd δ2 hI)⟩
  | some d =>
    have hlt : i < items.length := (List.getElem?_eq_some_iff.mp e).1
    obtain ⟨g1, g2⟩ := j2 i d e
    refine .inr ⟨g1, fun σ' H' => ∃ F' δ, Same F1 F' ∧ Env K pa F' H' σ' δ Lf ∧ Inv (i + 1) δ, fun σ' H' ⟨F', δ', a, b, c⟩ => ⟨items.length - (i + 1), by omega, F', δ', a, b, c, hlt, rfl⟩, fun x H3 y => ?_⟩
    obtain ⟨F3, s3, w3, hr⟩ := g2 x H3 y
    have E3 : Env K pa F3 H3 σ2 δ2 Lf := ⟨L, w3, sl.mono s3⟩
    refine hg F3 H3 σ2 δ2 Lf x d _ _ E3 hr (hs i d δ2 e hI) fun σ4 δ4 E4 _ _ q => ?_
    have s13 := s1.trans (s2.trans s3)
    refine hb F3 H3 σ4 δ4 Lf _ { D' with nx := Inv (i + 1), ct := Inv (i + 1), bk := D'.nx } E4 ⟨?_, ?_, ?_, ?_, hS.ex.mono s13⟩ q
    · exact fun F5 H5 σ5 δ5 s5 E5 q => ⟨F5, δ5, (s2.trans s3).trans s5, E5, q⟩
    · exact fun F5 H5 σ5 δ5 s5 E5 q => hS.nx F5 H5 σ5 δ5 (s13.trans s5) E5 q
    · exact fun F5 H5 σ5 δ5 s5 E5 q => ⟨F5, δ5, (s2.trans s3).trans s5, E5, q⟩
    · exact fun F5 H5 σ5 v r δ5 L1 s5 => hS.rt F5 H5 σ5 v r δ5 L1 (s13.trans s5)
/-! ### while -/
def whK (db : DTS) (Inv : Nat → List Sl → Prop) (m : Nat) (D : DEnds) (b : Bool) (δ : List Sl) : Prop :=
  if b = true then db { D with nx := fun δ' => ∃ m', m' < m ∧ Inv m' δ', ct := fun δ' => ∃ m', m' < m ∧ Inv m' δ', bk := D.nx } δ else D.nx δ
def dWhile (c : DTT) (db : DTS) : DTS := fun D δ => ∃ Inv : Nat → List Sl → Prop, (∃ m, Inv m δ) ∧ ∀ m δ, Inv m δ → c D.ex δ fun b δ1 => whK db Inv m D b δ1
theorem DS.while_ {tt : TT} {tb : TS} {c : DTT} {db : DTS} (hc : DT K pa Wx tt c) (hb : DS K pa Wx tb db) : DS K pa Wx (tWhile tt tb) (dWhile c db) := by
  intro F H σ δ Lf D D' hE hS q
  obtain ⟨Inv, ⟨m0, h0⟩, hs⟩ := q
  refine ⟨fun m σ H => ∃ F' δ, Same F F' ∧ Env K pa F' H σ δ Lf ∧ Inv m δ, ⟨m0, F, δ, Same.refl _, hE, h0⟩, ?_⟩
  rintro m σ2 H2 ⟨F2, δ2, s2, E2, hI⟩
  refine hc F2 H2 σ2 δ2 Lf _ _ _ E2 (hS.ex.mono s2) (hs m δ2 hI) fun F3 H3 b δ3 s3 E3 q => ?_
  have s23 := s2.trans s3
  cases b with
  | false => exact hS.nx F3 H3 σ2 δ3 s23 E3 q
  | true =>
    refine ⟨fun σ' H' => ∃ m', m' < m ∧ ∃ F' δ, Same F F' ∧ Env K pa F' H' σ' δ Lf ∧ Inv m' δ, fun _ _ h => h, ?_⟩
    refine hb F3 H3 σ2 δ3 Lf _ { D' with nx := fun δ' => ∃ m', m' < m ∧ Inv m' δ', ct := fun δ' => ∃ m', m' < m ∧ Inv m' δ', bk := D'.nx } E3 ⟨?_, ?_, ?_, ?_, hS.ex.mono s23⟩ q
    · exact fun F5 H5 σ5 δ5 s5 E5 ⟨m', hm, q⟩ => ⟨m', hm, F5, δ5, s23.trans s5, E5, q⟩
    · exact fun F5 H5 σ5 δ5 s5 E5 q => hS.nx F5 H5 σ5 δ5 (s23.trans s5) E5 q
    · exact fun F5 H5 σ5 δ5 s5 E5 ⟨m', hm, q⟩ => ⟨m', hm, F5, δ5, s23.trans s5, E5, q⟩
    · exact fun F5 H5 σ5 v r δ5 L1 s5 => hS.rt F5 H5 σ5 v r δ5 L1 (s23.trans s5)
/-! ### comprehensions -/
def wip (δ : List Sl) : List Nat → List Sl
  | [] => δ
  | v :: vs => (wip δ vs).set v .dead
def thin1 : Option Sl → Bool
  | some (.own _) => false
  | some (.par _) => false
  | some (.obj _ _) => false
  | some (.otup _ _ _) => false
  | some (.tre _) => false
  | none => false
  | _ => true
def thin (δ : List Sl) (vs : List Nat) : Bool := vs.all fun v => thin1 δ[v]?
/-- the slots vs again as they were in δ -/
def unw (δ : List Sl) : List Nat → List Sl → List Sl
  | [], τ => τ
  | v :: vs, τ => (unw δ vs τ).set v (δ.getD v .dead)
def unwS (σ : St) : List Nat → St → St
  | [], τ => τ
  | v :: vs, τ => (unwS σ vs τ).set v (σ.getD v none)
theorem wip_len (δ : List Sl) : ∀ vs : List Nat, (wip δ vs).length = δ.length
  | [] => rfl
  | v :: vs => by rw [wip, List.length_set, wip_len δ vs]
theorem unw_len (δ τ : List Sl) : ∀ vs : List Nat, (unw δ vs τ).length = τ.length
  | [] => rfl
  | v :: vs => by rw [unw, List.length_set, unw_len δ τ vs]
theorem unwS_len (δ τ : St) : ∀ vs : List Nat, (unwS δ vs τ).length = τ.length
  | [] => rfl
  | v :: vs => by rw [unwS, List.length_set, unwS_len δ τ vs]
theorem unwS_at {σ τ : St} (hl : τ.length = σ.length) : ∀ {vs : List Nat} {i : Nat}, (unwS σ vs τ)[i]? = if i ∈ vs then σ[i]? else τ[i]?
  | [], i => by simp [unwS]
  | v :: vs, i => by
    rw [unwS]
    by_cases hi : v = i
    · subst hi
      rw [if_pos List.mem_cons_self]
      by_cases hv : v < τ.length
      · rw [List.getElem?_set_self (by rw [unwS_len]; exact hv), List.getD_eq_getElem?_getD, List.getElem?_eq_getElem (by omega)]; rfl
      · rw [List.getElem?_eq_none (by rw [List.length_set, unwS_len]; omega), List.getElem?_eq_none (by omega)]
    · rw [List.getElem?_set_ne hi, unwS_at hl]
      have : (i ∈ v :: vs) ↔ i ∈ vs := by simp [show ¬ i = v from fun z => hi z.symm]
      by_cases h : i ∈ vs
      · rw [if_pos h, if_pos (this.mpr h)]
      · rw [if_neg h, if_neg (fun z => h (this.mp z))]
theorem wipe_at {σ : St} : ∀ {vs : List Nat} {i : Nat}, i ∉ vs → (wipe σ vs)[i]? = σ[i]?
  | [], i, _ => rfl
  | v :: vs, i, h => by
    simp only [List.mem_cons, not_or] at h
    rw [wipe, List.getElem?_set_ne (fun z => h.1 z.symm), wipe_at h.2]
theorem Env.wipe (hE : Env K pa F H σ δ Lf) : ∀ {vs : List Nat}, thin δ vs = true → Env K pa F H (wipe σ vs) (wip δ vs) Lf
  | [], _ => hE
  | v :: vs, h => by
    unfold thin at h
    rw [List.all_cons, Bool.and_eq_true] at h
    have E2 := hE.wipe (vs := vs) h.2
    refine E2.put (L1 := []) ?_ (.dead _ .nil)
    rw [wip_len]
    by_cases hv : v < δ.length
    · exact hv
    · rw [List.getElem?_eq_none (by omega)] at h; cases h.1
theorem Sls.one (h : Sls K pa F L σ δ) : ∀ {i : Nat} {s : Sl}, δ[i]? = some s → thin1 (some s) = true → Sls K pa F [] [σ.getD i none] [s] := by
  intro i s e t
  obtain ⟨h1, h2, h3, h4, h5⟩ := h.slot e
  have hl := h.length
  have hi : i < δ.length := (List.getElem?_eq_some_iff.mp e).1
  have gd : ∀ {x : V}, σ[i]? = some (some x) → σ.getD i none = some x := fun {x} z => by rw [List.getD_eq_getElem?_getD, z]; rfl
  cases s with
  | dead => exact .dead _ .nil
  | val d => obtain ⟨v, e1, e2⟩ := h1 d rfl; rw [gd e1]; exact .val e2 .nil
  | raw v => rw [gd (h2 v rfl)]; exact .raw v .nil
  | exc a d C fs => obtain ⟨e1, vs, e2, e3⟩ := h4 a d C fs rfl; rw [gd e1]; exact .exc e2 e3 .nil
  | exc0 a C => rw [gd (h5 a C rfl)]; exact .exc0 .nil
  | own => cases t
  | par => cases t
  | obj => cases t
  | otup => cases t
  | tre => cases t
theorem Env.unw {σo : St} {δo : List Sl} {Lo : List (Addr × HO)} {Fo : Hp} (ho : Sls K pa Fo Lo σo δo) (s : Same Fo F) (hl : δo.length = δ.length) (hE : Env K pa F H σ δ Lf) : ∀ {vs : List Nat}, thin δo vs = true → Env K pa F H (unwS σo vs σ) (unw δo vs δ) Lf
  | [], _ => hE
  | v :: vs, h => by
    unfold thin at h
    rw [List.all_cons, Bool.and_eq_true] at h
    have E2 := hE.unw ho s hl (vs := vs) h.2
    have hv : v < δo.length := by
      by_cases hv : v < δo.length
      · exact hv
      · rw [List.getElem?_eq_none (by omega)] at h; cases h.1
    refine E2.put (L1 := []) (by rw [unw_len]; omega) ?_
    have e : δo[v]? = some δo[v] := List.getElem?_eq_getElem hv
    rw [e] at h
    have := (ho.mono s).one e h.1
    have e5 : δo.getD v .dead = δo[v] := by rw [List.getD_eq_getElem?_getD, e]; rfl
    rw [e5]
    exact this
def lcC' (de : DTE) (δ : List Sl) (N : DL.D → List Sl → Prop) (M : List Sl → Prop) (b : Bool) : Prop := if b = true then de (fun _ _ _ => False) δ fun r δ1 => frzD r δ1 N else M δ
def lcK (items : List DL.D) (dg : DTG) (dt : DTT) (de : DTE) (vs : List Nat) (Q : DQ) (δ1 : List Sl) : Prop := items.length ≤ 100000 ∧ ∃ Inv : Nat → List Sl → List DL.D → Prop, Inv 0 δ1 [] ∧
  (∀ i d δ acc, items[i]? = some d → Inv i δ acc → thin δ vs = true ∧ dg d (wip δ vs) fun δ2 => dt (fun _ _ _ => False) δ2 fun b δ3 => lcC' de δ3 (fun x δ4 => Inv (i + 1) (unw δ vs δ4) (acc ++ [x])) (fun δ4 => Inv (i + 1) (unw δ vs δ4) acc) b) ∧
  ∀ δ acc, Inv items.length δ acc → Q (.own acc) δ
def dLc (di : DTI) (dg : DTG) (dt : DTT) (de : DTE) (vs : List Nat) : DTE := fun X δ Q => di X δ fun items δ1 => lcK items dg dt de vs Q δ1
theorem wipe_len (σ : St) (vs : List Nat) : (L2.wipe σ vs).length = σ.length := wipe_length σ vs
theorem wipe_ext {σ τ : St} : ∀ {vs : List Nat}, σ.length = τ.length → (∀ i, i ∉ vs → σ[i]? = τ[i]?) → L2.wipe σ vs = L2.wipe τ vs := by
  intro vs hl h
  apply List.ext_getElem?
  intro i
  by_cases hi : i ∈ vs
  · have key : ∀ (σ : St) (vs : List Nat), i ∈ vs → (L2.wipe σ vs)[i]? = if i < σ.length then some none else none := by
      intro σ vs
      induction vs with
      | nil => intro h; cases h
      | cons v vs ih =>
        intro h
        rw [L2.wipe]
        by_cases e : v = i
        · subst e
          by_cases hv : v < σ.length
          · rw [List.getElem?_set_self (by rw [wipe_len]; exact hv), if_pos hv]
          · rw [List.getElem?_eq_none (by rw [List.length_set, wipe_len]; omega), if_neg hv]
        · rw [List.getElem?_set_ne e]
          rcases List.mem_cons.mp h with h | h
          · exact absurd h.symm e
          · exact ih h
    rw [key σ vs hi, key τ vs hi, hl]
  · rw [wipe_at hi, wipe_at hi]; exact h i hi
theorem DE.lc {ti : TI} {g : TG} {tt : TT} {te : TE} {vs ps : List Nat} {di : DTI} {dg : DTG} {dt : DTT} {de : DTE} (hi : DI K pa Wx ti di) (hg : DG K pa ps g dg) (hps : ∀ i ∈ ps, i ∈ vs) (ht : DT K pa Wx tt dt) (he : DE K pa Wx te de) :
    DE K pa Wx (tLc ti g tt te vs) (dLc di dg dt de vs) := by
  intro F H σ δ Lf X Q' Q hE hX q k
  refine hi F H σ δ Lf X _ _ hE hX q fun F1 H1 items δ1 J s1 E1 hJ q => ?_
  obtain ⟨hlen, Inv, h0, hs, hd⟩ := q
  intro A hA
  refine ⟨fun i m H => ∃ F' δ ws acc, Same F1 F' ∧ Env K pa F' H σ δ ((A, .lst ws) :: Lf) ∧ Rps K F' ws acc ∧ acc.length ≤ i ∧ Inv i δ acc ∧ i ≤ items.length ∧ m = items.length - i, ⟨_, F1, δ1, [], [], Same.refl _, E1.new hA, .nil, Nat.zero_le _, h0, Nat.zero_le _, rfl⟩, ?_⟩
  rintro i m H2 ⟨F2, δ2, ws, acc, s2, E2, hw, hal, hI, hi, rfl⟩
  obtain ⟨L, w, sl⟩ := id E2
  obtain ⟨j1, j2⟩ := hJ F2 H2 _ s2 w
  cases e : items[i]? with
  | none =>
    have : i = items.length := by have := List.getElem?_eq_none_iff.mp e; omega
    subst this
    exact .inl ⟨j1 _ rfl, k F2 H2 _ _ δ2 [(A, .lst ws)] (s1.trans s2) E2 (.own hw) (hd δ2 acc hI)⟩
  | some d =>
    have hlt : i < items.length := (List.getElem?_eq_some_iff.mp e).1
    obtain ⟨g1, g2⟩ := j2 i d e
    refine .inr ⟨g1, fun H' => ∃ F' δ ws acc, Same F1 F' ∧ Env K pa F' H' σ δ ((A, .lst ws) :: Lf) ∧ Rps K F' ws acc ∧ acc.length ≤ i + 1 ∧ Inv (i + 1) δ acc, fun H' ⟨F', δ', ws, acc, a, b, c, d1, d2⟩ => ⟨items.length - (i + 1), by omega, F', δ', ws, acc, a, b, c, d1, d2, hlt, rfl⟩, fun x H3 y => ?_⟩
    obtain ⟨F3, s3, w3, hr⟩ := g2 x H3 y
    obtain ⟨hth, q⟩ := hs i d δ2 acc e hI
    have sl3 := sl.mono s3
    have E3 : Env K pa F3 H3 σ δ2 ((A, .lst ws) :: Lf) := ⟨L, w3, sl3⟩
    have E4 := E3.wipe hth
    have hlen2 : σ.length = δ2.length := sl.length
    refine hg F3 H3 _ _ _ x d _ _ E4 hr q fun σ5 δ5 E5 l5 o5 q => ?_
    have hw5 : L2.wipe σ5 vs = L2.wipe σ vs := by
      have a1 : L2.wipe σ5 vs = L2.wipe (L2.wipe σ vs) vs := wipe_ext l5 fun j hj => o5 j fun z => hj (hps j z)
      rw [a1]
      exact wipe_ext (wipe_len _ _) fun j hj => wipe_at hj
    refine ⟨hw5, ?_⟩
    have back : ∀ {F6 H6 δ6 Lx}, Same F3 F6 → Env K pa F6 H6 σ5 δ6 Lx → Env K pa F6 H6 σ (DL.unw δ2 vs δ6) Lx := fun {F6 H6 δ6 Lx} s6 E6 => by
      obtain ⟨L6, w6, sl6⟩ := id E6
      have hl6 : δ2.length = δ6.length := by rw [← sl6.length, l5, wipe_len, hlen2]
      have := E6.unw sl3 s6 hl6 hth
      have es : unwS σ vs σ5 = σ := by
        apply List.ext_getElem?
        intro j
        have hl5 : σ5.length = σ.length := by rw [l5, wipe_len]
        rw [unwS_at hl5]
        by_cases hj : j ∈ vs
        · rw [if_pos hj]
        · rw [if_neg hj, o5 j (fun z => hj (hps j z)), wipe_at hj]
      rw [es] at this
      exact this
    refine ht F3 H3 σ5 δ5 _ _ _ _ E5 XSim.no q fun F6 H6 b δ6 s6 E6 q => ?_
    cases b with
    | false => exact ⟨F6, _, ws, acc, s2.trans (s3.trans s6), back s6 E6, hw.mono (s3.trans s6), by omega, q⟩
    | true =>
      refine he F6 H6 σ5 δ6 _ _ _ _ E6 XSim.no q fun F7 H7 v r δ7 L7 s7 E7 R7 q => ?_
      refine frz_ok E7 R7 q fun F8 d8 δ8 s8 E8 hd8 q => ?_
      have E9 := back (s6.trans (s7.trans s8)) E8
      obtain ⟨L9, w9, sl9⟩ := id E9
      have hi9 : (L9 ++ (A, HO.lst ws) :: Lf)[L9.length]? = some (A, .lst ws) := by simp
      refine ⟨ws, w9.get L9.length hi9, by rw [hw.length]; exact small1000' (by omega), ?_⟩
      have w10 := w9.upd (o' := .lst (ws ++ [v])) L9.length hi9
      have e10 : (L9 ++ (A, HO.lst ws) :: Lf).set L9.length (A, .lst (ws ++ [v])) = L9 ++ (A, .lst (ws ++ [v])) :: Lf := by simp
      rw [e10] at w10
      exact ⟨F8, _, ws ++ [v], acc ++ [d8], s2.trans (s3.trans (s6.trans (s7.trans s8))), ⟨L9, w10, sl9⟩, (hw.mono (s3.trans (s6.trans (s7.trans s8)))).append (.cons hd8 .nil), by rw [List.length_append]; simp; omega, q⟩
/-- a comprehension that changes nothing: item i gives f i -/
theorem lc_map {items : List DL.D} {dg : DTG} {de : DTE} {vs : List Nat} {Q : DQ} (f : Nat → DL.D) (hl : items.length ≤ 100000) (ht : thin δ vs = true)
    (hs : ∀ (i : Nat) (d : DL.D) (N : DL.D → List Sl → Prop), items[i]? = some d → (∀ δ4, unw δ vs δ4 = δ → N (f i) δ4) → dg d (wip δ vs) fun δ2 => de (fun _ _ _ => False) δ2 fun r δ3 => frzD r δ3 N)
    (q : Q (.own ((List.range items.length).map f)) δ) : lcK items dg dYes de vs Q δ := by
  refine ⟨hl, fun i δ' acc => δ' = δ ∧ acc = (List.range i).map f, ⟨rfl, rfl⟩, ?_, ?_⟩
  · rintro i d δ' acc e ⟨rfl, rfl⟩
    refine ⟨ht, hs i d _ e fun δ4 h4 => ⟨h4, ?_⟩⟩
    rw [List.range_succ, List.map_append]; rfl
  · rintro δ' acc ⟨rfl, rfl⟩; exact q
theorem lc_filter {items : List DL.D} {dg : DTG} {dt : DTT} {de : DTE} {vs : List Nat} {Q : DQ} (p : Nat → Bool) (f : Nat → DL.D) (hl : items.length ≤ 100000) (ht : thin δ vs = true)
    (hs : ∀ (i : Nat) (d : DL.D) (N : DL.D → List Sl → Prop) (M : List Sl → Prop), items[i]? = some d → (p i = true → ∀ δ4, unw δ vs δ4 = δ → N (f i) δ4) → (p i = false → ∀ δ4, unw δ vs δ4 = δ → M δ4) → dg d (wip δ vs) fun δ2 => dt (fun _ _ _ => False) δ2 fun b δ3 => lcC' de δ3 N M b)
    (q : Q (.own (((List.range items.length).filter p).map f)) δ) : lcK items dg dt de vs Q δ := by
  refine ⟨hl, fun i δ' acc => δ' = δ ∧ acc = ((List.range i).filter p).map f, ⟨rfl, rfl⟩, ?_, ?_⟩
  · rintro i d δ' acc e ⟨rfl, rfl⟩
    refine ⟨ht, hs i d _ _ e (fun hp δ4 h4 => ⟨h4, ?_⟩) (fun hp δ4 h4 => ⟨h4, ?_⟩)⟩
    · rw [List.range_succ, List.filter_append, List.map_append]; simp [List.filter_cons, hp]
    · rw [List.range_succ, List.filter_append, List.map_append]; simp [List.filter_cons, hp]
  · rintro δ' acc ⟨rfl, rfl⟩; exact q
end
end DL
/-! Fields, errors, defs and their calls over data. -/
namespace DL
open PySem L2
section
variable {K : PySem.W.Frag} {pa : Addr} {F F' H H' : Hp} {L Lf : List (Addr × HO)} {σ σ' : St} {δ δ' : List Sl} {Wx : WX} {X : DX} {D : Ends} {D' : DEnds}
/-! ### fields -/
def lookK (Q : DL.D → Prop) : Option DL.D → Prop
  | some d => Q d
  | none => False
def fldK' (f : Str) (Q : DL.D → Prop) : Option DL.D → Prop
  | some (.ins _ fs) => lookK Q (fs.lookup f)
  | _ => False
def dFld (f : Str) (a : DTE) : DTE := fun X δ Q => a X δ fun r δ1 => fldK' f (fun d => Q (.val d) δ1) (dat δ1 r)
theorem mem_of_lookup {f : Str} {d : DL.D} : ∀ {fs : List (Str × DL.D)}, fs.lookup f = some d → f ∈ fs.map (·.1)
  | (g, x) :: fs, e => by
    rw [List.lookup_cons] at e
    cases hb : f == g with
    | true => have : f = g := by simpa using hb
              subst this; simp
    | false => rw [hb] at e; exact List.mem_cons_of_mem _ (mem_of_lookup e)
theorem DE.fld {f : Str} {te : TE} {a : DTE} (h : DE K pa Wx te a) : DE K pa Wx (tFld K te f) (dFld f a) := by
  intro F H σ δ Lf X Q' Q hE hX q k
  refine h F H σ δ Lf X _ _ hE hX q fun F1 H1 v r δ1 L1 s1 E1 R1 q => ?_
  cases e : dat δ1 r with
  | none => rw [e] at q; exact q.elim
  | some d =>
    rw [e] at q
    have vw := view E1 R1 (fun p hp => List.mem_append_left _ hp) e
    cases d with
    | ins C fs =>
      obtain ⟨a, dx, vs, rfl, h1, g, h2⟩ := vw.insD E1.fr
      unfold fldK' at q
      dsimp only at q
      cases e2 : fs.lookup f with
      | none => rw [e2] at q; exact q.elim
      | some x =>
        rw [e2] at q
        obtain ⟨u, h3, h4⟩ := h2.look e2
        exact ⟨a, C, dx, vs, u, rfl, h1, g.1, g.2 f (mem_of_lookup e2), h3, k F1 H1 u _ δ1 [] s1 E1.drop (.val h4) q⟩
    | _ => exact q.elim
def FldOk (K : PySem.W.Frag) (C : Addr) (f : Str) : Prop := Cls K C ∧ NoAttr K C f
def putD (f : Str) (v : DL.D) : List (Str × DL.D) → List (Str × DL.D)
  | [] => [(f, v)]
  | (g, x) :: r => if g = f then (g, v) :: r else (g, x) :: putD f v r
theorem Rpf.put {f : Str} {v : V} {d : DL.D} (h : Rp K F v d) : ∀ {vs : List (Str × V)} {ds : List (Str × DL.D)}, Rpf K F vs ds → Rpf K F (putF f v vs) (putD f d ds)
  | _, _, .nil => .cons h .nil
  | _, _, .cons (f := g) h1 r => by
    unfold putF putD
    by_cases e : g = f
    · rw [if_pos e, if_pos e]; exact .cons h r
    · rw [if_neg e, if_neg e]; exact .cons h1 (Rpf.put h r)
theorem put_names {f g : Str} {d : DL.D} : ∀ {ds : List (Str × DL.D)}, g ∈ (putD f d ds).map (·.1) → g = f ∨ g ∈ ds.map (·.1)
  | [], h => by simp [putD] at h; exact .inl h
  | (a, x) :: r, h => by
    unfold putD at h
    by_cases e : a = f
    · rw [if_pos e] at h; exact .inr h
    · rw [if_neg e] at h
      rcases List.mem_cons.mp h with h | h
      · exact .inr (by simp [h])
      · rcases put_names h with h | h
        · exact .inl h
        · exact .inr (List.mem_cons_of_mem _ h)
theorem Sls.objc (h : Sls K pa F L σ δ) : ∀ {i : Nat} {C : Addr} {fs : List (Str × DL.D)}, δ[i]? = some (.obj C fs) → ∃ dx vs La Lb, σ[i]? = some (some (.ref pa)) ∧ L = La ++ (pa, .ins C dx vs) :: Lb ∧ GoodC K C fs ∧ Rpf K F vs fs ∧
    ∀ F' vs' fs', Same F F' → GoodC K C fs' → Rpf K F' vs' fs' → Sls K pa F' (La ++ (pa, .ins C dx vs') :: Lb) σ (δ.set i (.obj C fs')) := by
  induction h with
  | nil => intro i C fs e; simp at e
  | dead x h ih =>
    intro i C fs e
    cases i with
    | zero => cases e
    | succ i => obtain ⟨dx, vs, La, Lb, h1, h2, h3, h4, h5⟩ := ih e; exact ⟨dx, vs, La, Lb, h1, h2, h3, h4, fun F' vs' ds' sF g r => .dead x (h5 F' vs' ds' sF g r)⟩
  | val y h ih =>
    intro i C fs e
    cases i with
    | zero => cases e
    | succ i => obtain ⟨dx, vs, La, Lb, h1, h2, h3, h4, h5⟩ := ih e; exact ⟨dx, vs, La, Lb, h1, h2, h3, h4, fun F' vs' ds' sF g r => .val (y.mono sF) (h5 F' vs' ds' sF g r)⟩
  | raw y h ih =>
    intro i C fs e
    cases i with
    | zero => cases e
    | succ i => obtain ⟨dx, vs, La, Lb, h1, h2, h3, h4, h5⟩ := ih e; exact ⟨dx, vs, La, Lb, h1, h2, h3, h4, fun F' vs' ds' sF g r => .raw y (h5 F' vs' ds' sF g r)⟩
  | own y h ih =>
    intro i C fs e
    cases i with
    | zero => cases e
    | succ i => obtain ⟨dx, vs, La, Lb, h1, h2, h3, h4, h5⟩ := ih e; exact ⟨dx, vs, _ :: La, Lb, h1, by rw [h2]; rfl, h3, h4, fun F' vs' ds' sF g r => .own (y.mono sF) (h5 F' vs' ds' sF g r)⟩
  | par y h ih =>
    intro i C fs e
    cases i with
    | zero => cases e
    | succ i => obtain ⟨dx, vs, La, Lb, h1, h2, h3, h4, h5⟩ := ih e; exact ⟨dx, vs, _ :: La, Lb, h1, by rw [h2]; rfl, h3, h4, fun F' vs' ds' sF g r => .par (y.mono sF) (h5 F' vs' ds' sF g r)⟩
  | @obj L σ δ C' dx' vs0 fs0 g0 y h ih =>
    intro i C fs e
    cases i with
    | zero => cases e; exact ⟨dx', vs0, [], L, rfl, rfl, g0, y, fun F' vs' ds' sF g r => .obj g r (h.mono sF)⟩
    | succ i => obtain ⟨dx, vs, La, Lb, h1, h2, h3, h4, h5⟩ := ih e; exact ⟨dx, vs, _ :: La, Lb, h1, by rw [h2]; rfl, h3, h4, fun F' vs' ds' sF g r => .obj g0 (y.mono sF) (h5 F' vs' ds' sF g r)⟩
  | exc hd y h ih =>
    intro i C fs e
    cases i with
    | zero => cases e
    | succ i => obtain ⟨dx, vs, La, Lb, h1, h2, h3, h4, h5⟩ := ih e; exact ⟨dx, vs, La, Lb, h1, h2, h3, h4, fun F' vs' ds' sF g r => .exc (sF _ _ hd) (y.mono sF) (h5 F' vs' ds' sF g r)⟩
  | exc0 h ih =>
    intro i C fs e
    cases i with
    | zero => cases e
    | succ i => obtain ⟨dx, vs, La, Lb, h1, h2, h3, h4, h5⟩ := ih e; exact ⟨dx, vs, La, Lb, h1, h2, h3, h4, fun F' vs' ds' sF g r => .exc0 (h5 F' vs' ds' sF g r)⟩
  | otup t y1 y2 y3 h ih =>
    intro i C fs e
    cases i with
    | zero => cases e
    | succ i => obtain ⟨dx, vs, La, Lb, h1, h2, h3, h4, h5⟩ := ih e; exact ⟨dx, vs, _ :: La, Lb, h1, by rw [h2]; rfl, h3, h4, fun F' vs' ds' sF g r => .otup (sF.seqT t) (y1.mono sF) (y2.mono sF) (y3.mono sF) (h5 F' vs' ds' sF g r)⟩
  | @tre L9 L σ δ v t y h ih =>
    intro i C fs e
    cases i with
    | zero => cases e
    | succ i =>
      obtain ⟨dx, vs, La, Lb, h1, h2, h3, h4, h5⟩ := ih e
      refine ⟨dx, vs, L9 ++ La, Lb, h1, by rw [h2, List.append_assoc], h3, h4, fun F' vs' ds' sF g r => ?_⟩
      rw [List.append_assoc]
      exact .tre (y.mono sF) (h5 F' vs' ds' sF g r)
/-- self.f = e, self an instance of the frame's own -/
def objK (K : PySem.W.Frag) (f : Str) (d : DL.D) (i : Nat) (N : List Sl → Prop) (δ : List Sl) : Option Sl → Prop
  | some (.obj C fs) => (FldOk K C f ∧ fs.length < 900) ∧ N (δ.set i (.obj C (putD f d fs)))
  | _ => False
def dStF (K : PySem.W.Frag) (i : Nat) (f : Str) (a : DTE) : DTS := fun D δ => a D.ex δ fun r δ1 => frzD r δ1 fun d δ2 => objK K f d i D.nx δ2 δ2[i]?
theorem DS.stF {i : Nat} {f : Str} {te : TE} {a : DTE} (h : DE K pa Wx te a) : DS K pa Wx (sFld K (tVar i) te f) (dStF K i f a) := by
  intro F H σ δ Lf D D' hE hS q
  refine h F H σ δ Lf _ _ _ hE hS.ex q fun F1 H1 v r δ1 L1 s1 E1 R1 q => ?_
  refine frz_ok E1 R1 q fun F2 d δ2 s2 E2 hd q => ?_
  cases e : δ2[i]? with
  | none => rw [e] at q; exact q.elim
  | some sl =>
    rw [e] at q
    cases sl with
    | obj C fs =>
      obtain ⟨⟨⟨q1, q2⟩, q3⟩, q⟩ := q
      obtain ⟨L, w, s⟩ := E2
      obtain ⟨dx, vs, La, Lb, h1, rfl, h3, h4, h5⟩ := s.objc e
      refine ⟨_, h1, pa, C, dx, vs, rfl, w.at_ (pa, .ins C dx vs) (by simp), q1, q2, by rw [h4.length]; omega, ?_⟩
      have hi : ((La ++ (pa, HO.ins C dx vs) :: Lb) ++ Lf)[La.length]? = some (pa, .ins C dx vs) := by simp
      have w2 := w.upd (o' := .ins C dx (putF f v vs)) La.length hi
      have e3 : ((La ++ (pa, HO.ins C dx vs) :: Lb) ++ Lf).set La.length (pa, .ins C dx (putF f v vs)) = (La ++ (pa, .ins C dx (putF f v vs)) :: Lb) ++ Lf := by simp
      rw [e3] at w2
      refine hS.nx F2 _ _ _ (s1.trans s2) ⟨_, w2, h5 F2 _ _ (Same.refl _) ⟨h3.1, fun g hg => ?_⟩ (h4.put hd)⟩ q
      rcases put_names hg with rfl | hg
      · exact q2
      · exact h3.2 g hg
    | _ => exact q.elim
/-! ### errors -/
def dRaise (C : Addr) (fs : List Str) (a : DTA) : DTS := fun D δ => a D.ex δ fun rs δ1 => frzs rs δ1 fun ds δ2 => ds.length = fs.length ∧ D.ex C (some (fs.zip ds)) δ2
theorem DS.raise {C : Addr} {fs : List Str} {ta : TA} {a : DTA} (h : DA K pa Wx ta a) : DS K pa Wx (fun _ σ H => tMkErr C fs ta σ H fun cls d H' => Wx cls d σ H') (dRaise C fs a) := by
  intro F H σ δ Lf D D' hE hS q
  refine h F H σ δ Lf _ _ _ hE hS.ex q fun F1 H1 vs rs δ1 L1 s1 E1 R1 q => ?_
  refine frzs_ok E1 R1 q fun F2 ds δ2 s2 E2 hds q => ?_
  refine ⟨by rw [hds.length]; exact q.1, fun d hd => ?_⟩
  obtain ⟨sF, E3⟩ := E2.newF (o := .xd (fs.zip vs)) hd
  exact hS.ex.some_ _ _ σ δ2 C d _ _ (s1.trans (s2.trans sF)) E3 upd_same ((Rpf.zip hds).mono sF) q.2
/-- what is not reached -/
def dNo : DTS := fun _ _ => False
theorem DS.no : DS K pa Wx (fun _ _ _ => False) dNo := fun F H σ δ Lf D D' hE hS q => q.elim
/-! ### defs -/
abbrev DXf := Addr → Option (List (Str × DL.D)) → Prop
abbrev DSp := List DL.D → (Rk → Prop) → DXf → Prop
def spP (K : PySem.W.Frag) (dsp : DSp) : Sp := fun vs H Q E => ∃ F Lf ds Q' X', W F Lf H ∧ Rps K F vs ds ∧ dsp ds Q' X' ∧
  (∀ F' H' v r L1, Same F F' → W F' (L1 ++ Lf) H' → RR K F' [] L1 v r → Q' r → Q v H') ∧
  (∀ F' H' C d ws gs, Same F F' → W F' Lf H' → F' d = some (.xd ws) → Rpf K F' ws gs → X' C (some gs) → E (.ref C) (some d) H') ∧
  (∀ F' H' C, Same F F' → W F' Lf H' → X' C none → E (.ref C) none H')
/-- .. the first thing handed in is a list that may change -/
abbrev DSm := List DL.D → List DL.D → (Rk → List DL.D → Prop) → (Addr → Option (List (Str × DL.D)) → List DL.D → Prop) → Prop
def spM (K : PySem.W.Frag) (dsp : DSm) : Sp := fun vs H Q E => ∃ F Lf p us es ws ds Q' X', vs = .ref p :: ws ∧ W F ((p, .lst us) :: Lf) H ∧ Rps K F us es ∧ Rps K F ws ds ∧ dsp es ds Q' X' ∧
  (∀ F' H' v r L1 us' es', Same F F' → W F' ((p, .lst us') :: (L1 ++ Lf)) H' → Rps K F' us' es' → RR K F' [] L1 v r → Q' r es' → Q v H') ∧
  (∀ F' H' C d ws gs us' es', Same F F' → W F' ((p, .lst us') :: Lf) H' → Rps K F' us' es' → F' d = some (.xd ws) → Rpf K F' ws gs → X' C (some gs) es' → E (.ref C) (some d) H') ∧
  (∀ F' H' C us' es', Same F F' → W F' ((p, .lst us') :: Lf) H' → Rps K F' us' es' → X' C none es' → E (.ref C) none H')
theorem RR.nil {v : V} {r : Rk} {σ τ : St} (h : RR K F σ L v r) (hb : ∀ i, r ≠ .bor i) : RR K F τ L v r := by
  cases h with
  | val h => exact .val h
  | own h => exact .own h
  | raw => exact .raw _
  | otup t h1 h2 h3 => exact .otup t h1 h2 h3
  | tre y => exact .tre y
  | bor => exact absurd rfl (hb _)
theorem Sls.vals {vs : List V} {ds : List DL.D} (h : Rps K F vs ds) (n : Nat) : Sls K pa F [] (vs.map some ++ List.replicate n none) (ds.map .val ++ List.replicate n .dead) := by
  induction vs generalizing ds with
  | nil =>
    cases h
    simp only [List.map_nil, List.nil_append]
    induction n with
    | zero => exact .nil
    | succ n ih => exact .dead _ ih
  | cons v vs ih =>
    cases h with
    | cons h r => exact .val h (ih r)
def isBor : Rk → Prop
  | .bor _ => False
  | _ => True
theorem notBor {r : Rk} (h : isBor r) : ∀ i, r ≠ .bor i := fun i e => by subst e; exact h
/-- into the body of a def -/
theorem enterP {dsp : DSp} {ts : TS} {db : DTS} {N : List Str} {vs : List V} {Q : VK} {E : XK} {c : Nat} (h : spP K dsp vs H Q E) (hD : ∀ pa, DS K pa (fun c d _ H => E c d H) ts db)
    (hb : ∀ ds Q' X', dsp ds Q' X' → ds.length + c = N.length ∧ db ⟨fun _ => Q' (.val .non), fun _ => False, fun _ => False, fun r _ => isBor r ∧ Q' r, fun C g _ => X' C g⟩ (ds.map .val ++ List.replicate c .dead)) : ts { nx := fun _ H' => Q .non H', rt := Q } (L2.start N vs) H := by
  obtain ⟨F, Lf, ds, Q', X', w, hr, hq, k1, k2, k3⟩ := h
  obtain ⟨hl, hq⟩ := hb ds Q' X' hq
  have hl2 := hr.length
  have es : L2.start N vs = vs.map some ++ List.replicate c none := by unfold L2.start; rw [show N.length - vs.length = c by omega]
  rw [es]
  refine hD 0 F H _ _ Lf _ ⟨fun _ => Q' (.val .non), fun _ => False, fun _ => False, fun r _ => isBor r ∧ Q' r, fun C g _ => X' C g⟩ ⟨[], w, Sls.vals hr c⟩ ⟨?_, ?_, ?_, ?_, ?_⟩ hq
  · rintro F' H' σ δ s ⟨L, w', _⟩ q
    exact k1 F' H' .non _ [] s (W.sub w' (List.sublist_append_right _ _)) (.val .non) q
  · exact fun _ _ _ _ _ _ h => h.elim
  · exact fun _ _ _ _ _ _ h => h.elim
  · rintro F' H' σ v r δ L1 s ⟨L, w', _⟩ rr ⟨hb, q⟩
    exact k1 F' H' v r L1 s (W.sub w' (List.sublist_append_right _ _)) (rr.nil (notBor hb)) q
  · refine ⟨?_, ?_⟩
    · rintro F' H' σ δ C d ws gs s ⟨L, w', _⟩ e r q
      exact k2 F' H' C d ws gs s (W.sub w' (List.sublist_append_right _ _)) e r q
    · rintro F' H' σ δ C s ⟨L, w', _⟩ q
      exact k3 F' H' C s (W.sub w' (List.sublist_append_right _ _)) q
/-- the list that was handed in, as it stands now -/
def parK (Q : List DL.D → Prop) : List Sl → Prop
  | .par es :: _ => Q es
  | _ => False
theorem par_ok {Q : List DL.D → Prop} (hE : Env K pa F H σ δ Lf) (q : parK Q δ) : ∃ us es, W F ((pa, .lst us) :: Lf) H ∧ Rps K F us es ∧ Q es := by
  obtain ⟨L, w, s⟩ := hE
  cases s with
  | @par L σ δ us es hr hs =>
    refine ⟨us, es, ?_, hr, q⟩
    exact W.sub w (List.Sublist.cons₂ _ (List.sublist_append_right _ _))
  | _ => exact q.elim
theorem enterM {dsp : DSm} {ts : TS} {db : DTS} {N : List Str} {vs : List V} {Q : VK} {E : XK} {c : Nat} (h : spM K dsp vs H Q E) (hD : ∀ pa, DS K pa (fun c d _ H => E c d H) ts db)
    (hb : ∀ es ds Q' X', dsp es ds Q' X' → ds.length + c + 1 = N.length ∧ db ⟨parK (Q' (.val .non)), fun _ => False, fun _ => False, fun r δ => isBor r ∧ parK (Q' r) δ, fun C g δ => parK (X' C g) δ⟩ (.par es :: (ds.map .val ++ List.replicate c .dead))) : ts { nx := fun _ H' => Q .non H', rt := Q } (L2.start N vs) H := by
  obtain ⟨F, Lf, p, us, es, ws, ds, Q', X', rfl, w, hu, hr, hq, k1, k2, k3⟩ := h
  obtain ⟨hl, hq⟩ := hb es ds Q' X' hq
  have hl2 := hr.length
  have e0 : L2.start N (.ref p :: ws) = some (.ref p) :: (ws.map some ++ List.replicate c none) := by unfold L2.start; rw [List.length_cons, show N.length - (ws.length + 1) = c by omega]; rfl
  rw [e0]
  refine hD p F H _ _ Lf _ ⟨parK (Q' (.val .non)), fun _ => False, fun _ => False, fun r δ => isBor r ∧ parK (Q' r) δ, fun C g δ => parK (X' C g) δ⟩ ⟨[(p, .lst us)], w, .par hu (Sls.vals hr c)⟩ ⟨?_, ?_, ?_, ?_, ?_⟩ hq
  · intro F' H' σ δ s E2 q
    obtain ⟨us', es', w2, hr2, q⟩ := par_ok E2 q
    exact k1 F' H' .non _ [] us' es' s w2 hr2 (.val .non) q
  · exact fun _ _ _ _ _ _ h => h.elim
  · exact fun _ _ _ _ _ _ h => h.elim
  · rintro F' H' σ v r δ L1 s E2 rr ⟨hb, q⟩
    obtain ⟨us', es', w2, hr2, q⟩ := par_ok E2 q
    exact k1 F' H' v r L1 us' es' s w2 hr2 (rr.nil (notBor hb)) q
  · refine ⟨?_, ?_⟩
    · intro F' H' σ δ C d ws gs s E2 e r q
      obtain ⟨us', es', w2, hr2, q⟩ := par_ok E2 q
      exact k2 F' H' C d ws gs us' es' s w2 hr2 e r q
    · intro F' H' σ δ C s E2 q
      obtain ⟨us', es', w2, hr2, q⟩ := par_ok E2 q
      exact k3 F' H' C us' es' s w2 hr2 q
theorem spP_len {dsp : DSp} {n : Nat} (hl : ∀ ds Q X, dsp ds Q X → ds.length = n) {vs : List V} {Q : VK} {E : XK} (h : spP K dsp vs H Q E) : vs.length = n := by
  obtain ⟨F, Lf, ds, Q', X', w, hr, hq, _⟩ := h
  rw [hr.length]; exact hl _ _ _ hq
theorem spM_len {dsp : DSm} {n : Nat} (hl : ∀ es ds Q X, dsp es ds Q X → ds.length = n) {vs : List V} {Q : VK} {E : XK} (h : spM K dsp vs H Q E) : vs.length = n + 1 := by
  obtain ⟨F, Lf, p, us, es, ws, ds, Q', X', rfl, w, hu, hr, hq, _⟩ := h
  rw [List.length_cons, hr.length, hl _ _ _ _ hq]
/-! ### calls -/
/-- a call from a frame -/
theorem callP_ok {dsp : DSp} {vs : List V} {ds : List DL.D} {E : XK} {Q : VK} {Q' : DQ} {X' : DXf} {δ : List Sl} (hE : Env K pa F H σ δ Lf) (hv : Rps K F vs ds) (q : dsp ds (fun r => isBor r ∧ Q' r δ) X')
    (k : KE K pa F Lf σ Q' Q) (hx : ∀ F' H' C d ws gs, Same F F' → Env K pa F' H' σ δ Lf → F' d = some (.xd ws) → Rpf K F' ws gs → X' C (some gs) → E (.ref C) (some d) H') (hx0 : ∀ F' H' C, Same F F' → Env K pa F' H' σ δ Lf → X' C none → E (.ref C) none H') : spP K dsp vs H Q E := by
  obtain ⟨L, w, s⟩ := hE
  refine ⟨F, L ++ Lf, ds, _, X', w, hv, q, fun F' H' v r L1 s1 w1 rr ⟨hb, q⟩ => ?_, fun F' H' C d ws gs s1 w1 => hx F' H' C d ws gs s1 ⟨L, w1, s.mono s1⟩, fun F' H' C s1 w1 => hx0 F' H' C s1 ⟨L, w1, s.mono s1⟩⟩
  exact k F' H' v r δ L1 s1 ⟨L, w1.perm (p_sw _ _ _), s.mono s1⟩ (rr.nil (notBor hb)) q
def dCall (dsp : DSp) (a : DTA) : DTE := fun X δ Q => a X δ fun rs δ1 => frzs rs δ1 fun ds δ2 => dsp ds (fun r => isBor r ∧ Q r δ2) (fun C g => X C g δ2)
/-- .. of a def that lets no error out -/
def dCall0 (dsp : DSp) (a : DTA) : DTE := fun X δ Q => a X δ fun rs δ1 => frzs rs δ1 fun ds δ2 => dsp ds (fun r => isBor r ∧ Q r δ2) (fun _ _ => False)
theorem DE.call {dsp : DSp} {E : XK} {ta : TA} {a : DTA} (hE : ∀ c d σ H, Wx c d σ H → E c d H) (h : DA K pa Wx ta a) : DE K pa Wx (tCall (spP K dsp) [] E ta) (dCall dsp a) := by
  intro F H σ δ Lf X Q' Q hEn hX q k
  refine h F H σ δ Lf X _ _ hEn hX q fun F1 H1 vs rs δ1 L1 s1 E1 R1 q => ?_
  refine frzs_ok E1 R1 q fun F2 ds δ2 s2 E2 hds q => ?_
  have s12 := s1.trans s2
  show spP K dsp (vs ++ []) H1 Q E
  rw [List.append_nil]
  exact callP_ok E2 hds q (fun F' H' v r δ' L1 s => k F' H' v r δ' L1 (s12.trans s)) (fun F' H' C d ws gs s E' e r q => hE _ _ σ _ (hX.some_ F' H' σ δ2 C d ws gs (s12.trans s) E' e r q)) (fun F' H' C s E' q => hE _ _ σ _ (hX.none_ F' H' σ δ2 C (s12.trans s) E' q))
theorem DE.call0 {dsp : DSp} {E : XK} {ta : TA} {a : DTA} (h : DA K pa Wx ta a) : DE K pa Wx (tCall (spP K dsp) [] E ta) (dCall0 dsp a) := by
  intro F H σ δ Lf X Q' Q hEn hX q k
  refine h F H σ δ Lf X _ _ hEn hX q fun F1 H1 vs rs δ1 L1 s1 E1 R1 q => ?_
  refine frzs_ok E1 R1 q fun F2 ds δ2 s2 E2 hds q => ?_
  have s12 := s1.trans s2
  show spP K dsp (vs ++ []) H1 Q E
  rw [List.append_nil]
  exact callP_ok E2 hds q (fun F' H' v r δ' L1 s => k F' H' v r δ' L1 (s12.trans s)) (fun _ _ _ _ _ _ _ _ _ _ q => q.elim) (fun _ _ _ _ _ q => q.elim)
theorem DE.callS {dsp : DSp} {ta : TA} {a : DTA} (h : DA K pa Wx ta a) : DE K pa Wx (tCallS (spP K dsp) (WE Wx) ta) (dCall dsp a) := by
  intro F H σ δ Lf X Q' Q hEn hX q k
  refine h F H σ δ Lf X _ _ hEn hX q fun F1 H1 vs rs δ1 L1 s1 E1 R1 q => ?_
  refine frzs_ok E1 R1 q fun F2 ds δ2 s2 E2 hds q => ?_
  have s12 := s1.trans s2
  exact callP_ok E2 hds q (fun F' H' v r δ' L1 s => k F' H' v r δ' L1 (s12.trans s)) (fun F' H' C d ws gs s E' e r q => (hX.some_ F' H' σ δ2 C d ws gs (s12.trans s) E' e r q)) (fun F' H' C s E' q => (hX.none_ F' H' σ δ2 C (s12.trans s) E' q))
/-! ### calls that change a list -/
def cmK (dsp : DSm) (rs : List Rk) (X : Addr → Option (List (Str × DL.D)) → List Sl → Prop) (δ1 : List Sl) (Q : DQ) : Prop := match rs with
  | .own es :: rr => frzs rr δ1 fun ds δ2 => dsp es ds (fun r _ => isBor r ∧ Q r δ2) (fun C g _ => X C g δ2)
  | .bor i :: rr => frzs rr δ1 fun ds δ2 => lisK δ2 i (fun es f => dsp es ds (fun r es' => isBor r ∧ Q r (f es')) (fun C g es' => X C g (f es'))) δ2[i]?
  | _ => False
def dCallM (dsp : DSm) (a : DTA) : DTE := fun X δ Q => a X δ fun rs δ1 => cmK dsp rs X δ1 Q
def dCallM0 (dsp : DSm) (a : DTA) : DTE := fun X δ Q => a X δ fun rs δ1 => cmK dsp rs (fun _ _ _ => False) δ1 Q
theorem lis_ok2 {i : Nat} {k : List DL.D → (List DL.D → List Sl) → Prop} (hE : Env K pa F H σ δ Lf) (h : lisK δ i k δ[i]?) : ∃ a vs ds f La Lb, σ[i]? = some (some (.ref a)) ∧ W F ((a, .lst vs) :: (La ++ Lb ++ Lf)) H ∧ Rps K F vs ds ∧ k ds f ∧
    ∀ F' vs' ds', Same F F' → Rps K F' vs' ds' → Sls K pa F' (La ++ (a, .lst vs') :: Lb) σ (f ds') := by
  obtain ⟨L, w, s⟩ := hE
  cases e : δ[i]? with
  | none => rw [e] at h; exact h.elim
  | some sl =>
    rw [e] at h
    have key : ∀ ds, (sl = .own ds ∨ sl = .par ds) → ∃ a vs La Lb, σ[i]? = some (some (.ref a)) ∧ W F ((a, .lst vs) :: (La ++ Lb ++ Lf)) H ∧ Rps K F vs ds ∧ ∀ F' vs' ds', Same F F' → Rps K F' vs' ds' → Sls K pa F' (La ++ (a, .lst vs') :: Lb) σ (δ.set i (reS sl ds')) := fun ds e2 => by
      obtain ⟨a, vs, La, Lb, h1, rfl, h3, h4⟩ := s.cell e e2
      refine ⟨a, vs, La, Lb, h1, w.perm ?_, h3, h4⟩
      rw [List.append_assoc, List.append_assoc]
      exact List.perm_middle
    cases sl with
    | own ds => obtain ⟨a, vs, La, Lb, h1, h2, h3, h4⟩ := key ds (.inl rfl); exact ⟨a, vs, ds, _, La, Lb, h1, h2, h3, h, h4⟩
    | par ds => obtain ⟨a, vs, La, Lb, h1, h2, h3, h4⟩ := key ds (.inr rfl); exact ⟨a, vs, ds, _, La, Lb, h1, h2, h3, h, h4⟩
    | _ => exact h.elim
theorem callM_ok {dsp : DSm} {vs : List V} {rs : List Rk} {L1 : List (Addr × HO)} {E : XK} {Q : VK} {Q' : DQ} {X : Addr → Option (List (Str × DL.D)) → List Sl → Prop} (hE : Env K pa F H σ δ (L1 ++ Lf)) (hr : RRs K F σ L1 vs rs) (q : cmK dsp rs X δ Q')
    (k : KE K pa F Lf σ Q' Q) (hx : ∀ F' H' δ' C d ws gs, Same F F' → Env K pa F' H' σ δ' Lf → F' d = some (.xd ws) → Rpf K F' ws gs → X C (some gs) δ' → E (.ref C) (some d) H') (hx0 : ∀ F' H' δ' C, Same F F' → Env K pa F' H' σ δ' Lf → X C none δ' → E (.ref C) none H') : spM K dsp vs H Q E := by
  cases hr with
  | nil => exact q.elim
  | @cons La Lb v r0 vs rs r1 r2 =>
    cases r1 with
    | val => exact q.elim
    | raw => exact q.elim
    | otup => exact q.elim
    | tre => exact q.elim
    | @own a us es hu =>
      have E1 : Env K pa F H σ δ (Lb ++ ((a, .lst us) :: Lf)) := hE.permF (by rw [List.append_assoc]; exact List.Perm.refl _)
      refine frzs_ok E1 r2 q fun F2 ds δ2 s2 E2 hds q => ?_
      obtain ⟨L, w, s⟩ := E2
      refine ⟨F2, L ++ Lf, a, us, es, vs, ds, _, _, rfl, w.perm List.perm_middle, hu.mono s2, hds, q, ?_, ?_, ?_⟩
      · rintro F' H' v r L3 us' es' s3 w3 _ rr ⟨hb, q⟩
        refine k F' H' v r δ2 L3 (s2.trans s3) ⟨L, ?_, s.mono s3⟩ (rr.nil (notBor hb)) q
        exact W.subP (L2 := [(a, .lst us')]) w3 ((p_sw _ _ _).cons _)
      · rintro F' H' C d ws gs us' es' s3 w3 _ e r q
        exact hx F' H' δ2 C d ws gs (s2.trans s3) ⟨L, W.subP (L2 := [(a, .lst us')]) w3 (List.Perm.refl _), s.mono s3⟩ e r q
      · rintro F' H' C us' es' s3 w3 _ q
        exact hx0 F' H' δ2 C (s2.trans s3) ⟨L, W.subP (L2 := [(a, .lst us')]) w3 (List.Perm.refl _), s.mono s3⟩ q
    | @bor i v e =>
      rw [List.append_nil] at hE
      refine frzs_ok hE r2 q fun F2 ds δ2 s2 E2 hds q => ?_
      obtain ⟨a, us, es, f, La, Lc, h1, w, hu, q, h5⟩ := lis_ok2 E2 q
      rw [e] at h1
      cases h1
      have back : ∀ {F' H' us' es' Lx}, Same F2 F' → W F' ((a, .lst us') :: (La ++ Lc ++ Lx)) H' → Rps K F' us' es' → Env K pa F' H' σ (f es') Lx := fun {F' H' us' es' Lx} s3 w3 hr3 =>
        ⟨_, w3.perm (by rw [List.append_assoc, List.append_assoc]; exact List.perm_middle.symm), h5 F' us' es' s3 hr3⟩
      refine ⟨F2, La ++ Lc ++ Lf, a, us, es, vs, ds, _, _, rfl, w, hu, hds, q, ?_, ?_, ?_⟩
      · rintro F' H' v r L3 us' es' s3 w3 hr3 rr ⟨hb, q⟩
        exact k F' H' v r _ L3 (s2.trans s3) (back s3 (w3.perm ((p_sw _ _ _).cons _)) hr3) (rr.nil (notBor hb)) q
      · rintro F' H' C d ws gs us' es' s3 w3 hr3 e r q
        exact hx F' H' _ C d ws gs (s2.trans s3) (back s3 w3 hr3) e r q
      · rintro F' H' C us' es' s3 w3 hr3 q
        exact hx0 F' H' _ C (s2.trans s3) (back s3 w3 hr3) q
theorem DE.callM {dsp : DSm} {E : XK} {ta : TA} {a : DTA} (hE : ∀ c d σ H, Wx c d σ H → E c d H) (h : DA K pa Wx ta a) : DE K pa Wx (tCall (spM K dsp) [] E ta) (dCallM dsp a) := by
  intro F H σ δ Lf X Q' Q hEn hX q k
  refine h F H σ δ Lf X _ _ hEn hX q fun F1 H1 vs rs δ1 L1 s1 E1 R1 q => ?_
  show spM K dsp (vs ++ []) H1 Q E
  rw [List.append_nil]
  exact callM_ok E1 R1 q (fun F' H' v r δ' L1 s => k F' H' v r δ' L1 (s1.trans s)) (fun F' H' δ' C d ws gs s E' e r q => hE _ _ σ _ (hX.some_ F' H' σ δ' C d ws gs (s1.trans s) E' e r q)) (fun F' H' δ' C s E' q => hE _ _ σ _ (hX.none_ F' H' σ δ' C (s1.trans s) E' q))
theorem DE.callM0 {dsp : DSm} {E : XK} {ta : TA} {a : DTA} (h : DA K pa Wx ta a) : DE K pa Wx (tCall (spM K dsp) [] E ta) (dCallM0 dsp a) := by
  intro F H σ δ Lf X Q' Q hEn hX q k
  refine h F H σ δ Lf X _ _ hEn hX q fun F1 H1 vs rs δ1 L1 s1 E1 R1 q => ?_
  show spM K dsp (vs ++ []) H1 Q E
  rw [List.append_nil]
  exact callM_ok E1 R1 q (fun F' H' v r δ' L1 s => k F' H' v r δ' L1 (s1.trans s)) (fun _ _ _ _ _ _ _ _ _ _ _ q => q.elim) (fun _ _ _ _ _ _ q => q.elim)
end
end DL
/-! Own classes, isinstance, try over data. -/
namespace DL
open PySem L2
section
variable {K : PySem.W.Frag} {pa : Addr} {F F' H H' : Hp} {L Lf : List (Addr × HO)} {σ σ' : St} {δ δ' : List Sl} {Wx : WX} {X : DX} {D : Ends} {D' : DEnds}
/-! ### making, with keyword-only values -/
def dMkK (dsp : DSp) (n m : Nat) (a b : DTA) : DTE := fun X δ Q => a X δ fun rs δ1 => b X δ1 fun zs δ2 => frzs (rs ++ zs) δ2 fun ds δ3 => (rs.length = n ∧ zs.length = m) ∧ dsp ds (fun r => isBor r ∧ Q r δ3) (fun C g => X C g δ3)
def dMkK0 (dsp : DSp) (n m : Nat) (a b : DTA) : DTE := fun X δ Q => a X δ fun rs δ1 => b X δ1 fun zs δ2 => frzs (rs ++ zs) δ2 fun ds δ3 => (rs.length = n ∧ zs.length = m) ∧ dsp ds (fun r => isBor r ∧ Q r δ3) (fun _ _ => False)
theorem RRs.append {L1 L2 : List (Addr × HO)} {vs ws : List V} {rs zs : List Rk} (h : RRs K F σ L1 vs rs) (h2 : RRs K F σ L2 ws zs) : RRs K F σ (L2 ++ L1) (vs ++ ws) (rs ++ zs) := by
  induction h generalizing L2 with
  | nil => rw [List.append_nil]; exact h2
  | cons a b ih => rw [← List.append_assoc]; exact .cons a (ih h2)
theorem RRs.length {vs : List V} {rs : List Rk} (h : RRs K F σ L vs rs) : vs.length = rs.length := by
  induction h with
  | nil => rfl
  | cons _ _ ih => simp [ih]
theorem DE.mkK {dsp : DSp} {n m : Nat} {E : XK} {ta tb : TA} {a b : DTA} (hE : ∀ c d σ H, Wx c d σ H → E c d H) (h : DA K pa Wx ta a) (h2 : DA K pa Wx tb b) : DE K pa Wx (tMkK (spP K dsp) n m E ta tb) (dMkK dsp n m a b) := by
  intro F H σ δ Lf X Q' Q hEn hX q k
  refine h F H σ δ Lf X _ _ hEn hX q fun F1 H1 vs rs δ1 L1 s1 E1 R1 q => ?_
  refine h2 F1 H1 σ δ1 (L1 ++ Lf) X _ _ E1 (hX.mono s1).frame q fun F2 H2 ws zs δ2 L2 s2 E2 R2 q => ?_
  rw [← List.append_assoc] at E2
  have lv := R1.length
  have lw := R2.length
  refine frzs_ok E2 ((R1.mono s2).append R2) q fun F3 ds δ3 s3 E3 hds q => ?_
  have s12 := (s1.trans s2).trans s3
  refine ⟨lv.trans q.1.1, lw.trans q.1.2, ?_⟩
  exact callP_ok E3 hds q.2 (fun F' H' v r δ' L1 s => k F' H' v r δ' L1 (s12.trans s)) (fun F' H' C d ws gs s E' e r q => hE _ _ σ _ (hX.some_ F' H' σ δ3 C d ws gs (s12.trans s) E' e r q)) (fun F' H' C s E' q => hE _ _ σ _ (hX.none_ F' H' σ δ3 C (s12.trans s) E' q))
theorem DE.mkK0 {dsp : DSp} {n m : Nat} {E : XK} {ta tb : TA} {a b : DTA} (h : DA K pa Wx ta a) (h2 : DA K pa Wx tb b) : DE K pa Wx (tMkK (spP K dsp) n m E ta tb) (dMkK0 dsp n m a b) := by
  intro F H σ δ Lf X Q' Q hEn hX q k
  refine h F H σ δ Lf X _ _ hEn hX q fun F1 H1 vs rs δ1 L1 s1 E1 R1 q => ?_
  refine h2 F1 H1 σ δ1 (L1 ++ Lf) X _ _ E1 (hX.mono s1).frame q fun F2 H2 ws zs δ2 L2 s2 E2 R2 q => ?_
  rw [← List.append_assoc] at E2
  have lv := R1.length
  have lw := R2.length
  refine frzs_ok E2 ((R1.mono s2).append R2) q fun F3 ds δ3 s3 E3 hds q => ?_
  have s12 := (s1.trans s2).trans s3
  refine ⟨lv.trans q.1.1, lw.trans q.1.2, ?_⟩
  exact callP_ok E3 hds q.2 (fun F' H' v r δ' L1 s => k F' H' v r δ' L1 (s12.trans s)) (fun _ _ _ _ _ _ _ _ _ _ q => q.elim) (fun _ _ _ _ _ q => q.elim)
/-- the body of an __init__: self is new -/
def spI (K : PySem.W.Frag) (C : Addr) (dsp : DSp) : Sp := fun vs H Q E => ∃ F Lf p dx ws ds Q' X', vs = .ref p :: ws ∧ W F ((p, .ins C dx []) :: Lf) H ∧ Rps K F ws ds ∧ dsp ds Q' X' ∧
  (∀ F' H' dx' vs' fs, Same F F' → W F' ((p, .ins C dx' vs') :: Lf) H' → GoodC K C fs → Rpf K F' vs' fs → Q' (.val (.ins C fs)) → Q .non H') ∧
  (∀ F' H' C d ws gs, Same F F' → W F' Lf H' → F' d = some (.xd ws) → Rpf K F' ws gs → X' C (some gs) → E (.ref C) (some d) H') ∧
  (∀ F' H' C, Same F F' → W F' Lf H' → X' C none → E (.ref C) none H')
def selfK (C : Addr) (Q : Rk → Prop) : List Sl → Prop
  | .obj C' fs :: _ => C' = C ∧ Q (.val (.ins C fs))
  | _ => False
theorem enterI {C : Addr} {dsp : DSp} {ts : TS} {db : DTS} {N : List Str} {vs : List V} {Q : VK} {E : XK} {c : Nat} (h : spI K C dsp vs H Q E) (hc : Cls K C) (hD : ∀ pa, DS K pa (fun c d _ H => E c d H) ts db)
    (hb : ∀ ds Q' X', dsp ds Q' X' → ds.length + c + 1 = N.length ∧ db ⟨selfK C Q', fun _ => False, fun _ => False, fun r δ => r = .val .non ∧ selfK C Q' δ, fun C g _ => X' C g⟩ (.obj C [] :: (ds.map .val ++ List.replicate c .dead))) : ts { nx := fun _ H' => Q .non H', rt := Q } (L2.start N vs) H := by
  obtain ⟨F, Lf, p, dx, ws, ds, Q', X', rfl, w, hr, hq, k1, k2, k3⟩ := h
  obtain ⟨hl, hq⟩ := hb ds Q' X' hq
  have hl2 := hr.length
  have e0 : L2.start N (.ref p :: ws) = some (.ref p) :: (ws.map some ++ List.replicate c none) := by unfold L2.start; rw [List.length_cons, show N.length - (ws.length + 1) = c by omega]; rfl
  rw [e0]
  have fin : ∀ {F' H' σ δ Lx}, Same F F' → Env K p F' H' σ δ (Lx ++ Lf) → selfK C Q' δ → Q .non H' := fun {F' H' σ δ Lx} s hE q => by
    obtain ⟨L, w', sl⟩ := hE
    cases sl with
    | @obj L σ δ C' dx' vs fs g hr' hs =>
      obtain ⟨rfl, q2⟩ := q
      refine k1 F' H' dx' vs fs s (W.sub w' ?_) g hr' q2
      exact List.Sublist.cons₂ _ ((List.sublist_append_right _ _).trans (List.sublist_append_right _ _))
    | _ => exact q.elim
  refine hD p F H _ _ Lf _ ⟨selfK C Q', fun _ => False, fun _ => False, fun r δ => r = .val .non ∧ selfK C Q' δ, fun C g _ => X' C g⟩ ⟨[(p, .ins C dx [])], w, .obj ⟨hc, by simp⟩ .nil (Sls.vals hr c)⟩ ⟨?_, ?_, ?_, ?_, ?_⟩ hq
  · exact fun F' H' σ δ s E2 q => fin (Lx := []) s E2 q
  · exact fun _ _ _ _ _ _ h => h.elim
  · exact fun _ _ _ _ _ _ h => h.elim
  · rintro F' H' σ v r δ L1 s E2 rr ⟨rfl, q⟩
    cases rr with
    | val h => cases h; exact fin s E2 q
  · refine ⟨?_, ?_⟩
    · rintro F' H' σ δ C d ws gs s ⟨L, w', _⟩ e r q
      exact k2 F' H' C d ws gs s (W.sub w' (List.sublist_append_right _ _)) e r q
    · rintro F' H' σ δ C s ⟨L, w', _⟩ q
      exact k3 F' H' C s (W.sub w' (List.sublist_append_right _ _)) q
theorem spI_len {C : Addr} {dsp : DSp} {n : Nat} (hl : ∀ ds Q X, dsp ds Q X → ds.length = n) {vs : List V} {Q : VK} {E : XK} (h : spI K C dsp vs H Q E) : vs.length = n + 1 := by
  obtain ⟨F, Lf, p, dx, ws, ds, Q', X', rfl, w, hr, hq, _⟩ := h
  rw [List.length_cons, hr.length, hl _ _ _ hq]
theorem spI_mk {C : Addr} {dsp : DSp} {vs : List V} {Q : VK} {E : XK} (h : spP K dsp vs H Q E) {x dx : Addr} (hx : H x = none) (hdx : H dx = none) (hne : dx ≠ x) : spI K C dsp (.ref x :: vs) (upd (upd H dx (.own x)) x (.ins C dx [])) (fun v H2 => v = .non ∧ Q (.ref x) H2) E := by
  obtain ⟨F, Lf, ds, Q', X', w, hr, hq, k1, k2, k3⟩ := h
  obtain ⟨sF, w2⟩ := (w.new (o := .own x) hdx).frz
  have w3 := w2.new (p := x) (o := .ins C dx []) (by rw [upd_ne hne.symm]; exact hx)
  refine ⟨_, Lf, x, dx, vs, ds, Q', X', rfl, w3, hr.mono sF, hq, fun F' H' dx' vs' fs s w4 g hf q => ⟨rfl, ?_⟩, fun F' H' C d ws gs s w4 => k2 F' H' C d ws gs (sF.trans s) w4, fun F' H' C s w4 => k3 F' H' C (sF.trans s) w4⟩
  obtain ⟨sG, w5⟩ := w4.frz
  exact k1 _ H' _ _ [] (sF.trans (s.trans sG)) w5 (.val (.ins upd_same g (hf.mono sG))) q
theorem mkAt_of {P : Program} {w : World} {mg : Str → Option Value} {base : Heap} {k : Nat} {x : Str} {C f : Addr} {fd : FuncData} {ps : List Str} {dsp : DSp} (hg : mg x = some (.ref C)) (M : Mk K C f) (F : FnOk P w K mg base (L2.CX P w) k f fd ps (spI K C dsp)) (hb : Binds K fd ps []) : MkAt P w K mg base k x C (spP K dsp) :=
  ⟨hg, f, fd, ps, _, M, F, hb, fun _ _ _ _ h _ _ h1 h2 h3 => spI_mk h h1 h2 h3⟩
theorem mkAtK_of {P : Program} {w : World} {mg : Str → Option Value} {base : Heap} {k n : Nat} {x : Str} {ks : List Str} {C f : Addr} {fd : FuncData} {ps : List Str} {dsp : DSp} (hg : mg x = some (.ref C)) (M : Mk K C f) (F : FnOk P w K mg base (L2.CX P w) k f fd ps (spI K C dsp)) (hb : KBn K fd ps (n + 1) ks (fun us ws => us ++ ws) (fun vs zs => vs ++ zs)) : MkAtK P w K mg base k x C n ks (spP K dsp) :=
  ⟨hg, f, fd, ps, _, M, F, hb, fun _ _ _ _ h _ _ h1 h2 h3 => spI_mk h h1 h2 h3⟩
/-! ### properties, methods -/
def insC (C : Addr) (Q : Prop) : Option DL.D → Prop
  | some (.ins C' _) => C' = C ∧ Q
  | _ => False
def dProp (C : Addr) (dsp : DSp) (a : DTE) : DTE := fun X δ Q => a X δ fun r δ1 => insC C (frzD r δ1 fun d δ2 => dsp [d] (fun r => isBor r ∧ Q r δ2) (fun _ _ => False)) (dat δ1 r)
theorem Rps.one {v : V} {d : DL.D} (h : Rp K F v d) : Rps K F [v] [d] := .cons h .nil
theorem DE.prop {C : Addr} {dsp : DSp} {te : TE} {a : DTE} (h : DE K pa Wx te a) : DE K pa Wx (tProp C (spP K dsp) [] E0 te) (dProp C dsp a) := by
  intro F H σ δ Lf X Q' Q hEn hX q k
  refine h F H σ δ Lf X _ _ hEn hX q fun F1 H1 v r δ1 L1 s1 E1 R1 q => ?_
  cases e : dat δ1 r with
  | none => rw [e] at q; exact q.elim
  | some d =>
    rw [e] at q
    have vw := view E1 R1 (fun p hp => List.mem_append_left _ hp) e
    cases d with
    | ins C' fs =>
      obtain ⟨rfl, q2⟩ := q
      obtain ⟨a, dx, vs, rfl, h1, g, h2⟩ := vw.insD E1.fr
      refine ⟨a, dx, vs, rfl, h1, ?_⟩
      refine frz_ok E1 R1 q2 fun F2 d δ2 s2 E2 hd q => ?_
      have s12 := s1.trans s2
      exact callP_ok E2 (Rps.one hd) q (fun F' H' v r δ' L1 s => k F' H' v r δ' L1 (s12.trans s)) (fun _ _ _ _ _ _ _ _ _ _ q => q.elim) (fun _ _ _ _ _ q => q.elim)
    | _ => exact q.elim
def insM (C : Addr) (m : Str) (Q : Prop) : Option DL.D → Prop
  | some (.ins C' fs) => (C' = C ∧ fs.lookup m = none) ∧ Q
  | _ => False
def dMeth (C : Addr) (m : Str) (dsp : DSp) (o : DTE) (a : DTA) : DTE := fun X δ Q => o X δ fun r δ1 => insM C m (a X δ1 fun rs δ2 => frzs (r :: rs) δ2 fun ds δ3 => dsp ds (fun r => isBor r ∧ Q r δ3) (fun C g => X C g δ3)) (dat δ1 r)
def dMeth0 (C : Addr) (m : Str) (dsp : DSp) (o : DTE) (a : DTA) : DTE := fun X δ Q => o X δ fun r δ1 => insM C m (a X δ1 fun rs δ2 => frzs (r :: rs) δ2 fun ds δ3 => dsp ds (fun r => isBor r ∧ Q r δ3) (fun _ _ => False)) (dat δ1 r)
theorem DE.meth {C : Addr} {m : Str} {dsp : DSp} {E : XK} {te : TE} {ta : TA} {o : DTE} {a : DTA} (hE : ∀ c d σ H, Wx c d σ H → E c d H) (h : DE K pa Wx te o) (h2 : DA K pa Wx ta a) : DE K pa Wx (tMeth C m (spP K dsp) [] E te ta) (dMeth C m dsp o a) := by
  intro F H σ δ Lf X Q' Q hEn hX q k
  refine h F H σ δ Lf X _ _ hEn hX q fun F1 H1 v r δ1 L1 s1 E1 R1 q => ?_
  cases e : dat δ1 r with
  | none => rw [e] at q; exact q.elim
  | some d =>
    rw [e] at q
    have vw := view E1 R1 (fun p hp => List.mem_append_left _ hp) e
    cases d with
    | ins C' fs =>
      obtain ⟨⟨rfl, hm⟩, q2⟩ := q
      obtain ⟨a, dx, vs, rfl, h1, g, hf⟩ := vw.insD E1.fr
      refine ⟨a, dx, vs, rfl, h1, hf.look0 hm, ?_⟩
      refine h2 F1 H1 σ δ1 (L1 ++ Lf) X _ _ E1 (hX.mono s1).frame q2 fun F2 H2 ws rs δ2 L2 s2 E2 R2 q => ?_
      rw [← List.append_assoc] at E2
      refine frzs_ok E2 (.cons (R1.mono s2) R2) q fun F3 ds δ3 s3 E3 hds q => ?_
      have s12 := (s1.trans s2).trans s3
      rw [List.append_nil]
      exact callP_ok E3 hds q (fun F' H' v r δ' L1 s => k F' H' v r δ' L1 (s12.trans s)) (fun F' H' C d ws gs s E' e r q => hE _ _ σ _ (hX.some_ F' H' σ δ3 C d ws gs (s12.trans s) E' e r q)) (fun F' H' C s E' q => hE _ _ σ _ (hX.none_ F' H' σ δ3 C (s12.trans s) E' q))
    | _ => exact q.elim
theorem DE.meth0 {C : Addr} {m : Str} {dsp : DSp} {E : XK} {te : TE} {ta : TA} {o : DTE} {a : DTA} (h : DE K pa Wx te o) (h2 : DA K pa Wx ta a) : DE K pa Wx (tMeth C m (spP K dsp) [] E te ta) (dMeth0 C m dsp o a) := by
  intro F H σ δ Lf X Q' Q hEn hX q k
  refine h F H σ δ Lf X _ _ hEn hX q fun F1 H1 v r δ1 L1 s1 E1 R1 q => ?_
  cases e : dat δ1 r with
  | none => rw [e] at q; exact q.elim
  | some d =>
    rw [e] at q
    have vw := view E1 R1 (fun p hp => List.mem_append_left _ hp) e
    cases d with
    | ins C' fs =>
      obtain ⟨⟨rfl, hm⟩, q2⟩ := q
      obtain ⟨a, dx, vs, rfl, h1, g, hf⟩ := vw.insD E1.fr
      refine ⟨a, dx, vs, rfl, h1, hf.look0 hm, ?_⟩
      refine h2 F1 H1 σ δ1 (L1 ++ Lf) X _ _ E1 (hX.mono s1).frame q2 fun F2 H2 ws rs δ2 L2 s2 E2 R2 q => ?_
      rw [← List.append_assoc] at E2
      refine frzs_ok E2 (.cons (R1.mono s2) R2) q fun F3 ds δ3 s3 E3 hds q => ?_
      have s12 := (s1.trans s2).trans s3
      rw [List.append_nil]
      exact callP_ok E3 hds q (fun F' H' v r δ' L1 s => k F' H' v r δ' L1 (s12.trans s)) (fun _ _ _ _ _ _ _ _ _ _ q => q.elim) (fun _ _ _ _ _ q => q.elim)
    | _ => exact q.elim
/-! ### len of an own instance whose __len__ is the length of a tuple -/
def dspLen (C : Addr) (fld : Str) : DSp := fun ds Q _ => ∃ fs xs, ds = [.ins C fs] ∧ fs.lookup fld = some (.tup xs) ∧ xs.length ≤ 1000000 ∧ Q (.val (.int xs.length))
def lenK (C : Addr) (fld : Str) (Q : DL.D → Prop) (ds : List DL.D) : Prop := match ds with
  | [.ins C' fs] => C' = C ∧ ∃ xs, fs.lookup fld = some (.tup xs) ∧ xs.length ≤ 1000000 ∧ Q (.int xs.length)
  | _ => False
def dLenO (C : Addr) (fld : Str) (a : DTA) : DTE := fun X δ Q => a X δ fun rs δ1 => frzs rs δ1 fun ds δ2 => lenK C fld (fun d => Q (.val d) δ2) ds
theorem DE.lenO {C : Addr} {fld : Str} {ta : TA} {a : DTA} (h : DA K pa Wx ta a) : DE K pa Wx (tCB (rLenO C (spP K (dspLen C fld))) ta) (dLenO C fld a) := by
  intro F H σ δ Lf X Q' Q hEn hX q k
  refine h F H σ δ Lf X _ _ hEn hX q fun F1 H1 vs rs δ1 L1 s1 E1 R1 q => ?_
  refine frzs_ok E1 R1 q fun F2 ds δ2 s2 E2 hds q => ?_
  unfold lenK at q
  split at q
  · rename_i C' fs
    obtain ⟨rfl, xs, e2, hl, q2⟩ := q
    cases hds with
    | cons hd hn =>
      cases hn
      obtain ⟨a, dx, us, rfl, h1, g, hf⟩ := id hd.insE
      refine ⟨a, dx, us, rfl, E2.fr _ _ h1, ?_⟩
      obtain ⟨L, w, sl⟩ := E2
      refine ⟨F2, _, _, fun r => r = .val (.int xs.length), fun _ _ => False, w, .cons hd .nil, ⟨fs, xs, rfl, e2, hl, rfl⟩, fun F' H' v r L1 s w3 rr e => ?_, (fun _ _ _ _ _ _ _ _ _ _ q => q.elim), (fun _ _ _ _ _ q => q.elim)⟩
      subst e
      cases rr with
      | val h =>
        cases h
        exact ⟨_, rfl, by omega, by omega, k F' H' _ _ δ2 [] (s1.trans (s2.trans s)) ⟨L, W.sub w3 (List.sublist_append_right _ _), sl.mono s⟩ (.val (.int _)) q2⟩
  · exact q.elim
/-! ### isinstance -/
def isiT (t : String) : DL.D → Option Bool
  | .non => some false
  | .bl _ => some (t == "int" || t == "bool")
  | .int _ => some (t == "int")
  | .str _ => some (t == "str")
  | .lst _ => some (t == "list")
  | .tup _ => some (t == "tuple")
  | _ => none
def isiK (Q : Rk → Prop) : Option Bool → Prop
  | some b => Q (.val (.bl b))
  | none => False
def oIsi (ds : List DL.D) (Q : Rk → Prop) : Prop := match ds with
  | [d, .ty t] => (t = "int" ∨ t = "bool" ∨ t = "str" ∨ t = "list" ∨ t = "tuple") ∧ isiK Q (isiT t d)
  | _ => False
def tyD : DL.D → String
  | .non => "NoneType"
  | .bl _ => "bool"
  | .int _ => "int"
  | .str _ => "str"
  | .lst _ => "list"
  | _ => "tuple"
theorem Rp.tyx {v : V} {d : DL.D} (h : Rp K H v d) (t : String) (b : Bool) (e : isiT t d = some b) : TyX K H v (.type (tyD d)) := by
  cases h with
  | non => exact .base .non
  | bl b => exact .base (.bl b)
  | int i => exact .base (.int i)
  | str x => exact .base (.str x)
  | lst h r => exact .base (.lst h)
  | tup h r =>
    rcases h with (h | ⟨o, h⟩) | ⟨o, its, n, h1, h2, _⟩
    · exact .base (.tup h)
    · exact .fTuple h
    · exact .kTuple h1 h2
  | ins => cases e
  | scr => cases e
  | ty => cases e
theorem kit_any {d : DL.D} {t : String} {b : Bool} (ht : t = "int" ∨ t = "bool" ∨ t = "str" ∨ t = "list" ∨ t = "tuple") (e : isiT t d = some b) : kitB (tyD d) t = some b := by
  rcases ht with rfl | rfl | rfl | rfl | rfl <;> cases d <;> first
    | (simp only [isiT, Option.some.injEq] at e; subst e; simp only [tyD]; decide +kernel)
    | (simp [isiT] at e; done)
theorem CallO.isi : CallO K (rIsi K) oIsi := by
  intro F H vs ds L Q' Q w hv q k
  unfold oIsi at q
  split at q
  · obtain ⟨v, u, rfl, h, h2⟩ := hv.two
    obtain ⟨ht, q⟩ := q
    rename_i d t
    cases e : isiT t d with
    | none => rw [e] at q; exact q.elim
    | some b =>
      rw [e] at q
      rw [h2.tyD]
      exact ⟨v, .ty t, _, .type t, b, rfl, .ty t, (h.rp w.fr).tyx t b e, kit_ty (kit_any ht e), k.sc w (.bl b) q⟩
  · exact q.elim
end
end DL
/-! What readings over data come to. -/
namespace DL
open PySem L2
section
variable {K : PySem.W.Frag} {pa : Addr} {F F' H H' : Hp} {L Lf : List (Addr × HO)} {σ σ' : St} {δ δ' : List Sl} {Wx : WX} {X : DX}
/-! ### more rules -/
theorem DE.cval {C : Addr} {mc u : Value} {f : Str} {n : Int} (hr : ClX.CRead K C mc) (hc : ClX.CVal K C mc f (.int n) u) : DE K pa Wx (ClX.tCVal K (tC (.ref C)) f) (dC (.int n)) :=
  fun F H σ δ Lf X Q' Q hE hX q k => ⟨C, mc, .int n, u, rfl, hr, hc, k F H _ _ δ [] (Same.refl _) hE (.val (.int n)) q⟩
/-! ### short forms -/
variable {D : DEnds} {Q : DQ} {QT : Bool → List Sl → Prop} {t u : DTS} {a b : DTE} {ta tb : DTT} {d : DL.D} {i : Nat} {N : DL.D → List Sl → Prop} {M : List Sl → Prop}
theorem e_br1 : dBr t u D true δ = t D δ := rfl
theorem e_br0 : dBr t u D false δ = u D δ := rfl
theorem e_aK1 : dAndK tb X QT true δ = tb X δ QT := rfl
theorem e_aK0 : dAndK tb X QT false δ = QT false δ := rfl
theorem e_oK1 : dOrK tb X QT true δ = QT true δ := rfl
theorem e_oK0 : dOrK tb X QT false δ = tb X δ QT := rfl
theorem e_aV1 : dAndVK b X Q δ true = b X δ Q := rfl
theorem e_aV0 : dAndVK b X Q δ false = Q (.val (.bl false)) δ := rfl
theorem e_oV1 : dOrVK b X Q δ true = Q (.val (.bl true)) δ := rfl
theorem e_oV0 : dOrVK b X Q δ false = b X δ Q := rfl
theorem e_if1 : dIfK a b X Q true δ = a X δ Q := rfl
theorem e_if0 : dIfK a b X Q false δ = b X δ Q := rfl
theorem e_ch1 {o : DOp2} {r : Rk} : dChK o a X Q r δ true = a X δ fun r3 δ3 => op2K o r r3 δ3 Q := rfl
theorem e_ch0 {o : DOp2} {r : Rk} : dChK o a X Q r δ false = Q (.val (.bl false)) δ := rfl
theorem e_lc1 : lcC' a δ N M true = a (fun _ _ _ => False) δ fun r δ1 => frzD r δ1 N := rfl
theorem e_lc0 : lcC' a δ N M false = M δ := rfl
theorem e_frzV : frzD (.val d) δ N = N d δ := rfl
theorem e_frzO {ds : List DL.D} : frzD (.own ds) δ N = N (.lst ds) δ := rfl
theorem e_retV : retK Q (.val d) δ = Q (.val d) δ := rfl
theorem e_retO {ds : List DL.D} : retK Q (.own ds) δ = Q (.own ds) δ := rfl
/-- a way by a test that is open -/
theorem c_br {p : Prop} [Decidable p] (h1 : p → t D δ) (h2 : ¬ p → u D δ) : dBr t u D (decide p) δ := by
  by_cases h : p
  · rw [decide_eq_true h]; exact h1 h
  · rw [decide_eq_false h]; exact h2 h
theorem c_brN {p : Prop} [Decidable p] (h1 : ¬ p → t D δ) (h2 : p → u D δ) : dBr t u D (!decide p) δ := by
  by_cases h : p
  · rw [decide_eq_true h]; exact h2 h
  · rw [decide_eq_false h]; exact h1 h
theorem c_brB {c : Bool} (h1 : c = true → t D δ) (h2 : c = false → u D δ) : dBr t u D c δ := by cases c with | true => exact h1 rfl | false => exact h2 rfl
theorem c_brNB {c : Bool} (h1 : c = false → t D δ) (h2 : c = true → u D δ) : dBr t u D (!c) δ := by cases c with | true => exact h2 rfl | false => exact h1 rfl
theorem bq_t {a : Bool} : (a == true) = a := by cases a <;> rfl
theorem bq_f {a : Bool} : (a == false) = !a := by cases a <;> rfl
theorem c_aK {p : Prop} [Decidable p] (h1 : p → tb X δ QT) (h2 : ¬ p → QT false δ) : dAndK tb X QT (decide p) δ := by
  by_cases h : p
  · rw [decide_eq_true h]; exact h1 h
  · rw [decide_eq_false h]; exact h2 h
theorem c_aKN {p : Prop} [Decidable p] (h1 : ¬ p → tb X δ QT) (h2 : p → QT false δ) : dAndK tb X QT (!decide p) δ := by
  by_cases h : p
  · rw [decide_eq_true h]; exact h2 h
  · rw [decide_eq_false h]; exact h1 h
theorem c_aKB {c : Bool} (h1 : c = true → tb X δ QT) (h2 : c = false → QT false δ) : dAndK tb X QT c δ := by cases c with | true => exact h1 rfl | false => exact h2 rfl
theorem c_oK {p : Prop} [Decidable p] (h1 : p → QT true δ) (h2 : ¬ p → tb X δ QT) : dOrK tb X QT (decide p) δ := by
  by_cases h : p
  · rw [decide_eq_true h]; exact h1 h
  · rw [decide_eq_false h]; exact h2 h
theorem c_oKN {p : Prop} [Decidable p] (h1 : ¬ p → QT true δ) (h2 : p → tb X δ QT) : dOrK tb X QT (!decide p) δ := by
  by_cases h : p
  · rw [decide_eq_true h]; exact h2 h
  · rw [decide_eq_false h]; exact h1 h
theorem c_oKB {c : Bool} (h1 : c = true → QT true δ) (h2 : c = false → tb X δ QT) : dOrK tb X QT c δ := by cases c with | true => exact h1 rfl | false => exact h2 rfl
theorem c_aV {p : Prop} [Decidable p] (h1 : p → b X δ Q) (h2 : ¬ p → Q (.val (.bl false)) δ) : dAndVK b X Q δ (decide p) := by
  by_cases h : p
  · rw [decide_eq_true h]; exact h1 h
  · rw [decide_eq_false h]; exact h2 h
theorem c_aVB {c : Bool} (h1 : c = true → b X δ Q) (h2 : c = false → Q (.val (.bl false)) δ) : dAndVK b X Q δ c := by cases c with | true => exact h1 rfl | false => exact h2 rfl
theorem c_oV {p : Prop} [Decidable p] (h1 : p → Q (.val (.bl true)) δ) (h2 : ¬ p → b X δ Q) : dOrVK b X Q δ (decide p) := by
  by_cases h : p
  · rw [decide_eq_true h]; exact h1 h
  · rw [decide_eq_false h]; exact h2 h
theorem c_oVB {c : Bool} (h1 : c = true → Q (.val (.bl true)) δ) (h2 : c = false → b X δ Q) : dOrVK b X Q δ c := by cases c with | true => exact h1 rfl | false => exact h2 rfl
theorem c_if {p : Prop} [Decidable p] (h1 : p → a X δ Q) (h2 : ¬ p → b X δ Q) : dIfK a b X Q (decide p) δ := by
  by_cases h : p
  · rw [decide_eq_true h]; exact h1 h
  · rw [decide_eq_false h]; exact h2 h
theorem c_ifB {c : Bool} (h1 : c = true → a X δ Q) (h2 : c = false → b X δ Q) : dIfK a b X Q c δ := by cases c with | true => exact h1 rfl | false => exact h2 rfl
theorem c_ch {o : DOp2} {r : Rk} {p : Prop} [Decidable p] (h1 : p → a X δ fun r3 δ3 => op2K o r r3 δ3 Q) (h2 : ¬ p → Q (.val (.bl false)) δ) : dChK o a X Q r δ (decide p) := by
  by_cases h : p
  · rw [decide_eq_true h]; exact h1 h
  · rw [decide_eq_false h]; exact h2 h
theorem c_lc {p : Prop} [Decidable p] (h1 : p → a (fun _ _ _ => False) δ fun r δ1 => frzD r δ1 N) (h2 : ¬ p → M δ) : lcC' a δ N M (decide p) := by
  by_cases h : p
  · rw [decide_eq_true h]; exact h1 h
  · rw [decide_eq_false h]; exact h2 h
theorem c_lcB {c : Bool} (h1 : c = true → a (fun _ _ _ => False) δ fun r δ1 => frzD r δ1 N) (h2 : c = false → M δ) : lcC' a δ N M c := by cases c with | true => exact h1 rfl | false => exact h2 rfl
theorem c_wh {Inv : Nat → List Sl → Prop} {m : Nat} {p : Prop} [Decidable p] (h1 : p → t { D with nx := fun δ' => ∃ m', m' < m ∧ Inv m' δ', ct := fun δ' => ∃ m', m' < m ∧ Inv m' δ', bk := D.nx } δ) (h2 : ¬ p → D.nx δ) : whK t Inv m D (decide p) δ := by
  by_cases h : p
  · rw [decide_eq_true h]; exact h1 h
  · rw [decide_eq_false h]; exact h2 h
/-- an if whose ways meet again -/
def dIfJ (c : DTT) (t u : DTS) : DTS := dIfS c t u
theorem DS.ifJ {tt : TT} {t u : TS} {c : DTT} {a b : DTS} (hc : DT K pa Wx tt c) (h1 : DS K pa Wx t a) (h2 : DS K pa Wx u b) : DS K pa Wx (tIfJ tt t u) (dIfJ c a b) := DS.ifs hc h1 h2
theorem c_ifJ {c : DTT} (J : List Sl → Prop) (h : ∀ nx : List Sl → Prop, (∀ δ, J δ → nx δ) → c D.ex δ fun k δ1 => dBr t u { D with nx := nx } k δ1) (hJ : ∀ δ, J δ → D.nx δ) : dIfJ c t u D δ := h D.nx hJ
theorem e_getElem {α : Type} (x : α) (l : List α) : (x :: l)[0]? = some x := rfl
theorem atI_li {ns : List Int} {i : Int} (h0 : 0 ≤ i) (h1 : i < ns.length) : atI (li ns) i = some (.int (ns.getD i.toNat 0)) := by
  unfold atI ixN li
  rw [List.length_map, if_pos h0, if_pos h1]
  have hi : i.toNat < ns.length := by omega
  simp [hi]
theorem li_len {ns : List Int} : (li ns).length = ns.length := by simp [li]
theorem li_at {ns : List Int} {i : Nat} {d : DL.D} (h : (li ns)[i]? = some d) : i < ns.length ∧ d = .int (ns.getD i 0) := by
  unfold li at h
  rw [List.getElem?_map] at h
  cases e : ns[i]? with
  | none => rw [e] at h; cases h
  | some x =>
    rw [e] at h
    have hi := (List.getElem?_eq_some_iff.mp e).1
    refine ⟨hi, ?_⟩
    cases h
    rw [List.getD_eq_getElem?_getD, e]; rfl
theorem li_app (ns ms : List Int) : li ns ++ li ms = li (ns ++ ms) := by simp [li]
theorem li_snoc (ns : List Int) (i : Int) : li ns ++ [.int i] = li (ns ++ [i]) := by simp [li]
theorem li_set (ns : List Int) (j : Nat) (i : Int) : (li ns).set j (.int i) = li (ns.set j i) := by simp [li]
theorem li_nil : ([] : List DL.D) = li [] := rfl
theorem li_map {n : Nat} {f : Nat → Int} : (List.range n).map (fun i => DL.D.int (f i)) = li ((List.range n).map f) := by simp [li, Function.comp_def]
theorem li_cut (ns : List Int) (a b : Nat) (hb : b ≤ ns.length) : cutD (li ns) (some (a : Int)) (some (b : Int)) = li ((ns.drop a).take (b - a)) := by
  unfold cutD
  rw [HT.sIx_nat, HT.sIx_nat, li_len, Nat.min_eq_left hb]
  unfold li
  by_cases h : a ≤ ns.length
  · rw [Nat.min_eq_left h, List.map_take, List.map_drop]
  · rw [Nat.min_eq_right (by omega), List.drop_eq_nil_of_le (by simp), List.drop_eq_nil_of_le (by omega)]; simp
section
variable {n0 b0 c0 : List Sl → Prop} {r0 : DQ} {x0 : DX} {fi : Int → Int → Int} {g : DTG} {di : DTI} {db : DTS} {f : Str} {C : Addr} {fs0 : List Str} {da : DTA}
theorem y_0 : (dSeq t u ⟨n0, b0, c0, r0, x0⟩ δ) = (t ⟨u ⟨n0, b0, c0, r0, x0⟩, b0, c0, r0, x0⟩ δ) := rfl
theorem y_1 : (dNext ⟨n0, b0, c0, r0, x0⟩ δ) = (n0 δ) := rfl
theorem y_2 : (dBreak ⟨n0, b0, c0, r0, x0⟩ δ) = (b0 δ) := rfl
theorem y_3 : (dCont ⟨n0, b0, c0, r0, x0⟩ δ) = (c0 δ) := rfl
theorem y_4 : (dDrop a ⟨n0, b0, c0, r0, x0⟩ δ) = (a x0 δ (fun _ δ1 => n0 δ1)) := rfl
theorem y_5 : (dRet a ⟨n0, b0, c0, r0, x0⟩ δ) = (a x0 δ (fun r δ1 => retK r0 r δ1)) := rfl
theorem y_6 : (dRetN ⟨n0, b0, c0, r0, x0⟩ δ) = (r0 (.val .non) δ) := rfl
theorem y_7 : (dIfS tb t u ⟨n0, b0, c0, r0, x0⟩ δ) = (tb x0 δ (fun k δ1 => dBr t u ⟨n0, b0, c0, r0, x0⟩ k δ1)) := rfl
theorem y_8 : (dAsg i a ⟨n0, b0, c0, r0, x0⟩ δ) = ((i < δ.length ∧ a x0 δ (fun r δ1 => i < δ1.length ∧ asgK i n0 r δ1))) := rfl
theorem y_9 : (dAsgG a g ⟨n0, b0, c0, r0, x0⟩ δ) = (a x0 δ (fun r δ1 => frzD r δ1 (fun d δ2 => g d δ2 n0))) := rfl
theorem y_10 : (dAug i a fi ⟨n0, b0, c0, r0, x0⟩ δ) = ((isVI δ[i]? ∧ a x0 δ (fun r δ1 => (δ1[i]? = δ[i]?) ∧ augI fi i n0 δ1 δ[i]? (dat δ1 r)))) := rfl
theorem y_11 : (dSetI i a b ⟨n0, b0, c0, r0, x0⟩ δ) = (a x0 δ (fun r δ1 => frzD r δ1 (fun d δ2 => isLs δ2[i]? ∧ b x0 δ2 (fun r2 δ3 => setK i d n0 δ3 (dat δ3 r2))))) := rfl
theorem y_12 : (dAugS i a b fi ⟨n0, b0, c0, r0, x0⟩ δ) = ((isLs δ[i]? ∧ a x0 δ (fun r δ1 => isI (dat δ1 r) (fun z => lisK δ1 i (fun xs _ => ∃ old, atI xs z = some (.int old) ∧ b x0 δ1 (fun r2 δ2 => augSK fi i n0 δ2 z old (dat δ2 r2))) δ1[i]?)))) := rfl
theorem y_13 : (dFor di g db ⟨n0, b0, c0, r0, x0⟩ δ) = (di x0 δ (fun items δ1 => forK items g db ⟨n0, b0, c0, r0, x0⟩ δ1)) := rfl
theorem y_14 : (dStF K i f a ⟨n0, b0, c0, r0, x0⟩ δ) = (a x0 δ (fun r δ1 => frzD r δ1 (fun d δ2 => objK K f d i n0 δ2 δ2[i]?))) := rfl
theorem y_15 : (dRaise C fs0 da ⟨n0, b0, c0, r0, x0⟩ δ) = (da x0 δ (fun rs δ1 => frzs rs δ1 (fun ds δ2 => ds.length = fs0.length ∧ x0 C (some (fs0.zip ds)) δ2))) := rfl
theorem y_16 : (dWhile tb db ⟨n0, b0, c0, r0, x0⟩ δ) = (∃ Inv : Nat → List Sl → Prop, (∃ m, Inv m δ) ∧ ∀ m δ, Inv m δ → tb x0 δ (fun b δ1 => whK db Inv m ⟨n0, b0, c0, r0, x0⟩ b δ1)) := rfl
end
/-! ### case by case -/
def op1M (o : DOp1) (δ : List Sl) (Q : DQ) : Option DL.D → Prop
  | some d => o d fun u => Q u δ
  | none => False
def op2M (o : DOp2) (δ : List Sl) (Q : DQ) : Option DL.D → Option DL.D → Prop
  | some d, some e => o d e fun u => Q u δ
  | _, _ => False
def consM : Option DL.D → Option (List DL.D) → Option (List DL.D)
  | some d, some ds => some (d :: ds)
  | _, _ => none
def cbM (o : List DL.D → (Rk → Prop) → Prop) (δ : List Sl) (Q : DQ) : Option (List DL.D) → Prop
  | some ds => o ds fun u => Q u δ
  | none => False
def frzB (i : Nat) (δ : List Sl) (N : DL.D → List Sl → Prop) : Option Sl → Prop
  | some (.own ds) => N (.lst ds) (δ.set i (.val (.lst ds)))
  | some (.val d) => N d δ
  | some (.otup p ds q) => N (.tup (p ++ .lst ds :: q)) (δ.set i (.val (.tup (p ++ .lst ds :: q))))
  | some (.tre t) => N t.d (δ.set i (.val t.d))
  | _ => False
def slM (lo hi : Option Int) (δ : List Sl) (Q : DQ) : Option DL.D → Prop
  | some d => dSlK d lo hi fun u => Q u δ
  | none => False
def ownL (R : List DL.D → Prop) : Option DL.D → Prop
  | some (.tup ds) => R ds
  | _ => False
def lenL (R : DL.D → Prop) : Option DL.D → Prop
  | some (.tup ds) => ds.length ≤ 1000000 ∧ R (.int ds.length)
  | _ => False
section
variable {o1 : DOp1} {o2 : DOp2} {r r2 : Rk} {rs : List Rk} {e : DL.D} {ds es : List DL.D} {fs : List (Str × DL.D)} {C C2 p q : Addr} {v : V} {QB : Bool → Prop} {n m l : Int} {t0 : String} {c : Bool} {bb : Bool} {x y x0 x1 : Str} {ns : List Int} {j : Nat} {is : List Nat} {δ2 : List Sl} {R : Rk → Prop} {RI : Int → Prop} {RL : List DL.D → Prop} {N0 : DL.D → Prop} {Ns : List DL.D → List Sl → Prop} {pp : Prop} {fi : Int → Int → Int} {pc : Int → Int → Bool}
  {oc : List DL.D → (Rk → Prop) → Prop} {gs : List DL.D → List Sl → (List Sl → Prop) → Prop} {dg : DTG} {lo hi : Option Int} {kk : List DL.D → (List DL.D → List Sl) → Prop} {dm : DSm} {XX : Addr → Option (List (Str × DL.D)) → List Sl → Prop}
theorem z_0 : (varK i δ Q (some (.val d))) = (Q (.val d) δ) := rfl
theorem z_1 : (varK i δ Q (some (.raw v))) = (Q (.raw v) δ) := rfl
theorem z_2 : (varK i δ Q (some (.own ds))) = (Q (.bor i) δ) := rfl
theorem z_3 : (varK i δ Q (some (.par ds))) = (Q (.bor i) δ) := rfl
theorem z_4 : (varK i δ Q (some (.obj C fs))) = (Q (.bor i) δ) := rfl
theorem z_5 : (varK i δ Q (some (.exc p q C fs))) = (Q (.raw (.ref p)) δ) := rfl
theorem z_6 : (varK i δ Q (some (.exc0 p C))) = (Q (.raw (.ref p)) δ) := rfl
theorem z_7 : (op1K o1 r δ Q) = (op1M o1 δ Q (dat δ r)) := rfl
theorem z_8 : (op1M o1 δ Q (some d)) = (o1 d (fun u => Q u δ)) := rfl
theorem z_9 : (op2K o2 r r2 δ Q) = (op2M o2 δ Q (dat δ r) (dat δ r2)) := rfl
theorem z_10 : (op2M o2 δ Q (some d) (some e)) = (o2 d e (fun u => Q u δ)) := rfl
theorem z_11 : (dat δ (.val d)) = (some d) := rfl
theorem z_12 : (dat δ (.own ds)) = (some (.lst ds)) := rfl
theorem z_13 : (dat δ (.bor i)) = ((δ[i]?).bind sdat) := rfl
theorem z_14 : (sdat (.val d)) = (some d) := rfl
theorem z_15 : (sdat (.own ds)) = (some (.lst ds)) := rfl
theorem z_16 : (sdat (.par ds)) = (some (.lst ds)) := rfl
theorem z_17 : (sdat (.obj C fs)) = (some (.ins C fs)) := rfl
theorem z_18 : (isB (some (.bl bb)) QB) = (QB bb) := rfl
theorem z_19 : (truD (some (.bl bb)) QB) = (QB bb) := rfl
theorem z_20 : (truD (some (.int n)) QB) = (QB (n != 0)) := rfl
theorem z_21 : (truD (some .non) QB) = (QB false) := rfl
theorem z_22 : (truD (some (.lst ds)) QB) = (QB (!ds.isEmpty)) := rfl
theorem z_23 : (truD (some (.tup ds)) QB) = (QB (!ds.isEmpty)) := rfl
theorem z_24 : (dats δ []) = (some []) := rfl
theorem z_25 : (dats δ (r :: rs)) = (consM (dat δ r) (dats δ rs)) := rfl
theorem z_26 : (consM (some d) (some ds)) = (some (d :: ds)) := rfl
theorem z_27 : (cbK oc rs δ Q) = (cbM oc δ Q (dats δ rs)) := rfl
theorem z_28 : (cbM oc δ Q (some ds)) = (oc ds (fun u => Q u δ)) := rfl
theorem z_29 : (frzD (.val d) δ N) = (N d δ) := rfl
theorem z_30 : (frzD (.own ds) δ N) = (N (.lst ds) δ) := rfl
theorem z_31 : (frzD (.bor i) δ N) = (frzB i δ N δ[i]?) := rfl
theorem z_32 : (frzB i δ N (some (.own ds))) = (N (.lst ds) (δ.set i (.val (.lst ds)))) := rfl
theorem o_0 {xs zs : List DL.D} : (varK i δ Q (some (.otup xs ds zs))) = (Q (.bor i) δ) := rfl
theorem o_1 {xs zs : List DL.D} : (frzD (.otup xs ds zs) δ N) = (N (.tup (xs ++ .lst ds :: zs)) δ) := rfl
theorem o_2 {xs zs : List DL.D} : (frzB i δ N (some (.otup xs ds zs))) = (N (.tup (xs ++ .lst ds :: zs)) (δ.set i (.val (.tup (xs ++ .lst ds :: zs))))) := rfl
theorem o_3 {xs zs : List DL.D} : (retK Q (.otup xs ds zs) δ) = (Q (.otup xs ds zs) δ) := rfl
theorem o_4 {xs zs : List DL.D} : (retB i Q δ (some (.otup xs ds zs))) = (Q (.otup xs ds zs) (δ.set i .dead)) := rfl
theorem o_5 {xs zs : List DL.D} : (asgK i M (.otup xs ds zs) δ) = (M (δ.set i (.otup xs ds zs))) := rfl
theorem q_0 {tr : Tr} : (varK i δ Q (some (.tre tr))) = (Q (.bor i) δ) := rfl
theorem q_1 {tr : Tr} : (frzD (.tre tr) δ N) = (N tr.d δ) := rfl
theorem q_2 {tr : Tr} : (frzB i δ N (some (.tre tr))) = (N tr.d (δ.set i (.val tr.d))) := rfl
theorem q_3 {tr : Tr} : (retK Q (.tre tr) δ) = (Q (.tre tr) δ) := rfl
theorem q_4 {tr : Tr} : (retB i Q δ (some (.tre tr))) = (Q (.tre tr) (δ.set i .dead)) := rfl
theorem q_5 {tr : Tr} : (asgK i M (.tre tr) δ) = (M (δ.set i (.tre tr))) := rfl
theorem q_32 : (frzB i δ N (some (.val d))) = (N d δ) := rfl
theorem q_33 : (retB i Q δ (some (.val d))) = (Q (.val d) δ) := rfl
theorem q_34 : (asgB i j M δ (some (.val d))) = (M (δ.set i (.val d))) := rfl
theorem z_33 : (frzs [] δ Ns) = (Ns [] δ) := rfl
theorem z_34 : (frzs (r :: rs) δ Ns) = (frzD r δ (fun d δ1 => frzs rs δ1 (fun ds δ2 => Ns (d :: ds) δ2))) := rfl
theorem z_35 : (retK Q (.val d) δ) = (Q (.val d) δ) := rfl
theorem z_36 : (retK Q (.own ds) δ) = (Q (.own ds) δ) := rfl
theorem z_37 : (retK Q (.raw v) δ) = (Q (.raw v) δ) := rfl
theorem z_38 : (retK Q (.bor i) δ) = (retB i Q δ δ[i]?) := rfl
theorem z_39 : (retB i Q δ (some (.own ds))) = (Q (.own ds) (δ.set i .dead)) := rfl
theorem z_40 : (asgK i M (.val d) δ) = (M (δ.set i (.val d))) := rfl
theorem z_41 : (asgK i M (.own ds) δ) = (M (δ.set i (.own ds))) := rfl
theorem z_42 : (asgK i M (.raw v) δ) = (M (δ.set i (.raw v))) := rfl
theorem z_43 : (asgK i M (.bor j) δ) = (asgB i j M δ δ[j]?) := rfl
theorem z_44 : (asgB i j M δ (some (.own ds))) = (M ((δ.set j (.val (.lst ds))).set i (.val (.lst ds)))) := rfl
theorem z_45 : (augI fi i M δ (some (.val (.int n))) (some (.int m))) = (M (δ.set i (.val (.int (fi n m))))) := rfl
theorem z_46 : (isVI (some (.val (.int n)))) = (True) := rfl
theorem z_47 : (dgTup i gs (.tup ds) δ M) = ((ds.length = i ∧ gs ds δ M)) := rfl
theorem z_48 : (dgCons dg gs (d :: ds) δ M) = (dg d δ (fun δ1 => gs ds δ1 M)) := rfl
theorem z_49 : (dgNil [] δ M) = (M δ) := rfl
theorem z_50 : (dgName i d δ M) = ((i < δ.length ∧ M (δ.set i (.val d)))) := rfl
theorem z_51 : (dAdd (.int n) (.int m) R) = (R (.val (.int (n + m)))) := rfl
theorem z_52 : (dAdd (.int n) (.bl bb) R) = (R (.val (.int (n + PyProof.Rows.b2i bb)))) := rfl
theorem z_53 : (dAdd (.str x) (.str y) R) = ((x.length + y.length ≤ 1000000 ∧ R (.val (.str (x ++ y))))) := rfl
theorem z_54 : (dAdd (.lst ds) (.lst es) R) = ((ds.length + es.length ≤ 100000 ∧ R (.own (ds ++ es)))) := rfl
theorem z_55 : (dAdd (.tup ds) (.tup es) R) = ((ds.length + es.length ≤ 100000 ∧ R (.val (.tup (ds ++ es))))) := rfl
theorem z_56 : (dSub (.int n) (.int m) R) = (R (.val (.int (n - m)))) := rfl
theorem z_57 : (dMul (.int n) (.int m) R) = (((-18446744073709551616 < n ∧ n < 18446744073709551616 ∨ -18446744073709551616 < m ∧ m < 18446744073709551616) ∧ R (.val (.int (n * m))))) := rfl
theorem z_58 : (dMul (.lst ds) (.int m) R) = (((-1000000 ≤ m ∧ m ≤ 100000 ∧ ds.length * m.toNat ≤ 100000) ∧ R (.own (List.replicate m.toNat ds).flatten))) := rfl
theorem z_59 : (dMul (.str x) (.int m) R) = (((-1000000 ≤ m ∧ m ≤ 10000 ∧ x.length ≤ 1000) ∧ R (.val (.str (Txt.mul x m))))) := rfl
theorem z_60 : (dDiv (.int n) (.int m) R) = (((0 < m ∧ m.natAbs.log2 < 9000) ∧ R (.val (.int (n / m))))) := rfl
theorem z_61 : (dMod (.int n) (.int m) R) = ((0 < m ∧ R (.val (.int (n % m))))) := rfl
theorem z_62 : (dPow (.int n) (.int m) R) = (((0 ≤ m ∧ m ≤ 1000000 ∧ n.natAbs < 18446744073709551616) ∧ R (.val (.int (n ^ m.toNat))))) := rfl
theorem z_63 : (dNeg (.int n) R) = (R (.val (.int (-n)))) := rfl
theorem z_64 : (dCmp pc (.int n) (.int m) R) = (R (.val (.bl (pc n m)))) := rfl
theorem z_65 : (dEq (.int n) (.int m) R) = (R (.val (.bl (decide (n = m))))) := rfl
theorem z_66 : (dEq (.str x) (.str y) R) = (R (.val (.bl (decide (x = y))))) := rfl
theorem z_67 : (dEq (.bl bb) (.bl c) R) = (R (.val (.bl (decide (bb = c))))) := rfl
theorem z_68 : (dEq (.int n) (.str x) R) = (R (.val (.bl false))) := rfl
theorem z_69 : (dEq (.str x) (.int n) R) = (R (.val (.bl false))) := rfl
theorem z_70 : (dEq .non .non R) = (R (.val (.bl true))) := rfl
theorem z_71 : (dEq .non (.int n) R) = (R (.val (.bl false))) := rfl
theorem z_72 : (dEq (.int n) .non R) = (R (.val (.bl false))) := rfl
theorem z_73 : (dEq .non (.str x) R) = (R (.val (.bl false))) := rfl
theorem z_74 : (dEq (.str x) .non R) = (R (.val (.bl false))) := rfl
theorem z_75 : (dEq (.lst ds) (.lst es) R) = (((pls 8 ds ∧ pls 8 es) ∧ R (.val (.bl (eqD (.lst ds) (.lst es)))))) := rfl
theorem z_76 : (dEq (.tup ds) (.tup es) R) = (((pls 8 ds ∧ pls 8 es) ∧ R (.val (.bl (eqD (.tup ds) (.tup es)))))) := rfl
theorem z_77 : (dEq (.lst ds) (.tup es) R) = (((pls 8 ds ∧ pls 8 es) ∧ R (.val (.bl false)))) := rfl
theorem z_78 : (dEq (.tup ds) (.lst es) R) = (((pls 8 ds ∧ pls 8 es) ∧ R (.val (.bl false)))) := rfl
theorem z_79 : (dNe d e R) = (dEq d e (nB R)) := rfl
theorem z_80 : (nB R (.val (.bl bb))) = (R (.val (.bl (!bb)))) := rfl
theorem z_81 : (dIs d .non R) = (R (.val (.bl (isNon d)))) := by cases d <;> rfl
theorem z_82 : (dIs d (.bl bb) R) = (R (.val (.bl (isBl bb d)))) := by cases d <;> rfl
theorem z_83 : (dIsnot d .non R) = (R (.val (.bl (!isNon d)))) := by cases d <;> rfl
theorem z_84 : (dIsnot d (.bl bb) R) = (R (.val (.bl (!isBl bb d)))) := by cases d <;> rfl
theorem z_85 : (isNon (.bl bb)) = (false) := rfl
theorem z_86 : (isNon (.int n)) = (false) := rfl
theorem z_87 : (isNon (.str x)) = (false) := rfl
theorem z_88 : (isNon (.lst ds)) = (false) := rfl
theorem z_89 : (isNon (.tup ds)) = (false) := rfl
theorem z_90 : (isNon (.ins C fs)) = (false) := rfl
theorem z_91 : (isNon .non) = (true) := rfl
theorem z_92 : (isBl bb (.bl c)) = ((c == bb)) := rfl
theorem z_93 : (isBl bb .non) = (false) := rfl
theorem z_94 : (isBl bb (.int n)) = (false) := rfl
theorem z_95 : (isBl bb (.str x)) = (false) := rfl
theorem z_96 : (isBl bb (.lst ds)) = (false) := rfl
theorem z_97 : (isBl bb (.tup ds)) = (false) := rfl
theorem z_98 : (isBl bb (.ins C fs)) = (false) := rfl
theorem z_99 : (dIx (.lst ds) (.int n) R) = (∃ d, atI ds n = some d ∧ R (.val d)) := rfl
theorem z_100 : (dIx (.tup ds) (.int n) R) = (∃ d, atI ds n = some d ∧ R (.val d)) := rfl
theorem z_101 : (dIx (.str x) (.int n) R) = ((x.length ≤ 1000000 ∧ ∃ c, atI x.cps.toList n = some c ∧ R (.val (.str ⟨#[c]⟩)))) := rfl
theorem z_102 : (dIn bb d (.lst ds) R) = ((flatD d ds ∧ R (.val (.bl (if bb = true then !inP d ds else inP d ds))))) := by cases d <;> rfl
theorem z_103 : (dIn bb d (.tup ds) R) = ((flatD d ds ∧ R (.val (.bl (if bb = true then !inP d ds else inP d ds))))) := by cases d <;> rfl
theorem z_104 : (isI (some (.int n)) RI) = (RI n) := rfl
theorem z_105 : (slK' r lo hi δ Q) = (slM lo hi δ Q (dat δ r)) := rfl
theorem z_106 : (slM lo hi δ Q (some d)) = (dSlK d lo hi (fun u => Q u δ)) := rfl
theorem z_107 : (dSlK (.lst ds) lo hi R) = (R (.own (cutD ds lo hi))) := rfl
theorem z_108 : (dSlK (.tup ds) lo hi R) = (R (.val (.tup (cutD ds lo hi)))) := rfl
theorem z_109 : (dSlK (.str x) lo hi R) = ((x.length ≤ 1000000 ∧ R (.val (.str (cutS x lo hi))))) := rfl
theorem z_110 : (oLen [.str x] R) = ((x.length ≤ 1000000 ∧ R (.val (.int x.length)))) := rfl
theorem z_111 : (oLen [.lst ds] R) = (R (.val (.int ds.length))) := rfl
theorem z_112 : (oLen [.tup ds] R) = (R (.val (.int ds.length))) := rfl
theorem z_113 : (oLen [.scr ns] R) = (R (.val (.int ns.length))) := rfl
theorem z_114 : (oInt [.int n] R) = (R (.val (.int n))) := rfl
theorem z_115 : (oInt [.bl bb] R) = (R (.val (.int (if bb = true then 1 else 0)))) := rfl
theorem z_116 : (oAbs [.int n] R) = (R (.val (.int (n.natAbs : Int)))) := rfl
theorem z_117 : (oMax [.int n, .int m] R) = (R (.val (.int (max n m)))) := rfl
theorem z_118 : (oMax [.lst ds] R) = (extK true R (intsOf ds)) := rfl
theorem z_119 : (oMin [.int n, .int m] R) = (R (.val (.int (min n m)))) := rfl
theorem z_120 : (oMin [.lst ds] R) = (extK false R (intsOf ds)) := rfl
theorem z_121 : (oSum [.lst ds] R) = (sumK R (intsOf ds)) := rfl
theorem z_122 : (oSum [.tup ds] R) = (sumK R (intsOf ds)) := rfl
theorem z_123 : (sumK R (some ns)) = (R (.val (.int ns.sum))) := rfl
theorem z_124 : (extK bb R (some ns)) = ((0 < ns.length ∧ ∀ m, m ∈ ns → (∀ y, y ∈ ns → if bb = true then y ≤ m else m ≤ y) → R (.val (.int m)))) := rfl
theorem z_125 : (oList [.lst ds] R) = (R (.own ds)) := rfl
theorem z_126 : (oList [.tup ds] R) = (R (.own ds)) := rfl
theorem z_127 : (oTuple [.lst ds] R) = (R (.val (.tup ds))) := rfl
theorem z_128 : (oTuple [.tup ds] R) = (R (.val (.tup ds))) := rfl
theorem z_129 : (oIsi [d, .ty t0] R) = (((t0 = "int" ∨ t0 = "bool" ∨ t0 = "str" ∨ t0 = "list" ∨ t0 = "tuple") ∧ isiK R (isiT t0 d))) := rfl
theorem z_130 : (isiK R (some bb)) = (R (.val (.bl bb))) := rfl
theorem z_131 : (isiT t0 .non) = (some false) := rfl
theorem z_132 : (isiT t0 (.bl bb)) = (some (t0 == "int" || t0 == "bool")) := rfl
theorem z_133 : (isiT t0 (.int n)) = (some (t0 == "int")) := rfl
theorem z_134 : (isiT t0 (.str x)) = (some (t0 == "str")) := rfl
theorem z_135 : (isiT t0 (.lst ds)) = (some (t0 == "list")) := rfl
theorem z_136 : (isiT t0 (.tup ds)) = (some (t0 == "tuple")) := rfl
theorem z_137 : (isLs (some (.own ds))) = (True) := rfl
theorem z_138 : (isLs (some (.par ds))) = (True) := rfl
theorem z_139 : (lisK δ i kk (some (.own ds))) = (kk ds (fun es => δ.set i (.own es))) := rfl
theorem z_140 : (lisK δ i kk (some (.par ds))) = (kk ds (fun es => δ.set i (.par es))) := rfl
theorem z_141 : (appK Q i [d] δ) = (lisK δ i (fun xs f => xs.length ≤ 100000 ∧ Q (.val .non) (f (xs ++ [d]))) δ[i]?) := rfl
theorem z_142 : (extK' Q i [.lst es] δ) = (lisK δ i (fun xs f => xs.length + es.length ≤ 100000 ∧ Q (.val .non) (f (xs ++ es))) δ[i]?) := rfl
theorem z_143 : (setK i d M δ (some (.int n))) = (lisK δ i (fun xs f => ∃ j, ixN xs.length n = some j ∧ M (f (xs.set j d))) δ[i]?) := rfl
theorem z_144 : (augSK fi i M δ n m (some (.int l))) = (lisK δ i (fun xs g => ∃ j, ixN xs.length n = some j ∧ M (g (xs.set j (.int (fi m l))))) δ[i]?) := rfl
theorem z_145 : (seqK (.lst ds) RL) = (RL ds) := rfl
theorem z_146 : (seqK (.tup ds) RL) = (RL ds) := rfl
theorem z_147 : (rg1K (some [.int n]) RL) = (((-1000000 ≤ n ∧ n ≤ 1000000) ∧ RL (rngD 0 1 n.toNat))) := rfl
theorem z_148 : (rg2K (some [.int n, .int m]) RL) = (((-1000000 ≤ n ∧ n ≤ 1000000 ∧ -1000000 ≤ m ∧ m ≤ 1000000) ∧ RL (rngD n 1 (m - n).toNat))) := rfl
theorem z_149 : (rg3K (some [.int n, .int m, .int l]) RL) = ((l = -1 ∧ (-1000000 ≤ n ∧ n ≤ 1000000 ∧ -1000000 ≤ m ∧ m ≤ 1000000) ∧ RL (rngD n (-1) (n - m).toNat))) := rfl
theorem z_150 : (enK [.lst ds] RL) = (RL (enumD ds)) := rfl
theorem z_151 : (enK [.tup ds] RL) = (RL (enumD ds)) := rfl
theorem z_152 : (zpK [.lst ds, .lst es] RL) = (RL (zipD ds es)) := rfl
theorem z_153 : (ownK C x0 (.ins C2 fs) RL) = ((C2 = C ∧ ownL RL (fs.lookup x0))) := by show (C2 = C ∧ ∃ ds, fs.lookup x0 = some (.tup ds) ∧ RL ds) = _; generalize fs.lookup x0 = oo; cases oo with | none => simp [ownL] | some y => cases y <;> simp [ownL]
theorem z_154 : (ownL RL (some (.tup ds))) = (RL ds) := rfl
theorem z_155 : (enOK C x0 [d] RL) = (ownK C x0 d (fun items => RL (enumD items))) := rfl
theorem z_156 : (fldK' x0 N0 (some (.ins C fs))) = (lookK N0 (fs.lookup x0)) := rfl
theorem z_157 : (lookK N0 (some d)) = (N0 d) := rfl
theorem z_158 : (objK K x0 d i M δ (some (.obj C fs))) = (((FldOk K C x0 ∧ fs.length < 900) ∧ M (δ.set i (.obj C (putD x0 d fs))))) := rfl
theorem z_159 : (cmK dm (.own es :: rs) XX δ Q) = (frzs rs δ (fun ds δ2 => dm es ds (fun r _ => isBor r ∧ Q r δ2) (fun C g _ => XX C g δ2))) := rfl
theorem z_160 : (cmK dm (.bor i :: rs) XX δ Q) = (frzs rs δ (fun ds δ2 => lisK δ2 i (fun es f => dm es ds (fun r es' => isBor r ∧ Q r (f es')) (fun C g es' => XX C g (f es'))) δ2[i]?)) := rfl
theorem z_161 : (insC C pp (some (.ins C2 fs))) = ((C2 = C ∧ pp)) := rfl
theorem z_162 : (insM C x0 pp (some (.ins C2 fs))) = (((C2 = C ∧ fs.lookup x0 = none) ∧ pp)) := rfl
theorem z_163 : (lenK C x0 N0 [.ins C2 fs]) = ((C2 = C ∧ lenL N0 (fs.lookup x0))) := by show (C2 = C ∧ ∃ xs, fs.lookup x0 = some (.tup xs) ∧ xs.length ≤ 1000000 ∧ N0 (.int xs.length)) = _; generalize fs.lookup x0 = oo; cases oo with | none => simp [lenL] | some y => cases y <;> simp [lenL]
theorem z_164 : (lenL N0 (some (.tup ds))) = ((ds.length ≤ 1000000 ∧ N0 (.int ds.length))) := rfl
theorem z_165 : (isBor (.val d)) = (True) := rfl
theorem z_166 : (isBor (.own ds)) = (True) := rfl
theorem z_167 : (isBor (.raw v)) = (True) := rfl
theorem z_168 : (parK RL (.par ds :: δ)) = (RL ds) := rfl
theorem z_169 : (selfK C R (.obj C2 fs :: δ)) = ((C2 = C ∧ R (.val (.ins C fs)))) := rfl
theorem z_170 : (wip δ []) = (δ) := rfl
theorem z_171 : (wip δ (i :: is)) = ((wip δ is).set i .dead) := rfl
theorem z_172 : (unw δ [] δ2) = (δ2) := rfl
theorem z_173 : (unw δ (i :: is) δ2) = ((unw δ is δ2).set i (δ.getD i .dead)) := rfl
theorem z_174 : (putD x0 d []) = ([(x0, d)]) := rfl
theorem z_175 : (putD x0 d ((x1, e) :: fs)) = (if x1 = x0 then (x1, d) :: fs else (x1, e) :: putD x0 d fs) := rfl
theorem z_176 : (dIx (.scr ns) (.int n) R) = ((0 ≤ n ∧ n < ns.length) ∧ R (.val (.int (ns.getD n.toNat 0)))) := rfl
end
end
end DL
namespace DL
open PySem L2
/-- the script: known as it stands -/
theorem atI_scrI {ns : List Int} {i : Int} (h0 : 0 ≤ i) (h1 : i < ns.length) : atI (ns.map V.int) i = some (.int (ns.getD i.toNat 0)) := atI_int h0 h1
/-- the pool: three numbers -/
def poolD (a b c : Int) : List D := [.int a, .int b, .int c]
def PO (es : List D) : Prop := ∃ a b c : Int, es = poolD a b c ∧ 0 ≤ b ∧ b < 2147483648
def dsPool : DSp := fun ds Q _ => ∃ ns i, ds = [.scr ns, .int i] ∧ 0 ≤ i ∧ ∀ p, PO p → Q (.own p)
def dsDraw : DSm := fun es ds Q _ => ∃ m : Int, ds = [.int m] ∧ PO es ∧ 0 < m ∧ m ≤ 1000000000000000000000000000000000000000000000000000000000000 ∧ ∀ v p, 0 ≤ v → v < m → PO p → Q (.val (.int v)) p
theorem log2_le {m : Int} (h0 : 0 < m) (h : m ≤ 1000000000000000000000000000000000000000000000000000000000000) : m.natAbs.log2 < 9000 := by
  refine log2_lt (n := 200) h0 ?_ (by decide) (by decide)
  have : (1000000000000000000000000000000000000000000000000000000000000 : Int).toNat < 2 ^ 200 := by decide
  omega
end DL
/-! What the defs promise, over data. -/
namespace DL
open PySem L2 Hse
theorem li_rng {lo : Int} {n : Nat} : rngD lo 1 n = li ((List.range n).map fun i => lo + ((i : Nat) : Int)) := by
  simp [rngD, li, Function.comp_def]
theorem li_mem {ns : List Int} {i : Nat} (h : i < ns.length) : ns.getD i 0 ∈ ns := by rw [List.getD_eq_getElem?_getD, List.getElem?_eq_getElem h]; exact List.getElem_mem h
theorem enum_li {ns : List Int} {i : Nat} {d : D} (h : (enumD (li ns))[i]? = some d) : i < ns.length ∧ d = .tup [.int (i : Nat), .int (ns.getD i 0)] := by
  obtain ⟨e, h1, rfl⟩ := enum_at h
  obtain ⟨h2, rfl⟩ := li_at h1
  exact ⟨h2, rfl⟩
theorem rng_li {lo : Int} {n i : Nat} {d : D} (h : (rngD lo 1 n)[i]? = some d) : i < n ∧ d = .int (lo + (i : Nat)) := by
  obtain ⟨h1, rfl⟩ := rng_at h
  exact ⟨h1, by rw [Int.mul_one]⟩
theorem li_rep (n : Nat) (i : Int) : (List.replicate n [D.int i]).flatten = li (List.replicate n i) := by
  induction n with
  | zero => rfl
  | succ n ih => rw [List.replicate_succ, List.flatten_cons, ih]; rfl
theorem rep1 (n : Nat) (d : D) : (List.replicate n [d]).flatten = List.replicate n d := by
  induction n with
  | zero => rfl
  | succ n ih => rw [List.replicate_succ, List.flatten_cons, ih]; rfl
/-! ### the law's draws -/
def bnd (lo hi : Int) (ns : List Int) : Prop := ∀ n ∈ ns, lo ≤ n ∧ n ≤ hi
theorem bnd_nil {lo hi : Int} : bnd lo hi [] := fun _ h => nomatch h
theorem bnd_snoc {lo hi i : Int} {ns : List Int} (h : bnd lo hi ns) (h1 : lo ≤ i) (h2 : i ≤ hi) : bnd lo hi (ns ++ [i]) := fun n hn => by
  rcases List.mem_append.mp hn with hn | hn
  · exact h n hn
  · rw [List.mem_singleton.mp hn]; exact ⟨h1, h2⟩
theorem bnd_at {lo hi : Int} {ns : List Int} {i : Nat} (h : bnd lo hi ns) (hi' : i < ns.length) : lo ≤ ns.getD i 0 ∧ ns.getD i 0 ≤ hi := h _ (li_mem hi')
def dsComings : DSm := fun es ds Q _ => ∃ (n : Nat) (m : Int), ds = [.int n, .int m] ∧ PO es ∧ n ≤ 1000 ∧ 0 ≤ m ∧ m ≤ 1000 ∧ ∀ p cs, PO p → cs.length = n → bnd 1 (m + 1) cs → Q (.own (li cs)) p
def dsWantsL : DSm := fun es ds Q _ => ∃ (n : Nat) (m : Int), ds = [.int n, .int m] ∧ PO es ∧ n ≤ 1000 ∧ 0 ≤ m ∧ m ≤ 1000 ∧ ∀ p ns, PO p → ns.length = n → bnd 0 m ns → Q (.own (li ns)) p
def dsSize : DSm := fun es ds Q _ => ∃ m : Int, ds = [.int m] ∧ PO es ∧ 0 < m ∧ m ≤ 1000 ∧ ∀ p (v : Nat), PO p → (v : Int) ≤ m → Q (.val (.int v)) p
/-- the same data -/
noncomputable def eqX (d e : D) : Bool := @decide (d = e) (Classical.propDecidable _)
theorem eqX_t {d e : D} : eqX d e = true ↔ d = e := by simp [eqX]
theorem eqX_self {d : D} : eqX d d = true := eqX_t.mpr rfl
mutual
/-- plain, at most n deep, short -/
def ps : Nat → D → Prop
  | _, .non => True
  | _, .bl _ => True
  | _, .int _ => True
  | _, .str _ => True
  | n + 1, .lst xs => xs.length ≤ 100000 ∧ pss n xs
  | n + 1, .tup xs => xs.length ≤ 100000 ∧ pss n xs
  | 0, .lst _ => False
  | 0, .tup _ => False
  | _, .ins _ _ => False
  | _, .scr _ => False
  | _, .ty _ => False
def pss : Nat → List D → Prop
  | _, [] => True
  | n, x :: xs => ps n x ∧ pss n xs
end
theorem pss_all {n : Nat} : ∀ {xs : List D}, pss n xs ↔ ∀ x ∈ xs, ps n x
  | [] => by simp [pss]
  | x :: xs => by simp [pss, pss_all (xs := xs)]
theorem pss_li {n : Nat} (ns : List Int) : pss n (li ns) := pss_all.mpr fun x hx => by
  obtain ⟨i, _, rfl⟩ := List.mem_map.mp hx
  cases n <;> simp [ps]
def isIntD : D → Bool
  | .int _ => true
  | _ => false
def dsInt : DSp := fun ds Q _ => ∃ d n, ds = [d] ∧ ps n d ∧ Q (.val (.bl (isIntD d)))
/-- got and due; n: how deep due is -/
noncomputable def dsSame : Nat → DSp
  | 0 => fun _ _ _ => False
  | n + 1 => fun ds Q _ => ∃ x y, ds = [x, y] ∧ ps (n + 9) x ∧ ps n y ∧ Q (.val (.bl (eqX x y)))
end DL
namespace DL
open PySem L2 Hse
/-- the law's own first choice -/
def dsFirstL : DSp := fun ds Q _ => ∃ (ns cs ps : List Int) (r : Nat), ds = [.lst (li ns), .lst (li cs), .int r, .lst (li ps)] ∧ ns.length ≤ 1000 ∧ ps.length ≤ 1000 ∧ r ≤ 1000 ∧ (∀ p ∈ ps, 0 ≤ p ∧ p < cs.length) ∧ Q (.own (li (gr ns (ps.map fun p => cs.getD p.toNat 0) r ns.length)))
def dsShuf : DSm := fun es ds Q _ => ∃ ns : List Int, ds = [.lst (li ns)] ∧ PO es ∧ ns.length ≤ 1000 ∧ ∀ p ms, PO p → List.Perm ms ns → Q (.own (li ms)) p
theorem gr_snoc (ns cs : List Int) (r i : Nat) : gr ns cs r (i + 1) = gr ns cs r i ++ [min (ns.getD i 0) (hereN cs ((i : Nat) + 1) - win (gr ns cs r i) (i - r) i)] := rfl
theorem here_filter (cs : List Int) (e : Int) (ps : List Int) : ((List.range ps.length).filter fun i => decide (cs.getD (ps.getD i 0).toNat 0 ≤ e)).length = hereN (ps.map fun p => cs.getD p.toNat 0) e := by
  unfold hereN
  rw [List.countP_map]
  induction ps with
  | nil => rfl
  | cons p ps ih =>
    rw [List.length_cons, List.range_succ_eq_map, List.filter_cons, List.countP_cons, ← ih, List.filter_map, Function.comp_def]
    simp only [List.getD_cons_zero, List.getD_cons_succ, Function.comp_def]
    split <;> simp_all
theorem eqX_int {i j : Int} : eqX (.int i) (.int j) = decide (i = j) := by
  unfold eqX; rw [Bool.eq_iff_iff]; simp
theorem eqX_str {i j : Str} : eqX (.str i) (.str j) = decide (i = j) := by
  unfold eqX; rw [Bool.eq_iff_iff]; simp
theorem eqX_f {d e : D} (h : d ≠ e) : eqX d e = false := @decide_eq_false _ (Classical.propDecidable _) h
theorem eqX_bl {i j : Bool} : eqX (.bl i) (.bl j) = (i == j) := by
  unfold eqX; rw [Bool.eq_iff_iff]; simp
theorem isNon_eqX {x : D} : DL.isNon x = eqX x .non := by cases x <;> simp [DL.isNon, eqX]
theorem isBl_eqX {x : D} {b : Bool} : DL.isBl b x = eqX x (.bl b) := by
  cases x with
  | bl c => rw [eqX_bl]; rfl
  | _ => simp [DL.isBl, eqX]
theorem eq_of_all {xs ys : List D} (hl : xs.length = ys.length) (h : ∀ i < ys.length, eqX (xs.getD i .non) (ys.getD i .non) = true) : xs = ys := by
  apply List.ext_getElem hl
  intro i h1 h2
  have := eqX_t.mp (h i h2)
  simpa [h1, h2] using this
theorem atI_D {xs : List D} {i : Nat} (h : i < xs.length) : atI xs (i : Int) = some (xs.getD i .non) := by
  refine (atI_nat (List.getElem?_eq_getElem h)).trans ?_
  rw [List.getD_eq_getElem?_getD, List.getElem?_eq_getElem h]; rfl
theorem pss_at {n : Nat} {xs : List D} {i : Nat} (h : pss n xs) (hi : i < xs.length) : ps n (xs.getD i .non) := by
  rw [List.getD_eq_getElem?_getD, List.getElem?_eq_getElem hi]
  exact pss_all.mp h _ (List.getElem_mem hi)
theorem isi_list {n : Nat} {x : D} (h : ps n x) : ∃ b, isiT "list" x = some b ∧ (b = true → ∃ xs, x = .lst xs) ∧ (b = false → ∀ xs, x ≠ .lst xs) := by
  cases x <;> first
    | exact ⟨true, rfl, fun _ => ⟨_, rfl⟩, fun z => by cases z⟩
    | exact ⟨false, rfl, (fun z => by cases z), fun _ xs z => by cases z⟩
    | (cases n <;> exact h.elim)
theorem isi_tuple' {n : Nat} {x : D} (h : ps n x) : ∃ b, isiT "tuple" x = some b ∧ (b = true → ∃ xs, x = .tup xs) ∧ (b = false → ∀ xs, x ≠ .tup xs) := by
  cases x <;> first
    | exact ⟨true, rfl, fun _ => ⟨_, rfl⟩, fun z => by cases z⟩
    | exact ⟨false, rfl, (fun z => by cases z), fun _ xs z => by cases z⟩
    | (cases n <;> exact h.elim)
theorem isi_str' {n : Nat} {x : D} (h : ps n x) : ∃ b, isiT "str" x = some b ∧ (b = true → ∃ xs, x = .str xs) ∧ (b = false → ∀ xs, x ≠ .str xs) := by
  cases x <;> first
    | exact ⟨true, rfl, fun _ => ⟨_, rfl⟩, fun z => by cases z⟩
    | exact ⟨false, rfl, (fun z => by cases z), fun _ xs z => by cases z⟩
    | (cases n <;> exact h.elim)
theorem isIntD_t {x : D} (h : isIntD x = true) : ∃ i, x = .int i := by cases x <;> first | exact ⟨_, rfl⟩ | cases h
theorem ps_mono : ∀ {n m : Nat} {d : D}, n ≤ m → ps n d → ps m d := by
  intro n
  induction n with
  | zero => intro m d _ h; cases d <;> first | exact h.elim | (cases m <;> trivial)
  | succ n ih =>
    intro m d hm h
    obtain ⟨m, rfl⟩ : ∃ k, m = k + 1 := ⟨m - 1, by omega⟩
    cases d with
    | lst xs => exact ⟨h.1, pss_all.mpr fun x hx => ih (by omega) (pss_all.mp h.2 x hx)⟩
    | tup xs => exact ⟨h.1, pss_all.mpr fun x hx => ih (by omega) (pss_all.mp h.2 x hx)⟩
    | ins => exact h.elim
    | scr => exact h.elim
    | ty => exact h.elim
    | _ => trivial
end DL
/-! try over data. -/
namespace DL
open PySem L2
section
variable {K : PySem.W.Frag} {pa : Addr} {F F' H H' : Hp} {L Lf : List (Addr × HO)} {σ σ' : St} {δ δ' : List Sl} {Wx : WX} {X : DX} {D : Ends} {D' : DEnds}
/-- does a clause for cN take an error of the class at C -/
def ExM (K : PySem.W.Frag) (C cN : Addr) (b : Bool) : Prop := PySem.W.exmOne K (.ref C) (.ref cN) = some b
abbrev DHd := Addr × Option Nat × (Addr → Addr → Addr → DTS) × (Addr → Addr → DTS)
def endI (i : Nat) (N : List Sl → Prop) : List Sl → Prop := fun δ => i < δ.length ∧ N (δ.set i .dead)
/-- what the clauses make of an error -/
def hsK (K : PySem.W.Frag) (D : DEnds) : List DHd → DX
  | [] => D.ex
  | (cN, none, s1, s0) :: r => fun C g δ => ∃ b, ExM K C cN b ∧ (b = true → ∀ a, match g with | some _ => ∀ d, s1 a C d D δ | none => s0 a C D δ) ∧ (b = false → hsK K D r C g δ)
  | (cN, some i, s1, s0) :: r => fun C g δ => ∃ b, ExM K C cN b ∧ (b = true → i < δ.length ∧ ∀ a, match g with
      | some fs => ∀ d, s1 a C d ⟨endI i D.nx, endI i D.bk, endI i D.ct, D.rt, D.ex⟩ (δ.set i (.exc a d C fs))
      | none => s0 a C ⟨endI i D.nx, endI i D.bk, endI i D.ct, D.rt, D.ex⟩ (δ.set i (.exc0 a C))) ∧ (b = false → hsK K D r C g δ)
inductive DHs (K : PySem.W.Frag) (pa : Addr) (Wx : WX) : List Hd → List DHd → Prop
  | nil : DHs K pa Wx [] []
  | bare {cN : Addr} {ts : Addr → Value → Option Addr → TS} {s1 : Addr → Addr → Addr → DTS} {s0 : Addr → Addr → DTS} {l : List Hd} {dl : List DHd} (h1 : ∀ a C d, DS K pa Wx (ts a (.ref C) (some d)) (s1 a C d)) (h0 : ∀ a C, DS K pa Wx (ts a (.ref C) none) (s0 a C)) (r : DHs K pa Wx l dl) :
      DHs K pa Wx ((.ref cN, none, ts) :: l) ((cN, none, s1, s0) :: dl)
  | as_ {cN : Addr} {i : Nat} {ts : Addr → Value → Option Addr → TS} {s1 : Addr → Addr → Addr → DTS} {s0 : Addr → Addr → DTS} {l : List Hd} {dl : List DHd} (h1 : ∀ a C d, DS K pa Wx (ts a (.ref C) (some d)) (s1 a C d)) (h0 : ∀ a C, DS K pa Wx (ts a (.ref C) none) (s0 a C)) (r : DHs K pa Wx l dl) :
      DHs K pa Wx ((.ref cN, some i, ts) :: l) ((cN, some i, s1, s0) :: dl)
def noS : Addr → Addr → DTS := fun _ _ _ _ => False
def dTry (K : PySem.W.Frag) (body : DTS) (hs : List DHd) : DTS := fun D δ => body { D with ex := hsK K D hs } δ
theorem endI_ok {i : Nat} {N : List Sl → Prop} {M : St → Hp → Prop} {F0 : Hp} (k : ∀ F' H' σ δ, Same F0 F' → Env K pa F' H' σ δ Lf → N δ → M σ H') : ∀ F' H' σ δ, Same F0 F' → Env K pa F' H' σ δ Lf → endI i N δ → M (σ.set i none) H' :=
  fun F' H' σ δ s E q => k F' H' _ _ s (E.put (L1 := []) q.1 (.dead _ .nil)) q.2
theorem hs_ok {l : List Hd} {dl : List DHd} (h : DHs K pa Wx l dl) (hS : Sim K pa F Lf Wx D D') : XSim K pa F Lf (wHds K Wx D l) (hsK K D' dl) := by
  induction h with
  | nil => exact hS.ex
  | bare h1 h0 r ih =>
    refine ⟨fun F1 H1 σ δ C d vs fs s E e rf q => ?_, fun F1 H1 σ δ C s E q => ?_⟩
    · obtain ⟨b, hb, hy, hn⟩ := q
      refine ⟨b, hb, fun z a _ => ?_, fun z => ih.some_ F1 H1 σ δ C d vs fs s E e rf (hn z)⟩
      exact h1 a C d F1 H1 σ δ Lf D D' E (hS.mono s) (hy z a d)
    · obtain ⟨b, hb, hy, hn⟩ := q
      refine ⟨b, hb, fun z a _ => ?_, fun z => ih.none_ F1 H1 σ δ C s E (hn z)⟩
      exact h0 a C F1 H1 σ δ Lf D D' E (hS.mono s) (hy z a)
  | as_ h1 h0 r ih =>
    rename_i i ts s1 s0 l dl
    have hS' : Sim K pa F Lf Wx { nx := fun σ' H' => D.nx (σ'.set i none) H', rt := D.rt, bk := fun σ' H' => D.bk (σ'.set i none) H', ct := fun σ' H' => D.ct (σ'.set i none) H' } ⟨endI i D'.nx, endI i D'.bk, endI i D'.ct, D'.rt, D'.ex⟩ :=
      ⟨endI_ok hS.nx, endI_ok hS.bk, endI_ok hS.ct, hS.rt, hS.ex⟩
    refine ⟨fun F1 H1 σ δ C d vs fs s E e rf q => ?_, fun F1 H1 σ δ C s E q => ?_⟩
    · obtain ⟨b, hb, hy, hn⟩ := q
      refine ⟨b, hb, fun z a _ => ?_, fun z => ih.some_ F1 H1 σ δ C d vs fs s E e rf (hn z)⟩
      obtain ⟨hi, q⟩ := hy z
      exact h1 a C d F1 H1 _ _ Lf _ _ (E.put (L1 := []) hi (.exc e rf .nil)) (hS'.mono s) (q a d)
    · obtain ⟨b, hb, hy, hn⟩ := q
      refine ⟨b, hb, fun z a _ => ?_, fun z => ih.none_ F1 H1 σ δ C s E (hn z)⟩
      obtain ⟨hi, q⟩ := hy z
      exact h0 a C F1 H1 _ _ Lf _ _ (E.put (L1 := []) hi (.exc0 .nil)) (hS'.mono s) (q a)
theorem DS.try_ {tb : WX → TS} {body : DTS} {l : List Hd} {dl : List DHd} (hb : ∀ W', DS K pa W' (tb W') body) (hh : DHs K pa Wx l dl) : DS K pa Wx (fun D σ H => tb (wHds K Wx D l) D σ H) (dTry K body dl) := by
  intro F H σ δ Lf D D' hE hS q
  exact hb _ F H σ δ Lf D { D' with ex := hsK K D' dl } hE ⟨hS.nx, hS.bk, hS.ct, hS.rt, hs_ok hh hS⟩ q
/-- a suite that no error without fields comes to -/
theorem DS.noS {ts : TS} {a C : Addr} : DS K pa Wx ts (noS a C) := fun _ _ _ _ _ _ _ _ _ q => q.elim
/-! ### the error at hand -/
def xfK (a d C : Addr) (f : Str) (Q : DL.D → Prop) : Option Sl → Prop
  | some (.exc a' d' C' fs) => (a' = a ∧ d' = d ∧ C' = C) ∧ lookK Q (fs.lookup f)
  | _ => False
def dXf (i : Nat) (a d C' C : Addr) (f : Str) : DTE := fun _ δ Q => C' = C ∧ xfK a d C f (fun x => Q (.val x) δ) δ[i]?
theorem DE.xf {i : Nat} {a d C' C : Addr} {f : Str} : DE K pa Wx (tXf a (.ref C') (some d) C f (tVar i)) (dXf i a d C' C f) := by
  intro F H σ δ Lf X Q' Q hE hX q k
  obtain ⟨rfl, q⟩ := q
  cases e : δ[i]? with
  | none => rw [e] at q; exact q.elim
  | some sl =>
    rw [e] at q
    cases sl with
    | exc a2 d2 C2 fs =>
      obtain ⟨⟨rfl, rfl, rfl⟩, q⟩ := q
      obtain ⟨L, w, s⟩ := id hE
      obtain ⟨h1, vs, h2, h3⟩ := (s.slot e).2.2.2.1 _ _ _ _ rfl
      cases e2 : fs.lookup f with
      | none => rw [e2] at q; exact q.elim
      | some x =>
        rw [e2] at q
        obtain ⟨u, h4, h5⟩ := h3.look e2
        exact ⟨_, h1, rfl, rfl, d2, vs, u, rfl, w.fr _ _ h2, h4, k F H u _ δ [] (Same.refl _) hE (.val h5) q⟩
    | _ => exact q.elim
def excK (a d C : Addr) (Q : Prop) : Option Sl → Prop
  | some (.exc a' d' C' _) => (a' = a ∧ d' = d ∧ C' = C) ∧ Q
  | _ => False
def dIsX (i : Nat) (a d C' C : Addr) (b : Bool) : DTE := fun _ δ Q => C' = C ∧ excK a d C (Q (.val (.bl b)) δ) δ[i]?
theorem DE.isX {mg : Str → Option Value} {x : Str} {i : Nat} {a d C' C C2 : Addr} {b : Bool} (h : ExcB K mg x C2) (s : PySem.W.subIn K (.ref C) (.ref C2) = some b) : DE K pa Wx (tCB (rIsX K C a (.ref C') (some d)) (tCons (tVar i) (tCons (tC (.ref C2)) tNil))) (dIsX i a d C' C b) := by
  intro F H σ δ Lf X Q' Q hE hX q k
  obtain ⟨rfl, q⟩ := q
  cases e : δ[i]? with
  | none => rw [e] at q; exact q.elim
  | some sl =>
    rw [e] at q
    cases sl with
    | exc a2 d2 C3 fs =>
      obtain ⟨⟨rfl, rfl, rfl⟩, q⟩ := q
      obtain ⟨L, w, sl⟩ := id hE
      obtain ⟨h1, vs, h2, h3⟩ := (sl.slot e).2.2.2.1 _ _ _ _ rfl
      exact ⟨_, h1, w_isX h (w.fr _ _ h2) s (k F H _ _ δ [] (Same.refl _) hE (.val (.bl b)) q)⟩
    | _ => exact q.elim
theorem DE.isXV {i : Nat} {a d C' C : Addr} {b : Bool} (s : PySem.W.subIn K (.ref C) (.type "ValueError") = some b) : DE K pa Wx (tCB (rIsX K C a (.ref C') (some d)) (tCons (tVar i) (tCons (tC (.ty "ValueError")) tNil))) (dIsX i a d C' C b) := by
  intro F H σ δ Lf X Q' Q hE hX q k
  obtain ⟨rfl, q⟩ := q
  cases e : δ[i]? with
  | none => rw [e] at q; exact q.elim
  | some sl =>
    rw [e] at q
    cases sl with
    | exc a2 d2 C3 fs =>
      obtain ⟨⟨rfl, rfl, rfl⟩, q⟩ := q
      obtain ⟨L, w, sl⟩ := id hE
      obtain ⟨h1, vs, h2, h3⟩ := (sl.slot e).2.2.2.1 _ _ _ _ rfl
      exact ⟨_, h1, w_isXV (w.fr _ _ h2) s (k F H _ _ δ [] (Same.refl _) hE (.val (.bl b)) q)⟩
    | _ => exact q.elim
section
variable {r : DEnds} {n0 b0 c0 : List Sl → Prop} {r0 : DQ} {x0 : DX} {body : DTS} {hs : List DHd} {C cN a d a2 d2 C2 : Addr} {i : Nat} {s1 : Addr → Addr → Addr → DTS} {s0 : Addr → Addr → DTS} {fs : List (Str × DL.D)} {g : Option (List (Str × DL.D))} {Q : DQ} {QP : Prop} {ND : DL.D → Prop} {f : Str} {b : Bool} {N : List Sl → Prop}
theorem x_0 : dTry K body hs ⟨n0, b0, c0, r0, x0⟩ δ = body ⟨n0, b0, c0, r0, hsK K ⟨n0, b0, c0, r0, x0⟩ hs⟩ δ := rfl
theorem x_1 : hsK K ⟨n0, b0, c0, r0, x0⟩ [] C g δ = x0 C g δ := rfl
theorem x_2 : dXf i a d C2 C f X δ Q = (C2 = C ∧ xfK a d C f (fun x => Q (.val x) δ) δ[i]?) := rfl
theorem x_3 : xfK a d C f ND (some (.exc a2 d2 C2 fs)) = ((a2 = a ∧ d2 = d ∧ C2 = C) ∧ lookK ND (fs.lookup f)) := rfl
theorem x_4 : dIsX i a d C2 C b X δ Q = (C2 = C ∧ excK a d C (Q (.val (.bl b)) δ) δ[i]?) := rfl
theorem x_5 : excK a d C QP (some (.exc a2 d2 C2 fs)) = ((a2 = a ∧ d2 = d ∧ C2 = C) ∧ QP) := rfl
theorem x_6 : endI i N δ = (i < δ.length ∧ N (δ.set i .dead)) := rfl
/-- the clause that takes it -/
theorem c_hs (m : ExM K C cN true) (hi : i < δ.length) (h : ∀ a d, s1 a C d ⟨endI i n0, endI i b0, endI i c0, r0, x0⟩ (δ.set i (.exc a d C fs))) : hsK K ⟨n0, b0, c0, r0, x0⟩ ((cN, some i, s1, s0) :: hs) C (some fs) δ :=
  ⟨true, m, fun _ => ⟨hi, h⟩, fun z => by cases z⟩
theorem c_hsN {o : Option Nat} (m : ExM K C cN false) (h : hsK K ⟨n0, b0, c0, r0, x0⟩ hs C g δ) : hsK K ⟨n0, b0, c0, r0, x0⟩ ((cN, o, s1, s0) :: hs) C g δ := by
  cases o with
  | none => exact ⟨false, m, fun z => (by cases z), fun _ => h⟩
  | some i => exact ⟨false, m, fun z => (by cases z), fun _ => h⟩
theorem c_hsB (m : ExM K C cN true) (h : ∀ a d, s1 a C d ⟨n0, b0, c0, r0, x0⟩ δ) : hsK K ⟨n0, b0, c0, r0, x0⟩ ((cN, none, s1, s0) :: hs) C (some fs) δ :=
  ⟨true, m, fun _ => h, fun z => by cases z⟩
end
end
/-! ### making within a try -/
section
variable {X : Cx} {k n : Nat} {C f : Addr} {x : Str} {mk : Sp} {E : St → XK} {e : Expr} {es : List Expr} {t tk : TA} {p pos : Pos} {ks ps : List Str} {kws : List Keyword} {fd : FuncData} {sp : Sp}
theorem run_makeS {pins : List (Addr × Obj)} {σ : St} {H : Hp} {s : Shared} {Q : VK} {us : List Value} {vs : List V} {E : XK} (M : Mk X.K C f) (F : FnOk X.prog X.w X.K X.mg X.base (L2.CX X.prog X.w) k f fd ps sp) (hr : Room (k + 1) X.A) (hb : Binds X.K fd ps [])
    (hx : PassesAt (L2.CX X.prog X.w) X σ E) (I : Inv X pins σ H s) (r : Vals vs us)
    (h : ∀ x dx, H x = none → H dx = none → dx ≠ x → sp (.ref x :: vs) (upd (upd H dx (.own x)) x (.ins C dx [])) (fun v H2 => v = .non ∧ Q (.ref x) H2) E) :
    wpAny (model X.prog X.w) X.A (call (.ref C) us) (EP X pins σ Q) X.xe s := by
  have hq := h (s.heap.objs.size + 1) s.heap.objs.size (I.hok.fresh (Nat.le_succ _)) (I.hok.fresh (Nat.le_refl _)) (Nat.ne_of_lt (Nat.lt_succ_self _))
  have I2 := Inv.made (C := C) I
  have r2 : Vals (V.ref (s.heap.objs.size + 1) :: vs) (Value.ref (s.heap.objs.size + 1) :: us) := .cons rfl r
  have hl : (Value.ref (s.heap.objs.size + 1) :: us ++ []).length = ps.length := by
    have e := r2.length
    rw [F.len _ _ _ _ hq] at e
    rw [List.append_nil]; exact e.symm
  refine wpAny_call (make_map (f := f) I.kIn M.makes M.init (beq_iff_eq.mp M.fn) (codeAny_mono (F.run _ X.stack _ _ ⟨Value.ref (s.heap.objs.size + 1) :: us, []⟩ (Value.ref (s.heap.objs.size + 1) :: us ++ []) _ _ E (hr.make C us [])
    (I2.env0.make C us []) (hb _ (Value.ref (s.heap.objs.size + 1) :: us) I2.kIn hl) (by rw [List.append_nil]; exact r2) hq) fun r s' hq' => ?_))
  cases r with
  | error e => exact hx pins _ _ e s' I2 hq'
  | ok fl =>
    cases fl with
    | ret u =>
      obtain ⟨v, H', I3, rv, ev, q3⟩ := I2.after hq'
      subst ev
      exact ⟨rv, ⟨V.ref (s.heap.objs.size + 1), H', I3, rfl, q3⟩⟩
    | next => exact False.elim hq'
    | brk => exact False.elim hq'
    | cont => exact False.elim hq'
theorem pe_mkS (M : MkAt X.prog X.w X.K X.mg X.base k x C mk) (hr : Room (k + 1) X.A) (hx : ∀ σ, PassesAt (L2.CX X.prog X.w) X σ (E σ)) (ha : PA X (e :: es) t) (hg : Gl X x := by rfl) (hdb : (x == ("__debug__" : Str)) = false := by decide)
    (he : starEach (e :: es) X.env = (false, eval e X.env) :: starEach es X.env := by rfl) (hpl : (backTo pos (starEach es X.env)).any (·.1) = false := by rfl) : PE X (.Call (.Name x p) (e :: es) [] pos) (tCallS mk E t) := by
  obtain ⟨hm, f, fd, ps, sp, M1, F, hb, hmk⟩ := M
  refine ⟨fun pins s σ H Q I h => ?_⟩
  refine wpAny_Call_Name_kw (ld_glob I hg hm ?_ hdb)
  refine PySem.W.callWith_K (h₀ := X.base) I.ok.mod.kin M1.kp (thn (ha.run pos pins s σ H _ I h) fun us s1 ⟨vs, H1, I1, r, q⟩ => ⟨I1.kIn, ?_⟩) he hpl
  exact run_makeS M1 F hr hb (hx σ) I1 r fun x dx h1 h2 h3 => hmk _ _ _ _ q x dx h1 h2 h3
end
end DL
/-! zip of an own instance and a list -/
namespace L2
open PySem PySem.Spec PyProof.Rows
section
variable {prog : Program} {w : World} {A : Around} {s : Shared}
abbrev zgT (h : Heap) (a1 a2 : Addr) : Heap := h.push { cls := .type "tuple", data := .seq #[.ref a1, .ref a2] }
abbrev zgO (h : Heap) (a1 a2 : Addr) : Heap := (zgT h a1 a2).push { cls := .type "tuple", data := .seq #[.none, .none] }
abbrev zgZ (h : Heap) (a1 a2 : Addr) : Heap := (zgO h a1 a2).push { cls := .type "zip", data := .fields #[.none, .bool false, .bool false, .ref h.objs.size, .ref (zgT h a1 a2).objs.size] }
theorem zip_newG {v1 v2 : Value} {E : Value → Shared → Prop} {R : Result → Shared → Prop} (h : wpAny (model prog w) A (pyIter v1) (fun j1 s1 => ∃ a1, j1 = .ref a1 ∧ wpAny (model prog w) A (pyIter v2) (fun j2 s2 => ∃ a2, j2 = .ref a2 ∧ R (.ok (.ret (.ref (zgO s2.heap a1 a2).objs.size))) { s2 with heap := zgZ s2.heap a1 a2 }) E s1) E s) :
    wpAny (model prog w) A (Builtin.«zip.__new__» ⟨[.type "zip", v1, v2], []⟩) (fun fin s' => ∃ r, fin = .done r ∧ R (.ok r) s') E s := by
  obtain ⟨hp, g, d, tk, os⟩ := s
  have hsub := sub_zip
  have q1 : ∀ {Q' : Value → Shared → Prop} {E' : Value → Shared → Prop}, (∀ e s', E e s' → E' e s') → (∀ b s1, wpAny (model prog w) A (pyIter v2) (fun j2 s2 => ∃ a2, j2 = .ref a2 ∧ R (.ok (.ret (.ref (zgO s2.heap b a2).objs.size))) { s2 with heap := zgZ s2.heap b a2 }) E s1 → Q' (.ref b) s1) → wpAny (model prog w) A (pyIter v1) Q' E' ⟨hp, g, d, tk, os⟩ :=
    fun a b => wpAny_mono h (fun it s1 ⟨c, e, z⟩ => by subst e; exact b c s1 z) a
  wp_walk using q1
  · exact fun _ _ z => z
  rintro b ⟨hp1, g1, d1, tk1, os1⟩ hR
  have q2 : ∀ {Q' : Value → Shared → Prop} {E' : Value → Shared → Prop}, (∀ e s', E e s' → E' e s') → (∀ c s2, R (.ok (.ret (.ref (zgO s2.heap b c).objs.size))) { s2 with heap := zgZ s2.heap b c } → Q' (.ref c) s2) → wpAny (model prog w) A (pyIter v2) Q' E' ⟨hp1, g1, d1, tk1, os1⟩ :=
    fun a k => wpAny_mono hR (fun it s1 ⟨c, e, z⟩ => by subst e; exact k c s1 z) a
  wp_walk using q2
  · exact fun _ _ z => z
  rintro c ⟨hp2, g2, d2, tk2, os2⟩ hR
  wp_walk
  exact ⟨_, rfl, hR⟩
/-- zip(v1, v2): what iter(v1), iter(v2) give, and three new cells -/
theorem call_zipG {v1 v2 : Value} {E Q : Value → Shared → Prop} (h : wpAny (model prog w) A.in1.in1 (pyIter v1) (fun j1 s1 => ∃ a1, j1 = .ref a1 ∧ wpAny (model prog w) A.in1.in1 (pyIter v2) (fun j2 s2 => ∃ a2, j2 = .ref a2 ∧
      ∀ h', IsZip h' (s2.heap.objs.size + 2) s2.heap.objs.size (s2.heap.objs.size + 1) .none → IsTupOf2 h' s2.heap.objs.size (.ref a1) (.ref a2) → IsTupOf2 h' (s2.heap.objs.size + 1) .none .none → h'.objs.size = s2.heap.objs.size + 3 →
      (∀ c o, s2.heap.get? c = some o → h'.get? c = some o) → Q (.ref (s2.heap.objs.size + 2)) { s2 with heap := h' }) E s1) E s) : wpAny (model prog w) A (call (.type "zip") [v1, v2]) Q E s := by
  refine callType_codes (Q₁ := fun obj s₁ => s₁.TypeIs obj "zip" ∧ Q obj s₁) F.called_zip (F.typeCall_zip_2 _ _) F.entry_object_init ?_ fun obj s₁ hq => ⟨hq.1, F.args_object_init_3 obj _ _, ?_⟩
  · refine codeAny_call_builtin F.called_zip.plain F.entry_zip_new (wpAny_of_eq (F.newCall_zip_2 _ _) ?_)
    refine wpAny_mono (zip_newG (R := wants (fun obj s₁ => s₁.TypeIs obj "zip" ∧ Q obj s₁) E) (wpAny_mono h (fun it s1 ⟨b, e, z⟩ => ⟨b, e, wpAny_mono z (fun it s2 ⟨c, e, z⟩ => ⟨c, e, ?_⟩) fun _ _ z => z⟩) fun _ _ z => z)) (fun fin s' hf => ?_) fun _ _ z => z
    · have z1 : (zgT s2.heap b c).objs.size = s2.heap.objs.size + 1 := by rw [Heap.size_push]
      have z2 : (zgO s2.heap b c).objs.size = s2.heap.objs.size + 2 := by rw [Heap.size_push, z1]
      have z3 : (zgZ s2.heap b c).objs.size = s2.heap.objs.size + 3 := by rw [Heap.size_push, z2]
      have gZ : (zgZ s2.heap b c).get? (zgO s2.heap b c).objs.size = some { cls := .type "zip", data := .fields #[.none, .bool false, .bool false, .ref s2.heap.objs.size, .ref (zgT s2.heap b c).objs.size] } := Heap.get?_push_size _ rfl
      have gO : (zgZ s2.heap b c).get? (zgT s2.heap b c).objs.size = some { cls := .type "tuple", data := .seq #[.none, .none] } := Heap.get?_push_of_some _ (Heap.get?_push_size _ rfl)
      have gT : (zgZ s2.heap b c).get? s2.heap.objs.size = some { cls := .type "tuple", data := .seq #[.ref b, .ref c] } := Heap.get?_push_of_some _ (Heap.get?_push_of_some _ (Heap.get?_push_size _ rfl))
      have gg := gZ
      rw [z2, z1] at gZ
      rw [z1] at gO
      refine ⟨⟨_, gg, rfl⟩, ?_⟩
      rw [z2]
      exact z _ gZ gT gO z3 fun c o q => Heap.get?_push_of_some _ (Heap.get?_push_of_some _ (Heap.get?_push_of_some _ q))
    · obtain ⟨r, rfl, hr⟩ := hf
      exact hr
  · exact object_init_meets (newId := "zip.__new__") F.called_zip.init.lookup F.called_zip.made (by decide) prog w A.in1 _ s₁ ⟨hq.1, rfl, hq.2⟩
end
/-- the tuple at a and the list at b as they stand at each turn, in new pairs -/
def ItzO (K : PySem.W.Frag) (a b : Addr) : It :=
  ⟨fun i H => ∃ (xs ys : List V), SqT K H a xs ∧ SqL K H b ys ∧ i < xs.length ∧ i < ys.length,
    fun i H v H' => ∃ (T : Addr) (u w : V), v = .ref T ∧ H T = none ∧ H' = upd H T (.tup [u, w]) ∧ (∀ xs, SqT K H a xs → xs[i]? = some u) ∧ (∀ ys, SqL K H b ys → ys[i]? = some w),
    fun i H => ∃ xs ys : List V, SqT K H a xs ∧ SqL K H b ys ∧ i = min xs.length ys.length⟩
theorem mem25 {c z TI TO i1 i2 : Addr} (h : c ∈ [z, TO, i1, i2]) : c ∈ [z, TI, TO, i1, i2] := by
  simp only [List.mem_cons, List.not_mem_nil, or_false] at h ⊢
  rcases h with e | e | e | e <;> simp [e]
theorem turn_zipO {P : Program} {w : World} {K : PySem.W.Frag} {elts : List Expr} {kk : Nat} {tpos : Pos} {a b z TI TO i1 i2 : Addr} (D : ZipSep2 z TI TO i1 i2 [i1, a] [i2, b]) (na : a ≠ i1) (nb : b ≠ i2) :
    Turn P w K (.Tuple elts kk tpos) (ItzO K a b) [z, TI, TO, i1, i2] z (fun i h => IsZip h z TI TO .none ∧ IsTupOf2 h TI (.ref i1) (.ref i2) ∧ (∃ a1 a2, IsTupOf2 h TO a1 a2) ∧ h.IsTupleIter i1 a i ∧ h.IsListIter i2 b i) where
  mem := by simp
  obj := fun i h st c hc => by
    obtain ⟨hz, hTI, ⟨_, _, hTO⟩, ⟨o1, e1, _, d1⟩, ⟨o2, e2, _, d2⟩⟩ := st
    have e' : c = z ∨ c = TI ∨ c = TO ∨ c = i1 ∨ c = i2 := by simpa using hc
    rcases e' with q | q | q | q | q
    · rw [q]; exact ⟨_, hz, fun v q => nomatch q⟩
    · rw [q]; exact ⟨_, hTI, fun v q => nomatch q⟩
    · rw [q]; exact ⟨_, hTO, fun v q => nomatch q⟩
    · rw [q]; exact ⟨o1, e1, fun v q => by rw [d1] at q; cases q⟩
    · rw [q]; exact ⟨o2, e2, fun v q => by rw [d2] at q; cases q⟩
  keep := fun i h h' st k => by
    obtain ⟨hz, hTI, ⟨a1, a2, hTO⟩, h1, h2⟩ := st
    exact ⟨k z (by simp) _ hz, k TI (by simp) _ hTI, ⟨a1, a2, k TO (by simp) _ hTO⟩, h1.at fun o q => k i1 (by simp) o q, h2.at fun o q => k i2 (by simp) o q⟩
  item := by
    intro X hP hw hK hc i pins s σ H E I hf st hg
    subst hP hw hK
    obtain ⟨hz, hTI, hTO, h1, h2⟩ := st
    obtain ⟨xs, ys, hqx, hqy, hx, hy⟩ := hg
    obtain ⟨its, rv, p, _⟩ := I.tuple hqx
    obtain ⟨its2, rv2, p2, _⟩ := I.list hqy
    have l1 := rv.length
    have l2 := rv2.length
    have hh : X.A.in1.handled = none := I.ok.hd hc
    have D1 := Draws.tuple (prog := X.prog) (w := X.w) hh i1 a na its.toArray
    have D2 := Draws.list (prog := X.prog) (w := X.w) hh i2 b nb its2.toArray
    have T3 := WalksT.zipD2 (A := X.A) D D1 D2
    refine wpAny_mono (T3.item i s (fun r s1 => ∃ u, r = some u ∧ wpAny (model X.prog X.w) X.A (letOwnedTupleGo (.Tuple elts kk tpos) (.ref z) u) (fun _ s2 => ∃ x_1 H', Inv X pins σ H' s2 ∧ RelV x_1 u ∧ (ItzO X.K a b).yld i H x_1 H' ∧
      (IsZip s2.heap z TI TO .none ∧ IsTupOf2 s2.heap TI (.ref i1) (.ref i2) ∧ (∃ a1 a2, IsTupOf2 s2.heap TO a1 a2) ∧ s2.heap.IsTupleIter i1 a (i + 1) ∧ s2.heap.IsListIter i2 b (i + 1)) ∧ ∀ b ∈ [z, TI, TO, i1, i2], H' b = none) E s1) E ?_ ⟨hz, hTI, hTO, ⟨h1, p⟩, ⟨h2, p2.isList⟩⟩ fun T vals h' tk ⟨u1, u2, y1, y2, ev⟩ hge hT mid hk => ⟨_, rfl, ?_⟩) (fun _ _ q => q) fun _ _ q => q
    · simp; omega
    subst ev
    have ap := T3.apart _ _ _ mid
    refine T3.go elts kk tpos i T { s with heap := h', toks := tk } _ _ mid fun h'' st'' hk'' => ?_
    obtain ⟨hz', hTI', hTO', ⟨h1', _⟩, ⟨h2', _⟩⟩ := st''
    obtain ⟨u, hu, ru⟩ := rv.get (i := i) (List.getElem?_eq_getElem hx)
    obtain ⟨v, hv, rv'⟩ := rv2.get (i := i) (List.getElem?_eq_getElem hy)
    obtain rfl : u = u1 := by
      have : its[i]? = some u1 := by simpa using y1
      rw [hu] at this; exact Option.some.inj this
    obtain rfl : v = u2 := by
      have : its2[i]? = some u2 := by simpa using y2
      rw [hv] at this; exact Option.some.inj this
    have hT2 : h''.IsTuple T #[u, v] := hT.at fun o e => hk'' T o ap e
    have hk2 : ∀ b o, b ∉ [z, TO, i1, i2] → s.heap.get? b = some o → h''.get? b = some o := fun b o hb e => hk'' b o hb (hk b o hb e)
    have new : ObjOk X.prog X.w (upd H T (.tup [xs[i], ys[i]])) h'' T (.tup [xs[i], ys[i]]) :=
      ⟨by show 2 ≤ sizeLine; decide, [u, v], .cons ru (.cons rv' .nil), hT2⟩
    have I1 : Inv X pins σ (upd H T (.tup [xs[i], ys[i]])) { s with heap := h'', toks := tk } :=
      I.turnedNew (ch := [z, TI, TO, i1, i2]) (fun c o hb q => hk2 c o (fun z => hb (mem25 z)) q) hf hge new
    refine ⟨.ref T, _, I1, rfl, ⟨T, xs[i], ys[i], rfl, I.hok.fresh hge, rfl, fun l hl => by rw [I.tuple_inj hl hqx]; exact List.getElem?_eq_getElem hx, fun l hl => by rw [I.list_inj hl hqy]; exact List.getElem?_eq_getElem hy⟩, ⟨hz', hTI', hTO', h1', h2'⟩, fun c hcm => ?_⟩
    have hlt : c < s.heap.objs.size := by
        have e' : c = z ∨ c = TI ∨ c = TO ∨ c = i1 ∨ c = i2 := by simpa using hcm
        rcases e' with q | q | q | q | q
        · rw [q]; exact Heap.lt_size hz
        · rw [q]; exact Heap.lt_size hTI
        · rw [q]; obtain ⟨_, _, e⟩ := hTO; exact Heap.lt_size e
        · rw [q]; obtain ⟨_, e1, _⟩ := h1; exact Heap.lt_size e1
        · rw [q]; obtain ⟨_, e1, _⟩ := h2; exact Heap.lt_size e1
    rw [upd_ne (Nat.ne_of_lt (Nat.lt_of_lt_of_le hlt hge))]
    exact (hf c hcm).1
  done := by
    intro X hP hw hK hc i pins s σ H E I hf st hg
    subst hP hw hK
    obtain ⟨hz, hTI, hTO, h1, h2⟩ := st
    obtain ⟨xs, ys, hqx, hqy, hend⟩ := hg
    obtain ⟨its, rv, p, _⟩ := I.tuple hqx
    obtain ⟨its2, rv2, p2, _⟩ := I.list hqy
    have l1 := rv.length
    have l2 := rv2.length
    have hh : X.A.in1.handled = none := I.ok.hd hc
    have D1 := Draws.tuple (prog := X.prog) (w := X.w) hh i1 a na its.toArray
    have D2 := Draws.list (prog := X.prog) (w := X.w) hh i2 b nb its2.toArray
    have T3 := WalksT.zipD2 (A := X.A) D D1 D2
    have ei : i = min its.toArray.size its2.toArray.size := by simp; omega
    refine T3.done s _ E (by rw [← ei]; exact ⟨hz, hTI, hTO, ⟨h1, p⟩, ⟨h2, p2.isList⟩⟩) fun h' tk hk => ⟨rfl, I.turnedL (ch := [z, TI, TO, i1, i2]) (fun c o hb q => hk c o (fun z => hb (mem25 z)) q) hf⟩
  self := fun A i s Q E st h => wpAny_pyIter_zip st.1 h
theorem nin2 {x a b : Addr} (h1 : x ≠ a) (h2 : x ≠ b) : x ∉ [a, b] := by simp [h1, h2]
theorem sepO {it t b N : Nat} (h1 : it < N) (h2 : t < N) (h3 : b < N) (h4 : it ≠ b) : ZipSep2 (N + 1 + 2) (N + 1) (N + 1 + 1) it N [it, t] [N, b] :=
  { TIz := show (N + 1 : Nat) ≠ N + 1 + 2 by omega, TOz := show (N + 1 + 1 : Nat) ≠ N + 1 + 2 by omega, TITO := show (N + 1 : Nat) ≠ N + 1 + 1 by omega,
    TIi1 := show (N + 1 : Nat) ≠ it by omega, mem1 := List.mem_cons_self .., zf1 := nin2 (show (N + 1 + 2 : Nat) ≠ it by omega) (show (N + 1 + 2 : Nat) ≠ t by omega), Tf1 := nin2 (show (N + 1 + 1 : Nat) ≠ it by omega) (show (N + 1 + 1 : Nat) ≠ t by omega),
    TIi2 := show (N + 1 : Nat) ≠ N by omega, mem2 := List.mem_cons_self .., zf2 := nin2 (show (N + 1 + 2 : Nat) ≠ N by omega) (show (N + 1 + 2 : Nat) ≠ b by omega), Tf2 := nin2 (show (N + 1 + 1 : Nat) ≠ N by omega) (show (N + 1 + 1 : Nat) ≠ b by omega),
    sep1_2 := nin2 (show (it : Nat) ≠ N by omega) h4, sep2_1 := nin2 (show (N : Nat) ≠ it by omega) (show (N : Nat) ≠ t by omega) }
def iZipO (K : PySem.W.Frag) (C : Addr) (fld : Str) (ta : TA) : TI := fun σ H R => ta σ H fun vs H1 => ∃ x t b ys, vs = [x, .ref b] ∧ ownT K C fld x H1 t ∧ SqL K H1 b ys ∧ R (ItzO K t b) H1
theorem pi_zipO {X : Cx} {n : Nat} {C fi : Addr} {fdI : FuncData} {fld : Str} {e e2 : Expr} {ta : TA} {p pos tpos : Pos} {elts : List Expr} {kk : Nat} (hc : OwnIt X.K C fi)
    (FI : FnN X.prog X.w X.K X.mg X.base (CX X.prog X.w) n fi fdI ["self"] (spIt X.K C fld)) (bI : Binds X.K fdI ["self"] []) (hr : Room (n + 2) X.A) (hg : Gl X "zip") (hm : X.mg "zip" = none) (ha : PA X [e, e2] ta)
    (hs : starEach [e, e2] X.env = (false, eval e X.env) :: starEach [e2] X.env := by rfl) (hpl : (backTo pos (starEach [e2] X.env)).any (·.1) = false := by rfl) :
    PI X (.Tuple elts kk tpos) (.Call (.Name "zip" p) [e, e2] [] pos) (iZipO X.K C fld ta) := by
  refine ⟨fun pins s σ H R I h => ?_⟩
  refine Call_ (ld_blt I hg hm PyProof.Rows.boot_zip (PyProof.Rows.callWith_type1 (thn (ha.run pos pins s σ H _ I h) fun us s1 ⟨vs, H1, I1, r1, q1⟩ => ?_) hs hpl))
  obtain ⟨x, t, b, ys, ex, ⟨a, dx, fs, rfl, ha', hf, zs, hS⟩, hqy, q⟩ := q1
  subst ex
  cases r1 with
  | cons r rr =>
    cases rr with
    | cons r' rr =>
    cases rr
    cases r
    cases r'
    have sb : L2.Sub X n X.A.in1.in1 := L2.Sub.in1 (L2.Sub.in1 (⟨hr, rfl⟩ : L2.Sub X (n + 2) X.A))
    refine call_zipG (own_iter sb hc FI bI I1 ha' hf hS fun it s2 I2 hit fp => ⟨it, rfl, ?_⟩)
    obtain ⟨its, rv, p', hz⟩ := I2.tuple hS
    obtain ⟨its2, rv2, p2, _⟩ := I2.list hqy
    have pt : s2.heap.IsTuple t its.toArray := p'
    have la : t < s2.heap.objs.size := by obtain ⟨o, ho, _⟩ := pt; exact Heap.lt_size ho
    have lb : b < s2.heap.objs.size := p2.lt
    have lit : it < s2.heap.objs.size := by obtain ⟨o, ho, _⟩ := hit; exact Heap.lt_size ho
    have nti : t ≠ it := fun z => by
      obtain ⟨o, ho, hcl, _⟩ := hit
      obtain ⟨o2, ho2, hc2, _⟩ := pt
      rw [z, ho] at ho2
      cases ho2
      rw [hcl] at hc2
      exact absurd (Value.type.inj hc2) (by decide)
    refine wpAny_pyIter_list p2.isList ⟨_, rfl, fun h' hz hTI hTO hsz hk => wpAny_pyIter_zip hz ?_⟩
    have z1 : (s2.heap.push { cls := .type "list_iterator", data := .fields #[.ref b, .int 0 0] }).objs.size = s2.heap.objs.size + 1 := Heap.size_push ..
    have hsz' : h'.objs.size = s2.heap.objs.size + 4 := by rw [hsz, z1]
    rw [z1] at hz hTI hTO
    have hit' : h'.IsTupleIter it t 0 := hit.at fun o z => hk _ _ (Heap.get?_push_of_some _ z)
    have hil : h'.IsListIter s2.heap.objs.size b 0 := ⟨_, hk _ _ (Heap.get?_push_size _ rfl), rfl, rfl⟩
    have I3 : Inv X pins σ H1 { s2 with heap := h' } := I2.kept (t' := s2.toks) fun c o q => hk c o (Heap.get?_push_of_some _ q)
    have nbi : b ≠ it := fun z => by
      obtain ⟨o, ho, hcl, _⟩ := hit
      obtain ⟨o2, ho2, hc2, _⟩ := p2.isList
      rw [z, ho] at ho2
      cases ho2
      rw [hcl] at hc2
      exact absurd (Value.type.inj hc2) (by decide)
    have S := sepO (it := it) (t := t) (b := b) (N := s2.heap.objs.size) lit la lb nbi.symm
    show PIE X pins σ _ R (.ref _) _
    rw [z1]
    have key : ∀ c, s2.heap.objs.size ≤ c → FpOk X pins H1 c := fun c h => I2.fpOk h (I2.hok.fresh h)
    refine ⟨s2.heap.objs.size + 1 + 2, [s2.heap.objs.size + 1 + 2, s2.heap.objs.size + 1, s2.heap.objs.size + 1 + 1, it, s2.heap.objs.size], _, _, H1, rfl, I3, turn_zipO S nti (Nat.ne_of_lt lb), ⟨hz, hTI, ⟨_, _, hTO⟩, hit', hil⟩, fun c hcm => ?_, q⟩
    have e' : c = s2.heap.objs.size + 1 + 2 ∨ c = s2.heap.objs.size + 1 ∨ c = s2.heap.objs.size + 1 + 1 ∨ c = it ∨ c = s2.heap.objs.size := by simpa using hcm
    rcases e' with z | z | z | z | z
    · rw [z]; exact key _ (Nat.le_trans (Nat.le_add_right _ 1) (Nat.le_add_right _ 2))
    · rw [z]; exact key _ (Nat.le_add_right _ _)
    · rw [z]; exact key _ (Nat.le_trans (Nat.le_add_right _ 1) (Nat.le_add_right _ 1))
    · rw [z]; exact fp
    · rw [z]; exact key _ (Nat.le_refl _)
theorem s_zipO {K : PySem.W.Frag} {C : Addr} {fld : Str} {tr : TA} {σ : L2.St} {H : Hp} {R : It → Hp → Prop} : iZipO K C fld tr σ H R = tr σ H (fun vs H1 => ∃ x t b ys, vs = [x, .ref b] ∧ ownT K C fld x H1 t ∧ SqL K H1 b ys ∧ R (ItzO K t b) H1) := rfl
end L2
/-! zip of an own instance and a list; calls after which what was handed in is the frame's own again; tuples with one list of the frame's own. -/
namespace DL
open PySem L2
section
variable {K : PySem.W.Frag} {pa : Addr} {F F' H H' : Hp} {L Lf L1 : List (Addr × HO)} {σ σ' : St} {δ δ' : List Sl} {Wx : WX} {X : DX} {D : Ends} {D' : DEnds}
theorem ItOk.zipO {a b : Addr} {vs ws : List V} {ds es : List DL.D} (h : SqT K F a vs) (r : Rps K F vs ds) (h' : F b = some (.lst ws)) (r' : Rps K F ws es) : ItOk K F (ItzO K a b) (zipD ds es) := by
  intro F' H L s w
  have hS : SqT K H a vs := w.fr.seqT (s.seqT h)
  have hS' : SqL K H b ws := SqL.of (w.fr _ _ (s _ _ h'))
  refine ⟨fun i e => ⟨vs, ws, hS, hS', by rw [r.length, r'.length]; rw [zip_len] at e; omega⟩, fun i d e => ?_⟩
  obtain ⟨e, f, e1, f1, rfl⟩ := zip_at e
  obtain ⟨v, e2, rv⟩ := r.getD e1
  obtain ⟨u, f2, ru⟩ := r'.getD f1
  refine ⟨⟨vs, ws, hS, hS', (List.getElem?_eq_some_iff.mp e2).1, (List.getElem?_eq_some_iff.mp f2).1⟩, fun x H' y => ?_⟩
  obtain ⟨T, z, z', rfl, hT, rfl, y, y'⟩ := y
  have := y vs hS
  rw [e2] at this
  cases this
  have := y' ws hS'
  rw [f2] at this
  cases this
  exact pairF w hT (.cons (rv.mono s) (.cons (ru.mono s) .nil))
def zpOK (C : Addr) (fld : Str) (ds : List DL.D) (Q : List DL.D → Prop) : Prop := match ds with
  | [d, .lst ys] => ownK C fld d fun items => Q (zipD items ys)
  | _ => False
def iZpO (C : Addr) (fld : Str) (a : DTA) : DTI := fun X δ Q => a X δ fun rs δ1 => frzs rs δ1 fun ds δ2 => zpOK C fld ds fun items => Q items δ2
theorem DI.zipO {C : Addr} {fld : Str} {ta : TA} {a : DTA} (h : DA K pa Wx ta a) : DI K pa Wx (iZipO K C fld ta) (iZpO C fld a) := by
  intro F H σ δ Lf X Q' R hE hX q k
  refine h F H σ δ Lf X _ _ hE hX q fun F1 H1 vs rs δ1 L1 s1 E1 R1 q => ?_
  refine frzs_ok E1 R1 q fun F2 ds δ2 s2 E2 hds q => ?_
  unfold zpOK at q
  split at q
  · cases hds with
    | cons hd hn =>
      cases hn with
      | cons hd2 hn =>
      cases hn
      obtain ⟨t, vs, ds, h1, h2, h3, q⟩ := own_at hd E2.fr q
      obtain ⟨b, ws, rfl, h4, h5⟩ := hd2.lstE
      exact ⟨_, t, b, ws, rfl, h1, SqL.of (E2.fr _ _ h4), k F2 H1 _ δ2 _ (s1.trans s2) E2 (ItOk.zipO h2 h3 h4 h5) q⟩
  · exact q.elim
/-! ### thaw -/
mutual
/-- no list in it -/
def noL : DL.D → Bool
  | .lst _ => false
  | .scr _ => false
  | .tup ds => noLs ds
  | .ins _ fs => noLf fs
  | _ => true
def noLs : List DL.D → Bool
  | [] => true
  | d :: ds => noL d && noLs ds
def noLf : List (Str × DL.D) → Bool
  | [] => true
  | (_, d) :: ds => noL d && noLf ds
end
/-- F' without what came from F to F2 -/
noncomputable def cut (F F2 F' : Hp) : Hp := open Classical in fun x => if F x = none ∧ F2 x ≠ none then none else F' x
def FrzR (F : Hp) (L : List (Addr × HO)) (F2 : Hp) (L2 : List (Addr × HO)) : Prop := Same F F2 ∧ (∀ p ∈ L, p ∈ L2 ∨ F2 p.1 = some p.2) ∧ ∀ x o, F2 x = some o → F x = none → ∃ vs, o = .lst vs
theorem FrzR.refl : FrzR F L F L := ⟨Same.refl _, fun _ h => .inl h, fun x o e n => by rw [n] at e; cases e⟩
theorem FrzR.trans {F2 F3 : Hp} {L2 L3 : List (Addr × HO)} (h : FrzR F L F2 L2) (h2 : FrzR F2 L2 F3 L3) : FrzR F L F3 L3 := by
  refine ⟨h.1.trans h2.1, fun p hp => ?_, fun x o e n => ?_⟩
  · rcases h.2.1 p hp with z | z
    · exact h2.2.1 p z
    · exact .inr (h2.1 _ _ z)
  · cases e2 : F2 x with
    | none => exact h2.2.2 x o e e2
    | some o2 =>
      have := h2.1 _ _ e2
      rw [e] at this
      cases this
      exact h.2.2 x o e2 n
theorem FrzR.cell {a : Addr} {vs : List V} {L2 : List (Addr × HO)} (sF : Same F (upd F a (.lst vs))) (h : ∀ p ∈ L, p ∈ L2 ∨ p = (a, .lst vs)) : FrzR F L (upd F a (.lst vs)) L2 := by
  refine ⟨sF, fun p hp => ?_, fun x o e n => ?_⟩
  · rcases h p hp with z | rfl
    · exact .inl z
    · exact .inr upd_same
  · by_cases z : x = a
    · subst z; rw [upd_same] at e; cases e; exact ⟨_, rfl⟩
    · rw [upd_ne z, n] at e; cases e
theorem frz_okR {v : V} {r : Rk} {Q : DL.D → List Sl → Prop} (w : W F (L ++ (L1 ++ Lf)) H) (sl : Sls K pa F L σ δ) (rr : RR K F σ L1 v r) (h : frzD r δ Q) :
    ∃ F' d δ' L', FrzR F L F' L' ∧ W F' (L' ++ Lf) H ∧ Sls K pa F' L' σ δ' ∧ Rp K F' v d ∧ Q d δ' := by
  cases rr with
  | val hv => exact ⟨F, _, δ, L, FrzR.refl, w, sl, hv, h⟩
  | @own a vs ds hv =>
    have w2 := w.perm (List.perm_middle (a := (a, HO.lst vs)) (l₁ := L) (l₂ := Lf))
    obtain ⟨sF, w3⟩ := w2.frz
    exact ⟨_, _, δ, L, FrzR.cell sF fun p hp => .inl hp, w3, sl.mono sF, .lst upd_same (hv.mono sF), h⟩
  | raw => exact h.elim
  | @otup a T us vs ws p ds q t h1 h2 h3 =>
    have w2 := w.perm (List.perm_middle (a := (a, HO.lst vs)) (l₁ := L) (l₂ := Lf))
    obtain ⟨sF, w3⟩ := w2.frz
    exact ⟨_, _, δ, L, FrzR.cell sF fun p hp => .inl hp, w3, sl.mono sF, .tup (sF.seqT t) ((h1.mono sF).append (.cons (.lst upd_same (h2.mono sF)) (h3.mono sF))), h⟩
  | tre y =>
    obtain ⟨F', sF, k1, n1, w2, r⟩ := y.frz (w.perm (by rw [← List.append_assoc, ← List.append_assoc]; exact List.perm_append_comm.append_right _ : (L ++ (L1 ++ Lf)).Perm (L1 ++ (L ++ Lf))))
    exact ⟨F', _, δ, L, ⟨sF, fun p hp => .inl hp, n1⟩, w2, sl.mono sF, r, h⟩
  | @bor i v e =>
    unfold frzD at h
    dsimp only at h
    have mem : ∀ {a vs L'}, L.Perm ((a, HO.lst vs) :: L') → ∀ p ∈ L, p ∈ L' ∨ p = (a, HO.lst vs) := fun {a vs L'} P p hp => by
      rcases List.mem_cons.mp (P.subset hp) with z | z
      · exact .inr z
      · exact .inl z
    cases e2 : δ[i]? with
    | none => rw [e2] at h; exact h.elim
    | some s0 =>
      rw [e2] at h
      cases s0 with
      | own ds =>
        obtain ⟨a, vs, L', h1, h2, h3, h4⟩ := sl.thaw e2
        rw [e] at h1
        cases h1
        have w2 := w.perm (h2.append_right _)
        obtain ⟨sF, w3⟩ := w2.frz
        exact ⟨_, _, _, L', FrzR.cell sF (mem h2), w3, h4 _ sF upd_same, .lst upd_same (h3.mono sF), h⟩
      | val d =>
        obtain ⟨v2, h1, h2⟩ := (sl.slot e2).1 _ rfl
        rw [e] at h1
        cases h1
        exact ⟨F, _, δ, L, FrzR.refl, w, sl, h2, h⟩
      | tre t =>
        obtain ⟨x, L0, L', h1, h2, h3, h4⟩ := sl.out e2
        rw [e] at h1
        cases h1
        cases h3 with
        | @tre L9 _ _ _ _ _ y q9 =>
        cases q9
        rw [List.append_nil] at h2
        have w2 := w.perm (h2.append_right _)
        rw [List.append_assoc, List.nil_append] at w2
        obtain ⟨F', sF, k1, n1, w3, r⟩ := y.frz w2
        refine ⟨F', _, _, L', ⟨sF, fun p hp => ?_, n1⟩, w3, h4 F' _ sF (.val r .nil), r, h⟩
        rcases List.mem_append.mp (h2.subset hp) with z | z
        · exact .inr (k1 p z)
        · exact .inl z
      | otup p ds q =>
        obtain ⟨a, T, us, vs, ws, L', h1, h2, h3, h4, h5, h6, h7⟩ := sl.takeO e2
        rw [e] at h1
        cases h1
        have w2 := w.perm (h2.append_right _)
        obtain ⟨sF, w3⟩ := w2.frz
        exact ⟨_, _, _, L', FrzR.cell sF (mem h2), w3, h7 _ _ sF (.inr ⟨rfl, upd_same⟩), .tup (sF.seqT h3) ((h4.mono sF).append (.cons (.lst upd_same (h5.mono sF)) (h6.mono sF))), h⟩
      | _ => exact h.elim
theorem frzs_okR : ∀ {rs : List Rk} {vs : List V} {F : Hp} {L : List (Addr × HO)} {δ : List Sl} {L1 : List (Addr × HO)} {Q : List DL.D → List Sl → Prop}, W F (L ++ (L1 ++ Lf)) H → Sls K pa F L σ δ → RRs K F σ L1 vs rs → frzs rs δ Q →
    ∃ F' ds δ' L', FrzR F L F' L' ∧ W F' (L' ++ Lf) H ∧ Sls K pa F' L' σ δ' ∧ Rps K F' vs ds ∧ Q ds δ'
  | [], vs, F, L, δ, L1, Q, w, sl, rr, h => by
    obtain ⟨rfl, rfl⟩ := rr.nil'
    exact ⟨F, [], δ, L, FrzR.refl, w, sl, .nil, h⟩
  | r :: rs, vs, F, L, δ, L1, Q, w, sl, rr, h => by
    cases rr with
    | @cons L1 L2 v _ vs _ r1 r2 =>
      have w1 : W F (L ++ (L1 ++ (L2 ++ Lf))) H := w.perm ((by rw [← List.append_assoc]; exact List.perm_append_comm.append_right _ : ((L2 ++ L1) ++ Lf).Perm (L1 ++ (L2 ++ Lf))).append_left _)
      obtain ⟨F1, d, δ1, L', f1, w2, sl2, rd, h⟩ := frz_okR w1 sl r1 h
      obtain ⟨F2, ds, δ2, L'', f2, w3, sl3, rds, q⟩ := frzs_okR w2 sl2 (r2.mono f1.1) h
      exact ⟨F2, d :: ds, δ2, L'', f1.trans f2, w3, sl3, .cons (rd.mono f2.1) rds, q⟩
theorem cut_keep {F2 : Hp} {L2 : List (Addr × HO)} (f : FrzR F L F2 L2) (s : Same F2 F') {x : Addr} {o : HO} (h : F' x = some o) (n : ∀ vs, o ≠ .lst vs) : cut F F2 F' x = some o := by
  unfold cut
  rw [if_neg fun m => ?_]
  · exact h
  · obtain ⟨m1, m2⟩ := m
    cases e : F2 x with
    | none => exact m2 e
    | some o2 =>
      obtain ⟨vs, rfl⟩ := f.2.2 x o2 e m1
      have := s _ _ e
      rw [h] at this; cases this; exact n _ rfl
theorem cut_base {F2 : Hp} (s : Same F F') : Same F (cut F F2 F') := by
  intro x o h
  unfold cut
  rw [if_neg fun m => by rw [h] at m; cases m.1]
  exact s _ _ h
theorem cut_sub {F2 : Hp} : Same (cut F F2 F') F' := by
  intro x o h
  unfold cut at h
  split at h
  · cases h
  · exact h
theorem cut_seqT {F2 : Hp} {L2 : List (Addr × HO)} (f : FrzR F L F2 L2) (s : Same F2 F') {a : Addr} {vs : List V} (h : SqT K F' a vs) : SqT K (cut F F2 F') a vs := by
  rcases h with (h | h) | h
  · exact .inl (.inl (cut_keep f s h (by intro _ z; cases z)))
  · obtain ⟨o, h⟩ := h
    exact .inl (.inr ⟨o, cut_keep f s h (by intro _ z; cases z)⟩)
  · obtain ⟨o, its, n, h1, h2⟩ := h
    exact .inr ⟨o, its, n, h1, h2⟩
mutual
theorem cut_rp {F2 : Hp} {L2 : List (Addr × HO)} (f : FrzR F L F2 L2) (s : Same F2 F') : ∀ {v : V} {d : DL.D}, Rp K F' v d → noL d = true → Rp K (cut F F2 F') v d
  | _, _, .non, _ => .non
  | _, _, .bl b, _ => .bl b
  | _, _, .int i, _ => .int i
  | _, _, .str x, _ => .str x
  | _, _, .ty x, _ => .ty x
  | _, _, .lst h r, n => by cases n
  | _, _, .tup h r, n => .tup (cut_seqT f s h) (cut_rps f s r (by rwa [noL] at n))
  | _, _, .ins h g r, n => .ins (cut_keep f s h (by intro _ z; cases z)) g (cut_rpf f s r (by rwa [noL] at n))
  | _, _, .scr h, n => by cases n
theorem cut_rps {F2 : Hp} {L2 : List (Addr × HO)} (f : FrzR F L F2 L2) (s : Same F2 F') : ∀ {vs : List V} {ds : List DL.D}, Rps K F' vs ds → noLs ds = true → Rps K (cut F F2 F') vs ds
  | _, _, .nil, _ => .nil
  | _, _, .cons h r, n => by
    rw [noLs, Bool.and_eq_true] at n
    exact .cons (cut_rp f s h n.1) (cut_rps f s r n.2)
theorem cut_rpf {F2 : Hp} {L2 : List (Addr × HO)} (f : FrzR F L F2 L2) (s : Same F2 F') : ∀ {vs : List (Str × V)} {ds : List (Str × DL.D)}, Rpf K F' vs ds → noLf ds = true → Rpf K (cut F F2 F') vs ds
  | _, _, .nil, _ => .nil
  | _, _, .cons h r, n => by
    rw [noLf, Bool.and_eq_true] at n
    exact .cons (cut_rp f s h n.1) (cut_rpf f s r n.2)
end
mutual
/-- a tree of which no part is another's list -/
def noT : Tr → Bool
  | .v d => noL d
  | .l ts => noTs ts
  | .t ts => noTs ts
def noTs : List Tr → Bool
  | [] => true
  | x :: xs => noT x && noTs xs
end
mutual
theorem cut_rd {F2 : Hp} {L2 : List (Addr × HO)} (f : FrzR F L F2 L2) (s : Same F2 F') : ∀ {L0 : List (Addr × HO)} {v : V} {t : Tr}, RD K F' L0 v t → noT t = true → RD K (cut F F2 F') L0 v t
  | _, _, _, .v h, n => .v (cut_rp f s h n)
  | _, _, _, .l r, n => .l (cut_rds f s r n)
  | _, _, _, .t h r, n => .t (cut_seqT f s h) (cut_rds f s r n)
theorem cut_rds {F2 : Hp} {L2 : List (Addr × HO)} (f : FrzR F L F2 L2) (s : Same F2 F') : ∀ {L0 : List (Addr × HO)} {vs : List V} {ts : List Tr}, RDs K F' L0 vs ts → noTs ts = true → RDs K (cut F F2 F') L0 vs ts
  | _, _, _, .nil, _ => .nil
  | _, _, _, .cons h r, n => by
    rw [noTs, Bool.and_eq_true] at n
    exact .cons (cut_rd f s h n.1) (cut_rds f s r n.2)
end
def clo : Rk → Bool
  | .val d => noL d
  | .own ds => noLs ds
  | .otup p ds q => noLs p && noLs ds && noLs q
  | .tre t => noT t
  | _ => false
theorem cut_rr {F2 : Hp} {L2 : List (Addr × HO)} (f : FrzR F L F2 L2) (s : Same F2 F') {τ : St} {L3 : List (Addr × HO)} {v : V} {r : Rk} (h : RR K F' τ L3 v r) (n : clo r = true) : RR K (cut F F2 F') σ L3 v r := by
  cases h with
  | val h => exact .val (cut_rp f s h n)
  | own h => exact .own (cut_rps f s h n)
  | bor => cases n
  | raw => cases n
  | otup t h1 h2 h3 =>
    rw [clo, Bool.and_eq_true, Bool.and_eq_true] at n
    exact .otup (cut_seqT f s t) (cut_rps f s h1 n.1.1) (cut_rps f s h2 n.1.2) (cut_rps f s h3 n.2)
  | tre y => exact .tre (cut_rd f s y n)
/-- back -/
theorem cut_env {F2 : Hp} {L2 L3 : List (Addr × HO)} (f : FrzR F L F2 L2) (w : W F (L ++ (L1 ++ Lf)) H) (sl : Sls K pa F L σ δ) (s : Same F2 F') (w2 : W F' (L3 ++ (L2 ++ Lf)) H') : Same F (cut F F2 F') ∧ Env K pa (cut F F2 F') H' σ δ (L3 ++ Lf) := by
  have sb : Same F (cut F F2 F') := cut_base (f.1.trans s)
  refine ⟨sb, L, ⟨?_, ?_, ?_, ?_⟩, sl.mono sb⟩
  · exact cut_sub.trans w2.fr
  · have n1 := w.nd
    have n2 := w2.nd
    simp only [List.map_append] at n1 n2 ⊢
    rw [List.nodup_append] at n1 n2 ⊢
    obtain ⟨a1, a2, a3⟩ := n1
    obtain ⟨b1, b2, b3⟩ := n2
    refine ⟨a1, ?_, ?_⟩
    · rw [List.nodup_append]
      exact ⟨b1, (List.nodup_append.mp a2).2.1, fun x hx y hy => b3 x hx y (List.mem_append_right _ hy)⟩
    · intro x hx y hy
      rcases List.mem_append.mp hy with hy | hy
      · obtain ⟨p, hp, rfl⟩ := List.mem_map.mp hx
        obtain ⟨p', hp', rfl⟩ := List.mem_map.mp hy
        intro e
        rcases f.2.1 p hp with z | z
        · exact b3 p'.1 hy p.1 (List.mem_append_left _ (List.mem_map_of_mem z)) e.symm
        · have o := w2.off p' (List.mem_append_left _ hp')
          rw [← e, s _ _ z] at o
          cases o
      · exact a3 x hx y (List.mem_append_right _ hy)
  · intro p hp
    rcases List.mem_append.mp hp with hp | hp
    · rcases f.2.1 p hp with z | z
      · exact w2.at_ p (List.mem_append_right _ (List.mem_append_left _ z))
      · exact w2.fr _ _ (s _ _ z)
    · rcases List.mem_append.mp hp with hp | hp
      · exact w2.at_ p (List.mem_append_left _ hp)
      · exact w2.at_ p (List.mem_append_right _ (List.mem_append_right _ hp))
  · intro p hp
    have key : F' p.1 = none → cut F F2 F' p.1 = none := fun z => by unfold cut; split <;> first | rfl | exact z
    rcases List.mem_append.mp hp with hp | hp
    · have o1 := w.off p (List.mem_append_left _ hp)
      rcases f.2.1 p hp with z | z
      · exact key (w2.off p (List.mem_append_right _ (List.mem_append_left _ z)))
      · unfold cut; rw [if_pos ⟨o1, by rw [z]; simp⟩]
    · rcases List.mem_append.mp hp with hp | hp
      · exact key (w2.off p (List.mem_append_left _ hp))
      · exact key (w2.off p (List.mem_append_right _ (List.mem_append_right _ hp)))
def noX : Option (List (Str × DL.D)) → Prop
  | some fs => noLf fs = true
  | none => True
/-- a call; what was handed in stays the frame's own -/
def dCallT (dsp : DSp) (a : DTA) : DTE := fun X δ Q => a X δ fun rs δ1 => frzs rs δ1 fun ds _ => dsp ds (fun r => clo r = true ∧ Q r δ1) (fun C g => noX g ∧ X C g δ1)
def dCallT0 (dsp : DSp) (a : DTA) : DTE := fun X δ Q => a X δ fun rs δ1 => frzs rs δ1 fun ds _ => dsp ds (fun r => clo r = true ∧ Q r δ1) (fun _ _ => False)
theorem DE.callT {dsp : DSp} {E : XK} {ta : TA} {a : DTA} (hE : ∀ c d σ H, Wx c d σ H → E c d H) (h : DA K pa Wx ta a) : DE K pa Wx (tCall (spP K dsp) [] E ta) (dCallT dsp a) := by
  intro F H σ δ Lf X Q' Q hEn hX q k
  refine h F H σ δ Lf X _ _ hEn hX q fun F1 H1 vs rs δ1 L1 s1 E1 R1 q => ?_
  obtain ⟨L, w, sl⟩ := E1
  obtain ⟨F2, ds, δ2, L2, f, w2, sl2, hds, q⟩ := frzs_okR w sl R1 q
  show spP K dsp (vs ++ []) H1 Q E
  rw [List.append_nil]
  refine ⟨F2, L2 ++ Lf, ds, _, _, w2, hds, q, fun F' H' v r L3 s w3 rr ⟨hc, q⟩ => ?_, fun F' H' C d ws gs s w3 e r ⟨hc, q⟩ => ?_, fun F' H' C s w3 ⟨hc, q⟩ => ?_⟩
  · obtain ⟨sb, E4⟩ := cut_env f w sl s w3
    exact k _ H' v r δ1 L3 (s1.trans sb) E4 (cut_rr f s rr hc) q
  · obtain ⟨sb, E4⟩ := cut_env (L3 := []) f w sl s w3
    exact hE _ _ σ _ (hX.some_ _ H' σ δ1 C d ws gs (s1.trans sb) E4 (cut_keep f s e (by intro _ z; cases z)) (cut_rpf f s r hc) q)
  · obtain ⟨sb, E4⟩ := cut_env (L3 := []) f w sl s w3
    exact hE _ _ σ _ (hX.none_ _ H' σ δ1 C (s1.trans sb) E4 q)
theorem DE.callT0 {dsp : DSp} {E : XK} {ta : TA} {a : DTA} (h : DA K pa Wx ta a) : DE K pa Wx (tCall (spP K dsp) [] E ta) (dCallT0 dsp a) := by
  intro F H σ δ Lf X Q' Q hEn hX q k
  refine h F H σ δ Lf X _ _ hEn hX q fun F1 H1 vs rs δ1 L1 s1 E1 R1 q => ?_
  obtain ⟨L, w, sl⟩ := E1
  obtain ⟨F2, ds, δ2, L2, f, w2, sl2, hds, q⟩ := frzs_okR w sl R1 q
  show spP K dsp (vs ++ []) H1 Q E
  rw [List.append_nil]
  refine ⟨F2, L2 ++ Lf, ds, _, _, w2, hds, q, fun F' H' v r L3 s w3 rr ⟨hc, q⟩ => ?_, (fun _ _ _ _ _ _ _ _ _ _ q => q.elim), (fun _ _ _ _ _ q => q.elim)⟩
  obtain ⟨sb, E4⟩ := cut_env f w sl s w3
  exact k _ H' v r δ1 L3 (s1.trans sb) E4 (cut_rr f s rr hc) q
theorem DE.callST {dsp : DSp} {ta : TA} {a : DTA} (h : DA K pa Wx ta a) : DE K pa Wx (tCallS (spP K dsp) (WE Wx) ta) (dCallT dsp a) := by
  intro F H σ δ Lf X Q' Q hEn hX q k
  refine h F H σ δ Lf X _ _ hEn hX q fun F1 H1 vs rs δ1 L1 s1 E1 R1 q => ?_
  obtain ⟨L, w, sl⟩ := E1
  obtain ⟨F2, ds, δ2, L2, f, w2, sl2, hds, q⟩ := frzs_okR w sl R1 q
  refine ⟨F2, L2 ++ Lf, ds, _, _, w2, hds, q, fun F' H' v r L3 s w3 rr ⟨hc, q⟩ => ?_, fun F' H' C d ws gs s w3 e r ⟨hc, q⟩ => ?_, fun F' H' C s w3 ⟨hc, q⟩ => ?_⟩
  · obtain ⟨sb, E4⟩ := cut_env f w sl s w3
    exact k _ H' v r δ1 L3 (s1.trans sb) E4 (cut_rr f s rr hc) q
  · obtain ⟨sb, E4⟩ := cut_env (L3 := []) f w sl s w3
    exact (hX.some_ _ H' σ δ1 C d ws gs (s1.trans sb) E4 (cut_keep f s e (by intro _ z; cases z)) (cut_rpf f s r hc) q)
  · obtain ⟨sb, E4⟩ := cut_env (L3 := []) f w sl s w3
    exact (hX.none_ _ H' σ δ1 C (s1.trans sb) E4 q)
/-! ### calls in a try that change a list; makings in a try; methods -/
theorem DE.callMS {dsp : DSm} {ta : TA} {a : DTA} (h : DA K pa Wx ta a) : DE K pa Wx (tCallS (spM K dsp) (WE Wx) ta) (dCallM dsp a) := by
  intro F H σ δ Lf X Q' Q hEn hX q k
  refine h F H σ δ Lf X _ _ hEn hX q fun F1 H1 vs rs δ1 L1 s1 E1 R1 q => ?_
  exact callM_ok E1 R1 q (fun F' H' v r δ' L1 s => k F' H' v r δ' L1 (s1.trans s)) (fun F' H' δ' C d ws gs s E' e r q => (hX.some_ F' H' σ δ' C d ws gs (s1.trans s) E' e r q)) (fun F' H' δ' C s E' q => (hX.none_ F' H' σ δ' C (s1.trans s) E' q))
/-! ### a tuple with one list of the frame's own -/
/-- the parts that stand; the one that is own -/
def tupOK (δ : List Sl) : List Rk → (List DL.D → List DL.D → List DL.D → List Sl → Prop) → Prop
  | [], _ => False
  | .val d :: rs, Q => tupOK δ rs fun p ds q δ' => Q (d :: p) ds q δ'
  | .own ds :: rs, Q => frzs rs δ fun q δ' => Q [] ds q δ'
  | .bor i :: rs, Q => match δ[i]? with
    | some (.own ds) => frzs rs (δ.set i .dead) fun q δ' => Q [] ds q δ'
    | _ => False
  | _ :: _, _ => False
def dTupO (a : DTA) : DTE := fun X δ Q => a X δ fun rs δ1 => tupOK δ1 rs fun p ds q δ2 => p.length + q.length ≤ 99999 ∧ Q (.otup p ds q) δ2
theorem tupO_ok {R : Prop} : ∀ {rs : List Rk} {vs : List V} {F : Hp} {δ : List Sl} {L1 : List (Addr × HO)} {Q : List DL.D → List DL.D → List DL.D → List Sl → Prop}, Env K pa F H σ δ (L1 ++ Lf) → RRs K F σ L1 vs rs → tupOK δ rs Q →
    (∀ F' δ' a us ws xs p ds q, vs = us ++ .ref a :: ws → Same F F' → Env K pa F' H σ δ' ((a, .lst xs) :: Lf) → Rps K F' us p → Rps K F' xs ds → Rps K F' ws q → Q p ds q δ' → R) → R
  | [], vs, F, δ, L1, Q, hE, rr, h, k => h.elim
  | .val d :: rs, vs, F, δ, L1, Q, hE, rr, h, k => by
    cases rr with
    | @cons L1 L2 v _ vs _ r1 r2 =>
      cases r1 with
      | val hv =>
        rw [List.append_nil] at hE
        exact tupO_ok hE r2 h fun F' δ' a us ws xs p ds q e s E2 h1 h2 h3 q => k F' δ' a (v :: us) ws xs _ ds _ (by rw [e]; rfl) s E2 (.cons (hv.mono s) h1) h2 h3 q
  | .own ds :: rs, vs, F, δ, L1, Q, hE, rr, h, k => by
    cases rr with
    | @cons L1 L2 v _ vs _ r1 r2 =>
      cases r1 with
      | @own a xs ds hv =>
        have E1 : Env K pa F H σ δ (L2 ++ ((a, .lst xs) :: Lf)) := hE.permF (by rw [List.append_assoc]; exact List.Perm.refl _)
        exact frzs_ok E1 r2 h fun F' q δ' s E2 h3 q => k F' δ' a [] vs xs [] ds _ rfl s E2 .nil (hv.mono s) h3 q
  | .bor i :: rs, vs, F, δ, L1, Q, hE, rr, h, k => by
    cases rr with
    | @cons L1 L2 v _ vs _ r1 r2 =>
      cases r1 with
      | bor e =>
        rw [List.append_nil] at hE
        unfold tupOK at h
        cases e2 : δ[i]? with
        | none => rw [e2] at h; exact h.elim
        | some sl =>
          rw [e2] at h
          cases sl with
          | own ds =>
            obtain ⟨L, w, sl⟩ := hE
            obtain ⟨a, xs, L', h1, h2, h3, h4⟩ := sl.take e2
            rw [e] at h1
            cases h1
            have E1 : Env K pa F H σ (δ.set i .dead) (L2 ++ ((a, .lst xs) :: Lf)) := by
              refine ⟨L', w.perm ?_, h4⟩
              refine (h2.append_right _).trans ?_
              rw [List.cons_append, ← List.append_assoc]
              refine List.perm_middle.symm.trans ?_
              rw [List.append_assoc]
            exact frzs_ok E1 r2 h fun F' q δ' s E2 h5 q => k F' δ' a [] vs xs [] ds _ rfl s E2 .nil (h3.mono s) h5 q
          | _ => exact h.elim
  | .raw _ :: rs, vs, F, δ, L1, Q, hE, rr, h, k => h.elim
  | .otup _ _ _ :: rs, vs, F, δ, L1, Q, hE, rr, h, k => h.elim
  | .tre _ :: rs, vs, F, δ, L1, Q, hE, rr, h, k => h.elim
theorem DE.tupO {ta : TA} {a : DTA} (h : DA K pa Wx ta a) : DE K pa Wx (tTup ta) (dTupO a) := by
  intro F H σ δ Lf X Q' Q hE hX q k
  refine h F H σ δ Lf X _ _ hE hX q fun F1 H1 vs rs δ1 L1 s1 E1 R1 q => ?_
  refine tupO_ok E1 R1 q fun F2 δ2 a us ws xs p ds q e s2 E2 h1 h2 h3 z => ?_
  subst e
  refine ⟨?_, fun T hT => ?_⟩
  · rw [List.length_append, List.length_cons, h1.length, h3.length]
    exact Nat.le_of_lt (small1000' (by omega))
  · have E3 := E2.newF (o := .tup (us ++ .ref a :: ws)) hT
    exact k _ _ _ _ δ2 [(a, .lst xs)] (s1.trans (s2.trans E3.1)) E3.2 (.otup (SqT.of upd_same) (h1.mono E3.1) (h2.mono E3.1) (h3.mono E3.1)) z.2
/-- i = x[c], x a tuple of the frame's own, and x no more -/
def mvK (i j : Nat) (c : Int) (N : List Sl → Prop) (δ : List Sl) : Option Sl → Prop
  | some (.otup p ds _) => c = (p.length : Int) ∧ i < δ.length ∧ N ((δ.set j .dead).set i (.own ds))
  | _ => False
def dMv (i j : Nat) (c : Int) : DTS := fun D δ => mvK i j c D.nx δ δ[j]?
theorem DS.mv {i j : Nat} {c : Int} : DS K pa Wx (tAsg (tOp (aIx K) (tVar j) (tC (.int c))) (gName i)) (dMv i j c) := by
  intro F H σ δ Lf D D' hE hS q
  unfold dMv at q
  cases e : δ[j]? with
  | none => rw [e] at q; exact q.elim
  | some sl =>
    rw [e] at q
    cases sl with
    | otup p ds q0 =>
      obtain ⟨rfl, hi, q⟩ := q
      obtain ⟨L, w, s⟩ := hE
      obtain ⟨a, T, us, vs, ws, L', h1, h2, h3, h4, h5, h6, h7⟩ := s.takeO e
      refine ⟨_, h1, us ++ .ref a :: ws, .ref a, .inr (w.fr.seqT h3), ?_, ?_⟩
      · rw [← h4.length]
        exact atI_nat (by rw [List.getElem?_append_right (Nat.le_refl _), Nat.sub_self]; rfl)
      · have E1 : Env K pa F H σ (δ.set j .dead) ([(a, .lst vs)] ++ Lf) := ⟨L', w.perm ((h2.append_right _).trans List.perm_middle.symm), h7 _ _ (Same.refl _) (.inl rfl)⟩
        exact hS.nx F H _ _ (Same.refl _) (E1.put (by rw [List.length_set]; exact hi) (.own h5 .nil)) q
    | _ => exact q.elim
theorem o_6 {i j : Nat} {c : Int} {N : List Sl → Prop} {p ds q : List DL.D} : mvK i j c N δ (some (.otup p ds q)) = (c = (p.length : Int) ∧ i < δ.length ∧ N ((δ.set j .dead).set i (.own ds))) := rfl
theorem o_7 {δ : List Sl} {d : DL.D} {rs : List Rk} {Q : List DL.D → List DL.D → List DL.D → List Sl → Prop} : tupOK δ (.val d :: rs) Q = tupOK δ rs fun p ds q δ' => Q (d :: p) ds q δ' := rfl
theorem o_8 {δ : List Sl} {ds : List DL.D} {rs : List Rk} {Q : List DL.D → List DL.D → List DL.D → List Sl → Prop} : tupOK δ (.own ds :: rs) Q = frzs rs δ fun q δ' => Q [] ds q δ' := rfl
def tupB (i : Nat) (δ : List Sl) (rs : List Rk) (Q : List DL.D → List DL.D → List DL.D → List Sl → Prop) : Option Sl → Prop
  | some (.own ds) => frzs rs (δ.set i .dead) fun q δ' => Q [] ds q δ'
  | _ => False
theorem o_9 {δ : List Sl} {i : Nat} {rs : List Rk} {Q : List DL.D → List DL.D → List DL.D → List Sl → Prop} : tupOK δ (.bor i :: rs) Q = tupB i δ rs Q δ[i]? := rfl
theorem o_10 {δ : List Sl} {i : Nat} {ds : List DL.D} {rs : List Rk} {Q : List DL.D → List DL.D → List DL.D → List Sl → Prop} : tupB i δ rs Q (some (.own ds)) = frzs rs (δ.set i .dead) fun q δ' => Q [] ds q δ' := rfl
end
end DL
/-! The law's own promise; own makers. -/
namespace DL
open PySem L2 Hse
def spLaw (K : PySem.W.Frag) : Sp := fun vs H Q _ => ∃ (s : Addr) (ns : List Int), vs = [.ref s] ∧ SqL K H s (ns.map V.int) ∧ ∀ H', Q (.bl true) H'
def dsLaw : DSp := fun ds Q _ => ∃ ns : List Int, ds = [.scr ns] ∧ Q (.val (.bl true))
theorem spLaw_spP {K : PySem.W.Frag} (vs : List V) (H : Hp) (Q : VK) (E : XK) (h : spLaw K vs H Q E) : spP K dsLaw vs H Q E := by
  obtain ⟨s, ns, rfl, hS, k⟩ := h
  refine ⟨H, [], [.scr ns], fun r => r = .val (.bl true), fun _ _ => False, ⟨Same.refl _, by simp, by simp, by simp⟩, .cons (.scr hS) .nil, ⟨ns, rfl, rfl⟩, fun F' H' v r L1 s w rr e => ?_, fun _ _ _ _ _ _ _ _ _ _ q => q.elim, fun _ _ _ _ _ q => q.elim⟩
  subst e
  cases rr with
  | val h => cases h; exact k H'
def dsTrue (P : List D → Prop) : DSp := fun ds Q _ => P ds ∧ Q (.val (.bl true))
theorem lk_hit {f : Str} {d : D} {r : List (Str × D)} : List.lookup f ((f, d) :: r) = some d := by rw [List.lookup_cons]; simp
theorem lk_miss {f g : Str} {d : D} {r : List (Str × D)} (h : (f == g) = false) : List.lookup f ((g, d) :: r) = List.lookup f r := by rw [List.lookup_cons, h]
theorem lk_nil {f : Str} : List.lookup f ([] : List (Str × D)) = none := rfl
/-! ### thaw: an expression that only reads the frame's lists -/
def thSl : Sl → Sl
  | .own ds => .val (.lst ds)
  | .par ds => .val (.lst ds)
  | .otup p ds q => .val (.tup (p ++ .lst ds :: q))
  | .tre t => .val t.d
  | .obj _ _ => .dead
  | s => s
section
variable {K : PySem.W.Frag} {pa : Addr} {F F' H H' : Hp} {L Lf L1 : List (Addr × HO)} {σ σ' : St} {δ δ' : List Sl} {Wx : WX} {X : DX}
theorem Sls.frzA (h : Sls K pa F L σ δ) : ∀ {F0 : Hp} {Lf : List (Addr × HO)}, Same F F0 → W F0 (L ++ Lf) H → ∃ F2 L2, FrzR F0 L F2 L2 ∧ W F2 (L2 ++ Lf) H ∧ Sls K pa F2 [] σ (δ.map thSl) := by
  induction h with
  | nil => intro F0 Lf s w; exact ⟨F0, [], FrzR.refl, w, .nil⟩
  | dead x h ih => intro F0 Lf s w; obtain ⟨F2, L2, f, w2, s2⟩ := ih s w; exact ⟨F2, L2, f, w2, .dead x s2⟩
  | val y h ih => intro F0 Lf s w; obtain ⟨F2, L2, f, w2, s2⟩ := ih s w; exact ⟨F2, L2, f, w2, .val (y.mono (s.trans f.1)) s2⟩
  | raw y h ih => intro F0 Lf s w; obtain ⟨F2, L2, f, w2, s2⟩ := ih s w; exact ⟨F2, L2, f, w2, .raw y s2⟩
  | exc e y h ih => intro F0 Lf s w; obtain ⟨F2, L2, f, w2, s2⟩ := ih s w; exact ⟨F2, L2, f, w2, .exc ((s.trans f.1) _ _ e) (y.mono (s.trans f.1)) s2⟩
  | exc0 h ih => intro F0 Lf s w; obtain ⟨F2, L2, f, w2, s2⟩ := ih s w; exact ⟨F2, L2, f, w2, .exc0 s2⟩
  | @own L σ δ a vs ds y h ih =>
    intro F0 Lf s w
    obtain ⟨sF, w1⟩ := W.frz w
    obtain ⟨F2, L2, f, w2, s2⟩ := ih (s.trans sF) w1
    refine ⟨F2, L2, (FrzR.cell (L := (a, .lst vs) :: L) (L2 := L) sF fun p hp => ?_).trans f, w2, .val (.lst (f.1 _ _ upd_same) (y.mono ((s.trans sF).trans f.1))) s2⟩
    rcases List.mem_cons.mp hp with z | z
    · exact .inr z
    · exact .inl z
  | @par L σ δ vs ds y h ih =>
    intro F0 Lf s w
    obtain ⟨sF, w1⟩ := W.frz w
    obtain ⟨F2, L2, f, w2, s2⟩ := ih (s.trans sF) w1
    refine ⟨F2, L2, (FrzR.cell (L := (pa, .lst vs) :: L) (L2 := L) sF fun p hp => ?_).trans f, w2, .val (.lst (f.1 _ _ upd_same) (y.mono ((s.trans sF).trans f.1))) s2⟩
    rcases List.mem_cons.mp hp with z | z
    · exact .inr z
    · exact .inl z
  | @otup L σ δ a T us vs ws p ds q t y1 y2 y3 h ih =>
    intro F0 Lf s w
    obtain ⟨sF, w1⟩ := W.frz w
    obtain ⟨F2, L2, f, w2, s2⟩ := ih (s.trans sF) w1
    have sa := (s.trans sF).trans f.1
    refine ⟨F2, L2, (FrzR.cell (L := (a, .lst vs) :: L) (L2 := L) sF fun p hp => ?_).trans f, w2, .val (.tup (sa.seqT t) ((y1.mono sa).append (.cons (.lst (f.1 _ _ upd_same) (y2.mono sa)) (y3.mono sa)))) s2⟩
    rcases List.mem_cons.mp hp with z | z
    · exact .inr z
    · exact .inl z
  | @tre L9 L σ δ v t y h ih =>
    intro F0 Lf s w
    rw [List.append_assoc] at w
    obtain ⟨F1, sF, k1, n1, w1, r⟩ := (y.mono s).frz w
    obtain ⟨F2, L2, f, w2, s2⟩ := ih (s.trans sF) w1
    refine ⟨F2, L2, FrzR.trans (F2 := F1) (L2 := L) ⟨sF, fun p hp => ?_, n1⟩ f, w2, .val (r.mono f.1) s2⟩
    rcases List.mem_append.mp hp with z | z
    · exact .inr (k1 p z)
    · exact .inl z
  | @obj L σ δ C dx vs fs g y h ih =>
    intro F0 Lf s w
    obtain ⟨F2, L2, f, w2, s2⟩ := ih (Lf := (pa, .ins C dx vs) :: Lf) s (w.perm List.perm_middle.symm)
    refine ⟨F2, (pa, .ins C dx vs) :: L2, ⟨f.1, fun p hp => ?_, f.2.2⟩, w2.perm List.perm_middle, .dead _ s2⟩
    rcases List.mem_cons.mp hp with rfl | z
    · exact .inl List.mem_cons_self
    · rcases f.2.1 p z with z | z
      · exact .inl (List.mem_cons_of_mem _ z)
      · exact .inr z
/-- .. what it gives holds no list -/
def dThaw (de : DTE) : DTE := fun _ δ Q => de (fun _ _ _ => False) (δ.map thSl) fun r _ => clo r = true ∧ Q r δ
theorem DE.thaw {te : TE} {de : DTE} (h : DE K pa Wx te de) : DE K pa Wx te (dThaw de) := by
  intro F H σ δ Lf X Q' Q hE hX q k
  obtain ⟨L, w, sl⟩ := hE
  obtain ⟨F2, L2, f, w2, s2⟩ := sl.frzA (Same.refl _) w
  refine h F2 H σ (δ.map thSl) (L2 ++ Lf) _ _ _ ⟨[], w2, s2⟩ ⟨fun _ _ _ _ _ _ _ _ _ _ _ _ z => z.elim, fun _ _ _ _ _ _ _ z => z.elim⟩ q fun F3 H3 v r δ3 L3 s3 E3 R3 q => ?_
  obtain ⟨L', w3, _⟩ := E3
  have w4 : W F3 (L3 ++ (L2 ++ Lf)) H3 := W.sub w3 (List.sublist_append_right _ _)
  obtain ⟨sb, E4⟩ := cut_env (L1 := []) f w sl s3 w4
  exact k _ H3 v r δ L3 sb E4 (cut_rr f s3 R3 q.1) q.2
end
theorem o_11 {de : DTE} {X : DX} {δ : List Sl} {Q : DQ} : dThaw de X δ Q = de (fun _ _ _ => False) (δ.map thSl) fun r _ => clo r = true ∧ Q r δ := rfl
theorem o_12 {ds : List D} : thSl (.own ds) = .val (.lst ds) := rfl
theorem o_13 {ds : List D} : thSl (.par ds) = .val (.lst ds) := rfl
theorem o_14 {d : D} : thSl (.val d) = .val d := rfl
theorem o_15 : thSl .dead = .dead := rfl
theorem o_16 {v : V} : thSl (.raw v) = .raw v := rfl
theorem o_17 {p ds q : List D} : thSl (.otup p ds q) = .val (.tup (p ++ .lst ds :: q)) := rfl
theorem o_18 {C : Addr} {fs : List (Str × D)} : thSl (.obj C fs) = .dead := rfl
theorem clo_li {ns : List Int} : clo (.own (li ns)) = true := by
  show noLs (li ns) = true
  induction ns with
  | nil => rfl
  | cons n ns ih => show (noL (.int n) && noLs (li ns)) = true; rw [ih]; rfl
theorem noLs_li {ns : List Int} : noLs (li ns) = true := clo_li
/-! ### a try that lets nothing out -/
def dTry0 (K : PySem.W.Frag) (body : DTS) (hs : List DHd) : DTS := fun D δ => body ⟨D.nx, D.bk, D.ct, D.rt, hsK K ⟨D.nx, D.bk, D.ct, D.rt, fun _ _ _ => False⟩ hs⟩ δ
theorem DS.try0 {K : PySem.W.Frag} {pa : Addr} {Wx : WX} {tb : WX → TS} {body : DTS} {l : List Hd} {dl : List DHd} (hb : ∀ W', DS K pa W' (tb W') body) (hh : DHs K pa (fun _ _ _ _ => False) l dl) : DS K pa Wx (fun D σ H => tb (wHds K (fun _ _ _ _ => False) D l) D σ H) (dTry0 K body dl) := by
  intro F H σ δ Lf D D' hE hS q
  have h0 : Sim K pa F Lf (fun _ _ _ _ => False) D ⟨D'.nx, D'.bk, D'.ct, D'.rt, fun _ _ _ => False⟩ := ⟨hS.nx, hS.bk, hS.ct, hS.rt, XSim.no⟩
  exact hb _ F H σ δ Lf D ⟨D'.nx, D'.bk, D'.ct, D'.rt, hsK K ⟨D'.nx, D'.bk, D'.ct, D'.rt, fun _ _ _ => False⟩ dl⟩ hE ⟨hS.nx, hS.bk, hS.ct, hS.rt, hs_ok hh h0⟩ q
theorem o_19 {K : PySem.W.Frag} {n0 b0 c0 : List Sl → Prop} {r0 : DQ} {x0 : DX} {body : DTS} {hs : List DHd} {δ : List Sl} : dTry0 K body hs ⟨n0, b0, c0, r0, x0⟩ δ = body ⟨n0, b0, c0, r0, hsK K ⟨n0, b0, c0, r0, fun _ _ _ => False⟩ hs⟩ δ := rfl
theorem o_20 {d : D} : clo (.val d) = noL d := rfl
theorem o_21 {ds : List D} : clo (.own ds) = noLs ds := rfl
theorem o_22 {p ds q : List D} : clo (.otup p ds q) = (noLs p && noLs ds && noLs q) := rfl
end DL
namespace L2
open PySem DL
theorem FnAt.noP {P : Program} {w : World} {K : PySem.W.Frag} {mg : Str → Option Value} {base : Heap} {f : Addr} {fd : FuncData} {x : Str} {st : Stmt} {ps : List Str} {k : Nat} {dsp : DSp} (F : Fun K x x st f fd) (hm : mg x = some (.ref f)) (hb : Binds K fd ps []) (h : ∀ ds Q X, ¬ dsp ds Q X := by exact fun _ _ _ h => h) : FnAt P w K mg base k x ps (spP K dsp) :=
  have no : ∀ {vs H Q E}, ¬ spP K dsp vs H Q E := fun ⟨_, _, _, _, _, _, _, hd, _⟩ => h _ _ _ hd
  ⟨f, fd, ⟨fun _ _ _ _ h => (no h).elim, fun _ _ _ _ _ _ _ _ _ _ _ _ _ h => (no h).elim⟩, hm, F.kp, hb⟩
theorem pi_seqK {X : Cx} {K : PySem.W.Frag} {tg l : Expr} {tl : TE} (hl : PE X l tl) (e : X.K = K) : PI X tg l (iSeq K tl) := e ▸ pi_seq hl
end L2
/-! Trees of own lists: what changes them. -/
namespace DL
open PySem L2
section
variable {K : PySem.W.Frag} {pa : Addr} {F F' H H' : Hp} {L Lf L1 : List (Addr × HO)} {σ σ' : St} {δ δ' : List Sl} {Wx : WX} {X : DX}
theorem RDs.snoc : ∀ {L L' : List (Addr × HO)} {us : List V} {es : List Tr} {v : V} {t : Tr}, RDs K F L us es → RD K F L' v t → RDs K F (L ++ L') (us ++ [v]) (es ++ [t])
  | _, L', _, _, _, _, .nil, h => by have := RDs.cons h .nil; rwa [List.append_nil] at this
  | _, L', _, _, _, _, .cons a r, h => by rw [List.append_assoc]; exact .cons a (RDs.snoc r h)
/-- one of the lists within -/
theorem RDs.at : ∀ {L : List (Addr × HO)} {vs : List V} {ts : List Tr} {k : Nat} {es : List Tr}, RDs K F L vs ts → ts[k]? = some (.l es) → ∃ b us La Lb Lc, vs[k]? = some (.ref b) ∧ L = La ++ ((b, .lst us) :: (Lb ++ Lc)) ∧ RDs K F Lb us es ∧
    ∀ F' us' es' Lb', Same F F' → RDs K F' Lb' us' es' → RDs K F' (La ++ ((b, .lst us') :: (Lb' ++ Lc))) vs (ts.set k (.l es'))
  | _, _, _, k, es, .nil, e => by simp at e
  | _, _, _, 0, es, .cons (L' := L') h r, e => by
    cases e
    cases h with
    | @l a L vs ts h => exact ⟨a, vs, [], L, L', rfl, rfl, h, fun F' us' es' Lb' s z => by
        have := RDs.cons (RD.l (a := a) z) (r.mono s)
        exact this⟩
  | _, _, _, k + 1, es, .cons (L := L0) (L' := L') h r, e => by
    obtain ⟨b, us, La, Lb, Lc, h1, h2, h3, h4⟩ := RDs.at r e
    refine ⟨b, us, L0 ++ La, Lb, Lc, h1, by rw [h2, List.append_assoc], h3, fun F' us' es' Lb' s z => ?_⟩
    rw [List.append_assoc]
    exact .cons (h.mono s) (h4 F' us' es' Lb' s z)
/-- x[i].append(e), x a tree -/
def atK (ts : List Tr) (R : Nat → List Tr → Prop) : Option DL.D → Prop
  | some (.int z) => ∃ k es, ixN ts.length z = some k ∧ ts[k]? = some (.l es) ∧ R k es
  | _ => False
def apT (j k : Nat) (ts es : List Tr) (Q : DQ) (ds : List DL.D) (δ : List Sl) : Prop := match ds with
  | [d] => es.length ≤ 100000 ∧ j < δ.length ∧ Q (.val .non) (δ.set j (.tre (.l (ts.set k (.l (es ++ [.v d]))))))
  | _ => False
def appT (j : Nat) (ix : DTE) (a : DTA) (δ : List Sl) (Q : DQ) : Option Sl → Prop
  | some (.tre (.l ts)) => ix (fun _ _ _ => False) (δ.set j .dead) fun r δ1 => atK ts (fun k es => a (fun _ _ _ => False) δ1 fun rs δ2 => frzs rs δ2 fun ds δ3 => apT j k ts es Q ds δ3) (dat δ1 r)
  | _ => False
def dAppT (j : Nat) (ix : DTE) (a : DTA) : DTE := fun _ δ Q => appT j ix a δ Q δ[j]?
theorem set_same {i : Nat} {x : Option V} (e : σ[i]? = some x) : σ.set i x = σ := by
  have hi : i < σ.length := (List.getElem?_eq_some_iff.mp e).1
  apply List.ext_getElem?
  intro j
  by_cases hj : i = j
  · subst hj; rw [List.getElem?_set_self hi, e]
  · rw [List.getElem?_set_ne hj]
theorem DE.appT {j : Nat} {ti : TE} {ta : TA} {ix : DTE} {a : DTA} (hi : DE K pa Wx ti ix) (h : DA K pa Wx ta a) : DE K pa Wx (tBM K "list" rAppend (tOp (aIx K) (tVar j) ti) ta) (dAppT j ix a) := by
  intro F H σ δ Lf X Q' Q hE hX q k
  unfold dAppT at q
  cases e : δ[j]? with
  | none => rw [e] at q; exact q.elim
  | some sl =>
    rw [e] at q
    cases sl with
    | tre t =>
      cases t with
      | l ts =>
        obtain ⟨L, w, s⟩ := hE
        obtain ⟨x, L0, L', h1, h2, h3, h4⟩ := s.out e
        cases h3 with
        | @tre L9 _ _ _ v _ y q9 =>
        cases q9
        rw [List.append_nil] at h2
        cases y with
        | @l p Lt vs ts y =>
        have E0 : Env K pa F H σ (δ.set j .dead) (((p, .lst vs) :: Lt) ++ Lf) := ⟨L', w.perm ((h2.append_right _).trans (by rw [← List.append_assoc L']; exact List.perm_append_comm.append_right _)), h4 _ _ (Same.refl _) (.dead _ .nil)⟩
        refine ⟨_, h1, ?_⟩
        refine hi F H σ _ (((p, .lst vs) :: Lt) ++ Lf) _ _ _ E0 ⟨fun _ _ _ _ _ _ _ _ _ _ _ _ z => z.elim, fun _ _ _ _ _ _ _ z => z.elim⟩ q fun F1 H1 u r δ1 L1 s1 E1 R1 q => ?_
        cases e2 : dat δ1 r with
        | none => rw [e2] at q; exact q.elim
        | some d =>
          rw [e2] at q
          have vw := view E1 R1 (fun p hp => List.mem_append_left _ hp) e2
          cases d with
          | int z =>
            obtain ⟨kk, es, k1, k2, q⟩ := q
            obtain ⟨b, us, La, Lb, Lc, g1, g2, g3, g4⟩ := y.at k2
            have E2 := E1.drop
            obtain ⟨LA, wA, sA⟩ := id E2
            have atp : H1 p = some (.lst vs) := wA.at_ (p, .lst vs) (by simp)
            have atb : H1 b = some (.lst us) := wA.at_ (b, .lst us) (by rw [g2]; simp)
            rw [vw.intD]
            refine ⟨vs, .ref b, .inl (SqL.of atp), ?_, .inl ⟨rfl, _, SqL.of atb⟩, ?_⟩
            · unfold atI; rw [y.length, k1]; exact g1
            · refine h F1 H1 σ δ1 (((p, .lst vs) :: Lt) ++ Lf) _ _ _ E2 ⟨fun _ _ _ _ _ _ _ _ _ _ _ _ z => z.elim, fun _ _ _ _ _ _ _ z => z.elim⟩ q fun F2 H2 ws rs δ2 L2 s2 E3 R3 q => ?_
              refine frzs_ok E3 R3 q fun F3 ds δ3 s3 E4 hds q => ?_
              unfold apT at q
              split at q
              · rename_i d9
                cases hds with
                | @cons u9 _ _ _ hv hn =>
                  cases hn
                  obtain ⟨q1, q2, q3⟩ := q
                  obtain ⟨LB, wB, sB⟩ := E4
                  have s03 := (s1.trans s2).trans s3
                  subst g2
                  have atb2 : H2 b = some (.lst us) := wB.at_ (b, .lst us) (by simp)
                  refine ⟨b, us, _, rfl, rfl, atb2, by rw [g3.length]; exact small1000' q1, ?_⟩
                  have pm : ∀ us', (LB ++ (((p, HO.lst vs) :: (La ++ ((b, HO.lst us') :: (Lb ++ Lc)))) ++ Lf)).Perm ((b, HO.lst us') :: (LB ++ (((p, HO.lst vs) :: (La ++ (Lb ++ Lc))) ++ Lf))) := fun us' => by
                    have : (LB ++ (((p, HO.lst vs) :: (La ++ ((b, HO.lst us') :: (Lb ++ Lc)))) ++ Lf)) = (LB ++ ((p, HO.lst vs) :: La)) ++ ((b, HO.lst us') :: ((Lb ++ Lc) ++ Lf)) := by simp
                    rw [this]
                    refine List.perm_middle.trans ?_
                    simp
                  have w5 := (wB.perm (pm us)).upd (o' := .lst (us ++ [u9])) 0 rfl
                  have w6 := W.perm w5 (pm _).symm
                  have y2 := RD.l (a := p) (g4 F3 _ _ (Lb ++ []) s03 ((g3.mono s03).snoc (.v hv)))
                  rw [List.append_nil] at y2
                  have E5 : Env K pa F3 _ (σ.set j (some (.ref p))) (δ3.set j (.tre (.l (ts.set kk (.l (es ++ [.v d9])))))) Lf := Env.put (L1 := (p, .lst vs) :: (La ++ ((b, .lst (us ++ [u9])) :: (Lb ++ Lc)))) ⟨LB, w6, sB⟩ q2 (by have := Sls.tre (L := []) (δ := []) (σ := []) (pa := pa) y2 .nil; rwa [List.append_nil] at this)
                  rw [set_same h1] at E5
                  exact k F3 _ _ _ _ [] s03 E5 (.val .non) q3
              · exact q.elim
          | _ => exact q.elim
      | _ => exact q.elim
    | _ => exact q.elim
end
end DL
/-! Comprehensions whose items are new lists: a tree. -/
namespace DL
open PySem L2
section
variable {K : PySem.W.Frag} {pa : Addr} {F F' H H' : Hp} {L Lf L1 : List (Addr × HO)} {σ σ' : St} {δ δ' : List Sl} {Wx : WX} {X : DX}
theorem Rps.rds : ∀ {vs : List V} {ds : List DL.D}, Rps K F vs ds → RDs K F [] vs (ds.map Tr.v)
  | _, _, .nil => .nil
  | _, _, .cons h r => by have := RDs.cons (RD.v h) (Rps.rds r); exact this
def trD (r : Rk) (δ : List Sl) (N : Tr → List Sl → Prop) : Prop := match r with
  | .own ds => N (.l (ds.map Tr.v)) δ
  | .tre t => N t δ
  | r => frzD r δ fun d δ' => N (.v d) δ'
theorem tr_ok {R : Prop} {v : V} {r : Rk} {N : Tr → List Sl → Prop} (hE : Env K pa F H σ δ (L1 ++ Lf)) (rr : RR K F σ L1 v r) (h : trD r δ N) (k : ∀ F' t δ' L1', Same F F' → Env K pa F' H σ δ' (L1' ++ Lf) → RD K F' L1' v t → N t δ' → R) : R := by
  cases rr with
  | own y => exact k F _ δ _ (Same.refl _) hE (.l y.rds) h
  | tre y => exact k F _ δ _ (Same.refl _) hE y h
  | val y => exact frz_ok (Q := fun d δ' => N (.v d) δ') hE (.val y) h fun F' d δ' s E r q => k F' _ δ' [] s E (.v r) q
  | bor e => exact frz_ok (Q := fun d δ' => N (.v d) δ') hE (.bor e) h fun F' d δ' s E r q => k F' _ δ' [] s E (.v r) q
  | raw v => exact frz_ok (Q := fun d δ' => N (.v d) δ') hE (.raw v) h fun F' d δ' s E r q => k F' _ δ' [] s E (.v r) q
  | otup a b c d => exact frz_ok (Q := fun d δ' => N (.v d) δ') hE (.otup a b c d) h fun F' d δ' s E r q => k F' _ δ' [] s E (.v r) q
def lcT' (de : DTE) (δ : List Sl) (N : Tr → List Sl → Prop) (M : List Sl → Prop) (b : Bool) : Prop := if b = true then de (fun _ _ _ => False) δ fun r δ1 => trD r δ1 N else M δ
def lcTK (items : List DL.D) (dg : DTG) (dt : DTT) (de : DTE) (vs : List Nat) (Q : DQ) (δ1 : List Sl) : Prop := items.length ≤ 100000 ∧ ∃ Inv : Nat → List Sl → List Tr → Prop, Inv 0 δ1 [] ∧
  (∀ i d δ acc, items[i]? = some d → Inv i δ acc → thin δ vs = true ∧ dg d (wip δ vs) fun δ2 => dt (fun _ _ _ => False) δ2 fun b δ3 => lcT' de δ3 (fun x δ4 => Inv (i + 1) (unw δ vs δ4) (acc ++ [x])) (fun δ4 => Inv (i + 1) (unw δ vs δ4) acc) b) ∧
  ∀ δ acc, Inv items.length δ acc → Q (.tre (.l acc)) δ
def dLcT (di : DTI) (dg : DTG) (dt : DTT) (de : DTE) (vs : List Nat) : DTE := fun X δ Q => di X δ fun items δ1 => lcTK items dg dt de vs Q δ1
theorem DE.lcT {ti : TI} {g : TG} {tt : TT} {te : TE} {vs ps : List Nat} {di : DTI} {dg : DTG} {dt : DTT} {de : DTE} (hi : DI K pa Wx ti di) (hg : DG K pa ps g dg) (hps : ∀ i ∈ ps, i ∈ vs) (ht : DT K pa Wx tt dt) (he : DE K pa Wx te de) :
    DE K pa Wx (tLc ti g tt te vs) (dLcT di dg dt de vs) := by
  intro F H σ δ Lf X Q' Q hE hX q k
  refine hi F H σ δ Lf X _ _ hE hX q fun F1 H1 items δ1 J s1 E1 hJ q => ?_
  obtain ⟨hlen, Inv, h0, hs, hd⟩ := q
  intro A hA
  refine ⟨fun i m H => ∃ F' δ ws acc Lt, Same F1 F' ∧ Env K pa F' H σ δ ((A, .lst ws) :: (Lt ++ Lf)) ∧ RDs K F' Lt ws acc ∧ acc.length ≤ i ∧ Inv i δ acc ∧ i ≤ items.length ∧ m = items.length - i, ⟨_, F1, δ1, [], [], [], Same.refl _, E1.new hA, .nil, Nat.zero_le _, h0, Nat.zero_le _, rfl⟩, ?_⟩
  rintro i m H2 ⟨F2, δ2, ws, acc, Lt, s2, E2, hw, hal, hI, hi, rfl⟩
  obtain ⟨L, w, sl⟩ := id E2
  obtain ⟨j1, j2⟩ := hJ F2 H2 _ s2 w
  cases e : items[i]? with
  | none =>
    have : i = items.length := by have := List.getElem?_eq_none_iff.mp e; omega
    subst this
    exact .inl ⟨j1 _ rfl, k F2 H2 _ _ δ2 ((A, .lst ws) :: Lt) (s1.trans s2) E2 (.tre (.l hw)) (hd δ2 acc hI)⟩
  | some d =>
    have hlt : i < items.length := (List.getElem?_eq_some_iff.mp e).1
    obtain ⟨g1, g2⟩ := j2 i d e
    refine .inr ⟨g1, fun H' => ∃ F' δ ws acc Lt, Same F1 F' ∧ Env K pa F' H' σ δ ((A, .lst ws) :: (Lt ++ Lf)) ∧ RDs K F' Lt ws acc ∧ acc.length ≤ i + 1 ∧ Inv (i + 1) δ acc, fun H' ⟨F', δ', ws, acc, Lt, a, b, c, d1, d2⟩ => ⟨items.length - (i + 1), by omega, F', δ', ws, acc, Lt, a, b, c, d1, d2, hlt, rfl⟩, fun x H3 y => ?_⟩
    obtain ⟨F3, s3, w3, hr⟩ := g2 x H3 y
    obtain ⟨hth, q⟩ := hs i d δ2 acc e hI
    have sl3 := sl.mono s3
    have E3 : Env K pa F3 H3 σ δ2 ((A, .lst ws) :: (Lt ++ Lf)) := ⟨L, w3, sl3⟩
    have E4 := E3.wipe hth
    have hlen2 : σ.length = δ2.length := sl.length
    refine hg F3 H3 _ _ _ x d _ _ E4 hr q fun σ5 δ5 E5 l5 o5 q => ?_
    have hw5 : L2.wipe σ5 vs = L2.wipe σ vs := by
      have a1 : L2.wipe σ5 vs = L2.wipe (L2.wipe σ vs) vs := wipe_ext l5 fun j hj => o5 j fun z => hj (hps j z)
      rw [a1]
      exact wipe_ext (wipe_len _ _) fun j hj => wipe_at hj
    refine ⟨hw5, ?_⟩
    have back : ∀ {F6 H6 δ6 Lx}, Same F3 F6 → Env K pa F6 H6 σ5 δ6 Lx → Env K pa F6 H6 σ (DL.unw δ2 vs δ6) Lx := fun {F6 H6 δ6 Lx} s6 E6 => by
      obtain ⟨L6, w6, sl6⟩ := id E6
      have hl6 : δ2.length = δ6.length := by rw [← sl6.length, l5, wipe_len, hlen2]
      have := E6.unw sl3 s6 hl6 hth
      have es : unwS σ vs σ5 = σ := by
        apply List.ext_getElem?
        intro j
        have hl5 : σ5.length = σ.length := by rw [l5, wipe_len]
        rw [unwS_at hl5]
        by_cases hj : j ∈ vs
        · rw [if_pos hj]
        · rw [if_neg hj, o5 j (fun z => hj (hps j z)), wipe_at hj]
      rw [es] at this
      exact this
    refine ht F3 H3 σ5 δ5 _ _ _ _ E5 XSim.no q fun F6 H6 b δ6 s6 E6 q => ?_
    cases b with
    | false => exact ⟨F6, _, ws, acc, Lt, s2.trans (s3.trans s6), back s6 E6, hw.mono (s3.trans s6), by omega, q⟩
    | true =>
      refine he F6 H6 σ5 δ6 _ _ _ _ E6 XSim.no q fun F7 H7 v r δ7 L7 s7 E7 R7 q => ?_
      refine tr_ok E7 R7 q fun F8 t8 δ8 L8 s8 E8 hd8 q => ?_
      have E9 := back (s6.trans (s7.trans s8)) E8
      obtain ⟨L9, w9, sl9⟩ := id E9
      have w9' : W F8 ((A, .lst ws) :: (L9 ++ (L8 ++ (Lt ++ Lf)))) _ := w9.perm (by rw [← List.append_assoc L9 L8 (_ :: _), ← List.append_assoc L9 L8 (Lt ++ Lf)]; exact List.perm_middle)
      refine ⟨ws, w9'.get 0 rfl, by rw [hw.length]; exact small1000' (by omega), ?_⟩
      have w10 := w9'.upd (o' := .lst (ws ++ [v])) 0 rfl
      have E10 : Env K pa F8 _ σ _ ((A, .lst (ws ++ [v])) :: ((Lt ++ L8) ++ Lf)) := ⟨L9, W.perm w10 (by
        refine List.Perm.trans ?_ List.perm_middle.symm
        refine List.Perm.cons _ (List.Perm.append_left _ ?_)
        rw [← List.append_assoc]
        exact List.perm_append_comm.append_right _), sl9⟩
      exact ⟨F8, _, _, _, _, s2.trans (s3.trans (s6.trans (s7.trans s8))), E10, (hw.mono (s3.trans (s6.trans (s7.trans s8)))).snoc hd8, by rw [List.length_append]; simp; omega, q⟩

end
end DL
/-! row = x[i]; row.append(e), x a tree. -/
namespace DL
open PySem L2
section
variable {K : PySem.W.Frag} {pa : Addr} {F F' H H' : Hp} {L Lf L1 : List (Addr × HO)} {σ σ' : St} {δ δ' : List Sl} {Wx : WX} {X : DX}
def rwT (j k : Nat) (ts es : List Tr) (N : List Sl → Prop) (ds : List DL.D) (δ : List Sl) : Prop := match ds with
  | [d] => es.length ≤ 100000 ∧ j < δ.length ∧ N (δ.set j (.tre (.l (ts.set k (.l (es ++ [.v d]))))))
  | _ => False
def rowT (i j : Nat) (ix : DTE) (a : DTA) (δ : List Sl) (N : List Sl → Prop) : Option Sl → Prop
  | some (.tre (.l ts)) => ix (fun _ _ _ => False) (δ.set j .dead) fun r δ1 => atK ts (fun k es => i ≠ j ∧ i < δ1.length ∧ a (fun _ _ _ => False) (δ1.set i .dead) fun rs δ2 => frzs rs δ2 fun ds δ3 => rwT j k ts es N ds δ3) (dat δ1 r)
  | _ => False
def dRowApp (i j : Nat) (ix : DTE) (a : DTA) : DTS := fun D δ => rowT i j ix a δ D.nx δ[j]?
theorem DS.rowApp {i j : Nat} {ti : TE} {ta : TA} {ix : DTE} {a : DTA} (hi : DE K pa Wx ti ix) (h : DA K pa Wx ta a) : DS K pa Wx (tSeq (tAsg (tOp (aIx K) (tVar j) ti) (gName i)) (tDrop (tBM K "list" rAppend (tVar i) ta))) (dRowApp i j ix a) := by
  intro F H σ δ Lf D D' hE hS q
  unfold dRowApp at q
  cases e : δ[j]? with
  | none => rw [e] at q; exact q.elim
  | some sl =>
    rw [e] at q
    cases sl with
    | tre t =>
      cases t with
      | l ts =>
        obtain ⟨L, w, s⟩ := hE
        obtain ⟨x, L0, L', h1, h2, h3, h4⟩ := s.out e
        cases h3 with
        | @tre L9 _ _ _ v _ y q9 =>
        cases q9
        rw [List.append_nil] at h2
        cases y with
        | @l p Lt vs ts y =>
        have E0 : Env K pa F H σ (δ.set j .dead) (((p, .lst vs) :: Lt) ++ Lf) := ⟨L', w.perm ((h2.append_right _).trans (by rw [← List.append_assoc L']; exact List.perm_append_comm.append_right _)), h4 _ _ (Same.refl _) (.dead _ .nil)⟩
        refine ⟨_, h1, ?_⟩
        refine hi F H σ _ (((p, .lst vs) :: Lt) ++ Lf) _ _ _ E0 ⟨fun _ _ _ _ _ _ _ _ _ _ _ _ z => z.elim, fun _ _ _ _ _ _ _ z => z.elim⟩ q fun F1 H1 u r δ1 L1 s1 E1 R1 q => ?_
        cases e2 : dat δ1 r with
        | none => rw [e2] at q; exact q.elim
        | some d =>
          rw [e2] at q
          have vw := view E1 R1 (fun p hp => List.mem_append_left _ hp) e2
          cases d with
          | int z =>
            obtain ⟨kk, es, k1, k2, q⟩ := q
            obtain ⟨b, us, La, Lb, Lc, g1, g2, g3, g4⟩ := y.at k2
            have E2 := E1.drop
            obtain ⟨LA, wA, sA⟩ := id E2
            have atp : H1 p = some (.lst vs) := wA.at_ (p, .lst vs) (by simp)
            have atb : H1 b = some (.lst us) := wA.at_ (b, .lst us) (by rw [g2]; simp)
            rw [vw.intD]
            obtain ⟨hij, hi1, q⟩ := q
            have hi2 : i < σ.length := by rw [sA.length]; exact hi1
            have E2 : Env K pa F1 H1 (σ.set i (some (.ref b))) (δ1.set i .dead) (((p, .lst vs) :: Lt) ++ Lf) := Env.put (L1 := []) E2 hi1 (.dead _ .nil)
            refine ⟨vs, .ref b, .inl (SqL.of atp), ?_, ?_⟩
            · unfold atI; rw [y.length, k1]; exact g1
            · refine ⟨.ref b, List.getElem?_set_self hi2, .inl ⟨rfl, _, SqL.of atb⟩, ?_⟩
              refine h F1 H1 _ _ (((p, .lst vs) :: Lt) ++ Lf) _ _ _ E2 ⟨fun _ _ _ _ _ _ _ _ _ _ _ _ z => z.elim, fun _ _ _ _ _ _ _ z => z.elim⟩ q fun F2 H2 ws rs δ2 L2 s2 E3 R3 q => ?_
              refine frzs_ok E3 R3 q fun F3 ds δ3 s3 E4 hds q => ?_
              unfold rwT at q
              split at q
              · rename_i d9
                cases hds with
                | @cons u9 _ _ _ hv hn =>
                  cases hn
                  obtain ⟨q1, q2, q3⟩ := q
                  obtain ⟨LB, wB, sB⟩ := E4
                  have s03 := (s1.trans s2).trans s3
                  subst g2
                  have atb2 : H2 b = some (.lst us) := wB.at_ (b, .lst us) (by simp)
                  refine ⟨b, us, _, rfl, rfl, atb2, by rw [g3.length]; exact small1000' q1, ?_⟩
                  have pm : ∀ us', (LB ++ (((p, HO.lst vs) :: (La ++ ((b, HO.lst us') :: (Lb ++ Lc)))) ++ Lf)).Perm ((b, HO.lst us') :: (LB ++ (((p, HO.lst vs) :: (La ++ (Lb ++ Lc))) ++ Lf))) := fun us' => by
                    have : (LB ++ (((p, HO.lst vs) :: (La ++ ((b, HO.lst us') :: (Lb ++ Lc)))) ++ Lf)) = (LB ++ ((p, HO.lst vs) :: La)) ++ ((b, HO.lst us') :: ((Lb ++ Lc) ++ Lf)) := by simp
                    rw [this]
                    refine List.perm_middle.trans ?_
                    simp
                  have w5 := (wB.perm (pm us)).upd (o' := .lst (us ++ [u9])) 0 rfl
                  have w6 := W.perm w5 (pm _).symm
                  have y2 := RD.l (a := p) (g4 F3 _ _ (Lb ++ []) s03 ((g3.mono s03).snoc (.v hv)))
                  rw [List.append_nil] at y2
                  have E5 : Env K pa F3 _ ((σ.set i (some (.ref b))).set j (some (.ref p))) (δ3.set j (.tre (.l (ts.set kk (.l (es ++ [.v d9])))))) Lf := Env.put (L1 := (p, .lst vs) :: (La ++ ((b, .lst (us ++ [u9])) :: (Lb ++ Lc)))) ⟨LB, w6, sB⟩ q2 (by have := Sls.tre (L := []) (δ := []) (σ := []) (pa := pa) y2 .nil; rwa [List.append_nil] at this)
                  rw [set_same (by rw [List.getElem?_set_ne hij]; exact h1)] at E5
                  exact hS.nx F3 _ _ _ s03 E5 q3
              · exact q.elim
          | _ => exact q.elim
      | _ => exact q.elim
    | _ => exact q.elim

end
end DL
/-! Trees: how the rules read. -/
namespace DL
open PySem L2
section
variable {i j k : Nat} {ix : DTE} {a : DTA} {X : DX} {δ : List Sl} {Q : DQ} {N : List Sl → Prop} {ts es : List Tr} {z : Int} {d : D} {ds : List D} {t : Tr} {R : Nat → List Tr → Prop} {M : Tr → List Sl → Prop} {D0 : DEnds} {di : DTI} {dg : DTG} {dt : DTT} {de : DTE} {vs : List Nat} {n0 b0 c0 : List Sl → Prop} {r0 : DQ} {x0 : DX}
theorem q_6 : dAppT j ix a X δ Q = appT j ix a δ Q δ[j]? := rfl
theorem q_7 : appT j ix a δ Q (some (.tre (.l ts))) = ix (fun _ _ _ => False) (δ.set j .dead) fun r δ1 => atK ts (fun k es => a (fun _ _ _ => False) δ1 fun rs δ2 => frzs rs δ2 fun ds δ3 => apT j k ts es Q ds δ3) (dat δ1 r) := rfl
theorem q_8 : atK ts R (some (.int z)) = ∃ k es, ixN ts.length z = some k ∧ ts[k]? = some (.l es) ∧ R k es := rfl
theorem q_9 : apT j k ts es Q [d] δ = (es.length ≤ 100000 ∧ j < δ.length ∧ Q (.val .non) (δ.set j (.tre (.l (ts.set k (.l (es ++ [.v d]))))))) := rfl
theorem q_10 : dRowApp i j ix a ⟨n0, b0, c0, r0, x0⟩ δ = rowT i j ix a δ n0 δ[j]? := rfl
theorem q_11 : rowT i j ix a δ N (some (.tre (.l ts))) = ix (fun _ _ _ => False) (δ.set j .dead) fun r δ1 => atK ts (fun k es => i ≠ j ∧ i < δ1.length ∧ a (fun _ _ _ => False) (δ1.set i .dead) fun rs δ2 => frzs rs δ2 fun ds δ3 => rwT j k ts es N ds δ3) (dat δ1 r) := rfl
theorem q_12 : rwT j k ts es N [d] δ = (es.length ≤ 100000 ∧ j < δ.length ∧ N (δ.set j (.tre (.l (ts.set k (.l (es ++ [.v d]))))))) := rfl
theorem q_13 : trD (.own ds) δ M = M (.l (ds.map Tr.v)) δ := rfl
theorem q_14 : trD (.tre t) δ M = M t δ := rfl
theorem q_15 : trD (.val d) δ M = M (.v d) δ := rfl
theorem q_16 : trD (.bor i) δ M = frzB i δ (fun d δ' => M (.v d) δ') δ[i]? := rfl
theorem q_17 : dLcT di dg dt de vs X δ Q = di X δ fun items δ1 => lcTK items dg dt de vs Q δ1 := rfl
theorem q_18 : lcT' de δ M N true = de (fun _ _ _ => False) δ fun r δ1 => trD r δ1 M := rfl
theorem q_19 : lcT' de δ M N false = N δ := rfl
theorem q_20 : thSl (.tre t) = .val t.d := rfl
theorem q_21 : (Tr.v d).d = d := rfl
theorem q_22 : (Tr.l ts).d = .lst (Tr.ds ts) := rfl
theorem q_23 : (Tr.t ts).d = .tup (Tr.ds ts) := rfl
theorem q_24 : clo (.tre t) = noT t := rfl
theorem Tr.ds_map : ∀ ts : List Tr, Tr.ds ts = ts.map Tr.d
  | [] => rfl
  | x :: xs => by rw [List.map_cons, ← Tr.ds_map xs]; rfl
/-- a comprehension without an if whose items are trees -/
theorem lcT_map {items : List D} {dg : DTG} {de : DTE} {vs : List Nat} {Q : DQ} (f : Nat → Tr) (hl : items.length ≤ 100000) (ht : thin δ vs = true)
    (hs : ∀ (i : Nat) (d : D) (N : Tr → List Sl → Prop), items[i]? = some d → (∀ δ4, unw δ vs δ4 = δ → N (f i) δ4) → dg d (wip δ vs) fun δ2 => de (fun _ _ _ => False) δ2 fun r δ3 => trD r δ3 N)
    (q : Q (.tre (.l ((List.range items.length).map f))) δ) : lcTK items dg dYes de vs Q δ := by
  refine ⟨hl, fun i δ' acc => δ' = δ ∧ acc = (List.range i).map f, ⟨rfl, rfl⟩, ?_, ?_⟩
  · rintro i d δ' acc e ⟨rfl, rfl⟩
    refine ⟨ht, hs i d _ e fun δ4 h4 => ⟨h4, ?_⟩⟩
    rw [List.range_succ, List.map_append]; rfl
  · rintro δ' acc ⟨rfl, rfl⟩; exact q
end
end DL
/-! x.insert(i, e) -/
namespace DL
open PySem L2
section
variable {K : PySem.W.Frag} {pa : Addr} {F F' H H' : Hp} {L Lf L1 : List (Addr × HO)} {σ σ' : St} {δ δ' : List Sl} {Wx : WX} {X : DX}
abbrev rIns : V → List V → Hp → VK → Prop := fun x vs H Q => ∃ (l : Addr) (xs : List V) (i : Int) (y : V), x = .ref l ∧ vs = [.int i, y] ∧ H l = some (.lst xs) ∧ xs.length < sizeLine ∧ 0 ≤ i ∧ i < 2 ^ 63 ∧
    Q .non (upd H l (.lst (xs.take i.toNat ++ [y] ++ xs.drop i.toNat)))
def insK (Q : DQ) (i : Nat) (ds : List DL.D) (δ : List Sl) : Prop := match ds with
  | [.int z, d] => lisK δ i (fun xs f => (xs.length ≤ 100000 ∧ 0 ≤ z ∧ z ≤ 1000000) ∧ Q (.val .non) (f (xs.take z.toNat ++ [d] ++ xs.drop z.toNat))) δ[i]?
  | _ => False
def dIns (i : Nat) (a : DTA) : DTE := fun X δ Q => isLs δ[i]? ∧ a X δ fun rs δ1 => frzs rs δ1 fun ds δ2 => insK Q i ds δ2
theorem DE.ins {i : Nat} {ta : TA} {a : DTA} (h : DA K pa Wx ta a) : DE K pa Wx (tBM K "list" rIns (tVar i) ta) (dIns i a) := by
  intro F H σ δ Lf X Q' Q hE hX q k
  obtain ⟨p, vs0, hp, hp2⟩ := isLs_ok hE q.1
  refine ⟨_, hp, .inl ⟨rfl, _, SqL.of hp2⟩, ?_⟩
  refine h F H σ δ Lf X _ _ hE hX q.2 fun F1 H1 vs rs δ1 L1 s1 E1 R1 q => ?_
  refine frzs_ok E1 R1 q fun F2 ds δ2 s2 E2 R2 q => ?_
  unfold insK at q
  split at q
  · cases R2 with
    | cons hv hn =>
      cases hn with
      | cons hv2 hn =>
      cases hn
      cases hv
      obtain ⟨a, us, es, f, h1, h2, h3, ⟨⟨h4, h5, h6⟩, h7⟩, h8⟩ := lis_ok E2 q
      rw [hp] at h1
      cases h1
      exact ⟨_, us, _, _, rfl, rfl, h2, by rw [h3.length]; exact small1000' h4, h5, by omega, k F2 _ _ _ _ [] (s1.trans s2) (h8 _ _ (((h3.take _).append (.cons hv2 .nil)).append (h3.drop _))) (.val .non) h7⟩
  · exact q.elim
theorem q_25 {i : Nat} {a : DTA} {X : DX} {δ : List Sl} {Q : DQ} : dIns i a X δ Q = (isLs δ[i]? ∧ a X δ fun rs δ1 => frzs rs δ1 fun ds δ2 => insK Q i ds δ2) := rfl
theorem q_26 {i : Nat} {z : Int} {d : D} {δ : List Sl} {Q : DQ} : insK Q i [.int z, d] δ = lisK δ i (fun xs f => (xs.length ≤ 100000 ∧ 0 ≤ z ∧ z ≤ 1000000) ∧ Q (.val .non) (f (xs.take z.toNat ++ [d] ++ xs.drop z.toNat))) δ[i]? := rfl
end
end DL
/-! x[:] = e; isinstance of an own instance. -/
namespace DL
open PySem PySem.Spec PyProof.Rows L2
theorem bounds_all (n : Nat) : sliceBounds none none none n = (0, (n : Int), 1) := by
  simp [sliceBounds]
set_option maxRecDepth 100000 in
/-- list.__setitem__ with [:] and another list -/
theorem setItem_all {prog : Program} {w : World} {A : Around} {E : Value → Shared → Prop} {s : Shared} {p q sl : Addr} {zs new : Array Value} {n n2 : Nat} {Q : Unit → Shared → Prop}
    (ep : s.heap.get? p = some { cls := .type "list", data := .seq zs n }) (eq : s.heap.get? q = some { cls := .type "list", data := .seq new n2 }) (hne : p ≠ q)
    (hs : s.heap.IsSliceOf sl .none .none .none) (hz : zs.size + new.size ≤ sizeLine) (h : Q () { s with heap := s.heap.update p (Obj.mapSeq fun xs => xs.extract 0 0 ++ new ++ xs.extract zs.size xs.size) }) :
    wpAny (model prog w) A (setItem (.ref p) (.ref sl) (.ref q)) Q E s := by
  have tp : s.heap.IsList p zs := PySem.IsL.isList ep
  have tq : s.heap.IsList q new := PySem.IsL.isList eq
  obtain ⟨os, hos, hcs, hds⟩ := id hs
  have ts : s.TypeIs (.ref sl) "slice" := ⟨os, hos, hcs⟩
  have no0 : ¬ ((rawPart none == rawInt 0) = true) := Bool.false_ne_true
  have other : Builtin.List.listSameRef (.ref p) (.ref q) = false := by
    unfold Builtin.List.listSameRef; exact beq_eq_false_iff_ne.mpr hne
  have hmx : (max (0 : Int) (zs.size : Int)).toNat = zs.size := by omega
  have hzz : ((fun xs : Array Value => xs.extract 0 0 ++ new ++ xs.extract zs.size xs.size) zs).size ≤ sizeLine + 1 := by
    simp only [Array.size_append, Array.size_extract]; omega
  unfold setItem
  try (with_reducible refine wpAny_holding ?_)
  first | (refine wpAny_bind (wpAny_pure ?_)) | skip
  refine wpAny_bind (wpAny_sequenceKey tp.typeIs (by decide) ?_)
  refine wpAny_bind (wpAny_callSpecial?_slot (name := Str.ofString "__setitem__") tp.typeIs slot_list_setitem (wpAny_call_entry slot_list_setitem tp.typeIs entry_list_setitem ?_ (args_list_setitem _ _ _)))
  show wpAny _ _ (Builtin.List.listSubscript? (.ref sl) >>= _) _ _ s
  refine wpAny_bind ?_
  unfold Builtin.List.listSubscript?
  refine wpAny_bind (wpAny_specialOf ts slice_no_index ?_)
  simp only [Option.isNone_none, if_true]
  refine wpAny_pure ?_
  show wpAny _ _ (typeOf (.ref sl) >>= _) _ _ s
  refine wpAny_bind (wpAny_typeOf ts ?_)
  first | (rw [if_neg (by decide)]) | (refine PySem.W.KFB.if_not (by decide) ?_)
  rw [listSliceParts_eq]
  refine wpAny_bind (wpAny_bind (wpAny_field hos hds (x := .none) rfl (wpAny_bind (wpAny_listPart .none ?_))))
  rw [if_neg no0]
  refine wpAny_bind (wpAny_field hos hds (x := .none) rfl (wpAny_bind (wpAny_listPart .none ?_)))
  refine wpAny_bind (wpAny_field hos hds (x := .none) rfl (wpAny_bind (wpAny_listPart .none (wpAny_pure ?_))))
  first
    | simp only [other, Bool.false_eq_true, if_false]
    | (refine PySem.W.KFB.if_not other ?_)
    | (dsimp only; rw [if_neg (by rw [other]; exact Bool.false_ne_true)])
  refine wpAny_bind (m := Builtin.List.listAllItems (.ref q) "must assign iterable to extended slice") ?_
  unfold Builtin.List.listAllItems
  refine wpAny_bind (wpAny_typeOf tq.typeIs ?_)
  first
    | (refine PySem.W.KFB.if_so (by decide) ?_)
    | rw [if_pos (by decide)]
    | simp only [beq_self_eq_true, Bool.true_or, if_true]
  unfold Builtin.List.listItems
  refine wpAny_bind (wpAny_seqItems eq rfl (wpAny_pure ?_))
  refine wpAny_bind (wpAny_bind (wpAny_seqItems ep rfl (wpAny_pure ?_)))
  refine wpAny_bind (wpAny_of_eq ((sliceIndices_raw none none none zs.size (by simp)).trans (congrArg (pure : Int × Int × Int → Sem (Int × Int × Int)) (bounds_all zs.size))) ?_)
  show wpAny _ _ (if ((1 : Int) == 1) = true then _ else _) _ _ s
  rw [if_pos (by decide)]
  refine wpAny_bind (wpAny_rule ?_)
  first
    | simp only [notLongL hz, Bool.false_eq_true, if_false]
    | (refine PySem.W.KFB.if_not (notLongL hz) ?_)
  first | (refine wpAny_bind (wpAny_pure ?_)) | skip
  show wpAny _ _ (updateSeq p (fun xs => xs.extract 0 ((0 : Int)).toNat ++ new ++ xs.extract (max (0 : Int) (zs.size : Int)).toNat xs.size) >>= _) _ _ s
  rw [hmx, show ((0 : Int)).toNat = 0 from rfl]
  refine wpAny_bind (wpAny_updateSeq (hz := Nat.le_trans (Nat.le_add_right _ _) hz) (_hz' := hzz) ep rfl ?_)
  refine wpAny_bind (wpAny_letGo ?_)
  first
    | exact wpAny_bind (wpAny_pure (wpAny_pure ⟨.none, rfl, wpAny_pure h⟩))
    | exact wpAny_pure ⟨.none, rfl, wpAny_pure h⟩
section
variable {X : Cx}
theorem set_all {pins : List (Addr × Obj)} {s : Shared} {σ : L2.St} {H : Hp} {p q sl : Addr} {xs ys : List V} {Q : Unit → Shared → Prop} (I : Inv X pins σ H s)
    (hp : H p = some (.lst xs)) (hq : H q = some (.lst ys)) (hne : p ≠ q) (hs : s.heap.IsSliceOf sl .none .none .none)
    (hz : xs.length + ys.length ≤ sizeLine) (h : ∀ s', Inv X pins σ (upd H p (.lst ys)) s' → Q () s') :
    wpAny (model X.prog X.w) X.A (setItem (.ref p) (.ref sl) (.ref q)) Q X.xe s := by
  obtain ⟨z, its, n, r, hl, e⟩ := I.lstM hp
  obtain ⟨z2, its2, n2, r2, hl2, e2⟩ := I.lstM hq
  refine setItem_all e e2 hne hs (by rw [List.size_toArray, List.size_toArray]; omega) (h _ ?_)
  refine I.lset (its' := its2) (t' := s.toks) hp e ?_ r2 (by omega)
  show its.toArray.extract 0 0 ++ its2.toArray ++ its.toArray.extract its.toArray.size its.toArray.size = its2.toArray
  simp
/-- o[:] = .. -/
def gAll (to : TE) : TG := fun v σ H Q => to σ H fun o H1 => ∃ p q xs ys, o = .ref p ∧ v = .ref q ∧ H1 p = some (.lst xs) ∧ H1 q = some (.lst ys) ∧ p ≠ q ∧ xs.length + ys.length ≤ sizeLine ∧ Q σ (upd H1 p (.lst ys))
theorem pg_all {o : Expr} {to : TE} {p2 pos : Pos} (ho : PE X o to)
    (ha : ∀ v, assign (.Subscript o (.Slice none none none p2) pos) X.env v = (do
      let u ← holding [v] (eval o X.env)
      let j ← holding [v, u] (eval (.Slice none none none p2) X.env)
      standAt pos
      holding [v, u, j] (setItem u j v)
      release [j, v, u] []) := by intro _; rfl) : PG X (.Subscript o (.Slice none none none p2) pos) (gAll to) := by
  refine ⟨fun pins s σ H v u Q I r h => ?_⟩
  rw [ha]
  refine wpAny_bind (wpAny_holding (thn (ho.run pins s σ H _ I h) fun ov s1 ⟨x, H1, I1, r1, q1⟩ => ?_))
  obtain ⟨p, q, xs, ys, rfl, rfl, hp, hq, hne, hz, hQ⟩ := q1
  refine wpAny_bind (wpAny_holding (wpAny_Slice ?_))
  simp only [evalPart_none]
  refine wpAny_pure (wpAny_pure (wpAny_pure ?_))
  have I2 : Inv X pins σ H1 { s1 with heap := s1.heap.push { cls := .type "slice", data := .fields #[.none, .none, .none] } } := I1.kept (t' := s1.toks) fun b ob e => Heap.get?_push_of_some _ e
  cases (show ov = Value.ref p from r1)
  cases (show u = Value.ref q from r)
  refine wpAny_bind (wpAny_standAt (wpAny_bind (wpAny_holding (set_all I2 hp hq hne (Heap.IsSliceOf.new ..) hz fun s3 I3 => ?_))))
  exact wpAny_release ⟨σ, _, I3, hQ⟩
end
section
variable {K : PySem.W.Frag} {pa : Addr} {F F' H H' : Hp} {L Lf L1 : List (Addr × HO)} {σ σ' : L2.St} {δ δ' : List Sl} {Wx : WX} {X : DX}
/-- x[:] = e over data -/
def setAK (i : Nat) (N : List Sl → Prop) (δ : List Sl) : DL.D → Prop
  | .lst ds => ds.length ≤ 100000 ∧ lisK δ i (fun xs f => xs.length ≤ 100000 ∧ N (f ds)) δ[i]?
  | _ => False
def dSetA (i : Nat) (a : DTE) : DTS := fun D δ => a D.ex δ fun r δ1 => frzD r δ1 fun d δ2 => setAK i D.nx δ2 d
theorem DS.setA {i : Nat} {te : TE} {a : DTE} (h : DE K pa Wx te a) : DS K pa Wx (tAsg te (gAll (tVar i))) (dSetA i a) := by
  intro F H σ δ Lf D D' hE hS q
  refine h F H σ δ Lf _ _ _ hE hS.ex q fun F1 H1 v r δ1 L1 s1 E1 R1 q => ?_
  refine frz_ok E1 R1 q fun F2 d δ2 s2 E2 hd q => ?_
  unfold setAK at q
  split at q
  · rename_i ds
    obtain ⟨hl, q⟩ := q
    obtain ⟨b, ws, rfl, hb, hw⟩ := hd.lstE
    obtain ⟨a, us, es, f, h1, h2, h3, ⟨h4, h7⟩, h8⟩ := lis_ok E2 q
    have hb2 := E2.fr _ _ hb
    refine ⟨_, h1, a, b, us, ws, rfl, rfl, h2, hb2, ?_, ?_, ?_⟩
    · intro e
      subst e
      obtain ⟨a2, us2, es2, f2, La, Lb, g1, g2, _⟩ := lis_ok2 E2 q
      rw [h1] at g1
      cases g1
      have := g2.off (a, .lst us2) List.mem_cons_self
      rw [hb] at this
      cases this
    · have a1 := h3.length
      have a2 := hw.length
      have : (1000000 : Nat) ≤ sizeLine := by decide
      omega
    · exact hS.nx F2 _ _ _ (s1.trans s2) (h8 _ _ hw) h7
  · exact q.elim
theorem q_27 {i : Nat} {a : DTE} {n0 b0 c0 : List Sl → Prop} {r0 : DQ} {x0 : DX} : dSetA i a ⟨n0, b0, c0, r0, x0⟩ δ = a x0 δ fun r δ1 => frzD r δ1 fun d δ2 => setAK i n0 δ2 d := rfl
theorem q_28 {i : Nat} {N : List Sl → Prop} {ds : List DL.D} : setAK i N δ (.lst ds) = (ds.length ≤ 100000 ∧ lisK δ i (fun xs f => xs.length ≤ 100000 ∧ N (f ds)) δ[i]?) := rfl
/-! ### isinstance(x, C), x an own instance -/
structure IsC (K : PySem.W.Frag) (C : Addr) : Prop where
  cl : Cls K C
  ha : PySem.W.findIn K (.ref C) "__class__" = some (some (.builtin "object.__class__"))
  hn : PySem.W.specialIn K (.builtin "object.__class__") "__get__" = some (some (.builtin "getset_descriptor.__get__"))
  ht : PySem.W.takesIn K (.builtin "object.__class__") = some true
  hm : PySem.W.mroIn K C (.type "object") = some true
theorem kit_self (K : PySem.W.Frag) (C : Addr) : PySem.W.kitOne K (.ref C) (.ref C) = some true := by
  unfold PySem.W.kitOne
  rw [if_pos (by simp)]
def insI (C : Addr) (Q : Prop) : Option DL.D → Prop
  | some (.ins C' _) => C' = C ∧ Q
  | _ => False
def dIsO (C : Addr) (b : Bool) (a : DTE) : DTE := fun X δ Q => a X δ fun r δ1 => insI C (Q (.val (.bl b)) δ1) (dat δ1 r)
theorem DE.isO {C C2 : Addr} {b : Bool} {te : TE} {a : DTE} (hC : IsC K C) (hk : PySem.W.kitOne K (.ref C) (.ref C2) = some b) (h : DE K pa Wx te a) : DE K pa Wx (tCB (rIsi K) (tCons te (tCons (tC (.ref C2)) tNil))) (dIsO C b a) := by
  intro F H σ δ Lf X Q' Q hE hX q k
  refine h F H σ δ Lf X _ _ hE hX q fun F1 H1 v r δ1 L1 s1 E1 R1 q => ?_
  cases e : dat δ1 r with
  | none => rw [e] at q; exact q.elim
  | some d =>
    rw [e] at q
    cases d with
    | ins C' fs =>
      obtain ⟨rfl, q9⟩ := q
      have vw := view E1 R1 (fun p hp => List.mem_append_left _ hp) e
      obtain ⟨a0, dx, vs, rfl, h1, _, _⟩ := vw.insD E1.fr
      exact ⟨_, _, _, _, b, rfl, .own C2, .base (.ins h1 hC.cl hC.ha hC.hn hC.ht hC.hm), hk, k F1 H1 _ _ δ1 [] s1 E1.drop (.val (.bl b)) q9⟩
    | _ => exact q.elim
theorem q_29 {C : Addr} {b : Bool} {a : DTE} {Q : DQ} : dIsO C b a X δ Q = a X δ fun r δ1 => insI C (Q (.val (.bl b)) δ1) (dat δ1 r) := rfl
theorem q_30 {C C' : Addr} {fs : List (Str × DL.D)} {Q : Prop} : insI C Q (some (.ins C' fs)) = (C' = C ∧ Q) := rfl
end
end DL
/-! isinstance(e, C) in the suite of a clause that names a base class. -/
namespace L2
open PySem
def rIsXs (K : PySem.W.Frag) (Ds : List Addr) (a : Addr) (cls : Value) (d : Option Addr) : List V → Hp → VK → Prop := fun xs H Q => ∃ D ∈ Ds, rIsX K D a cls d xs H Q
theorem call_isXs {X : Cx} {a : Addr} {Ds : List Addr} {oe : Obj} {cls : Value} {d : Option Addr} {pn : List (Addr × Obj)} (C : ∀ D ∈ Ds, ExcC X.K D) (hz : Zc cls d oe) (hf : ∃ vs, oe.data = .fields vs) : CallR (X.suite a ((a, oe) :: pn)) (.builtin "isinstance") (rIsXs X.K Ds a cls d) := by
  intro pins s σ H xs us Q I r h
  obtain ⟨D, hD, h⟩ := h
  exact call_isX (C D hD) hz hf pins s σ H xs us Q I r h
end L2
namespace DL
open PySem L2
section
variable {K : PySem.W.Frag} {pa : Addr} {F F' H H' : Hp} {L Lf L1 : List (Addr × HO)} {σ σ' : L2.St} {δ δ' : List Sl} {Wx : WX} {X : DX}
def dIsXs (i : Nat) (a d C' : Addr) (Ls : List (Addr × Bool)) : DTE := fun X δ Q => ∃ b, (C', b) ∈ Ls ∧ excK a d C' (Q (.val (.bl b)) δ) δ[i]?
theorem DE.isXs {mg : Str → Option Value} {x : Str} {i : Nat} {a d C' C2 : Addr} {Ls : List (Addr × Bool)} (h : ExcB K mg x C2) (s : ∀ p ∈ Ls, PySem.W.subIn K (.ref p.1) (.ref C2) = some p.2) : DE K pa Wx (tCB (rIsXs K (Ls.map (·.1)) a (.ref C') (some d)) (tCons (tVar i) (tCons (tC (.ref C2)) tNil))) (dIsXs i a d C' Ls) := by
  intro F H σ δ Lf X Q' Q hE hX q k
  obtain ⟨b, hm, q⟩ := q
  cases e : δ[i]? with
  | none => rw [e] at q; exact q.elim
  | some sl =>
    rw [e] at q
    cases sl with
    | exc a2 d2 C3 fs =>
      obtain ⟨⟨rfl, rfl, rfl⟩, q⟩ := q
      obtain ⟨L, w, sl⟩ := id hE
      obtain ⟨h1, vs, h2, h3⟩ := (sl.slot e).2.2.2.1 _ _ _ _ rfl
      exact ⟨_, h1, _, List.mem_map.mpr ⟨_, hm, rfl⟩, w_isX h (w.fr _ _ h2) (s _ hm) (k F H _ _ δ [] (Same.refl _) hE (.val (.bl b)) q)⟩
    | _ => exact q.elim
theorem DE.isXVs {i : Nat} {a d C' : Addr} {Ls : List (Addr × Bool)} (s : ∀ p ∈ Ls, PySem.W.subIn K (.ref p.1) (.type "ValueError") = some p.2) : DE K pa Wx (tCB (rIsXs K (Ls.map (·.1)) a (.ref C') (some d)) (tCons (tVar i) (tCons (tC (.ty "ValueError")) tNil))) (dIsXs i a d C' Ls) := by
  intro F H σ δ Lf X Q' Q hE hX q k
  obtain ⟨b, hm, q⟩ := q
  cases e : δ[i]? with
  | none => rw [e] at q; exact q.elim
  | some sl =>
    rw [e] at q
    cases sl with
    | exc a2 d2 C3 fs =>
      obtain ⟨⟨rfl, rfl, rfl⟩, q⟩ := q
      obtain ⟨L, w, sl⟩ := id hE
      obtain ⟨h1, vs, h2, h3⟩ := (sl.slot e).2.2.2.1 _ _ _ _ rfl
      exact ⟨_, h1, _, List.mem_map.mpr ⟨_, hm, rfl⟩, w_isXV (w.fr _ _ h2) (s _ hm) (k F H _ _ δ [] (Same.refl _) hE (.val (.bl b)) q)⟩
    | _ => exact q.elim
theorem q_31 {i : Nat} {a d C' : Addr} {Ls : List (Addr × Bool)} {Q : DQ} : dIsXs i a d C' Ls X δ Q = ∃ b, (C', b) ∈ Ls ∧ excK a d C' (Q (.val (.bl b)) δ) δ[i]? := rfl
theorem all_nil {α : Type} {p : α → Prop} : ∀ x ∈ ([] : List α), p x := fun _ h => nomatch h
theorem all_cons {α : Type} {p : α → Prop} {a : α} {l : List α} (h : p a) (r : ∀ x ∈ l, p x) : ∀ x ∈ a :: l, p x := fun x hx => by
  rcases List.mem_cons.mp hx with rfl | hx
  · exact h
  · exact r x hx
end
end DL
/-! The places of the program's classes, the tokens of its constants. -/
namespace Nk
open PySem L2 DL
structure Ad where
  c_Extreme : Addr := 0
  i_Extreme : Addr := 0
  c_Answer : Addr := 0
  i_Answer : Addr := 0
  c_Book : Addr := 0
  i_Book : Addr := 0
  c_Bounds : Addr := 0
  i_Bounds : Addr := 0
  c_Cover : Addr := 0
  i_Cover : Addr := 0
  c_Desk : Addr := 0
  i_Desk : Addr := 0
  c_Draft : Addr := 0
  i_Draft : Addr := 0
  c_NightsError : Addr := 0
  i_NightsError : Addr := 0
  c_NoNight : Addr := 0
  i_NoNight : Addr := 0
  c_NoPerson : Addr := 0
  i_NoPerson : Addr := 0
  c_NamedTwice : Addr := 0
  i_NamedTwice : Addr := 0
  c_BadNumber : Addr := 0
  i_BadNumber : Addr := 0
  c_TooLong : Addr := 0
  i_TooLong : Addr := 0
  c_WrongLength : Addr := 0
  i_WrongLength : Addr := 0
  c_BadRest : Addr := 0
  i_BadRest : Addr := 0
  c_BadComing : Addr := 0
  i_BadComing : Addr := 0
  c_BadPlan : Addr := 0
  i_BadPlan : Addr := 0
  c_BadCover : Addr := 0
  i_BadCover : Addr := 0
  c_NotPossible : Addr := 0
  i_NotPossible : Addr := 0
  c_NotWatched : Addr := 0
  i_NotWatched : Addr := 0
  c_NoWorld : Addr := 0
  i_NoWorld : Addr := 0
  c_NotFalling : Addr := 0
  i_NotFalling : Addr := 0
  c_UnlikeSums : Addr := 0
  i_UnlikeSums : Addr := 0
  c_EmptyWeek : Addr := 0
  i_EmptyWeek : Addr := 0
  c_ZeroBottom : Addr := 0
  i_ZeroBottom : Addr := 0
  c_BadLine : Addr := 0
  i_BadLine : Addr := 0
  c_DraftError : Addr := 0
  i_DraftError : Addr := 0
  c_TooEarly : Addr := 0
  i_TooEarly : Addr := 0
  c_TooSoon : Addr := 0
  i_TooSoon : Addr := 0
  c_TooMany : Addr := 0
  i_TooMany : Addr := 0
  c_NotThere : Addr := 0
  i_NotThere : Addr := 0
  c_DeskError : Addr := 0
  i_DeskError : Addr := 0
  c_DeskOver : Addr := 0
  i_DeskOver : Addr := 0
  c_NoneLeft : Addr := 0
  i_NoneLeft : Addr := 0
  c_WrongCount : Addr := 0
  i_WrongCount : Addr := 0
  c_NotRight : Addr := 0
  i_NotRight : Addr := 0
  c_PastNight : Addr := 0
  i_PastNight : Addr := 0
  c_TooFew : Addr := 0
  i_TooFew : Addr := 0
  c_BadMode : Addr := 0
  i_BadMode : Addr := 0
  c_HistoryError : Addr := 0
  i_HistoryError : Addr := 0
  c_NothingToUndo : Addr := 0
  i_NothingToUndo : Addr := 0
  c_NothingToRedo : Addr := 0
  i_NothingToRedo : Addr := 0
  c_BookError : Addr := 0
  i_BookError : Addr := 0
  c_BadName : Addr := 0
  i_BadName : Addr := 0
  c_UnknownName : Addr := 0
  i_UnknownName : Addr := 0
  c_KnownName : Addr := 0
  i_KnownName : Addr := 0
  c_NoRecord : Addr := 0
  i_NoRecord : Addr := 0
  c_Evenest : Addr := 0
  i_Evenest : Addr := 0
  c_Exact : Addr := 0
  i_Exact : Addr := 0
  c_Form : Addr := 0
  i_Form : Addr := 0
  c_History : Addr := 0
  i_History : Addr := 0
  c_House : Addr := 0
  i_House : Addr := 0
  c_Verdict : Addr := 0
  i_Verdict : Addr := 0
  c_Lasting : Addr := 0
  i_Lasting : Addr := 0
  c_LeavingHouse : Addr := 0
  i_LeavingHouse : Addr := 0
  c_LeavingVerdict : Addr := 0
  i_LeavingVerdict : Addr := 0
  c_LineWords : Addr := 0
  i_LineWords : Addr := 0
  c_Nearest : Addr := 0
  i_Nearest : Addr := 0
  c_Plan : Addr := 0
  i_Plan : Addr := 0
  c_Rate : Addr := 0
  i_Rate : Addr := 0
  c_Refused : Addr := 0
  i_Refused : Addr := 0
  c_Runner : Addr := 0
  i_Runner : Addr := 0
  c_Settlement : Addr := 0
  i_Settlement : Addr := 0
  c_Span : Addr := 0
  i_Span : Addr := 0
  c_Telling : Addr := 0
  i_Telling : Addr := 0
  c_Wants : Addr := 0
  i_Wants : Addr := 0
  c_Week : Addr := 0
  i_Week : Addr := 0
  k_COMING_WORDS : Tok := 0
  k_DEFAULT_REST : Tok := 0
  k_DIGITS : Tok := 0
  k_FAR : Tok := 0
  k_FIRST_WORDS : Tok := 0
  k_GROUP_QUESTIONS : Tok := 0
  k_LAST_COMING : Tok := 0
  k_LETTERS : Tok := 0
  k_LIMIT : Tok := 0
  k_LONGEST_NAME : Tok := 0
  k_LONGEST_NUMBER : Tok := 0
  k_MOST_ENTRIES : Tok := 0
  k_MOST_NIGHTS : Tok := 0
  k_MOST_NUMBERS : Tok := 0
  k_MOST_PEOPLE : Tok := 0
  k_MOST_REST : Tok := 0
  k_MOST_WEEKS : Tok := 0
  k_MOST_WEIGHTS : Tok := 0
  k_PERCENT_SIGN : Tok := 0
  k_QUESTIONS : Tok := 0
  k_TOLD_WORDS : Tok := 0
  kc_Wants_GREATEST : Tok := 0
  kc_Wants_MOST : Tok := 0
end Nk
/-! Houses over data: what their defs promise. -/
namespace Nk
open PySem L2 DL Hse
abbrev wD (A : Ad) (ns : List Int) : D := .ins A.c_Wants [("numbers", .tup (li ns))]
abbrev hD (A : Ad) (ns cs : List Int) (r : Nat) : D := .ins A.c_House [("wants", wD A ns), ("comings", .tup (li cs)), ("rest", .int r)]
def gW (ns : List Int) : Prop := ns.length ≤ 60 ∧ ∀ n ∈ ns, 0 ≤ n ∧ n ≤ 30
structure hok (ns cs : List Int) (r : Nat) : Prop where
  w : gW ns
  p : cs.length ≤ 30
  c : ∀ c ∈ cs, 1 ≤ c ∧ c ≤ ns.length + 1
  r : r ≤ 60
def sq (s : D) (ns : List Int) : Prop := s = .lst (li ns) ∨ s = .tup (li ns)
def dsMkWants (A : Ad) : DSp := fun ds Q _ => ∃ s ns, ds = [s] ∧ sq s ns ∧ gW ns ∧ Q (.val (wD A ns))
def dsMkHouse (A : Ad) : DSp := fun ds Q _ => ∃ s ns cs, ∃ r : Nat, ds = [wD A ns, s, .int r] ∧ sq s cs ∧ hok ns cs r ∧ Q (.val (hD A ns cs r))
def dsNights (A : Ad) : DSp := fun ds Q _ => ∃ ns cs r, ds = [hD A ns cs r] ∧ hok ns cs r ∧ Q (.val (.int ns.length))
def dsPeople (A : Ad) : DSp := fun ds Q _ => ∃ ns cs r, ds = [hD A ns cs r] ∧ hok ns cs r ∧ Q (.val (.int cs.length))
def inR (m : Nat) (p : Int) : Prop := 0 ≤ p ∧ p < m
instance (m : Nat) (p : Int) : Decidable (inR m p) := inferInstanceAs (Decidable (_ ∧ _))
/-- the first fault: no person (false), or one named before (true) -/
def flt (m : Nat) : List Int → List Int → Option (Bool × Int)
  | _, [] => none
  | seen, x :: xs => if inR m x then (if x ∈ seen then some (true, x) else flt m (seen ++ [x]) xs) else some (false, x)
def fltK (o : Option (Bool × Int)) (Q : Prop) (XP XT : Int → Prop) : Prop := match o with
  | none => Q
  | some (false, x) => XP x
  | some (true, x) => XT x
theorem flt_step {m : Nat} {ps : List Int} {i : Nat} (h : i < ps.length) : flt m (ps.take i) (ps.drop i) = if inR m (ps.getD i 0) then (if ps.getD i 0 ∈ ps.take i then some (true, ps.getD i 0) else flt m (ps.take (i + 1)) (ps.drop (i + 1))) else some (false, ps.getD i 0) := by
  have e : ps.getD i 0 = ps[i] := by simp [h]
  rw [List.drop_eq_getElem_cons h, e, List.take_succ_eq_append_getElem h]
  rfl
theorem flt_snoc {m : Nat} {p : Int} : ∀ {ps seen : List Int}, flt m seen (ps ++ [p]) = (flt m seen ps).orElse fun _ => flt m (seen ++ ps) [p]
  | [], seen => by simp [flt]
  | x :: xs, seen => by
    rw [List.cons_append, flt, flt]
    split
    · split
      · rfl
      · rw [flt_snoc]; simp
    · rfl
theorem flt1 {m : Nat} {p : Int} : flt m [] [p] = if inR m p then none else some (false, p) := by
  simp [flt]
theorem flt_none {m : Nat} : ∀ {ps seen : List Int}, flt m seen ps = none ↔ (∀ p ∈ ps, inR m p) ∧ ps.Nodup ∧ ∀ p ∈ ps, p ∉ seen
  | [], seen => by simp [flt]
  | x :: xs, seen => by
    rw [flt]
    split
    · rename_i h
      split
      · rename_i h2
        simp [h2]
      · rename_i h2
        rw [flt_none]
        constructor
        · rintro ⟨a, b, c⟩
          refine ⟨?_, ?_, ?_⟩
          · simpa [h] using a
          · rw [List.nodup_cons]; exact ⟨fun hx => c x hx (by simp), b⟩
          · intro p hp
            rcases List.mem_cons.mp hp with rfl | hp
            · exact h2
            · exact fun hs => c p hp (by simp [hs])
        · rintro ⟨a, b, c⟩
          rw [List.nodup_cons] at b
          refine ⟨fun p hp => a p (by simp [hp]), b.2, fun p hp hs => ?_⟩
          rcases List.mem_append.mp hs with hs | hs
          · exact c p (by simp [hp]) hs
          · rw [List.mem_singleton.mp hs] at hp; exact b.1 hp
    · rename_i h
      simp [h]
def noP (A : Ad) (X : DXf) (x : Int) : Prop := X A.c_NoPerson (some [("person", .int x)])
def twP (A : Ad) (X : DXf) (x : Int) : Prop := X A.c_NamedTwice (some [("person", .int x)])
def dsCkPerson (A : Ad) : DSp := fun ds Q X => ∃ ns cs r p, ds = [hD A ns cs r, .int p] ∧ hok ns cs r ∧ fltK (flt cs.length [] [p]) (Q (.val .non)) (noP A X) (twP A X)
def dsCkPeople (A : Ad) : DSp := fun ds Q X => ∃ ns cs r ps, ds = [hD A ns cs r, .lst (li ps)] ∧ hok ns cs r ∧ ps.length ≤ 1000 ∧ fltK (flt cs.length [] ps) (Q (.val .non)) (noP A X) (twP A X)
def csP (cs ps : List Int) : List Int := ps.map fun p => cs.getD p.toNat 0
def arrL (cs ps : List Int) (n : Nat) : List Int := (List.range (n + 1)).map fun j => (((csP cs ps).countP fun c => decide (c = ((j : Nat) : Int) + 1) : Nat) : Int)
def dsArr (A : Ad) : DSp := fun ds Q _ => ∃ ns cs r ps, ds = [hD A ns cs r, .lst (li ps)] ∧ hok ns cs r ∧ ps.length ≤ 1000 ∧ (∀ p ∈ ps, inR cs.length p) ∧ Q (.own (li (arrL cs ps ns.length)))
/-- first choice of the people ps -/
def fc (ns cs ps : List Int) (r : Nat) : List Int := gr ns (csP cs ps) r ns.length
def dsFirst (A : Ad) : DSp := fun ds Q X => ∃ ns cs r ps, ds = [hD A ns cs r, .lst (li ps)] ∧ hok ns cs r ∧ ps.length ≤ 1000 ∧ fltK (flt cs.length [] ps) (Q (.own (li (fc ns cs ps r)))) (noP A X) (twP A X)
def subL (ns ms : List Int) : List Int := List.zipWith (fun a b => a - b) ns ms
def dsRoom (A : Ad) : DSp := fun ds Q X => ∃ ns cs r ps, ds = [hD A ns cs r, .lst (li ps)] ∧ hok ns cs r ∧ ps.length ≤ 1000 ∧ fltK (flt cs.length [] ps) (Q (.own (li (subL ns (fc ns cs ps r))))) (noP A X) (twP A X)
def nmO (m : Nat) (ps : List Int) (i : Nat) : List D := (List.range m).map fun q => D.bl (decide (((q : Nat) : Int) ∈ ps.take i))
theorem nm_zero (m : Nat) (ps : List Int) : List.replicate m (D.bl false) = nmO m ps 0 := by
  apply List.ext_getElem?
  intro j
  by_cases h : j < m
  · simp [nmO, h]
  · rw [List.getElem?_eq_none (by simpa using h), List.getElem?_eq_none (by simpa [nmO] using h)]
theorem nm_at {m : Nat} {ps : List Int} {i : Nat} {p : Int} (h0 : 0 ≤ p) (h1 : p < m) : atI (nmO m ps i) p = some (.bl (decide (p ∈ ps.take i))) := by
  obtain ⟨j, rfl⟩ := Int.eq_ofNat_of_zero_le h0
  refine atI_nat ?_
  have hj : j < m := by omega
  unfold nmO
  rw [List.getElem?_map, List.getElem?_range hj]; rfl
theorem nm_set {m : Nat} {ps : List Int} {i : Nat} (hi : i < ps.length) (h0 : 0 ≤ ps.getD i 0) (h1 : ps.getD i 0 < m) : (nmO m ps i).set (ps.getD i 0).toNat (.bl true) = nmO m ps (i + 1) := by
  have e : ps.getD i 0 = ps[i] := by simp [hi]
  apply List.ext_getElem?
  intro j
  unfold nmO
  by_cases hj : j < m
  · by_cases hq : (ps.getD i 0).toNat = j
    · subst hq
      rw [List.getElem?_set_self (by simpa using hj), List.getElem?_map, List.getElem?_range hj]
      have : (((ps.getD i 0).toNat : Nat) : Int) ∈ ps.take (i + 1) := by
        rw [List.take_succ_eq_append_getElem hi, Int.toNat_of_nonneg h0, e]
        exact List.mem_append_right _ (List.mem_singleton.mpr rfl)
      simp only [Option.map_some, decide_eq_true this]
    · rw [List.getElem?_set_ne hq, List.getElem?_map, List.getElem?_range hj, List.getElem?_map, List.getElem?_range hj]
      have : (((j : Nat) : Int) ∈ ps.take (i + 1)) ↔ (((j : Nat) : Int) ∈ ps.take i) := by
        rw [List.take_succ_eq_append_getElem hi, List.mem_append, List.mem_singleton]
        constructor
        · rintro (h | h)
          · exact h
          · exfalso; apply hq; rw [e, ← h]; exact Int.toNat_natCast j
        · exact .inl
      simp only [Option.map_some, this]
  · rw [List.getElem?_eq_none (by simpa using hj), List.getElem?_eq_none (by simpa using hj)]
theorem arr_step {cs ps : List Int} {n i : Nat} (hi : i < ps.length) {q : Nat} (hq : (cs.getD (ps.getD i 0).toNat 0) = (q : Int) + 1) (hqn : q < n + 1) :
    ((arrL cs (ps.take i) n).set q ((arrL cs (ps.take i) n).getD q 0 + 1)) = arrL cs (ps.take (i + 1)) n := by
  have e : ps.getD i 0 = ps[i] := by simp [hi]
  apply List.ext_getElem?
  intro j
  by_cases hj : j < n + 1
  · have key : arrL cs (ps.take (i + 1)) n = (List.range (n + 1)).map fun j => (((csP cs (ps.take i)).countP fun c => decide (c = ((j : Nat) : Int) + 1) : Nat) : Int) + if cs.getD (ps.getD i 0).toNat 0 = ((j : Nat) : Int) + 1 then 1 else 0 := by
      unfold arrL csP
      refine List.map_congr_left fun j _ => ?_
      rw [List.take_succ_eq_append_getElem hi, List.map_append, List.countP_append, List.map_singleton, List.countP_singleton, e]
      by_cases c : cs.getD (ps[i]).toNat 0 = ((j : Nat) : Int) + 1
      · rw [if_pos c, if_pos (decide_eq_true c)]; rfl
      · rw [if_neg c, if_neg (by simpa using c)]; rfl
    rw [key, List.getElem?_map, List.getElem?_range hj]
    by_cases hjq : q = j
    · subst hjq
      rw [List.getElem?_set_self (by simpa [arrL] using hj)]
      simp only [Option.map_some, hq, if_true]
      unfold arrL
      rw [List.getD_eq_getElem?_getD, List.getElem?_map, List.getElem?_range hj]; rfl
    · rw [List.getElem?_set_ne hjq]
      unfold arrL
      rw [List.getElem?_map, List.getElem?_range hj]
      have : ¬ cs.getD (ps.getD i 0).toNat 0 = ((j : Nat) : Int) + 1 := by omega
      simp only [Option.map_some, if_neg this]
      congr 1 <;> omega
  · rw [List.getElem?_eq_none (by simpa [arrL] using hj), List.getElem?_eq_none (by simpa [arrL] using hj)]
theorem arr_at {cs ps : List Int} {n j : Nat} (h : j < n + 1) : (arrL cs ps n).getD j 0 = (((csP cs ps).countP fun c => decide (c = ((j : Nat) : Int) + 1) : Nat) : Int) := by
  unfold arrL
  rw [List.getD_eq_getElem?_getD, List.getElem?_map, List.getElem?_range h]; rfl
/-- what rests ahead of the turn i -/
def rst (ns cs : List Int) (r i : Nat) : Int := win (gr ns cs r i) (i - 1 - r) i
theorem rst_zero (ns cs : List Int) (r : Nat) : rst ns cs r 0 = 0 := by simp [rst, gr, win]
theorem rst_sub {ns cs : List Int} {r i : Nat} (h : r < i) : rst ns cs r i - (gr ns cs r i).getD (i - r - 1) 0 = win (gr ns cs r i) (i - r) i := by
  unfold rst
  rw [win_shift h (by rw [gr_len]; exact Nat.le_refl _)]
theorem rst_keep {ns cs : List Int} {r i : Nat} (h : ¬ r < i) : rst ns cs r i = win (gr ns cs r i) (i - r) i := by
  unfold rst
  have : i - 1 - r = i - r := by omega
  rw [this]
theorem rst_succ (ns cs : List Int) (r i : Nat) : rst ns cs r (i + 1) = win (gr ns cs r i) (i - r) i + min (ns.getD i 0) (hereN cs ((i : Nat) + 1) - win (gr ns cs r i) (i - r) i) := by
  unfold rst
  have e : i + 1 - 1 - r = i - r := by omega
  have hl : i < (gr ns cs r (i + 1)).length := by rw [gr_len]; omega
  rw [e, win_succ (by omega) hl, gr_snoc, win_app (by rw [gr_len]; exact Nat.le_refl _)]
  congr 1
  rw [List.getD_eq_getElem?_getD, List.getElem?_append_right (by rw [gr_len]; exact Nat.le_refl _), gr_len]; simp

/-- the nights of one more: those chosen from the nights 1 to i, and from when on there is one -/
def gst (ok : Nat → Bool) (c : Int) (r : Nat) : Nat → List Int × Int
  | 0 => ([], c)
  | i + 1 => if (gst ok c r i).2 ≤ (i : Int) + 1 ∧ ok i = true then ((gst ok c r i).1 ++ [(i : Int) + 1], (i : Int) + 1 + r + 1) else gst ok c r i
def room (ns ms : List Int) (i : Nat) : Bool := decide (ms.getD i 0 < ns.getD i 0)
def gro (ns cs ps : List Int) (r : Nat) (p : Int) : List Int := (gst (room ns (fc ns cs ps r)) (cs.getD p.toNat 0) r ns.length).1
def dsGrowth (A : Ad) : DSp := fun ds Q X => ∃ ns cs r ps p, ds = [hD A ns cs r, .lst (li ps), .int p] ∧ hok ns cs r ∧ ps.length ≤ 1000 ∧ fltK (flt cs.length [] (ps ++ [p])) (Q (.own (li (gro ns cs ps r p)))) (noP A X) (twP A X)
theorem flt_ok {m : Nat} {ps : List Int} (h : flt m [] ps = none) : ∀ p ∈ ps, inR m p := (flt_none.mp h).1
theorem arr_at' {cs ps : List Int} {n q : Nat} (h : q < n + 1) : atI (li (arrL cs ps n)) (q : Int) = some (.int ((arrL cs ps n).getD q 0)) := by
  have al : (arrL cs ps n).length = n + 1 := by simp [arrL]
  have := atI_li (ns := arrL cs ps n) (i := (q : Int)) (by omega) (by omega)
  rwa [Int.toNat_natCast] at this
theorem fl_li {p : Int} {ps : List Int} : flatD (.int p) (li ps) := ⟨rfl, by simp [li, flD]⟩
theorem inP_li {p : Int} {ps : List Int} : inP (.int p) (li ps) = decide (p ∈ ps) := by
  unfold inP li
  rw [List.any_map, Bool.eq_iff_iff, List.any_eq_true]
  simp only [Function.comp, eqD, toP, PyData.eqv, decide_eq_true_eq, beq_iff_eq]
  constructor
  · rintro ⟨x, hx, e⟩
    have : x = p := by simpa using e
    exact this ▸ hx
  · exact fun h => ⟨p, h, by simp⟩
theorem sub_at {ns ms : List Int} {i : Nat} (h : i < ns.length) (hl : ms.length = ns.length) : (subL ns ms).getD i 0 = ns.getD i 0 - ms.getD i 0 := by
  have h2 : i < ms.length := by omega
  unfold subL
  rw [List.getD_eq_getElem?_getD, List.getElem?_eq_getElem (by simpa [hl] using h), List.getElem_zipWith]
  simp [h, h2]
theorem sub_len {ns ms : List Int} (hl : ms.length = ns.length) : (subL ns ms).length = ns.length := by unfold subL; simp [hl]
theorem fc_len {ns cs ps : List Int} {r : Nat} : (fc ns cs ps r).length = ns.length := gr_len _ _ _ _
theorem gst_len {ok : Nat → Bool} {c : Int} {r : Nat} : ∀ i, (gst ok c r i).1.length ≤ i
  | 0 => Nat.le_refl _
  | i + 1 => by
    have := gst_len (ok := ok) (c := c) (r := r) i
    unfold gst
    split
    · rw [List.length_append]; simpa using this
    · omega
end Nk
/-! Growth: the law's own reckoning. -/
namespace Nk
open PySem L2 DL Hse
theorem cut_lo {ns : List Int} {j : Nat} (h : j ≤ ns.length) : cutD (li ns) none (some (j : Int)) = li (ns.take j) := by
  have := li_cut ns 0 j h
  rw [Nat.sub_zero, List.drop_zero] at this
  exact this
theorem cut_hi {ns : List Int} {j : Nat} (h : j ≤ ns.length) : cutD (li ns) (some (j : Int)) none = li (ns.drop j) := by
  have := li_cut ns j ns.length (Nat.le_refl _)
  rw [List.take_of_length_le (by rw [List.length_drop]; exact Nat.le_refl _)] at this
  rw [← this]
  unfold cutD
  rw [HT.sIx_nat, HT.sIx_nat, li_len, Nat.min_self]
  rfl
/-! ### the law's draws -/
abbrev partD (ns cs : List Int) (r : Nat) : List D := [.lst (li ns), .lst (li cs), .int r]
def dsHouseL : DSm := fun es ds Q _ => ds = [] ∧ PO es ∧ ∀ p ns cs r, PO p → hok ns cs r → Q (.own (partD ns cs r)) p
structure grp (m : Nat) (inn out fr : List Int) : Prop where
  a : ∀ x ∈ inn, inR m x
  b : ∀ x ∈ out, inR m x
  c : ∀ x ∈ fr, inR m x
  s : ∀ x ∈ inn, x ∈ out
  na : inn.Nodup
  nb : out.Nodup
  la : inn.length ≤ m
  lb : out.length ≤ m
  lc : fr.length ≤ m
def dsGroupsL : DSm := fun es ds Q _ => ∃ m : Nat, ds = [.int m] ∧ PO es ∧ m ≤ 30 ∧ ∀ p inn out fr, PO p → grp m inn out fr → Q (.own [.lst (li inn), .lst (li out), .lst (li fr)]) p
def dsSpoilL : DSm := fun es ds Q _ => ∃ (ps : List Int) (m : Nat), ds = [.lst (li ps), .int m] ∧ PO es ∧ ps.length ≤ 1000 ∧ m ≤ 1000 ∧ ∀ p gs r, PO p → gs.length ≤ ps.length + 1 → (r = .val (.lst (li gs)) ∨ r = .own (li gs)) → Q r p
def dsPersonL : DSm := fun es ds Q _ => ∃ (fr : List Int) (m : Nat), ds = [.lst (li fr), .int m] ∧ PO es ∧ fr.length ≤ 1000 ∧ m ≤ 1000 ∧ ∀ p x, PO p → Q (.val (.int x)) p
/-- those of 0 to m - 1 that q takes -/
def pick (q : Nat → Bool) (m : Nat) : List Int := ((List.range m).filter q).map fun i => ((i : Nat) : Int)
theorem pick_mem {q : Nat → Bool} {m : Nat} {x : Int} : x ∈ pick q m ↔ inR m x ∧ q x.toNat = true := by
  unfold pick inR
  rw [List.mem_map]
  constructor
  · rintro ⟨i, hi, rfl⟩
    rw [List.mem_filter, List.mem_range] at hi
    exact ⟨⟨by omega, by omega⟩, by simpa using hi.2⟩
  · rintro ⟨⟨h0, h1⟩, h2⟩
    exact ⟨x.toNat, List.mem_filter.mpr ⟨List.mem_range.mpr (by omega), h2⟩, by omega⟩
theorem pick_nodup {q : Nat → Bool} {m : Nat} : (pick q m).Nodup := by
  unfold pick
  rw [List.nodup_iff_pairwise_ne, List.pairwise_map]
  exact ((List.nodup_iff_pairwise_ne.mp List.nodup_range).filter _).imp fun h e => h (by omega)
theorem pick_len {q : Nat → Bool} {m : Nat} : (pick q m).length ≤ m := by
  unfold pick
  rw [List.length_map]
  exact Nat.le_trans (List.length_filter_le _ _) (by simp)
theorem pick_li {q : Nat → Bool} {m : Nat} : ((List.range m).filter q).map (fun i => D.int ((i : Nat) : Int)) = li (pick q m) := by
  unfold pick li; rw [List.map_map]; rfl
/-! ### the law's growth -/
theorem gst_free {ok : Nat → Bool} {c : Int} {r : Nat} : ∀ {i : Nat} {n : Int}, (i : Int) < n → ((gst ok c r i).2 ≤ n ↔ c ≤ n ∧ ∀ e ∈ (gst ok c r i).1, (r : Int) < n - e)
  | 0, n, h => by simp [gst]
  | i + 1, n, h => by
    have ih := gst_free (ok := ok) (c := c) (r := r) (i := i) (n := n) (by omega)
    have ih1 := gst_free (ok := ok) (c := c) (r := r) (i := i) (n := (i : Int) + 1) (by omega)
    unfold gst
    split
    · rename_i hc
      obtain ⟨h1, h2⟩ := ih1.mp hc.1
      simp only [List.mem_append, List.mem_singleton]
      constructor
      · intro h3
        refine ⟨by omega, fun e he => ?_⟩
        rcases he with he | rfl
        · have := h2 e he; omega
        · omega
      · rintro ⟨_, h3⟩
        have := h3 _ (.inr rfl)
        omega
    · exact ih
theorem gst_in {ok : Nat → Bool} {c : Int} {r : Nat} : ∀ {i : Nat}, ∀ e ∈ (gst ok c r i).1, 1 ≤ e ∧ e ≤ i ∧ c ≤ e
  | 0 => by simp [gst]
  | i + 1 => by
    have ih := gst_in (ok := ok) (c := c) (r := r) (i := i)
    have ih1 := gst_free (ok := ok) (c := c) (r := r) (i := i) (n := (i : Int) + 1) (by omega)
    unfold gst
    split
    · rename_i hc
      intro e he
      rcases List.mem_append.mp he with he | he
      · have := ih e he; omega
      · rw [List.mem_singleton.mp he]; have := (ih1.mp hc.1).1; omega
    · intro e he
      have := ih e he; omega
theorem gst_apart {ok : Nat → Bool} {c : Int} {r : Nat} : ∀ {i : Nat}, ∀ e ∈ (gst ok c r i).1, ∀ f ∈ (gst ok c r i).1, e < f → (r : Int) < f - e
  | 0 => by simp [gst]
  | i + 1 => by
    have ih := gst_apart (ok := ok) (c := c) (r := r) (i := i)
    have ih1 := gst_free (ok := ok) (c := c) (r := r) (i := i) (n := (i : Int) + 1) (by omega)
    have ih2 := gst_in (ok := ok) (c := c) (r := r) (i := i)
    unfold gst
    split
    · rename_i hc
      intro e he f hf hlt
      rcases List.mem_append.mp he with he | he
      · rcases List.mem_append.mp hf with hf | hf
        · exact ih e he f hf hlt
        · rw [List.mem_singleton.mp hf]; exact (ih1.mp hc.1).2 e he
      · rcases List.mem_append.mp hf with hf | hf
        · rw [List.mem_singleton.mp he] at hlt
          have := ih2 f hf; omega
        · rw [List.mem_singleton.mp he, List.mem_singleton.mp hf] at hlt; omega
    · exact ih
/-! ### one more: the counts -/
theorem win_map {l : List Int} {a i : Nat} (h : i ≤ l.length) : win l a i = ((List.range' a (i - a)).map fun j => l.getD j 0).sum := by
  unfold win
  congr 1
  apply List.ext_getElem
  · simp; omega
  · intro j h1 h2
    have h3 : j < i - a := by simpa using h2
    have h4 : a + j < l.length := by omega
    simp [h4]
def addL (l g : List Int) : List Int := (List.range l.length).map fun j => l.getD j 0 + if ((j : Nat) : Int) + 1 ∈ g then 1 else 0
theorem addL_len {l g : List Int} : (addL l g).length = l.length := by simp [addL]
theorem addL_at {l g : List Int} {j : Nat} (h : j < l.length) : (addL l g).getD j 0 = l.getD j 0 + if ((j : Nat) : Int) + 1 ∈ g then 1 else 0 := by
  unfold addL
  rw [List.getD_eq_getElem?_getD, List.getElem?_map, List.getElem?_range h]; rfl
theorem sum_add (f : Nat → Int) (p : Nat → Prop) [DecidablePred p] : ∀ xs : List Nat, (xs.map fun j => f j + if p j then 1 else 0).sum = (xs.map f).sum + (xs.countP fun j => decide (p j) : Nat)
  | [] => rfl
  | x :: xs => by
    rw [List.map_cons, List.sum_cons, sum_add f p xs, List.map_cons, List.sum_cons, List.countP_cons]
    by_cases h : p x
    · rw [if_pos h, if_pos (decide_eq_true h)]; omega
    · rw [if_neg h, if_neg (by simpa using h)]; omega
theorem win_add {l g : List Int} {a i : Nat} (h : i ≤ l.length) : win (addL l g) a i = win l a i + ((List.range' a (i - a)).countP fun j => decide (((j : Nat) : Int) + 1 ∈ g) : Nat) := by
  rw [win_map (by rw [addL_len]; exact h), win_map h, ← sum_add]
  congr 1
  refine List.map_congr_left fun j hj => ?_
  have := List.mem_range'_1.mp hj
  exact addL_at (by omega)
theorem cnt0 {x : Nat} : ∀ xs : List Nat, x ∉ xs → xs.countP (fun j => j == x) = 0
  | [], _ => rfl
  | y :: ys, h => by
    rw [List.countP_cons, cnt0 ys fun m => h (List.mem_cons_of_mem _ m), if_neg (by simp; rintro rfl; exact h List.mem_cons_self)]
theorem cnt1 {x : Nat} : ∀ xs : List Nat, xs.Nodup → x ∈ xs → xs.countP (fun j => j == x) = 1
  | y :: ys, n, h => by
    rw [List.nodup_cons] at n
    rw [List.countP_cons]
    by_cases e : y = x
    · subst e
      rw [cnt0 ys n.1, if_pos (by simp)]
    · rw [if_neg (by simpa using e), cnt1 ys n.2 ((List.mem_cons.mp h).resolve_left fun z => e z.symm)]
theorem cnt_apart {ok : Nat → Bool} {c : Int} {r i : Nat} : ((List.range' (i - r) (i - (i - r))).countP fun j => decide (((j : Nat) : Int) + 1 ∈ (gst ok c r i).1)) = if ∃ e ∈ (gst ok c r i).1, (i : Int) + 1 - e ≤ r then 1 else 0 := by
  split
  · rename_i h
    obtain ⟨e, he, hr⟩ := h
    obtain ⟨e1, e2, _⟩ := gst_in e he
    obtain ⟨j0, rfl⟩ : ∃ j0 : Nat, e = (j0 : Int) + 1 := ⟨(e - 1).toNat, by omega⟩
    have hm : j0 ∈ List.range' (i - r) (i - (i - r)) := List.mem_range'_1.mpr ⟨by omega, by omega⟩
    have : ∀ j ∈ List.range' (i - r) (i - (i - r)), (decide (((j : Nat) : Int) + 1 ∈ (gst ok c r i).1) = true ↔ (j == j0) = true) := by
      intro j hj
      have hj := List.mem_range'_1.mp hj
      rw [decide_eq_true_eq, beq_iff_eq]
      constructor
      · intro hj2
        rcases Nat.lt_trichotomy j j0 with h | h | h
        · have := gst_apart _ hj2 _ he (by omega); omega
        · exact h
        · have := gst_apart _ he _ hj2 (by omega); omega
      · rintro rfl; exact he
    rw [List.countP_congr this]
    exact cnt1 _ List.nodup_range' hm
  · rename_i h
    rw [List.countP_eq_zero]
    intro j hj
    have hj := List.mem_range'_1.mp hj
    simp only [decide_eq_true_eq]
    intro he
    exact h ⟨_, he, by omega⟩
theorem gr_congr {ns cs cs' : List Int} {r : Nat} (h : ∀ e : Int, hereN cs e = hereN cs' e) : ∀ i, gr ns cs r i = gr ns cs' r i
  | 0 => rfl
  | i + 1 => by rw [gr_snoc, gr_snoc, gr_congr h i, h]
theorem here_perm {cs cs' : List Int} (h : cs.Perm cs') (e : Int) : hereN cs e = hereN cs' e := h.countP_eq _
theorem gr_pre {ns cs : List Int} {r j : Nat} : ∀ {i : Nat}, j < i → (gr ns cs r i).getD j 0 = (gr ns cs r (j + 1)).getD j 0
  | i + 1, h => by
    by_cases e : j = i
    · rw [e]
    · have := gr_pre (ns := ns) (cs := cs) (r := r) (j := j) (i := i) (by omega)
      rw [← this, gr_snoc, List.getD_eq_getElem?_getD, List.getElem?_append_left (by rw [gr_len]; omega), ← List.getD_eq_getElem?_getD]
/-- one more person: one more on the nights of growth -/
theorem gr_add {ns cs : List Int} {c : Int} {r n : Nat} : ∀ i, i ≤ n → gr ns (c :: cs) r i = addL (gr ns cs r i) (gst (room ns (gr ns cs r n)) c r i).1
  | 0, _ => rfl
  | i + 1, hi => by
    have ih := gr_add (ns := ns) (cs := cs) (c := c) (r := r) (n := n) i (by omega)
    have gl := gr_len ns cs r i
    have key := cnt_apart (ok := room ns (gr ns cs r n)) (c := c) (r := r) (i := i)
    have fre := gst_free (ok := room ns (gr ns cs r n)) (c := c) (r := r) (i := i) (n := (i : Int) + 1) (by omega)
    have gin := gst_in (ok := room ns (gr ns cs r n)) (c := c) (r := r) (i := i)
    have rm : room ns (gr ns cs r n) i = decide (min (ns.getD i 0) (hereN cs ((i : Nat) + 1) - win (gr ns cs r i) (i - r) i) < ns.getD i 0) := by
      unfold room
      rw [gr_pre (by omega), gr_snoc, List.getD_eq_getElem?_getD, List.getElem?_append_right (by omega), gl]
      simp
    have here : (hereN (c :: cs) ((i : Nat) + 1) : Int) = hereN cs ((i : Nat) + 1) + if c ≤ (i : Int) + 1 then 1 else 0 := by
      unfold hereN
      rw [List.countP_cons]
      by_cases h : c ≤ (i : Int) + 1
      · rw [if_pos h, if_pos (decide_eq_true h)]; omega
      · rw [if_neg h, if_neg (by simpa using h)]; omega
    rw [gr_snoc, ih, win_add (by omega), key, here]
    have tail : ∀ (g' : List Int), (∀ e ∈ g', ∀ j < i, ((j : Nat) : Int) + 1 = e → e ∈ (gst (room ns (gr ns cs r n)) c r i).1) → (∀ e ∈ (gst (room ns (gr ns cs r n)) c r i).1, e ∈ g') →
        addL (gr ns cs r (i + 1)) g' = addL (gr ns cs r i) (gst (room ns (gr ns cs r n)) c r i).1 ++ [min (ns.getD i 0) (hereN cs ((i : Nat) + 1) - win (gr ns cs r i) (i - r) i) + if (i : Int) + 1 ∈ g' then 1 else 0] := by
      intro g' h1 h2
      unfold addL
      rw [gr_len, gl, List.range_succ, List.map_append, List.map_singleton]
      congr 1
      · refine List.map_congr_left fun j hj => ?_
        have hj := List.mem_range.mp hj
        have e1 : (gr ns cs r (i + 1)).getD j 0 = (gr ns cs r i).getD j 0 := by rw [gr_pre (by omega), gr_pre (i := i) hj]
        rw [e1]
        congr 1
        by_cases hm : ((j : Nat) : Int) + 1 ∈ g'
        · rw [if_pos hm, if_pos (h1 _ hm j hj rfl)]
        · rw [if_neg hm, if_neg fun z => hm (h2 _ z)]
      · congr 2
        rw [gr_snoc, List.getD_eq_getElem?_getD, List.getElem?_append_right (by omega), gl]; simp
    have nin : ¬ (i : Int) + 1 ∈ (gst (room ns (gr ns cs r n)) c r i).1 := fun h => by have := gin _ h; omega
    conv => rhs; unfold gst
    by_cases hc : (gst (room ns (gr ns cs r n)) c r i).2 ≤ (i : Int) + 1 ∧ room ns (gr ns cs r n) i = true
    · rw [if_pos hc]
      obtain ⟨h1, h2⟩ := fre.mp hc.1
      have h3 := hc.2
      rw [rm] at h3
      have h3 := of_decide_eq_true h3
      rw [tail]
      · have nb : ¬ ∃ e ∈ (gst (room ns (gr ns cs r n)) c r i).1, (i : Int) + 1 - e ≤ r := fun ⟨e, he, h⟩ => by have := h2 e he; omega
        rw [if_pos h1, if_neg nb, if_pos (by simp)]
        congr 2
        omega
      · intro e he j hj hje
        rcases List.mem_append.mp he with he | he
        · exact he
        · rw [List.mem_singleton.mp he] at hje; omega
      · exact fun e he => List.mem_append_left _ he
    · rw [if_neg hc, tail _ (fun e he _ _ _ => he) (fun e he => he), if_neg nin]
      congr 2
      by_cases hb : ∃ e ∈ (gst (room ns (gr ns cs r n)) c r i).1, (i : Int) + 1 - e ≤ r
      · obtain ⟨e, he, _⟩ := id hb
        have := gin e he
        have hc1 : c ≤ (i : Int) + 1 := by omega
        rw [if_pos hb, if_pos hc1]
        omega
      · rw [if_neg hb]
        by_cases h1 : c ≤ (i : Int) + 1
        · rw [if_pos h1]
          have h2 : (gst (room ns (gr ns cs r n)) c r i).2 ≤ (i : Int) + 1 := fre.mpr ⟨h1, fun e he => by
            rcases Int.lt_or_le (r : Int) ((i : Int) + 1 - e) with h | h
            · exact h
            · exact absurd ⟨e, he, h⟩ hb⟩
          have h3 : ¬ room ns (gr ns cs r n) i = true := fun h => hc ⟨h2, h⟩
          rw [rm] at h3
          have h3 : ¬ (min (ns.getD i 0) (hereN cs ((i : Nat) + 1) - win (gr ns cs r i) (i - r) i) < ns.getD i 0) := fun z => h3 (decide_eq_true z)
          omega
        · rw [if_neg h1]; omega
theorem fc_grow {ns cs ps qs : List Int} {r : Nat} {p : Int} (h : qs.Perm (p :: ps)) : fc ns cs qs r = addL (fc ns cs ps r) (gro ns cs ps r p) := by
  unfold fc gro
  rw [gr_congr (cs := csP cs qs) (cs' := cs.getD p.toNat 0 :: csP cs ps) (fun e => here_perm (h.map _) e), gr_add _ (Nat.le_refl _)]
  rfl
/-- more people: no night with fewer -/
theorem fc_mono {ns cs : List Int} {r : Nat} (j : Nat) : ∀ {ps qs : List Int}, (fc ns cs ps r).getD j 0 ≤ (fc ns cs (qs ++ ps) r).getD j 0
  | ps, [] => Int.le_refl _
  | ps, q :: qs => by
    refine Int.le_trans (fc_mono (ps := ps) (qs := qs) j) ?_
    rw [fc_grow (ps := qs ++ ps) (qs := (q :: qs) ++ ps) (p := q) (by rw [List.cons_append])]
    by_cases hj : j < (fc ns cs (qs ++ ps) r).length
    · rw [addL_at hj]; split <;> omega
    · rw [List.getD_eq_getElem?_getD, List.getElem?_eq_none (by omega), List.getD_eq_getElem?_getD, List.getElem?_eq_none (by rw [addL_len]; omega)]; exact Int.le_refl _
theorem fc_perm {ns cs ps qs : List Int} {r : Nat} (h : qs.Perm ps) : fc ns cs qs r = fc ns cs ps r :=
  gr_congr (fun e => here_perm (h.map _) e) _
theorem gst_c {ok : Nat → Bool} {c : Int} {r : Nat} : ∀ i, c ≤ (gst ok c r i).2
  | 0 => Int.le_refl _
  | i + 1 => by
    have := gst_c (ok := ok) (c := c) (r := r) i
    unfold gst
    split
    · rename_i h; have := h.1; show c ≤ (i : Int) + 1 + r + 1; omega
    · exact this
/-- from fewer nights no more are chosen -/
theorem gst_few {ok ok' : Nat → Bool} {c : Int} {r : Nat} (h : ∀ j, ok' j = true → ok j = true) : ∀ i, (gst ok' c r i).1.length ≤ (gst ok c r i).1.length ∧ ((gst ok' c r i).1.length = (gst ok c r i).1.length → (gst ok c r i).2 ≤ (gst ok' c r i).2) ∧ (0 < i → (gst ok c r i).2 ≤ max c ((i : Int) + r + 1))
  | 0 => by simp [gst]
  | i + 1 => by
    obtain ⟨h1, h2, h3⟩ := gst_few h i
    have h4 : (gst ok c r i).2 ≤ max c ((i : Int) + r + 1) := by
      by_cases z : 0 < i
      · exact h3 z
      · have : i = 0 := by omega
        subst this; simp only [gst]; omega
    have hh := h i
    have h5 := gst_c (ok := ok') (c := c) (r := r) i
    unfold gst
    generalize gst ok' c r i = g' at *
    generalize gst ok c r i = g at *
    by_cases a : g'.2 ≤ (i : Int) + 1 ∧ ok' i = true
    · rw [if_pos a]
      by_cases b : g.2 ≤ (i : Int) + 1 ∧ ok i = true
      · rw [if_pos b]
        simp only [List.length_append, List.length_singleton]
        exact ⟨by omega, fun _ => Int.le_refl _, fun _ => by omega⟩
      · rw [if_neg b]
        simp only [List.length_append, List.length_singleton]
        have : ¬ g'.1.length = g.1.length := fun z => b ⟨by have := h2 z; omega, hh a.2⟩
        refine ⟨by omega, fun _ => ?_, fun _ => by omega⟩
        have := a.1
        omega
    · rw [if_neg a]
      by_cases b : g.2 ≤ (i : Int) + 1 ∧ ok i = true
      · rw [if_pos b]
        simp only [List.length_append, List.length_singleton]
        exact ⟨by omega, fun z => by omega, fun _ => by omega⟩
      · rw [if_neg b]
        exact ⟨h1, h2, fun _ => by omega⟩
/-! ### the law's own defs -/
def dsGrowthL : DSp := fun ds Q _ => ∃ ns cs r ps p, ds = [.lst (partD ns cs r), .lst (li ps), .int p] ∧ hok ns cs r ∧ ps.length ≤ 1000 ∧ (∀ x ∈ ps, inR cs.length x) ∧ inR cs.length p ∧ Q (.own (li (gro ns cs ps r p)))
def outD (o : Option (Bool × Int)) (g : List Int) : D := match o with
  | none => .tup [.str "told", .lst (li g)]
  | some (false, x) => .tup [.str "NoPerson", .int x, .bl true, .bl false]
  | some (true, x) => .tup [.str "NamedTwice", .int x, .bl true, .bl false]
def outR (o : Option (Bool × Int)) (g : List Int) : Rk := match o with
  | none => .otup [.str "told"] (li g) []
  | some z => .val (outD (some z) g)
def dsDueL : DSp := fun ds Q _ => ∃ ns cs r ps p, ds = [.lst (partD ns cs r), .lst (li ps), .int p] ∧ hok ns cs r ∧ ps.length ≤ 1000 ∧ Q (.val (outD (flt cs.length [] (ps ++ [p])) (gro ns cs ps r p)))
def dsTryL (A : Ad) : DSp := fun ds Q _ => ∃ ns cs r ps p, ds = [hD A ns cs r, .lst (li ps), .int p] ∧ hok ns cs r ∧ ps.length ≤ 1000 ∧ Q (outR (flt cs.length [] (ps ++ [p])) (gro ns cs ps r p))
def dsGrowsL (A : Ad) : DSp := fun ds Q _ => ∃ ns cs r ps p, ∃ k : Nat, ds = [hD A ns cs r, .lst (partD ns cs r), .lst (li ps), .int p, .int k] ∧ hok ns cs r ∧ ps.length ≤ 999 ∧ flt cs.length [] (ps ++ [p]) = none ∧ k ≤ ps.length ∧ Q (.val (.bl true))
theorem at3 {a b c z : Int} (h0 : 0 ≤ z) (h1 : z < 3) : ∃ e, atI [D.int a, D.int b, D.int c] z = some (D.int e) := by
  have : z = 0 ∨ z = 1 ∨ z = 2 := by omega
  rcases this with rfl | rfl | rfl
  · exact ⟨a, rfl⟩
  · exact ⟨b, rfl⟩
  · exact ⟨c, rfl⟩
theorem near_nil {g : List Int} {n : Int} {r : Nat} : ((g.filter fun e => decide (n - e ≤ r)).length = 0) ↔ ∀ e ∈ g, (r : Int) < n - e := by
  rw [List.length_eq_zero_iff, List.filter_eq_nil_iff]
  constructor
  · intro h e he
    have := h e he
    simp only [decide_eq_true_eq] at this
    omega
  · intro h e he
    have := h e he
    simp only [decide_eq_true_eq]
    omega
theorem filt_li {g : List Int} {q : Int → Bool} : ((List.range g.length).filter fun i => q (g.getD i 0)).map (fun i => D.int (g.getD i 0)) = li (g.filter q) := by
  unfold li
  induction g with
  | nil => rfl
  | cons x g ih =>
    rw [List.length_cons, List.range_succ_eq_map, List.filter_cons]
    rw [List.filter_map, List.filter_cons]
    simp only [List.getD_cons_zero, Function.comp_def, List.getD_cons_succ] at ih ⊢
    by_cases h : q x = true
    · rw [if_pos h, if_pos h, List.map_cons, List.map_map, List.map_cons]
      simp only [List.getD_cons_zero, Function.comp_def, List.getD_cons_succ]
      rw [← ih]
    · rw [if_neg h, if_neg h, List.map_map]
      simp only [Function.comp_def, List.getD_cons_succ]
      rw [← ih]
theorem ps_li {n : Nat} {ns : List Int} (h : ns.length ≤ 100000) : ps (n + 1) (.lst (li ns)) := ⟨by rw [li_len]; exact h, pss_li ns⟩
theorem addL_li {l g : List Int} : (List.range l.length).map (fun j => D.int (l.getD j 0 + if ((j : Nat) : Int) + 1 ∈ g then 1 else 0)) = li (addL l g) := by
  unfold addL li; rw [List.map_map]; rfl
theorem ps_told {n : Nat} {t : Str} {ns : List Int} (h : ns.length ≤ 100000) : ps (n + 2) (.tup [.str t, .lst (li ns)]) := ⟨by simp, trivial, ps_li h, trivial⟩
theorem ps_word {n : Nat} {t : Str} {x : Int} {b c : Bool} : ps (n + 1) (.tup [.str t, .int x, .bl b, .bl c]) := by
  cases n <;> exact ⟨by simp, trivial, trivial, trivial, trivial, trivial⟩
theorem c20 {d : D} : clo (.val d) = noL d := rfl
theorem c21 {ds : List D} : clo (.own ds) = noLs ds := rfl
theorem c22 {p ds q : List D} : clo (.otup p ds q) = (noLs p && noLs ds && noLs q) := rfl
theorem sub_perm {out : List Int} : ∀ {inn : List Int}, inn.Nodup → (∀ z ∈ inn, z ∈ out) → ∃ qs, out.Perm (qs ++ inn)
  | [], _, _ => ⟨out, by simp⟩
  | a :: t, n, h => by
    rw [List.nodup_cons] at n
    obtain ⟨qs, hq⟩ := sub_perm n.2 fun z hz => h z (List.mem_cons_of_mem _ hz)
    have ha : a ∈ qs := (List.mem_append.mp (hq.mem_iff.mp (h a List.mem_cons_self))).resolve_right n.1
    exact ⟨qs.erase a, hq.trans (((List.perm_cons_erase ha).append_right t).trans List.perm_middle.symm)⟩
theorem gro_few {ns cs inn out : List Int} {r : Nat} {x : Int} (n : inn.Nodup) (h : ∀ z ∈ inn, z ∈ out) : (gro ns cs out r x).length ≤ (gro ns cs inn r x).length := by
  obtain ⟨qs, hq⟩ := sub_perm n h
  refine (gst_few (fun j hj => ?_) _).1
  have h1 := of_decide_eq_true hj
  rw [fc_perm hq] at h1
  have h2 := fc_mono (ns := ns) (cs := cs) (r := r) j (ps := inn) (qs := qs)
  exact decide_eq_true (by omega)
end Nk
/-! Rows of nights: the laws' drawn worlds. -/
namespace Nk
open PySem L2 DL Hse
abbrev Rows := List (List Int)
def lls (rows : Rows) : List D := rows.map fun r => .lst (li r)
def lts (rows : Rows) : List D := rows.map fun r => .tup (li r)
/-- rows, each a list or a tuple -/
def sqL (xs : List D) (rows : Rows) : Prop := xs.length = rows.length ∧ ∀ i < rows.length, sq (xs.getD i .non) (rows.getD i [])
def sq2 (s : D) (rows : Rows) : Prop := ∃ xs, (s = .lst xs ∨ s = .tup xs) ∧ sqL xs rows
theorem lls_len {rows : Rows} : (lls rows).length = rows.length := by simp [lls]
theorem lts_len {rows : Rows} : (lts rows).length = rows.length := by simp [lts]
theorem lls_at {rows : Rows} {i : Nat} (h : i < rows.length) : (lls rows).getD i .non = .lst (li (rows.getD i [])) := by
  unfold lls; simp [h]
theorem lts_at {rows : Rows} {i : Nat} (h : i < rows.length) : (lts rows).getD i .non = .tup (li (rows.getD i [])) := by
  unfold lts; simp [h]
theorem sqL_l (rows : Rows) : sqL (lls rows) rows := ⟨lls_len, fun i h => .inl (lls_at h)⟩
theorem sqL_t (rows : Rows) : sqL (lts rows) rows := ⟨lts_len, fun i h => .inr (lts_at h)⟩
theorem sq2_ll (rows : Rows) : sq2 (.lst (lls rows)) rows := ⟨_, .inl rfl, sqL_l _⟩
theorem sq2_tt (rows : Rows) : sq2 (.tup (lts rows)) rows := ⟨_, .inr rfl, sqL_t _⟩
theorem sq2_lt (rows : Rows) : sq2 (.lst (lts rows)) rows := ⟨_, .inl rfl, sqL_t _⟩
theorem lls_snoc (rows : Rows) (r : List Int) : lls rows ++ [.lst (li r)] = lls (rows ++ [r]) := by simp [lls]
theorem lts_snoc (rows : Rows) (r : List Int) : lts rows ++ [.tup (li r)] = lts (rows ++ [r]) := by simp [lts]
theorem getD_lt {α : Type} {xs ys : List α} {d : α} {i : Nat} (h : i < xs.length) : (xs ++ ys).getD i d = xs.getD i d := by
  rw [List.getD_eq_getElem?_getD, List.getElem?_append_left h, List.getD_eq_getElem?_getD]
theorem getD_eq {α : Type} {xs : List α} {x d : α} {i : Nat} (h : i = xs.length) : (xs ++ [x]).getD i d = x := by
  subst h; rw [List.getD_eq_getElem?_getD, List.getElem?_append_right (Nat.le_refl _)]; simp
theorem getD_mem {α : Type} {xs : List α} {d : α} {i : Nat} (h : i < xs.length) : xs.getD i d ∈ xs := by
  rw [List.getD_eq_getElem?_getD, List.getElem?_eq_getElem h]; exact List.getElem_mem h
theorem mem_getD {α : Type} {xs : List α} {x : α} (d : α) (h : x ∈ xs) : ∃ i < xs.length, xs.getD i d = x := by
  obtain ⟨i, hi, e⟩ := List.getElem_of_mem h
  exact ⟨i, hi, by rw [List.getD_eq_getElem?_getD, List.getElem?_eq_getElem hi]; exact e⟩
theorem getD_ext {α : Type} {xs ys : List α} {d : α} (h : xs.length = ys.length) (e : ∀ i < xs.length, xs.getD i d = ys.getD i d) : xs = ys := by
  apply List.ext_getElem h
  intro i h1 h2
  have := e i h1
  simpa [h1, h2] using this
theorem getD_map {α β : Type} {xs : List α} {f : α → β} {d : β} (c : α) {i : Nat} (h : i < xs.length) : (xs.map f).getD i d = f (xs.getD i c) := by
  simp [h]
theorem getD_rng {β : Type} {f : Nat → β} {d : β} {n i : Nat} (h : i < n) : ((List.range n).map f).getD i d = f i := by
  simp [h]
theorem getD_set {α : Type} {xs : List α} {x d : α} {i j : Nat} (h : i < xs.length) : (xs.set i x).getD j d = if j = i then x else xs.getD j d := by
  rw [List.getD_eq_getElem?_getD, List.getElem?_set]
  by_cases e : i = j
  · subst e; simp [h]
  · rw [if_neg e, if_neg (fun z => e z.symm), List.getD_eq_getElem?_getD]
/-- rows that a plan may have: who stands there has come, and not in the g nights before -/
structure fitG (cs : List Int) (g : Nat) (rows : Rows) : Prop where
  asc : ∀ j < rows.length, (rows.getD j []).Pairwise (· < ·)
  inn : ∀ j < rows.length, ∀ p ∈ rows.getD j [], inR cs.length p
  come : ∀ j < rows.length, ∀ p ∈ rows.getD j [], cs.getD p.toNat 0 ≤ (j : Int) + 1
  apart : ∀ i j, i < j → j < rows.length → ∀ p ∈ rows.getD i [], p ∈ rows.getD j [] → i + g < j
theorem fitG_nil {cs : List Int} {g : Nat} : fitG cs g [] := ⟨fun _ h => absurd h (Nat.not_lt_zero _), fun _ h => absurd h (Nat.not_lt_zero _), fun _ h => absurd h (Nat.not_lt_zero _), fun _ _ _ h => absurd h (Nat.not_lt_zero _)⟩
theorem fitG_snoc {cs : List Int} {g : Nat} {rows : Rows} {r : List Int} (h : fitG cs g rows) (h1 : r.Pairwise (· < ·)) (h2 : ∀ p ∈ r, inR cs.length p) (h3 : ∀ p ∈ r, cs.getD p.toNat 0 ≤ (rows.length : Int) + 1)
    (h4 : ∀ i < rows.length, ∀ p ∈ r, p ∈ rows.getD i [] → i + g < rows.length) : fitG cs g (rows ++ [r]) := by
  have sp : ∀ j, j < (rows ++ [r]).length → j < rows.length ∨ j = rows.length := fun j h => by simp at h; omega
  refine ⟨fun j hj => ?_, fun j hj => ?_, fun j hj => ?_, fun i j hij hj => ?_⟩
  · rcases sp j hj with e | e
    · rw [getD_lt e]; exact h.asc j e
    · rw [getD_eq e]; exact h1
  · rcases sp j hj with e | e
    · rw [getD_lt e]; exact h.inn j e
    · rw [getD_eq e]; exact h2
  · rcases sp j hj with e | e
    · rw [getD_lt e]; exact h.come j e
    · rw [getD_eq e, e]; exact h3
  · rcases sp j hj with e | e
    · rw [getD_lt e, getD_lt (by omega)]; exact h.apart i j hij e
    · rw [getD_eq e, getD_lt (by omega)]; intro p hp hq; rw [e]; exact h4 i (by omega) p hq hp
/-- rows with fewer entries -/
theorem fitG_sub {cs : List Int} {g : Nat} {rows rs : Rows} (h : fitG cs g rows) (hl : rs.length = rows.length) (hs : ∀ j < rows.length, (rs.getD j []).Sublist (rows.getD j [])) : fitG cs g rs :=
  ⟨fun j hj => (h.asc j (by omega)).sublist (hs j (by omega)), fun j hj p hp => h.inn j (by omega) p ((hs j (by omega)).subset hp), fun j hj p hp => h.come j (by omega) p ((hs j (by omega)).subset hp),
    fun i j hij hj p hp hq => h.apart i j hij (by omega) p ((hs i (by omega)).subset hp) ((hs j (by omega)).subset hq)⟩
theorem asc_snoc {r : List Int} {x : Int} (h : r.Pairwise (· < ·)) (hx : ∀ p ∈ r, p < x) : (r ++ [x]).Pairwise (· < ·) := by
  rw [List.pairwise_append]
  exact ⟨h, by simp, fun a ha b hb => by rw [List.mem_singleton.mp hb]; exact hx a ha⟩
theorem asc_nodup {r : List Int} (h : r.Pairwise (· < ·)) : r.Nodup := h.imp fun h => by omega
theorem asc_len {r : List Int} {m : Nat} (h : r.Pairwise (· < ·)) (hr : ∀ p ∈ r, inR m p) : r.length ≤ m := by
  obtain ⟨qs, hq⟩ := sub_perm (asc_nodup h) (out := (List.range m).map fun i => ((i : Nat) : Int)) fun z hz => by
    obtain ⟨h0, h1⟩ := hr z hz
    exact List.mem_map.mpr ⟨z.toNat, List.mem_range.mpr (by omega), by omega⟩
  have := hq.length_eq
  simp at this
  omega
def dsRowsL : DSm := fun es ds Q _ => ∃ (n : Nat) (cs : List Int) (g : Nat) (kn : Int), ds = [.int n, .lst (li cs), .int g, .int kn] ∧ PO es ∧ n ≤ 1000 ∧ cs.length ≤ 1000 ∧ g ≤ 1000 ∧ 0 < kn ∧ kn ≤ 1000 ∧
  ∀ p rows, PO p → rows.length = n → fitG cs g rows → Q (.own (lls rows)) p
def cnt (rows : Rows) (q : Int) : Nat := rows.countP fun r => decide (q ∈ r)
def cntL (rows : Rows) (m : Nat) : List Int := (List.range m).map fun q => (cnt rows (q : Nat) : Int)
def dsCountsL : DSp := fun ds Q _ => ∃ s rows, ∃ m : Nat, ds = [s, .int m] ∧ sq2 s rows ∧ rows.length ≤ 1000 ∧ m ≤ 1000 ∧ Q (.own (li (cntL rows m)))
abbrev worldD (ns cs : List Int) (g : Nat) (rows : Rows) : List D := [.lst (li ns), .lst (li cs), .int g, .lst (li (cntL rows cs.length)), .lst (lls rows)]
def dsWorldL : DSm := fun es ds Q _ => ∃ (mn mp mg : Nat), ds = [.int mn, .int mp, .int mg] ∧ PO es ∧ 0 < mn ∧ mn ≤ 60 ∧ 0 < mp ∧ mp ≤ 30 ∧ mg ≤ 60 ∧
  ∀ p ns cs g rows, PO p → hok ns cs g → fitG cs g rows → ns = rows.map (fun r => (r.length : Int)) → ns.length ≤ mn → cs.length ≤ mp → g ≤ mg → Q (.own (worldD ns cs g rows)) p
def dsBendL : DSm := fun es ds Q _ => ∃ ns, ds = [.lst (li ns)] ∧ PO es ∧ gW ns ∧ ∀ p ms, PO p → ms.length = ns.length → gW ms → (∀ j < ns.length, ns.getD j 0 ≤ ms.getD j 0) → Q (.own (li ms)) p
def dsIntsL : DSp := fun ds Q _ => ∃ s ns, ds = [s] ∧ sq s ns ∧ Q (.val (.bl true))
abbrev houseD (ns cs : List Int) (g : Nat) (rows : Rows) : List D := [.lst (li ns), .lst (li cs), .int g, .lst (lls rows)]
def dsHouseL2 : DSm := fun es ds Q _ => ∃ (mn mp mg : Nat), ds = [.int mn, .int mp, .int mg] ∧ PO es ∧ 0 < mn ∧ mn ≤ 60 ∧ 0 < mp ∧ mp ≤ 30 ∧ mg ≤ 60 ∧
  ∀ p ns cs g rows, PO p → hok ns cs g → fitG cs g rows → rows.length = ns.length → (∀ j < ns.length, ((rows.getD j []).length : Int) ≤ ns.getD j 0) → ns.length ≤ mn → cs.length ≤ mp → Q (.own (houseD ns cs g rows)) p
theorem cut_to {ns : List Int} {z : Int} (h : 0 ≤ z) : cutD (li ns) none (some z) = li (ns.take z.toNat) := by
  obtain ⟨k, rfl⟩ := Int.eq_ofNat_of_zero_le h
  rw [Int.toNat_natCast]
  unfold cutD
  rw [HT.sIx_nat, li_len]
  show ((li ns).drop 0).take (min k ns.length - 0) = _
  rw [List.drop_zero, Nat.sub_zero]
  unfold li
  rw [← List.map_take]
  congr 1
  rw [List.take_eq_take_iff]
  simp
end Nk
namespace Nk
open PySem L2 DL Hse
/-- from when on each person may watch again -/
def agG (cs : List Int) (g : Nat) (rs : Rows) (ag : List Int) : Prop := ag.length = cs.length ∧ ∀ q < cs.length, cs.getD q 0 ≤ ag.getD q 0 ∧ ∀ j < rs.length, ((q : Nat) : Int) ∈ rs.getD j [] → (j : Int) + g + 2 ≤ ag.getD q 0
structure rowG (cs : List Int) (g : Nat) (rs : Rows) (r ag : List Int) (k : Nat) : Prop where
  al : ag.length = cs.length
  agg : ∀ q < cs.length, cs.getD q 0 ≤ ag.getD q 0 ∧ ∀ j < rs.length, ((q : Nat) : Int) ∈ rs.getD j [] → (j : Int) + g + 2 ≤ ag.getD q 0
  rl : r.length ≤ k
  asc : r.Pairwise (· < ·)
  inn : ∀ p ∈ r, inR cs.length p ∧ p < k
  come : ∀ p ∈ r, cs.getD p.toNat 0 ≤ (rs.length : Int) + 1
  off : ∀ i < rs.length, ∀ p ∈ r, p ∈ rs.getD i [] → i + g < rs.length
  here : ∀ p ∈ r, (rs.length : Int) + g + 2 ≤ ag.getD p.toNat 0
theorem rowG_nil {cs : List Int} {g : Nat} {rs : Rows} {ag : List Int} (h : agG cs g rs ag) : rowG cs g rs [] ag 0 :=
  ⟨h.1, h.2, Nat.le_refl _, .nil, by simp, by simp, by simp, by simp⟩
theorem rowG_skip {cs : List Int} {g : Nat} {rs : Rows} {r ag : List Int} {k : Nat} (h : rowG cs g rs r ag k) : rowG cs g rs r ag (k + 1) :=
  ⟨h.al, h.agg, Nat.le_succ_of_le h.rl, h.asc, fun p hp => ⟨(h.inn p hp).1, by have := (h.inn p hp).2; omega⟩, h.come, h.off, h.here⟩
theorem rowG_put {cs : List Int} {g : Nat} {rs : Rows} {r ag : List Int} {k : Nat} (h : rowG cs g rs r ag k) (hk : k < cs.length) (hc : ag.getD k 0 ≤ (rs.length : Int) + 1) :
    rowG cs g rs (r ++ [((k : Nat) : Int)]) (ag.set k ((rs.length : Int) + g + 2)) (k + 1) := by
  have hk2 : k < ag.length := by rw [h.al]; exact hk
  have mm : ∀ p, p ∈ r ++ [((k : Nat) : Int)] → p ∈ r ∨ p = (k : Int) := fun p hp => by simpa using hp
  obtain ⟨h1, h2⟩ := h.agg k hk
  refine ⟨by simpa using h.al, fun q hq => ?_, by have := h.rl; simp; omega, asc_snoc h.asc fun p hp => (h.inn p hp).2, fun p hp => ?_, fun p hp => ?_, fun i hi p hp hq => ?_, fun p hp => ?_⟩
  · rw [getD_set hk2]
    split
    · rename_i e; subst e
      exact ⟨by omega, fun j hj _ => by omega⟩
    · exact h.agg q hq
  · rcases mm p hp with e | rfl
    · exact ⟨(h.inn p e).1, by have := (h.inn p e).2; omega⟩
    · exact ⟨⟨by omega, by omega⟩, by omega⟩
  · rcases mm p hp with e | rfl
    · exact h.come p e
    · rw [Int.toNat_natCast]; omega
  · rcases mm p hp with e | rfl
    · exact h.off i hi p e hq
    · have := h2 i hi hq; omega
  · rcases mm p hp with e | rfl
    · rw [getD_set hk2]
      split
      · exact Int.le_refl _
      · exact h.here p e
    · rw [Int.toNat_natCast, getD_set hk2, if_pos rfl]; exact Int.le_refl _
theorem rowG_end {cs : List Int} {g : Nat} {rs : Rows} {r ag : List Int} {k : Nat} (hf : fitG cs g rs) (h : rowG cs g rs r ag k) : fitG cs g (rs ++ [r]) ∧ agG cs g (rs ++ [r]) ag := by
  refine ⟨fitG_snoc hf h.asc (fun p hp => (h.inn p hp).1) h.come h.off, h.al, fun q hq => ⟨(h.agg q hq).1, fun j hj hm => ?_⟩⟩
  by_cases e : j < rs.length
  · rw [getD_lt e] at hm; exact (h.agg q hq).2 j e hm
  · have e : j = rs.length := by simp at hj; omega
    rw [getD_eq e] at hm
    have := h.here _ hm
    rw [Int.toNat_natCast] at this
    omega
theorem cnt_filter {rows : Rows} {q : Int} : ((List.range rows.length).filter fun j => decide (q ∈ rows.getD j [])).length = cnt rows q := by
  unfold cnt
  induction rows with
  | nil => rfl
  | cons r rows ih =>
    rw [List.length_cons, List.range_succ_eq_map, List.filter_cons, List.countP_cons, ← ih, List.filter_map]
    simp only [List.getD_cons_zero, List.getD_cons_succ, Function.comp_def]
    split <;> simp
theorem lls_get {rows : Rows} {i : Nat} {d : D} (h : (lls rows)[i]? = some d) : i < rows.length ∧ d = .lst (li (rows.getD i [])) := by
  have hi : i < (lls rows).length := (List.getElem?_eq_some_iff.mp h).1
  rw [lls_len] at hi
  refine ⟨hi, ?_⟩
  have := lls_at hi
  rw [List.getD_eq_getElem?_getD, h] at this
  exact this
theorem lts_get {rows : Rows} {i : Nat} {d : D} (h : (lts rows)[i]? = some d) : i < rows.length ∧ d = .tup (li (rows.getD i [])) := by
  have hi : i < (lts rows).length := (List.getElem?_eq_some_iff.mp h).1
  rw [lts_len] at hi
  refine ⟨hi, ?_⟩
  have := lts_at hi
  rw [List.getD_eq_getElem?_getD, h] at this
  exact this
theorem len_li {rows : Rows} : (List.range rows.length).map (fun i => D.int ((rows.getD i []).length : Nat)) = li (rows.map fun r => (r.length : Int)) := by
  unfold li
  apply List.ext_getElem
  · simp
  · intro i h1 h2
    have : i < rows.length := by simpa using h1
    simp [this]
theorem at5 {z : Int} (h0 : 0 ≤ z) (h1 : z < 4) : ∃ e, atI [D.int 5, D.int 5, D.int 5, D.int 30] z = some (D.int e) ∧ 0 ≤ e ∧ e ≤ 30 := by
  have : z = 0 ∨ z = 1 ∨ z = 2 ∨ z = 3 := by omega
  rcases this with rfl | rfl | rfl | rfl
  · exact ⟨5, rfl, by omega, by omega⟩
  · exact ⟨5, rfl, by omega, by omega⟩
  · exact ⟨5, rfl, by omega, by omega⟩
  · exact ⟨30, rfl, by omega, by omega⟩
end Nk
/-! Plans, orders. -/
namespace Nk
open PySem L2 DL Hse
abbrev pD (A : Ad) (rows : Rows) : D := .ins A.c_Plan [("rows", .tup (lts rows))]
def dsMkPlan (A : Ad) : DSp := fun ds Q _ => ∃ s rows, ds = [s] ∧ sq2 s rows ∧ rows.length ≤ 1000 ∧ (∀ j < rows.length, (rows.getD j []).length ≤ 1000) ∧ Q (.val (pD A rows))
def wlP (A : Ad) (X : DXf) (a b : Int) : Prop := X A.c_WrongLength (some [("found", .int a), ("wanted", .int b)])
/-- an order of all m people, or its first fault -/
def ordK (A : Ad) (m : Nat) (ps : List Int) (Q : Prop) (X : DXf) : Prop := fltK (flt m [] ps) (if ps.length = m then Q else wlP A X ps.length m) (noP A X) (twP A X)
def dsCkOrder (A : Ad) : DSp := fun ds Q X => ∃ ns cs r ps, ds = [hD A ns cs r, .lst (li ps)] ∧ hok ns cs r ∧ ps.length ≤ 1000 ∧ ordK A cs.length ps (Q (.val .non)) X
def isOrd (m : Nat) (ps : List Int) : Prop := flt m [] ps = none ∧ ps.length = m
theorem ordK_ok {A : Ad} {m : Nat} {ps : List Int} {Q : Prop} {X : DXf} (h : isOrd m ps) : ordK A m ps Q X = Q := by
  unfold ordK; rw [h.1, if_pos h.2]; rfl
theorem ordK_imp {A : Ad} {m : Nat} {ps : List Int} {Q Q2 : Prop} {X : DXf} (h : ordK A m ps Q X) (k : isOrd m ps → Q → Q2) : ordK A m ps Q2 X := by
  unfold ordK at h ⊢
  cases e : flt m [] ps with
  | none =>
    rw [e] at h
    show if ps.length = m then Q2 else _
    have h : if ps.length = m then Q else wlP A X ps.length m := h
    split
    · rename_i c; rw [if_pos c] at h; exact k ⟨e, c⟩ h
    · rename_i c; rw [if_neg c] at h; exact h
  | some z => rw [e] at h; rcases z with ⟨b, x⟩; cases b <;> exact h
/-- the nights of growth of the person q in the order ps -/
def nioQ (ns cs : List Int) (r : Nat) (ps : List Int) (q : Nat) : List Int := gro ns cs (ps.take (ps.idxOf (q : Int))) r q
def nioL (ns cs : List Int) (r : Nat) (ps : List Int) : Rows := (List.range cs.length).map fun q => nioQ ns cs r ps q
def nioI (ns cs : List Int) (r : Nat) (ps : List Int) (i : Nat) : Rows := (List.range cs.length).map fun q => if ((q : Nat) : Int) ∈ ps.take i then nioQ ns cs r ps q else []
def dsNio (A : Ad) : DSp := fun ds Q X => ∃ ns cs r ps, ds = [hD A ns cs r, .lst (li ps)] ∧ hok ns cs r ∧ ps.length ≤ 1000 ∧ ordK A cs.length ps (Q (.own (lls (nioL ns cs r ps)))) X
def orow (ns cs : List Int) (r : Nat) (ps : List Int) (k j : Nat) : List Int := pick (fun q => decide ((j : Int) + 1 ∈ nioQ ns cs r ps q)) k
def oRows (ns cs : List Int) (r : Nat) (ps : List Int) (k : Nat) : Rows := (List.range ns.length).map fun j => orow ns cs r ps k j
def dsOaa (A : Ad) : DSp := fun ds Q X => ∃ ns cs r ps, ds = [hD A ns cs r, .lst (li ps)] ∧ hok ns cs r ∧ ps.length ≤ 1000 ∧ ordK A cs.length ps (Q (.val (pD A (oRows ns cs r ps cs.length)))) X
def ocnt (ns cs : List Int) (r : Nat) (ps : List Int) : List Int := (List.range cs.length).map fun q => ((nioQ ns cs r ps q).length : Int)
def dsOcnt (A : Ad) : DSp := fun ds Q X => ∃ ns cs r ps, ds = [hD A ns cs r, .lst (li ps)] ∧ hok ns cs r ∧ ps.length ≤ 1000 ∧ ordK A cs.length ps (Q (.own (li (ocnt ns cs r ps)))) X
/-! ### orders -/
theorem idx_at {ps : List Int} {i : Nat} (h : ps.Nodup) (hi : i < ps.length) : ps.idxOf (ps.getD i 0) = i := by
  rw [List.getD_eq_getElem?_getD, List.getElem?_eq_getElem hi]
  exact h.idxOf_getElem i hi
theorem isOrd.nd {m : Nat} {ps : List Int} (h : isOrd m ps) : ps.Nodup := (flt_none.mp h.1).2.1
theorem isOrd.inn {m : Nat} {ps : List Int} (h : isOrd m ps) : ∀ p ∈ ps, inR m p := (flt_none.mp h.1).1
theorem isOrd.mem {m : Nat} {ps : List Int} (h : isOrd m ps) {q : Nat} (hq : q < m) : (q : Int) ∈ ps := by
  obtain ⟨qs, hp⟩ := sub_perm (out := (List.range m).map fun i => ((i : Nat) : Int)) h.nd fun z hz => by
    obtain ⟨h0, h1⟩ := h.inn z hz
    exact List.mem_map.mpr ⟨z.toNat, List.mem_range.mpr (by omega), by omega⟩
  have hl := hp.length_eq
  have h2 := h.2
  simp at hl
  have : qs = [] := List.length_eq_zero_iff.mp (by omega)
  rw [this, List.nil_append] at hp
  exact hp.mem_iff.mp (List.mem_map.mpr ⟨q, List.mem_range.mpr hq, rfl⟩)
theorem isOrd.of {m : Nat} {ps : List Int} (h : ps.Perm ((List.range m).map fun i => ((i : Nat) : Int))) : isOrd m ps := by
  refine ⟨flt_none.mpr ⟨fun p hp => ?_, ?_, by simp⟩, by have := h.length_eq; simpa using this⟩
  · obtain ⟨i, hi, rfl⟩ := List.mem_map.mp (h.mem_iff.mp hp)
    have := List.mem_range.mp hi
    exact ⟨by omega, by omega⟩
  · refine h.symm.nodup ?_
    have := pick_nodup (q := fun _ => true) (m := m)
    unfold pick at this
    rwa [List.filter_eq_self.mpr (by simp)] at this
theorem nioI_zero {ns cs ps : List Int} {r : Nat} : nioI ns cs r ps 0 = List.replicate cs.length [] := by
  unfold nioI
  apply List.ext_getElem
  · simp
  · intro i h1 h2; simp
theorem nioI_end {ns cs ps : List Int} {r : Nat} (h : isOrd cs.length ps) : nioI ns cs r ps ps.length = nioL ns cs r ps := by
  unfold nioI nioL
  refine List.map_congr_left fun q hq => ?_
  rw [List.take_length, if_pos (h.mem (List.mem_range.mp hq))]
theorem nioI_set {ns cs ps : List Int} {r i : Nat} (h : isOrd cs.length ps) (hi : i < ps.length) : (nioI ns cs r ps i).set (ps.getD i 0).toNat (gro ns cs (ps.take i) r (ps.getD i 0)) = nioI ns cs r ps (i + 1) := by
  obtain ⟨h0, h1⟩ := h.inn _ (li_mem hi)
  have hx := idx_at h.nd hi
  have e : ps.getD i 0 = ps[i] := by simp [hi]
  have hl : (ps.getD i 0).toNat < (nioI ns cs r ps i).length := by rw [show (nioI ns cs r ps i).length = cs.length by simp [nioI]]; omega
  refine getD_ext (d := []) (by simp [nioI]) fun j hj => ?_
  have hj : j < cs.length := by simpa [nioI] using hj
  rw [getD_set hl]
  unfold nioI
  rw [getD_rng hj, getD_rng hj, List.take_succ_eq_append_getElem hi]
  by_cases c : j = (ps.getD i 0).toNat
  · rw [if_pos c, if_pos (List.mem_append_right _ (List.mem_singleton.mpr (by rw [← e, c, Int.toNat_of_nonneg h0])))]
    unfold nioQ
    rw [show ((j : Nat) : Int) = ps.getD i 0 by rw [c, Int.toNat_of_nonneg h0], hx]
  · rw [if_neg c]
    have : (((j : Nat) : Int) ∈ ps.take i ++ [ps[i]]) ↔ (((j : Nat) : Int) ∈ ps.take i) := by
      rw [List.mem_append, List.mem_singleton]
      constructor
      · rintro (h | h)
        · exact h
        · exfalso; apply c; omega
      · exact .inl
    simp only [this]
theorem nioQ_in {ns cs ps : List Int} {r q : Nat} {e : Int} (h : e ∈ nioQ ns cs r ps q) : 1 ≤ e ∧ e ≤ ns.length ∧ cs.getD q 0 ≤ e := by
  have := gst_in e h
  rw [Int.toNat_natCast] at this
  exact this
theorem gst_asc {ok : Nat → Bool} {c : Int} {r : Nat} : ∀ i, (gst ok c r i).1.Pairwise (· < ·)
  | 0 => .nil
  | i + 1 => by
    have ih := gst_asc (ok := ok) (c := c) (r := r) i
    have hin := gst_in (ok := ok) (c := c) (r := r) (i := i)
    unfold gst
    split
    · exact asc_snoc ih fun p hp => by have := hin p hp; omega
    · exact ih
theorem nioQ_asc {ns cs ps : List Int} {r q : Nat} : (nioQ ns cs r ps q).Pairwise (· < ·) := gst_asc _
theorem pick_succ (q : Nat → Bool) (m : Nat) : pick q (m + 1) = pick q m ++ if q m = true then [((m : Nat) : Int)] else [] := by
  unfold pick
  rw [List.range_succ, List.filter_append, List.map_append]
  congr 1
  by_cases h : q m = true
  · simp [h]
  · simp [h]
/-- rows while the first t nights of the person k are laid -/
def oRowsT (ns cs : List Int) (r : Nat) (ps : List Int) (k t : Nat) : Rows := (List.range ns.length).map fun j => orow ns cs r ps k j ++ if (j : Int) + 1 ∈ (nioQ ns cs r ps k).take t then [(k : Int)] else []
theorem oRowsT_zero {ns cs ps : List Int} {r k : Nat} : oRowsT ns cs r ps k 0 = oRows ns cs r ps k := by
  unfold oRowsT oRows
  refine List.map_congr_left fun j _ => ?_
  rw [List.take_zero, if_neg (by simp), List.append_nil]
theorem oRowsT_end {ns cs ps : List Int} {r k : Nat} : oRowsT ns cs r ps k (nioQ ns cs r ps k).length = oRows ns cs r ps (k + 1) := by
  unfold oRowsT oRows
  refine List.map_congr_left fun j _ => ?_
  unfold orow
  rw [List.take_length, pick_succ]
  congr 1
  simp only [decide_eq_true_eq]
theorem asc_getD {l : List Int} (h : l.Pairwise (· < ·)) {i j : Nat} (hij : i < j) (hj : j < l.length) : l.getD i 0 < l.getD j 0 := by
  have := List.pairwise_iff_getElem.mp h i j (by omega) hj hij
  simpa [hj, show i < l.length by omega] using this
theorem asc_take {l : List Int} (h : l.Pairwise (· < ·)) {t : Nat} (ht : t < l.length) : l.getD t 0 ∉ l.take t := fun hm => by
  obtain ⟨i, hi, e⟩ := mem_getD 0 hm
  have hi2 : i < t := by simp at hi; omega
  have := asc_getD h hi2 ht
  rw [List.getD_eq_getElem?_getD, List.getElem?_take_of_lt hi2, ← List.getD_eq_getElem?_getD] at e
  omega
theorem oRowsT_put {ns cs ps : List Int} {r k t : Nat} (ht : t < (nioQ ns cs r ps k).length) : ∃ j : Nat, j < ns.length ∧ (nioQ ns cs r ps k).getD t 0 = (j : Int) + 1 ∧
    (oRowsT ns cs r ps k t).set j ((oRowsT ns cs r ps k t).getD j [] ++ [(k : Int)]) = oRowsT ns cs r ps k (t + 1) := by
  have hm := li_mem ht
  obtain ⟨h1, h2, _⟩ := nioQ_in hm
  have hn := asc_take nioQ_asc ht
  refine ⟨((nioQ ns cs r ps k).getD t 0 - 1).toNat, by omega, by omega, ?_⟩
  have e : (nioQ ns cs r ps k).getD t 0 = (nioQ ns cs r ps k)[t] := by simp [ht]
  generalize hj0 : ((nioQ ns cs r ps k).getD t 0 - 1).toNat = j
  have hj : j < ns.length := by omega
  refine getD_ext (d := []) (by simp [oRowsT]) fun i hi => ?_
  have hi : i < ns.length := by simpa [oRowsT] using hi
  rw [getD_set (by simpa [oRowsT] using hj)]
  unfold oRowsT
  rw [getD_rng hi, getD_rng hi, getD_rng hj, List.take_succ_eq_append_getElem ht]
  have hm2 : ((j : Nat) : Int) + 1 ∉ (nioQ ns cs r ps k).take t := fun z => hn (by rwa [show (nioQ ns cs r ps k).getD t 0 = (j : Int) + 1 by omega])
  by_cases c : i = j
  · subst c
    rw [if_pos rfl, if_neg hm2, List.append_nil, if_pos (List.mem_append_right _ (List.mem_singleton.mpr (by omega)))]
  · rw [if_neg c]
    congr 1
    have : (((i : Nat) : Int) + 1 ∈ (nioQ ns cs r ps k).take t ++ [(nioQ ns cs r ps k)[t]]) ↔ (((i : Nat) : Int) + 1 ∈ (nioQ ns cs r ps k).take t) := by
      rw [List.mem_append, List.mem_singleton]
      constructor
      · rintro (h | h)
        · exact h
        · exfalso; apply c; omega
      · exact .inl
    simp only [this]
/-! ### rows as trees -/
def trw (rows : Rows) : List Tr := rows.map fun r => .l ((li r).map Tr.v)
theorem trw_len {rows : Rows} : (trw rows).length = rows.length := by simp [trw]
theorem trv_d : ∀ ds : List D, Tr.ds (ds.map Tr.v) = ds
  | [] => rfl
  | d :: ds => by rw [List.map_cons, Tr.ds, trv_d ds]; rfl
theorem trw_d {rows : Rows} : Tr.ds (trw rows) = lls rows := by
  rw [Tr.ds_map]
  unfold trw lls
  rw [List.map_map]
  refine List.map_congr_left fun r _ => ?_
  show D.lst (Tr.ds _) = _
  rw [trv_d]
theorem trw_at {rows : Rows} {j : Nat} (h : j < rows.length) : (trw rows)[j]? = some (.l ((li (rows.getD j [])).map Tr.v)) := by
  unfold trw; simp [h]
theorem trw_set {rows : Rows} {j : Nat} {r : List Int} {x : Int} : (trw rows).set j (.l ((li r).map Tr.v ++ [.v (.int x)])) = trw (rows.set j (r ++ [x])) := by
  unfold trw
  rw [List.map_set]
  simp [li]
end Nk
namespace Nk
open PySem L2 DL Hse
theorem lts_map {rows : Rows} : (List.range rows.length).map (fun i => D.tup (li (rows.getD i []))) = lts rows := by
  unfold lts
  apply List.ext_getElem
  · simp
  · intro i h1 h2
    have : i < rows.length := by simpa using h1
    simp [this]
theorem lls_map {rows : Rows} : (List.range rows.length).map (fun i => D.lst (li (rows.getD i []))) = lls rows := by
  unfold lls
  apply List.ext_getElem
  · simp
  · intro i h1 h2
    have : i < rows.length := by simpa using h1
    simp [this]
theorem lls_set {rows : Rows} {j : Nat} {r : List Int} : (lls rows).set j (.lst (li r)) = lls (rows.set j r) := by
  unfold lls; rw [List.map_set]
theorem nioI_len {ns cs ps : List Int} {r i : Nat} : (nioI ns cs r ps i).length = cs.length := by simp [nioI]
theorem take_snoc {ps : List Int} {i : Nat} (hi : i < ps.length) : ps.take i ++ [ps.getD i 0] = ps.take (i + 1) := by
  rw [List.take_succ_eq_append_getElem hi, show ps.getD i 0 = ps[i] by simp [hi]]
end Nk
/-! The laws' look at a plan; orders and their faults. -/
namespace Nk
open PySem L2 DL Hse
def rowOk (rows : Rows) (ns cs : List Int) (g : Nat) (brief : Bool) (j : Nat) : Prop :=
  ((rows.getD j []).length : Int) ≤ ns.getD j 0 ∧ (brief = false → ns.getD j 0 ≤ (rows.getD j []).length) ∧ (rows.getD j []).Nodup ∧
  ∀ p ∈ rows.getD j [], inR cs.length p ∧ cs.getD p.toNat 0 ≤ (j : Int) + 1 ∧ ∀ i < j, p ∈ rows.getD i [] → i + g < j
def fitsP (rows : Rows) (ns cs : List Int) (g : Nat) (brief : Bool) : Prop := rows.length = ns.length ∧ ∀ j < rows.length, rowOk rows ns cs g brief j
def dsFitsL : DSp := fun ds Q _ => ∃ s rows ns cs, ∃ g : Nat, ∃ brief : Bool, ds = [s, .lst (li ns), .lst (li cs), .int g, .bl brief] ∧ sq2 s rows ∧ rows.length ≤ 1000 ∧ (∀ j < rows.length, (rows.getD j []).length ≤ 1000) ∧ ns.length ≤ 1000 ∧ cs.length ≤ 1000 ∧ g ≤ 60 ∧
  ∀ b : Bool, (b = true ↔ fitsP rows ns cs g brief) → Q (.val (.bl b))
/-- the last nights -/
structure laG (cs : List Int) (rows : Rows) (j : Nat) (cur la : List Int) : Prop where
  al : la.length = cs.length
  lo : ∀ q < cs.length, ∀ i < j, ((q : Nat) : Int) ∈ rows.getD i [] → (i : Int) + 1 ≤ la.getD q 0
  cu : ∀ q < cs.length, ((q : Nat) : Int) ∈ cur → (j : Int) + 1 ≤ la.getD q 0
  hi : ∀ q < cs.length, la.getD q 0 = -100 ∨ (∃ i < j, ((q : Nat) : Int) ∈ rows.getD i [] ∧ la.getD q 0 = (i : Int) + 1) ∨ (((q : Nat) : Int) ∈ cur ∧ la.getD q 0 = (j : Int) + 1)
theorem laG_zero {cs : List Int} {rows : Rows} : laG cs rows 0 [] (List.replicate cs.length (-100)) :=
  ⟨by simp, fun _ _ i h => absurd h (Nat.not_lt_zero _), by simp, fun q hq => .inl (by simp [hq])⟩
theorem laG_next {cs : List Int} {rows : Rows} {j : Nat} {la : List Int} (h : laG cs rows j (rows.getD j []) la) : laG cs rows (j + 1) [] la := by
  refine ⟨h.al, fun q hq i hi hm => ?_, by simp, fun q hq => ?_⟩
  · by_cases e : i = j
    · subst e; exact h.cu q hq hm
    · exact h.lo q hq i (by omega) hm
  · rcases h.hi q hq with z | ⟨i, hi, hm, z⟩ | ⟨hm, z⟩
    · exact .inl z
    · exact .inr (.inl ⟨i, by omega, hm, z⟩)
    · exact .inr (.inl ⟨j, by omega, hm, z⟩)
theorem laG_put {cs : List Int} {rows : Rows} {j : Nat} {cur la : List Int} {p : Int} (h : laG cs rows j cur la) (hp : inR cs.length p) : laG cs rows j (cur ++ [p]) (la.set p.toNat ((j : Int) + 1)) := by
  obtain ⟨h0, h1⟩ := hp
  have hl : p.toNat < la.length := by rw [h.al]; omega
  refine ⟨by rw [List.length_set]; exact h.al, fun q hq i hi hm => ?_, fun q hq hm => ?_, fun q hq => ?_⟩
  · rw [getD_set hl]
    split
    · omega
    · exact h.lo q hq i hi hm
  · rw [getD_set hl]
    split
    · exact Int.le_refl _
    · rename_i e
      rcases List.mem_append.mp hm with z | z
      · exact h.cu q hq z
      · exfalso; have := List.mem_singleton.mp z; omega
  · rw [getD_set hl]
    split
    · rename_i e
      exact .inr (.inr ⟨List.mem_append_right _ (List.mem_singleton.mpr (by omega)), rfl⟩)
    · rcases h.hi q hq with z | z | ⟨hm, z⟩
      · exact .inl z
      · exact .inr (.inl z)
      · exact .inr (.inr ⟨List.mem_append_left _ hm, z⟩)
theorem la_bad {cs : List Int} {rows : Rows} {j g : Nat} {cur la : List Int} {p : Int} (h : laG cs rows j cur la) (hp : inR cs.length p) (hg : g ≤ 60) (hb : (j : Int) + 1 - la.getD p.toNat 0 ≤ g) : (∃ i < j, p ∈ rows.getD i [] ∧ j ≤ i + g) ∨ p ∈ cur := by
  obtain ⟨h0, h1⟩ := hp
  have e : ((p.toNat : Nat) : Int) = p := by omega
  rcases h.hi p.toNat (by omega) with z | ⟨i, hi, hm, z⟩ | ⟨hm, z⟩
  · omega
  · rw [e] at hm; exact .inl ⟨i, hi, hm, by omega⟩
  · rw [e] at hm; exact .inr hm
theorem la_ok {cs : List Int} {rows : Rows} {j g : Nat} {cur la : List Int} {p : Int} (h : laG cs rows j cur la) (hp : inR cs.length p) (hb : ¬ (j : Int) + 1 - la.getD p.toNat 0 ≤ g) : p ∉ cur ∧ ∀ i < j, p ∈ rows.getD i [] → i + g < j := by
  obtain ⟨h0, h1⟩ := hp
  have e : ((p.toNat : Nat) : Int) = p := by omega
  refine ⟨fun hm => ?_, fun i hi hm => ?_⟩
  · rw [← e] at hm; have := h.cu _ (by omega) hm; omega
  · rw [← e] at hm; have := h.lo _ (by omega) i hi hm; omega
/-- the entries of a row, looked at so far -/
structure rowP (rows : Rows) (cs : List Int) (g j : Nat) (cur : List Int) : Prop where
  nd : cur.Nodup
  pe : ∀ p ∈ cur, inR cs.length p ∧ cs.getD p.toNat 0 ≤ (j : Int) + 1 ∧ ∀ i < j, p ∈ rows.getD i [] → i + g < j
theorem rowP_put {rows : Rows} {cs : List Int} {g j : Nat} {cur : List Int} {p : Int} (h : rowP rows cs g j cur) (h1 : inR cs.length p) (h2 : cs.getD p.toNat 0 ≤ (j : Int) + 1) (h3 : p ∉ cur ∧ ∀ i < j, p ∈ rows.getD i [] → i + g < j) : rowP rows cs g j (cur ++ [p]) := by
  refine ⟨List.nodup_append.mpr ⟨h.nd, by simp, fun a ha b hb => by rw [List.mem_singleton.mp hb]; rintro rfl; exact h3.1 ha⟩, fun q hq => ?_⟩
  rcases List.mem_append.mp hq with z | z
  · exact h.pe q z
  · rw [List.mem_singleton.mp z]; exact ⟨h1, h2, h3.2⟩
theorem nd_take {r : List Int} {i : Nat} (h : r.Nodup) (hi : i < r.length) : r.getD i 0 ∉ r.take i := fun hm => by
  have : (r.take (i + 1)).Nodup := h.sublist (List.take_sublist _ _)
  rw [← take_snoc hi] at this
  exact (List.nodup_append.mp this).2.2 _ hm _ (List.mem_singleton.mpr rfl) rfl
/-! ### the law's own order -/
/-- on night j + 1 the entries so far whose growth has it -/
def lrow (ns cs : List Int) (r : Nat) (ps : List Int) (i j : Nat) : List Int := ((List.range i).filter fun t => decide ((j : Int) + 1 ∈ gro ns cs (ps.take t) r (ps.getD t 0))).map fun t => ps.getD t 0
theorem lrow_succ {ns cs ps : List Int} {r i j : Nat} : lrow ns cs r ps (i + 1) j = lrow ns cs r ps i j ++ if (j : Int) + 1 ∈ gro ns cs (ps.take i) r (ps.getD i 0) then [ps.getD i 0] else [] := by
  unfold lrow
  rw [List.range_succ, List.filter_append, List.map_append]
  congr 1
  by_cases h : (j : Int) + 1 ∈ gro ns cs (ps.take i) r (ps.getD i 0)
  · rw [if_pos h, List.filter_cons, if_pos (decide_eq_true h)]; rfl
  · rw [if_neg h, List.filter_cons, if_neg fun z => h (of_decide_eq_true z)]; rfl
theorem lrow_len {ns cs ps : List Int} {r i j : Nat} : (lrow ns cs r ps i j).length ≤ i := by
  unfold lrow
  rw [List.length_map]
  exact Nat.le_trans (List.length_filter_le _ _) (by simp)
theorem lrow_mem {ns cs ps : List Int} {r j q : Nat} (h : isOrd cs.length ps) (hq : q < cs.length) : ((q : Nat) : Int) ∈ lrow ns cs r ps ps.length j ↔ (j : Int) + 1 ∈ nioQ ns cs r ps q := by
  unfold lrow nioQ
  rw [List.mem_map]
  constructor
  · rintro ⟨t, ht, e⟩
    rw [List.mem_filter, List.mem_range] at ht
    have := of_decide_eq_true ht.2
    rw [← e, idx_at h.nd ht.1]
    exact this
  · intro hm
    have hi := h.mem hq
    have hx := List.idxOf_lt_length_iff.mpr hi
    have e : ps.getD (ps.idxOf (q : Int)) 0 = q := by
      rw [List.getD_eq_getElem?_getD, List.getElem?_eq_getElem hx]
      exact List.getElem_idxOf hx
    exact ⟨_, List.mem_filter.mpr ⟨List.mem_range.mpr hx, by rw [e]; exact decide_eq_true hm⟩, e⟩
theorem fc_take {ns cs ps : List Int} {r i : Nat} (hi : i < ps.length) : fc ns cs (ps.take (i + 1)) r = addL (fc ns cs (ps.take i) r) (gro ns cs (ps.take i) r (ps.getD i 0)) := by
  rw [← take_snoc hi]
  exact fc_grow List.perm_append_comm
theorem fc_grows {ns cs ps : List Int} {r i j : Nat} (hi : i < ps.length) (hj : j < ns.length) : (fc ns cs (ps.take i) r).getD j 0 < (fc ns cs (ps.take (i + 1)) r).getD j 0 ↔ (j : Int) + 1 ∈ gro ns cs (ps.take i) r (ps.getD i 0) := by
  rw [fc_take hi, addL_at (by rw [fc_len]; exact hj)]
  split <;> simp_all <;> omega
theorem fc_nil {ns cs : List Int} {r : Nat} (h : ∀ n ∈ ns, 0 ≤ n) : fc ns cs [] r = List.replicate ns.length 0 := by
  unfold fc
  have key : ∀ i, i ≤ ns.length → gr ns (csP cs []) r i = List.replicate i 0 := by
    intro i
    induction i with
    | zero => intro _; rfl
    | succ i ih =>
      intro hi
      rw [gr_snoc, ih (by omega), List.replicate_succ']
      congr 2
      have : win (List.replicate i (0 : Int)) (i - r) i = 0 := by
        unfold win
        have : ∀ x ∈ ((List.replicate i (0 : Int)).drop (i - r)).take (i - (i - r)), x = 0 := fun x hx => (List.mem_replicate.mp (List.mem_of_mem_drop (List.mem_of_mem_take hx))).2
        have := List.eq_replicate_of_mem this
        rw [this]; simp
      rw [this]
      have := h _ (li_mem (show i < ns.length by omega))
      have h0 : hereN (csP cs []) ((i : Nat) + 1) = 0 := rfl
      rw [h0]
      omega
  exact key _ (Nat.le_refl _)
theorem fc_cnt {ns cs ps : List Int} {r j : Nat} (h : ∀ n ∈ ns, 0 ≤ n) (hj : j < ns.length) : ∀ i, i ≤ ps.length → (fc ns cs (ps.take i) r).getD j 0 = (lrow ns cs r ps i j).length
  | 0, _ => by rw [List.take_zero, fc_nil h]; simp [hj, lrow]
  | i + 1, hi => by
    rw [fc_take (by omega), addL_at (by rw [fc_len]; exact hj), fc_cnt h hj i (by omega), lrow_succ, List.length_append]
    split <;> simp
theorem fc_le {ns cs ps : List Int} {r j : Nat} (hj : j < ns.length) : (fc ns cs ps r).getD j 0 ≤ ns.getD j 0 := gr_le _ _ _ _ (Nat.le_refl _) j hj
theorem orow_mem {ns cs ps : List Int} {r k j : Nat} {p : Int} : p ∈ orow ns cs r ps k j ↔ inR k p ∧ (j : Int) + 1 ∈ nioQ ns cs r ps p.toNat := by
  unfold orow
  rw [pick_mem, decide_eq_true_eq]
theorem pick_asc {q : Nat → Bool} : ∀ m, (pick q m).Pairwise (· < ·)
  | 0 => by unfold pick; exact .nil
  | m + 1 => by
    rw [pick_succ]
    split
    · exact asc_snoc (pick_asc m) fun p hp => (pick_mem.mp hp).1.2
    · rw [List.append_nil]; exact pick_asc m
theorem orow_len {ns cs ps : List Int} {r j : Nat} (h : isOrd cs.length ps) (hn : ∀ n ∈ ns, 0 ≤ n) (hj : j < ns.length) : ((orow ns cs r ps cs.length j).length : Int) = (fc ns cs ps r).getD j 0 := by
  have e := fc_cnt (cs := cs) (r := r) hn hj ps.length (Nat.le_refl _)
  rw [List.take_length] at e
  rw [e]
  have hp : (orow ns cs r ps cs.length j).Perm (lrow ns cs r ps ps.length j) := by
    refine (List.perm_ext_iff_of_nodup (asc_nodup (pick_asc _)) ?_).mpr fun p => ?_
    · unfold lrow
      refine List.Pairwise.map _ (R := fun a b => a < b ∧ a < ps.length ∧ b < ps.length) (fun a b hab e => ?_) ?_
      · have h1 := idx_at h.nd hab.2.1
        have h2 := idx_at h.nd hab.2.2
        rw [e] at h1
        omega
      · refine List.Pairwise.filter _ ?_
        refine List.pairwise_lt_range.imp_of_mem fun {a b} ha hb hab => ⟨hab, List.mem_range.mp ha, List.mem_range.mp hb⟩
    · constructor
      · intro hm
        obtain ⟨⟨h0, h1⟩, h2⟩ := orow_mem.mp hm
        have := (lrow_mem (ns := ns) (r := r) (j := j) h (show p.toNat < cs.length by omega)).mpr h2
        rwa [Int.toNat_of_nonneg h0] at this
      · intro hm
        have hin : inR cs.length p := by
          unfold lrow at hm
          obtain ⟨t, ht, rfl⟩ := List.mem_map.mp hm
          exact h.inn _ (li_mem (List.mem_range.mp (List.mem_filter.mp ht).1))
        refine orow_mem.mpr ⟨hin, ?_⟩
        refine (lrow_mem h (show p.toNat < cs.length by have := hin.1; have := hin.2; omega)).mp ?_
        rwa [Int.toNat_of_nonneg hin.1]
  rw [hp.length_eq]
/-- the plan of an order fits short -/
theorem oRows_fit {ns cs ps : List Int} {r : Nat} (h : isOrd cs.length ps) (hn : ∀ n ∈ ns, 0 ≤ n) : fitsP (oRows ns cs r ps cs.length) ns cs r true := by
  have ol : (oRows ns cs r ps cs.length).length = ns.length := by simp [oRows]
  refine ⟨ol, fun j hj => ?_⟩
  have hj : j < ns.length := by omega
  have at_ : ∀ i < ns.length, (oRows ns cs r ps cs.length).getD i [] = orow ns cs r ps cs.length i := fun i hi => getD_rng hi
  unfold rowOk
  rw [at_ j hj]
  refine ⟨by rw [orow_len h hn hj]; exact fc_le hj, (fun z => by cases z), asc_nodup (pick_asc _), fun p hp => ?_⟩
  obtain ⟨hin, hm⟩ := orow_mem.mp hp
  refine ⟨hin, (nioQ_in hm).2.2, fun i hi hpi => ?_⟩
  rw [at_ i (by omega)] at hpi
  have := gst_apart _ (orow_mem.mp hpi).2 _ hm (by omega)
  omega
theorem ocnt_cnt {ns cs ps : List Int} {r q : Nat} (hq : q < cs.length) : cnt (oRows ns cs r ps cs.length) (q : Nat) = (nioQ ns cs r ps q).length := by
  unfold cnt oRows
  rw [List.countP_map]
  have e : ∀ j, ((fun row => decide (((q : Nat) : Int) ∈ row)) ∘ fun j => orow ns cs r ps cs.length j) j = decide ((j : Int) + 1 ∈ nioQ ns cs r ps q) := fun j => by
    simp only [Function.comp]
    refine decide_eq_decide.mpr ?_
    rw [orow_mem, Int.toNat_natCast]
    exact ⟨fun z => z.2, fun z => ⟨⟨by omega, by omega⟩, z⟩⟩
  rw [show ((fun row => decide (((q : Nat) : Int) ∈ row)) ∘ fun j => orow ns cs r ps cs.length j) = fun j => decide (((j : Nat) : Int) + 1 ∈ nioQ ns cs r ps q) from funext e, List.countP_eq_length_filter]
  have hp : (((List.range ns.length).filter fun j => decide (((j : Nat) : Int) + 1 ∈ nioQ ns cs r ps q)).map fun j => ((j : Nat) : Int) + 1).Perm (nioQ ns cs r ps q) := by
    refine (List.perm_ext_iff_of_nodup ?_ (asc_nodup nioQ_asc)).mpr fun e => ?_
    · refine List.Pairwise.map _ (R := fun a b : Nat => a < b) (fun a b hab e => by omega) ?_
      exact List.pairwise_lt_range.filter _
    · rw [List.mem_map]
      constructor
      · rintro ⟨j, hj, rfl⟩
        exact of_decide_eq_true (List.mem_filter.mp hj).2
      · intro he
        obtain ⟨h1, h2, _⟩ := nioQ_in he
        exact ⟨(e - 1).toNat, List.mem_filter.mpr ⟨List.mem_range.mpr (by omega), decide_eq_true (by rwa [show (((e - 1).toNat : Nat) : Int) + 1 = e by omega])⟩, by omega⟩
  rw [← hp.length_eq, List.length_map]
theorem ocnt_eq {ns cs ps : List Int} {r : Nat} : cntL (oRows ns cs r ps cs.length) cs.length = ocnt ns cs r ps := by
  unfold cntL ocnt
  refine List.map_congr_left fun q hq => ?_
  rw [ocnt_cnt (List.mem_range.mp hq)]
/-! ### what the law's defs promise -/
def dsLargeL (most gap people : Nat) : DSm := fun es ds Q _ => ds = [] ∧ PO es ∧ ∀ p ns cs g, PO p → hok ns cs g → ns.length ≤ most → cs.length = people → Q (.own (partD ns cs g)) p
def dsDueL2 : DSp := fun ds Q _ => ∃ ns cs r ps rest, ds = [.lst (partD ns cs r ++ rest), .lst (li ps)] ∧ hok ns cs r ∧ isOrd cs.length ps ∧ Q (.own (lts (oRows ns cs r ps cs.length)))
def dsMadeL (A : Ad) : DSp := fun ds Q _ => ∃ ns cs r ps rest, ds = [hD A ns cs r, .lst (partD ns cs r ++ rest), .lst (li ps)] ∧ hok ns cs r ∧ isOrd cs.length ps ∧ Q (.val (.bl true))
def dsSpoilO : DSm := fun es ds Q _ => ∃ ps, ∃ m : Nat, ds = [.lst (li ps), .int m] ∧ PO es ∧ isOrd m ps ∧ m ≤ 30 ∧ ∀ p gs r, PO p → gs.length ≤ m + 1 → ¬ isOrd m gs → (r = .val (.lst (li gs)) ∨ r = .own (li gs)) → Q r p
def ofD (m : Nat) (ps : List Int) : D := match flt m [] ps with
  | none => if ps.length = m then .tup [.str "made"] else .tup [.str "WrongLength", .int ps.length, .int m, .bl true, .bl false]
  | some (false, x) => .tup [.str "NoPerson", .int x, .bl true, .bl false]
  | some (true, x) => .tup [.str "NamedTwice", .int x, .bl true, .bl false]
def dsOFault : DSp := fun ds Q _ => ∃ ps, ∃ m : Nat, ds = [.lst (li ps), .int m] ∧ ps.length ≤ 1000 ∧ Q (.val (ofD m ps))
def dsTryO (A : Ad) : DSp := fun ds Q _ => ∃ ns cs r ps, ds = [hD A ns cs r, .lst (li ps)] ∧ hok ns cs r ∧ ps.length ≤ 1000 ∧ Q (.val (ofD cs.length ps))
def dsBaseO (A : Ad) : DSp := fun ds Q _ => ∃ ns cs r ps, ds = [hD A ns cs r, .lst (li ps)] ∧ hok ns cs r ∧ ps.length ≤ 1000 ∧ ¬ isOrd cs.length ps ∧ Q (.val (.bl true))
end Nk
namespace Nk
open PySem L2 DL Hse
theorem li_repl {n : Nat} {x : Int} : List.replicate n (D.int x) = li (List.replicate n x) := by unfold li; rw [List.map_replicate]
end Nk
namespace Nk
open PySem L2 DL Hse
theorem at4 {a b c d z : Int} (h0 : 0 ≤ z) (h1 : z < 4) : ∃ e, atI [D.int a, D.int b, D.int c, D.int d] z = some (D.int e) := by
  have : z = 0 ∨ z = 1 ∨ z = 2 ∨ z = 3 := by omega
  rcases this with rfl | rfl | rfl | rfl
  · exact ⟨a, rfl⟩
  · exact ⟨b, rfl⟩
  · exact ⟨c, rfl⟩
  · exact ⟨d, rfl⟩
theorem li_ins {ps : List Int} {u : Nat} {x : Int} : (li ps).take u ++ [.int x] ++ (li ps).drop u = li (ps.take u ++ [x] ++ ps.drop u) := by
  unfold li; simp
theorem ins_len {ps : List Int} {u : Nat} {x : Int} : (ps.take u ++ [x] ++ ps.drop u).length = ps.length + 1 := by
  simp [List.length_take, List.length_drop]; omega
theorem atI_neg {ns : List Int} {z : Int} (h0 : z < 0) (h1 : -(ns.length : Int) ≤ z) : atI (li ns) z = some (.int (ns.getD (z + ns.length).toNat 0)) := by
  unfold atI ixN li
  rw [List.length_map, if_neg (by omega), if_pos h1]
  have hi : (z + ns.length).toNat < ns.length := by omega
  simp [hi]
theorem at_prev {ps : List Int} {y : Nat} (hy : y < ps.length) (h : 1 < ps.length) : ∃ j, j < ps.length ∧ j ≠ y ∧ atI (li ps) ((y : Int) - 1) = some (.int (ps.getD j 0)) := by
  by_cases c : y = 0
  · subst c
    exact ⟨_, by omega, by omega, atI_neg (by omega) (by omega)⟩
  · exact ⟨_, by omega, by omega, atI_li (by omega) (by omega)⟩
theorem set_dup {ps : List Int} {i j : Nat} (hi : i < ps.length) (hj : j < ps.length) (hne : j ≠ i) : ¬ (ps.set i (ps.getD j 0)).Nodup := fun h => by
  have h1 := idx_at (i := i) h (by simpa using hi)
  have h2 := idx_at (i := j) h (by simpa using hj)
  rw [getD_set hi, if_pos rfl] at h1
  rw [getD_set hi, if_neg hne] at h2
  omega
/-- rows of the law's own order -/
def lRows (ns cs : List Int) (r : Nat) (ps : List Int) (i : Nat) : Rows := (List.range ns.length).map fun j => lrow ns cs r ps i j
def lRowsT (ns cs : List Int) (r : Nat) (ps : List Int) (i t : Nat) : Rows := (List.range ns.length).map fun j => lrow ns cs r ps i j ++ if j < t ∧ (j : Int) + 1 ∈ gro ns cs (ps.take i) r (ps.getD i 0) then [ps.getD i 0] else []
theorem lRows_len {ns cs ps : List Int} {r i : Nat} : (lRows ns cs r ps i).length = ns.length := by simp [lRows]
theorem lRowsT_len {ns cs ps : List Int} {r i t : Nat} : (lRowsT ns cs r ps i t).length = ns.length := by simp [lRowsT]
theorem lRows_at {ns cs ps : List Int} {r i j : Nat} (hj : j < ns.length) : (lRows ns cs r ps i).getD j [] = lrow ns cs r ps i j := getD_rng hj
theorem lRowsT_zero {ns cs ps : List Int} {r i : Nat} : lRowsT ns cs r ps i 0 = lRows ns cs r ps i := by
  unfold lRowsT lRows
  refine List.map_congr_left fun j _ => ?_
  rw [if_neg (fun z => absurd z.1 (Nat.not_lt_zero _)), List.append_nil]
theorem lRowsT_end {ns cs ps : List Int} {r i : Nat} : lRowsT ns cs r ps i ns.length = lRows ns cs r ps (i + 1) := by
  unfold lRowsT lRows
  refine List.map_congr_left fun j hj => ?_
  rw [lrow_succ]
  congr 1
  simp only [List.mem_range.mp hj, true_and]
theorem lRowsT_skip {ns cs ps : List Int} {r i t : Nat} (ht : t < ns.length) (h : ¬ (t : Int) + 1 ∈ gro ns cs (ps.take i) r (ps.getD i 0)) : lRowsT ns cs r ps i t = lRowsT ns cs r ps i (t + 1) := by
  unfold lRowsT
  refine List.map_congr_left fun j hj => ?_
  congr 1
  by_cases c : j = t
  · subst c; rw [if_neg (fun z => h z.2), if_neg (fun z => h z.2)]
  · have : (j < t) ↔ (j < t + 1) := by omega
    simp only [this]
theorem lRowsT_put {ns cs ps : List Int} {r i t : Nat} (ht : t < ns.length) (h : (t : Int) + 1 ∈ gro ns cs (ps.take i) r (ps.getD i 0)) : (lRowsT ns cs r ps i t).set t ((lRowsT ns cs r ps i t).getD t [] ++ [ps.getD i 0]) = lRowsT ns cs r ps i (t + 1) := by
  refine getD_ext (d := []) (by simp [lRowsT]) fun j hj => ?_
  have hj : j < ns.length := by simpa [lRowsT] using hj
  rw [getD_set (by rw [lRowsT_len]; exact ht)]
  unfold lRowsT
  rw [getD_rng hj, getD_rng hj, getD_rng ht]
  by_cases c : j = t
  · subst c
    rw [if_pos rfl, if_neg (fun z => absurd z.1 (Nat.lt_irrefl _)), List.append_nil, if_pos ⟨by omega, h⟩]
  · rw [if_neg c]
    have : (j < t) ↔ (j < t + 1) := by omega
    simp only [this]
theorem lRowsT_short {ns cs ps : List Int} {r i t : Nat} (ht : t < ns.length) : ((lRowsT ns cs r ps i t).getD t []).length ≤ i + 1 := by
  unfold lRowsT
  rw [getD_rng ht, List.length_append]
  have := lrow_len (ns := ns) (cs := cs) (ps := ps) (r := r) (i := i) (j := t)
  split
  · simp; omega
  · simp; omega
theorem pss_ts {n : Nat} {rows : Rows} (h : ∀ j < rows.length, (rows.getD j []).length ≤ 1000) : pss (n + 1) (lts rows) := pss_all.mpr fun x hx => by
  obtain ⟨r, hr, rfl⟩ := List.mem_map.mp hx
  obtain ⟨j, hj, rfl⟩ := mem_getD [] hr
  have := h j hj
  exact ⟨by rw [li_len]; omega, pss_li _⟩
theorem pss_ls {n : Nat} {rows : Rows} (h : ∀ j < rows.length, (rows.getD j []).length ≤ 1000) : pss (n + 1) (lls rows) := pss_all.mpr fun x hx => by
  obtain ⟨r, hr, rfl⟩ := List.mem_map.mp hx
  obtain ⟨j, hj, rfl⟩ := mem_getD [] hr
  have := h j hj
  exact ⟨by rw [li_len]; omega, pss_li _⟩
theorem ps_tt {n : Nat} {rows : Rows} (hl : rows.length ≤ 1000) (h : ∀ j < rows.length, (rows.getD j []).length ≤ 1000) : ps (n + 2) (.tup (lts rows)) := ⟨by rw [lts_len]; omega, pss_ts h⟩
theorem ps_ll {n : Nat} {rows : Rows} (hl : rows.length ≤ 1000) (h : ∀ j < rows.length, (rows.getD j []).length ≤ 1000) : ps (n + 2) (.lst (lls rows)) := ⟨by rw [lls_len]; omega, pss_ls h⟩
theorem ps_lt {n : Nat} {rows : Rows} (hl : rows.length ≤ 1000) (h : ∀ j < rows.length, (rows.getD j []).length ≤ 1000) : ps (n + 2) (.lst (lts rows)) := ⟨by rw [lts_len]; omega, pss_ts h⟩
end Nk
namespace Nk
open PySem L2 DL Hse
theorem at0 {a : D} {xs : List D} : atI (a :: xs) 0 = some a := by
  unfold atI ixN; rw [if_pos (by decide), if_pos (by simp only [List.length_cons]; omega)]; rfl
theorem at1 {a b : D} {xs : List D} : atI (a :: b :: xs) 1 = some b := by
  unfold atI ixN; rw [if_pos (by decide), if_pos (by simp only [List.length_cons]; omega)]; rfl
theorem at2 {a b c : D} {xs : List D} : atI (a :: b :: c :: xs) 2 = some c := by
  unfold atI ixN; rw [if_pos (by decide), if_pos (by simp only [List.length_cons]; omega)]; rfl
end Nk
namespace Nk
open PySem L2 DL Hse
theorem ps_of {n m : Nat} {gs : List Int} : ps (n + 1) (ofD m gs) := by
  unfold ofD
  cases flt m [] gs with
  | none =>
    show ps (n + 1) (if gs.length = m then _ else _)
    split
    · cases n <;> exact ⟨by simp, trivial, trivial⟩
    · cases n <;> exact ⟨by simp, trivial, trivial, trivial, trivial, trivial, trivial⟩
  | some z =>
    rcases z with ⟨b, x⟩
    cases b <;> cases n <;> exact ⟨by simp, trivial, trivial, trivial, trivial, trivial⟩
end Nk
/-! First choice is the most that a group can keep. -/
namespace Nk
open PySem L2 DL Hse
/-- sums of first items -/
def pre (f : Nat → Int) : Nat → Int
  | 0 => 0
  | k + 1 => pre f k + f k
/-- y takes what it can, night by night: no x takes more -/
theorem greedy {n g : Nat} {x y w h : Nat → Int} (h0 : ∀ k, k < n → x k ≤ w k) (h1 : ∀ k, k < n → pre x (k + 1) - pre x (k - g) ≤ h k) (h2 : ∀ k, k < n → y k = min (w k) (h k - (pre y k - pre y (k - g)))) :
    ∀ k, k ≤ n → pre x k ≤ pre y k := by
  intro k
  induction k using Nat.strongRecOn with
  | _ k ih =>
    intro hk
    cases k with
    | zero => exact Int.le_refl _
    | succ k =>
      have i1 := ih k (by omega) (by omega)
      have i2 := ih (k - g) (by omega) (by omega)
      have a := h0 k (by omega)
      have b := h1 k (by omega)
      have c := h2 k (by omega)
      show pre x k + x k ≤ pre y k + y k
      have b : pre x k + x k - pre x (k - g) ≤ h k := b
      omega
theorem pre_win {l : List Int} : ∀ {a i : Nat}, a ≤ i → i ≤ l.length → win l a i = pre (fun j => l.getD j 0) i - pre (fun j => l.getD j 0) a := by
  intro a i ha
  induction i with
  | zero => intro _; have : a = 0 := by omega
            subst this; rw [win_self]; omega
  | succ i ih =>
    intro hi
    by_cases e : a = i + 1
    · subst e; rw [win_self]; omega
    · rw [win_succ (by omega) (by omega), ih (by omega) (by omega)]
      show _ = pre _ i + l.getD i 0 - _
      omega
theorem pre_congr {f f' : Nat → Int} : ∀ {k : Nat}, (∀ j < k, f j = f' j) → pre f k = pre f' k
  | 0, _ => rfl
  | k + 1, h => by
    show pre f k + f k = pre f' k + f' k
    rw [pre_congr (fun j hj => h j (by omega)), h k (by omega)]
theorem pre_sum {l : List Int} : pre (fun j => l.getD j 0) l.length = l.sum := by
  have := pre_win (l := l) (Nat.zero_le l.length) (Nat.le_refl _)
  unfold win at this
  rw [List.drop_zero, Nat.sub_zero, List.take_length] at this
  rw [this]; simp [pre]
theorem fc_rule {ns cs ps : List Int} {r k : Nat} (hk : k < ns.length) : (fc ns cs ps r).getD k 0 = min (ns.getD k 0) (hereN (csP cs ps) ((k : Nat) + 1) - (pre (fun j => (fc ns cs ps r).getD j 0) k - pre (fun j => (fc ns cs ps r).getD j 0) (k - r))) := by
  have e : ∀ j, j < ns.length → (fc ns cs ps r).getD j 0 = (gr ns (csP cs ps) r (j + 1)).getD j 0 := fun j hj => gr_pre hj
  have e2 : ∀ j, j < k → (gr ns (csP cs ps) r k).getD j 0 = (fc ns cs ps r).getD j 0 := fun j hj => by rw [e j (by omega), gr_pre hj]
  rw [e k hk, gr_snoc, getD_eq (by rw [gr_len]), pre_win (by omega) (by rw [gr_len]; exact Nat.le_refl _), pre_congr e2, pre_congr fun j hj => e2 j (by omega)]
/-- how many of the group ps stand in the row -/
def inRow (ps row : List Int) : Nat := row.countP fun p => decide (p ∈ ps)
theorem cnt_cons {row : List Int} {rows : Rows} {q : Int} : cnt (row :: rows) q = cnt rows q + if q ∈ row then 1 else 0 := by
  unfold cnt; rw [List.countP_cons]; simp
theorem inRow_sum {row : List Int} (hr : row.Nodup) : ∀ {ps : List Int}, ps.Nodup → (inRow ps row : Nat) = (ps.map fun p => if p ∈ row then 1 else 0).sum
  | [], _ => by simp [inRow]
  | p :: ps, h => by
    rw [List.nodup_cons] at h
    rw [List.map_cons, List.sum_cons, ← inRow_sum hr h.2]
    unfold inRow
    have e : ∀ xs : List Int, xs.Nodup → (xs.countP fun q => decide (q ∈ p :: ps)) = (if p ∈ xs then 1 else 0) + xs.countP fun q => decide (q ∈ ps) := by
      intro xs
      induction xs with
      | nil => intro _; simp
      | cons x xs ih =>
        intro hx
        rw [List.nodup_cons] at hx
        rw [List.countP_cons, List.countP_cons, ih hx.2]
        simp only [decide_eq_true_eq]
        by_cases c : p = x
        · subst c
          rw [if_neg hx.1, if_pos List.mem_cons_self, if_pos List.mem_cons_self, if_neg h.1]
          omega
        · have e1 : (x ∈ p :: ps) ↔ x ∈ ps := by
            rw [List.mem_cons]
            exact ⟨fun z => z.resolve_left fun w => c w.symm, .inr⟩
          have e2 : (p ∈ x :: xs) ↔ p ∈ xs := by
            rw [List.mem_cons]
            exact ⟨fun z => z.resolve_left c, .inr⟩
          simp only [e1, e2]
          omega
    exact e row hr
/-- the group's watches, by rows and by people -/
theorem cnt_rows {rows : Rows} (hr : ∀ j < rows.length, (rows.getD j []).Nodup) {ps : List Int} (h : ps.Nodup) : (ps.map fun p => (cnt rows p : Nat)).sum = (rows.map fun row => inRow ps row).sum := by
  induction rows with
  | nil =>
    clear hr h
    show (ps.map fun _ => 0).sum = 0
    induction ps with
    | nil => rfl
    | cons p ps ih => rw [List.map_cons, List.sum_cons, ih]; rfl
  | cons row rows ih =>
    rw [List.map_cons, List.sum_cons, ← ih fun j hj => hr (j + 1) (by simpa using hj), inRow_sum (row := row) (by simpa using hr 0 (by simp)) h]
    clear ih hr h
    induction ps with
    | nil => rfl
    | cons p ps ih =>
      simp only [List.map_cons, List.sum_cons, cnt_cons] at ih ⊢
      rw [ih]
      omega
theorem nat_sum (l : List Nat) : ((l.sum : Nat) : Int) = (l.map fun n : Nat => (n : Int)).sum := by
  induction l with
  | nil => rfl
  | cons a l ih => simp [ih]
/-- a set of few: at most as long -/
theorem len_le {xs ys : List Int} (h : xs.Nodup) (hs : ∀ x ∈ xs, x ∈ ys) : xs.length ≤ ys.length := by
  obtain ⟨qs, hq⟩ := sub_perm h hs
  have := hq.length_eq
  simp at this
  omega
/-- those of the group in the rows a .. b - 1 -/
def seenR (ps : List Int) (rows : Rows) (a b : Nat) : List Int := ((List.range' a (b - a)).flatMap fun j => (rows.getD j []).filter fun p => decide (p ∈ ps))
theorem seen_len {ps : List Int} {rows : Rows} : ∀ {a b : Nat}, a ≤ b → b ≤ rows.length → ((seenR ps rows a b).length : Int) = pre (fun j => ((inRow ps (rows.getD j []) : Nat) : Int)) b - pre (fun j => ((inRow ps (rows.getD j []) : Nat) : Int)) a := by
  intro a b hab
  induction b with
  | zero => intro _; have : a = 0 := by omega
            subst this; simp [seenR, pre]
  | succ b ih =>
    intro hb
    by_cases e : a = b + 1
    · subst e; simp [seenR]
    · have h := ih (by omega) (by omega)
      unfold seenR at h ⊢
      rw [show b + 1 - a = (b - a) + 1 by omega, List.range'_concat, List.flatMap_append, List.length_append]
      have e1 : a + 1 * (b - a) = b := by omega
      rw [e1, Int.natCast_add, h]
      have hs : pre (fun j => ((inRow ps (rows.getD j []) : Nat) : Int)) (b + 1) = pre (fun j => ((inRow ps (rows.getD j []) : Nat) : Int)) b + ((inRow ps (rows.getD b []) : Nat) : Int) := rfl
      rw [hs]
      have : (List.flatMap (fun j => (rows.getD j []).filter fun p => decide (p ∈ ps)) [b]).length = inRow ps (rows.getD b []) := by
        simp only [List.flatMap_cons, List.flatMap_nil, List.append_nil]
        unfold inRow
        rw [List.countP_eq_length_filter]
      rw [this]
      omega
theorem seen_mem {ps : List Int} {rows : Rows} {a b : Nat} {p : Int} : p ∈ seenR ps rows a b ↔ ∃ j, a ≤ j ∧ j < b ∧ p ∈ rows.getD j [] ∧ p ∈ ps := by
  unfold seenR
  rw [List.mem_flatMap]
  constructor
  · rintro ⟨j, hj, hp⟩
    have hj := List.mem_range'_1.mp hj
    have hp := List.mem_filter.mp hp
    exact ⟨j, hj.1, by omega, hp.1, of_decide_eq_true hp.2⟩
  · rintro ⟨j, h1, h2, h3, h4⟩
    exact ⟨j, List.mem_range'_1.mpr ⟨h1, by omega⟩, List.mem_filter.mpr ⟨h3, decide_eq_true h4⟩⟩
theorem seen_nodup {ns cs ps : List Int} {g : Nat} {rows : Rows} (hf : fitsP rows ns cs g true) : ∀ {a b : Nat}, a ≤ b → b ≤ rows.length → b ≤ a + g + 1 → (seenR ps rows a b).Nodup := by
  intro a b hab
  induction b with
  | zero => intro _ _; have : a = 0 := by omega
            subst this; simp [seenR]
  | succ b ih =>
    intro hb hg
    by_cases e : a = b + 1
    · subst e; simp [seenR]
    · have h := ih (by omega) (by omega) (by omega)
      have hm := fun p => seen_mem (ps := ps) (rows := rows) (a := a) (b := b) (p := p)
      unfold seenR at h hm ⊢
      rw [show b + 1 - a = (b - a) + 1 by omega, List.range'_concat, List.flatMap_append, show a + 1 * (b - a) = b by omega]
      simp only [List.flatMap_cons, List.flatMap_nil, List.append_nil]
      have ro := hf.2 b (by omega)
      refine List.nodup_append.mpr ⟨h, ro.2.2.1.sublist List.filter_sublist, fun x hx y hy exy => ?_⟩
      subst exy
      obtain ⟨j, h1, h2, h3, _⟩ := (hm x).mp hx
      have := (ro.2.2.2 x (List.mem_filter.mp hy).1).2.2 j h2 h3
      omega
/-- a plan that fits short: no group has more watches than its first choice -/
theorem most_fc {ns cs ps : List Int} {g : Nat} {rows : Rows} (hf : fitsP rows ns cs g true) (hp : ps.Nodup) (hin : ∀ p ∈ ps, inR cs.length p) : (ps.map fun p => (cnt rows p : Int)).sum ≤ (fc ns cs ps g).sum := by
  have hl : rows.length = ns.length := hf.1
  have key := greedy (n := ns.length) (g := g) (x := fun j => ((inRow ps (rows.getD j []) : Nat) : Int)) (y := fun j => (fc ns cs ps g).getD j 0) (w := fun j => ns.getD j 0) (h := fun k => hereN (csP cs ps) ((k : Nat) + 1))
    (fun k hk => by
      have := (hf.2 k (by omega)).1
      have h2 : inRow ps (rows.getD k []) ≤ (rows.getD k []).length := List.countP_le_length
      omega)
    (fun k hk => by
      have e := seen_len (ps := ps) (rows := rows) (a := k - g) (b := k + 1) (by omega) (by omega)
      have nd := seen_nodup (ps := ps) hf (a := k - g) (b := k + 1) (by omega) (by omega) (by omega)
      rw [← e]
      have : (seenR ps rows (k - g) (k + 1)).length ≤ (ps.filter fun p => decide (cs.getD p.toNat 0 ≤ (k : Int) + 1)).length := by
        refine len_le nd fun p hp => ?_
        obtain ⟨j, h1, h2, h3, h4⟩ := seen_mem.mp hp
        refine List.mem_filter.mpr ⟨h4, decide_eq_true ?_⟩
        have := ((hf.2 j (by omega)).2.2.2 p h3).2.1
        omega
      have e3 : (ps.filter fun p => decide (cs.getD p.toNat 0 ≤ (k : Int) + 1)).length = hereN (csP cs ps) ((k : Nat) + 1) := by
        unfold hereN csP
        rw [List.countP_map, List.countP_eq_length_filter]
        rfl
      omega)
    (fun k hk => fc_rule hk) ns.length (Nat.le_refl _)
  have s1 : (ps.map fun p => (cnt rows p : Int)).sum = pre (fun j => ((inRow ps (rows.getD j []) : Nat) : Int)) ns.length := by
    have h := cnt_rows (rows := rows) (fun j hj => (hf.2 j hj).2.2.1) hp
    have h2 : ((ps.map fun p => cnt rows p).sum : Int) = ((rows.map fun row => inRow ps row).sum : Nat) := by rw [← h]
    rw [nat_sum, nat_sum, List.map_map, List.map_map] at h2
    have h3 : (ps.map fun p => (cnt rows p : Int)) = List.map ((fun n : Nat => (n : Int)) ∘ fun p => cnt rows p) ps := rfl
    rw [h3, h2]
    have := pre_sum (l := rows.map fun row => ((inRow ps row : Nat) : Int))
    rw [List.length_map] at this
    rw [show List.map ((fun n : Nat => (n : Int)) ∘ fun row => inRow ps row) rows = rows.map fun row => ((inRow ps row : Nat) : Int) from rfl, ← this, hl]
    refine pre_congr fun j hj => ?_
    rw [getD_map [] (by omega)]
  have s2 := pre_sum (l := fc ns cs ps g)
  rw [fc_len] at s2
  rw [s1, ← s2]
  exact key
end Nk
namespace Nk
open PySem L2 DL Hse
def dsMost (A : Ad) : DSp := fun ds Q X => ∃ ns cs r ps, ds = [hD A ns cs r, .lst (li ps)] ∧ hok ns cs r ∧ ps.length ≤ 1000 ∧ fltK (flt cs.length [] ps) (Q (.val (.int (fc ns cs ps r).sum))) (noP A X) (twP A X)
def cutR (rows : Rows) (ns : List Int) : Rows := (List.range ns.length).map fun i => (rows.getD i []).take (ns.getD i 0).toNat
theorem fitG_fits {ns cs : List Int} {g : Nat} {rows : Rows} (h : fitG cs g rows) (hl : rows.length = ns.length) (hs : ∀ j < ns.length, ((rows.getD j []).length : Int) ≤ ns.getD j 0) : fitsP rows ns cs g true :=
  ⟨hl, fun j hj => ⟨hs j (by omega), (fun z => by cases z), asc_nodup (h.asc j hj), fun p hp => ⟨h.inn j hj p hp, h.come j hj p hp, fun i hi hpi => h.apart i j hi hj p hpi hp⟩⟩⟩
theorem cutR_fit {ns cs : List Int} {g : Nat} {rows : Rows} (h : fitG cs g rows) (hl : rows.length = ns.length) (hg : gW ns) : fitG cs g (cutR rows ns) ∧ (cutR rows ns).length = ns.length ∧ ∀ j < ns.length, (((cutR rows ns).getD j []).length : Int) ≤ ns.getD j 0 := by
  refine ⟨fitG_sub h (by simp [cutR]; omega) fun j hj => ?_, by simp [cutR], fun j hj => ?_⟩
  · unfold cutR; rw [getD_rng (by omega)]; exact List.take_sublist _ _
  · unfold cutR; rw [getD_rng hj, List.length_take]
    have := hg.2 _ (li_mem hj)
    omega
def dsCutL : DSp := fun ds Q _ => ∃ rows ns, ds = [.lst (lls rows), .lst (li ns)] ∧ ns.length ≤ rows.length ∧ ns.length ≤ 1000 ∧ (∀ n ∈ ns, 0 ≤ n) ∧ Q (.own (lls (cutR rows ns)))
def dsThinL : DSm := fun es ds Q _ => ∃ rows, ds = [.lst (lls rows)] ∧ PO es ∧ rows.length ≤ 1000 ∧ (∀ j < rows.length, (rows.getD j []).length ≤ 1000) ∧ ∀ p rs, PO p → rs.length = rows.length → (∀ j < rows.length, (rs.getD j []).Sublist (rows.getD j [])) → Q (.own (lls rs)) p
def dsMixN : DSm := fun es ds Q _ => ∃ m : Nat, ds = [.int m] ∧ PO es ∧ m ≤ 1000 ∧ ∀ p ms, PO p → isOrd m ms → Q (.own (li ms)) p
def dsLarge15 : DSm := fun es ds Q _ => ds = [] ∧ PO es ∧ ∀ p ns cs g rows, PO p → hok ns cs g → fitG cs g rows → rows.length = ns.length → (∀ j < ns.length, ((rows.getD j []).length : Int) ≤ ns.getD j 0) → Q (.own (houseD ns cs g rows)) p
def dsSteepL (A : Ad) : DSp := fun ds Q _ => ∃ ns cs r ps rest pls, ds = [hD A ns cs r, .lst (partD ns cs r ++ rest), .lst (li ps), .lst (lls pls)] ∧ hok ns cs r ∧ isOrd cs.length ps ∧ pls.length ≤ 10 ∧ (∀ j < pls.length, ∃ rows, fitsP rows ns cs r true ∧ pls.getD j [] = cntL rows cs.length) ∧ Q (.val (.bl true))
end Nk
namespace Nk
open PySem L2 DL Hse
theorem take_li {f : Int → Int} {qs : List Int} : (List.range qs.length).map (fun t => D.int (f (qs.getD t 0))) = li (qs.map f) := by
  unfold li
  apply List.ext_getElem
  · simp
  · intro i h1 h2
    have : i < qs.length := by simpa using h1
    simp [this]
theorem addL_sum {l g : List Int} (hg : g.Nodup) (hi : ∀ e ∈ g, 1 ≤ e ∧ e ≤ l.length) : (addL l g).sum = l.sum + g.length := by
  have h : (addL l g) = (List.range l.length).map fun j => l.getD j 0 + if ((j : Nat) : Int) + 1 ∈ g then 1 else 0 := rfl
  rw [h, sum_add (fun j => l.getD j 0) (fun j => ((j : Nat) : Int) + 1 ∈ g)]
  have e1 : ((List.range l.length).map fun j => l.getD j 0) = l := by
    apply List.ext_getElem
    · simp
    · intro i h1 h2; simp [h2]
  rw [e1]
  congr 1
  have hp : (((List.range l.length).filter fun j => decide (((j : Nat) : Int) + 1 ∈ g)).map fun j => ((j : Nat) : Int) + 1).Perm g := by
    refine (List.perm_ext_iff_of_nodup ?_ hg).mpr fun e => ?_
    · refine List.Pairwise.map _ (R := fun a b : Nat => a < b) (fun a b hab e => by omega) ?_
      exact List.pairwise_lt_range.filter _
    · rw [List.mem_map]
      constructor
      · rintro ⟨j, hj, rfl⟩
        exact of_decide_eq_true (List.mem_filter.mp hj).2
      · intro he
        obtain ⟨h1, h2⟩ := hi e he
        exact ⟨(e - 1).toNat, List.mem_filter.mpr ⟨List.mem_range.mpr (by omega), decide_eq_true (by rwa [show (((e - 1).toNat : Nat) : Int) + 1 = e by omega])⟩, by omega⟩
  rw [List.countP_eq_length_filter, ← hp.length_eq, List.length_map]
theorem group_sum {ns cs ps : List Int} {r : Nat} (ho : isOrd cs.length ps) (hn : ∀ n ∈ ns, 0 ≤ n) : ∀ {i : Nat}, i ≤ ps.length → ((ps.take i).map fun p => (ocnt ns cs r ps).getD p.toNat 0).sum = (fc ns cs (ps.take i) r).sum
  | 0, _ => by
    rw [List.take_zero, fc_nil hn]
    have : ∀ n : Nat, (List.replicate n (0 : Int)).sum = 0 := fun n => by induction n with
      | zero => rfl
      | succ n ih => rw [List.replicate_succ, List.sum_cons, ih]; rfl
    rw [this]; rfl
  | i + 1, hi => by
    have hi' : i < ps.length := by omega
    rw [← take_snoc hi', List.map_append, List.sum_append, group_sum ho hn (Nat.le_of_lt hi'), take_snoc hi', fc_take hi']
    obtain ⟨h0, h1⟩ := ho.inn _ (li_mem hi')
    have e : (ocnt ns cs r ps).getD (ps.getD i 0).toNat 0 = ((nioQ ns cs r ps (ps.getD i 0).toNat).length : Int) := getD_rng (by omega)
    have e2 : nioQ ns cs r ps (ps.getD i 0).toNat = gro ns cs (ps.take i) r (ps.getD i 0) := by
      unfold nioQ
      rw [Int.toNat_of_nonneg h0, idx_at ho.nd hi']
    have key := addL_sum (l := fc ns cs (ps.take i) r) (g := gro ns cs (ps.take i) r (ps.getD i 0)) (asc_nodup (gst_asc _)) fun e he => by
      have := gst_in e he
      rw [fc_len]; omega
    rw [key, List.map_singleton, List.sum_singleton, e, e2]
end Nk
namespace Nk
open PySem L2 DL Hse
theorem cnt_take {qs : List Int} {rows : Rows} {m : Nat} (h : ∀ p ∈ qs, inR m p) : (qs.map fun p => (cntL rows m).getD p.toNat 0) = qs.map fun p => (cnt rows p : Int) := by
  refine List.map_congr_left fun p hp => ?_
  obtain ⟨h0, h1⟩ := h p hp
  unfold cntL
  rw [getD_rng (by omega), Int.toNat_of_nonneg h0]
end Nk
namespace Nk
open PySem L2 DL
def topS (i : Nat) : Stmt := PySem.Challenge.pw_nightsoff_k15_orders_whole_steepest.main.body.getD i (.Pass ⟨0, 0, 0, 0⟩)
structure Tx (K : PySem.W.Frag) (mg : Str → Option Value) (A : Ad) : Prop where
  x_NoPerson : ErrC K mg "NoPerson" A.c_NoPerson A.i_NoPerson (["person"] : List Str)
  x_NamedTwice : ErrC K mg "NamedTwice" A.c_NamedTwice A.i_NamedTwice (["person"] : List Str)
  x_WrongLength : ErrC K mg "WrongLength" A.c_WrongLength A.i_WrongLength (["found", "wanted"] : List Str)
  x_NightsError : ExcB K mg "NightsError" A.c_NightsError
  x_House : GNm mg "House" A.c_House
  cl_House : Cls K A.c_House
  n_House_wants : NoAttr K A.c_House "wants"
  n_House_comings : NoAttr K A.c_House "comings"
  n_House_rest : NoAttr K A.c_House "rest"
  x_Wants : GNm mg "Wants" A.c_Wants
  cl_Wants : Cls K A.c_Wants
  n_Wants_numbers : NoAttr K A.c_Wants "numbers"
  cv_Wants_MOST1 : ClX.CRead K A.c_Wants (.type "type")
  cv_Wants_MOST2 : ClX.CVal K A.c_Wants (.type "type") "MOST" (.int 60) (.int 60 A.kc_Wants_MOST)
  cv_Wants_GREATEST1 : ClX.CRead K A.c_Wants (.type "type")
  cv_Wants_GREATEST2 : ClX.CVal K A.c_Wants (.type "type") "GREATEST" (.int 30) (.int 30 A.kc_Wants_GREATEST)
  g_MOST_PEOPLE : mg "MOST_PEOPLE" = some (.int 30 A.k_MOST_PEOPLE)
  g_MOST_REST : mg "MOST_REST" = some (.int 60 A.k_MOST_REST)
end Nk
namespace Nk
open PySem L2 DL Hse
local macro_rules | `(tactic| walk_at "s") => `(tactic| try simp (decide := true) only [L2.cxK, L2.s_seq, L2.s_next, L2.s_brk, L2.s_cont, L2.s_drop, L2.s_ret, L2.s_retN, L2.s_ifS, L2.s_br1, L2.s_br0, L2.s_asg, L2.s_asI, L2.s_asB, L2.s_asN, L2.s_asS, L2.s_asR, L2.s_gName, L2.s_gSub, L2.s_var, L2.s_C, L2.s_op, L2.s_un, L2.s_chain, L2.s_test, L2.s_B, L2.s_and, L2.s_aB1, L2.s_aB0, L2.s_or, L2.s_oB1, L2.s_oB0, L2.s_not, L2.s_andV, L2.s_aE1, L2.s_aE0, L2.s_orV, L2.s_oE1, L2.s_oE0, L2.s_notV, L2.s_nE, L2.s_if, L2.s_iE1, L2.s_iE0, L2.s_tr, L2.s_trB, L2.s_trI, L2.s_trN, L2.s_nil, L2.s_cons, L2.s_CB, L2.s_call, L2.s_callS, L2.s_sl, L2.s_part, L2.s_noPart, L2.s_lst, L2.s_mk, L2.s_xf, L2.s_for, L2.s_lc, L2.s_rng1, L2.s_rng2, L2.s_rng3, L2.s_enum, L2.s_zip, L2.s_zip3, L2.s_yes, L2.s_lstRg, L2.s_lcC1, L2.s_lcC0, L2.s_mkK, L2.s_meth, L2.s_prop, L2.s_fld, L2.s_stF, L2.s_cv, L2.s_enumA, L2.s_enumO, L2.s_own, L2.s_aug, L2.v_aug, L2.s_augS, L2.s_seqI, L2.s_tup, L2.s_BM, L2.s_BM0, L2.v_addI, L2.v_subI, L2.v_mulI, L2.v_divI, L2.v_modI, L2.v_powI, L2.v_negI, L2.v_cmp, L2.v_eqI, L2.v_eqS, L2.v_neS, L2.v_neI, L2.v_isN, L2.v_isB, L2.v_isnotN, L2.v_isnotB, L2.v_int, L2.v_abs, L2.v_max2, L2.v_min2, L2.le_line, List.set_cons_succ, List.set_cons_zero, List.getElem?_cons_succ, List.getElem?_cons_zero, Option.some.injEq, exists_eq_left', V.bl.injEq, V.int.injEq, true_and, and_true, Bool.not_true, Bool.not_false, if_true, if_false, Bool.false_eq_true, List.append_nil, reduceCtorEq, decide_true, decide_false, ne_eq, not_false_eq_true, Int.reduceToNat, Int.reducePow, Int.reduceMul, Int.reduceAdd, Int.reduceSub, Int.reduceNeg, Nat.reduceAdd, List.length_cons, List.length_nil, List.nil_append, List.cons_append])
local macro_rules | `(tactic| walk_at "d") => `(tactic| try simp (decide := true) (implicitDefEqProofs := false) only [DL.q_0, DL.q_1, DL.q_2, DL.q_3, DL.q_4, DL.q_5, DL.q_6, DL.q_7, DL.q_8, DL.q_9, DL.q_10, DL.q_11, DL.q_12, DL.q_13, DL.q_14, DL.q_15, DL.q_16, DL.q_17, DL.q_18, DL.q_19, DL.q_20, DL.q_21, DL.q_22, DL.q_23, DL.q_24, DL.q_25, DL.q_26, DL.q_27, DL.q_28, DL.q_29, DL.q_30, DL.q_31, DL.q_32, DL.q_33, DL.q_34, DL.o_0, DL.o_1, DL.o_2, DL.o_3, DL.o_4, DL.o_5, DL.o_6, DL.o_7, DL.o_8, DL.o_9, DL.o_10, DL.o_11, DL.o_19, DL.o_12, DL.o_13, DL.o_14, DL.o_15, DL.o_16, DL.o_17, DL.o_18, DL.clo_li, DL.noLs_li, List.map_cons, List.map_nil, DL.dCallT, DL.dCallT0, DL.dTupO, DL.dMv, DL.o_20, DL.o_21, DL.o_22, DL.noL, DL.noLs, DL.noLf, DL.noX, DL.x_0, DL.x_1, DL.x_2, DL.x_3, DL.x_4, DL.x_5, DL.x_6, DL.iZpO, DL.zpOK, DL.y_0, DL.y_1, DL.y_2, DL.y_3, DL.y_4, DL.y_5, DL.y_6, DL.y_7, DL.y_8, DL.y_9, DL.y_10, DL.y_11, DL.y_12, DL.y_13, DL.y_14, DL.y_15, DL.dOp, DL.dUn, DL.dVar, DL.dC, DL.dRaw, DL.dTest, DL.dTr, DL.dAnd, DL.dOr, DL.dNot, DL.dYes, DL.dAndV, DL.dOrV, DL.dNotV, DL.dIf, DL.dChain, DL.dNil, DL.dCons, DL.dLst, DL.dTup, DL.dCB, DL.dSl, DL.dPart, DL.dNoPart, DL.dLr, DL.dApp, DL.dExt, DL.iSeqD, DL.iRg1, DL.iRg2, DL.iRg3, DL.iEnD, DL.iZpD, DL.iOwnD, DL.iEnO, DL.dLc, DL.dFld, DL.dCall, DL.dCall0, DL.dCallM, DL.dCallM0, DL.dMkK, DL.dMkK0, DL.dProp, DL.dMeth, DL.dMeth0, DL.dLenO, DL.e_br1, DL.e_br0, DL.e_aK1, DL.e_aK0, DL.e_oK1, DL.e_oK0, DL.e_aV1, DL.e_aV0, DL.e_oV1, DL.e_oV0, DL.e_if1, DL.e_if0, DL.e_ch1, DL.e_ch0, DL.e_lc1, DL.e_lc0, DL.intsOf_li, DL.li_len, DL.z_0, DL.z_1, DL.z_2, DL.z_3, DL.z_4, DL.z_5, DL.z_6, DL.z_7, DL.z_8, DL.z_9, DL.z_10, DL.z_11, DL.z_12, DL.z_13, DL.z_14, DL.z_15, DL.z_16, DL.z_17, DL.z_18, DL.z_19, DL.z_20, DL.z_21, DL.z_22, DL.z_23, DL.z_24, DL.z_25, DL.z_26, DL.z_27, DL.z_28, DL.z_29, DL.z_30, DL.z_31, DL.z_32, DL.z_33, DL.z_34, DL.z_35, DL.z_36, DL.z_37, DL.z_38, DL.z_39, DL.z_40, DL.z_41, DL.z_42, DL.z_43, DL.z_44, DL.z_45, DL.z_46, DL.z_47, DL.z_48, DL.z_49, DL.z_50, DL.z_51, DL.z_52, DL.z_53, DL.z_54, DL.z_55, DL.z_56, DL.z_57, DL.z_58, DL.z_59, DL.z_60, DL.z_61, DL.z_62, DL.z_63, DL.z_64, DL.z_65, DL.z_66, DL.z_67, DL.z_68, DL.z_69, DL.z_70, DL.z_71, DL.z_72, DL.z_73, DL.z_74, DL.z_75, DL.z_76, DL.z_77, DL.z_78, DL.z_79, DL.z_80, DL.z_81, DL.z_82, DL.z_83, DL.z_84, DL.z_85, DL.z_86, DL.z_87, DL.z_88, DL.z_89, DL.z_90, DL.z_91, DL.z_92, DL.z_93, DL.z_94, DL.z_95, DL.z_96, DL.z_97, DL.z_98, DL.z_99, DL.z_100, DL.z_101, DL.z_102, DL.z_103, DL.z_104, DL.z_105, DL.z_106, DL.z_107, DL.z_108, DL.z_109, DL.z_110, DL.z_111, DL.z_112, DL.z_113, DL.z_114, DL.z_115, DL.z_116, DL.z_117, DL.z_118, DL.z_119, DL.z_120, DL.z_121, DL.z_122, DL.z_123, DL.z_124, DL.z_125, DL.z_126, DL.z_127, DL.z_128, DL.z_129, DL.z_130, DL.z_131, DL.z_132, DL.z_133, DL.z_134, DL.z_135, DL.z_136, DL.z_137, DL.z_138, DL.z_139, DL.z_140, DL.z_141, DL.z_142, DL.z_143, DL.z_144, DL.z_145, DL.z_146, DL.z_147, DL.z_148, DL.z_149, DL.z_150, DL.z_151, DL.z_152, DL.z_153, DL.z_154, DL.z_155, DL.z_156, DL.z_157, DL.z_158, DL.z_159, DL.z_160, DL.z_161, DL.z_162, DL.z_163, DL.z_164, DL.z_165, DL.z_166, DL.z_167, DL.z_168, DL.z_169, DL.z_170, DL.z_171, DL.z_172, DL.z_173, DL.z_174, DL.z_175, List.set_cons_zero, List.set_cons_succ, List.getElem?_cons_zero, List.getElem?_cons_succ, List.length_cons, List.length_nil, List.length_set, Option.bind_some, Option.bind_none, List.map_cons, List.map_nil, List.nil_append, List.cons_append, List.append_nil, List.getD_cons_zero, List.getD_cons_succ, DL.lk_hit, DL.lk_miss, DL.lk_nil, DL.z_176, DL.bq_t, DL.bq_f, decide_true, decide_false, true_and, and_true, Bool.not_true, Bool.not_false, if_true, ite_true, ite_false, Nat.zero_add, Nat.add_zero, Nat.reduceAdd, Nat.reduceLT, Int.reduceLT, Int.reduceLE, Int.reduceNeg, Int.reduceEq, Int.reduceToNat, reduceIte, List.reduceReplicate, List.isEmpty_cons, List.isEmpty_nil, Int.reduceAdd, Int.reduceSub, Int.reduceMul, Int.reducePow, Bool.false_eq_true, String.reduceEq, String.reduceBEq, Bool.or_false, Bool.or_true, Bool.false_or, Bool.true_or, or_true, true_or, or_false, false_or])
section
variable {P : Program} {w : World} {K : PySem.W.Frag} {mg : Str → Option Value} {base : Heap} {A : Ad}
abbrev s__law_rows : Stmt := topS 36
theorem sc__law_rows : FnScope (["pool", "nights", "comings", "gap", "keen", "rows", "again", "night", "row", "person"] : List Str) (["pool", "nights", "comings", "gap", "keen"] : List Str) (defScope s__law_rows) := ⟨rfl, rfl, rfl, by decide +kernel, rfl, by decide +kernel, by decide +kernel⟩
theorem ok__law_rows {f : Addr} {fd : FuncData} (F : Fun K "_law_rows" "_law_rows" s__law_rows f fd) (B : Blt mg) (C__law_draw : FnAt P w K mg base 1 "_law_draw" (["pool", "many"] : List Str) (spM K (dsDraw))) : FnOk P w K mg base (L2.CX P w) 2 f fd (["pool", "nights", "comings", "gap", "keen"] : List Str) (spM K (dsRowsL)) := by
  refine F.okX sc__law_rows (fun vs H Q E h => ?_) (fun cdv W outer s H vs Q E hr h => ?_)
  · refine spM_len (fun es ds Q X h => ?_) h
    obtain ⟨n, cs, g, kn, rfl, _⟩ := h; rfl
  · have nd := sc__law_rows.nd
    have hu := hr.units
    refine ⟨_, by exact (pss_cons (ps_st 5 nd (pe_lst pa_nil))
        (pss_cons (ps_st 6 nd (pe_callTy ca_list (by rfl) B.list bt_list (pa_cons (pv 2) pa_nil)))
        (pss_cons (ps_for (passes_of rfl) rfl (pi_range2 rfl B.range (pa_cons pe_int (pa_cons (pe_op oa_add (pv 1) pe_int) pa_nil))) (pg_n 7 nd)
        (pss_cons (ps_st 8 nd (pe_lst pa_nil))
        (pss_cons (ps_for (passes_of rfl) rfl (pi_range1 rfl B.range (pa_cons (pe_callB ca_len (by rfl) B.len bt_len (pa_cons (pv 2) pa_nil)) pa_nil)) (pg_n 9 nd)
        (pss_one (ps_if (PW.pt (pw_and (pt_cmpR oa_le (pe_ix oa_ix (pv 6) (pv 9) (fun _ _ => rfl)) (pv 7) (nomark _)) (pw_and1 (pt_cmpR (oa_ne hu) (pe_fn C__law_draw (hr.mono (by first | decide | omega)) passL (pa_cons (pv 0) (pa_cons (pv 4) pa_nil))) pe_int (nomark _)))))
        (pss_cons (ps_expr (pe_bm PySem.F.plainAttrs_list PySem.F.slot_list_append PySem.F.type_list_append mt_append (pv 8) (pa_cons (pv 9) pa_nil)))
        (pss_one (ps_asg (pe_op oa_add (pe_op oa_add (pv 7) (pv 3)) pe_int) (pg_sub (pv 6) (pv 9) set_list))))
        pss_nil)))
        (pss_one (ps_expr (pe_bm PySem.F.plainAttrs_list PySem.F.slot_list_append PySem.F.type_list_append mt_append (pv 5) (pa_cons (pv 8) pa_nil)))))))
        (pss_one (ps_ret (pv 5)))))), ?_⟩
    refine enterM h (fun pa => (DS.seq (DS.asg (DE.lst DA.nil))
        (DS.seq (DS.asg (DE.cb CallO.list (DA.cons (DE.var 2) DA.nil)))
        (DS.seq (DS.for_ (DI.rg2 (DA.cons (DE.c fun _ => .int _) (DA.cons (DE.op Op2.add (DE.var 1) (DE.c fun _ => .int _)) DA.nil))) (DG.name 7)
        (DS.seq (DS.asg (DE.lst DA.nil))
        (DS.seq (DS.for_ (DI.rg1 (DA.cons (DE.cb CallO.len (DA.cons (DE.var 2) DA.nil)) DA.nil)) (DG.name 9)
        (DS.ifs (DT.and (DT.test (DE.op Op2.cmp (DE.op Op2.ix (DE.var 6) (DE.var 9)) (DE.var 7))) (DT.test (DE.op Op2.ne (DE.callM0 (DA.cons (DE.var 0) (DA.cons (DE.var 4) DA.nil))) (DE.c fun _ => .int _))))
        (DS.seq (DS.drop (DE.app (DA.cons (DE.var 9) DA.nil)))
        (DS.setI (DE.op Op2.add (DE.op Op2.add (DE.var 7) (DE.var 3)) (DE.c fun _ => .int _)) (DE.var 9)))
        DS.next))
        (DS.drop (DE.app (DA.cons (DE.var 8) DA.nil))))))
        (DS.ret (DE.var 5)))))) (c := 5) (fun es ds Q X h => ?_)
    obtain ⟨n, cs, g, kn, rfl, hp, hn, hm, hg, hk, hk', k⟩ := h
    refine ⟨rfl, ?_⟩
    walk_at "d"
    refine ⟨by omega, ?_⟩
    refine ⟨fun i δ => ∃ p rs ag v w u, δ = [.par p, .val (.int n), .val (.lst (li cs)), .val (.int g), .val (.int kn), .own (lls rs), .own (li ag), v, w, u] ∧ PO p ∧ rs.length = i ∧ fitG cs g rs ∧ agG cs g rs ag, ⟨es, [], cs, _, _, _, rfl, hp, rfl, fitG_nil, rfl, fun q hq => ⟨Int.le_refl _, fun j hj => absurd hj (Nat.not_lt_zero _)⟩⟩, ?_, ?_⟩
    · rintro i d δ hd ⟨p, rs, ag, v, w, u, rfl, hp, hl, hf, ha⟩
      obtain ⟨hi, rfl⟩ := rng_li hd
      have hi : i < n := by omega
      have al := ha.1
      walk_at "d"
      refine ⟨by omega, ?_⟩
      walk_at "d"
      refine ⟨fun k δ => ∃ p r ag u, δ = [.par p, .val (.int n), .val (.lst (li cs)), .val (.int g), .val (.int kn), .own (lls rs), .own (li ag), .val (.int (1 + (i : Nat))), .own (li r), u] ∧ PO p ∧ rowG cs g rs r ag k, ⟨p, [], ag, _, rfl, hp, rowG_nil ha⟩, ?_, ?_⟩
      · rintro k d δ hd ⟨p, r, ag, u, rfl, hp, hr⟩
        obtain ⟨hk2, rfl⟩ := rng_li hd
        have hk2 : k < cs.length := by simpa using hk2
        rw [Int.zero_add]
        have al := hr.al
        walk_at "d"
        refine ⟨_, atI_li (by omega) (by omega), ?_⟩
        rw [Int.toNat_natCast]
        walk_at "d"
        refine c_aK (fun c1 => ?_) (fun c1 => ?_)
        · walk_at "d"
          refine ⟨_, rfl, hp, by omega, by omega, fun x p x0 x1 hp => ?_⟩
          walk_at "d"
          refine c_brN (fun c2 => ?_) (fun c2 => ?_)
          · walk_at "d"
            have := hr.rl
            refine ⟨by omega, ?_⟩
            walk_at "d"
            refine ⟨k, by unfold ixN; rw [if_pos (by omega), if_pos (by omega), Int.toNat_natCast], ?_⟩
            rw [li_set, li_snoc]
            refine ⟨p, _, _, _, rfl, hp, ?_⟩
            rw [show (1 : Int) + (i : Nat) + g + 1 = (rs.length : Int) + g + 2 by omega]
            exact rowG_put hr hk2 (by omega)
          · walk_at "d"
            exact ⟨p, _, _, _, rfl, hp, rowG_skip hr⟩
        · walk_at "d"
          exact ⟨p, _, _, _, rfl, hp, rowG_skip hr⟩
      · rintro δ ⟨p, r, ag, u, rfl, hp, hr⟩
        rw [rng_len, Int.toNat_natCast] at hr
        walk_at "d"
        have : (lls rs).length = i := by rw [lls_len]; exact hl
        refine ⟨by omega, ?_⟩
        obtain ⟨f2, a2⟩ := rowG_end hf hr
        exact ⟨p, rs ++ [r], ag, _, _, _, by rw [lls_snoc], hp, by simp [hl], f2, a2⟩
    · rintro δ ⟨p, rs, ag, v, w, u, rfl, hp, hl, hf, ha⟩
      rw [rng_len] at hl
      walk_at "d"
      exact k p rs hp (by omega) hf
abbrev s__law_counts : Stmt := topS 37
theorem sc__law_counts : FnScope (["rows", "people", "night", "person"] : List Str) (["rows", "people"] : List Str) (defScope s__law_counts) := ⟨rfl, rfl, rfl, by decide +kernel, rfl, by decide +kernel, by decide +kernel⟩
theorem ok__law_counts {f : Addr} {fd : FuncData} (F : Fun K "_law_counts" "_law_counts" s__law_counts f fd) (B : Blt mg) : FnOk P w K mg base (L2.CX P w) 1 f fd (["rows", "people"] : List Str) (spP K (dsCountsL)) := by
  refine F.okX sc__law_counts (fun vs H Q E h => ?_) (fun cdv W outer s H vs Q E hr h => ?_)
  · refine spP_len (fun ds Q X h => ?_) h
    obtain ⟨s, rows, m, rfl, _⟩ := h; rfl
  · have nd := sc__law_counts.nd
    have hu := hr.units
    refine ⟨_, by exact (pss_one (ps_ret (pe_lc (own := [("person", 3)]) (g := gName 3) (tt := tYes) rfl nd (pi_range1 rfl B.range (pa_cons (pv 1) pa_nil)) (blkOk_by (N := (["rows", "people", "night", "person"] : List Str)) (sc := defScope (topS 37)) (by decide +kernel)) (fun _ _ _ _ _ => (pg_n 3 nd)) (fun _ _ _ _ _ => pts_nil) (fun _ _ _ _ _ => (pe_callB (calK (K := K) (r := aLen) ca_len rfl) (by rfl) B.len bt_len (pa_cons (pe_lc (own := [("night", 2)]) (g := gName 2) (tt := _) rfl nd (pi_range1 rfl B.range (pa_cons (pe_callB (calK (K := K) (r := aLen) ca_len rfl) (by rfl) B.len bt_len (pa_cons (pv 0) pa_nil)) pa_nil)) (blkOk_by (by kernel_rfl)) (fun _ _ _ _ _ => (pg_n 2 nd)) (fun _ _ _ _ _ => pts_one (pt_cmpR (opK (K := K) (r := (fun K => rIn K false)) op_in_seq rfl) (pv 3) (pe_ix (ixK (K := K) (r := aIx) oa_ix rfl) (pv 0) (pv 2) (fun _ _ => rfl)) rfl)) (fun _ _ _ _ _ => (pv 2))) pa_nil)))))), ?_⟩
    refine enterP h (fun pa => (DS.ret (DE.lc (DI.rg1 (DA.cons (DE.var 1) DA.nil)) (DG.name 3) (by decide) DT.yes (DE.cb CallO.len (DA.cons (DE.lc (DI.rg1 (DA.cons (DE.cb CallO.len (DA.cons (DE.var 0) DA.nil)) DA.nil)) (DG.name 2) (by decide) (DT.test (DE.op Op2.inn (DE.var 3) (DE.op Op2.ix (DE.var 0) (DE.var 2)))) (DE.var 2)) DA.nil))))) (c := 2) (fun ds Q X h => ?_)
    obtain ⟨s, rows, m, rfl, ⟨xs, hs, hx⟩, hr, hm, k⟩ := h
    refine ⟨rfl, ?_⟩
    have xl := hx.1
    rcases hs with rfl | rfl
    all_goals
      walk_at "d"
      refine ⟨by omega, ?_⟩
      refine lc_map (fun q => .int (cnt rows (q : Nat))) (by rw [rng_len]; omega) rfl ?_ ?_
      · intro q d N hd hN
        obtain ⟨hq, rfl⟩ := rng_li hd
        rw [Int.zero_add]
        walk_at "d"
        refine ⟨by omega, ?_⟩
        refine lc_filter (fun j => decide (((q : Nat) : Int) ∈ rows.getD j [])) (fun j => .int ((j : Nat) : Int)) (by rw [rng_len]; omega) rfl ?_ ?_
        · intro j d N M hd hN hM
          obtain ⟨hj, rfl⟩ := rng_li hd
          have hj : j < rows.length := by omega
          rw [Int.zero_add]
          walk_at "d"
          refine ⟨_, atI_D (by omega), ?_⟩
          rcases hx.2 j hj with e | e
          all_goals
            rw [e]
            walk_at "d"
            refine ⟨fl_li, ?_⟩
            rw [inP_li]
            refine c_lc (fun c => ?_) (fun c => ?_)
            · walk_at "d"
              exact hN (decide_eq_true c) _ rfl
            · exact hM (decide_eq_false c) _ rfl
        · rw [rng_len, Int.toNat_natCast, xl]
          walk_at "d"
          rw [List.length_map, cnt_filter]
          exact hN _ rfl
      · rw [rng_len, Int.toNat_natCast]
        walk_at "d"
        rw [show (List.range m).map (fun q => D.int (cnt rows (q : Nat))) = li (cntL rows m) by simp [li, cntL, Function.comp_def]]
        exact k
abbrev s__law_world : Stmt := topS 39
theorem sc__law_world : FnScope (["pool", "most_nights", "most_people", "most_gap", "nights", "people", "gap", "starts", "rows", "days", "row"] : List Str) (["pool", "most_nights", "most_people", "most_gap"] : List Str) (defScope s__law_world) := ⟨rfl, rfl, rfl, by decide +kernel, rfl, by decide +kernel, by decide +kernel⟩
theorem ok__law_world {f : Addr} {fd : FuncData} (F : Fun K "_law_world" "_law_world" s__law_world f fd) (B : Blt mg) (C__law_draw : FnAt P w K mg base 1 "_law_draw" (["pool", "many"] : List Str) (spM K (dsDraw))) (C__law_size : FnAt P w K mg base 2 "_law_size" (["pool", "most"] : List Str) (spM K (dsSize))) (C__law_comings : FnAt P w K mg base 2 "_law_comings" (["pool", "people", "nights"] : List Str) (spM K (dsComings))) (C__law_rows : FnAt P w K mg base 2 "_law_rows" (["pool", "nights", "comings", "gap", "keen"] : List Str) (spM K (dsRowsL))) (C__law_counts : FnAt P w K mg base 1 "_law_counts" (["rows", "people"] : List Str) (spP K (dsCountsL))) : FnOk P w K mg base (L2.CX P w) 3 f fd (["pool", "most_nights", "most_people", "most_gap"] : List Str) (spM K (dsWorldL)) := by
  refine F.okX sc__law_world (fun vs H Q E h => ?_) (fun cdv W outer s H vs Q E hr h => ?_)
  · refine spM_len (fun es ds Q X h => ?_) h
    obtain ⟨mn, mp, mg, rfl, _⟩ := h; rfl
  · have nd := sc__law_world.nd
    have hu := hr.units
    refine ⟨_, by exact (pss_cons (ps_st 4 nd (pe_fn C__law_size (hr.mono (by first | decide | omega)) passL (pa_cons (pv 0) (pa_cons (pv 1) pa_nil))))
        (pss_cons (ps_st 5 nd (pe_fn C__law_size (hr.mono (by first | decide | omega)) passL (pa_cons (pv 0) (pa_cons (pv 2) pa_nil))))
        (pss_cons (ps_st 6 nd (pe_fn C__law_draw (hr.mono (by first | decide | omega)) passL (pa_cons (pv 0) (pa_cons (pe_op oa_add (pv 3) pe_int) pa_nil))))
        (pss_cons (ps_st 7 nd (pe_fn C__law_comings (hr.mono (by first | decide | omega)) passL (pa_cons (pv 0) (pa_cons (pv 5) (pa_cons (pv 4) pa_nil)))))
        (pss_cons (ps_st 8 nd (pe_fn C__law_rows (hr.mono (by first | decide | omega)) passL (pa_cons (pv 0) (pa_cons (pv 4) (pa_cons (pv 7) (pa_cons (pv 6) (pa_cons (pe_op oa_add pe_int (pe_fn C__law_draw (hr.mono (by first | decide | omega)) passL (pa_cons (pv 0) (pa_cons pe_int pa_nil)))) pa_nil)))))))
        (pss_cons (ps_setLc (i := 9) (own := [("row", 10)]) (g := gName 10) (tt := tYes) rfl nd rfl rfl (sw_true rfl rfl rfl (by decide +kernel)) (pi_seq (pv 8)) (blkOk_by (N := (["pool", "most_nights", "most_people", "most_gap", "nights", "people", "gap", "starts", "rows", "days", "row"] : List Str)) (sc := defScope (topS 39)) (by decide +kernel)) (fun _ _ _ _ _ => (pg_n 10 nd)) (fun _ _ _ _ _ => pts_nil) (fun _ _ _ _ _ => (pe_callB (calK (K := K) (r := aLen) ca_len rfl) (by rfl) B.len bt_len (pa_cons (pv 10) pa_nil))))
        (pss_one (ps_ret (pe_lst (pa_cons (pv 9) (pa_cons (pv 7) (pa_cons (pv 6) (pa_cons (pe_fn C__law_counts (hr.mono (by first | decide | omega)) passL (pa_cons (pv 8) (pa_cons (pv 5) pa_nil))) (pa_cons (pv 8) pa_nil)))))))))))))), ?_⟩
    refine enterM h (fun pa => (DS.seq (DS.asg (DE.callM0 (DA.cons (DE.var 0) (DA.cons (DE.var 1) DA.nil))))
        (DS.seq (DS.asg (DE.callM0 (DA.cons (DE.var 0) (DA.cons (DE.var 2) DA.nil))))
        (DS.seq (DS.asg (DE.callM0 (DA.cons (DE.var 0) (DA.cons (DE.op Op2.add (DE.var 3) (DE.c fun _ => .int _)) DA.nil))))
        (DS.seq (DS.asg (DE.callM0 (DA.cons (DE.var 0) (DA.cons (DE.var 5) (DA.cons (DE.var 4) DA.nil)))))
        (DS.seq (DS.asg (DE.callM0 (DA.cons (DE.var 0) (DA.cons (DE.var 4) (DA.cons (DE.var 7) (DA.cons (DE.var 6) (DA.cons (DE.op Op2.add (DE.c fun _ => .int _) (DE.callM0 (DA.cons (DE.var 0) (DA.cons (DE.c fun _ => .int _) DA.nil)))) DA.nil)))))))
        (DS.seq (DS.asg (DE.lc (DI.seq (DE.var 8)) (DG.name 10) (by decide) DT.yes (DE.cb CallO.len (DA.cons (DE.var 10) DA.nil))))
        (DS.ret (DE.lst (DA.cons (DE.var 9) (DA.cons (DE.var 7) (DA.cons (DE.var 6) (DA.cons (DE.call0 (DA.cons (DE.var 8) (DA.cons (DE.var 5) DA.nil))) (DA.cons (DE.var 8) DA.nil)))))))))))))) (c := 7) (fun es ds Q X h => ?_)
    obtain ⟨mn, mp, mg, rfl, hp, n0, n1, m0, m1, g1, k⟩ := h
    refine ⟨rfl, ?_⟩
    walk_at "d"
    refine ⟨_, rfl, hp, by omega, by omega, fun p n hp hn => ?_⟩
    walk_at "d"
    refine ⟨_, rfl, hp, by omega, by omega, fun p m hp hm => ?_⟩
    walk_at "d"
    refine ⟨_, rfl, hp, by omega, by omega, fun g p g0 g2 hp => ?_⟩
    obtain ⟨g, rfl⟩ := Int.eq_ofNat_of_zero_le g0
    walk_at "d"
    refine ⟨m, n, rfl, hp, by omega, by omega, by omega, fun p cs hp hl hb => ?_⟩
    refine ⟨trivial, ?_⟩
    walk_at "d"
    refine ⟨3, rfl, hp, by omega, by omega, fun x p x0 x1 hp => ?_⟩
    walk_at "d"
    refine ⟨n, cs, g, _, rfl, hp, by omega, by omega, by omega, by omega, by omega, fun p rows hp hrl hf => ?_⟩
    refine ⟨trivial, ?_⟩
    walk_at "d"
    have ll := lls_len (rows := rows)
    refine lc_map (fun i => .int ((rows.getD i []).length : Nat)) (by omega) rfl ?_ ?_
    · intro i d N hd hN
      obtain ⟨hi, rfl⟩ := lls_get hd
      walk_at "d"
      exact hN _ rfl
    · rw [lls_len, show (List.range rows.length).map (fun i => D.int ((rows.getD i []).length : Nat)) = li (rows.map fun r => (r.length : Int)) from len_li]
      walk_at "d"
      refine ⟨_, rows, m, rfl, sq2_ll rows, by omega, by omega, ?_⟩
      refine ⟨trivial, ?_⟩
      walk_at "d"
      rw [← hl]
      refine k p _ cs g rows hp ⟨⟨by simp; omega, fun z hz => ?_⟩, by omega, fun z hz => ?_, by omega⟩ hf rfl (by simp; omega) (by omega) (by omega)
      · obtain ⟨r, hr, rfl⟩ := List.mem_map.mp hz
        obtain ⟨j, hj, rfl⟩ := mem_getD [] hr
        have := asc_len (hf.asc j hj) (hf.inn j hj)
        omega
      · have := hb z hz; simp; omega
end
end Nk
namespace Nk
open PySem L2 DL Hse
local macro_rules | `(tactic| walk_at "s") => `(tactic| try simp (decide := true) only [L2.cxK, L2.s_seq, L2.s_next, L2.s_brk, L2.s_cont, L2.s_drop, L2.s_ret, L2.s_retN, L2.s_ifS, L2.s_br1, L2.s_br0, L2.s_asg, L2.s_asI, L2.s_asB, L2.s_asN, L2.s_asS, L2.s_asR, L2.s_gName, L2.s_gSub, L2.s_var, L2.s_C, L2.s_op, L2.s_un, L2.s_chain, L2.s_test, L2.s_B, L2.s_and, L2.s_aB1, L2.s_aB0, L2.s_or, L2.s_oB1, L2.s_oB0, L2.s_not, L2.s_andV, L2.s_aE1, L2.s_aE0, L2.s_orV, L2.s_oE1, L2.s_oE0, L2.s_notV, L2.s_nE, L2.s_if, L2.s_iE1, L2.s_iE0, L2.s_tr, L2.s_trB, L2.s_trI, L2.s_trN, L2.s_nil, L2.s_cons, L2.s_CB, L2.s_call, L2.s_callS, L2.s_sl, L2.s_part, L2.s_noPart, L2.s_lst, L2.s_mk, L2.s_xf, L2.s_for, L2.s_lc, L2.s_rng1, L2.s_rng2, L2.s_rng3, L2.s_enum, L2.s_zip, L2.s_zip3, L2.s_yes, L2.s_lstRg, L2.s_lcC1, L2.s_lcC0, L2.s_mkK, L2.s_meth, L2.s_prop, L2.s_fld, L2.s_stF, L2.s_cv, L2.s_enumA, L2.s_enumO, L2.s_own, L2.s_aug, L2.v_aug, L2.s_augS, L2.s_seqI, L2.s_tup, L2.s_BM, L2.s_BM0, L2.v_addI, L2.v_subI, L2.v_mulI, L2.v_divI, L2.v_modI, L2.v_powI, L2.v_negI, L2.v_cmp, L2.v_eqI, L2.v_eqS, L2.v_neS, L2.v_neI, L2.v_isN, L2.v_isB, L2.v_isnotN, L2.v_isnotB, L2.v_int, L2.v_abs, L2.v_max2, L2.v_min2, L2.le_line, List.set_cons_succ, List.set_cons_zero, List.getElem?_cons_succ, List.getElem?_cons_zero, Option.some.injEq, exists_eq_left', V.bl.injEq, V.int.injEq, true_and, and_true, Bool.not_true, Bool.not_false, if_true, if_false, Bool.false_eq_true, List.append_nil, reduceCtorEq, decide_true, decide_false, ne_eq, not_false_eq_true, Int.reduceToNat, Int.reducePow, Int.reduceMul, Int.reduceAdd, Int.reduceSub, Int.reduceNeg, Nat.reduceAdd, List.length_cons, List.length_nil, List.nil_append, List.cons_append])
local macro_rules | `(tactic| walk_at "d") => `(tactic| try simp (decide := true) (implicitDefEqProofs := false) only [DL.q_0, DL.q_1, DL.q_2, DL.q_3, DL.q_4, DL.q_5, DL.q_6, DL.q_7, DL.q_8, DL.q_9, DL.q_10, DL.q_11, DL.q_12, DL.q_13, DL.q_14, DL.q_15, DL.q_16, DL.q_17, DL.q_18, DL.q_19, DL.q_20, DL.q_21, DL.q_22, DL.q_23, DL.q_24, DL.q_25, DL.q_26, DL.q_27, DL.q_28, DL.q_29, DL.q_30, DL.q_31, DL.q_32, DL.q_33, DL.q_34, DL.o_0, DL.o_1, DL.o_2, DL.o_3, DL.o_4, DL.o_5, DL.o_6, DL.o_7, DL.o_8, DL.o_9, DL.o_10, DL.o_11, DL.o_19, DL.o_12, DL.o_13, DL.o_14, DL.o_15, DL.o_16, DL.o_17, DL.o_18, DL.clo_li, DL.noLs_li, List.map_cons, List.map_nil, DL.dCallT, DL.dCallT0, DL.dTupO, DL.dMv, DL.o_20, DL.o_21, DL.o_22, DL.noL, DL.noLs, DL.noLf, DL.noX, DL.x_0, DL.x_1, DL.x_2, DL.x_3, DL.x_4, DL.x_5, DL.x_6, DL.iZpO, DL.zpOK, DL.y_0, DL.y_1, DL.y_2, DL.y_3, DL.y_4, DL.y_5, DL.y_6, DL.y_7, DL.y_8, DL.y_9, DL.y_10, DL.y_11, DL.y_12, DL.y_13, DL.y_14, DL.y_15, DL.dOp, DL.dUn, DL.dVar, DL.dC, DL.dRaw, DL.dTest, DL.dTr, DL.dAnd, DL.dOr, DL.dNot, DL.dYes, DL.dAndV, DL.dOrV, DL.dNotV, DL.dIf, DL.dChain, DL.dNil, DL.dCons, DL.dLst, DL.dTup, DL.dCB, DL.dSl, DL.dPart, DL.dNoPart, DL.dLr, DL.dApp, DL.dExt, DL.iSeqD, DL.iRg1, DL.iRg2, DL.iRg3, DL.iEnD, DL.iZpD, DL.iOwnD, DL.iEnO, DL.dLc, DL.dFld, DL.dCall, DL.dCall0, DL.dCallM, DL.dCallM0, DL.dMkK, DL.dMkK0, DL.dProp, DL.dMeth, DL.dMeth0, DL.dLenO, DL.e_br1, DL.e_br0, DL.e_aK1, DL.e_aK0, DL.e_oK1, DL.e_oK0, DL.e_aV1, DL.e_aV0, DL.e_oV1, DL.e_oV0, DL.e_if1, DL.e_if0, DL.e_ch1, DL.e_ch0, DL.e_lc1, DL.e_lc0, DL.intsOf_li, DL.li_len, DL.z_0, DL.z_1, DL.z_2, DL.z_3, DL.z_4, DL.z_5, DL.z_6, DL.z_7, DL.z_8, DL.z_9, DL.z_10, DL.z_11, DL.z_12, DL.z_13, DL.z_14, DL.z_15, DL.z_16, DL.z_17, DL.z_18, DL.z_19, DL.z_20, DL.z_21, DL.z_22, DL.z_23, DL.z_24, DL.z_25, DL.z_26, DL.z_27, DL.z_28, DL.z_29, DL.z_30, DL.z_31, DL.z_32, DL.z_33, DL.z_34, DL.z_35, DL.z_36, DL.z_37, DL.z_38, DL.z_39, DL.z_40, DL.z_41, DL.z_42, DL.z_43, DL.z_44, DL.z_45, DL.z_46, DL.z_47, DL.z_48, DL.z_49, DL.z_50, DL.z_51, DL.z_52, DL.z_53, DL.z_54, DL.z_55, DL.z_56, DL.z_57, DL.z_58, DL.z_59, DL.z_60, DL.z_61, DL.z_62, DL.z_63, DL.z_64, DL.z_65, DL.z_66, DL.z_67, DL.z_68, DL.z_69, DL.z_70, DL.z_71, DL.z_72, DL.z_73, DL.z_74, DL.z_75, DL.z_76, DL.z_77, DL.z_78, DL.z_79, DL.z_80, DL.z_81, DL.z_82, DL.z_83, DL.z_84, DL.z_85, DL.z_86, DL.z_87, DL.z_88, DL.z_89, DL.z_90, DL.z_91, DL.z_92, DL.z_93, DL.z_94, DL.z_95, DL.z_96, DL.z_97, DL.z_98, DL.z_99, DL.z_100, DL.z_101, DL.z_102, DL.z_103, DL.z_104, DL.z_105, DL.z_106, DL.z_107, DL.z_108, DL.z_109, DL.z_110, DL.z_111, DL.z_112, DL.z_113, DL.z_114, DL.z_115, DL.z_116, DL.z_117, DL.z_118, DL.z_119, DL.z_120, DL.z_121, DL.z_122, DL.z_123, DL.z_124, DL.z_125, DL.z_126, DL.z_127, DL.z_128, DL.z_129, DL.z_130, DL.z_131, DL.z_132, DL.z_133, DL.z_134, DL.z_135, DL.z_136, DL.z_137, DL.z_138, DL.z_139, DL.z_140, DL.z_141, DL.z_142, DL.z_143, DL.z_144, DL.z_145, DL.z_146, DL.z_147, DL.z_148, DL.z_149, DL.z_150, DL.z_151, DL.z_152, DL.z_153, DL.z_154, DL.z_155, DL.z_156, DL.z_157, DL.z_158, DL.z_159, DL.z_160, DL.z_161, DL.z_162, DL.z_163, DL.z_164, DL.z_165, DL.z_166, DL.z_167, DL.z_168, DL.z_169, DL.z_170, DL.z_171, DL.z_172, DL.z_173, DL.z_174, DL.z_175, List.set_cons_zero, List.set_cons_succ, List.getElem?_cons_zero, List.getElem?_cons_succ, List.length_cons, List.length_nil, List.length_set, Option.bind_some, Option.bind_none, List.map_cons, List.map_nil, List.nil_append, List.cons_append, List.append_nil, List.getD_cons_zero, List.getD_cons_succ, DL.lk_hit, DL.lk_miss, DL.lk_nil, DL.z_176, DL.bq_t, DL.bq_f, decide_true, decide_false, true_and, and_true, Bool.not_true, Bool.not_false, if_true, ite_true, ite_false, Nat.zero_add, Nat.add_zero, Nat.reduceAdd, Nat.reduceLT, Int.reduceLT, Int.reduceLE, Int.reduceNeg, Int.reduceEq, Int.reduceToNat, reduceIte, List.reduceReplicate, List.isEmpty_cons, List.isEmpty_nil, Int.reduceAdd, Int.reduceSub, Int.reduceMul, Int.reducePow, Bool.false_eq_true, String.reduceEq, String.reduceBEq, Bool.or_false, Bool.or_true, Bool.false_or, Bool.true_or, or_true, true_or, or_false, false_or])
section
variable {P : Program} {w : World} {K : PySem.W.Frag} {mg : Str → Option Value} {base : Heap} {A : Ad}
abbrev s__law_bend_days : Stmt := topS 40
theorem sc__law_bend_days : FnScope (["pool", "days", "bent", "place"] : List Str) (["pool", "days"] : List Str) (defScope s__law_bend_days) := ⟨rfl, rfl, rfl, by decide +kernel, rfl, by decide +kernel, by decide +kernel⟩
theorem ok__law_bend_days {f : Addr} {fd : FuncData} (F : Fun K "_law_bend_days" "_law_bend_days" s__law_bend_days f fd) (B : Blt mg) (C__law_draw : FnAt P w K mg base 1 "_law_draw" (["pool", "many"] : List Str) (spM K (dsDraw))) : FnOk P w K mg base (L2.CX P w) 2 f fd (["pool", "days"] : List Str) (spM K (dsBendL)) := by
  refine F.okX sc__law_bend_days (fun vs H Q E h => ?_) (fun cdv W outer s H vs Q E hr h => ?_)
  · refine spM_len (fun es ds Q X h => ?_) h
    obtain ⟨ns, rfl, _⟩ := h; rfl
  · have nd := sc__law_bend_days.nd
    have hu := hr.units
    refine ⟨_, by exact (pss_cons (ps_st 2 nd (pe_callTy ca_list (by rfl) B.list bt_list (pa_cons (pv 1) pa_nil)))
        (pss_cons (ps_if (PW.pt (pw_and (pt_cmpR oa_gt (pe_callB ca_len (by rfl) B.len bt_len (pa_cons (pv 2) pa_nil)) pe_int (nomark _)) (pw_and1 (pt_cmpR (oa_eq hu) (pe_fn C__law_draw (hr.mono (by first | decide | omega)) passL (pa_cons (pv 0) (pa_cons pe_int pa_nil))) pe_int (nomark _)))))
        (pss_cons (ps_st 3 nd (pe_fn C__law_draw (hr.mono (by first | decide | omega)) passL (pa_cons (pv 0) (pa_cons (pe_callB ca_len (by rfl) B.len bt_len (pa_cons (pv 2) pa_nil)) pa_nil))))
        (pss_one (ps_asg (pe_callB (ca_min rfl) (by rfl) B.min bt_min (pa_cons pe_int (pa_cons (pe_op oa_add (pe_op oa_add (pe_ix oa_ix (pv 2) (pv 3) (fun _ _ => rfl)) pe_int) (pe_fn C__law_draw (hr.mono (by first | decide | omega)) passL (pa_cons (pv 0) (pa_cons pe_int pa_nil)))) pa_nil))) (pg_sub (pv 2) (pv 3) set_list))))
        pss_nil)
        (pss_one (ps_ret (pv 2))))), ?_⟩
    refine enterM h (fun pa => (DS.seq (DS.asg (DE.cb CallO.list (DA.cons (DE.var 1) DA.nil)))
        (DS.seq (DS.ifs (DT.and (DT.test (DE.op Op2.cmp (DE.cb CallO.len (DA.cons (DE.var 2) DA.nil)) (DE.c fun _ => .int _))) (DT.test (DE.op Op2.eq (DE.callM0 (DA.cons (DE.var 0) (DA.cons (DE.c fun _ => .int _) DA.nil))) (DE.c fun _ => .int _))))
        (DS.seq (DS.asg (DE.callM0 (DA.cons (DE.var 0) (DA.cons (DE.cb CallO.len (DA.cons (DE.var 2) DA.nil)) DA.nil))))
        (DS.setI (DE.cb CallO.min (DA.cons (DE.c fun _ => .int _) (DA.cons (DE.op Op2.add (DE.op Op2.add (DE.op Op2.ix (DE.var 2) (DE.var 3)) (DE.c fun _ => .int _)) (DE.callM0 (DA.cons (DE.var 0) (DA.cons (DE.c fun _ => .int _) DA.nil)))) DA.nil))) (DE.var 3)))
        DS.next)
        (DS.ret (DE.var 2))))) (c := 2) (fun es ds Q X h => ?_)
    obtain ⟨ns, rfl, hp, hg, k⟩ := h
    refine ⟨rfl, ?_⟩
    have hl := hg.1
    walk_at "d"
    refine c_aK (fun c1 => ?_) (fun c1 => ?_)
    · walk_at "d"
      refine ⟨3, rfl, hp, by omega, by omega, fun x p x0 x1 hp => ?_⟩
      walk_at "d"
      refine c_br (fun c2 => ?_) (fun c2 => ?_)
      · walk_at "d"
        refine ⟨_, rfl, hp, by omega, by omega, fun y p y0 y1 hp => ?_⟩
        obtain ⟨y, rfl⟩ := Int.eq_ofNat_of_zero_le y0
        walk_at "d"
        refine ⟨_, atI_li (by omega) (by omega), ?_⟩
        walk_at "d"
        refine ⟨2, rfl, hp, by omega, by omega, fun z p z0 z1 hp => ?_⟩
        walk_at "d"
        refine ⟨y, by unfold ixN; rw [if_pos (by omega), if_pos (by omega), Int.toNat_natCast], ?_⟩
        have hy : y < ns.length := by omega
        have hb := hg.2 _ (li_mem hy)
        rw [li_set, Int.toNat_natCast]
        refine k p _ hp (by simp) ⟨by simpa using hl, fun n hn => ?_⟩ fun j hj => ?_
        · obtain ⟨j, hj, rfl⟩ := mem_getD 0 hn
          rw [getD_set hy]
          split
          · omega
          · exact hg.2 _ (li_mem (by simpa using hj))
        · rw [getD_set hy]
          split
          · rename_i e; subst e; omega
          · exact Int.le_refl _
      · walk_at "d"
        exact k p ns hp rfl hg fun j hj => Int.le_refl _
    · walk_at "d"
      exact k es ns hp rfl hg fun j hj => Int.le_refl _
abbrev s__law_ints : Stmt := topS 42
theorem sc__law_ints : FnScope (["xs", "x"] : List Str) (["xs"] : List Str) (defScope s__law_ints) := ⟨rfl, rfl, rfl, by decide +kernel, rfl, by decide +kernel, by decide +kernel⟩
theorem ok__law_ints {f : Addr} {fd : FuncData} (F : Fun K "_law_ints" "_law_ints" s__law_ints f fd) (B : Blt mg) (C__law_int : FnAt P w K mg base 1 "_law_int" (["x"] : List Str) (spP K (dsInt))) : FnOk P w K mg base (L2.CX P w) 2 f fd (["xs"] : List Str) (spP K (dsIntsL)) := by
  refine F.okX sc__law_ints (fun vs H Q E h => ?_) (fun cdv W outer s H vs Q E hr h => ?_)
  · refine spP_len (fun ds Q X h => ?_) h
    obtain ⟨s, ns, rfl, _⟩ := h; rfl
  · have nd := sc__law_ints.nd
    have hu := hr.units
    refine ⟨_, by exact (pss_cons (ps_for (passes_of rfl) rfl (pi_seq (pv 0)) (pg_n 1 nd)
        (pss_one (ps_if (pt_not (pt_tr (pe_fn C__law_int (hr.mono (by first | decide | omega)) passL (pa_cons (pv 1) pa_nil))))
        (pss_one (ps_ret pe_bl))
        pss_nil)))
        (pss_one (ps_ret pe_bl))), ?_⟩
    refine enterP h (fun pa => (DS.seq (DS.for_ (DI.seq (DE.var 0)) (DG.name 1)
        (DS.ifs (DT.not (DT.tr (DE.call0 (DA.cons (DE.var 1) DA.nil))))
        (DS.ret (DE.c fun _ => .bl _))
        DS.next))
        (DS.ret (DE.c fun _ => .bl _)))) (c := 1) (fun ds Q X h => ?_)
    obtain ⟨s, ns, rfl, hs, k⟩ := h
    refine ⟨rfl, ?_⟩
    rcases hs with rfl | rfl
    all_goals
      walk_at "d"
      refine ⟨fun i δ => ∃ s v, δ = [.val s, v], ⟨_, _, rfl⟩, ?_, ?_⟩
      · rintro i d δ hd ⟨s, v, rfl⟩
        obtain ⟨hi, rfl⟩ := li_at hd
        walk_at "d"
        refine ⟨_, 0, rfl, trivial, ?_⟩
        walk_at "d"
        rw [show isIntD (.int (ns.getD i 0)) = true from rfl]
        walk_at "d"
        exact ⟨_, _, rfl⟩
      · rintro δ ⟨s, v, rfl⟩
        walk_at "d"
        exact k
abbrev s__law_house : Stmt := topS 45
theorem sc__law_house : FnScope (["pool", "most_nights", "most_people", "most_gap", "world", "days", "rows", "place"] : List Str) (["pool", "most_nights", "most_people", "most_gap"] : List Str) (defScope s__law_house) := ⟨rfl, rfl, rfl, by decide +kernel, rfl, by decide +kernel, by decide +kernel⟩
theorem ok__law_house {f : Addr} {fd : FuncData} (F : Fun K "_law_house" "_law_house" s__law_house f fd) (B : Blt mg) (C__law_draw : FnAt P w K mg base 1 "_law_draw" (["pool", "many"] : List Str) (spM K (dsDraw))) (C__law_world : FnAt P w K mg base 3 "_law_world" (["pool", "most_nights", "most_people", "most_gap"] : List Str) (spM K (dsWorldL))) (C__law_bend_days : FnAt P w K mg base 2 "_law_bend_days" (["pool", "days"] : List Str) (spM K (dsBendL))) (C__law_wants : FnAt P w K mg base 2 "_law_wants" (["pool", "nights", "most"] : List Str) (spM K (dsWantsL))) : FnOk P w K mg base (L2.CX P w) 4 f fd (["pool", "most_nights", "most_people", "most_gap"] : List Str) (spM K (dsHouseL2)) := by
  refine F.okX sc__law_house (fun vs H Q E h => ?_) (fun cdv W outer s H vs Q E hr h => ?_)
  · refine spM_len (fun es ds Q X h => ?_) h
    obtain ⟨mn, mp, mg, rfl, _⟩ := h; rfl
  · have nd := sc__law_house.nd
    have hu := hr.units
    refine ⟨_, by exact (pss_cons (ps_if (pt_cmpR (oa_eq hu) (pe_fn C__law_draw (hr.mono (by first | decide | omega)) passL (pa_cons (pv 0) (pa_cons pe_int pa_nil))) pe_int (nomark _))
        (pss_one (ps_st 3 nd pe_int))
        pss_nil)
        (pss_cons (ps_st 4 nd (pe_fn C__law_world (hr.mono (by first | decide | omega)) passL (pa_cons (pv 0) (pa_cons (pv 1) (pa_cons (pv 2) (pa_cons (pv 3) pa_nil))))))
        (pss_cons (ps_st 5 nd (pe_fn C__law_bend_days (hr.mono (by first | decide | omega)) passL (pa_cons (pv 0) (pa_cons (pe_ix oa_ix (pv 4) pe_int (fun _ _ => rfl)) pa_nil))))
        (pss_cons (ps_if (pt_cmpR (oa_eq hu) (pe_fn C__law_draw (hr.mono (by first | decide | omega)) passL (pa_cons (pv 0) (pa_cons pe_int pa_nil))) pe_int (nomark _))
        (pss_one (ps_st 5 nd (pe_fn C__law_wants (hr.mono (by first | decide | omega)) passL (pa_cons (pv 0) (pa_cons (pe_callB ca_len (by rfl) B.len bt_len (pa_cons (pv 5) pa_nil)) (pa_cons (pe_ix oa_ix (pe_lst (pa_cons pe_int (pa_cons pe_int (pa_cons pe_int (pa_cons pe_int pa_nil))))) (pe_fn C__law_draw (hr.mono (by first | decide | omega)) passL (pa_cons (pv 0) (pa_cons pe_int pa_nil))) (fun _ _ => rfl)) pa_nil))))))
        pss_nil)
        (pss_cons (ps_setLc (i := 6) (own := [("place", 7)]) (g := gName 7) (tt := tYes) rfl nd rfl rfl (sw_true rfl rfl rfl (by decide +kernel)) (pi_range1 rfl B.range (pa_cons (pe_callB ca_len (by rfl) B.len bt_len (pa_cons (pv 5) pa_nil)) pa_nil)) (blkOk_by (N := (["pool", "most_nights", "most_people", "most_gap", "world", "days", "rows", "place"] : List Str)) (sc := defScope (topS 45)) (by decide +kernel)) (fun _ _ _ _ _ => (pg_n 7 nd)) (fun _ _ _ _ _ => pts_nil) (fun _ _ _ _ _ => (pe_slice (slK (K := K) (r := aSl) oa_sl rfl) (pe_ix (ixK (K := K) (r := aIx) oa_ix rfl) (pe_ix (ixK (K := K) (r := aIx) oa_ix rfl) (pv 4) pe_int (fun _ _ => rfl)) (pv 7) (fun _ _ => rfl)) po_none (po_some (pe_ix (ixK (K := K) (r := aIx) oa_ix rfl) (pv 5) (pv 7) (fun _ _ => rfl))))))
        (pss_one (ps_ret (pe_lst (pa_cons (pv 5) (pa_cons (pe_ix oa_ix (pv 4) pe_int (fun _ _ => rfl)) (pa_cons (pe_ix oa_ix (pv 4) pe_int (fun _ _ => rfl)) (pa_cons (pv 6) pa_nil)))))))))))), ?_⟩
    refine enterM h (fun pa => (DS.seq (DS.ifs (DT.test (DE.op Op2.eq (DE.callM0 (DA.cons (DE.var 0) (DA.cons (DE.c fun _ => .int _) DA.nil))) (DE.c fun _ => .int _)))
        (DS.asg (DE.c fun _ => .int _))
        DS.next)
        (DS.seq (DS.asg (DE.callM0 (DA.cons (DE.var 0) (DA.cons (DE.var 1) (DA.cons (DE.var 2) (DA.cons (DE.var 3) DA.nil))))))
        (DS.seq (DS.asg (DE.callM0 (DA.cons (DE.var 0) (DA.cons (DE.op Op2.ix (DE.var 4) (DE.c fun _ => .int _)) DA.nil))))
        (DS.seq (DS.ifs (DT.test (DE.op Op2.eq (DE.callM0 (DA.cons (DE.var 0) (DA.cons (DE.c fun _ => .int _) DA.nil))) (DE.c fun _ => .int _)))
        (DS.asg (DE.callM0 (DA.cons (DE.var 0) (DA.cons (DE.cb CallO.len (DA.cons (DE.var 5) DA.nil)) (DA.cons (DE.op Op2.ix (DE.lst (DA.cons (DE.c fun _ => .int _) (DA.cons (DE.c fun _ => .int _) (DA.cons (DE.c fun _ => .int _) (DA.cons (DE.c fun _ => .int _) DA.nil))))) (DE.callM0 (DA.cons (DE.var 0) (DA.cons (DE.c fun _ => .int _) DA.nil)))) DA.nil)))))
        DS.next)
        (DS.seq (DS.asg (DE.lc (DI.rg1 (DA.cons (DE.cb CallO.len (DA.cons (DE.var 5) DA.nil)) DA.nil)) (DG.name 7) (by decide) DT.yes (DE.sl (DE.op Op2.ix (DE.op Op2.ix (DE.var 4) (DE.c fun _ => .int _)) (DE.var 7)) DO.no (DO.part (DE.op Op2.ix (DE.var 5) (DE.var 7))))))
        (DS.ret (DE.lst (DA.cons (DE.var 5) (DA.cons (DE.op Op2.ix (DE.var 4) (DE.c fun _ => .int _)) (DA.cons (DE.op Op2.ix (DE.var 4) (DE.c fun _ => .int _)) (DA.cons (DE.var 6) DA.nil)))))))))))) (c := 4) (fun es ds Q X h => ?_)
    obtain ⟨mn, mp, mg, rfl, hp, n0, n1, m0, m1, g1, k⟩ := h
    refine ⟨rfl, ?_⟩
    walk_at "d"
    refine ⟨8, rfl, hp, by omega, by omega, fun x p x0 x1 hp => ?_⟩
    have fin : ∀ (p : List D) (ns ms cs : List Int) (g : Nat) (rows : Rows), PO p → hok ns cs g → fitG cs g rows → ns = rows.map (fun r => (r.length : Int)) → ns.length ≤ mn → cs.length ≤ mp → gW ms → ms.length = ns.length → Q (.own (houseD ms cs g ((List.range ms.length).map fun i => (rows.getD i []).take (ms.getD i 0).toNat))) p := by
      intro p ns ms cs g rows hp hk hf hr hn hm hw hl
      have rl : rows.length = ms.length := by rw [hl, hr]; simp
      refine k p ms cs g _ hp ⟨hw, hk.p, fun c hc => by rw [hl]; exact hk.c c hc, hk.r⟩ (fitG_sub hf (by simp; omega) fun j hj => ?_) (by simp) (fun j hj => ?_) (by omega) hm
      · rw [getD_rng (by omega)]; exact List.take_sublist _ _
      · rw [getD_rng hj, List.length_take]
        have := hw.2 _ (li_mem hj)
        omega
    walk_at "d"
    refine c_br (fun c0 => ?_) (fun c0 => ?_)
    · walk_at "d"
      refine ⟨mn, mp, 60, rfl, hp, n0, n1, m0, m1, by omega, fun p ns cs g rows hp hk hf hr hn hm _ => ?_⟩
      have rl : ns.length = rows.length := by rw [hr]; simp
      refine ⟨trivial, ?_⟩
      walk_at "d"
      refine ⟨_, rfl, ?_⟩
      walk_at "d"
      refine ⟨ns, rfl, hp, hk.w, fun p ms hp hml hmw _ => ?_⟩
      have ml := hmw.1
      refine ⟨trivial, ?_⟩
      walk_at "d"
      refine ⟨3, rfl, hp, by omega, by omega, fun y p y0 y1 hp => ?_⟩
      walk_at "d"
      have last : ∀ (zs : List Int), gW zs → zs.length = ns.length → ∀ i, i < zs.length → 0 ≤ zs.getD i 0 := fun zs hz _ i hi => (hz.2 _ (li_mem hi)).1
      refine c_br (fun c1 => ?_) (fun c1 => ?_)
      · walk_at "d"
        refine ⟨4, rfl, hp, by omega, by omega, fun z p z0 z1 hp => ?_⟩
        walk_at "d"
        obtain ⟨mx, hat, hmx0, hmx⟩ := at5 z0 z1
        refine ⟨_, hat, ?_⟩
        walk_at "d"
        refine ⟨ms.length, mx, rfl, hp, by omega, by omega, by omega, fun p zs hp hzl hzb => ?_⟩
        have zw : gW zs := ⟨by omega, fun n hn => by have := hzb n hn; omega⟩
        refine ⟨trivial, ?_⟩
        walk_at "d"
        refine ⟨by omega, ?_⟩
        refine lc_map (fun i => .lst (li ((rows.getD i []).take (zs.getD i 0).toNat))) (by rw [rng_len]; omega) rfl ?_ ?_
        · intro i d N hd hN
          obtain ⟨hi, rfl⟩ := rng_li hd
          have hi : i < zs.length := by omega
          rw [Int.zero_add]
          walk_at "d"
          refine ⟨_, rfl, ?_⟩
          walk_at "d"
          refine ⟨_, atI_D (by rw [lls_len]; omega), ?_⟩
          rw [lls_at (by omega)]
          walk_at "d"
          refine ⟨_, atI_li (by omega) (by omega), ?_⟩
          rw [Int.toNat_natCast]
          walk_at "d"
          rw [cut_to (last zs zw (by omega) i hi)]
          exact hN _ rfl
        · rw [rng_len, Int.toNat_natCast]
          walk_at "d"
          refine ⟨_, rfl, ?_⟩
          walk_at "d"
          refine ⟨_, rfl, ?_⟩
          walk_at "d"
          have e : (List.range zs.length).map (fun i => D.lst (li ((rows.getD i []).take (zs.getD i 0).toNat))) = lls ((List.range zs.length).map fun i => (rows.getD i []).take (zs.getD i 0).toNat) := by simp [lls, Function.comp_def]
          rw [e]
          exact fin p ns zs cs g rows hp hk hf hr hn hm zw (by omega)
      · walk_at "d"
        refine ⟨by omega, ?_⟩
        refine lc_map (fun i => .lst (li ((rows.getD i []).take (ms.getD i 0).toNat))) (by rw [rng_len]; omega) rfl ?_ ?_
        · intro i d N hd hN
          obtain ⟨hi, rfl⟩ := rng_li hd
          have hi : i < ms.length := by omega
          rw [Int.zero_add]
          walk_at "d"
          refine ⟨_, rfl, ?_⟩
          walk_at "d"
          refine ⟨_, atI_D (by rw [lls_len]; omega), ?_⟩
          rw [lls_at (by omega)]
          walk_at "d"
          refine ⟨_, atI_li (by omega) (by omega), ?_⟩
          rw [Int.toNat_natCast]
          walk_at "d"
          rw [cut_to (last ms hmw (by omega) i hi)]
          exact hN _ rfl
        · rw [rng_len, Int.toNat_natCast]
          walk_at "d"
          refine ⟨_, rfl, ?_⟩
          walk_at "d"
          refine ⟨_, rfl, ?_⟩
          walk_at "d"
          have e : (List.range ms.length).map (fun i => D.lst (li ((rows.getD i []).take (ms.getD i 0).toNat))) = lls ((List.range ms.length).map fun i => (rows.getD i []).take (ms.getD i 0).toNat) := by simp [lls, Function.comp_def]
          rw [e]
          exact fin p ns ms cs g rows hp hk hf hr hn hm hmw (by omega)
    · walk_at "d"
      refine ⟨mn, mp, mg, rfl, hp, n0, n1, m0, m1, by omega, fun p ns cs g rows hp hk hf hr hn hm _ => ?_⟩
      have rl : ns.length = rows.length := by rw [hr]; simp
      refine ⟨trivial, ?_⟩
      walk_at "d"
      refine ⟨_, rfl, ?_⟩
      walk_at "d"
      refine ⟨ns, rfl, hp, hk.w, fun p ms hp hml hmw _ => ?_⟩
      have ml := hmw.1
      refine ⟨trivial, ?_⟩
      walk_at "d"
      refine ⟨3, rfl, hp, by omega, by omega, fun y p y0 y1 hp => ?_⟩
      walk_at "d"
      have last : ∀ (zs : List Int), gW zs → zs.length = ns.length → ∀ i, i < zs.length → 0 ≤ zs.getD i 0 := fun zs hz _ i hi => (hz.2 _ (li_mem hi)).1
      refine c_br (fun c1 => ?_) (fun c1 => ?_)
      · walk_at "d"
        refine ⟨4, rfl, hp, by omega, by omega, fun z p z0 z1 hp => ?_⟩
        walk_at "d"
        obtain ⟨mx, hat, hmx0, hmx⟩ := at5 z0 z1
        refine ⟨_, hat, ?_⟩
        walk_at "d"
        refine ⟨ms.length, mx, rfl, hp, by omega, by omega, by omega, fun p zs hp hzl hzb => ?_⟩
        have zw : gW zs := ⟨by omega, fun n hn => by have := hzb n hn; omega⟩
        refine ⟨trivial, ?_⟩
        walk_at "d"
        refine ⟨by omega, ?_⟩
        refine lc_map (fun i => .lst (li ((rows.getD i []).take (zs.getD i 0).toNat))) (by rw [rng_len]; omega) rfl ?_ ?_
        · intro i d N hd hN
          obtain ⟨hi, rfl⟩ := rng_li hd
          have hi : i < zs.length := by omega
          rw [Int.zero_add]
          walk_at "d"
          refine ⟨_, rfl, ?_⟩
          walk_at "d"
          refine ⟨_, atI_D (by rw [lls_len]; omega), ?_⟩
          rw [lls_at (by omega)]
          walk_at "d"
          refine ⟨_, atI_li (by omega) (by omega), ?_⟩
          rw [Int.toNat_natCast]
          walk_at "d"
          rw [cut_to (last zs zw (by omega) i hi)]
          exact hN _ rfl
        · rw [rng_len, Int.toNat_natCast]
          walk_at "d"
          refine ⟨_, rfl, ?_⟩
          walk_at "d"
          refine ⟨_, rfl, ?_⟩
          walk_at "d"
          have e : (List.range zs.length).map (fun i => D.lst (li ((rows.getD i []).take (zs.getD i 0).toNat))) = lls ((List.range zs.length).map fun i => (rows.getD i []).take (zs.getD i 0).toNat) := by simp [lls, Function.comp_def]
          rw [e]
          exact fin p ns zs cs g rows hp hk hf hr hn hm zw (by omega)
      · walk_at "d"
        refine ⟨by omega, ?_⟩
        refine lc_map (fun i => .lst (li ((rows.getD i []).take (ms.getD i 0).toNat))) (by rw [rng_len]; omega) rfl ?_ ?_
        · intro i d N hd hN
          obtain ⟨hi, rfl⟩ := rng_li hd
          have hi : i < ms.length := by omega
          rw [Int.zero_add]
          walk_at "d"
          refine ⟨_, rfl, ?_⟩
          walk_at "d"
          refine ⟨_, atI_D (by rw [lls_len]; omega), ?_⟩
          rw [lls_at (by omega)]
          walk_at "d"
          refine ⟨_, atI_li (by omega) (by omega), ?_⟩
          rw [Int.toNat_natCast]
          walk_at "d"
          rw [cut_to (last ms hmw (by omega) i hi)]
          exact hN _ rfl
        · rw [rng_len, Int.toNat_natCast]
          walk_at "d"
          refine ⟨_, rfl, ?_⟩
          walk_at "d"
          refine ⟨_, rfl, ?_⟩
          walk_at "d"
          have e : (List.range ms.length).map (fun i => D.lst (li ((rows.getD i []).take (ms.getD i 0).toNat))) = lls ((List.range ms.length).map fun i => (rows.getD i []).take (ms.getD i 0).toNat) := by simp [lls, Function.comp_def]
          rw [e]
          exact fin p ns ms cs g rows hp hk hf hr hn hm hmw (by omega)
end
end Nk
namespace Nk
open PySem L2 DL Hse
local macro_rules | `(tactic| walk_at "s") => `(tactic| try simp (decide := true) only [L2.cxK, L2.s_seq, L2.s_next, L2.s_brk, L2.s_cont, L2.s_drop, L2.s_ret, L2.s_retN, L2.s_ifS, L2.s_br1, L2.s_br0, L2.s_asg, L2.s_asI, L2.s_asB, L2.s_asN, L2.s_asS, L2.s_asR, L2.s_gName, L2.s_gSub, L2.s_var, L2.s_C, L2.s_op, L2.s_un, L2.s_chain, L2.s_test, L2.s_B, L2.s_and, L2.s_aB1, L2.s_aB0, L2.s_or, L2.s_oB1, L2.s_oB0, L2.s_not, L2.s_andV, L2.s_aE1, L2.s_aE0, L2.s_orV, L2.s_oE1, L2.s_oE0, L2.s_notV, L2.s_nE, L2.s_if, L2.s_iE1, L2.s_iE0, L2.s_tr, L2.s_trB, L2.s_trI, L2.s_trN, L2.s_nil, L2.s_cons, L2.s_CB, L2.s_call, L2.s_callS, L2.s_sl, L2.s_part, L2.s_noPart, L2.s_lst, L2.s_mk, L2.s_xf, L2.s_for, L2.s_lc, L2.s_rng1, L2.s_rng2, L2.s_rng3, L2.s_enum, L2.s_zip, L2.s_zip3, L2.s_yes, L2.s_lstRg, L2.s_lcC1, L2.s_lcC0, L2.s_mkK, L2.s_meth, L2.s_prop, L2.s_fld, L2.s_stF, L2.s_cv, L2.s_enumA, L2.s_enumO, L2.s_own, L2.s_aug, L2.v_aug, L2.s_augS, L2.s_seqI, L2.s_tup, L2.s_BM, L2.s_BM0, L2.v_addI, L2.v_subI, L2.v_mulI, L2.v_divI, L2.v_modI, L2.v_powI, L2.v_negI, L2.v_cmp, L2.v_eqI, L2.v_eqS, L2.v_neS, L2.v_neI, L2.v_isN, L2.v_isB, L2.v_isnotN, L2.v_isnotB, L2.v_int, L2.v_abs, L2.v_max2, L2.v_min2, L2.le_line, List.set_cons_succ, List.set_cons_zero, List.getElem?_cons_succ, List.getElem?_cons_zero, Option.some.injEq, exists_eq_left', V.bl.injEq, V.int.injEq, true_and, and_true, Bool.not_true, Bool.not_false, if_true, if_false, Bool.false_eq_true, List.append_nil, reduceCtorEq, decide_true, decide_false, ne_eq, not_false_eq_true, Int.reduceToNat, Int.reducePow, Int.reduceMul, Int.reduceAdd, Int.reduceSub, Int.reduceNeg, Nat.reduceAdd, List.length_cons, List.length_nil, List.nil_append, List.cons_append])
local macro_rules | `(tactic| walk_at "d") => `(tactic| try simp (decide := true) (implicitDefEqProofs := false) only [DL.q_0, DL.q_1, DL.q_2, DL.q_3, DL.q_4, DL.q_5, DL.q_6, DL.q_7, DL.q_8, DL.q_9, DL.q_10, DL.q_11, DL.q_12, DL.q_13, DL.q_14, DL.q_15, DL.q_16, DL.q_17, DL.q_18, DL.q_19, DL.q_20, DL.q_21, DL.q_22, DL.q_23, DL.q_24, DL.q_25, DL.q_26, DL.q_27, DL.q_28, DL.q_29, DL.q_30, DL.q_31, DL.q_32, DL.q_33, DL.q_34, DL.o_0, DL.o_1, DL.o_2, DL.o_3, DL.o_4, DL.o_5, DL.o_6, DL.o_7, DL.o_8, DL.o_9, DL.o_10, DL.o_11, DL.o_19, DL.o_12, DL.o_13, DL.o_14, DL.o_15, DL.o_16, DL.o_17, DL.o_18, DL.clo_li, DL.noLs_li, List.map_cons, List.map_nil, DL.dCallT, DL.dCallT0, DL.dTupO, DL.dMv, DL.o_20, DL.o_21, DL.o_22, DL.noL, DL.noLs, DL.noLf, DL.noX, DL.x_0, DL.x_1, DL.x_2, DL.x_3, DL.x_4, DL.x_5, DL.x_6, DL.iZpO, DL.zpOK, DL.y_0, DL.y_1, DL.y_2, DL.y_3, DL.y_4, DL.y_5, DL.y_6, DL.y_7, DL.y_8, DL.y_9, DL.y_10, DL.y_11, DL.y_12, DL.y_13, DL.y_14, DL.y_15, DL.dOp, DL.dUn, DL.dVar, DL.dC, DL.dRaw, DL.dTest, DL.dTr, DL.dAnd, DL.dOr, DL.dNot, DL.dYes, DL.dAndV, DL.dOrV, DL.dNotV, DL.dIf, DL.dChain, DL.dNil, DL.dCons, DL.dLst, DL.dTup, DL.dCB, DL.dSl, DL.dPart, DL.dNoPart, DL.dLr, DL.dApp, DL.dExt, DL.iSeqD, DL.iRg1, DL.iRg2, DL.iRg3, DL.iEnD, DL.iZpD, DL.iOwnD, DL.iEnO, DL.dLc, DL.dFld, DL.dCall, DL.dCall0, DL.dCallM, DL.dCallM0, DL.dMkK, DL.dMkK0, DL.dProp, DL.dMeth, DL.dMeth0, DL.dLenO, DL.e_br1, DL.e_br0, DL.e_aK1, DL.e_aK0, DL.e_oK1, DL.e_oK0, DL.e_aV1, DL.e_aV0, DL.e_oV1, DL.e_oV0, DL.e_if1, DL.e_if0, DL.e_ch1, DL.e_ch0, DL.e_lc1, DL.e_lc0, DL.intsOf_li, DL.li_len, DL.z_0, DL.z_1, DL.z_2, DL.z_3, DL.z_4, DL.z_5, DL.z_6, DL.z_7, DL.z_8, DL.z_9, DL.z_10, DL.z_11, DL.z_12, DL.z_13, DL.z_14, DL.z_15, DL.z_16, DL.z_17, DL.z_18, DL.z_19, DL.z_20, DL.z_21, DL.z_22, DL.z_23, DL.z_24, DL.z_25, DL.z_26, DL.z_27, DL.z_28, DL.z_29, DL.z_30, DL.z_31, DL.z_32, DL.z_33, DL.z_34, DL.z_35, DL.z_36, DL.z_37, DL.z_38, DL.z_39, DL.z_40, DL.z_41, DL.z_42, DL.z_43, DL.z_44, DL.z_45, DL.z_46, DL.z_47, DL.z_48, DL.z_49, DL.z_50, DL.z_51, DL.z_52, DL.z_53, DL.z_54, DL.z_55, DL.z_56, DL.z_57, DL.z_58, DL.z_59, DL.z_60, DL.z_61, DL.z_62, DL.z_63, DL.z_64, DL.z_65, DL.z_66, DL.z_67, DL.z_68, DL.z_69, DL.z_70, DL.z_71, DL.z_72, DL.z_73, DL.z_74, DL.z_75, DL.z_76, DL.z_77, DL.z_78, DL.z_79, DL.z_80, DL.z_81, DL.z_82, DL.z_83, DL.z_84, DL.z_85, DL.z_86, DL.z_87, DL.z_88, DL.z_89, DL.z_90, DL.z_91, DL.z_92, DL.z_93, DL.z_94, DL.z_95, DL.z_96, DL.z_97, DL.z_98, DL.z_99, DL.z_100, DL.z_101, DL.z_102, DL.z_103, DL.z_104, DL.z_105, DL.z_106, DL.z_107, DL.z_108, DL.z_109, DL.z_110, DL.z_111, DL.z_112, DL.z_113, DL.z_114, DL.z_115, DL.z_116, DL.z_117, DL.z_118, DL.z_119, DL.z_120, DL.z_121, DL.z_122, DL.z_123, DL.z_124, DL.z_125, DL.z_126, DL.z_127, DL.z_128, DL.z_129, DL.z_130, DL.z_131, DL.z_132, DL.z_133, DL.z_134, DL.z_135, DL.z_136, DL.z_137, DL.z_138, DL.z_139, DL.z_140, DL.z_141, DL.z_142, DL.z_143, DL.z_144, DL.z_145, DL.z_146, DL.z_147, DL.z_148, DL.z_149, DL.z_150, DL.z_151, DL.z_152, DL.z_153, DL.z_154, DL.z_155, DL.z_156, DL.z_157, DL.z_158, DL.z_159, DL.z_160, DL.z_161, DL.z_162, DL.z_163, DL.z_164, DL.z_165, DL.z_166, DL.z_167, DL.z_168, DL.z_169, DL.z_170, DL.z_171, DL.z_172, DL.z_173, DL.z_174, DL.z_175, List.set_cons_zero, List.set_cons_succ, List.getElem?_cons_zero, List.getElem?_cons_succ, List.length_cons, List.length_nil, List.length_set, Option.bind_some, Option.bind_none, List.map_cons, List.map_nil, List.nil_append, List.cons_append, List.append_nil, List.getD_cons_zero, List.getD_cons_succ, DL.lk_hit, DL.lk_miss, DL.lk_nil, DL.z_176, DL.bq_t, DL.bq_f, decide_true, decide_false, true_and, and_true, Bool.not_true, Bool.not_false, if_true, ite_true, ite_false, Nat.zero_add, Nat.add_zero, Nat.reduceAdd, Nat.reduceLT, Int.reduceLT, Int.reduceLE, Int.reduceNeg, Int.reduceEq, Int.reduceToNat, reduceIte, List.reduceReplicate, List.isEmpty_cons, List.isEmpty_nil, Int.reduceAdd, Int.reduceSub, Int.reduceMul, Int.reducePow, Bool.false_eq_true, String.reduceEq, String.reduceBEq, Bool.or_false, Bool.or_true, Bool.false_or, Bool.true_or, or_true, true_or, or_false, false_or])
section
variable {P : Program} {w : World} {K : PySem.W.Frag} {mg : Str → Option Value} {base : Heap} {A : Ad}
abbrev s_check_order : Stmt := topS 15
theorem sc_check_order : FnScope (["house", "order"] : List Str) (["house", "order"] : List Str) (defScope s_check_order) := ⟨rfl, rfl, rfl, by decide +kernel, rfl, by decide +kernel, by decide +kernel⟩
theorem ok_check_order {f : Addr} {fd : FuncData} (F : Fun K "check_order" "check_order" s_check_order f fd) (B : Blt mg) (T : Tx K mg A) (hfile : ((P.main.file : Str) == "/claim/cut.py") = true) (htop : (P.main.scope.names.lookup ("super" : Str)).isSome = false) (R_people : PrAt P w K mg base 1 A.c_House "people" (spP K (dsPeople A))) (C_check_people : FnAt P w K mg base 4 "check_people" (["house", "people"] : List Str) (spP K (dsCkPeople A))) : FnOk P w K mg base (L2.CX P w) 5 f fd (["house", "order"] : List Str) (spP K (dsCkOrder A)) := by
  refine F.okX sc_check_order (fun vs H Q E h => ?_) (fun cdv W outer s H vs Q E hr h => ?_)
  · refine spP_len (fun ds Q X h => ?_) h
    obtain ⟨ns, cs, r, ps, rfl, _⟩ := h; rfl
  · have nd := sc_check_order.nd
    have hu := hr.units
    refine ⟨_, by exact (pss_cons (ps_expr (pe_fn C_check_people (hr.mono (by first | decide | omega)) (passE (takes_of rfl rfl rfl rfl) (fun _ _ _ _ h => h)) (pa_cons (pv 0) (pa_cons (pv 1) pa_nil))))
        (pss_one (ps_if (pt_cmpR (oa_ne hu) (pe_callB ca_len (by rfl) B.len bt_len (pa_cons (pv 1) pa_nil)) (pe_pr R_people (hr.mono (by first | decide | omega)) (pv 0)) (nomark _))
        (pss_one (ps_raise rfl (takes_of rfl rfl rfl rfl) (pmk_err T.x_WrongLength.txt (by simp) (by decide) (by decide +kernel) hfile htop B.super hr T.x_WrongLength.g (pa_cons (pe_callB ca_len (by rfl) B.len bt_len (pa_cons (pv 1) pa_nil)) (pa_cons (pe_pr R_people (hr.mono (by first | decide | omega)) (pv 0)) pa_nil)))))
        pss_nil))), ?_⟩
    refine enterP h (fun pa => (DS.seq (DS.drop (DE.call (fun _ _ _ _ h => h) (DA.cons (DE.var 0) (DA.cons (DE.var 1) DA.nil))))
        (DS.ifs (DT.test (DE.op Op2.ne (DE.cb CallO.len (DA.cons (DE.var 1) DA.nil)) (DE.prop (DE.var 0))))
        (DS.raise (DA.cons (DE.cb CallO.len (DA.cons (DE.var 1) DA.nil)) (DA.cons (DE.prop (DE.var 0)) DA.nil)))
        DS.next))) (c := 0) (fun ds Q X h => ?_)
    obtain ⟨ns, cs, r, ps, rfl, hg, hl, k⟩ := h
    refine ⟨rfl, ?_⟩
    walk_at "d"
    refine ⟨ns, cs, r, ps, rfl, hg, hl, ?_⟩
    unfold ordK at k
    cases hf : flt cs.length [] ps with
    | some z =>
      rw [hf] at k
      rcases z with ⟨b, x⟩
      cases b <;> exact k
    | none =>
    rw [hf] at k
    have k : if ps.length = cs.length then Q (.val .non) else wlP A X ps.length cs.length := k
    refine ⟨trivial, ?_⟩
    walk_at "d"
    refine ⟨ns, cs, r, rfl, hg, ?_⟩
    walk_at "d"
    refine c_brN (fun c1 => ?_) (fun c1 => ?_)
    · rw [if_neg (by omega)] at k
      walk_at "d"
      refine ⟨ns, cs, r, rfl, hg, ?_⟩
      walk_at "d"
      exact k
    · rw [if_pos (by omega)] at k
      walk_at "d"
      exact k
abbrev s_order_counts : Stmt := topS 24
theorem sc_order_counts : FnScope (["house", "order", "nights"] : List Str) (["house", "order"] : List Str) (defScope s_order_counts) := ⟨rfl, rfl, rfl, by decide +kernel, rfl, by decide +kernel, by decide +kernel⟩
theorem ok_order_counts {f : Addr} {fd : FuncData} (F : Fun K "order_counts" "order_counts" s_order_counts f fd) (B : Blt mg) (T : Tx K mg A) (C_nights_in_order : FnAt P w K mg base 9 "nights_in_order" (["house", "order"] : List Str) (spP K (dsNio A))) : FnOk P w K mg base (L2.CX P w) 10 f fd (["house", "order"] : List Str) (spP K (dsOcnt A)) := by
  refine F.okX sc_order_counts (fun vs H Q E h => ?_) (fun cdv W outer s H vs Q E hr h => ?_)
  · refine spP_len (fun ds Q X h => ?_) h
    obtain ⟨ns, cs, r, ps, rfl, _⟩ := h; rfl
  · have nd := sc_order_counts.nd
    have hu := hr.units
    refine ⟨_, by exact (pss_one (ps_ret (pe_lc (own := [("nights", 2)]) (g := gName 2) (tt := tYes) rfl nd (pi_seq (pe_fn C_nights_in_order (hr.mono (by first | decide | omega)) (passE (takes_of rfl rfl rfl rfl) (fun _ _ _ _ h => h)) (pa_cons (pv 0) (pa_cons (pv 1) pa_nil)))) (blkOk_by (N := (["house", "order", "nights"] : List Str)) (sc := defScope (topS 24)) (by decide +kernel)) (fun _ _ _ _ _ => (pg_n 2 nd)) (fun _ _ _ _ _ => pts_nil) (fun _ _ _ _ _ => (pe_callB (calK (K := K) (r := aLen) ca_len rfl) (by rfl) B.len bt_len (pa_cons (pv 2) pa_nil)))))), ?_⟩
    refine enterP h (fun pa => (DS.ret (DE.lc (DI.seq (DE.call (fun _ _ _ _ h => h) (DA.cons (DE.var 0) (DA.cons (DE.var 1) DA.nil)))) (DG.name 2) (by decide) DT.yes (DE.cb CallO.len (DA.cons (DE.var 2) DA.nil))))) (c := 1) (fun ds Q X h => ?_)
    obtain ⟨ns, cs, r, ps, rfl, hg, hl, k⟩ := h
    refine ⟨rfl, ?_⟩
    have l2 := hg.p
    walk_at "d"
    refine ⟨ns, cs, r, ps, rfl, hg, hl, ordK_imp k fun ho k => ?_⟩
    refine ⟨trivial, ?_⟩
    walk_at "d"
    have nl : (nioL ns cs r ps).length = cs.length := by simp [nioL]
    refine lc_map (fun i => .int ((nioQ ns cs r ps i).length : Nat)) (by rw [lls_len]; omega) rfl ?_ ?_
    · intro i d N hd hN
      obtain ⟨hi, rfl⟩ := lls_get hd
      rw [show (nioL ns cs r ps).getD i [] = nioQ ns cs r ps i from getD_rng (by omega)]
      walk_at "d"
      exact hN _ rfl
    · rw [lls_len, nl]
      walk_at "d"
      rw [show (List.range cs.length).map (fun i => D.int ((nioQ ns cs r ps i).length : Nat)) = li (ocnt ns cs r ps) by simp [li, ocnt, Function.comp_def]]
      exact k
abbrev s_nights_in_order : Stmt := topS 23
theorem sc_nights_in_order : FnScope (["house", "order", "nights", "_", "before", "person"] : List Str) (["house", "order"] : List Str) (defScope s_nights_in_order) := ⟨rfl, rfl, rfl, by decide +kernel, rfl, by decide +kernel, by decide +kernel⟩
theorem ok_nights_in_order {f : Addr} {fd : FuncData} (F : Fun K "nights_in_order" "nights_in_order" s_nights_in_order f fd) (B : Blt mg) (T : Tx K mg A) (R_people : PrAt P w K mg base 1 A.c_House "people" (spP K (dsPeople A))) (C_check_order : FnAt P w K mg base 5 "check_order" (["house", "order"] : List Str) (spP K (dsCkOrder A))) (C_growth : FnAt P w K mg base 8 "growth" (["house", "people", "person"] : List Str) (spP K (dsGrowth A))) : FnOk P w K mg base (L2.CX P w) 9 f fd (["house", "order"] : List Str) (spP K (dsNio A)) := by
  refine F.okX sc_nights_in_order (fun vs H Q E h => ?_) (fun cdv W outer s H vs Q E hr h => ?_)
  · refine spP_len (fun ds Q X h => ?_) h
    obtain ⟨ns, cs, r, ps, rfl, _⟩ := h; rfl
  · have nd := sc_nights_in_order.nd
    have hu := hr.units
    refine ⟨_, by exact (pss_cons (ps_expr (pe_fn C_check_order (hr.mono (by first | decide | omega)) (passE (takes_of rfl rfl rfl rfl) (fun _ _ _ _ h => h)) (pa_cons (pv 0) (pa_cons (pv 1) pa_nil))))
        (pss_cons (ps_setLc (i := 2) (own := [("_", 3)]) (g := gName 3) (tt := tYes) rfl nd rfl rfl (sw_true rfl rfl rfl (by decide +kernel)) (pi_range1 rfl B.range (pa_cons (pe_pr R_people (hr.mono (by first | decide | omega)) (pv 0)) pa_nil)) (blkOk_by (N := (["house", "order", "nights", "_", "before", "person"] : List Str)) (sc := defScope (topS 23)) (by decide +kernel)) (fun _ _ _ _ _ => (pg_n 3 nd)) (fun _ _ _ _ _ => pts_nil) (fun _ _ _ _ _ => (pe_lst pa_nil)))
        (pss_cons (ps_st 4 nd (pe_lst pa_nil))
        (pss_cons (ps_for (passes_of rfl) rfl (pi_seq (pv 1)) (pg_n 5 nd)
        (pss_cons (ps_asg (pe_fn C_growth (hr.mono (by first | decide | omega)) (passE (takes_of rfl rfl rfl rfl) (fun _ _ _ _ h => h)) (pa_cons (pv 0) (pa_cons (pv 4) (pa_cons (pv 5) pa_nil)))) (pg_sub (pv 2) (pv 5) set_list))
        (pss_one (ps_expr (pe_bm PySem.F.plainAttrs_list PySem.F.slot_list_append PySem.F.type_list_append mt_append (pv 4) (pa_cons (pv 5) pa_nil))))))
        (pss_one (ps_ret (pv 2))))))), ?_⟩
    refine enterP h (fun pa => (DS.seq (DS.drop (DE.call (fun _ _ _ _ h => h) (DA.cons (DE.var 0) (DA.cons (DE.var 1) DA.nil))))
        (DS.seq (DS.asg (DE.lc (DI.rg1 (DA.cons (DE.prop (DE.var 0)) DA.nil)) (DG.name 3) (by decide) DT.yes (DE.lst DA.nil)))
        (DS.seq (DS.asg (DE.lst DA.nil))
        (DS.seq (DS.for_ (DI.seq (DE.var 1)) (DG.name 5)
        (DS.seq (DS.setI (DE.callT (fun _ _ _ _ h => h) (DA.cons (DE.var 0) (DA.cons (DE.var 4) (DA.cons (DE.var 5) DA.nil)))) (DE.var 5))
        (DS.drop (DE.app (DA.cons (DE.var 5) DA.nil)))))
        (DS.ret (DE.var 2))))))) (c := 4) (fun ds Q X h => ?_)
    obtain ⟨ns, cs, r, ps, rfl, hg, hl, k⟩ := h
    refine ⟨rfl, ?_⟩
    have l1 := hg.p
    walk_at "d"
    refine ⟨ns, cs, r, ps, rfl, hg, hl, ordK_imp k fun ho k => ?_⟩
    refine ⟨trivial, ?_⟩
    walk_at "d"
    refine ⟨ns, cs, r, rfl, hg, ?_⟩
    walk_at "d"
    refine ⟨by omega, ?_⟩
    refine lc_map (fun i => .lst []) (by rw [rng_len]; omega) rfl ?_ ?_
    · intro i d N hd hN
      obtain ⟨hi, rfl⟩ := rng_li hd
      walk_at "d"
      exact hN _ rfl
    · rw [rng_len, Int.toNat_natCast]
      have e0 : (List.range cs.length).map (fun _ => D.lst []) = lls (nioI ns cs r ps 0) := by
        rw [nioI_zero]; unfold lls; rw [List.map_replicate]; exact List.ext_getElem (by simp) (by simp [li])
      rw [e0]
      walk_at "d"
      refine ⟨fun i δ => ∃ v u, δ = [.val (hD A ns cs r), .val (.lst (li ps)), .own (lls (nioI ns cs r ps i)), v, .own (li (ps.take i)), u], ⟨_, _, rfl⟩, ?_, ?_⟩
      · rintro i d δ hd ⟨v, u, rfl⟩
        obtain ⟨hi, rfl⟩ := li_at hd
        obtain ⟨h0, h1⟩ := ho.inn _ (li_mem hi)
        have hin : flt cs.length [] (ps.take i ++ [ps.getD i 0]) = none := by
          have e : ps.getD i 0 = ps[i] := by simp [hi]
          rw [e, ← List.take_succ_eq_append_getElem hi]
          exact flt_none.mpr ⟨fun p hp => ho.inn p (List.mem_of_mem_take hp), ho.nd.sublist (List.take_sublist _ _), by simp⟩
        walk_at "d"
        refine ⟨ns, cs, r, ps.take i, ps.getD i 0, rfl, hg, by rw [List.length_take]; omega, ?_⟩
        rw [hin]
        refine ⟨clo_li, ?_⟩
        walk_at "d"
        refine ⟨(ps.getD i 0).toNat, by unfold ixN; rw [if_pos h0, if_pos (by rw [lls_len, nioI_len]; omega)], ?_⟩
        rw [lls_set, nioI_set ho hi]
        have : (ps.take i).length ≤ i := by simp; omega
        refine ⟨by omega, ?_⟩
        rw [li_snoc, take_snoc hi]
        exact ⟨_, _, rfl⟩
      · rintro δ ⟨v, u, rfl⟩
        rw [li_len, nioI_end ho]
        walk_at "d"
        exact k
end
end Nk
namespace Nk
open PySem L2 DL Hse
local macro_rules | `(tactic| walk_at "s") => `(tactic| try simp (decide := true) only [L2.cxK, L2.s_seq, L2.s_next, L2.s_brk, L2.s_cont, L2.s_drop, L2.s_ret, L2.s_retN, L2.s_ifS, L2.s_br1, L2.s_br0, L2.s_asg, L2.s_asI, L2.s_asB, L2.s_asN, L2.s_asS, L2.s_asR, L2.s_gName, L2.s_gSub, L2.s_var, L2.s_C, L2.s_op, L2.s_un, L2.s_chain, L2.s_test, L2.s_B, L2.s_and, L2.s_aB1, L2.s_aB0, L2.s_or, L2.s_oB1, L2.s_oB0, L2.s_not, L2.s_andV, L2.s_aE1, L2.s_aE0, L2.s_orV, L2.s_oE1, L2.s_oE0, L2.s_notV, L2.s_nE, L2.s_if, L2.s_iE1, L2.s_iE0, L2.s_tr, L2.s_trB, L2.s_trI, L2.s_trN, L2.s_nil, L2.s_cons, L2.s_CB, L2.s_call, L2.s_callS, L2.s_sl, L2.s_part, L2.s_noPart, L2.s_lst, L2.s_mk, L2.s_xf, L2.s_for, L2.s_lc, L2.s_rng1, L2.s_rng2, L2.s_rng3, L2.s_enum, L2.s_zip, L2.s_zip3, L2.s_yes, L2.s_lstRg, L2.s_lcC1, L2.s_lcC0, L2.s_mkK, L2.s_meth, L2.s_prop, L2.s_fld, L2.s_stF, L2.s_cv, L2.s_enumA, L2.s_enumO, L2.s_own, L2.s_aug, L2.v_aug, L2.s_augS, L2.s_seqI, L2.s_tup, L2.s_BM, L2.s_BM0, L2.v_addI, L2.v_subI, L2.v_mulI, L2.v_divI, L2.v_modI, L2.v_powI, L2.v_negI, L2.v_cmp, L2.v_eqI, L2.v_eqS, L2.v_neS, L2.v_neI, L2.v_isN, L2.v_isB, L2.v_isnotN, L2.v_isnotB, L2.v_int, L2.v_abs, L2.v_max2, L2.v_min2, L2.le_line, List.set_cons_succ, List.set_cons_zero, List.getElem?_cons_succ, List.getElem?_cons_zero, Option.some.injEq, exists_eq_left', V.bl.injEq, V.int.injEq, true_and, and_true, Bool.not_true, Bool.not_false, if_true, if_false, Bool.false_eq_true, List.append_nil, reduceCtorEq, decide_true, decide_false, ne_eq, not_false_eq_true, Int.reduceToNat, Int.reducePow, Int.reduceMul, Int.reduceAdd, Int.reduceSub, Int.reduceNeg, Nat.reduceAdd, List.length_cons, List.length_nil, List.nil_append, List.cons_append])
local macro_rules | `(tactic| walk_at "d") => `(tactic| try simp (decide := true) (implicitDefEqProofs := false) only [DL.q_0, DL.q_1, DL.q_2, DL.q_3, DL.q_4, DL.q_5, DL.q_6, DL.q_7, DL.q_8, DL.q_9, DL.q_10, DL.q_11, DL.q_12, DL.q_13, DL.q_14, DL.q_15, DL.q_16, DL.q_17, DL.q_18, DL.q_19, DL.q_20, DL.q_21, DL.q_22, DL.q_23, DL.q_24, DL.q_25, DL.q_26, DL.q_27, DL.q_28, DL.q_29, DL.q_30, DL.q_31, DL.q_32, DL.q_33, DL.q_34, DL.o_0, DL.o_1, DL.o_2, DL.o_3, DL.o_4, DL.o_5, DL.o_6, DL.o_7, DL.o_8, DL.o_9, DL.o_10, DL.o_11, DL.o_19, DL.o_12, DL.o_13, DL.o_14, DL.o_15, DL.o_16, DL.o_17, DL.o_18, DL.clo_li, DL.noLs_li, List.map_cons, List.map_nil, DL.dCallT, DL.dCallT0, DL.dTupO, DL.dMv, DL.o_20, DL.o_21, DL.o_22, DL.noL, DL.noLs, DL.noLf, DL.noX, DL.x_0, DL.x_1, DL.x_2, DL.x_3, DL.x_4, DL.x_5, DL.x_6, DL.iZpO, DL.zpOK, DL.y_0, DL.y_1, DL.y_2, DL.y_3, DL.y_4, DL.y_5, DL.y_6, DL.y_7, DL.y_8, DL.y_9, DL.y_10, DL.y_11, DL.y_12, DL.y_13, DL.y_14, DL.y_15, DL.dOp, DL.dUn, DL.dVar, DL.dC, DL.dRaw, DL.dTest, DL.dTr, DL.dAnd, DL.dOr, DL.dNot, DL.dYes, DL.dAndV, DL.dOrV, DL.dNotV, DL.dIf, DL.dChain, DL.dNil, DL.dCons, DL.dLst, DL.dTup, DL.dCB, DL.dSl, DL.dPart, DL.dNoPart, DL.dLr, DL.dApp, DL.dExt, DL.iSeqD, DL.iRg1, DL.iRg2, DL.iRg3, DL.iEnD, DL.iZpD, DL.iOwnD, DL.iEnO, DL.dLc, DL.dFld, DL.dCall, DL.dCall0, DL.dCallM, DL.dCallM0, DL.dMkK, DL.dMkK0, DL.dProp, DL.dMeth, DL.dMeth0, DL.dLenO, DL.e_br1, DL.e_br0, DL.e_aK1, DL.e_aK0, DL.e_oK1, DL.e_oK0, DL.e_aV1, DL.e_aV0, DL.e_oV1, DL.e_oV0, DL.e_if1, DL.e_if0, DL.e_ch1, DL.e_ch0, DL.e_lc1, DL.e_lc0, DL.intsOf_li, DL.li_len, DL.z_0, DL.z_1, DL.z_2, DL.z_3, DL.z_4, DL.z_5, DL.z_6, DL.z_7, DL.z_8, DL.z_9, DL.z_10, DL.z_11, DL.z_12, DL.z_13, DL.z_14, DL.z_15, DL.z_16, DL.z_17, DL.z_18, DL.z_19, DL.z_20, DL.z_21, DL.z_22, DL.z_23, DL.z_24, DL.z_25, DL.z_26, DL.z_27, DL.z_28, DL.z_29, DL.z_30, DL.z_31, DL.z_32, DL.z_33, DL.z_34, DL.z_35, DL.z_36, DL.z_37, DL.z_38, DL.z_39, DL.z_40, DL.z_41, DL.z_42, DL.z_43, DL.z_44, DL.z_45, DL.z_46, DL.z_47, DL.z_48, DL.z_49, DL.z_50, DL.z_51, DL.z_52, DL.z_53, DL.z_54, DL.z_55, DL.z_56, DL.z_57, DL.z_58, DL.z_59, DL.z_60, DL.z_61, DL.z_62, DL.z_63, DL.z_64, DL.z_65, DL.z_66, DL.z_67, DL.z_68, DL.z_69, DL.z_70, DL.z_71, DL.z_72, DL.z_73, DL.z_74, DL.z_75, DL.z_76, DL.z_77, DL.z_78, DL.z_79, DL.z_80, DL.z_81, DL.z_82, DL.z_83, DL.z_84, DL.z_85, DL.z_86, DL.z_87, DL.z_88, DL.z_89, DL.z_90, DL.z_91, DL.z_92, DL.z_93, DL.z_94, DL.z_95, DL.z_96, DL.z_97, DL.z_98, DL.z_99, DL.z_100, DL.z_101, DL.z_102, DL.z_103, DL.z_104, DL.z_105, DL.z_106, DL.z_107, DL.z_108, DL.z_109, DL.z_110, DL.z_111, DL.z_112, DL.z_113, DL.z_114, DL.z_115, DL.z_116, DL.z_117, DL.z_118, DL.z_119, DL.z_120, DL.z_121, DL.z_122, DL.z_123, DL.z_124, DL.z_125, DL.z_126, DL.z_127, DL.z_128, DL.z_129, DL.z_130, DL.z_131, DL.z_132, DL.z_133, DL.z_134, DL.z_135, DL.z_136, DL.z_137, DL.z_138, DL.z_139, DL.z_140, DL.z_141, DL.z_142, DL.z_143, DL.z_144, DL.z_145, DL.z_146, DL.z_147, DL.z_148, DL.z_149, DL.z_150, DL.z_151, DL.z_152, DL.z_153, DL.z_154, DL.z_155, DL.z_156, DL.z_157, DL.z_158, DL.z_159, DL.z_160, DL.z_161, DL.z_162, DL.z_163, DL.z_164, DL.z_165, DL.z_166, DL.z_167, DL.z_168, DL.z_169, DL.z_170, DL.z_171, DL.z_172, DL.z_173, DL.z_174, DL.z_175, List.set_cons_zero, List.set_cons_succ, List.getElem?_cons_zero, List.getElem?_cons_succ, List.length_cons, List.length_nil, List.length_set, Option.bind_some, Option.bind_none, List.map_cons, List.map_nil, List.nil_append, List.cons_append, List.append_nil, List.getD_cons_zero, List.getD_cons_succ, DL.lk_hit, DL.lk_miss, DL.lk_nil, DL.z_176, DL.bq_t, DL.bq_f, decide_true, decide_false, true_and, and_true, Bool.not_true, Bool.not_false, if_true, ite_true, ite_false, Nat.zero_add, Nat.add_zero, Nat.reduceAdd, Nat.reduceLT, Int.reduceLT, Int.reduceLE, Int.reduceNeg, Int.reduceEq, Int.reduceToNat, reduceIte, List.reduceReplicate, List.isEmpty_cons, List.isEmpty_nil, Int.reduceAdd, Int.reduceSub, Int.reduceMul, Int.reducePow, Bool.false_eq_true, String.reduceEq, String.reduceBEq, Bool.or_false, Bool.or_true, Bool.false_or, Bool.true_or, or_true, true_or, or_false, false_or])
section
variable {P : Program} {w : World} {K : PySem.W.Frag} {mg : Str → Option Value} {base : Heap} {A : Ad}
abbrev s_most_of : Stmt := topS 20
theorem sc_most_of : FnScope (["house", "people"] : List Str) (["house", "people"] : List Str) (defScope s_most_of) := ⟨rfl, rfl, rfl, by decide +kernel, rfl, by decide +kernel, by decide +kernel⟩
theorem ok_most_of {f : Addr} {fd : FuncData} (F : Fun K "most_of" "most_of" s_most_of f fd) (B : Blt mg) (T : Tx K mg A) (C_first_choice : FnAt P w K mg base 6 "first_choice" (["house", "people"] : List Str) (spP K (dsFirst A))) : FnOk P w K mg base (L2.CX P w) 7 f fd (["house", "people"] : List Str) (spP K (dsMost A)) := by
  refine F.okX sc_most_of (fun vs H Q E h => ?_) (fun cdv W outer s H vs Q E hr h => ?_)
  · refine spP_len (fun ds Q X h => ?_) h
    obtain ⟨ns, cs, r, ps, rfl, _⟩ := h; rfl
  · have nd := sc_most_of.nd
    have hu := hr.units
    refine ⟨_, by exact (pss_one (ps_ret (pe_callB (cr_sumA rfl) (by rfl) B.sum bt_sum (pa_cons (pe_fn C_first_choice (hr.mono (by first | decide | omega)) (passE (takes_of rfl rfl rfl rfl) (fun _ _ _ _ h => h)) (pa_cons (pv 0) (pa_cons (pv 1) pa_nil))) pa_nil)))), ?_⟩
    refine enterP h (fun pa => (DS.ret (DE.cb CallO.sum (DA.cons (DE.call (fun _ _ _ _ h => h) (DA.cons (DE.var 0) (DA.cons (DE.var 1) DA.nil))) DA.nil)))) (c := 0) (fun ds Q X h => ?_)
    obtain ⟨ns, cs, r, ps, rfl, hg, hl, k⟩ := h
    refine ⟨rfl, ?_⟩
    walk_at "d"
    refine ⟨ns, cs, r, ps, rfl, hg, hl, ?_⟩
    cases hf : flt cs.length [] ps with
    | some z =>
      rw [hf] at k
      rcases z with ⟨b, x⟩
      cases b <;> exact k
    | none =>
    rw [hf] at k
    refine ⟨trivial, ?_⟩
    walk_at "d"
    exact k
abbrev s__law_cut : Stmt := topS 47
theorem sc__law_cut : FnScope (["rows", "days", "place"] : List Str) (["rows", "days"] : List Str) (defScope s__law_cut) := ⟨rfl, rfl, rfl, by decide +kernel, rfl, by decide +kernel, by decide +kernel⟩
theorem ok__law_cut {f : Addr} {fd : FuncData} (F : Fun K "_law_cut" "_law_cut" s__law_cut f fd) (B : Blt mg) : FnOk P w K mg base (L2.CX P w) 1 f fd (["rows", "days"] : List Str) (spP K (dsCutL)) := by
  refine F.okX sc__law_cut (fun vs H Q E h => ?_) (fun cdv W outer s H vs Q E hr h => ?_)
  · refine spP_len (fun ds Q X h => ?_) h
    obtain ⟨rows, ns, rfl, _⟩ := h; rfl
  · have nd := sc__law_cut.nd
    have hu := hr.units
    refine ⟨_, by exact (pss_one (ps_ret (pe_lc (own := [("place", 2)]) (g := gName 2) (tt := tYes) rfl nd (pi_range1 rfl B.range (pa_cons (pe_callB ca_len (by rfl) B.len bt_len (pa_cons (pv 1) pa_nil)) pa_nil)) (blkOk_by (N := (["rows", "days", "place"] : List Str)) (sc := defScope (topS 47)) (by decide +kernel)) (fun _ _ _ _ _ => (pg_n 2 nd)) (fun _ _ _ _ _ => pts_nil) (fun _ _ _ _ _ => (pe_slice (slK (K := K) (r := aSl) oa_sl rfl) (pe_ix (ixK (K := K) (r := aIx) oa_ix rfl) (pv 0) (pv 2) (fun _ _ => rfl)) po_none (po_some (pe_ix (ixK (K := K) (r := aIx) oa_ix rfl) (pv 1) (pv 2) (fun _ _ => rfl)))))))), ?_⟩
    refine enterP h (fun pa => (DS.ret (DE.lc (DI.rg1 (DA.cons (DE.cb CallO.len (DA.cons (DE.var 1) DA.nil)) DA.nil)) (DG.name 2) (by decide) DT.yes (DE.sl (DE.op Op2.ix (DE.var 0) (DE.var 2)) DO.no (DO.part (DE.op Op2.ix (DE.var 1) (DE.var 2))))))) (c := 1) (fun ds Q X h => ?_)
    obtain ⟨rows, ns, rfl, hl, hl2, hn, k⟩ := h
    refine ⟨rfl, ?_⟩
    walk_at "d"
    refine ⟨by omega, ?_⟩
    refine lc_map (fun i => .lst (li ((rows.getD i []).take (ns.getD i 0).toNat))) (by rw [rng_len]; omega) rfl ?_ ?_
    · intro i d N hd hN
      obtain ⟨hi, rfl⟩ := rng_li hd
      have hi : i < ns.length := by omega
      rw [Int.zero_add]
      walk_at "d"
      refine ⟨_, atI_D (by rw [lls_len]; omega), ?_⟩
      rw [lls_at (by omega)]
      walk_at "d"
      refine ⟨_, atI_li (by omega) (by omega), ?_⟩
      rw [Int.toNat_natCast]
      walk_at "d"
      rw [cut_to (hn _ (li_mem hi))]
      exact hN _ rfl
    · rw [rng_len, Int.toNat_natCast]
      walk_at "d"
      rw [show (List.range ns.length).map (fun i => D.lst (li ((rows.getD i []).take (ns.getD i 0).toNat))) = lls (cutR rows ns) by simp [lls, cutR, Function.comp_def]]
      exact k
abbrev s__law_thin : Stmt := topS 48
theorem sc__law_thin : FnScope (["pool", "rows", "person", "row"] : List Str) (["pool", "rows"] : List Str) (defScope s__law_thin) := ⟨rfl, rfl, rfl, by decide +kernel, rfl, by decide +kernel, by decide +kernel⟩
theorem ok__law_thin {f : Addr} {fd : FuncData} (F : Fun K "_law_thin" "_law_thin" s__law_thin f fd) (B : Blt mg) (C__law_draw : FnAt P w K mg base 1 "_law_draw" (["pool", "many"] : List Str) (spM K (dsDraw))) : FnOk P w K mg base (L2.CX P w) 2 f fd (["pool", "rows"] : List Str) (spM K (dsThinL)) := by
  refine F.okX sc__law_thin (fun vs H Q E h => ?_) (fun cdv W outer s H vs Q E hr h => ?_)
  · refine spM_len (fun es ds Q X h => ?_) h
    obtain ⟨rows, rfl, _⟩ := h; rfl
  · have nd := sc__law_thin.nd
    have hu := hr.units
    refine ⟨_, by exact (pss_one (ps_ret (pe_lc (own := [("row", 3)]) (g := gName 3) (tt := tYes) rfl nd (pi_seq (pv 1)) (blkOk_by (N := (["pool", "rows", "person", "row"] : List Str)) (sc := defScope (topS 48)) (by decide +kernel)) (fun _ _ _ _ _ => (pg_n 3 nd)) (fun _ _ _ _ _ => pts_nil) (fun _ _ _ _ _ => (pe_lc (own := [("person", 2)]) (g := gName 2) (tt := _) rfl nd (pi_seqK (K := K) (pv 3) rfl) (blkOk_by (by kernel_rfl)) (fun _ _ _ _ _ => (pg_n 2 nd)) (fun _ _ _ _ _ => pts_one (pt_cmpR (opK (K := K) (r := aNe) (oa_ne hu) rfl) (pe_fn C__law_draw (hr.mono (by first | decide | omega)) passL (pa_cons (pv 0) (pa_cons pe_int pa_nil))) pe_int (nomark _))) (fun _ _ _ _ _ => (pv 2))))))), ?_⟩
    refine enterM h (fun pa => (DS.ret (DE.lc (DI.seq (DE.var 1)) (DG.name 3) (by decide) DT.yes (DE.lc (DI.seq (DE.var 3)) (DG.name 2) (by decide) (DT.test (DE.op Op2.ne (DE.callM0 (DA.cons (DE.var 0) (DA.cons (DE.c fun _ => .int _) DA.nil))) (DE.c fun _ => .int _))) (DE.var 2))))) (c := 2) (fun es ds Q X h => ?_)
    obtain ⟨rows, rfl, hp, hl, hr, k⟩ := h
    refine ⟨rfl, ?_⟩
    walk_at "d"
    refine ⟨by rw [lls_len]; omega, fun i δ acc => ∃ p rs, δ = [.par p, .val (.lst (lls rows)), .dead, .dead] ∧ PO p ∧ acc = lls rs ∧ rs.length = i ∧ ∀ j < i, (rs.getD j []).Sublist (rows.getD j []), ⟨es, [], rfl, hp, rfl, rfl, fun j hj => absurd hj (Nat.not_lt_zero _)⟩, ?_, ?_⟩
    · rintro i d δ acc hd ⟨p, rs, rfl, hp, rfl, hrl, hs⟩
      obtain ⟨hi, rfl⟩ := lls_get hd
      have := hr i hi
      refine ⟨rfl, ?_⟩
      walk_at "d"
      refine ⟨by rw [li_len]; omega, fun k δ acc => ∃ p r, δ = [.par p, .val (.lst (lls rows)), .dead, .val (.lst (li (rows.getD i [])))] ∧ PO p ∧ acc = li r ∧ r.Sublist ((rows.getD i []).take k), ⟨p, [], rfl, hp, rfl, by simp⟩, ?_, ?_⟩
      · rintro t d δ acc hd ⟨p, r, rfl, hp, rfl, hsr⟩
        obtain ⟨ht, rfl⟩ := li_at hd
        refine ⟨rfl, ?_⟩
        walk_at "d"
        refine ⟨_, rfl, hp, by omega, by omega, fun x p x0 x1 hp => ?_⟩
        walk_at "d"
        have e := take_snoc ht
        by_cases c : x = 0
        · rw [decide_eq_true c]
          walk_at "d"
          exact ⟨p, r, rfl, hp, rfl, by rw [← e]; exact hsr.trans (List.sublist_append_left _ _)⟩
        · rw [decide_eq_false c]
          walk_at "d"
          exact ⟨p, r ++ [(rows.getD i []).getD t 0], rfl, hp, by rw [li_snoc], by rw [← e]; exact List.Sublist.append hsr (List.Sublist.refl _)⟩
      · rintro δ acc ⟨p, r, rfl, hp, rfl, hsr⟩
        rw [li_len, List.take_length] at hsr
        walk_at "d"
        refine ⟨p, rs ++ [r], rfl, hp, by rw [lls_snoc], by simp [hrl], fun j hj => ?_⟩
        by_cases e : j < rs.length
        · rw [getD_lt e]; exact hs j (by omega)
        · rw [getD_eq (by omega), show j = i by omega]; exact hsr
    · rintro δ acc ⟨p, rs, rfl, hp, rfl, hrl, hs⟩
      rw [lls_len] at hrl hs
      walk_at "d"
      exact k p rs hp hrl hs
abbrev s__law_mixed : Stmt := topS 49
theorem sc__law_mixed : FnScope (["pool", "many", "left", "mixed", "turn", "place"] : List Str) (["pool", "many"] : List Str) (defScope s__law_mixed) := ⟨rfl, rfl, rfl, by decide +kernel, rfl, by decide +kernel, by decide +kernel⟩
theorem ok__law_mixed {f : Addr} {fd : FuncData} (F : Fun K "_law_mixed" "_law_mixed" s__law_mixed f fd) (B : Blt mg) (C__law_draw : FnAt P w K mg base 1 "_law_draw" (["pool", "many"] : List Str) (spM K (dsDraw))) : FnOk P w K mg base (L2.CX P w) 2 f fd (["pool", "many"] : List Str) (spM K (dsMixN)) := by
  refine F.okX sc__law_mixed (fun vs H Q E h => ?_) (fun cdv W outer s H vs Q E hr h => ?_)
  · refine spM_len (fun es ds Q X h => ?_) h
    obtain ⟨m, rfl, _⟩ := h; rfl
  · have nd := sc__law_mixed.nd
    have hu := hr.units
    refine ⟨_, by exact (pss_cons (ps_st 2 nd (pe_listRg rfl rfl B.list (prg_1 rfl B.range (pv 1))))
        (pss_cons (ps_st 3 nd (pe_lst pa_nil))
        (pss_cons (ps_for (passes_of rfl) rfl (pi_range1 rfl B.range (pa_cons (pv 1) pa_nil)) (pg_n 4 nd)
        (pss_cons (ps_st 5 nd (pe_fn C__law_draw (hr.mono (by first | decide | omega)) passL (pa_cons (pv 0) (pa_cons (pe_callB ca_len (by rfl) B.len bt_len (pa_cons (pv 2) pa_nil)) pa_nil))))
        (pss_cons (ps_expr (pe_bm PySem.F.plainAttrs_list PySem.F.slot_list_append PySem.F.type_list_append mt_append (pv 3) (pa_cons (pe_ix oa_ix (pv 2) (pv 5) (fun _ _ => rfl)) pa_nil)))
        (pss_one (ps_st 2 nd (pe_op oa_add (pe_slice oa_sl (pv 2) po_none (po_some (pv 5))) (pe_slice oa_sl (pv 2) (po_some (pe_op oa_add (pv 5) pe_int)) po_none)))))))
        (pss_one (ps_ret (pv 3)))))), ?_⟩
    refine enterM h (fun pa => (DS.seq (DS.asg (DE.lr (DE.var 1)))
        (DS.seq (DS.asg (DE.lst DA.nil))
        (DS.seq (DS.for_ (DI.rg1 (DA.cons (DE.var 1) DA.nil)) (DG.name 4)
        (DS.seq (DS.asg (DE.callM0 (DA.cons (DE.var 0) (DA.cons (DE.cb CallO.len (DA.cons (DE.var 2) DA.nil)) DA.nil))))
        (DS.seq (DS.drop (DE.app (DA.cons (DE.op Op2.ix (DE.var 2) (DE.var 5)) DA.nil)))
        (DS.asg (DE.op Op2.add (DE.sl (DE.var 2) DO.no (DO.part (DE.var 5))) (DE.sl (DE.var 2) (DO.part (DE.op Op2.add (DE.var 5) (DE.c fun _ => .int _))) DO.no))))))
        (DS.ret (DE.var 3)))))) (c := 4) (fun es ds Q X h => ?_)
    obtain ⟨m, rfl, hp, hl, k⟩ := h
    refine ⟨rfl, ?_⟩
    walk_at "d"
    refine ⟨by omega, ?_⟩
    rw [Int.toNat_natCast]
    walk_at "d"
    refine ⟨by omega, ?_⟩
    refine ⟨fun i δ => ∃ p left done v w, δ = [.par p, .val (.int m), .own (li left), .own (li done), v, w] ∧ PO p ∧ (done ++ left).Perm ((List.range m).map fun i => ((i : Nat) : Int)) ∧ done.length = i, ⟨es, _, [], _, _, rfl, hp, List.Perm.refl _, rfl⟩, ?_, ?_⟩
    · rintro i d δ hd ⟨p, left, done, v, w, rfl, hp, hP, hL⟩
      obtain ⟨hi, rfl⟩ := rng_li hd
      have hle := hP.length_eq
      rw [List.length_append, List.length_map, List.length_range] at hle
      have hi : i < m := by simpa using hi
      walk_at "d"
      refine ⟨_, rfl, hp, by omega, by omega, fun x p h0 h1 hp => ?_⟩
      obtain ⟨j, rfl⟩ := Int.eq_ofNat_of_zero_le h0
      have hj : j < left.length := by omega
      walk_at "d"
      refine ⟨_, atI_li h0 h1, ?_⟩
      walk_at "d"
      rw [cut_lo (by omega), show ((j : Int) + 1) = ((j + 1 : Nat) : Int) by omega, cut_hi (by omega), li_len, li_len, List.length_take, List.length_drop, Int.toNat_natCast]
      refine ⟨by omega, by omega, ?_⟩
      refine ⟨p, left.take j ++ left.drop (j + 1), done ++ [left.getD j 0], _, _, by rw [li_snoc, li_app], hp, ?_, by simp [hL]⟩
      refine List.Perm.trans ?_ hP
      rw [List.append_assoc]
      refine List.Perm.append_left _ ?_
      have e : left.getD j 0 = left[j] := by simp [hj]
      rw [e]
      refine (List.perm_middle (l₁ := left.take j)).symm.trans ?_
      rw [← List.drop_eq_getElem_cons hj, List.take_append_drop]
    · rintro δ ⟨p, left, done, v, w, rfl, hp, hP, hL⟩
      rw [rng_len] at hL
      have hle := hP.length_eq
      rw [List.length_append, List.length_map, List.length_range] at hle
      obtain rfl : left = [] := List.length_eq_zero_iff.mp (by omega)
      rw [List.append_nil] at hP
      walk_at "d"
      exact k p done hp (isOrd.of hP)
end
end Nk
namespace Nk
open PySem L2 DL Hse
local macro_rules | `(tactic| walk_at "s") => `(tactic| try simp (decide := true) only [L2.cxK, L2.s_seq, L2.s_next, L2.s_brk, L2.s_cont, L2.s_drop, L2.s_ret, L2.s_retN, L2.s_ifS, L2.s_br1, L2.s_br0, L2.s_asg, L2.s_asI, L2.s_asB, L2.s_asN, L2.s_asS, L2.s_asR, L2.s_gName, L2.s_gSub, L2.s_var, L2.s_C, L2.s_op, L2.s_un, L2.s_chain, L2.s_test, L2.s_B, L2.s_and, L2.s_aB1, L2.s_aB0, L2.s_or, L2.s_oB1, L2.s_oB0, L2.s_not, L2.s_andV, L2.s_aE1, L2.s_aE0, L2.s_orV, L2.s_oE1, L2.s_oE0, L2.s_notV, L2.s_nE, L2.s_if, L2.s_iE1, L2.s_iE0, L2.s_tr, L2.s_trB, L2.s_trI, L2.s_trN, L2.s_nil, L2.s_cons, L2.s_CB, L2.s_call, L2.s_callS, L2.s_sl, L2.s_part, L2.s_noPart, L2.s_lst, L2.s_mk, L2.s_xf, L2.s_for, L2.s_lc, L2.s_rng1, L2.s_rng2, L2.s_rng3, L2.s_enum, L2.s_zip, L2.s_zip3, L2.s_yes, L2.s_lstRg, L2.s_lcC1, L2.s_lcC0, L2.s_mkK, L2.s_meth, L2.s_prop, L2.s_fld, L2.s_stF, L2.s_cv, L2.s_enumA, L2.s_enumO, L2.s_own, L2.s_aug, L2.v_aug, L2.s_augS, L2.s_seqI, L2.s_tup, L2.s_BM, L2.s_BM0, L2.v_addI, L2.v_subI, L2.v_mulI, L2.v_divI, L2.v_modI, L2.v_powI, L2.v_negI, L2.v_cmp, L2.v_eqI, L2.v_eqS, L2.v_neS, L2.v_neI, L2.v_isN, L2.v_isB, L2.v_isnotN, L2.v_isnotB, L2.v_int, L2.v_abs, L2.v_max2, L2.v_min2, L2.le_line, List.set_cons_succ, List.set_cons_zero, List.getElem?_cons_succ, List.getElem?_cons_zero, Option.some.injEq, exists_eq_left', V.bl.injEq, V.int.injEq, true_and, and_true, Bool.not_true, Bool.not_false, if_true, if_false, Bool.false_eq_true, List.append_nil, reduceCtorEq, decide_true, decide_false, ne_eq, not_false_eq_true, Int.reduceToNat, Int.reducePow, Int.reduceMul, Int.reduceAdd, Int.reduceSub, Int.reduceNeg, Nat.reduceAdd, List.length_cons, List.length_nil, List.nil_append, List.cons_append])
local macro_rules | `(tactic| walk_at "d") => `(tactic| try simp (decide := true) (implicitDefEqProofs := false) only [DL.q_0, DL.q_1, DL.q_2, DL.q_3, DL.q_4, DL.q_5, DL.q_6, DL.q_7, DL.q_8, DL.q_9, DL.q_10, DL.q_11, DL.q_12, DL.q_13, DL.q_14, DL.q_15, DL.q_16, DL.q_17, DL.q_18, DL.q_19, DL.q_20, DL.q_21, DL.q_22, DL.q_23, DL.q_24, DL.q_25, DL.q_26, DL.q_27, DL.q_28, DL.q_29, DL.q_30, DL.q_31, DL.q_32, DL.q_33, DL.q_34, DL.o_0, DL.o_1, DL.o_2, DL.o_3, DL.o_4, DL.o_5, DL.o_6, DL.o_7, DL.o_8, DL.o_9, DL.o_10, DL.o_11, DL.o_19, DL.o_12, DL.o_13, DL.o_14, DL.o_15, DL.o_16, DL.o_17, DL.o_18, DL.clo_li, DL.noLs_li, List.map_cons, List.map_nil, DL.dCallT, DL.dCallT0, DL.dTupO, DL.dMv, DL.o_20, DL.o_21, DL.o_22, DL.noL, DL.noLs, DL.noLf, DL.noX, DL.x_0, DL.x_1, DL.x_2, DL.x_3, DL.x_4, DL.x_5, DL.x_6, DL.iZpO, DL.zpOK, DL.y_0, DL.y_1, DL.y_2, DL.y_3, DL.y_4, DL.y_5, DL.y_6, DL.y_7, DL.y_8, DL.y_9, DL.y_10, DL.y_11, DL.y_12, DL.y_13, DL.y_14, DL.y_15, DL.dOp, DL.dUn, DL.dVar, DL.dC, DL.dRaw, DL.dTest, DL.dTr, DL.dAnd, DL.dOr, DL.dNot, DL.dYes, DL.dAndV, DL.dOrV, DL.dNotV, DL.dIf, DL.dChain, DL.dNil, DL.dCons, DL.dLst, DL.dTup, DL.dCB, DL.dSl, DL.dPart, DL.dNoPart, DL.dLr, DL.dApp, DL.dExt, DL.iSeqD, DL.iRg1, DL.iRg2, DL.iRg3, DL.iEnD, DL.iZpD, DL.iOwnD, DL.iEnO, DL.dLc, DL.dFld, DL.dCall, DL.dCall0, DL.dCallM, DL.dCallM0, DL.dMkK, DL.dMkK0, DL.dProp, DL.dMeth, DL.dMeth0, DL.dLenO, DL.e_br1, DL.e_br0, DL.e_aK1, DL.e_aK0, DL.e_oK1, DL.e_oK0, DL.e_aV1, DL.e_aV0, DL.e_oV1, DL.e_oV0, DL.e_if1, DL.e_if0, DL.e_ch1, DL.e_ch0, DL.e_lc1, DL.e_lc0, DL.intsOf_li, DL.li_len, DL.z_0, DL.z_1, DL.z_2, DL.z_3, DL.z_4, DL.z_5, DL.z_6, DL.z_7, DL.z_8, DL.z_9, DL.z_10, DL.z_11, DL.z_12, DL.z_13, DL.z_14, DL.z_15, DL.z_16, DL.z_17, DL.z_18, DL.z_19, DL.z_20, DL.z_21, DL.z_22, DL.z_23, DL.z_24, DL.z_25, DL.z_26, DL.z_27, DL.z_28, DL.z_29, DL.z_30, DL.z_31, DL.z_32, DL.z_33, DL.z_34, DL.z_35, DL.z_36, DL.z_37, DL.z_38, DL.z_39, DL.z_40, DL.z_41, DL.z_42, DL.z_43, DL.z_44, DL.z_45, DL.z_46, DL.z_47, DL.z_48, DL.z_49, DL.z_50, DL.z_51, DL.z_52, DL.z_53, DL.z_54, DL.z_55, DL.z_56, DL.z_57, DL.z_58, DL.z_59, DL.z_60, DL.z_61, DL.z_62, DL.z_63, DL.z_64, DL.z_65, DL.z_66, DL.z_67, DL.z_68, DL.z_69, DL.z_70, DL.z_71, DL.z_72, DL.z_73, DL.z_74, DL.z_75, DL.z_76, DL.z_77, DL.z_78, DL.z_79, DL.z_80, DL.z_81, DL.z_82, DL.z_83, DL.z_84, DL.z_85, DL.z_86, DL.z_87, DL.z_88, DL.z_89, DL.z_90, DL.z_91, DL.z_92, DL.z_93, DL.z_94, DL.z_95, DL.z_96, DL.z_97, DL.z_98, DL.z_99, DL.z_100, DL.z_101, DL.z_102, DL.z_103, DL.z_104, DL.z_105, DL.z_106, DL.z_107, DL.z_108, DL.z_109, DL.z_110, DL.z_111, DL.z_112, DL.z_113, DL.z_114, DL.z_115, DL.z_116, DL.z_117, DL.z_118, DL.z_119, DL.z_120, DL.z_121, DL.z_122, DL.z_123, DL.z_124, DL.z_125, DL.z_126, DL.z_127, DL.z_128, DL.z_129, DL.z_130, DL.z_131, DL.z_132, DL.z_133, DL.z_134, DL.z_135, DL.z_136, DL.z_137, DL.z_138, DL.z_139, DL.z_140, DL.z_141, DL.z_142, DL.z_143, DL.z_144, DL.z_145, DL.z_146, DL.z_147, DL.z_148, DL.z_149, DL.z_150, DL.z_151, DL.z_152, DL.z_153, DL.z_154, DL.z_155, DL.z_156, DL.z_157, DL.z_158, DL.z_159, DL.z_160, DL.z_161, DL.z_162, DL.z_163, DL.z_164, DL.z_165, DL.z_166, DL.z_167, DL.z_168, DL.z_169, DL.z_170, DL.z_171, DL.z_172, DL.z_173, DL.z_174, DL.z_175, List.set_cons_zero, List.set_cons_succ, List.getElem?_cons_zero, List.getElem?_cons_succ, List.length_cons, List.length_nil, List.length_set, Option.bind_some, Option.bind_none, List.map_cons, List.map_nil, List.nil_append, List.cons_append, List.append_nil, List.getD_cons_zero, List.getD_cons_succ, DL.lk_hit, DL.lk_miss, DL.lk_nil, DL.z_176, DL.bq_t, DL.bq_f, decide_true, decide_false, true_and, and_true, Bool.not_true, Bool.not_false, if_true, ite_true, ite_false, Nat.zero_add, Nat.add_zero, Nat.reduceAdd, Nat.reduceLT, Int.reduceLT, Int.reduceLE, Int.reduceNeg, Int.reduceEq, Int.reduceToNat, reduceIte, List.reduceReplicate, List.isEmpty_cons, List.isEmpty_nil, Int.reduceAdd, Int.reduceSub, Int.reduceMul, Int.reducePow, Bool.false_eq_true, String.reduceEq, String.reduceBEq, Bool.or_false, Bool.or_true, Bool.false_or, Bool.true_or, or_true, true_or, or_false, false_or])
section
variable {P : Program} {w : World} {K : PySem.W.Frag} {mg : Str → Option Value} {base : Heap} {A : Ad}
abbrev s__law_large : Stmt := topS 46
theorem sc__law_large : FnScope (["pool", "nights", "gap", "days", "starts"] : List Str) (["pool"] : List Str) (defScope s__law_large) := ⟨rfl, rfl, rfl, by decide +kernel, rfl, by decide +kernel, by decide +kernel⟩
theorem ok__law_large {f : Addr} {fd : FuncData} (F : Fun K "_law_large" "_law_large" s__law_large f fd) (B : Blt mg) (C__law_draw : FnAt P w K mg base 1 "_law_draw" (["pool", "many"] : List Str) (spM K (dsDraw))) (C__law_wants : FnAt P w K mg base 2 "_law_wants" (["pool", "nights", "most"] : List Str) (spM K (dsWantsL))) (C__law_comings : FnAt P w K mg base 2 "_law_comings" (["pool", "people", "nights"] : List Str) (spM K (dsComings))) (C__law_rows : FnAt P w K mg base 2 "_law_rows" (["pool", "nights", "comings", "gap", "keen"] : List Str) (spM K (dsRowsL))) (C__law_cut : FnAt P w K mg base 1 "_law_cut" (["rows", "days"] : List Str) (spP K (dsCutL))) : FnOk P w K mg base (L2.CX P w) 3 f fd (["pool"] : List Str) (spM K (dsLarge15)) := by
  refine F.okX sc__law_large (fun vs H Q E h => ?_) (fun cdv W outer s H vs Q E hr h => ?_)
  · refine spM_len (fun es ds Q X h => ?_) h
    obtain ⟨rfl, _⟩ := h; rfl
  · have nd := sc__law_large.nd
    have hu := hr.units
    refine ⟨_, by exact (pss_cons (ps_st 1 nd (pe_op oa_add pe_int (pe_fn C__law_draw (hr.mono (by first | decide | omega)) passL (pa_cons (pv 0) (pa_cons pe_int pa_nil)))))
        (pss_cons (ps_st 2 nd (pe_fn C__law_draw (hr.mono (by first | decide | omega)) passL (pa_cons (pv 0) (pa_cons pe_int pa_nil))))
        (pss_cons (ps_st 3 nd (pe_fn C__law_wants (hr.mono (by first | decide | omega)) passL (pa_cons (pv 0) (pa_cons (pv 1) (pa_cons pe_int pa_nil)))))
        (pss_cons (ps_st 4 nd (pe_fn C__law_comings (hr.mono (by first | decide | omega)) passL (pa_cons (pv 0) (pa_cons pe_int (pa_cons (pv 1) pa_nil)))))
        (pss_one (ps_ret (pe_lst (pa_cons (pv 3) (pa_cons (pv 4) (pa_cons (pv 2) (pa_cons (pe_fn C__law_cut (hr.mono (by first | decide | omega)) passL (pa_cons (pe_fn C__law_rows (hr.mono (by first | decide | omega)) passL (pa_cons (pv 0) (pa_cons (pv 1) (pa_cons (pv 4) (pa_cons (pv 2) (pa_cons pe_int pa_nil)))))) (pa_cons (pv 3) pa_nil))) pa_nil))))))))))), ?_⟩
    refine enterM h (fun pa => (DS.seq (DS.asg (DE.op Op2.add (DE.c fun _ => .int _) (DE.callM0 (DA.cons (DE.var 0) (DA.cons (DE.c fun _ => .int _) DA.nil)))))
        (DS.seq (DS.asg (DE.callM0 (DA.cons (DE.var 0) (DA.cons (DE.c fun _ => .int _) DA.nil))))
        (DS.seq (DS.asg (DE.callM0 (DA.cons (DE.var 0) (DA.cons (DE.var 1) (DA.cons (DE.c fun _ => .int _) DA.nil)))))
        (DS.seq (DS.asg (DE.callM0 (DA.cons (DE.var 0) (DA.cons (DE.c fun _ => .int _) (DA.cons (DE.var 1) DA.nil)))))
        (DS.ret (DE.lst (DA.cons (DE.var 3) (DA.cons (DE.var 4) (DA.cons (DE.var 2) (DA.cons (DE.call0 (DA.cons (DE.callM0 (DA.cons (DE.var 0) (DA.cons (DE.var 1) (DA.cons (DE.var 4) (DA.cons (DE.var 2) (DA.cons (DE.c fun _ => .int _) DA.nil)))))) (DA.cons (DE.var 3) DA.nil))) DA.nil))))))))))) (c := 4) (fun es ds Q X h => ?_)
    obtain ⟨rfl, hp, k⟩ := h
    refine ⟨rfl, ?_⟩
    walk_at "d"
    refine ⟨24, rfl, hp, by omega, by omega, fun n p n0 n1 hp => ?_⟩
    obtain ⟨n, rfl⟩ := Int.eq_ofNat_of_zero_le n0
    walk_at "d"
    refine ⟨13, rfl, hp, by omega, by omega, fun g p g0 g1 hp => ?_⟩
    obtain ⟨g, rfl⟩ := Int.eq_ofNat_of_zero_le g0
    walk_at "d"
    rw [show (1 : Int) + (n : Nat) = ((n + 1 : Nat) : Int) by omega]
    refine ⟨n + 1, 4, rfl, hp, by omega, by omega, by omega, fun p ns hp hl hb => ?_⟩
    refine ⟨trivial, ?_⟩
    walk_at "d"
    refine ⟨7, _, rfl, hp, by omega, by omega, by omega, fun p cs hp hl2 hb2 => ?_⟩
    refine ⟨trivial, ?_⟩
    walk_at "d"
    refine ⟨n + 1, cs, g, 3, rfl, hp, by omega, by omega, by omega, by omega, by omega, fun p rows hp hrl hf => ?_⟩
    refine ⟨trivial, ?_⟩
    walk_at "d"
    refine ⟨rows, ns, rfl, by omega, by omega, fun z hz => (hb z hz).1, ?_⟩
    refine ⟨trivial, ?_⟩
    walk_at "d"
    have hgw : gW ns := ⟨by omega, fun z hz => by have := hb z hz; omega⟩
    obtain ⟨a, b, c⟩ := cutR_fit hf (by omega) hgw
    exact k p ns cs g _ hp ⟨hgw, by omega, fun z hz => by have := hb2 z hz; omega, by omega⟩ a b c
end
end Nk
namespace Nk
open PySem L2 DL Hse
local macro_rules | `(tactic| walk_at "s") => `(tactic| try simp (decide := true) only [L2.cxK, L2.s_seq, L2.s_next, L2.s_brk, L2.s_cont, L2.s_drop, L2.s_ret, L2.s_retN, L2.s_ifS, L2.s_br1, L2.s_br0, L2.s_asg, L2.s_asI, L2.s_asB, L2.s_asN, L2.s_asS, L2.s_asR, L2.s_gName, L2.s_gSub, L2.s_var, L2.s_C, L2.s_op, L2.s_un, L2.s_chain, L2.s_test, L2.s_B, L2.s_and, L2.s_aB1, L2.s_aB0, L2.s_or, L2.s_oB1, L2.s_oB0, L2.s_not, L2.s_andV, L2.s_aE1, L2.s_aE0, L2.s_orV, L2.s_oE1, L2.s_oE0, L2.s_notV, L2.s_nE, L2.s_if, L2.s_iE1, L2.s_iE0, L2.s_tr, L2.s_trB, L2.s_trI, L2.s_trN, L2.s_nil, L2.s_cons, L2.s_CB, L2.s_call, L2.s_callS, L2.s_sl, L2.s_part, L2.s_noPart, L2.s_lst, L2.s_mk, L2.s_xf, L2.s_for, L2.s_lc, L2.s_rng1, L2.s_rng2, L2.s_rng3, L2.s_enum, L2.s_zip, L2.s_zip3, L2.s_yes, L2.s_lstRg, L2.s_lcC1, L2.s_lcC0, L2.s_mkK, L2.s_meth, L2.s_prop, L2.s_fld, L2.s_stF, L2.s_cv, L2.s_enumA, L2.s_enumO, L2.s_own, L2.s_aug, L2.v_aug, L2.s_augS, L2.s_seqI, L2.s_tup, L2.s_BM, L2.s_BM0, L2.v_addI, L2.v_subI, L2.v_mulI, L2.v_divI, L2.v_modI, L2.v_powI, L2.v_negI, L2.v_cmp, L2.v_eqI, L2.v_eqS, L2.v_neS, L2.v_neI, L2.v_isN, L2.v_isB, L2.v_isnotN, L2.v_isnotB, L2.v_int, L2.v_abs, L2.v_max2, L2.v_min2, L2.le_line, List.set_cons_succ, List.set_cons_zero, List.getElem?_cons_succ, List.getElem?_cons_zero, Option.some.injEq, exists_eq_left', V.bl.injEq, V.int.injEq, true_and, and_true, Bool.not_true, Bool.not_false, if_true, if_false, Bool.false_eq_true, List.append_nil, reduceCtorEq, decide_true, decide_false, ne_eq, not_false_eq_true, Int.reduceToNat, Int.reducePow, Int.reduceMul, Int.reduceAdd, Int.reduceSub, Int.reduceNeg, Nat.reduceAdd, List.length_cons, List.length_nil, List.nil_append, List.cons_append])
local macro_rules | `(tactic| walk_at "d") => `(tactic| try simp (decide := true) (implicitDefEqProofs := false) only [DL.q_0, DL.q_1, DL.q_2, DL.q_3, DL.q_4, DL.q_5, DL.q_6, DL.q_7, DL.q_8, DL.q_9, DL.q_10, DL.q_11, DL.q_12, DL.q_13, DL.q_14, DL.q_15, DL.q_16, DL.q_17, DL.q_18, DL.q_19, DL.q_20, DL.q_21, DL.q_22, DL.q_23, DL.q_24, DL.q_25, DL.q_26, DL.q_27, DL.q_28, DL.q_29, DL.q_30, DL.q_31, DL.q_32, DL.q_33, DL.q_34, DL.o_0, DL.o_1, DL.o_2, DL.o_3, DL.o_4, DL.o_5, DL.o_6, DL.o_7, DL.o_8, DL.o_9, DL.o_10, DL.o_11, DL.o_19, DL.o_12, DL.o_13, DL.o_14, DL.o_15, DL.o_16, DL.o_17, DL.o_18, DL.clo_li, DL.noLs_li, List.map_cons, List.map_nil, DL.dCallT, DL.dCallT0, DL.dTupO, DL.dMv, DL.o_20, DL.o_21, DL.o_22, DL.noL, DL.noLs, DL.noLf, DL.noX, DL.x_0, DL.x_1, DL.x_2, DL.x_3, DL.x_4, DL.x_5, DL.x_6, DL.iZpO, DL.zpOK, DL.y_0, DL.y_1, DL.y_2, DL.y_3, DL.y_4, DL.y_5, DL.y_6, DL.y_7, DL.y_8, DL.y_9, DL.y_10, DL.y_11, DL.y_12, DL.y_13, DL.y_14, DL.y_15, DL.dOp, DL.dUn, DL.dVar, DL.dC, DL.dRaw, DL.dTest, DL.dTr, DL.dAnd, DL.dOr, DL.dNot, DL.dYes, DL.dAndV, DL.dOrV, DL.dNotV, DL.dIf, DL.dChain, DL.dNil, DL.dCons, DL.dLst, DL.dTup, DL.dCB, DL.dSl, DL.dPart, DL.dNoPart, DL.dLr, DL.dApp, DL.dExt, DL.iSeqD, DL.iRg1, DL.iRg2, DL.iRg3, DL.iEnD, DL.iZpD, DL.iOwnD, DL.iEnO, DL.dLc, DL.dFld, DL.dCall, DL.dCall0, DL.dCallM, DL.dCallM0, DL.dMkK, DL.dMkK0, DL.dProp, DL.dMeth, DL.dMeth0, DL.dLenO, DL.e_br1, DL.e_br0, DL.e_aK1, DL.e_aK0, DL.e_oK1, DL.e_oK0, DL.e_aV1, DL.e_aV0, DL.e_oV1, DL.e_oV0, DL.e_if1, DL.e_if0, DL.e_ch1, DL.e_ch0, DL.e_lc1, DL.e_lc0, DL.intsOf_li, DL.li_len, DL.z_0, DL.z_1, DL.z_2, DL.z_3, DL.z_4, DL.z_5, DL.z_6, DL.z_7, DL.z_8, DL.z_9, DL.z_10, DL.z_11, DL.z_12, DL.z_13, DL.z_14, DL.z_15, DL.z_16, DL.z_17, DL.z_18, DL.z_19, DL.z_20, DL.z_21, DL.z_22, DL.z_23, DL.z_24, DL.z_25, DL.z_26, DL.z_27, DL.z_28, DL.z_29, DL.z_30, DL.z_31, DL.z_32, DL.z_33, DL.z_34, DL.z_35, DL.z_36, DL.z_37, DL.z_38, DL.z_39, DL.z_40, DL.z_41, DL.z_42, DL.z_43, DL.z_44, DL.z_45, DL.z_46, DL.z_47, DL.z_48, DL.z_49, DL.z_50, DL.z_51, DL.z_52, DL.z_53, DL.z_54, DL.z_55, DL.z_56, DL.z_57, DL.z_58, DL.z_59, DL.z_60, DL.z_61, DL.z_62, DL.z_63, DL.z_64, DL.z_65, DL.z_66, DL.z_67, DL.z_68, DL.z_69, DL.z_70, DL.z_71, DL.z_72, DL.z_73, DL.z_74, DL.z_75, DL.z_76, DL.z_77, DL.z_78, DL.z_79, DL.z_80, DL.z_81, DL.z_82, DL.z_83, DL.z_84, DL.z_85, DL.z_86, DL.z_87, DL.z_88, DL.z_89, DL.z_90, DL.z_91, DL.z_92, DL.z_93, DL.z_94, DL.z_95, DL.z_96, DL.z_97, DL.z_98, DL.z_99, DL.z_100, DL.z_101, DL.z_102, DL.z_103, DL.z_104, DL.z_105, DL.z_106, DL.z_107, DL.z_108, DL.z_109, DL.z_110, DL.z_111, DL.z_112, DL.z_113, DL.z_114, DL.z_115, DL.z_116, DL.z_117, DL.z_118, DL.z_119, DL.z_120, DL.z_121, DL.z_122, DL.z_123, DL.z_124, DL.z_125, DL.z_126, DL.z_127, DL.z_128, DL.z_129, DL.z_130, DL.z_131, DL.z_132, DL.z_133, DL.z_134, DL.z_135, DL.z_136, DL.z_137, DL.z_138, DL.z_139, DL.z_140, DL.z_141, DL.z_142, DL.z_143, DL.z_144, DL.z_145, DL.z_146, DL.z_147, DL.z_148, DL.z_149, DL.z_150, DL.z_151, DL.z_152, DL.z_153, DL.z_154, DL.z_155, DL.z_156, DL.z_157, DL.z_158, DL.z_159, DL.z_160, DL.z_161, DL.z_162, DL.z_163, DL.z_164, DL.z_165, DL.z_166, DL.z_167, DL.z_168, DL.z_169, DL.z_170, DL.z_171, DL.z_172, DL.z_173, DL.z_174, DL.z_175, List.set_cons_zero, List.set_cons_succ, List.getElem?_cons_zero, List.getElem?_cons_succ, List.length_cons, List.length_nil, List.length_set, Option.bind_some, Option.bind_none, List.map_cons, List.map_nil, List.nil_append, List.cons_append, List.append_nil, List.getD_cons_zero, List.getD_cons_succ, DL.lk_hit, DL.lk_miss, DL.lk_nil, DL.z_176, DL.bq_t, DL.bq_f, decide_true, decide_false, true_and, and_true, Bool.not_true, Bool.not_false, if_true, ite_true, ite_false, Nat.zero_add, Nat.add_zero, Nat.reduceAdd, Nat.reduceLT, Int.reduceLT, Int.reduceLE, Int.reduceNeg, Int.reduceEq, Int.reduceToNat, reduceIte, List.reduceReplicate, List.isEmpty_cons, List.isEmpty_nil, Int.reduceAdd, Int.reduceSub, Int.reduceMul, Int.reducePow, Bool.false_eq_true, String.reduceEq, String.reduceBEq, Bool.or_false, Bool.or_true, Bool.false_or, Bool.true_or, or_true, true_or, or_false, false_or])
section
variable {P : Program} {w : World} {K : PySem.W.Frag} {mg : Str → Option Value} {base : Heap} {A : Ad}
abbrev s__law_steepest : Stmt := topS 50
theorem sc__law_steepest : FnScope (["house", "parts", "order", "plans", "handed", "found", "size", "group", "kept", "person", "due", "plan"] : List Str) (["house", "parts", "order", "plans"] : List Str) (defScope s__law_steepest) := ⟨rfl, rfl, rfl, by decide +kernel, rfl, by decide +kernel, by decide +kernel⟩
theorem ok__law_steepest {f : Addr} {fd : FuncData} (F : Fun K "_law_steepest" "_law_steepest" s__law_steepest f fd) (B : Blt mg) (C_order_counts : FnAt P w K mg base 10 "order_counts" (["house", "order"] : List Str) (spP K (dsOcnt A))) (C__law_ints : FnAt P w K mg base 2 "_law_ints" (["xs"] : List Str) (spP K (dsIntsL))) (C__law_same : FnAt P w K mg base (2 + 3) "_law_same" (["got", "due"] : List Str) (spP K (dsSame (2 + 1)))) (C__law_first : FnAt P w K mg base 1 "_law_first" (["days", "starts", "gap", "people"] : List Str) (spP K (dsFirstL))) (C_most_of : FnAt P w K mg base 7 "most_of" (["house", "people"] : List Str) (spP K (dsMost A))) : FnOk P w K mg base (L2.CX P w) 11 f fd (["house", "parts", "order", "plans"] : List Str) (spP K (dsSteepL A)) := by
  refine F.okX sc__law_steepest (fun vs H Q E h => ?_) (fun cdv W outer s H vs Q E hr h => ?_)
  · refine spP_len (fun ds Q X h => ?_) h
    obtain ⟨ns, cs, r, ps, rest, pls, rfl, _⟩ := h; rfl
  · have nd := sc__law_steepest.nd
    have hu := hr.units
    refine ⟨_, by exact (pss_cons (ps_st 4 nd (pe_callTy ca_list (by rfl) B.list bt_list (pa_cons (pv 2) pa_nil)))
        (pss_cons (ps_st 5 nd (pe_fn C_order_counts (hr.mono (by first | decide | omega)) passL (pa_cons (pv 0) (pa_cons (pv 4) pa_nil))))
        (pss_cons (ps_if (PW.pt (pw_or (pt_not (pt_tr (pe_callB call_isi (by rfl) B.isinstance bt_isinstance (pa_cons (pv 5) (pa_cons (pe_bltn (v := .ty "list") (by rfl) B.list bt_list rfl) pa_nil))))) (pw_or (pt_cmpR (oa_ne hu) (pe_callB ca_len (by rfl) B.len bt_len (pa_cons (pv 5) pa_nil)) (pe_callB ca_len (by rfl) B.len bt_len (pa_cons (pv 2) pa_nil)) (nomark _)) (pw_or1 (pt_not (pt_tr (pe_fn C__law_ints (hr.mono (by first | decide | omega)) passL (pa_cons (pv 5) pa_nil))))))))
        (pss_one (ps_ret pe_bl))
        pss_nil)
        (pss_cons (ps_if (pt_not (pt_tr (pe_fn C__law_same (hr.mono (by first | decide | omega)) passL (pa_cons (pv 4) (pa_cons (pv 2) pa_nil)))))
        (pss_one (ps_ret pe_bl))
        pss_nil)
        (pss_cons (ps_for (passes_of rfl) rfl (pi_range1 rfl B.range (pa_cons (pe_op oa_add (pe_callB ca_len (by rfl) B.len bt_len (pa_cons (pv 2) pa_nil)) pe_int) pa_nil)) (pg_n 6 nd)
        (pss_cons (ps_st 7 nd (pe_slice oa_sl (pv 2) po_none (po_some (pv 6))))
        (pss_cons (ps_st 8 nd (pe_callB (cr_sumA rfl) (by rfl) B.sum bt_sum (pa_cons (pe_lc (own := [("person", 9)]) (g := gName 9) (tt := tYes) rfl nd (pi_seq (pv 7)) (blkOk_by (N := (["house", "parts", "order", "plans", "handed", "found", "size", "group", "kept", "person", "due", "plan"] : List Str)) (sc := defScope (topS 50)) (by decide +kernel)) (fun _ _ _ _ _ => (pg_n 9 nd)) (fun _ _ _ _ _ => pts_nil) (fun _ _ _ _ _ => (pe_ix (ixK (K := K) (r := aIx) oa_ix rfl) (pv 5) (pv 9) (fun _ _ => rfl)))) pa_nil)))
        (pss_cons (ps_st 10 nd (pe_callB (cr_sumA rfl) (by rfl) B.sum bt_sum (pa_cons (pe_fn C__law_first (hr.mono (by first | decide | omega)) passL (pa_cons (pe_ix oa_ix (pv 1) pe_int (fun _ _ => rfl)) (pa_cons (pe_ix oa_ix (pv 1) pe_int (fun _ _ => rfl)) (pa_cons (pe_ix oa_ix (pv 1) pe_int (fun _ _ => rfl)) (pa_cons (pv 7) pa_nil))))) pa_nil)))
        (pss_cons (ps_if (PW.pt (pw_or (pt_cmpR (oa_ne hu) (pv 8) (pv 10) (nomark _)) (pw_or1 (pt_not (pt_tr (pe_fn C__law_same (hr.mono (by first | decide | omega)) passL (pa_cons (pe_fn C_most_of (hr.mono (by first | decide | omega)) passL (pa_cons (pv 0) (pa_cons (pe_callTy ca_list (by rfl) B.list bt_list (pa_cons (pv 7) pa_nil)) pa_nil))) (pa_cons (pv 10) pa_nil))))))))
        (pss_one (ps_ret pe_bl))
        pss_nil)
        (pss_one (ps_for (passes_of rfl) rfl (pi_seq (pv 3)) (pg_n 11 nd)
        (pss_one (ps_if (pt_cmpR oa_gt (pe_callB (cr_sumA rfl) (by rfl) B.sum bt_sum (pa_cons (pe_lc (own := [("person", 9)]) (g := gName 9) (tt := tYes) rfl nd (pi_seq (pv 7)) (blkOk_by (N := (["house", "parts", "order", "plans", "handed", "found", "size", "group", "kept", "person", "due", "plan"] : List Str)) (sc := defScope (topS 50)) (by decide +kernel)) (fun _ _ _ _ _ => (pg_n 9 nd)) (fun _ _ _ _ _ => pts_nil) (fun _ _ _ _ _ => (pe_ix (ixK (K := K) (r := aIx) oa_ix rfl) (pv 11) (pv 9) (fun _ _ => rfl)))) pa_nil)) (pv 8) (nomark _))
        (pss_one (ps_ret pe_bl))
        pss_nil)))))))))
        (pss_one (ps_ret pe_bl))))))), ?_⟩
    refine enterP h (fun pa => (DS.seq (DS.asg (DE.cb CallO.list (DA.cons (DE.var 2) DA.nil)))
        (DS.seq (DS.asg (DE.call0 (DA.cons (DE.var 0) (DA.cons (DE.var 4) DA.nil))))
        (DS.seq (DS.ifs (DT.or (DT.not (DT.tr (DE.cb CallO.isi (DA.cons (DE.var 5) (DA.cons (DE.c fun _ => .ty _) DA.nil))))) (DT.or (DT.test (DE.op Op2.ne (DE.cb CallO.len (DA.cons (DE.var 5) DA.nil)) (DE.cb CallO.len (DA.cons (DE.var 2) DA.nil)))) (DT.not (DT.tr (DE.call0 (DA.cons (DE.var 5) DA.nil))))))
        (DS.ret (DE.c fun _ => .bl _))
        DS.next)
        (DS.seq (DS.ifs (DT.not (DT.tr (DE.call0 (DA.cons (DE.var 4) (DA.cons (DE.var 2) DA.nil)))))
        (DS.ret (DE.c fun _ => .bl _))
        DS.next)
        (DS.seq (DS.for_ (DI.rg1 (DA.cons (DE.op Op2.add (DE.cb CallO.len (DA.cons (DE.var 2) DA.nil)) (DE.c fun _ => .int _)) DA.nil)) (DG.name 6)
        (DS.seq (DS.asg (DE.sl (DE.var 2) DO.no (DO.part (DE.var 6))))
        (DS.seq (DS.asg (DE.cb CallO.sum (DA.cons (DE.lc (DI.seq (DE.var 7)) (DG.name 9) (by decide) DT.yes (DE.op Op2.ix (DE.var 5) (DE.var 9))) DA.nil)))
        (DS.seq (DS.asg (DE.cb CallO.sum (DA.cons (DE.call0 (DA.cons (DE.op Op2.ix (DE.var 1) (DE.c fun _ => .int _)) (DA.cons (DE.op Op2.ix (DE.var 1) (DE.c fun _ => .int _)) (DA.cons (DE.op Op2.ix (DE.var 1) (DE.c fun _ => .int _)) (DA.cons (DE.var 7) DA.nil))))) DA.nil)))
        (DS.seq (DS.ifs (DT.or (DT.test (DE.op Op2.ne (DE.var 8) (DE.var 10))) (DT.not (DT.tr (DE.call0 (DA.cons (DE.call0 (DA.cons (DE.var 0) (DA.cons (DE.cb CallO.list (DA.cons (DE.var 7) DA.nil)) DA.nil))) (DA.cons (DE.var 10) DA.nil))))))
        (DS.ret (DE.c fun _ => .bl _))
        DS.next)
        (DS.for_ (DI.seq (DE.var 3)) (DG.name 11)
        (DS.ifs (DT.test (DE.op Op2.cmp (DE.cb CallO.sum (DA.cons (DE.lc (DI.seq (DE.var 7)) (DG.name 9) (by decide) DT.yes (DE.op Op2.ix (DE.var 11) (DE.var 9))) DA.nil)) (DE.var 8)))
        (DS.ret (DE.c fun _ => .bl _))
        DS.next)))))))
        (DS.ret (DE.c fun _ => .bl _)))))))) (c := 8) (fun ds Q X h => ?_)
    obtain ⟨ns, cs, r, ps, rest, pls, rfl, hg, ho, hpl, hpf, k⟩ := h
    refine ⟨rfl, ?_⟩
    have l1 := hg.w.1
    have l2 := hg.p
    have l3 := ho.2
    have l4 := hg.r
    have hn : ∀ n ∈ ns, 0 ≤ n := fun n hn => (hg.w.2 n hn).1
    have okl : (ocnt ns cs r ps).length = cs.length := by simp [ocnt]
    walk_at "d"
    refine ⟨ns, cs, r, ps, rfl, hg, by omega, ?_⟩
    rw [ordK_ok ho]
    refine ⟨trivial, ?_⟩
    walk_at "d"
    rw [okl, l3]
    walk_at "d"
    refine ⟨_, _, rfl, .inl rfl, ?_⟩
    refine ⟨trivial, ?_⟩
    walk_at "d"
    refine ⟨_, _, rfl, ps_li (by omega), ps_li (by omega), ?_⟩
    rw [eqX_self]
    refine ⟨trivial, ?_⟩
    walk_at "d"
    refine ⟨by omega, ?_⟩
    refine ⟨fun i δ => ∃ v1 v2 v3 v5 v6, δ = [.val (hD A ns cs r), .val (.lst (partD ns cs r ++ rest)), .val (.lst (li ps)), .val (.lst (lls pls)), .val (.lst (li ps)), .val (.lst (li (ocnt ns cs r ps))), v1, v2, v3, .dead, v5, v6], ⟨_, _, _, _, _, rfl⟩, ?_, ?_⟩
    · rintro i d δ hd ⟨v1, v2, v3, v5, v6, rfl⟩
      obtain ⟨hi, rfl⟩ := rng_li hd
      have hi : i ≤ ps.length := by omega
      have hin : ∀ p ∈ ps.take i, inR cs.length p := fun p hp => ho.inn p (List.mem_of_mem_take hp)
      have hnd : (ps.take i).Nodup := ho.nd.sublist (List.take_sublist _ _)
      have hlen : (ps.take i).length = i := by rw [List.length_take]; omega
      have hfl : flt cs.length [] (ps.take i) = none := flt_none.mpr ⟨hin, hnd, by simp⟩
      rw [Int.zero_add]
      walk_at "d"
      rw [cut_lo hi]
      walk_at "d"
      refine lc_map (fun t => .int ((ocnt ns cs r ps).getD ((ps.take i).getD t 0).toNat 0)) (by rw [li_len]; omega) rfl ?_ ?_
      · intro t d N hd hN
        obtain ⟨ht, rfl⟩ := li_at hd
        obtain ⟨h0, h1⟩ := hin _ (li_mem ht)
        walk_at "d"
        refine ⟨_, atI_li h0 (by omega), ?_⟩
        exact hN _ rfl
      rw [li_len, take_li (f := fun p => (ocnt ns cs r ps).getD p.toNat 0)]
      walk_at "d"
      rw [group_sum ho hn hi]
      refine ⟨_, at0, _, at1, _, at2, ?_⟩
      refine ⟨ns, cs, ps.take i, r, rfl, by omega, by omega, by omega, hin, ?_⟩
      rw [show gr ns ((ps.take i).map fun p => cs.getD p.toNat 0) r ns.length = fc ns cs (ps.take i) r from rfl]
      refine ⟨trivial, ?_⟩
      walk_at "d"
      refine ⟨ns, cs, r, ps.take i, rfl, hg, by omega, ?_⟩
      rw [hfl]
      refine ⟨trivial, ?_⟩
      walk_at "d"
      refine ⟨_, _, rfl, trivial, trivial, ?_⟩
      rw [eqX_self]
      refine ⟨trivial, ?_⟩
      walk_at "d"
      refine ⟨fun j δ => ∃ v11, δ = [.val (hD A ns cs r), .val (.lst (partD ns cs r ++ rest)), .val (.lst (li ps)), .val (.lst (lls pls)), .val (.lst (li ps)), .val (.lst (li (ocnt ns cs r ps))), .val (.int (i : Nat)), .val (.lst (li (ps.take i))), .val (.int (fc ns cs (ps.take i) r).sum), .dead, .val (.int (fc ns cs (ps.take i) r).sum), v11], ⟨_, rfl⟩, ?_, ?_⟩
      · rintro j d δ hd ⟨v11, rfl⟩
        obtain ⟨hj, rfl⟩ := lls_get hd
        obtain ⟨rows, hf, ep⟩ := hpf j hj
        have key := most_fc hf hnd hin
        rw [ep]
        have cl : (cntL rows cs.length).length = cs.length := by simp [cntL]
        walk_at "d"
        refine lc_map (fun t => .int ((cntL rows cs.length).getD ((ps.take i).getD t 0).toNat 0)) (by rw [li_len]; omega) rfl ?_ ?_
        · intro t d N hd hN
          obtain ⟨ht, rfl⟩ := li_at hd
          obtain ⟨h0, h1⟩ := hin _ (li_mem ht)
          walk_at "d"
          refine ⟨_, atI_li h0 (by omega), ?_⟩
          exact hN _ rfl
        rw [li_len, take_li (f := fun p => (cntL rows cs.length).getD p.toNat 0), cnt_take hin]
        walk_at "d"
        rw [decide_eq_false (show ¬ ((fc ns cs (ps.take i) r).sum < ((ps.take i).map fun p => (cnt rows p : Int)).sum) by omega)]
        walk_at "d"
        exact ⟨_, rfl⟩
      · rintro δ ⟨v11, rfl⟩
        exact ⟨_, _, _, _, _, rfl⟩
    · rintro δ ⟨v1, v2, v3, v5, v6, rfl⟩
      walk_at "d"
      exact k
end
end Nk
namespace Nk
open PySem L2 DL Hse
local macro_rules | `(tactic| walk_at "s") => `(tactic| try simp (decide := true) only [L2.cxK, L2.s_seq, L2.s_next, L2.s_brk, L2.s_cont, L2.s_drop, L2.s_ret, L2.s_retN, L2.s_ifS, L2.s_br1, L2.s_br0, L2.s_asg, L2.s_asI, L2.s_asB, L2.s_asN, L2.s_asS, L2.s_asR, L2.s_gName, L2.s_gSub, L2.s_var, L2.s_C, L2.s_op, L2.s_un, L2.s_chain, L2.s_test, L2.s_B, L2.s_and, L2.s_aB1, L2.s_aB0, L2.s_or, L2.s_oB1, L2.s_oB0, L2.s_not, L2.s_andV, L2.s_aE1, L2.s_aE0, L2.s_orV, L2.s_oE1, L2.s_oE0, L2.s_notV, L2.s_nE, L2.s_if, L2.s_iE1, L2.s_iE0, L2.s_tr, L2.s_trB, L2.s_trI, L2.s_trN, L2.s_nil, L2.s_cons, L2.s_CB, L2.s_call, L2.s_callS, L2.s_sl, L2.s_part, L2.s_noPart, L2.s_lst, L2.s_mk, L2.s_xf, L2.s_for, L2.s_lc, L2.s_rng1, L2.s_rng2, L2.s_rng3, L2.s_enum, L2.s_zip, L2.s_zip3, L2.s_yes, L2.s_lstRg, L2.s_lcC1, L2.s_lcC0, L2.s_mkK, L2.s_meth, L2.s_prop, L2.s_fld, L2.s_stF, L2.s_cv, L2.s_enumA, L2.s_enumO, L2.s_own, L2.s_aug, L2.v_aug, L2.s_augS, L2.s_seqI, L2.s_tup, L2.s_BM, L2.s_BM0, L2.v_addI, L2.v_subI, L2.v_mulI, L2.v_divI, L2.v_modI, L2.v_powI, L2.v_negI, L2.v_cmp, L2.v_eqI, L2.v_eqS, L2.v_neS, L2.v_neI, L2.v_isN, L2.v_isB, L2.v_isnotN, L2.v_isnotB, L2.v_int, L2.v_abs, L2.v_max2, L2.v_min2, L2.le_line, List.set_cons_succ, List.set_cons_zero, List.getElem?_cons_succ, List.getElem?_cons_zero, Option.some.injEq, exists_eq_left', V.bl.injEq, V.int.injEq, true_and, and_true, Bool.not_true, Bool.not_false, if_true, if_false, Bool.false_eq_true, List.append_nil, reduceCtorEq, decide_true, decide_false, ne_eq, not_false_eq_true, Int.reduceToNat, Int.reducePow, Int.reduceMul, Int.reduceAdd, Int.reduceSub, Int.reduceNeg, Nat.reduceAdd, List.length_cons, List.length_nil, List.nil_append, List.cons_append])
local macro_rules | `(tactic| walk_at "d") => `(tactic| try simp (decide := true) (implicitDefEqProofs := false) only [DL.q_0, DL.q_1, DL.q_2, DL.q_3, DL.q_4, DL.q_5, DL.q_6, DL.q_7, DL.q_8, DL.q_9, DL.q_10, DL.q_11, DL.q_12, DL.q_13, DL.q_14, DL.q_15, DL.q_16, DL.q_17, DL.q_18, DL.q_19, DL.q_20, DL.q_21, DL.q_22, DL.q_23, DL.q_24, DL.q_25, DL.q_26, DL.q_27, DL.q_28, DL.q_29, DL.q_30, DL.q_31, DL.q_32, DL.q_33, DL.q_34, DL.o_0, DL.o_1, DL.o_2, DL.o_3, DL.o_4, DL.o_5, DL.o_6, DL.o_7, DL.o_8, DL.o_9, DL.o_10, DL.o_11, DL.o_19, DL.o_12, DL.o_13, DL.o_14, DL.o_15, DL.o_16, DL.o_17, DL.o_18, DL.clo_li, DL.noLs_li, List.map_cons, List.map_nil, DL.dCallT, DL.dCallT0, DL.dTupO, DL.dMv, DL.o_20, DL.o_21, DL.o_22, DL.noL, DL.noLs, DL.noLf, DL.noX, DL.x_0, DL.x_1, DL.x_2, DL.x_3, DL.x_4, DL.x_5, DL.x_6, DL.iZpO, DL.zpOK, DL.y_0, DL.y_1, DL.y_2, DL.y_3, DL.y_4, DL.y_5, DL.y_6, DL.y_7, DL.y_8, DL.y_9, DL.y_10, DL.y_11, DL.y_12, DL.y_13, DL.y_14, DL.y_15, DL.dOp, DL.dUn, DL.dVar, DL.dC, DL.dRaw, DL.dTest, DL.dTr, DL.dAnd, DL.dOr, DL.dNot, DL.dYes, DL.dAndV, DL.dOrV, DL.dNotV, DL.dIf, DL.dChain, DL.dNil, DL.dCons, DL.dLst, DL.dTup, DL.dCB, DL.dSl, DL.dPart, DL.dNoPart, DL.dLr, DL.dApp, DL.dExt, DL.iSeqD, DL.iRg1, DL.iRg2, DL.iRg3, DL.iEnD, DL.iZpD, DL.iOwnD, DL.iEnO, DL.dLc, DL.dFld, DL.dCall, DL.dCall0, DL.dCallM, DL.dCallM0, DL.dMkK, DL.dMkK0, DL.dProp, DL.dMeth, DL.dMeth0, DL.dLenO, DL.e_br1, DL.e_br0, DL.e_aK1, DL.e_aK0, DL.e_oK1, DL.e_oK0, DL.e_aV1, DL.e_aV0, DL.e_oV1, DL.e_oV0, DL.e_if1, DL.e_if0, DL.e_ch1, DL.e_ch0, DL.e_lc1, DL.e_lc0, DL.intsOf_li, DL.li_len, DL.z_0, DL.z_1, DL.z_2, DL.z_3, DL.z_4, DL.z_5, DL.z_6, DL.z_7, DL.z_8, DL.z_9, DL.z_10, DL.z_11, DL.z_12, DL.z_13, DL.z_14, DL.z_15, DL.z_16, DL.z_17, DL.z_18, DL.z_19, DL.z_20, DL.z_21, DL.z_22, DL.z_23, DL.z_24, DL.z_25, DL.z_26, DL.z_27, DL.z_28, DL.z_29, DL.z_30, DL.z_31, DL.z_32, DL.z_33, DL.z_34, DL.z_35, DL.z_36, DL.z_37, DL.z_38, DL.z_39, DL.z_40, DL.z_41, DL.z_42, DL.z_43, DL.z_44, DL.z_45, DL.z_46, DL.z_47, DL.z_48, DL.z_49, DL.z_50, DL.z_51, DL.z_52, DL.z_53, DL.z_54, DL.z_55, DL.z_56, DL.z_57, DL.z_58, DL.z_59, DL.z_60, DL.z_61, DL.z_62, DL.z_63, DL.z_64, DL.z_65, DL.z_66, DL.z_67, DL.z_68, DL.z_69, DL.z_70, DL.z_71, DL.z_72, DL.z_73, DL.z_74, DL.z_75, DL.z_76, DL.z_77, DL.z_78, DL.z_79, DL.z_80, DL.z_81, DL.z_82, DL.z_83, DL.z_84, DL.z_85, DL.z_86, DL.z_87, DL.z_88, DL.z_89, DL.z_90, DL.z_91, DL.z_92, DL.z_93, DL.z_94, DL.z_95, DL.z_96, DL.z_97, DL.z_98, DL.z_99, DL.z_100, DL.z_101, DL.z_102, DL.z_103, DL.z_104, DL.z_105, DL.z_106, DL.z_107, DL.z_108, DL.z_109, DL.z_110, DL.z_111, DL.z_112, DL.z_113, DL.z_114, DL.z_115, DL.z_116, DL.z_117, DL.z_118, DL.z_119, DL.z_120, DL.z_121, DL.z_122, DL.z_123, DL.z_124, DL.z_125, DL.z_126, DL.z_127, DL.z_128, DL.z_129, DL.z_130, DL.z_131, DL.z_132, DL.z_133, DL.z_134, DL.z_135, DL.z_136, DL.z_137, DL.z_138, DL.z_139, DL.z_140, DL.z_141, DL.z_142, DL.z_143, DL.z_144, DL.z_145, DL.z_146, DL.z_147, DL.z_148, DL.z_149, DL.z_150, DL.z_151, DL.z_152, DL.z_153, DL.z_154, DL.z_155, DL.z_156, DL.z_157, DL.z_158, DL.z_159, DL.z_160, DL.z_161, DL.z_162, DL.z_163, DL.z_164, DL.z_165, DL.z_166, DL.z_167, DL.z_168, DL.z_169, DL.z_170, DL.z_171, DL.z_172, DL.z_173, DL.z_174, DL.z_175, List.set_cons_zero, List.set_cons_succ, List.getElem?_cons_zero, List.getElem?_cons_succ, List.length_cons, List.length_nil, List.length_set, Option.bind_some, Option.bind_none, List.map_cons, List.map_nil, List.nil_append, List.cons_append, List.append_nil, List.getD_cons_zero, List.getD_cons_succ, DL.lk_hit, DL.lk_miss, DL.lk_nil, DL.z_176, DL.bq_t, DL.bq_f, decide_true, decide_false, true_and, and_true, Bool.not_true, Bool.not_false, if_true, ite_true, ite_false, Nat.zero_add, Nat.add_zero, Nat.reduceAdd, Nat.reduceLT, Int.reduceLT, Int.reduceLE, Int.reduceNeg, Int.reduceEq, Int.reduceToNat, reduceIte, List.reduceReplicate, List.isEmpty_cons, List.isEmpty_nil, Int.reduceAdd, Int.reduceSub, Int.reduceMul, Int.reducePow, Bool.false_eq_true, String.reduceEq, String.reduceBEq, Bool.or_false, Bool.or_true, Bool.false_or, Bool.true_or, or_true, true_or, or_false, false_or])
section
variable {P : Program} {w : World} {K : PySem.W.Frag} {mg : Str → Option Value} {base : Heap} {A : Ad}
abbrev s_law : Stmt := topS 51
theorem sc_law : FnScope (["script", "pool", "parts", "days", "starts", "many", "house", "order", "other", "rows", "plans"] : List Str) (["script"] : List Str) (defScope s_law) := ⟨rfl, rfl, rfl, by decide +kernel, rfl, by decide +kernel, by decide +kernel⟩
theorem ok_law {f : Addr} {fd : FuncData} (F : Fun K "law" "law" s_law f fd) (B : Blt mg) (C__law_pool : FnAt P w K mg base 1 "_law_pool" (["script", "at"] : List Str) (spP K (dsPool))) (C__law_draw : FnAt P w K mg base 1 "_law_draw" (["pool", "many"] : List Str) (spM K (dsDraw))) (C__law_large : FnAt P w K mg base 3 "_law_large" (["pool"] : List Str) (spM K (dsLarge15))) (C__law_house : FnAt P w K mg base 4 "_law_house" (["pool", "most_nights", "most_people", "most_gap"] : List Str) (spM K (dsHouseL2))) (C__law_mixed : FnAt P w K mg base 2 "_law_mixed" (["pool", "many"] : List Str) (spM K (dsMixN))) (C__law_rows : FnAt P w K mg base 2 "_law_rows" (["pool", "nights", "comings", "gap", "keen"] : List Str) (spM K (dsRowsL))) (C__law_counts : FnAt P w K mg base 1 "_law_counts" (["rows", "people"] : List Str) (spP K (dsCountsL))) (C__law_thin : FnAt P w K mg base 2 "_law_thin" (["pool", "rows"] : List Str) (spM K (dsThinL))) (C__law_cut : FnAt P w K mg base 1 "_law_cut" (["rows", "days"] : List Str) (spP K (dsCutL))) (C__law_steepest : FnAt P w K mg base 11 "_law_steepest" (["house", "parts", "order", "plans"] : List Str) (spP K (dsSteepL A))) (C_order_counts : FnAt P w K mg base 10 "order_counts" (["house", "order"] : List Str) (spP K (dsOcnt A))) (M_Wants : MkAt P w K mg base 1 "Wants" A.c_Wants (spP K (dsMkWants A))) (M_House : MkAtK P w K mg base 3 "House" A.c_House 2 (["rest"] : List Str) (spP K (dsMkHouse A))) : FnOk P w K mg base (L2.CX P w) 14 f fd (["script"] : List Str) (spP K (dsLaw)) := by
  refine F.okX sc_law (fun vs H Q E h => ?_) (fun cdv W outer s H vs Q E hr h => ?_)
  · refine spP_len (fun ds Q X h => ?_) h
    obtain ⟨ns, rfl, _⟩ := h; rfl
  · have nd := sc_law.nd
    have hu := hr.units
    refine ⟨_, by exact (pss_cons (ps_st 1 nd (pe_fn C__law_pool (hr.mono (by first | decide | omega)) passL (pa_cons (pv 0) (pa_cons pe_int pa_nil))))
        (pss_cons (ps_if (pt_cmpR (oa_eq hu) (pe_fn C__law_draw (hr.mono (by first | decide | omega)) passL (pa_cons (pv 1) (pa_cons pe_int pa_nil))) pe_int (nomark _))
        (pss_one (ps_st 2 nd (pe_fn C__law_large (hr.mono (by first | decide | omega)) passL (pa_cons (pv 1) pa_nil))))
        (pss_one (ps_st 2 nd (pe_fn C__law_house (hr.mono (by first | decide | omega)) passL (pa_cons (pv 1) (pa_cons pe_int (pa_cons pe_int (pa_cons pe_int pa_nil))))))))
        (pss_cons (ps_st 3 nd (pe_ix oa_ix (pv 2) pe_int (fun _ _ => rfl)))
        (pss_cons (ps_st 4 nd (pe_ix oa_ix (pv 2) pe_int (fun _ _ => rfl)))
        (pss_cons (ps_st 5 nd (pe_callB ca_len (by rfl) B.len bt_len (pa_cons (pv 4) pa_nil)))
        (pss_cons (ps_st 6 nd (pe_mkK M_House (hr.mono (by first | decide | omega)) passL (pa_cons (pe_mk M_Wants (hr.mono (by first | decide | omega)) passL (pa_cons (pv 3) pa_nil)) (pa_cons (pv 4) pa_nil)) (pk_cons (pe_ix oa_ix (pv 2) pe_int (fun _ _ => rfl)) pk_nil)))
        (pss_cons (ps_st 7 nd (pe_fn C__law_mixed (hr.mono (by first | decide | omega)) passL (pa_cons (pv 1) (pa_cons (pv 5) pa_nil))))
        (pss_cons (ps_st 8 nd (pe_fn C__law_mixed (hr.mono (by first | decide | omega)) passL (pa_cons (pv 1) (pa_cons (pv 5) pa_nil))))
        (pss_cons (ps_st 9 nd (pe_fn C__law_rows (hr.mono (by first | decide | omega)) passL (pa_cons (pv 1) (pa_cons (pe_callB ca_len (by rfl) B.len bt_len (pa_cons (pv 3) pa_nil)) (pa_cons (pv 4) (pa_cons (pe_ix oa_ix (pv 2) pe_int (fun _ _ => rfl)) (pa_cons (pe_op oa_add pe_int (pe_fn C__law_draw (hr.mono (by first | decide | omega)) passL (pa_cons (pv 1) (pa_cons pe_int pa_nil)))) pa_nil)))))))
        (pss_cons (ps_st 10 nd (pe_lst (pa_cons (pe_fn C__law_counts (hr.mono (by first | decide | omega)) passL (pa_cons (pe_fn C__law_thin (hr.mono (by first | decide | omega)) passL (pa_cons (pv 1) (pa_cons (pe_ix oa_ix (pv 2) pe_int (fun _ _ => rfl)) pa_nil))) (pa_cons (pv 5) pa_nil))) (pa_cons (pe_fn C__law_counts (hr.mono (by first | decide | omega)) passL (pa_cons (pe_fn C__law_cut (hr.mono (by first | decide | omega)) passL (pa_cons (pv 9) (pa_cons (pv 3) pa_nil))) (pa_cons (pv 5) pa_nil))) pa_nil))))
        (pss_cons (ps_if (pt_not (pt_tr (pe_fn C__law_steepest (hr.mono (by first | decide | omega)) passL (pa_cons (pv 6) (pa_cons (pv 2) (pa_cons (pv 8) (pa_cons (pv 10) pa_nil)))))))
        (pss_one (ps_ret pe_bl))
        pss_nil)
        (pss_one (ps_ret (pe_fn C__law_steepest (hr.mono (by first | decide | omega)) passL (pa_cons (pv 6) (pa_cons (pv 2) (pa_cons (pv 7) (pa_cons (pe_op oa_add (pv 10) (pe_lst (pa_cons (pe_fn C_order_counts (hr.mono (by first | decide | omega)) passL (pa_cons (pv 6) (pa_cons (pe_callTy ca_list (by rfl) B.list bt_list (pa_cons (pv 8) pa_nil)) pa_nil))) pa_nil))) pa_nil)))))))))))))))))), ?_⟩
    refine enterP h (fun pa => (DS.seq (DS.asg (DE.call0 (DA.cons (DE.var 0) (DA.cons (DE.c fun _ => .int _) DA.nil))))
        (DS.seq (DS.ifs (DT.test (DE.op Op2.eq (DE.callM0 (DA.cons (DE.var 1) (DA.cons (DE.c fun _ => .int _) DA.nil))) (DE.c fun _ => .int _)))
        (DS.asg (DE.callM0 (DA.cons (DE.var 1) DA.nil)))
        (DS.asg (DE.callM0 (DA.cons (DE.var 1) (DA.cons (DE.c fun _ => .int _) (DA.cons (DE.c fun _ => .int _) (DA.cons (DE.c fun _ => .int _) DA.nil)))))))
        (DS.seq (DS.asg (DE.op Op2.ix (DE.var 2) (DE.c fun _ => .int _)))
        (DS.seq (DS.asg (DE.op Op2.ix (DE.var 2) (DE.c fun _ => .int _)))
        (DS.seq (DS.asg (DE.cb CallO.len (DA.cons (DE.var 4) DA.nil)))
        (DS.seq (DS.asg (DE.mkK0 (DA.cons (DE.call0 (DA.cons (DE.var 3) DA.nil)) (DA.cons (DE.var 4) DA.nil)) (DA.cons (DE.op Op2.ix (DE.var 2) (DE.c fun _ => .int _)) DA.nil)))
        (DS.seq (DS.asg (DE.callM0 (DA.cons (DE.var 1) (DA.cons (DE.var 5) DA.nil))))
        (DS.seq (DS.asg (DE.callM0 (DA.cons (DE.var 1) (DA.cons (DE.var 5) DA.nil))))
        (DS.seq (DS.asg (DE.callM0 (DA.cons (DE.var 1) (DA.cons (DE.cb CallO.len (DA.cons (DE.var 3) DA.nil)) (DA.cons (DE.var 4) (DA.cons (DE.op Op2.ix (DE.var 2) (DE.c fun _ => .int _)) (DA.cons (DE.op Op2.add (DE.c fun _ => .int _) (DE.callM0 (DA.cons (DE.var 1) (DA.cons (DE.c fun _ => .int _) DA.nil)))) DA.nil)))))))
        (DS.seq (DS.asg (DE.lst (DA.cons (DE.call0 (DA.cons (DE.callM0 (DA.cons (DE.var 1) (DA.cons (DE.op Op2.ix (DE.var 2) (DE.c fun _ => .int _)) DA.nil))) (DA.cons (DE.var 5) DA.nil))) (DA.cons (DE.call0 (DA.cons (DE.call0 (DA.cons (DE.var 9) (DA.cons (DE.var 3) DA.nil))) (DA.cons (DE.var 5) DA.nil))) DA.nil))))
        (DS.seq (DS.ifs (DT.not (DT.tr (DE.call0 (DA.cons (DE.var 6) (DA.cons (DE.var 2) (DA.cons (DE.var 8) (DA.cons (DE.var 10) DA.nil)))))))
        (DS.ret (DE.c fun _ => .bl _))
        DS.next)
        (DS.ret (DE.call0 (DA.cons (DE.var 6) (DA.cons (DE.var 2) (DA.cons (DE.var 7) (DA.cons (DE.op Op2.add (DE.var 10) (DE.lst (DA.cons (DE.call0 (DA.cons (DE.var 6) (DA.cons (DE.cb CallO.list (DA.cons (DE.var 8) DA.nil)) DA.nil))) DA.nil))) DA.nil)))))))))))))))))) (c := 10) (fun ds Q X h => ?_)
    obtain ⟨sc, rfl, k⟩ := h
    refine ⟨rfl, ?_⟩
    walk_at "d"
    refine ⟨sc, 0, rfl, by decide, fun p hp => ?_⟩
    refine ⟨trivial, ?_⟩
    walk_at "d"
    refine ⟨8, rfl, hp, by omega, by omega, fun x p x0 x1 hp => ?_⟩
    walk_at "d"
    refine c_br (fun c => ?_) (fun c => ?_)
    · walk_at "d"
      refine ⟨rfl, hp, fun p ns cs g rows hp hg hf hrl hrs => ?_⟩
      have l1 := hg.w.1
      have l2 := hg.p
      have l3 := hg.r
      have f0 := fitG_fits hf hrl hrs
      refine ⟨trivial, ?_⟩
      walk_at "d"
      refine ⟨_, rfl, ?_⟩
      walk_at "d"
      refine ⟨_, rfl, ?_⟩
      walk_at "d"
      refine ⟨_, ns, rfl, .inl rfl, hg.w, ?_⟩
      refine ⟨trivial, ?_⟩
      walk_at "d"
      refine ⟨_, rfl, ?_⟩
      walk_at "d"
      refine ⟨_, ns, cs, g, rfl, .inl rfl, hg, ?_⟩
      refine ⟨trivial, ?_⟩
      walk_at "d"
      refine ⟨_, rfl, hp, by omega, fun p m1 hp ho1 => ?_⟩
      have e1 := ho1.2
      refine ⟨trivial, ?_⟩
      walk_at "d"
      refine ⟨_, rfl, hp, by omega, fun p m2 hp ho2 => ?_⟩
      have e2 := ho2.2
      refine ⟨trivial, ?_⟩
      walk_at "d"
      refine ⟨_, rfl, ?_⟩
      walk_at "d"
      refine ⟨3, rfl, hp, by omega, by omega, fun y p y0 y1 hp => ?_⟩
      walk_at "d"
      refine ⟨_, cs, g, _, rfl, hp, by omega, by omega, by omega, by omega, by omega, fun p rw2 hp hl2 hf2 => ?_⟩
      obtain ⟨fa, fb, fc2⟩ := cutR_fit hf2 (by omega) hg.w
      have f2 := fitG_fits fa fb fc2
      refine ⟨trivial, ?_⟩
      walk_at "d"
      refine ⟨_, rfl, ?_⟩
      walk_at "d"
      refine ⟨rows, rfl, hp, by omega, fun j hj => ?_, fun p rs hp hrs1 hrs2 => ?_⟩
      · have := asc_len (hf.asc j hj) (hf.inn j hj)
        omega
      have f1 := fitG_fits (ns := ns) (fitG_sub hf hrs1 hrs2) (by omega) fun j hj => by
        have h1 := (hrs2 j (by omega)).length_le
        have h2 := hrs j hj
        omega
      refine ⟨trivial, ?_⟩
      walk_at "d"
      refine ⟨_, rs, cs.length, rfl, sq2_ll rs, by omega, by omega, ?_⟩
      refine ⟨trivial, ?_⟩
      walk_at "d"
      refine ⟨rw2, ns, rfl, by omega, by omega, fun z hz => (hg.w.2 z hz).1, ?_⟩
      refine ⟨trivial, ?_⟩
      walk_at "d"
      refine ⟨_, cutR rw2 ns, cs.length, rfl, sq2_ll _, by omega, by omega, ?_⟩
      refine ⟨trivial, ?_⟩
      walk_at "d"
      refine ⟨ns, cs, g, m2, [.lst (lls rows)], [cntL rs cs.length, cntL (cutR rw2 ns) cs.length], rfl, hg, ho2, by simp, fun j hj => ?_, ?_⟩
      · match j, hj with
        | 0, _ => exact ⟨_, f1, rfl⟩
        | 1, _ => exact ⟨_, f2, rfl⟩
      refine ⟨trivial, ?_⟩
      walk_at "d"
      refine ⟨ns, cs, g, m2, rfl, hg, by omega, ?_⟩
      rw [ordK_ok ho2]
      refine ⟨trivial, ?_⟩
      walk_at "d"
      refine ⟨ns, cs, g, m1, [.lst (lls rows)], [cntL rs cs.length, cntL (cutR rw2 ns) cs.length, ocnt ns cs g m2], rfl, hg, ho1, by simp, fun j hj => ?_, ?_⟩
      · match j, hj with
        | 0, _ => exact ⟨_, f1, rfl⟩
        | 1, _ => exact ⟨_, f2, rfl⟩
        | 2, _ => exact ⟨_, oRows_fit ho2 (fun n hn => (hg.w.2 n hn).1), ocnt_eq.symm⟩
      refine ⟨trivial, ?_⟩
      walk_at "d"
      exact k
    · walk_at "d"
      refine ⟨8, 5, 4, rfl, hp, by omega, by omega, by omega, by omega, by omega, fun p ns cs g rows hp hg hf hrl hrs _ _ => ?_⟩
      have l1 := hg.w.1
      have l2 := hg.p
      have l3 := hg.r
      have f0 := fitG_fits hf hrl hrs
      refine ⟨trivial, ?_⟩
      walk_at "d"
      refine ⟨_, rfl, ?_⟩
      walk_at "d"
      refine ⟨_, rfl, ?_⟩
      walk_at "d"
      refine ⟨_, ns, rfl, .inl rfl, hg.w, ?_⟩
      refine ⟨trivial, ?_⟩
      walk_at "d"
      refine ⟨_, rfl, ?_⟩
      walk_at "d"
      refine ⟨_, ns, cs, g, rfl, .inl rfl, hg, ?_⟩
      refine ⟨trivial, ?_⟩
      walk_at "d"
      refine ⟨_, rfl, hp, by omega, fun p m1 hp ho1 => ?_⟩
      have e1 := ho1.2
      refine ⟨trivial, ?_⟩
      walk_at "d"
      refine ⟨_, rfl, hp, by omega, fun p m2 hp ho2 => ?_⟩
      have e2 := ho2.2
      refine ⟨trivial, ?_⟩
      walk_at "d"
      refine ⟨_, rfl, ?_⟩
      walk_at "d"
      refine ⟨3, rfl, hp, by omega, by omega, fun y p y0 y1 hp => ?_⟩
      walk_at "d"
      refine ⟨_, cs, g, _, rfl, hp, by omega, by omega, by omega, by omega, by omega, fun p rw2 hp hl2 hf2 => ?_⟩
      obtain ⟨fa, fb, fc2⟩ := cutR_fit hf2 (by omega) hg.w
      have f2 := fitG_fits fa fb fc2
      refine ⟨trivial, ?_⟩
      walk_at "d"
      refine ⟨_, rfl, ?_⟩
      walk_at "d"
      refine ⟨rows, rfl, hp, by omega, fun j hj => ?_, fun p rs hp hrs1 hrs2 => ?_⟩
      · have := asc_len (hf.asc j hj) (hf.inn j hj)
        omega
      have f1 := fitG_fits (ns := ns) (fitG_sub hf hrs1 hrs2) (by omega) fun j hj => by
        have h1 := (hrs2 j (by omega)).length_le
        have h2 := hrs j hj
        omega
      refine ⟨trivial, ?_⟩
      walk_at "d"
      refine ⟨_, rs, cs.length, rfl, sq2_ll rs, by omega, by omega, ?_⟩
      refine ⟨trivial, ?_⟩
      walk_at "d"
      refine ⟨rw2, ns, rfl, by omega, by omega, fun z hz => (hg.w.2 z hz).1, ?_⟩
      refine ⟨trivial, ?_⟩
      walk_at "d"
      refine ⟨_, cutR rw2 ns, cs.length, rfl, sq2_ll _, by omega, by omega, ?_⟩
      refine ⟨trivial, ?_⟩
      walk_at "d"
      refine ⟨ns, cs, g, m2, [.lst (lls rows)], [cntL rs cs.length, cntL (cutR rw2 ns) cs.length], rfl, hg, ho2, by simp, fun j hj => ?_, ?_⟩
      · match j, hj with
        | 0, _ => exact ⟨_, f1, rfl⟩
        | 1, _ => exact ⟨_, f2, rfl⟩
      refine ⟨trivial, ?_⟩
      walk_at "d"
      refine ⟨ns, cs, g, m2, rfl, hg, by omega, ?_⟩
      rw [ordK_ok ho2]
      refine ⟨trivial, ?_⟩
      walk_at "d"
      refine ⟨ns, cs, g, m1, [.lst (lls rows)], [cntL rs cs.length, cntL (cutR rw2 ns) cs.length, ocnt ns cs g m2], rfl, hg, ho1, by simp, fun j hj => ?_, ?_⟩
      · match j, hj with
        | 0, _ => exact ⟨_, f1, rfl⟩
        | 1, _ => exact ⟨_, f2, rfl⟩
        | 2, _ => exact ⟨_, oRows_fit ho2 (fun n hn => (hg.w.2 n hn).1), ocnt_eq.symm⟩
      refine ⟨trivial, ?_⟩
      walk_at "d"
      exact k
end
end Nk
namespace Nk
open PySem L2 DL Hse
local macro_rules | `(tactic| walk_at "s") => `(tactic| try simp (decide := true) only [L2.cxK, L2.s_seq, L2.s_next, L2.s_brk, L2.s_cont, L2.s_drop, L2.s_ret, L2.s_retN, L2.s_ifS, L2.s_br1, L2.s_br0, L2.s_asg, L2.s_asI, L2.s_asB, L2.s_asN, L2.s_asS, L2.s_asR, L2.s_gName, L2.s_gSub, L2.s_var, L2.s_C, L2.s_op, L2.s_un, L2.s_chain, L2.s_test, L2.s_B, L2.s_and, L2.s_aB1, L2.s_aB0, L2.s_or, L2.s_oB1, L2.s_oB0, L2.s_not, L2.s_andV, L2.s_aE1, L2.s_aE0, L2.s_orV, L2.s_oE1, L2.s_oE0, L2.s_notV, L2.s_nE, L2.s_if, L2.s_iE1, L2.s_iE0, L2.s_tr, L2.s_trB, L2.s_trI, L2.s_trN, L2.s_nil, L2.s_cons, L2.s_CB, L2.s_call, L2.s_callS, L2.s_sl, L2.s_part, L2.s_noPart, L2.s_lst, L2.s_mk, L2.s_xf, L2.s_for, L2.s_lc, L2.s_rng1, L2.s_rng2, L2.s_rng3, L2.s_enum, L2.s_zip, L2.s_zip3, L2.s_yes, L2.s_lstRg, L2.s_lcC1, L2.s_lcC0, L2.s_mkK, L2.s_meth, L2.s_prop, L2.s_fld, L2.s_stF, L2.s_cv, L2.s_enumA, L2.s_enumO, L2.s_own, L2.s_aug, L2.v_aug, L2.s_augS, L2.s_seqI, L2.s_tup, L2.s_BM, L2.s_BM0, L2.v_addI, L2.v_subI, L2.v_mulI, L2.v_divI, L2.v_modI, L2.v_powI, L2.v_negI, L2.v_cmp, L2.v_eqI, L2.v_eqS, L2.v_neS, L2.v_neI, L2.v_isN, L2.v_isB, L2.v_isnotN, L2.v_isnotB, L2.v_int, L2.v_abs, L2.v_max2, L2.v_min2, L2.le_line, List.set_cons_succ, List.set_cons_zero, List.getElem?_cons_succ, List.getElem?_cons_zero, Option.some.injEq, exists_eq_left', V.bl.injEq, V.int.injEq, true_and, and_true, Bool.not_true, Bool.not_false, if_true, if_false, Bool.false_eq_true, List.append_nil, reduceCtorEq, decide_true, decide_false, ne_eq, not_false_eq_true, Int.reduceToNat, Int.reducePow, Int.reduceMul, Int.reduceAdd, Int.reduceSub, Int.reduceNeg, Nat.reduceAdd, List.length_cons, List.length_nil, List.nil_append, List.cons_append])
local macro_rules | `(tactic| walk_at "d") => `(tactic| try simp (decide := true) (implicitDefEqProofs := false) only [DL.q_0, DL.q_1, DL.q_2, DL.q_3, DL.q_4, DL.q_5, DL.q_6, DL.q_7, DL.q_8, DL.q_9, DL.q_10, DL.q_11, DL.q_12, DL.q_13, DL.q_14, DL.q_15, DL.q_16, DL.q_17, DL.q_18, DL.q_19, DL.q_20, DL.q_21, DL.q_22, DL.q_23, DL.q_24, DL.q_25, DL.q_26, DL.q_27, DL.q_28, DL.q_29, DL.q_30, DL.q_31, DL.q_32, DL.q_33, DL.q_34, DL.o_0, DL.o_1, DL.o_2, DL.o_3, DL.o_4, DL.o_5, DL.o_6, DL.o_7, DL.o_8, DL.o_9, DL.o_10, DL.o_11, DL.o_19, DL.o_12, DL.o_13, DL.o_14, DL.o_15, DL.o_16, DL.o_17, DL.o_18, DL.clo_li, DL.noLs_li, List.map_cons, List.map_nil, DL.dCallT, DL.dCallT0, DL.dTupO, DL.dMv, DL.o_20, DL.o_21, DL.o_22, DL.noL, DL.noLs, DL.noLf, DL.noX, DL.x_0, DL.x_1, DL.x_2, DL.x_3, DL.x_4, DL.x_5, DL.x_6, DL.iZpO, DL.zpOK, DL.y_0, DL.y_1, DL.y_2, DL.y_3, DL.y_4, DL.y_5, DL.y_6, DL.y_7, DL.y_8, DL.y_9, DL.y_10, DL.y_11, DL.y_12, DL.y_13, DL.y_14, DL.y_15, DL.dOp, DL.dUn, DL.dVar, DL.dC, DL.dRaw, DL.dTest, DL.dTr, DL.dAnd, DL.dOr, DL.dNot, DL.dYes, DL.dAndV, DL.dOrV, DL.dNotV, DL.dIf, DL.dChain, DL.dNil, DL.dCons, DL.dLst, DL.dTup, DL.dCB, DL.dSl, DL.dPart, DL.dNoPart, DL.dLr, DL.dApp, DL.dExt, DL.iSeqD, DL.iRg1, DL.iRg2, DL.iRg3, DL.iEnD, DL.iZpD, DL.iOwnD, DL.iEnO, DL.dLc, DL.dFld, DL.dCall, DL.dCall0, DL.dCallM, DL.dCallM0, DL.dMkK, DL.dMkK0, DL.dProp, DL.dMeth, DL.dMeth0, DL.dLenO, DL.e_br1, DL.e_br0, DL.e_aK1, DL.e_aK0, DL.e_oK1, DL.e_oK0, DL.e_aV1, DL.e_aV0, DL.e_oV1, DL.e_oV0, DL.e_if1, DL.e_if0, DL.e_ch1, DL.e_ch0, DL.e_lc1, DL.e_lc0, DL.intsOf_li, DL.li_len, DL.z_0, DL.z_1, DL.z_2, DL.z_3, DL.z_4, DL.z_5, DL.z_6, DL.z_7, DL.z_8, DL.z_9, DL.z_10, DL.z_11, DL.z_12, DL.z_13, DL.z_14, DL.z_15, DL.z_16, DL.z_17, DL.z_18, DL.z_19, DL.z_20, DL.z_21, DL.z_22, DL.z_23, DL.z_24, DL.z_25, DL.z_26, DL.z_27, DL.z_28, DL.z_29, DL.z_30, DL.z_31, DL.z_32, DL.z_33, DL.z_34, DL.z_35, DL.z_36, DL.z_37, DL.z_38, DL.z_39, DL.z_40, DL.z_41, DL.z_42, DL.z_43, DL.z_44, DL.z_45, DL.z_46, DL.z_47, DL.z_48, DL.z_49, DL.z_50, DL.z_51, DL.z_52, DL.z_53, DL.z_54, DL.z_55, DL.z_56, DL.z_57, DL.z_58, DL.z_59, DL.z_60, DL.z_61, DL.z_62, DL.z_63, DL.z_64, DL.z_65, DL.z_66, DL.z_67, DL.z_68, DL.z_69, DL.z_70, DL.z_71, DL.z_72, DL.z_73, DL.z_74, DL.z_75, DL.z_76, DL.z_77, DL.z_78, DL.z_79, DL.z_80, DL.z_81, DL.z_82, DL.z_83, DL.z_84, DL.z_85, DL.z_86, DL.z_87, DL.z_88, DL.z_89, DL.z_90, DL.z_91, DL.z_92, DL.z_93, DL.z_94, DL.z_95, DL.z_96, DL.z_97, DL.z_98, DL.z_99, DL.z_100, DL.z_101, DL.z_102, DL.z_103, DL.z_104, DL.z_105, DL.z_106, DL.z_107, DL.z_108, DL.z_109, DL.z_110, DL.z_111, DL.z_112, DL.z_113, DL.z_114, DL.z_115, DL.z_116, DL.z_117, DL.z_118, DL.z_119, DL.z_120, DL.z_121, DL.z_122, DL.z_123, DL.z_124, DL.z_125, DL.z_126, DL.z_127, DL.z_128, DL.z_129, DL.z_130, DL.z_131, DL.z_132, DL.z_133, DL.z_134, DL.z_135, DL.z_136, DL.z_137, DL.z_138, DL.z_139, DL.z_140, DL.z_141, DL.z_142, DL.z_143, DL.z_144, DL.z_145, DL.z_146, DL.z_147, DL.z_148, DL.z_149, DL.z_150, DL.z_151, DL.z_152, DL.z_153, DL.z_154, DL.z_155, DL.z_156, DL.z_157, DL.z_158, DL.z_159, DL.z_160, DL.z_161, DL.z_162, DL.z_163, DL.z_164, DL.z_165, DL.z_166, DL.z_167, DL.z_168, DL.z_169, DL.z_170, DL.z_171, DL.z_172, DL.z_173, DL.z_174, DL.z_175, List.set_cons_zero, List.set_cons_succ, List.getElem?_cons_zero, List.getElem?_cons_succ, List.length_cons, List.length_nil, List.length_set, Option.bind_some, Option.bind_none, List.map_cons, List.map_nil, List.nil_append, List.cons_append, List.append_nil, List.getD_cons_zero, List.getD_cons_succ, DL.lk_hit, DL.lk_miss, DL.lk_nil, DL.z_176, DL.bq_t, DL.bq_f, decide_true, decide_false, true_and, and_true, Bool.not_true, Bool.not_false, if_true, ite_true, ite_false, Nat.zero_add, Nat.add_zero, Nat.reduceAdd, Nat.reduceLT, Int.reduceLT, Int.reduceLE, Int.reduceNeg, Int.reduceEq, Int.reduceToNat, reduceIte, List.reduceReplicate, List.isEmpty_cons, List.isEmpty_nil, Int.reduceAdd, Int.reduceSub, Int.reduceMul, Int.reducePow, Bool.false_eq_true, String.reduceEq, String.reduceBEq, Bool.or_false, Bool.or_true, Bool.false_or, Bool.true_or, or_true, true_or, or_false, false_or])
section
variable {P : Program} {w : World} {K : PySem.W.Frag} {mg : Str → Option Value} {base : Heap} {A : Ad}
abbrev s_Wants___init__ : Stmt := inClass (topS 30) 2
theorem sc_Wants___init__ : FnScope (["self", "numbers", "index", "number"] : List Str) (["self", "numbers"] : List Str) (defScope s_Wants___init__) := ⟨rfl, rfl, rfl, by decide +kernel, rfl, by decide +kernel, by decide +kernel⟩
theorem ok_Wants___init__ {f : Addr} {fd : FuncData} (F : Fun K "__init__" "Wants.__init__" s_Wants___init__ f fd) (B : Blt mg) (T : Tx K mg A) : FnOk P w K mg base (L2.CX P w) 1 f fd (["self", "numbers"] : List Str) (spI K A.c_Wants (dsMkWants A)) := by
  refine F.okX sc_Wants___init__ (fun vs H Q E h => ?_) (fun cdv W outer s H vs Q E hr h => ?_)
  · refine spI_len (fun ds Q X h => ?_) h
    obtain ⟨s, ns, rfl, _⟩ := h; rfl
  · have nd := sc_Wants___init__.nd
    have hu := hr.units
    refine ⟨_, by exact (pss_cons (ps_if (pt_cmpR oa_gt (pe_callB ca_len (by rfl) B.len bt_len (pa_cons (pv 1) pa_nil)) (ClX.pe_cval (pe_glob (v := .ref _) rfl T.x_Wants.g rfl)) (nomark _))
        (pss_one ps_no)
        pss_nil)
        (pss_cons (ps_for (passes_of rfl) rfl (pi_enumA rfl B.enumerate (pa_cons (pv 1) pa_nil)) (pg_tup (n := 2) rfl (pgs_cons (pg_n 2 nd) (pgs_cons (pg_n 3 nd) pgs_nil)))
        (pss_one (ps_if (pt_not (pt_chain oa_le oa_le pe_int (pv 3) (ClX.pe_cval (pe_glob (v := .ref _) rfl T.x_Wants.g rfl))))
        (pss_one ps_no)
        pss_nil)))
        (pss_one (ps_fld (pv 0) (pe_callTy ca_tuple (by rfl) B.tuple bt_tuple (pa_cons (pv 1) pa_nil)) rfl)))), ?_⟩
    refine enterI h T.cl_Wants (fun pa => (DS.seq (DS.ifs (DT.test (DE.op Op2.cmp (DE.cb CallO.len (DA.cons (DE.var 1) DA.nil)) (DE.cval T.cv_Wants_MOST1 T.cv_Wants_MOST2)))
        DS.no
        DS.next)
        (DS.seq (DS.for_ (DI.enumA (DA.cons (DE.var 1) DA.nil)) (DG.tup (DGs.cons (DG.name 2) (DGs.cons (DG.name 3) DGs.nil)))
        (DS.ifs (DT.not (DT.test (DE.chain Op2.cmp Op2.cmp (DE.c fun _ => .int _) (DE.var 3) (DE.cval T.cv_Wants_GREATEST1 T.cv_Wants_GREATEST2))))
        DS.no
        DS.next))
        (DS.stF (DE.cb CallO.tuple (DA.cons (DE.var 1) DA.nil)))))) (c := 2) (fun ds Q X h => ?_)
    obtain ⟨s, ns, rfl, hs, hg, k⟩ := h
    refine ⟨rfl, ?_⟩
    have key : ∀ n ∈ ns, 0 ≤ n ∧ n ≤ 30 := hg.2
    have fo := fun f => (⟨T.cl_Wants, f⟩ : FldOk K A.c_Wants "numbers")
    rcases hs with rfl | rfl
    all_goals
      walk_at "d"
      rw [decide_eq_false (show ¬ ((60 : Int) < ns.length) by have := hg.1; omega)]
      walk_at "d"
      refine ⟨fun i δ => ∃ v1 v2, δ = [.obj A.c_Wants [], .val _, v1, v2], ⟨_, _, rfl⟩, ?_, ?_⟩
      · rintro i d δ hd ⟨v1, v2, rfl⟩
        obtain ⟨hi, rfl⟩ := enum_li hd
        obtain ⟨g0, g1⟩ := key _ (li_mem hi)
        walk_at "d"
        rw [decide_eq_true g0]
        walk_at "d"
        rw [decide_eq_true g1]
        walk_at "d"
        exact ⟨_, _, rfl⟩
      · rintro δ ⟨v1, v2, rfl⟩
        walk_at "d"
        exact ⟨fo T.n_Wants_numbers, k⟩
abbrev s_Wants___len__ : Stmt := inClass (topS 30) 4
theorem sc_Wants___len__ : FnScope (["self"] : List Str) (["self"] : List Str) (defScope s_Wants___len__) := ⟨rfl, rfl, rfl, by decide +kernel, rfl, by decide +kernel, by decide +kernel⟩
theorem ok_Wants___len__ {f : Addr} {fd : FuncData} (F : Fun K "__len__" "Wants.__len__" s_Wants___len__ f fd) (B : Blt mg) (T : Tx K mg A) : FnOk P w K mg base (L2.CX P w) 1 f fd (["self"] : List Str) (spP K (dspLen A.c_Wants "numbers")) := by
  refine F.okX sc_Wants___len__ (fun vs H Q E h => ?_) (fun cdv W outer s H vs Q E hr h => ?_)
  · refine spP_len (fun ds Q X h => ?_) h
    obtain ⟨fs, xs, rfl, _⟩ := h; rfl
  · have nd := sc_Wants___len__.nd
    have hu := hr.units
    refine ⟨_, by exact (pss_one (ps_ret (pe_callB ca_len (by rfl) B.len bt_len (pa_cons (pe_fld (pv 0) rfl) pa_nil)))), ?_⟩
    refine enterP h (fun pa => (DS.ret (DE.cb CallO.len (DA.cons (DE.fld (DE.var 0)) DA.nil)))) (c := 0) (fun ds Q X h => ?_)
    obtain ⟨fs, xs, rfl, h1, h2, k⟩ := h
    refine ⟨rfl, ?_⟩
    walk_at "d"
    rw [h1]
    walk_at "d"
    exact k
abbrev s_Wants___iter__ : Stmt := inClass (topS 30) 5
theorem sc_Wants___iter__ : FnScope (["self"] : List Str) (["self"] : List Str) (defScope s_Wants___iter__) := ⟨rfl, rfl, rfl, by decide +kernel, rfl, by decide +kernel, by decide +kernel⟩
theorem okN_Wants___iter__ {f : Addr} {fd : FuncData} (F : Fun K "__iter__" "Wants.__iter__" s_Wants___iter__ f fd) (B : Blt mg) (T : Tx K mg A) : FnN P w K mg base (L2.CX P w) 1 f fd ["self"] (spIt K A.c_Wants "numbers") := by
  obtain ⟨oc, od, kV, doc, pm, an, cdv, ct, osl, rfl, lk, hcd⟩ := F.ex
  refine fn_ofN lk hcd sc_Wants___iter__ (fun n vs H Q E h => ?_) (fun A outer s H vs Q E hr h => ?_)
  · obtain ⟨a, dx, fs, t, zs, rfl, _⟩ := h; rfl
  · refine ⟨_, by exact (pss_one (ps_ret (pe_callB call_iterT (by rfl) B.iter bt_iter (pa_cons (pe_fld (pv 0) rfl) pa_nil)))), ?_⟩
    obtain ⟨a, dx, fs, t, zs, rfl, ha, hf, hS, k⟩ := h
    show (tRet _) _ [some (.ref a)] H
    walk_at "s"
    refine w_fld ha T.cl_Wants T.n_Wants_numbers hf ?_
    exact ⟨t, zs, rfl, hS, fun it h1 h2 => k it h1 h2⟩
abbrev s_House___init__ : Stmt := inClass (topS 28) 0
theorem sc_House___init__ : FnScope (["self", "wants", "comings", "rest", "person", "coming"] : List Str) (["self", "wants", "comings", "rest"] : List Str) (defScope s_House___init__) := ⟨rfl, rfl, rfl, by decide +kernel, rfl, by decide +kernel, by decide +kernel⟩
theorem ok_House___init__ {f : Addr} {fd : FuncData} (F : Fun K "__init__" "House.__init__" s_House___init__ f fd) (B : Blt mg) (T : Tx K mg A) {fL_Wants fI_Wants : Addr} {fdL_Wants fdI_Wants : FuncData} (O : OwnC P w K mg base A.c_Wants "numbers" fL_Wants fI_Wants fdL_Wants fdI_Wants (spP K (dspLen A.c_Wants "numbers"))) : FnOk P w K mg base (L2.CX P w) 3 f fd (["self", "wants", "comings", "rest"] : List Str) (spI K A.c_House (dsMkHouse A)) := by
  refine F.okX sc_House___init__ (fun vs H Q E h => ?_) (fun cdv W outer s H vs Q E hr h => ?_)
  · refine spI_len (fun ds Q X h => ?_) h
    obtain ⟨s, ns, cs, r, rfl, _⟩ := h; rfl
  · have nd := sc_House___init__.nd
    have hu := hr.units
    refine ⟨_, by exact (pss_cons (ps_if (pt_cmpR oa_gt (pe_callB ca_len (by rfl) B.len bt_len (pa_cons (pv 2) pa_nil)) (pe_glob (v := .int (30)) rfl T.g_MOST_PEOPLE ⟨_, rfl⟩) (nomark _))
        (pss_one ps_no)
        pss_nil)
        (pss_cons (ps_for (passes_of rfl) rfl (pi_enumA rfl B.enumerate (pa_cons (pv 2) pa_nil)) (pg_tup (n := 2) rfl (pgs_cons (pg_n 4 nd) (pgs_cons (pg_n 5 nd) pgs_nil)))
        (pss_one (ps_if (pt_not (pt_chain oa_le oa_le pe_int (pv 5) (pe_op oa_add (pe_callB (call_lenO O.lenA O.lenF O.lenOk O.lenB (hr.mono (by first | decide | omega))) (by rfl) B.len bt_len (pa_cons (pv 1) pa_nil)) pe_int)))
        (pss_one ps_no)
        pss_nil)))
        (pss_cons (ps_if (pt_not (pt_chain oa_le oa_le pe_int (pv 3) (pe_glob (v := .int (60)) rfl T.g_MOST_REST ⟨_, rfl⟩)))
        (pss_one ps_no)
        pss_nil)
        (pss_cons (ps_fld (pv 0) (pv 1) rfl)
        (pss_cons (ps_fld (pv 0) (pe_callTy ca_tuple (by rfl) B.tuple bt_tuple (pa_cons (pv 2) pa_nil)) rfl)
        (pss_one (ps_fld (pv 0) (pv 3) rfl))))))), ?_⟩
    refine enterI h T.cl_House (fun pa => (DS.seq (DS.ifs (DT.test (DE.op Op2.cmp (DE.cb CallO.len (DA.cons (DE.var 2) DA.nil)) (DE.c fun _ => .int _)))
        DS.no
        DS.next)
        (DS.seq (DS.for_ (DI.enumA (DA.cons (DE.var 2) DA.nil)) (DG.tup (DGs.cons (DG.name 4) (DGs.cons (DG.name 5) DGs.nil)))
        (DS.ifs (DT.not (DT.test (DE.chain Op2.cmp Op2.cmp (DE.c fun _ => .int _) (DE.var 5) (DE.op Op2.add (DE.lenO (DA.cons (DE.var 1) DA.nil)) (DE.c fun _ => .int _)))))
        DS.no
        DS.next))
        (DS.seq (DS.ifs (DT.not (DT.test (DE.chain Op2.cmp Op2.cmp (DE.c fun _ => .int _) (DE.var 3) (DE.c fun _ => .int _))))
        DS.no
        DS.next)
        (DS.seq (DS.stF (DE.var 1))
        (DS.seq (DS.stF (DE.cb CallO.tuple (DA.cons (DE.var 2) DA.nil)))
        (DS.stF (DE.var 3)))))))) (c := 2) (fun ds Q X h => ?_)
    obtain ⟨s, ns, cs, r, rfl, hs, hg, k⟩ := h
    refine ⟨rfl, ?_⟩
    have l1 := hg.p
    have l2 := hg.w.1
    have l3 := hg.r
    rcases hs with rfl | rfl
    all_goals
      walk_at "d"
      rw [decide_eq_false (show ¬ ((30 : Int) < cs.length) by omega)]
      walk_at "d"
      refine ⟨fun i δ => ∃ v1 v2, δ = [.obj A.c_House [], .val (wD A ns), .val _, .val (.int r), v1, v2], ⟨_, _, rfl⟩, ?_, ?_⟩
      · rintro i d δ hd ⟨v1, v2, rfl⟩
        obtain ⟨hi, rfl⟩ := enum_li hd
        obtain ⟨g0, g1⟩ := hg.c _ (li_mem hi)
        walk_at "d"
        rw [decide_eq_true g0]
        walk_at "d"
        refine ⟨by omega, ?_⟩
        walk_at "d"
        rw [decide_eq_true g1]
        walk_at "d"
        exact ⟨_, _, rfl⟩
      · rintro δ ⟨v1, v2, rfl⟩
        walk_at "d"
        rw [decide_eq_true (show (0 : Int) ≤ r by omega)]
        walk_at "d"
        rw [decide_eq_true (show (r : Int) ≤ 60 by omega)]
        walk_at "d"
        refine ⟨⟨T.cl_House, T.n_House_wants⟩, ?_⟩
        walk_at "d"
        refine ⟨⟨T.cl_House, T.n_House_comings⟩, ?_⟩
        walk_at "d"
        exact ⟨⟨T.cl_House, T.n_House_rest⟩, k⟩
abbrev s_House_nights : Stmt := inClass (topS 28) 2
theorem sc_House_nights : FnScope (["self"] : List Str) (["self"] : List Str) (defScope s_House_nights) := ⟨rfl, rfl, rfl, by decide +kernel, rfl, by decide +kernel, by decide +kernel⟩
theorem ok_House_nights {f : Addr} {fd : FuncData} (F : Fun K "nights" "House.nights" s_House_nights f fd) (B : Blt mg) (T : Tx K mg A) {fL_Wants fI_Wants : Addr} {fdL_Wants fdI_Wants : FuncData} (O : OwnC P w K mg base A.c_Wants "numbers" fL_Wants fI_Wants fdL_Wants fdI_Wants (spP K (dspLen A.c_Wants "numbers"))) : FnOk P w K mg base (L2.CX P w) 3 f fd (["self"] : List Str) (spP K (dsNights A)) := by
  refine F.okX sc_House_nights (fun vs H Q E h => ?_) (fun cdv W outer s H vs Q E hr h => ?_)
  · refine spP_len (fun ds Q X h => ?_) h
    obtain ⟨ns, cs, r, rfl, _⟩ := h; rfl
  · have nd := sc_House_nights.nd
    have hu := hr.units
    refine ⟨_, by exact (pss_one (ps_ret (pe_callB (call_lenO O.lenA O.lenF O.lenOk O.lenB (hr.mono (by first | decide | omega))) (by rfl) B.len bt_len (pa_cons (pe_fld (pv 0) rfl) pa_nil)))), ?_⟩
    refine enterP h (fun pa => (DS.ret (DE.lenO (DA.cons (DE.fld (DE.var 0)) DA.nil)))) (c := 0) (fun ds Q X h => ?_)
    obtain ⟨ns, cs, r, rfl, hg, k⟩ := h
    refine ⟨rfl, ?_⟩
    unfold hD
    walk_at "d"
    exact ⟨by have := hg.w.1; omega, k⟩
abbrev s_House_people : Stmt := inClass (topS 28) 3
theorem sc_House_people : FnScope (["self"] : List Str) (["self"] : List Str) (defScope s_House_people) := ⟨rfl, rfl, rfl, by decide +kernel, rfl, by decide +kernel, by decide +kernel⟩
theorem ok_House_people {f : Addr} {fd : FuncData} (F : Fun K "people" "House.people" s_House_people f fd) (B : Blt mg) (T : Tx K mg A) : FnOk P w K mg base (L2.CX P w) 1 f fd (["self"] : List Str) (spP K (dsPeople A)) := by
  refine F.okX sc_House_people (fun vs H Q E h => ?_) (fun cdv W outer s H vs Q E hr h => ?_)
  · refine spP_len (fun ds Q X h => ?_) h
    obtain ⟨ns, cs, r, rfl, _⟩ := h; rfl
  · have nd := sc_House_people.nd
    have hu := hr.units
    refine ⟨_, by exact (pss_one (ps_ret (pe_callB ca_len (by rfl) B.len bt_len (pa_cons (pe_fld (pv 0) rfl) pa_nil)))), ?_⟩
    refine enterP h (fun pa => (DS.ret (DE.cb CallO.len (DA.cons (DE.fld (DE.var 0)) DA.nil)))) (c := 0) (fun ds Q X h => ?_)
    obtain ⟨ns, cs, r, rfl, hg, k⟩ := h
    refine ⟨rfl, ?_⟩
    unfold hD
    walk_at "d"
    exact k
abbrev s_check_person : Stmt := topS 13
theorem sc_check_person : FnScope (["house", "person"] : List Str) (["house", "person"] : List Str) (defScope s_check_person) := ⟨rfl, rfl, rfl, by decide +kernel, rfl, by decide +kernel, by decide +kernel⟩
theorem ok_check_person {f : Addr} {fd : FuncData} (F : Fun K "check_person" "check_person" s_check_person f fd) (B : Blt mg) (T : Tx K mg A) (hfile : ((P.main.file : Str) == "/claim/cut.py") = true) (htop : (P.main.scope.names.lookup ("super" : Str)).isSome = false) (R_people : PrAt P w K mg base 1 A.c_House "people" (spP K (dsPeople A))) : FnOk P w K mg base (L2.CX P w) 3 f fd (["house", "person"] : List Str) (spP K (dsCkPerson A)) := by
  refine F.okX sc_check_person (fun vs H Q E h => ?_) (fun cdv W outer s H vs Q E hr h => ?_)
  · refine spP_len (fun ds Q X h => ?_) h
    obtain ⟨ns, cs, r, p, rfl, _⟩ := h; rfl
  · have nd := sc_check_person.nd
    have hu := hr.units
    refine ⟨_, by exact (pss_one (ps_if (pt_not (pt_chain oa_le oa_lt pe_int (pv 1) (pe_pr R_people (hr.mono (by first | decide | omega)) (pv 0))))
        (pss_one (ps_raise rfl (takes_of rfl rfl rfl rfl) (pmk_err T.x_NoPerson.txt (by simp) (by decide) (by decide +kernel) hfile htop B.super hr T.x_NoPerson.g (pa_cons (pv 1) pa_nil))))
        pss_nil)), ?_⟩
    refine enterP h (fun pa => (DS.ifs (DT.not (DT.test (DE.chain Op2.cmp Op2.cmp (DE.c fun _ => .int _) (DE.var 1) (DE.prop (DE.var 0)))))
        (DS.raise (DA.cons (DE.var 1) DA.nil))
        DS.next)) (c := 0) (fun ds Q X h => ?_)
    obtain ⟨ns, cs, r, p, rfl, hg, k⟩ := h
    refine ⟨rfl, ?_⟩
    walk_at "d"
    rw [flt1] at k
    refine c_ch (fun c1 => ?_) (fun c1 => ?_)
    · walk_at "d"
      refine ⟨ns, cs, r, rfl, hg, ?_⟩
      walk_at "d"
      by_cases c2 : p < cs.length
      · rw [if_pos ⟨c1, c2⟩] at k
        rw [decide_eq_true c2]
        walk_at "d"
        exact k
      · rw [if_neg (fun z => c2 z.2)] at k
        rw [decide_eq_false c2]
        walk_at "d"
        exact k
    · rw [if_neg (fun z => c1 z.1)] at k
      walk_at "d"
      exact k
end
end Nk
namespace Nk
open PySem L2 DL Hse
local macro_rules | `(tactic| walk_at "s") => `(tactic| try simp (decide := true) only [L2.cxK, L2.s_seq, L2.s_next, L2.s_brk, L2.s_cont, L2.s_drop, L2.s_ret, L2.s_retN, L2.s_ifS, L2.s_br1, L2.s_br0, L2.s_asg, L2.s_asI, L2.s_asB, L2.s_asN, L2.s_asS, L2.s_asR, L2.s_gName, L2.s_gSub, L2.s_var, L2.s_C, L2.s_op, L2.s_un, L2.s_chain, L2.s_test, L2.s_B, L2.s_and, L2.s_aB1, L2.s_aB0, L2.s_or, L2.s_oB1, L2.s_oB0, L2.s_not, L2.s_andV, L2.s_aE1, L2.s_aE0, L2.s_orV, L2.s_oE1, L2.s_oE0, L2.s_notV, L2.s_nE, L2.s_if, L2.s_iE1, L2.s_iE0, L2.s_tr, L2.s_trB, L2.s_trI, L2.s_trN, L2.s_nil, L2.s_cons, L2.s_CB, L2.s_call, L2.s_callS, L2.s_sl, L2.s_part, L2.s_noPart, L2.s_lst, L2.s_mk, L2.s_xf, L2.s_for, L2.s_lc, L2.s_rng1, L2.s_rng2, L2.s_rng3, L2.s_enum, L2.s_zip, L2.s_zip3, L2.s_yes, L2.s_lstRg, L2.s_lcC1, L2.s_lcC0, L2.s_mkK, L2.s_meth, L2.s_prop, L2.s_fld, L2.s_stF, L2.s_cv, L2.s_enumA, L2.s_enumO, L2.s_own, L2.s_aug, L2.v_aug, L2.s_augS, L2.s_seqI, L2.s_tup, L2.s_BM, L2.s_BM0, L2.v_addI, L2.v_subI, L2.v_mulI, L2.v_divI, L2.v_modI, L2.v_powI, L2.v_negI, L2.v_cmp, L2.v_eqI, L2.v_eqS, L2.v_neS, L2.v_neI, L2.v_isN, L2.v_isB, L2.v_isnotN, L2.v_isnotB, L2.v_int, L2.v_abs, L2.v_max2, L2.v_min2, L2.le_line, List.set_cons_succ, List.set_cons_zero, List.getElem?_cons_succ, List.getElem?_cons_zero, Option.some.injEq, exists_eq_left', V.bl.injEq, V.int.injEq, true_and, and_true, Bool.not_true, Bool.not_false, if_true, if_false, Bool.false_eq_true, List.append_nil, reduceCtorEq, decide_true, decide_false, ne_eq, not_false_eq_true, Int.reduceToNat, Int.reducePow, Int.reduceMul, Int.reduceAdd, Int.reduceSub, Int.reduceNeg, Nat.reduceAdd, List.length_cons, List.length_nil, List.nil_append, List.cons_append])
local macro_rules | `(tactic| walk_at "d") => `(tactic| try simp (decide := true) (implicitDefEqProofs := false) only [DL.q_0, DL.q_1, DL.q_2, DL.q_3, DL.q_4, DL.q_5, DL.q_6, DL.q_7, DL.q_8, DL.q_9, DL.q_10, DL.q_11, DL.q_12, DL.q_13, DL.q_14, DL.q_15, DL.q_16, DL.q_17, DL.q_18, DL.q_19, DL.q_20, DL.q_21, DL.q_22, DL.q_23, DL.q_24, DL.q_25, DL.q_26, DL.q_27, DL.q_28, DL.q_29, DL.q_30, DL.q_31, DL.q_32, DL.q_33, DL.q_34, DL.o_0, DL.o_1, DL.o_2, DL.o_3, DL.o_4, DL.o_5, DL.o_6, DL.o_7, DL.o_8, DL.o_9, DL.o_10, DL.o_11, DL.o_19, DL.o_12, DL.o_13, DL.o_14, DL.o_15, DL.o_16, DL.o_17, DL.o_18, DL.clo_li, DL.noLs_li, List.map_cons, List.map_nil, DL.dCallT, DL.dCallT0, DL.dTupO, DL.dMv, DL.o_20, DL.o_21, DL.o_22, DL.noL, DL.noLs, DL.noLf, DL.noX, DL.x_0, DL.x_1, DL.x_2, DL.x_3, DL.x_4, DL.x_5, DL.x_6, DL.iZpO, DL.zpOK, DL.y_0, DL.y_1, DL.y_2, DL.y_3, DL.y_4, DL.y_5, DL.y_6, DL.y_7, DL.y_8, DL.y_9, DL.y_10, DL.y_11, DL.y_12, DL.y_13, DL.y_14, DL.y_15, DL.dOp, DL.dUn, DL.dVar, DL.dC, DL.dRaw, DL.dTest, DL.dTr, DL.dAnd, DL.dOr, DL.dNot, DL.dYes, DL.dAndV, DL.dOrV, DL.dNotV, DL.dIf, DL.dChain, DL.dNil, DL.dCons, DL.dLst, DL.dTup, DL.dCB, DL.dSl, DL.dPart, DL.dNoPart, DL.dLr, DL.dApp, DL.dExt, DL.iSeqD, DL.iRg1, DL.iRg2, DL.iRg3, DL.iEnD, DL.iZpD, DL.iOwnD, DL.iEnO, DL.dLc, DL.dFld, DL.dCall, DL.dCall0, DL.dCallM, DL.dCallM0, DL.dMkK, DL.dMkK0, DL.dProp, DL.dMeth, DL.dMeth0, DL.dLenO, DL.e_br1, DL.e_br0, DL.e_aK1, DL.e_aK0, DL.e_oK1, DL.e_oK0, DL.e_aV1, DL.e_aV0, DL.e_oV1, DL.e_oV0, DL.e_if1, DL.e_if0, DL.e_ch1, DL.e_ch0, DL.e_lc1, DL.e_lc0, DL.intsOf_li, DL.li_len, DL.z_0, DL.z_1, DL.z_2, DL.z_3, DL.z_4, DL.z_5, DL.z_6, DL.z_7, DL.z_8, DL.z_9, DL.z_10, DL.z_11, DL.z_12, DL.z_13, DL.z_14, DL.z_15, DL.z_16, DL.z_17, DL.z_18, DL.z_19, DL.z_20, DL.z_21, DL.z_22, DL.z_23, DL.z_24, DL.z_25, DL.z_26, DL.z_27, DL.z_28, DL.z_29, DL.z_30, DL.z_31, DL.z_32, DL.z_33, DL.z_34, DL.z_35, DL.z_36, DL.z_37, DL.z_38, DL.z_39, DL.z_40, DL.z_41, DL.z_42, DL.z_43, DL.z_44, DL.z_45, DL.z_46, DL.z_47, DL.z_48, DL.z_49, DL.z_50, DL.z_51, DL.z_52, DL.z_53, DL.z_54, DL.z_55, DL.z_56, DL.z_57, DL.z_58, DL.z_59, DL.z_60, DL.z_61, DL.z_62, DL.z_63, DL.z_64, DL.z_65, DL.z_66, DL.z_67, DL.z_68, DL.z_69, DL.z_70, DL.z_71, DL.z_72, DL.z_73, DL.z_74, DL.z_75, DL.z_76, DL.z_77, DL.z_78, DL.z_79, DL.z_80, DL.z_81, DL.z_82, DL.z_83, DL.z_84, DL.z_85, DL.z_86, DL.z_87, DL.z_88, DL.z_89, DL.z_90, DL.z_91, DL.z_92, DL.z_93, DL.z_94, DL.z_95, DL.z_96, DL.z_97, DL.z_98, DL.z_99, DL.z_100, DL.z_101, DL.z_102, DL.z_103, DL.z_104, DL.z_105, DL.z_106, DL.z_107, DL.z_108, DL.z_109, DL.z_110, DL.z_111, DL.z_112, DL.z_113, DL.z_114, DL.z_115, DL.z_116, DL.z_117, DL.z_118, DL.z_119, DL.z_120, DL.z_121, DL.z_122, DL.z_123, DL.z_124, DL.z_125, DL.z_126, DL.z_127, DL.z_128, DL.z_129, DL.z_130, DL.z_131, DL.z_132, DL.z_133, DL.z_134, DL.z_135, DL.z_136, DL.z_137, DL.z_138, DL.z_139, DL.z_140, DL.z_141, DL.z_142, DL.z_143, DL.z_144, DL.z_145, DL.z_146, DL.z_147, DL.z_148, DL.z_149, DL.z_150, DL.z_151, DL.z_152, DL.z_153, DL.z_154, DL.z_155, DL.z_156, DL.z_157, DL.z_158, DL.z_159, DL.z_160, DL.z_161, DL.z_162, DL.z_163, DL.z_164, DL.z_165, DL.z_166, DL.z_167, DL.z_168, DL.z_169, DL.z_170, DL.z_171, DL.z_172, DL.z_173, DL.z_174, DL.z_175, List.set_cons_zero, List.set_cons_succ, List.getElem?_cons_zero, List.getElem?_cons_succ, List.length_cons, List.length_nil, List.length_set, Option.bind_some, Option.bind_none, List.map_cons, List.map_nil, List.nil_append, List.cons_append, List.append_nil, List.getD_cons_zero, List.getD_cons_succ, DL.lk_hit, DL.lk_miss, DL.lk_nil, DL.z_176, DL.bq_t, DL.bq_f, decide_true, decide_false, true_and, and_true, Bool.not_true, Bool.not_false, if_true, ite_true, ite_false, Nat.zero_add, Nat.add_zero, Nat.reduceAdd, Nat.reduceLT, Int.reduceLT, Int.reduceLE, Int.reduceNeg, Int.reduceEq, Int.reduceToNat, reduceIte, List.reduceReplicate, List.isEmpty_cons, List.isEmpty_nil, Int.reduceAdd, Int.reduceSub, Int.reduceMul, Int.reducePow, Bool.false_eq_true, String.reduceEq, String.reduceBEq, Bool.or_false, Bool.or_true, Bool.false_or, Bool.true_or, or_true, true_or, or_false, false_or])
section
variable {P : Program} {w : World} {K : PySem.W.Frag} {mg : Str → Option Value} {base : Heap} {A : Ad}
abbrev s_check_people : Stmt := topS 14
theorem sc_check_people : FnScope (["house", "people", "named", "person"] : List Str) (["house", "people"] : List Str) (defScope s_check_people) := ⟨rfl, rfl, rfl, by decide +kernel, rfl, by decide +kernel, by decide +kernel⟩
theorem ok_check_people {f : Addr} {fd : FuncData} (F : Fun K "check_people" "check_people" s_check_people f fd) (B : Blt mg) (T : Tx K mg A) (hfile : ((P.main.file : Str) == "/claim/cut.py") = true) (htop : (P.main.scope.names.lookup ("super" : Str)).isSome = false) (R_people : PrAt P w K mg base 1 A.c_House "people" (spP K (dsPeople A))) (C_check_person : FnAt P w K mg base 3 "check_person" (["house", "person"] : List Str) (spP K (dsCkPerson A))) : FnOk P w K mg base (L2.CX P w) 4 f fd (["house", "people"] : List Str) (spP K (dsCkPeople A)) := by
  refine F.okX sc_check_people (fun vs H Q E h => ?_) (fun cdv W outer s H vs Q E hr h => ?_)
  · refine spP_len (fun ds Q X h => ?_) h
    obtain ⟨ns, cs, r, ps, rfl, _⟩ := h; rfl
  · have nd := sc_check_people.nd
    have hu := hr.units
    refine ⟨_, by exact (pss_cons (ps_st 2 nd (pe_op oa_mul (pe_lst (pa_cons pe_bl pa_nil)) (pe_pr R_people (hr.mono (by first | decide | omega)) (pv 0))))
        (pss_one (ps_for (passes_of rfl) rfl (pi_seq (pv 1)) (pg_n 3 nd)
        (pss_cons (ps_expr (pe_fn C_check_person (hr.mono (by first | decide | omega)) (passE (takes_of rfl rfl rfl rfl) (fun _ _ _ _ h => h)) (pa_cons (pv 0) (pa_cons (pv 3) pa_nil))))
        (pss_cons (ps_if (pt_tr (pe_ix oa_ix (pv 2) (pv 3) (fun _ _ => rfl)))
        (pss_one (ps_raise rfl (takes_of rfl rfl rfl rfl) (pmk_err T.x_NamedTwice.txt (by simp) (by decide) (by decide +kernel) hfile htop B.super hr T.x_NamedTwice.g (pa_cons (pv 3) pa_nil))))
        pss_nil)
        (pss_one (ps_asg pe_bl (pg_sub (pv 2) (pv 3) set_list)))))))), ?_⟩
    refine enterP h (fun pa => (DS.seq (DS.asg (DE.op Op2.mul (DE.lst (DA.cons (DE.c fun _ => .bl _) DA.nil)) (DE.prop (DE.var 0))))
        (DS.for_ (DI.seq (DE.var 1)) (DG.name 3)
        (DS.seq (DS.drop (DE.call (fun _ _ _ _ h => h) (DA.cons (DE.var 0) (DA.cons (DE.var 3) DA.nil))))
        (DS.seq (DS.ifs (DT.tr (DE.op Op2.ix (DE.var 2) (DE.var 3)))
        (DS.raise (DA.cons (DE.var 3) DA.nil))
        DS.next)
        (DS.setI (DE.c fun _ => .bl _) (DE.var 3))))))) (c := 2) (fun ds Q X h => ?_)
    obtain ⟨ns, cs, r, ps, rfl, hg, hl, k⟩ := h
    refine ⟨rfl, ?_⟩
    have l1 := hg.p
    walk_at "d"
    refine ⟨ns, cs, r, rfl, hg, ?_⟩
    walk_at "d"
    refine ⟨by omega, ?_⟩
    walk_at "d"
    rw [rep1, Int.toNat_natCast, nm_zero cs.length ps]
    refine ⟨fun i δ => (∃ v, δ = [.val (hD A ns cs r), .val (.lst (li ps)), .own (nmO cs.length ps i), v]) ∧ fltK (flt cs.length (ps.take i) (ps.drop i)) (Q (.val .non)) (noP A X) (twP A X), ⟨⟨_, rfl⟩, k⟩, ?_, ?_⟩
    · rintro i d δ hd ⟨⟨v, rfl⟩, k⟩
      obtain ⟨hi, rfl⟩ := li_at hd
      rw [flt_step hi] at k
      walk_at "d"
      refine ⟨ns, cs, r, _, rfl, hg, ?_⟩
      rw [flt1]
      by_cases c1 : inR cs.length (ps.getD i 0)
      · rw [if_pos c1] at k ⊢
        show _ ∧ _
        refine ⟨trivial, ?_⟩
        walk_at "d"
        refine ⟨_, nm_at c1.1 c1.2, ?_⟩
        walk_at "d"
        by_cases c2 : ps.getD i 0 ∈ ps.take i
        · rw [if_pos c2] at k
          rw [decide_eq_true c2]
          walk_at "d"
          exact k
        · rw [if_neg c2] at k
          rw [decide_eq_false c2]
          walk_at "d"
          refine ⟨(ps.getD i 0).toNat, ?_, ?_⟩
          · unfold ixN; rw [if_pos c1.1, if_pos (by simpa [nmO] using c1.2)]
          · exact ⟨⟨_, by rw [nm_set hi c1.1 c1.2]⟩, k⟩
      · rw [if_neg c1] at k ⊢
        exact k
    · rintro δ ⟨⟨v, rfl⟩, k⟩
      rw [li_len, List.drop_length] at k
      exact k
abbrev s_arrivals : Stmt := topS 17
theorem sc_arrivals : FnScope (["house", "people", "counts", "person"] : List Str) (["house", "people"] : List Str) (defScope s_arrivals) := ⟨rfl, rfl, rfl, by decide +kernel, rfl, by decide +kernel, by decide +kernel⟩
theorem ok_arrivals {f : Addr} {fd : FuncData} (F : Fun K "arrivals" "arrivals" s_arrivals f fd) (B : Blt mg) (T : Tx K mg A) (R_nights : PrAt P w K mg base 3 A.c_House "nights" (spP K (dsNights A))) : FnOk P w K mg base (L2.CX P w) 5 f fd (["house", "people"] : List Str) (spP K (dsArr A)) := by
  refine F.okX sc_arrivals (fun vs H Q E h => ?_) (fun cdv W outer s H vs Q E hr h => ?_)
  · refine spP_len (fun ds Q X h => ?_) h
    obtain ⟨ns, cs, r, ps, rfl, _⟩ := h; rfl
  · have nd := sc_arrivals.nd
    have hu := hr.units
    refine ⟨_, by exact (pss_cons (ps_st 2 nd (pe_op oa_mul (pe_lst (pa_cons pe_int pa_nil)) (pe_op oa_add (pe_pr R_nights (hr.mono (by first | decide | omega)) (pv 0)) pe_int)))
        (pss_cons (ps_for (passes_of rfl) rfl (pi_seq (pv 1)) (pg_n 3 nd)
        (pss_one (ps_augS (pv 2) (pe_op oa_sub (pe_ix oa_ix (pe_fld (pv 0) rfl) (pv 3) (fun _ _ => rfl)) pe_int) pget_list pe_int ip_add set_list)))
        (pss_one (ps_ret (pv 2))))), ?_⟩
    refine enterP h (fun pa => (DS.seq (DS.asg (DE.op Op2.mul (DE.lst (DA.cons (DE.c fun _ => .int _) DA.nil)) (DE.op Op2.add (DE.prop (DE.var 0)) (DE.c fun _ => .int _))))
        (DS.seq (DS.for_ (DI.seq (DE.var 1)) (DG.name 3)
        (DS.augS (DE.op Op2.sub (DE.op Op2.ix (DE.fld (DE.var 0)) (DE.var 3)) (DE.c fun _ => .int _)) (DE.c fun _ => .int _)))
        (DS.ret (DE.var 2))))) (c := 2) (fun ds Q X h => ?_)
    obtain ⟨ns, cs, r, ps, rfl, hg, hl, hp, k⟩ := h
    refine ⟨rfl, ?_⟩
    have l1 := hg.w.1
    walk_at "d"
    refine ⟨ns, cs, r, rfl, hg, ?_⟩
    walk_at "d"
    refine ⟨by omega, ?_⟩
    walk_at "d"
    have ez : List.replicate ((ns.length : Int) + 1).toNat (D.int 0) = li (arrL cs (ps.take 0) ns.length) := by
      have e0 : ((ns.length : Int) + 1).toNat = ns.length + 1 := by omega
      rw [e0]
      apply List.ext_getElem?
      intro j
      by_cases h : j < ns.length + 1
      · simp [arrL, csP, h, li]
      · rw [List.getElem?_eq_none (by simpa using h), List.getElem?_eq_none (by simpa [arrL, li] using h)]
    rw [rep1, ez]
    refine ⟨fun i δ => (∃ v, δ = [.val (hD A ns cs r), .val (.lst (li ps)), .own (li (arrL cs (ps.take i) ns.length)), v]), ⟨_, rfl⟩, ?_, ?_⟩
    · rintro i d δ hd ⟨v, rfl⟩
      obtain ⟨hi, rfl⟩ := li_at hd
      obtain ⟨p0, p1⟩ := hp _ (li_mem hi)
      have hlt : (ps.getD i 0).toNat < cs.length := by omega
      obtain ⟨c0, c1⟩ := hg.c _ (li_mem hlt)
      have al : (arrL cs (ps.take i) ns.length).length = ns.length + 1 := by simp [arrL]
      walk_at "d"
      refine ⟨_, atI_li p0 p1, ?_⟩
      walk_at "d"
      obtain ⟨q, hq⟩ : ∃ q : Nat, cs.getD (ps.getD i 0).toNat 0 = (q : Int) + 1 := ⟨(cs.getD (ps.getD i 0).toNat 0 - 1).toNat, by omega⟩
      have eq : cs.getD (ps.getD i 0).toNat 0 - 1 = (q : Int) := by omega
      have hqn : q < ns.length + 1 := by omega
      rw [eq]
      refine ⟨_, arr_at' hqn, ?_⟩
      walk_at "d"
      refine ⟨q, ?_, ?_⟩
      · unfold ixN; rw [if_pos (by omega), if_pos (by rw [al]; omega), Int.toNat_natCast]
      · exact ⟨_, by rw [li_set, arr_step hi hq hqn]⟩
    · rintro δ ⟨v, rfl⟩
      rw [li_len, List.take_length]
      walk_at "d"
      exact k
abbrev s_first_choice : Stmt := topS 18
theorem sc_first_choice : FnScope (["house", "people", "coming", "counts", "here", "resting", "index", "want", "count"] : List Str) (["house", "people"] : List Str) (defScope s_first_choice) := ⟨rfl, rfl, rfl, by decide +kernel, rfl, by decide +kernel, by decide +kernel⟩
theorem ok_first_choice {f : Addr} {fd : FuncData} (F : Fun K "first_choice" "first_choice" s_first_choice f fd) (B : Blt mg) (T : Tx K mg A) {fL_Wants fI_Wants : Addr} {fdL_Wants fdI_Wants : FuncData} (O : OwnC P w K mg base A.c_Wants "numbers" fL_Wants fI_Wants fdL_Wants fdI_Wants (spP K (dspLen A.c_Wants "numbers"))) (C_check_people : FnAt P w K mg base 4 "check_people" (["house", "people"] : List Str) (spP K (dsCkPeople A))) (C_arrivals : FnAt P w K mg base 5 "arrivals" (["house", "people"] : List Str) (spP K (dsArr A))) : FnOk P w K mg base (L2.CX P w) 6 f fd (["house", "people"] : List Str) (spP K (dsFirst A)) := by
  refine F.okX sc_first_choice (fun vs H Q E h => ?_) (fun cdv W outer s H vs Q E hr h => ?_)
  · refine spP_len (fun ds Q X h => ?_) h
    obtain ⟨ns, cs, r, ps, rfl, _⟩ := h; rfl
  · have nd := sc_first_choice.nd
    have hu := hr.units
    refine ⟨_, by exact (pss_cons (ps_expr (pe_fn C_check_people (hr.mono (by first | decide | omega)) (passE (takes_of rfl rfl rfl rfl) (fun _ _ _ _ h => h)) (pa_cons (pv 0) (pa_cons (pv 1) pa_nil))))
        (pss_cons (ps_st 2 nd (pe_fn C_arrivals (hr.mono (by first | decide | omega)) passL (pa_cons (pv 0) (pa_cons (pv 1) pa_nil))))
        (pss_cons (ps_st 3 nd (pe_lst pa_nil))
        (pss_cons (ps_st 4 nd pe_int)
        (pss_cons (ps_st 5 nd pe_int)
        (pss_cons (ps_for (passes_of rfl) rfl (pi_enumO O.it O.itOk O.itB (hr.mono (by first | decide | omega)) rfl B.enumerate (pa_cons (pe_fld (pv 0) rfl) pa_nil)) (pg_tup (n := 2) rfl (pgs_cons (pg_n 6 nd) (pgs_cons (pg_n 7 nd) pgs_nil)))
        (pss_cons (ps_aug (i := 4) nd rfl (by first | exact Or.inl rfl | exact Or.inr rfl) (pe_ix oa_ix (pv 2) (pv 6) (fun _ _ => rfl)) ip_add)
        (pss_cons (ps_if (pt_cmpR oa_gt (pv 6) (pe_fld (pv 0) rfl) (nomark _))
        (pss_one (ps_aug (i := 5) nd rfl (by first | exact Or.inl rfl | exact Or.inr rfl) (pe_ix oa_ix (pv 3) (pe_op oa_sub (pe_op oa_sub (pv 6) (pe_fld (pv 0) rfl)) pe_int) (fun _ _ => rfl)) ip_sub))
        pss_nil)
        (pss_cons (ps_st 8 nd (pe_callB (ca_min rfl) (by rfl) B.min bt_min (pa_cons (pv 7) (pa_cons (pe_op oa_sub (pv 4) (pv 5)) pa_nil))))
        (pss_cons (ps_expr (pe_bm PySem.F.plainAttrs_list PySem.F.slot_list_append PySem.F.type_list_append mt_append (pv 3) (pa_cons (pv 8) pa_nil)))
        (pss_one (ps_aug (i := 5) nd rfl (by first | exact Or.inl rfl | exact Or.inr rfl) (pv 8) ip_add)))))))
        (pss_one (ps_ret (pv 3))))))))), ?_⟩
    refine enterP h (fun pa => (DS.seq (DS.drop (DE.call (fun _ _ _ _ h => h) (DA.cons (DE.var 0) (DA.cons (DE.var 1) DA.nil))))
        (DS.seq (DS.asg (DE.call0 (DA.cons (DE.var 0) (DA.cons (DE.var 1) DA.nil))))
        (DS.seq (DS.asg (DE.lst DA.nil))
        (DS.seq (DS.asg (DE.c fun _ => .int _))
        (DS.seq (DS.asg (DE.c fun _ => .int _))
        (DS.seq (DS.for_ (DI.enumO (DA.cons (DE.fld (DE.var 0)) DA.nil)) (DG.tup (DGs.cons (DG.name 6) (DGs.cons (DG.name 7) DGs.nil)))
        (DS.seq (DS.aug (DE.op Op2.ix (DE.var 2) (DE.var 6)))
        (DS.seq (DS.ifs (DT.test (DE.op Op2.cmp (DE.var 6) (DE.fld (DE.var 0))))
        (DS.aug (DE.op Op2.ix (DE.var 3) (DE.op Op2.sub (DE.op Op2.sub (DE.var 6) (DE.fld (DE.var 0))) (DE.c fun _ => .int _))))
        DS.next)
        (DS.seq (DS.asg (DE.cb CallO.min (DA.cons (DE.var 7) (DA.cons (DE.op Op2.sub (DE.var 4) (DE.var 5)) DA.nil))))
        (DS.seq (DS.drop (DE.app (DA.cons (DE.var 8) DA.nil)))
        (DS.aug (DE.var 8)))))))
        (DS.ret (DE.var 3))))))))) (c := 7) (fun ds Q X h => ?_)
    obtain ⟨ns, cs, r, ps, rfl, hg, hl, k⟩ := h
    refine ⟨rfl, ?_⟩
    have l1 := hg.w.1
    walk_at "d"
    refine ⟨ns, cs, r, ps, rfl, hg, hl, ?_⟩
    cases hf : flt cs.length [] ps with
    | some z =>
      rw [hf] at k
      rcases z with ⟨b, x⟩
      cases b <;> exact k
    | none =>
    rw [hf] at k
    have hp := flt_ok hf
    refine ⟨trivial, ?_⟩
    walk_at "d"
    refine ⟨ns, cs, r, ps, rfl, hg, hl, hp, ?_⟩
    walk_at "d"
    have h0 : ((hereN (csP cs ps) ((0 : Nat) : Int) : Nat) : Int) = 0 := by
      have : hereN (csP cs ps) 0 = 0 := here_zero _ fun c hc => by
        obtain ⟨p, hp', rfl⟩ := List.mem_map.mp hc
        obtain ⟨p0, p1⟩ := hp p hp'
        exact (hg.c _ (li_mem (by omega))).1
      rw [show ((0 : Nat) : Int) = 0 from rfl, this]; rfl
    refine ⟨fun i δ => ∃ v1 v2 v3, δ = [.val (hD A ns cs r), .val (.lst (li ps)), .own (li (arrL cs ps ns.length)), .own (li (gr ns (csP cs ps) r i)), .val (.int (hereN (csP cs ps) (i : Nat))), .val (.int (rst ns (csP cs ps) r i)), v1, v2, v3], ⟨_, _, _, by rw [h0, rst_zero]; rfl⟩, ?_, ?_⟩
    · rintro i d δ hd ⟨v1, v2, v3, rfl⟩
      obtain ⟨hi, rfl⟩ := enum_li hd
      have gl := gr_len ns (csP cs ps) r i
      walk_at "d"
      refine ⟨_, arr_at' (by omega), ?_⟩
      walk_at "d"
      rw [arr_at (by omega), ← here_step (csP cs ps) i]
      have glr : (gr ns (csP cs ps) r i).length = i := gl
      refine c_br (fun c1 => ?_) (fun c1 => ?_)
      · walk_at "d"
        have e : (i : Int) - r - 1 = ((i - r - 1 : Nat) : Int) := by omega
        rw [e]
        refine ⟨_, atI_li (by omega) (by omega), ?_⟩
        walk_at "d"
        rw [Int.toNat_natCast, rst_sub (by omega)]
        refine ⟨by omega, ?_⟩
        exact ⟨_, _, _, by rw [li_snoc, gr_snoc, rst_succ]; rfl⟩
      · walk_at "d"
        rw [rst_keep (by omega)]
        refine ⟨by omega, ?_⟩
        exact ⟨_, _, _, by rw [li_snoc, gr_snoc, rst_succ]; rfl⟩
    · rintro δ ⟨v1, v2, v3, rfl⟩
      rw [enum_len, li_len]
      walk_at "d"
      exact k
abbrev s_room_left : Stmt := topS 19
theorem sc_room_left : FnScope (["house", "people", "want", "count"] : List Str) (["house", "people"] : List Str) (defScope s_room_left) := ⟨rfl, rfl, rfl, by decide +kernel, rfl, by decide +kernel, by decide +kernel⟩
theorem ok_room_left {f : Addr} {fd : FuncData} (F : Fun K "room_left" "room_left" s_room_left f fd) (B : Blt mg) (T : Tx K mg A) {fL_Wants fI_Wants : Addr} {fdL_Wants fdI_Wants : FuncData} (O : OwnC P w K mg base A.c_Wants "numbers" fL_Wants fI_Wants fdL_Wants fdI_Wants (spP K (dspLen A.c_Wants "numbers"))) (C_first_choice : FnAt P w K mg base 6 "first_choice" (["house", "people"] : List Str) (spP K (dsFirst A))) : FnOk P w K mg base (L2.CX P w) 7 f fd (["house", "people"] : List Str) (spP K (dsRoom A)) := by
  refine F.okX sc_room_left (fun vs H Q E h => ?_) (fun cdv W outer s H vs Q E hr h => ?_)
  · refine spP_len (fun ds Q X h => ?_) h
    obtain ⟨ns, cs, r, ps, rfl, _⟩ := h; rfl
  · have nd := sc_room_left.nd
    have hu := hr.units
    refine ⟨_, by exact (pss_one (ps_ret (pe_lc (own := [("want", 2), ("count", 3)]) (g := gTup K 2 (gCons (gName 2) (gCons (gName 3) gNil))) (tt := tYes) rfl nd (pi_zipO O.it O.itOk O.itB (hr.mono (by first | decide | omega)) rfl B.zip (pa_cons (pe_fld (pv 0) rfl) (pa_cons (pe_fn C_first_choice (hr.mono (by first | decide | omega)) (passE (takes_of rfl rfl rfl rfl) (fun _ _ _ _ h => h)) (pa_cons (pv 0) (pa_cons (pv 1) pa_nil))) pa_nil))) (blkOk_by (N := (["house", "people", "want", "count"] : List Str)) (sc := defScope (topS 19)) (by decide +kernel)) (fun _ _ _ _ _ => (pg_tup (n := 2) rfl (pgs_cons (pg_n 2 nd) (pgs_cons (pg_n 3 nd) pgs_nil)))) (fun _ _ _ _ _ => pts_nil) (fun _ _ _ _ _ => (pe_op oa_sub (pv 2) (pv 3)))))), ?_⟩
    refine enterP h (fun pa => (DS.ret (DE.lc (DI.zipO (DA.cons (DE.fld (DE.var 0)) (DA.cons (DE.call (fun _ _ _ _ h => h) (DA.cons (DE.var 0) (DA.cons (DE.var 1) DA.nil))) DA.nil))) (DG.tup (DGs.cons (DG.name 2) (DGs.cons (DG.name 3) DGs.nil))) (by decide) DT.yes (DE.op Op2.sub (DE.var 2) (DE.var 3))))) (c := 2) (fun ds Q X h => ?_)
    obtain ⟨ns, cs, r, ps, rfl, hg, hl, k⟩ := h
    refine ⟨rfl, ?_⟩
    have l1 := hg.w.1
    walk_at "d"
    refine ⟨ns, cs, r, ps, rfl, hg, hl, ?_⟩
    cases hf : flt cs.length [] ps with
    | some z =>
      rw [hf] at k
      rcases z with ⟨b, x⟩
      cases b <;> exact k
    | none =>
    rw [hf] at k
    refine ⟨trivial, ?_⟩
    walk_at "d"
    have fl : (fc ns cs ps r).length = ns.length := gr_len _ _ _ _
    refine lc_map (fun i => .int (ns.getD i 0 - (fc ns cs ps r).getD i 0)) ?_ rfl ?_ ?_
    · rw [zip_len, li_len, li_len]; omega
    · intro i d N hd hN
      obtain ⟨e, f, h1, h2, rfl⟩ := zip_at hd
      obtain ⟨h3, rfl⟩ := li_at h1
      obtain ⟨h4, rfl⟩ := li_at h2
      walk_at "d"
      exact hN _ rfl
    · rw [zip_len, li_len, li_len, fl, Nat.min_self]
      walk_at "d"
      have e : (List.range ns.length).map (fun i => D.int (ns.getD i 0 - (fc ns cs ps r).getD i 0)) = li (subL ns (fc ns cs ps r)) := by
        unfold li subL
        apply List.ext_getElem
        · simp [fl]
        · intro i h1 h2
          have h1' : i < ns.length := by simpa using h1
          have h3 : i < (fc ns cs ps r).length := by omega
          simp [h1', h3]
      rw [e]
      exact k
abbrev s_growth : Stmt := topS 21
theorem sc_growth : FnScope (["house", "people", "person", "room", "nights", "free_from", "night"] : List Str) (["house", "people", "person"] : List Str) (defScope s_growth) := ⟨rfl, rfl, rfl, by decide +kernel, rfl, by decide +kernel, by decide +kernel⟩
theorem ok_growth {f : Addr} {fd : FuncData} (F : Fun K "growth" "growth" s_growth f fd) (B : Blt mg) (T : Tx K mg A) (hfile : ((P.main.file : Str) == "/claim/cut.py") = true) (htop : (P.main.scope.names.lookup ("super" : Str)).isSome = false) (R_nights : PrAt P w K mg base 3 A.c_House "nights" (spP K (dsNights A))) (C_room_left : FnAt P w K mg base 7 "room_left" (["house", "people"] : List Str) (spP K (dsRoom A))) (C_check_person : FnAt P w K mg base 3 "check_person" (["house", "person"] : List Str) (spP K (dsCkPerson A))) : FnOk P w K mg base (L2.CX P w) 8 f fd (["house", "people", "person"] : List Str) (spP K (dsGrowth A)) := by
  refine F.okX sc_growth (fun vs H Q E h => ?_) (fun cdv W outer s H vs Q E hr h => ?_)
  · refine spP_len (fun ds Q X h => ?_) h
    obtain ⟨ns, cs, r, ps, p, rfl, _⟩ := h; rfl
  · have nd := sc_growth.nd
    have hu := hr.units
    refine ⟨_, by exact (pss_cons (ps_st 3 nd (pe_fn C_room_left (hr.mono (by first | decide | omega)) (passE (takes_of rfl rfl rfl rfl) (fun _ _ _ _ h => h)) (pa_cons (pv 0) (pa_cons (pv 1) pa_nil))))
        (pss_cons (ps_expr (pe_fn C_check_person (hr.mono (by first | decide | omega)) (passE (takes_of rfl rfl rfl rfl) (fun _ _ _ _ h => h)) (pa_cons (pv 0) (pa_cons (pv 2) pa_nil))))
        (pss_cons (ps_if (pt_cmpR op_in_seq (pv 2) (pv 1) rfl)
        (pss_one (ps_raise rfl (takes_of rfl rfl rfl rfl) (pmk_err T.x_NamedTwice.txt (by simp) (by decide) (by decide +kernel) hfile htop B.super hr T.x_NamedTwice.g (pa_cons (pv 2) pa_nil))))
        pss_nil)
        (pss_cons (ps_st 4 nd (pe_lst pa_nil))
        (pss_cons (ps_st 5 nd (pe_ix oa_ix (pe_fld (pv 0) rfl) (pv 2) (fun _ _ => rfl)))
        (pss_cons (ps_for (passes_of rfl) rfl (pi_range2 rfl B.range (pa_cons pe_int (pa_cons (pe_op oa_add (pe_pr R_nights (hr.mono (by first | decide | omega)) (pv 0)) pe_int) pa_nil))) (pg_n 6 nd)
        (pss_one (ps_if (PW.pt (pw_and (pt_cmpR oa_ge (pv 6) (pv 5) (nomark _)) (pw_and1 (pt_cmpR oa_gt (pe_ix oa_ix (pv 3) (pe_op oa_sub (pv 6) pe_int) (fun _ _ => rfl)) pe_int (nomark _)))))
        (pss_cons (ps_expr (pe_bm PySem.F.plainAttrs_list PySem.F.slot_list_append PySem.F.type_list_append mt_append (pv 4) (pa_cons (pv 6) pa_nil)))
        (pss_one (ps_st 5 nd (pe_op oa_add (pe_op oa_add (pv 6) (pe_fld (pv 0) rfl)) pe_int))))
        pss_nil)))
        (pss_one (ps_ret (pv 4))))))))), ?_⟩
    refine enterP h (fun pa => (DS.seq (DS.asg (DE.call (fun _ _ _ _ h => h) (DA.cons (DE.var 0) (DA.cons (DE.var 1) DA.nil))))
        (DS.seq (DS.drop (DE.call (fun _ _ _ _ h => h) (DA.cons (DE.var 0) (DA.cons (DE.var 2) DA.nil))))
        (DS.seq (DS.ifs (DT.test (DE.op Op2.inn (DE.var 2) (DE.var 1)))
        (DS.raise (DA.cons (DE.var 2) DA.nil))
        DS.next)
        (DS.seq (DS.asg (DE.lst DA.nil))
        (DS.seq (DS.asg (DE.op Op2.ix (DE.fld (DE.var 0)) (DE.var 2)))
        (DS.seq (DS.for_ (DI.rg2 (DA.cons (DE.c fun _ => .int _) (DA.cons (DE.op Op2.add (DE.prop (DE.var 0)) (DE.c fun _ => .int _)) DA.nil))) (DG.name 6)
        (DS.ifs (DT.and (DT.test (DE.op Op2.cmp (DE.var 6) (DE.var 5))) (DT.test (DE.op Op2.cmp (DE.op Op2.ix (DE.var 3) (DE.op Op2.sub (DE.var 6) (DE.c fun _ => .int _))) (DE.c fun _ => .int _))))
        (DS.seq (DS.drop (DE.app (DA.cons (DE.var 6) DA.nil)))
        (DS.asg (DE.op Op2.add (DE.op Op2.add (DE.var 6) (DE.fld (DE.var 0))) (DE.c fun _ => .int _))))
        DS.next))
        (DS.ret (DE.var 4))))))))) (c := 4) (fun ds Q X h => ?_)
    obtain ⟨ns, cs, r, ps, p, rfl, hg, hl, k⟩ := h
    refine ⟨rfl, ?_⟩
    have l1 := hg.w.1
    walk_at "d"
    refine ⟨ns, cs, r, ps, rfl, hg, hl, ?_⟩
    rw [flt_snoc] at k
    cases hf : flt cs.length [] ps with
    | some z =>
      rw [hf] at k
      rcases z with ⟨b, x⟩
      cases b <;> exact k
    | none =>
    rw [hf, List.nil_append] at k
    simp only [Option.orElse] at k
    refine ⟨trivial, ?_⟩
    walk_at "d"
    refine ⟨ns, cs, r, p, rfl, hg, ?_⟩
    rw [flt1]
    unfold flt at k
    by_cases c1 : inR cs.length p
    · rw [if_pos c1] at k ⊢
      show _ ∧ _
      refine ⟨trivial, ?_⟩
      walk_at "d"
      refine ⟨fl_li, ?_⟩
      rw [inP_li]
      by_cases c2 : p ∈ ps
      · rw [if_pos c2] at k
        rw [decide_eq_true c2]
        walk_at "d"
        exact k
      · rw [if_neg c2] at k
        rw [decide_eq_false c2]
        walk_at "d"
        refine ⟨_, atI_li c1.1 c1.2, ?_⟩
        walk_at "d"
        refine ⟨ns, cs, r, rfl, hg, ?_⟩
        walk_at "d"
        have fl : (fc ns cs ps r).length = ns.length := fc_len
        refine ⟨by omega, fun i δ => ∃ v, δ = [.val (hD A ns cs r), .val (.lst (li ps)), .val (.int p), .own (li (subL ns (fc ns cs ps r))), .own (li (gst (room ns (fc ns cs ps r)) (cs.getD p.toNat 0) r i).1), .val (.int (gst (room ns (fc ns cs ps r)) (cs.getD p.toNat 0) r i).2), v], ⟨_, rfl⟩, ?_, ?_⟩
        · rintro i d δ hd ⟨v, rfl⟩
          obtain ⟨hi, rfl⟩ := rng_li hd
          have hi : i < ns.length := by omega
          have gl := gst_len (ok := room ns (fc ns cs ps r)) (c := cs.getD p.toNat 0) (r := r) i
          have e1 : (1 : Int) + (i : Nat) = (i : Int) + 1 := by omega
          rw [e1]
          walk_at "d"
          rw [show gst (room ns (fc ns cs ps r)) (cs.getD p.toNat 0) r (i + 1) = if (gst (room ns (fc ns cs ps r)) (cs.getD p.toNat 0) r i).2 ≤ (i : Int) + 1 ∧ room ns (fc ns cs ps r) i = true then ((gst (room ns (fc ns cs ps r)) (cs.getD p.toNat 0) r i).1 ++ [(i : Int) + 1], (i : Int) + 1 + r + 1) else gst (room ns (fc ns cs ps r)) (cs.getD p.toNat 0) r i from rfl]
          generalize gst (room ns (fc ns cs ps r)) (cs.getD p.toNat 0) r i = g at gl ⊢
          obtain ⟨ga, gb⟩ := g
          have gl : ga.length ≤ i := gl
          refine c_aK (fun c3 => ?_) (fun c3 => ?_)
          · walk_at "d"
            have e2 : (i : Int) + 1 - 1 = (i : Nat) := by omega
            rw [e2]
            refine ⟨_, atI_li (by omega) (by rw [sub_len fl]; omega), ?_⟩
            rw [Int.toNat_natCast, sub_at hi fl]
            walk_at "d"
            refine c_br (fun c4 => ?_) (fun c4 => ?_)
            · rw [if_pos ⟨c3, decide_eq_true (by omega)⟩]
              walk_at "d"
              refine ⟨by omega, ?_⟩
              exact ⟨_, by rw [li_snoc]⟩
            · rw [if_neg (fun z => c4 (by have := of_decide_eq_true z.2; omega))]
              walk_at "d"
              exact ⟨_, rfl⟩
          · rw [if_neg (fun z => c3 z.1)]
            walk_at "d"
            exact ⟨_, rfl⟩
        · rintro δ ⟨v, rfl⟩
          have e0 : ((ns.length : Int) + 1 - 1).toNat = ns.length := by omega
          rw [rng_len, e0]
          walk_at "d"
          exact k
    · rw [if_neg c1] at k ⊢
      exact k
end
end Nk
namespace Nk
open PySem L2 DL Hse
local macro_rules | `(tactic| walk_at "s") => `(tactic| try simp (decide := true) only [L2.cxK, L2.s_seq, L2.s_next, L2.s_brk, L2.s_cont, L2.s_drop, L2.s_ret, L2.s_retN, L2.s_ifS, L2.s_br1, L2.s_br0, L2.s_asg, L2.s_asI, L2.s_asB, L2.s_asN, L2.s_asS, L2.s_asR, L2.s_gName, L2.s_gSub, L2.s_var, L2.s_C, L2.s_op, L2.s_un, L2.s_chain, L2.s_test, L2.s_B, L2.s_and, L2.s_aB1, L2.s_aB0, L2.s_or, L2.s_oB1, L2.s_oB0, L2.s_not, L2.s_andV, L2.s_aE1, L2.s_aE0, L2.s_orV, L2.s_oE1, L2.s_oE0, L2.s_notV, L2.s_nE, L2.s_if, L2.s_iE1, L2.s_iE0, L2.s_tr, L2.s_trB, L2.s_trI, L2.s_trN, L2.s_nil, L2.s_cons, L2.s_CB, L2.s_call, L2.s_callS, L2.s_sl, L2.s_part, L2.s_noPart, L2.s_lst, L2.s_mk, L2.s_xf, L2.s_for, L2.s_lc, L2.s_rng1, L2.s_rng2, L2.s_rng3, L2.s_enum, L2.s_zip, L2.s_zip3, L2.s_yes, L2.s_lstRg, L2.s_lcC1, L2.s_lcC0, L2.s_mkK, L2.s_meth, L2.s_prop, L2.s_fld, L2.s_stF, L2.s_cv, L2.s_enumA, L2.s_enumO, L2.s_own, L2.s_aug, L2.v_aug, L2.s_augS, L2.s_seqI, L2.s_tup, L2.s_BM, L2.s_BM0, L2.v_addI, L2.v_subI, L2.v_mulI, L2.v_divI, L2.v_modI, L2.v_powI, L2.v_negI, L2.v_cmp, L2.v_eqI, L2.v_eqS, L2.v_neS, L2.v_neI, L2.v_isN, L2.v_isB, L2.v_isnotN, L2.v_isnotB, L2.v_int, L2.v_abs, L2.v_max2, L2.v_min2, L2.le_line, List.set_cons_succ, List.set_cons_zero, List.getElem?_cons_succ, List.getElem?_cons_zero, Option.some.injEq, exists_eq_left', V.bl.injEq, V.int.injEq, true_and, and_true, Bool.not_true, Bool.not_false, if_true, if_false, Bool.false_eq_true, List.append_nil, reduceCtorEq, decide_true, decide_false, ne_eq, not_false_eq_true, Int.reduceToNat, Int.reducePow, Int.reduceMul, Int.reduceAdd, Int.reduceSub, Int.reduceNeg, Nat.reduceAdd, List.length_cons, List.length_nil, List.nil_append, List.cons_append])
local macro_rules | `(tactic| walk_at "d") => `(tactic| try simp (decide := true) (implicitDefEqProofs := false) only [DL.q_0, DL.q_1, DL.q_2, DL.q_3, DL.q_4, DL.q_5, DL.q_6, DL.q_7, DL.q_8, DL.q_9, DL.q_10, DL.q_11, DL.q_12, DL.q_13, DL.q_14, DL.q_15, DL.q_16, DL.q_17, DL.q_18, DL.q_19, DL.q_20, DL.q_21, DL.q_22, DL.q_23, DL.q_24, DL.q_25, DL.q_26, DL.q_27, DL.q_28, DL.q_29, DL.q_30, DL.q_31, DL.q_32, DL.q_33, DL.q_34, DL.o_0, DL.o_1, DL.o_2, DL.o_3, DL.o_4, DL.o_5, DL.o_6, DL.o_7, DL.o_8, DL.o_9, DL.o_10, DL.o_11, DL.o_19, DL.o_12, DL.o_13, DL.o_14, DL.o_15, DL.o_16, DL.o_17, DL.o_18, DL.clo_li, DL.noLs_li, List.map_cons, List.map_nil, DL.dCallT, DL.dCallT0, DL.dTupO, DL.dMv, DL.o_20, DL.o_21, DL.o_22, DL.noL, DL.noLs, DL.noLf, DL.noX, DL.x_0, DL.x_1, DL.x_2, DL.x_3, DL.x_4, DL.x_5, DL.x_6, DL.iZpO, DL.zpOK, DL.y_0, DL.y_1, DL.y_2, DL.y_3, DL.y_4, DL.y_5, DL.y_6, DL.y_7, DL.y_8, DL.y_9, DL.y_10, DL.y_11, DL.y_12, DL.y_13, DL.y_14, DL.y_15, DL.dOp, DL.dUn, DL.dVar, DL.dC, DL.dRaw, DL.dTest, DL.dTr, DL.dAnd, DL.dOr, DL.dNot, DL.dYes, DL.dAndV, DL.dOrV, DL.dNotV, DL.dIf, DL.dChain, DL.dNil, DL.dCons, DL.dLst, DL.dTup, DL.dCB, DL.dSl, DL.dPart, DL.dNoPart, DL.dLr, DL.dApp, DL.dExt, DL.iSeqD, DL.iRg1, DL.iRg2, DL.iRg3, DL.iEnD, DL.iZpD, DL.iOwnD, DL.iEnO, DL.dLc, DL.dFld, DL.dCall, DL.dCall0, DL.dCallM, DL.dCallM0, DL.dMkK, DL.dMkK0, DL.dProp, DL.dMeth, DL.dMeth0, DL.dLenO, DL.e_br1, DL.e_br0, DL.e_aK1, DL.e_aK0, DL.e_oK1, DL.e_oK0, DL.e_aV1, DL.e_aV0, DL.e_oV1, DL.e_oV0, DL.e_if1, DL.e_if0, DL.e_ch1, DL.e_ch0, DL.e_lc1, DL.e_lc0, DL.intsOf_li, DL.li_len, DL.z_0, DL.z_1, DL.z_2, DL.z_3, DL.z_4, DL.z_5, DL.z_6, DL.z_7, DL.z_8, DL.z_9, DL.z_10, DL.z_11, DL.z_12, DL.z_13, DL.z_14, DL.z_15, DL.z_16, DL.z_17, DL.z_18, DL.z_19, DL.z_20, DL.z_21, DL.z_22, DL.z_23, DL.z_24, DL.z_25, DL.z_26, DL.z_27, DL.z_28, DL.z_29, DL.z_30, DL.z_31, DL.z_32, DL.z_33, DL.z_34, DL.z_35, DL.z_36, DL.z_37, DL.z_38, DL.z_39, DL.z_40, DL.z_41, DL.z_42, DL.z_43, DL.z_44, DL.z_45, DL.z_46, DL.z_47, DL.z_48, DL.z_49, DL.z_50, DL.z_51, DL.z_52, DL.z_53, DL.z_54, DL.z_55, DL.z_56, DL.z_57, DL.z_58, DL.z_59, DL.z_60, DL.z_61, DL.z_62, DL.z_63, DL.z_64, DL.z_65, DL.z_66, DL.z_67, DL.z_68, DL.z_69, DL.z_70, DL.z_71, DL.z_72, DL.z_73, DL.z_74, DL.z_75, DL.z_76, DL.z_77, DL.z_78, DL.z_79, DL.z_80, DL.z_81, DL.z_82, DL.z_83, DL.z_84, DL.z_85, DL.z_86, DL.z_87, DL.z_88, DL.z_89, DL.z_90, DL.z_91, DL.z_92, DL.z_93, DL.z_94, DL.z_95, DL.z_96, DL.z_97, DL.z_98, DL.z_99, DL.z_100, DL.z_101, DL.z_102, DL.z_103, DL.z_104, DL.z_105, DL.z_106, DL.z_107, DL.z_108, DL.z_109, DL.z_110, DL.z_111, DL.z_112, DL.z_113, DL.z_114, DL.z_115, DL.z_116, DL.z_117, DL.z_118, DL.z_119, DL.z_120, DL.z_121, DL.z_122, DL.z_123, DL.z_124, DL.z_125, DL.z_126, DL.z_127, DL.z_128, DL.z_129, DL.z_130, DL.z_131, DL.z_132, DL.z_133, DL.z_134, DL.z_135, DL.z_136, DL.z_137, DL.z_138, DL.z_139, DL.z_140, DL.z_141, DL.z_142, DL.z_143, DL.z_144, DL.z_145, DL.z_146, DL.z_147, DL.z_148, DL.z_149, DL.z_150, DL.z_151, DL.z_152, DL.z_153, DL.z_154, DL.z_155, DL.z_156, DL.z_157, DL.z_158, DL.z_159, DL.z_160, DL.z_161, DL.z_162, DL.z_163, DL.z_164, DL.z_165, DL.z_166, DL.z_167, DL.z_168, DL.z_169, DL.z_170, DL.z_171, DL.z_172, DL.z_173, DL.z_174, DL.z_175, List.set_cons_zero, List.set_cons_succ, List.getElem?_cons_zero, List.getElem?_cons_succ, List.length_cons, List.length_nil, List.length_set, Option.bind_some, Option.bind_none, List.map_cons, List.map_nil, List.nil_append, List.cons_append, List.append_nil, List.getD_cons_zero, List.getD_cons_succ, DL.lk_hit, DL.lk_miss, DL.lk_nil, DL.z_176, DL.bq_t, DL.bq_f, decide_true, decide_false, true_and, and_true, Bool.not_true, Bool.not_false, if_true, ite_true, ite_false, Nat.zero_add, Nat.add_zero, Nat.reduceAdd, Nat.reduceLT, Int.reduceLT, Int.reduceLE, Int.reduceNeg, Int.reduceEq, Int.reduceToNat, reduceIte, List.reduceReplicate, List.isEmpty_cons, List.isEmpty_nil, Int.reduceAdd, Int.reduceSub, Int.reduceMul, Int.reducePow, Bool.false_eq_true, String.reduceEq, String.reduceBEq, Bool.or_false, Bool.or_true, Bool.false_or, Bool.true_or, or_true, true_or, or_false, false_or])
section
variable {P : Program} {w : World} {K : PySem.W.Frag} {mg : Str → Option Value} {base : Heap} {A : Ad}
abbrev s__law_pool : Stmt := topS 32
theorem sc__law_pool : FnScope (["script", "at", "cell"] : List Str) (["script", "at"] : List Str) (defScope s__law_pool) := ⟨rfl, rfl, rfl, by decide +kernel, rfl, by decide +kernel, by decide +kernel⟩
theorem ok__law_pool {f : Addr} {fd : FuncData} (F : Fun K "_law_pool" "_law_pool" s__law_pool f fd) (B : Blt mg) : FnOk P w K mg base (L2.CX P w) 1 f fd (["script", "at"] : List Str) (spP K (dsPool)) := by
  refine F.okX sc__law_pool (fun vs H Q E h => ?_) (fun cdv W outer s H vs Q E hr h => ?_)
  · refine spP_len (fun ds Q X h => ?_) h
    obtain ⟨ns, i, rfl, _⟩ := h; rfl
  · have nd := sc__law_pool.nd
    have hu := hr.units
    refine ⟨_, by exact (pss_cons (ps_st 2 nd pe_int)
        (pss_cons (ps_if (pt_cmpR oa_lt (pv 1) (pe_callB ca_len (by rfl) B.len bt_len (pa_cons (pv 0) pa_nil)) (nomark _))
        (pss_one (ps_st 2 nd (pe_callB ca_abs (by rfl) B.abs bt_abs (pa_cons (pe_ix oa_ix (pv 0) (pv 1) (fun _ _ => rfl)) pa_nil))))
        pss_nil)
        (pss_cons (ps_if (pt_cmpR oa_ge (pv 2) (pe_op oa_pow pe_int pe_int) (nomark _))
        (pss_one (ps_ret (pe_lst (pa_cons (pe_op oa_sub (pv 2) (pe_op oa_pow pe_int pe_int)) (pa_cons pe_int (pa_cons pe_int pa_nil))))))
        pss_nil)
        (pss_one (ps_ret (pe_lst (pa_cons (pe_un oa_neg pe_int) (pa_cons (pe_op oa_mod (pe_callTy ca_int (by rfl) B.int bt_int (pa_cons (pv 2) pa_nil)) pe_int) (pa_cons (pe_op oa_add (pv 1) pe_int) pa_nil))))))))), ?_⟩
    refine enterP h (fun pa => (DS.seq (DS.asg (DE.c fun _ => .int _))
        (DS.seq (DS.ifs (DT.test (DE.op Op2.cmp (DE.var 1) (DE.cb CallO.len (DA.cons (DE.var 0) DA.nil))))
        (DS.asg (DE.cb CallO.abs (DA.cons (DE.op Op2.ix (DE.var 0) (DE.var 1)) DA.nil)))
        DS.next)
        (DS.seq (DS.ifs (DT.test (DE.op Op2.cmp (DE.var 2) (DE.op Op2.pow (DE.c fun _ => .int _) (DE.c fun _ => .int _))))
        (DS.ret (DE.lst (DA.cons (DE.op Op2.sub (DE.var 2) (DE.op Op2.pow (DE.c fun _ => .int _) (DE.c fun _ => .int _))) (DA.cons (DE.c fun _ => .int _) (DA.cons (DE.c fun _ => .int _) DA.nil)))))
        DS.next)
        (DS.ret (DE.lst (DA.cons (DE.un Op1.neg (DE.c fun _ => .int _)) (DA.cons (DE.op Op2.mod (DE.cb CallO.int (DA.cons (DE.var 2) DA.nil)) (DE.c fun _ => .int _)) (DA.cons (DE.op Op2.add (DE.var 1) (DE.c fun _ => .int _)) DA.nil))))))))) (c := 1) (fun ds Q X h => ?_)
    obtain ⟨ns, i, rfl, hi, k⟩ := h
    refine ⟨rfl, ?_⟩
    have fin : ∀ z : Int, (0 ≤ z % 2147483399 ∧ z % 2147483399 < 2147483648) := fun z => by omega
    walk_at "d"
    refine c_br (fun c => ?_) (fun c => ?_)
    · walk_at "d"
      refine ⟨⟨hi, c⟩, ?_⟩
      walk_at "d"
      refine c_br (fun c => ?_) (fun c => ?_) <;> walk_at "d"
      · exact k _ ⟨_, _, _, rfl, by decide, by decide⟩
      · exact k _ ⟨_, _, _, rfl, fin _⟩
    · walk_at "d"
      exact k _ ⟨_, _, _, rfl, fin _⟩
abbrev s__law_draw : Stmt := topS 33
theorem sc__law_draw : FnScope (["pool", "many", "value", "mixed"] : List Str) (["pool", "many"] : List Str) (defScope s__law_draw) := ⟨rfl, rfl, rfl, by decide +kernel, rfl, by decide +kernel, by decide +kernel⟩
theorem ok__law_draw {f : Addr} {fd : FuncData} (F : Fun K "_law_draw" "_law_draw" s__law_draw f fd) (B : Blt mg) : FnOk P w K mg base (L2.CX P w) 1 f fd (["pool", "many"] : List Str) (spM K (dsDraw)) := by
  refine F.okX sc__law_draw (fun vs H Q E h => ?_) (fun cdv W outer s H vs Q E hr h => ?_)
  · refine spM_len (fun es ds Q X h => ?_) h
    obtain ⟨m, rfl, _⟩ := h; rfl
  · have nd := sc__law_draw.nd
    have hu := hr.units
    refine ⟨_, by exact (pss_cons (ps_if (pt_cmpR oa_ge (pe_ix oa_ix (pv 0) pe_int (fun _ _ => rfl)) pe_int (nomark _))
        (pss_cons (ps_st 2 nd (pe_op oa_mod (pe_callTy ca_int (by rfl) B.int bt_int (pa_cons (pe_ix oa_ix (pv 0) pe_int (fun _ _ => rfl)) pa_nil)) (pv 1)))
        (pss_cons (ps_asg (pe_op oa_div (pe_ix oa_ix (pv 0) pe_int (fun _ _ => rfl)) (pv 1)) (pg_sub (pv 0) pe_int set_list))
        (pss_one (ps_ret (pv 2)))))
        pss_nil)
        (pss_cons (ps_asg (pe_op oa_add (pe_ix oa_ix (pv 0) pe_int (fun _ _ => rfl)) pe_int) (pg_sub (pv 0) pe_int set_list))
        (pss_cons (ps_st 3 nd (pe_ix oa_ix (pv 0) pe_int (fun _ _ => rfl)))
        (pss_cons (ps_st 3 nd (pe_op oa_mod (pe_callTy ca_int (by rfl) B.int bt_int (pa_cons (pe_op oa_add (pe_op oa_add (pe_op oa_mul (pv 3) (pv 3)) (pe_op oa_mul (pe_ix oa_ix (pv 0) pe_int (fun _ _ => rfl)) pe_int)) pe_int) pa_nil)) pe_int))
        (pss_cons (ps_st 3 nd (pe_op oa_mod (pe_callTy ca_int (by rfl) B.int bt_int (pa_cons (pe_op oa_add (pe_op oa_mul (pv 3) (pv 3)) (pe_op oa_div (pv 3) pe_int)) pa_nil)) pe_int))
        (pss_cons (ps_asg (pv 3) (pg_sub (pv 0) pe_int set_list))
        (pss_one (ps_ret (pe_op oa_mod (pe_callTy ca_int (by rfl) B.int bt_int (pa_cons (pe_op oa_div (pv 3) pe_int) pa_nil)) (pv 1)))))))))), ?_⟩
    refine enterM h (fun pa => (DS.seq (DS.ifs (DT.test (DE.op Op2.cmp (DE.op Op2.ix (DE.var 0) (DE.c fun _ => .int _)) (DE.c fun _ => .int _)))
        (DS.seq (DS.asg (DE.op Op2.mod (DE.cb CallO.int (DA.cons (DE.op Op2.ix (DE.var 0) (DE.c fun _ => .int _)) DA.nil)) (DE.var 1)))
        (DS.seq (DS.setI (DE.op Op2.div (DE.op Op2.ix (DE.var 0) (DE.c fun _ => .int _)) (DE.var 1)) (DE.c fun _ => .int _))
        (DS.ret (DE.var 2))))
        DS.next)
        (DS.seq (DS.setI (DE.op Op2.add (DE.op Op2.ix (DE.var 0) (DE.c fun _ => .int _)) (DE.c fun _ => .int _)) (DE.c fun _ => .int _))
        (DS.seq (DS.asg (DE.op Op2.ix (DE.var 0) (DE.c fun _ => .int _)))
        (DS.seq (DS.asg (DE.op Op2.mod (DE.cb CallO.int (DA.cons (DE.op Op2.add (DE.op Op2.add (DE.op Op2.mul (DE.var 3) (DE.var 3)) (DE.op Op2.mul (DE.op Op2.ix (DE.var 0) (DE.c fun _ => .int _)) (DE.c fun _ => .int _))) (DE.c fun _ => .int _)) DA.nil)) (DE.c fun _ => .int _)))
        (DS.seq (DS.asg (DE.op Op2.mod (DE.cb CallO.int (DA.cons (DE.op Op2.add (DE.op Op2.mul (DE.var 3) (DE.var 3)) (DE.op Op2.div (DE.var 3) (DE.c fun _ => .int _))) DA.nil)) (DE.c fun _ => .int _)))
        (DS.seq (DS.setI (DE.var 3) (DE.c fun _ => .int _))
        (DS.ret (DE.op Op2.mod (DE.cb CallO.int (DA.cons (DE.op Op2.div (DE.var 3) (DE.c fun _ => .int _)) DA.nil)) (DE.var 1)))))))))) (c := 2) (fun es ds Q X h => ?_)
    obtain ⟨m, rfl, ⟨a, b, c, rfl, hb, hb'⟩, hm, hm', k⟩ := h
    refine ⟨rfl, ?_⟩
    have h9 := log2_le hm hm'
    unfold poolD
    walk_at "d"
    refine ⟨_, rfl, ?_⟩
    walk_at "d"
    refine c_br (fun c0 => ?_) (fun c0 => ?_)
    · walk_at "d"
      refine ⟨_, rfl, ?_⟩
      walk_at "d"
      refine ⟨hm, ?_⟩
      refine ⟨_, rfl, ?_⟩
      walk_at "d"
      refine ⟨⟨hm, h9⟩, ?_⟩
      refine ⟨0, rfl, ?_⟩
      walk_at "d"
      exact k _ _ (Int.emod_nonneg _ (by omega)) (Int.emod_lt_of_pos _ hm) ⟨_, _, _, rfl, hb, hb'⟩
    · walk_at "d"
      refine ⟨_, rfl, ?_⟩
      walk_at "d"
      refine ⟨2, rfl, ?_⟩
      refine ⟨_, rfl, ?_⟩
      walk_at "d"
      refine ⟨.inl (by omega), ?_⟩
      refine ⟨_, rfl, ?_⟩
      walk_at "d"
      have h1 : ∀ z : Int, 0 ≤ z % 2147483399 ∧ z % 2147483399 < 2147483399 := fun z => by omega
      have h2 : ∀ z : Int, 0 ≤ z % 2147483629 ∧ z % 2147483629 < 2147483629 := fun z => by omega
      obtain ⟨h3, h4⟩ := h1 (b * b + (c + 1) * 3571 + 40692)
      generalize (b * b + (c + 1) * 3571 + 40692) % 2147483399 = d at h3 h4 ⊢
      refine ⟨.inl (by omega), ?_⟩
      obtain ⟨h5, h6⟩ := h2 (d * d + d / 97)
      generalize (d * d + d / 97) % 2147483629 = e at h5 h6 ⊢
      refine ⟨1, rfl, ?_⟩
      refine ⟨hm, ?_⟩
      exact k _ _ (Int.emod_nonneg _ (by omega)) (Int.emod_lt_of_pos _ hm) ⟨_, _, _, rfl, h5, by omega⟩
abbrev s__law_comings : Stmt := topS 34
theorem sc__law_comings : FnScope (["pool", "people", "nights", "comings", "person", "night"] : List Str) (["pool", "people", "nights"] : List Str) (defScope s__law_comings) := ⟨rfl, rfl, rfl, by decide +kernel, rfl, by decide +kernel, by decide +kernel⟩
theorem ok__law_comings {f : Addr} {fd : FuncData} (F : Fun K "_law_comings" "_law_comings" s__law_comings f fd) (B : Blt mg) (C__law_draw : FnAt P w K mg base 1 "_law_draw" (["pool", "many"] : List Str) (spM K (dsDraw))) : FnOk P w K mg base (L2.CX P w) 2 f fd (["pool", "people", "nights"] : List Str) (spM K (dsComings)) := by
  refine F.okX sc__law_comings (fun vs H Q E h => ?_) (fun cdv W outer s H vs Q E hr h => ?_)
  · refine spM_len (fun es ds Q X h => ?_) h
    obtain ⟨n, m, rfl, _⟩ := h; rfl
  · have nd := sc__law_comings.nd
    have hu := hr.units
    refine ⟨_, by exact (pss_cons (ps_st 3 nd (pe_lst pa_nil))
        (pss_cons (ps_for (passes_of rfl) rfl (pi_range1 rfl B.range (pa_cons (pv 1) pa_nil)) (pg_n 4 nd)
        (pss_cons (ps_st 5 nd pe_int)
        (pss_cons (ps_if (pt_cmpR (oa_eq hu) (pe_fn C__law_draw (hr.mono (by first | decide | omega)) passL (pa_cons (pv 0) (pa_cons pe_int pa_nil))) pe_int (nomark _))
        (pss_one (ps_st 5 nd (pe_op oa_add pe_int (pe_fn C__law_draw (hr.mono (by first | decide | omega)) passL (pa_cons (pv 0) (pa_cons (pe_op oa_add (pv 2) pe_int) pa_nil))))))
        pss_nil)
        (pss_one (ps_expr (pe_bm PySem.F.plainAttrs_list PySem.F.slot_list_append PySem.F.type_list_append mt_append (pv 3) (pa_cons (pv 5) pa_nil)))))))
        (pss_one (ps_ret (pv 3))))), ?_⟩
    refine enterM h (fun pa => (DS.seq (DS.asg (DE.lst DA.nil))
        (DS.seq (DS.for_ (DI.rg1 (DA.cons (DE.var 1) DA.nil)) (DG.name 4)
        (DS.seq (DS.asg (DE.c fun _ => .int _))
        (DS.seq (DS.ifs (DT.test (DE.op Op2.eq (DE.callM0 (DA.cons (DE.var 0) (DA.cons (DE.c fun _ => .int _) DA.nil))) (DE.c fun _ => .int _)))
        (DS.asg (DE.op Op2.add (DE.c fun _ => .int _) (DE.callM0 (DA.cons (DE.var 0) (DA.cons (DE.op Op2.add (DE.var 2) (DE.c fun _ => .int _)) DA.nil)))))
        DS.next)
        (DS.drop (DE.app (DA.cons (DE.var 5) DA.nil))))))
        (DS.ret (DE.var 3))))) (c := 3) (fun es ds Q X h => ?_)
    obtain ⟨n, m, rfl, hp, hn, hm, hm', k⟩ := h
    refine ⟨rfl, ?_⟩
    walk_at "d"
    refine ⟨by omega, fun i δ => ∃ p cs v w, δ = [.par p, .val (.int n), .val (.int m), .own (li cs), v, w] ∧ PO p ∧ cs.length = i ∧ bnd 1 (m + 1) cs, ⟨es, [], _, _, rfl, hp, rfl, bnd_nil⟩, ?_, ?_⟩
    · rintro i d δ hd ⟨p, cs, v, w, rfl, hp, hl, hb⟩
      obtain ⟨hi, rfl⟩ := rng_li hd
      walk_at "d"
      refine ⟨3, rfl, hp, by omega, by omega, fun x p h0 h1 hp => ?_⟩
      walk_at "d"
      refine c_br (fun c => ?_) (fun c => ?_)
      · walk_at "d"
        refine ⟨m + 1, rfl, hp, by omega, by omega, fun x p h0 h1 hp => ?_⟩
        walk_at "d"
        refine ⟨by omega, ?_⟩
        exact ⟨p, cs ++ [1 + x], _, _, by rw [li_snoc], hp, by simp [hl], bnd_snoc hb (by omega) (by omega)⟩
      · walk_at "d"
        refine ⟨by omega, ?_⟩
        exact ⟨p, cs ++ [1], _, _, by rw [li_snoc], hp, by simp [hl], bnd_snoc hb (by omega) (by omega)⟩
    · rintro δ ⟨p, cs, v, w, rfl, hp, hl, hb⟩
      walk_at "d"
      exact k p cs hp (by rw [rng_len] at hl; omega) hb
abbrev s__law_wants : Stmt := topS 35
theorem sc__law_wants : FnScope (["pool", "nights", "most", "night"] : List Str) (["pool", "nights", "most"] : List Str) (defScope s__law_wants) := ⟨rfl, rfl, rfl, by decide +kernel, rfl, by decide +kernel, by decide +kernel⟩
theorem ok__law_wants {f : Addr} {fd : FuncData} (F : Fun K "_law_wants" "_law_wants" s__law_wants f fd) (B : Blt mg) (C__law_draw : FnAt P w K mg base 1 "_law_draw" (["pool", "many"] : List Str) (spM K (dsDraw))) : FnOk P w K mg base (L2.CX P w) 2 f fd (["pool", "nights", "most"] : List Str) (spM K (dsWantsL)) := by
  refine F.okX sc__law_wants (fun vs H Q E h => ?_) (fun cdv W outer s H vs Q E hr h => ?_)
  · refine spM_len (fun es ds Q X h => ?_) h
    obtain ⟨n, m, rfl, _⟩ := h; rfl
  · have nd := sc__law_wants.nd
    have hu := hr.units
    refine ⟨_, by exact (pss_one (ps_ret (pe_lc (own := [("night", 3)]) (g := gName 3) (tt := tYes) rfl nd (pi_range1 rfl B.range (pa_cons (pv 1) pa_nil)) (blkOk_by (N := (["pool", "nights", "most", "night"] : List Str)) (sc := defScope (topS 35)) (by decide +kernel)) (fun _ _ _ _ _ => (pg_n 3 nd)) (fun _ _ _ _ _ => pts_nil) (fun _ _ _ _ _ => (pe_fn C__law_draw (hr.mono (by first | decide | omega)) passL (pa_cons (pv 0) (pa_cons (pe_op (opK (K := K) (r := aAdd) oa_add rfl) (pv 2) pe_int) pa_nil))))))), ?_⟩
    refine enterM h (fun pa => (DS.ret (DE.lc (DI.rg1 (DA.cons (DE.var 1) DA.nil)) (DG.name 3) (by decide) DT.yes (DE.callM0 (DA.cons (DE.var 0) (DA.cons (DE.op Op2.add (DE.var 2) (DE.c fun _ => .int _)) DA.nil)))))) (c := 1) (fun es ds Q X h => ?_)
    obtain ⟨n, m, rfl, hp, hn, hm, hm', k⟩ := h
    refine ⟨rfl, ?_⟩
    walk_at "d"
    refine ⟨by omega, by rw [rng_len]; omega, fun i δ acc => ∃ p ns, δ = [.par p, .val (.int n), .val (.int m), .dead] ∧ PO p ∧ acc = li ns ∧ ns.length = i ∧ bnd 0 m ns, ⟨es, [], rfl, hp, rfl, rfl, bnd_nil⟩, ?_, ?_⟩
    · rintro i d δ acc hd ⟨p, ns, rfl, hp, rfl, hl, hb⟩
      refine ⟨rfl, ?_⟩
      walk_at "d"
      refine ⟨_, rfl, hp, by omega, by omega, fun x p h0 h1 hp => ?_⟩
      walk_at "d"
      exact ⟨p, ns ++ [x], rfl, hp, by rw [li_snoc], by simp [hl], bnd_snoc hb h0 (by omega)⟩
    · rintro δ acc ⟨p, ns, rfl, hp, rfl, hl, hb⟩
      walk_at "d"
      exact k p ns hp (by rw [rng_len] at hl; omega) hb
abbrev s__law_size : Stmt := topS 38
theorem sc__law_size : FnScope (["pool", "most"] : List Str) (["pool", "most"] : List Str) (defScope s__law_size) := ⟨rfl, rfl, rfl, by decide +kernel, rfl, by decide +kernel, by decide +kernel⟩
theorem ok__law_size {f : Addr} {fd : FuncData} (F : Fun K "_law_size" "_law_size" s__law_size f fd) (B : Blt mg) (C__law_draw : FnAt P w K mg base 1 "_law_draw" (["pool", "many"] : List Str) (spM K (dsDraw))) : FnOk P w K mg base (L2.CX P w) 2 f fd (["pool", "most"] : List Str) (spM K (dsSize)) := by
  refine F.okX sc__law_size (fun vs H Q E h => ?_) (fun cdv W outer s H vs Q E hr h => ?_)
  · refine spM_len (fun es ds Q X h => ?_) h
    obtain ⟨m, rfl, _⟩ := h; rfl
  · have nd := sc__law_size.nd
    have hu := hr.units
    refine ⟨_, by exact (pss_cons (ps_if (pt_cmpR (oa_eq hu) (pe_fn C__law_draw (hr.mono (by first | decide | omega)) passL (pa_cons (pv 0) (pa_cons pe_int pa_nil))) pe_int (nomark _))
        (pss_one (ps_ret pe_int))
        pss_nil)
        (pss_one (ps_ret (pe_op oa_add pe_int (pe_callB (ca_max rfl) (by rfl) B.max bt_max (pa_cons (pe_fn C__law_draw (hr.mono (by first | decide | omega)) passL (pa_cons (pv 0) (pa_cons (pv 1) pa_nil))) (pa_cons (pe_fn C__law_draw (hr.mono (by first | decide | omega)) passL (pa_cons (pv 0) (pa_cons (pv 1) pa_nil))) pa_nil))))))), ?_⟩
    refine enterM h (fun pa => (DS.seq (DS.ifs (DT.test (DE.op Op2.eq (DE.callM0 (DA.cons (DE.var 0) (DA.cons (DE.c fun _ => .int _) DA.nil))) (DE.c fun _ => .int _)))
        (DS.ret (DE.c fun _ => .int _))
        DS.next)
        (DS.ret (DE.op Op2.add (DE.c fun _ => .int _) (DE.cb CallO.max (DA.cons (DE.callM0 (DA.cons (DE.var 0) (DA.cons (DE.var 1) DA.nil))) (DA.cons (DE.callM0 (DA.cons (DE.var 0) (DA.cons (DE.var 1) DA.nil))) DA.nil))))))) (c := 0) (fun es ds Q X h => ?_)
    obtain ⟨m, rfl, hp, hm, hm', k⟩ := h
    refine ⟨rfl, ?_⟩
    walk_at "d"
    refine ⟨8, rfl, hp, by omega, by omega, fun x p h0 h1 hp => ?_⟩
    walk_at "d"
    refine c_br (fun c => ?_) (fun c => ?_)
    · walk_at "d"
      exact k p 0 hp (by omega)
    · walk_at "d"
      refine ⟨m, rfl, hp, by omega, by omega, fun x p x0 x1 hp => ?_⟩
      walk_at "d"
      refine ⟨m, rfl, hp, by omega, by omega, fun y p y0 y1 hp => ?_⟩
      walk_at "d"
      obtain ⟨v, hv⟩ := Int.eq_ofNat_of_zero_le (show 0 ≤ 1 + max x y by omega)
      rw [hv]
      exact k p v hp (by omega)
abbrev s__law_int : Stmt := topS 41
theorem sc__law_int : FnScope (["x"] : List Str) (["x"] : List Str) (defScope s__law_int) := ⟨rfl, rfl, rfl, by decide +kernel, rfl, by decide +kernel, by decide +kernel⟩
theorem ok__law_int {f : Addr} {fd : FuncData} (F : Fun K "_law_int" "_law_int" s__law_int f fd) (B : Blt mg) : FnOk P w K mg base (L2.CX P w) 1 f fd (["x"] : List Str) (spP K (dsInt)) := by
  refine F.okX sc__law_int (fun vs H Q E h => ?_) (fun cdv W outer s H vs Q E hr h => ?_)
  · refine spP_len (fun ds Q X h => ?_) h
    obtain ⟨d, n, rfl, _⟩ := h; rfl
  · have nd := sc__law_int.nd
    have hu := hr.units
    refine ⟨_, by exact (pss_one (ps_ret (pe_and (pe_callB call_isi (by rfl) B.isinstance bt_isinstance (pa_cons (pv 0) (pa_cons (pe_bltn (v := .ty "int") (by rfl) B.int bt_int rfl) pa_nil))) (pe_one (pe_not (pe_callB call_isi (by rfl) B.isinstance bt_isinstance (pa_cons (pv 0) (pa_cons (pe_bltn (v := .ty "bool") (by rfl) B.bool bt_bool rfl) pa_nil)))))))), ?_⟩
    refine enterP h (fun pa => (DS.ret (DE.andV (DE.cb CallO.isi (DA.cons (DE.var 0) (DA.cons (DE.c fun _ => .ty _) DA.nil))) (DE.notV (DE.cb CallO.isi (DA.cons (DE.var 0) (DA.cons (DE.c fun _ => .ty _) DA.nil))))))) (c := 0) (fun ds Q X h => ?_)
    obtain ⟨d, n, rfl, hd, k⟩ := h
    refine ⟨rfl, ?_⟩
    walk_at "d"
    cases d <;> walk_at "d" <;> first
      | (cases n <;> exact hd.elim)
      | exact k
abbrev s__law_first : Stmt := topS 44
theorem sc__law_first : FnScope (["days", "starts", "gap", "people", "row", "place", "here", "person"] : List Str) (["days", "starts", "gap", "people"] : List Str) (defScope s__law_first) := ⟨rfl, rfl, rfl, by decide +kernel, rfl, by decide +kernel, by decide +kernel⟩
theorem ok__law_first {f : Addr} {fd : FuncData} (F : Fun K "_law_first" "_law_first" s__law_first f fd) (B : Blt mg) : FnOk P w K mg base (L2.CX P w) 1 f fd (["days", "starts", "gap", "people"] : List Str) (spP K (dsFirstL)) := by
  refine F.okX sc__law_first (fun vs H Q E h => ?_) (fun cdv W outer s H vs Q E hr h => ?_)
  · refine spP_len (fun ds Q X h => ?_) h
    obtain ⟨ns, cs, ps, r, rfl, _⟩ := h; rfl
  · have nd := sc__law_first.nd
    have hu := hr.units
    refine ⟨_, by exact (pss_cons (ps_st 4 nd (pe_lst pa_nil))
        (pss_cons (ps_for (passes_of rfl) rfl (pi_range1 rfl B.range (pa_cons (pe_callB ca_len (by rfl) B.len bt_len (pa_cons (pv 0) pa_nil)) pa_nil)) (pg_n 5 nd)
        (pss_cons (ps_st 6 nd (pe_callB ca_len (by rfl) B.len bt_len (pa_cons (pe_lc (own := [("person", 7)]) (g := gName 7) (tt := _) rfl nd (pi_seq (pv 3)) (blkOk_by (N := (["days", "starts", "gap", "people", "row", "place", "here", "person"] : List Str)) (sc := defScope (topS 44)) (by decide +kernel)) (fun _ _ _ _ _ => (pg_n 7 nd)) (fun _ _ _ _ _ => pts_one (pt_cmpR oa_le (pe_ix (ixK (K := K) (r := aIx) oa_ix rfl) (pv 1) (pv 7) (fun _ _ => rfl)) (pe_op (opK (K := K) (r := aAdd) oa_add rfl) (pv 5) pe_int) (nomark _))) (fun _ _ _ _ _ => (pv 7))) pa_nil)))
        (pss_one (ps_expr (pe_bm PySem.F.plainAttrs_list PySem.F.slot_list_append PySem.F.type_list_append mt_append (pv 4) (pa_cons (pe_callB (ca_min rfl) (by rfl) B.min bt_min (pa_cons (pe_ix oa_ix (pv 0) (pv 5) (fun _ _ => rfl)) (pa_cons (pe_op oa_sub (pv 6) (pe_callB (cr_sumA rfl) (by rfl) B.sum bt_sum (pa_cons (pe_slice oa_sl (pv 4) (po_some (pe_callB (ca_max rfl) (by rfl) B.max bt_max (pa_cons pe_int (pa_cons (pe_op oa_sub (pv 5) (pv 2)) pa_nil)))) (po_some (pv 5))) pa_nil))) pa_nil))) pa_nil))))))
        (pss_one (ps_ret (pv 4))))), ?_⟩
    refine enterP h (fun pa => (DS.seq (DS.asg (DE.lst DA.nil))
        (DS.seq (DS.for_ (DI.rg1 (DA.cons (DE.cb CallO.len (DA.cons (DE.var 0) DA.nil)) DA.nil)) (DG.name 5)
        (DS.seq (DS.asg (DE.cb CallO.len (DA.cons (DE.lc (DI.seq (DE.var 3)) (DG.name 7) (by decide) (DT.test (DE.op Op2.cmp (DE.op Op2.ix (DE.var 1) (DE.var 7)) (DE.op Op2.add (DE.var 5) (DE.c fun _ => .int _)))) (DE.var 7)) DA.nil)))
        (DS.drop (DE.app (DA.cons (DE.cb CallO.min (DA.cons (DE.op Op2.ix (DE.var 0) (DE.var 5)) (DA.cons (DE.op Op2.sub (DE.var 6) (DE.cb CallO.sum (DA.cons (DE.sl (DE.var 4) (DO.part (DE.cb CallO.max (DA.cons (DE.c fun _ => .int _) (DA.cons (DE.op Op2.sub (DE.var 5) (DE.var 2)) DA.nil)))) (DO.part (DE.var 5))) DA.nil))) DA.nil))) DA.nil)))))
        (DS.ret (DE.var 4))))) (c := 4) (fun ds Q X h => ?_)
    obtain ⟨ns, cs, ps, r, rfl, hn, hps, hr', hm, k⟩ := h
    refine ⟨rfl, ?_⟩
    walk_at "d"
    refine ⟨by omega, fun i δ => ∃ v w, δ = [.val (.lst (li ns)), .val (.lst (li cs)), .val (.int r), .val (.lst (li ps)), .own (li (gr ns (ps.map fun p => cs.getD p.toNat 0) r i)), v, w, .dead], ⟨_, _, rfl⟩, ?_, ?_⟩
    · rintro i d δ hd ⟨v, w, rfl⟩
      obtain ⟨hi, rfl⟩ := rng_li hd
      have hi : i < ns.length := by omega
      have gl := gr_len ns (ps.map fun p => cs.getD p.toNat 0) r i
      rw [Int.zero_add]
      walk_at "d"
      refine lc_filter (fun j => decide (cs.getD (ps.getD j 0).toNat 0 ≤ (i : Int) + 1)) (fun j => .int (ps.getD j 0)) (by rw [li_len]; omega) rfl ?_ ?_
      · intro j d N M hd hN hM
        obtain ⟨hj, rfl⟩ := li_at hd
        obtain ⟨p0, p1⟩ := hm _ (li_mem hj)
        walk_at "d"
        refine ⟨_, atI_li p0 p1, ?_⟩
        walk_at "d"
        refine c_lc (fun c => ?_) (fun c => ?_)
        · walk_at "d"
          exact hN (decide_eq_true c) _ rfl
        · exact hM (decide_eq_false c) _ rfl
      · rw [li_len]
        walk_at "d"
        rw [List.length_map, here_filter]
        refine ⟨_, atI_li (by omega) (by omega), ?_⟩
        walk_at "d"
        have ea : max 0 ((i : Int) - r) = ((i - r : Nat) : Int) := by omega
        rw [ea, li_cut _ _ _ (by rw [gl]; exact Nat.le_refl _)]
        walk_at "d"
        refine ⟨by omega, ?_⟩
        exact ⟨_, _, by rw [li_snoc, gr_snoc]; rfl⟩
    · rintro δ ⟨v, w, rfl⟩
      rw [rng_len, Int.toNat_natCast]
      walk_at "d"
      exact k
abbrev s__law_same : Stmt := topS 43
theorem sc__law_same : FnScope (["got", "due", "place"] : List Str) (["got", "due"] : List Str) (defScope s__law_same) := ⟨rfl, rfl, rfl, by decide +kernel, rfl, by decide +kernel, by decide +kernel⟩
theorem ok__law_same {f : Addr} {fd : FuncData} (F : Fun K "_law_same" "_law_same" s__law_same f fd) (B : Blt mg) {n : Nat} (C__law_int : FnAt P w K mg base 1 "_law_int" (["x"] : List Str) (spP K (dsInt))) (C__law_same : FnAt P w K mg base (n + 2) "_law_same" ["got", "due"] (spP K (dsSame n))) : FnOk P w K mg base (L2.CX P w) (n + 3) f fd (["got", "due"] : List Str) (spP K ((dsSame (n + 1)))) := by
  refine F.okX sc__law_same (fun vs H Q E h => ?_) (fun cdv W outer s H vs Q E hr h => ?_)
  · refine spP_len (fun ds Q X h => ?_) h
    obtain ⟨x, y, rfl, _⟩ := h; rfl
  · have nd := sc__law_same.nd
    have hu := hr.units
    refine ⟨_, by exact (pss_cons (ps_if (pt_cmpR oa_is (pv 1) pe_non (nomark _))
        (pss_one (ps_ret (pe_cmpR oa_is (pv 0) pe_non (nomark _))))
        pss_nil)
        (pss_cons (ps_if (pt_cmpR oa_is (pv 1) pe_bl (nomark _))
        (pss_one (ps_ret (pe_cmpR oa_is (pv 0) pe_bl (nomark _))))
        pss_nil)
        (pss_cons (ps_if (pt_cmpR oa_is (pv 1) pe_bl (nomark _))
        (pss_one (ps_ret (pe_cmpR oa_is (pv 0) pe_bl (nomark _))))
        pss_nil)
        (pss_cons (ps_if (pt_tr (pe_callB call_isi (by rfl) B.isinstance bt_isinstance (pa_cons (pv 1) (pa_cons (pe_bltn (v := .ty "int") (by rfl) B.int bt_int rfl) pa_nil))))
        (pss_one (ps_ret (pe_and (pe_fn C__law_int (hr.mono (by first | decide | omega)) passL (pa_cons (pv 0) pa_nil)) (pe_one (pe_cmpR (oa_eq hu) (pv 0) (pv 1) (nomark _))))))
        pss_nil)
        (pss_cons (ps_if (pt_tr (pe_callB call_isi (by rfl) B.isinstance bt_isinstance (pa_cons (pv 1) (pa_cons (pe_bltn (v := .ty "str") (by rfl) B.str bt_str rfl) pa_nil))))
        (pss_one (ps_ret (pe_and (pe_callB call_isi (by rfl) B.isinstance bt_isinstance (pa_cons (pv 0) (pa_cons (pe_bltn (v := .ty "str") (by rfl) B.str bt_str rfl) pa_nil))) (pe_one (pe_cmpR (oa_eq hu) (pv 0) (pv 1) (nomark _))))))
        pss_nil)
        (pss_cons (ps_if (pt_tr (pe_callB call_isi (by rfl) B.isinstance bt_isinstance (pa_cons (pv 1) (pa_cons (pe_bltn (v := .ty "tuple") (by rfl) B.tuple bt_tuple rfl) pa_nil))))
        (pss_one (ps_if (PW.pt (pw_or (pt_not (pt_tr (pe_callB call_isi (by rfl) B.isinstance bt_isinstance (pa_cons (pv 0) (pa_cons (pe_bltn (v := .ty "tuple") (by rfl) B.tuple bt_tuple rfl) pa_nil))))) (pw_or1 (pt_cmpR (oa_ne hu) (pe_callB ca_len (by rfl) B.len bt_len (pa_cons (pv 0) pa_nil)) (pe_callB ca_len (by rfl) B.len bt_len (pa_cons (pv 1) pa_nil)) (nomark _)))))
        (pss_one (ps_ret pe_bl))
        pss_nil))
        (pss_one (ps_if (PW.pt (pw_or (pt_not (pt_tr (pe_callB call_isi (by rfl) B.isinstance bt_isinstance (pa_cons (pv 0) (pa_cons (pe_bltn (v := .ty "list") (by rfl) B.list bt_list rfl) pa_nil))))) (pw_or1 (pt_cmpR (oa_ne hu) (pe_callB ca_len (by rfl) B.len bt_len (pa_cons (pv 0) pa_nil)) (pe_callB ca_len (by rfl) B.len bt_len (pa_cons (pv 1) pa_nil)) (nomark _)))))
        (pss_one (ps_ret pe_bl))
        pss_nil)))
        (pss_cons (ps_for (passes_of rfl) rfl (pi_range1 rfl B.range (pa_cons (pe_callB ca_len (by rfl) B.len bt_len (pa_cons (pv 1) pa_nil)) pa_nil)) (pg_n 2 nd)
        (pss_one (ps_if (pt_not (pt_tr (pe_fn C__law_same (hr.mono (by first | decide | omega)) passL (pa_cons (pe_ix oa_ix (pv 0) (pv 2) (fun _ _ => rfl)) (pa_cons (pe_ix oa_ix (pv 1) (pv 2) (fun _ _ => rfl)) pa_nil)))))
        (pss_one (ps_ret pe_bl))
        pss_nil)))
        (pss_one (ps_ret pe_bl))))))))), ?_⟩
    refine enterP h (fun pa => (DS.seq (DS.ifs (DT.test (DE.op Op2.is (DE.var 1) (DE.c fun _ => .non)))
        (DS.ret (DE.op Op2.is (DE.var 0) (DE.c fun _ => .non)))
        DS.next)
        (DS.seq (DS.ifs (DT.test (DE.op Op2.is (DE.var 1) (DE.c fun _ => .bl _)))
        (DS.ret (DE.op Op2.is (DE.var 0) (DE.c fun _ => .bl _)))
        DS.next)
        (DS.seq (DS.ifs (DT.test (DE.op Op2.is (DE.var 1) (DE.c fun _ => .bl _)))
        (DS.ret (DE.op Op2.is (DE.var 0) (DE.c fun _ => .bl _)))
        DS.next)
        (DS.seq (DS.ifs (DT.tr (DE.cb CallO.isi (DA.cons (DE.var 1) (DA.cons (DE.c fun _ => .ty _) DA.nil))))
        (DS.ret (DE.andV (DE.call0 (DA.cons (DE.var 0) DA.nil)) (DE.op Op2.eq (DE.var 0) (DE.var 1))))
        DS.next)
        (DS.seq (DS.ifs (DT.tr (DE.cb CallO.isi (DA.cons (DE.var 1) (DA.cons (DE.c fun _ => .ty _) DA.nil))))
        (DS.ret (DE.andV (DE.cb CallO.isi (DA.cons (DE.var 0) (DA.cons (DE.c fun _ => .ty _) DA.nil))) (DE.op Op2.eq (DE.var 0) (DE.var 1))))
        DS.next)
        (DS.seq (DS.ifs (DT.tr (DE.cb CallO.isi (DA.cons (DE.var 1) (DA.cons (DE.c fun _ => .ty _) DA.nil))))
        (DS.ifs (DT.or (DT.not (DT.tr (DE.cb CallO.isi (DA.cons (DE.var 0) (DA.cons (DE.c fun _ => .ty _) DA.nil))))) (DT.test (DE.op Op2.ne (DE.cb CallO.len (DA.cons (DE.var 0) DA.nil)) (DE.cb CallO.len (DA.cons (DE.var 1) DA.nil)))))
        (DS.ret (DE.c fun _ => .bl _))
        DS.next)
        (DS.ifs (DT.or (DT.not (DT.tr (DE.cb CallO.isi (DA.cons (DE.var 0) (DA.cons (DE.c fun _ => .ty _) DA.nil))))) (DT.test (DE.op Op2.ne (DE.cb CallO.len (DA.cons (DE.var 0) DA.nil)) (DE.cb CallO.len (DA.cons (DE.var 1) DA.nil)))))
        (DS.ret (DE.c fun _ => .bl _))
        DS.next))
        (DS.seq (DS.for_ (DI.rg1 (DA.cons (DE.cb CallO.len (DA.cons (DE.var 1) DA.nil)) DA.nil)) (DG.name 2)
        (DS.ifs (DT.not (DT.tr (DE.call0 (DA.cons (DE.op Op2.ix (DE.var 0) (DE.var 2)) (DA.cons (DE.op Op2.ix (DE.var 1) (DE.var 2)) DA.nil)))))
        (DS.ret (DE.c fun _ => .bl _))
        DS.next))
        (DS.ret (DE.c fun _ => .bl _)))))))))) (c := 1) (fun ds Q X h => ?_)
    obtain ⟨x, y, rfl, hx, hy, k⟩ := h
    refine ⟨rfl, ?_⟩
    have yes : x = y → eqX x y = true := fun e => eqX_t.mpr e
    walk_at "d"
    cases y with
    | non =>
      walk_at "d"
      rw [isNon_eqX]; exact k
    | bl b =>
      cases b with
      | true =>
        walk_at "d"
        rw [isBl_eqX]; exact k
      | false =>
        walk_at "d"
        rw [isBl_eqX]; exact k
    | int j =>
      walk_at "d"
      refine ⟨x, _, rfl, hx, ?_⟩
      walk_at "d"
      refine c_aVB (fun c => ?_) (fun c => ?_)
      · obtain ⟨i, rfl⟩ := isIntD_t c
        walk_at "d"
        rw [eqX_int] at k; exact k
      · walk_at "d"
        rw [eqX_f (fun z => by subst z; cases c)] at k; exact k
    | str j =>
      walk_at "d"
      obtain ⟨b, e, h1, h2⟩ := isi_str' hx
      rw [e]
      walk_at "d"
      cases b with
      | false =>
        walk_at "d"
        rw [eqX_f (h2 rfl j)] at k; exact k
      | true =>
        obtain ⟨i, rfl⟩ := h1 rfl
        walk_at "d"
        rw [eqX_str] at k; exact k
    | lst ys =>
      cases n with
      | zero => exact hy.elim
      | succ n =>
      obtain ⟨hz, hfs⟩ := hy
      obtain ⟨b, e, h1, h2⟩ := isi_list hx
      walk_at "d"
      rw [e]
      walk_at "d"
      cases b with
      | false =>
        walk_at "d"
        rw [eqX_f (h2 rfl ys)] at k; exact k
      | true =>
        obtain ⟨xs, rfl⟩ := h1 rfl
        walk_at "d"
        refine c_brN (fun c => ?_) (fun c => ?_)
        · walk_at "d"
          rw [eqX_f (fun z => by cases z; exact c rfl)] at k; exact k
        · have hlen : xs.length = ys.length := by omega
          walk_at "d"
          refine ⟨by omega, fun i δ => (∃ v, δ = [.val (.lst xs), .val (.lst ys), v]) ∧ ∀ j < i, eqX (xs.getD j .non) (ys.getD j .non) = true, ⟨⟨_, rfl⟩, fun j hj => absurd hj (Nat.not_lt_zero _)⟩, ?_, ?_⟩
          · rintro i d δ hd ⟨⟨v, rfl⟩, hall⟩
            obtain ⟨hi, rfl⟩ := rng_li hd
            have hi' : i < ys.length := by omega
            rw [Int.zero_add]
            walk_at "d"
            refine ⟨xs.getD i .non, atI_D (by omega), ?_⟩
            refine ⟨ys.getD i .non, atI_D hi', ?_⟩
            refine ⟨_, _, rfl, pss_at (n := n + 9) hx.2 (by omega), pss_at hfs hi', ?_⟩
            walk_at "d"
            refine c_brNB (fun c => ?_) (fun c => ?_) <;> walk_at "d"
            · rw [eqX_f (fun z => by cases z; rw [eqX_self] at c; cases c)] at k; exact k
            · refine ⟨⟨_, rfl⟩, fun j hj => ?_⟩
              by_cases hj' : j = i
              · subst hj'; exact c
              · exact hall j (by omega)
          · rintro δ ⟨⟨v, rfl⟩, hall⟩
            walk_at "d"
            rw [rng_len] at hall
            rw [eqX_t.mpr (by rw [eq_of_all hlen fun i hi => hall i (by omega)])] at k; exact k
    | tup ys =>
      cases n with
      | zero => exact hy.elim
      | succ n =>
      obtain ⟨hz, hfs⟩ := hy
      obtain ⟨b, e, h1, h2⟩ := isi_tuple' hx
      walk_at "d"
      rw [e]
      walk_at "d"
      cases b with
      | false =>
        walk_at "d"
        rw [eqX_f (h2 rfl ys)] at k; exact k
      | true =>
        obtain ⟨xs, rfl⟩ := h1 rfl
        walk_at "d"
        refine c_brN (fun c => ?_) (fun c => ?_)
        · walk_at "d"
          rw [eqX_f (fun z => by cases z; exact c rfl)] at k; exact k
        · have hlen : xs.length = ys.length := by omega
          walk_at "d"
          refine ⟨by omega, fun i δ => (∃ v, δ = [.val (.tup xs), .val (.tup ys), v]) ∧ ∀ j < i, eqX (xs.getD j .non) (ys.getD j .non) = true, ⟨⟨_, rfl⟩, fun j hj => absurd hj (Nat.not_lt_zero _)⟩, ?_, ?_⟩
          · rintro i d δ hd ⟨⟨v, rfl⟩, hall⟩
            obtain ⟨hi, rfl⟩ := rng_li hd
            have hi' : i < ys.length := by omega
            rw [Int.zero_add]
            walk_at "d"
            refine ⟨xs.getD i .non, atI_D (by omega), ?_⟩
            refine ⟨ys.getD i .non, atI_D hi', ?_⟩
            refine ⟨_, _, rfl, pss_at (n := n + 9) hx.2 (by omega), pss_at hfs hi', ?_⟩
            walk_at "d"
            refine c_brNB (fun c => ?_) (fun c => ?_) <;> walk_at "d"
            · rw [eqX_f (fun z => by cases z; rw [eqX_self] at c; cases c)] at k; exact k
            · refine ⟨⟨_, rfl⟩, fun j hj => ?_⟩
              by_cases hj' : j = i
              · subst hj'; exact c
              · exact hall j (by omega)
          · rintro δ ⟨⟨v, rfl⟩, hall⟩
            walk_at "d"
            rw [rng_len] at hall
            rw [eqX_t.mpr (by rw [eq_of_all hlen fun i hi => hall i (by omega)])] at k; exact k
    | ins => exact hy.elim
    | scr => exact hy.elim
    | ty => exact hy.elim
end
end Nk
namespace Nk
open PySem PySem.Spec PyProof.Rows L2 DL Hse
abbrev s_NoPerson___init__ : Stmt := inClass (topS 4) 0
theorem si_NoPerson : SupInit s_NoPerson___init__ (["person"] : List Str) := ⟨⟨_, rfl, rfl⟩, ⟨_, _, rfl, ⟨_, _, _, _, _, _, _, _, rfl, rfl⟩, (.cons ⟨_, _, _, _, rfl⟩ .nil)⟩, by decide +kernel, by decide +kernel, by decide +kernel, rfl, by decide +kernel, rfl, rfl, fun _ _ _ _ _ _ _ _ _ us hd hl => by subst hd; exact match us, hl with | [_, _], _ => rfl, by decide +kernel, by decide +kernel⟩
abbrev s_NamedTwice___init__ : Stmt := inClass (topS 5) 0
theorem si_NamedTwice : SupInit s_NamedTwice___init__ (["person"] : List Str) := ⟨⟨_, rfl, rfl⟩, ⟨_, _, rfl, ⟨_, _, _, _, _, _, _, _, rfl, rfl⟩, (.cons ⟨_, _, _, _, rfl⟩ .nil)⟩, by decide +kernel, by decide +kernel, by decide +kernel, rfl, by decide +kernel, rfl, rfl, fun _ _ _ _ _ _ _ _ _ us hd hl => by subst hd; exact match us, hl with | [_, _], _ => rfl, by decide +kernel, by decide +kernel⟩
abbrev s_WrongLength___init__ : Stmt := inClass (topS 8) 0
theorem si_WrongLength : SupInit s_WrongLength___init__ (["found", "wanted"] : List Str) := ⟨⟨_, rfl, rfl⟩, ⟨_, _, rfl, ⟨_, _, _, _, _, _, _, _, rfl, rfl⟩, (.cons ⟨_, _, _, _, rfl⟩ (.cons ⟨_, _, _, _, rfl⟩ .nil))⟩, by decide +kernel, by decide +kernel, by decide +kernel, rfl, by decide +kernel, rfl, rfl, fun _ _ _ _ _ _ _ _ _ us hd hl => by subst hd; exact match us, hl with | [_, _, _], _ => rfl, by decide +kernel, by decide +kernel⟩
theorem all_mk {l : PySem.W.OpenLaw} {w : World} {K : PySem.W.Frag} {h : Heap} {mg : Str → Option Value} {fa : Addr} (hfile : ((l.prog.main.file : Str) == "/claim/cut.py") = true) (htop : (l.prog.main.scope.names.lookup ("super" : Str)).isSome = false) (X : K.In h) (G : h.Ns mainGlobals mg) (hfa : mg "law" = some (.ref fa))
    {c_NightsError : Addr}
    {c_NoPerson : Addr}
    {i_NoPerson : Addr} {nm_NoPerson q_NoPerson : Str} {N_NoPerson : Addr} {bs_NoPerson bm_NoPerson : List Value} {sn_NoPerson : List Str} {sub_NoPerson : List Value} {ab_NoPerson : Bool} {col_NoPerson : Option Bool} {dd_NoPerson : Option Addr} {u0_NoPerson u1_NoPerson u2_NoPerson u3_NoPerson u5_NoPerson : Option Value} {oc_NoPerson kV_NoPerson doc_NoPerson pm_NoPerson ct_NoPerson ccl_NoPerson cl_NoPerson : Value} {od_NoPerson an_NoPerson cdd_NoPerson cld_NoPerson : Option Addr} {osl_NoPerson ccs_NoPerson csl_NoPerson : Array (Option Value)} {cda_NoPerson cc_NoPerson : Addr} {vs_NoPerson : Array Value} {file_NoPerson : Str} {tf_NoPerson : Tok}
    {c_NamedTwice : Addr}
    {i_NamedTwice : Addr} {nm_NamedTwice q_NamedTwice : Str} {N_NamedTwice : Addr} {bs_NamedTwice bm_NamedTwice : List Value} {sn_NamedTwice : List Str} {sub_NamedTwice : List Value} {ab_NamedTwice : Bool} {col_NamedTwice : Option Bool} {dd_NamedTwice : Option Addr} {u0_NamedTwice u1_NamedTwice u2_NamedTwice u3_NamedTwice u5_NamedTwice : Option Value} {oc_NamedTwice kV_NamedTwice doc_NamedTwice pm_NamedTwice ct_NamedTwice ccl_NamedTwice cl_NamedTwice : Value} {od_NamedTwice an_NamedTwice cdd_NamedTwice cld_NamedTwice : Option Addr} {osl_NamedTwice ccs_NamedTwice csl_NamedTwice : Array (Option Value)} {cda_NamedTwice cc_NamedTwice : Addr} {vs_NamedTwice : Array Value} {file_NamedTwice : Str} {tf_NamedTwice : Tok}
    {c_WrongLength : Addr}
    {i_WrongLength : Addr} {nm_WrongLength q_WrongLength : Str} {N_WrongLength : Addr} {bs_WrongLength bm_WrongLength : List Value} {sn_WrongLength : List Str} {sub_WrongLength : List Value} {ab_WrongLength : Bool} {col_WrongLength : Option Bool} {dd_WrongLength : Option Addr} {u0_WrongLength u1_WrongLength u2_WrongLength u3_WrongLength u5_WrongLength : Option Value} {oc_WrongLength kV_WrongLength doc_WrongLength pm_WrongLength ct_WrongLength ccl_WrongLength cl_WrongLength : Value} {od_WrongLength an_WrongLength cdd_WrongLength cld_WrongLength : Option Addr} {osl_WrongLength ccs_WrongLength csl_WrongLength : Array (Option Value)} {cda_WrongLength cc_WrongLength : Addr} {vs_WrongLength : Array Value} {file_WrongLength : Str} {tf_WrongLength : Tok}
    {c_House : Addr}
    {c_Wants : Addr}
    {kc_Wants_MOST : Tok}
    {kc_Wants_GREATEST : Tok}
    {k_MOST_PEOPLE : Tok}
    {k_MOST_REST : Tok}
    {f_Wants___init__ : Addr} {od_Wants___init__ an_Wants___init__ : Option Addr} {sl_Wants___init__ : Array (Option Value)} {oc_Wants___init__ kV_Wants___init__ dc_Wants___init__ pm_Wants___init__ cd_Wants___init__ ct_Wants___init__ : Value}
    {f_Wants___len__ : Addr} {od_Wants___len__ an_Wants___len__ : Option Addr} {sl_Wants___len__ : Array (Option Value)} {oc_Wants___len__ kV_Wants___len__ dc_Wants___len__ pm_Wants___len__ cd_Wants___len__ ct_Wants___len__ : Value}
    {f_Wants___iter__ : Addr} {od_Wants___iter__ an_Wants___iter__ : Option Addr} {sl_Wants___iter__ : Array (Option Value)} {oc_Wants___iter__ kV_Wants___iter__ dc_Wants___iter__ pm_Wants___iter__ cd_Wants___iter__ ct_Wants___iter__ : Value}
    {f_House___init__ : Addr} {od_House___init__ an_House___init__ : Option Addr} {sl_House___init__ : Array (Option Value)} {oc_House___init__ kV_House___init__ dc_House___init__ pm_House___init__ cd_House___init__ ct_House___init__ : Value}
    {p_House_nights : Addr} {rs_House_nights : List Value}
    {f_House_nights : Addr} {od_House_nights an_House_nights : Option Addr} {sl_House_nights : Array (Option Value)} {oc_House_nights kV_House_nights dc_House_nights pm_House_nights cd_House_nights ct_House_nights : Value}
    {p_House_people : Addr} {rs_House_people : List Value}
    {f_House_people : Addr} {od_House_people an_House_people : Option Addr} {sl_House_people : Array (Option Value)} {oc_House_people kV_House_people dc_House_people pm_House_people cd_House_people ct_House_people : Value}
    {f_check_person : Addr} {od_check_person an_check_person : Option Addr} {sl_check_person : Array (Option Value)} {oc_check_person kV_check_person dc_check_person pm_check_person cd_check_person ct_check_person : Value}
    {f_check_people : Addr} {od_check_people an_check_people : Option Addr} {sl_check_people : Array (Option Value)} {oc_check_people kV_check_people dc_check_people pm_check_people cd_check_people ct_check_people : Value}
    {f_arrivals : Addr} {od_arrivals an_arrivals : Option Addr} {sl_arrivals : Array (Option Value)} {oc_arrivals kV_arrivals dc_arrivals pm_arrivals cd_arrivals ct_arrivals : Value}
    {f_first_choice : Addr} {od_first_choice an_first_choice : Option Addr} {sl_first_choice : Array (Option Value)} {oc_first_choice kV_first_choice dc_first_choice pm_first_choice cd_first_choice ct_first_choice : Value}
    {f_room_left : Addr} {od_room_left an_room_left : Option Addr} {sl_room_left : Array (Option Value)} {oc_room_left kV_room_left dc_room_left pm_room_left cd_room_left ct_room_left : Value}
    {f_growth : Addr} {od_growth an_growth : Option Addr} {sl_growth : Array (Option Value)} {oc_growth kV_growth dc_growth pm_growth cd_growth ct_growth : Value}
    {f_check_order : Addr} {od_check_order an_check_order : Option Addr} {sl_check_order : Array (Option Value)} {oc_check_order kV_check_order dc_check_order pm_check_order cd_check_order ct_check_order : Value}
    {f_nights_in_order : Addr} {od_nights_in_order an_nights_in_order : Option Addr} {sl_nights_in_order : Array (Option Value)} {oc_nights_in_order kV_nights_in_order dc_nights_in_order pm_nights_in_order cd_nights_in_order ct_nights_in_order : Value}
    {f_order_counts : Addr} {od_order_counts an_order_counts : Option Addr} {sl_order_counts : Array (Option Value)} {oc_order_counts kV_order_counts dc_order_counts pm_order_counts cd_order_counts ct_order_counts : Value}
    {f_most_of : Addr} {od_most_of an_most_of : Option Addr} {sl_most_of : Array (Option Value)} {oc_most_of kV_most_of dc_most_of pm_most_of cd_most_of ct_most_of : Value}
    {f__law_pool : Addr} {od__law_pool an__law_pool : Option Addr} {sl__law_pool : Array (Option Value)} {oc__law_pool kV__law_pool dc__law_pool pm__law_pool cd__law_pool ct__law_pool : Value}
    {f__law_draw : Addr} {od__law_draw an__law_draw : Option Addr} {sl__law_draw : Array (Option Value)} {oc__law_draw kV__law_draw dc__law_draw pm__law_draw cd__law_draw ct__law_draw : Value}
    {f__law_comings : Addr} {od__law_comings an__law_comings : Option Addr} {sl__law_comings : Array (Option Value)} {oc__law_comings kV__law_comings dc__law_comings pm__law_comings cd__law_comings ct__law_comings : Value}
    {f__law_wants : Addr} {od__law_wants an__law_wants : Option Addr} {sl__law_wants : Array (Option Value)} {oc__law_wants kV__law_wants dc__law_wants pm__law_wants cd__law_wants ct__law_wants : Value}
    {f__law_size : Addr} {od__law_size an__law_size : Option Addr} {sl__law_size : Array (Option Value)} {oc__law_size kV__law_size dc__law_size pm__law_size cd__law_size ct__law_size : Value}
    {f__law_int : Addr} {od__law_int an__law_int : Option Addr} {sl__law_int : Array (Option Value)} {oc__law_int kV__law_int dc__law_int pm__law_int cd__law_int ct__law_int : Value}
    {f__law_first : Addr} {od__law_first an__law_first : Option Addr} {sl__law_first : Array (Option Value)} {oc__law_first kV__law_first dc__law_first pm__law_first cd__law_first ct__law_first : Value}
    {f__law_same : Addr} {od__law_same an__law_same : Option Addr} {sl__law_same : Array (Option Value)} {oc__law_same kV__law_same dc__law_same pm__law_same cd__law_same ct__law_same : Value}
    {f__law_rows : Addr} {od__law_rows an__law_rows : Option Addr} {sl__law_rows : Array (Option Value)} {oc__law_rows kV__law_rows dc__law_rows pm__law_rows cd__law_rows ct__law_rows : Value}
    {f__law_counts : Addr} {od__law_counts an__law_counts : Option Addr} {sl__law_counts : Array (Option Value)} {oc__law_counts kV__law_counts dc__law_counts pm__law_counts cd__law_counts ct__law_counts : Value}
    {f__law_world : Addr} {od__law_world an__law_world : Option Addr} {sl__law_world : Array (Option Value)} {oc__law_world kV__law_world dc__law_world pm__law_world cd__law_world ct__law_world : Value}
    {f__law_bend_days : Addr} {od__law_bend_days an__law_bend_days : Option Addr} {sl__law_bend_days : Array (Option Value)} {oc__law_bend_days kV__law_bend_days dc__law_bend_days pm__law_bend_days cd__law_bend_days ct__law_bend_days : Value}
    {f__law_ints : Addr} {od__law_ints an__law_ints : Option Addr} {sl__law_ints : Array (Option Value)} {oc__law_ints kV__law_ints dc__law_ints pm__law_ints cd__law_ints ct__law_ints : Value}
    {f__law_house : Addr} {od__law_house an__law_house : Option Addr} {sl__law_house : Array (Option Value)} {oc__law_house kV__law_house dc__law_house pm__law_house cd__law_house ct__law_house : Value}
    {f__law_cut : Addr} {od__law_cut an__law_cut : Option Addr} {sl__law_cut : Array (Option Value)} {oc__law_cut kV__law_cut dc__law_cut pm__law_cut cd__law_cut ct__law_cut : Value}
    {f__law_thin : Addr} {od__law_thin an__law_thin : Option Addr} {sl__law_thin : Array (Option Value)} {oc__law_thin kV__law_thin dc__law_thin pm__law_thin cd__law_thin ct__law_thin : Value}
    {f__law_mixed : Addr} {od__law_mixed an__law_mixed : Option Addr} {sl__law_mixed : Array (Option Value)} {oc__law_mixed kV__law_mixed dc__law_mixed pm__law_mixed cd__law_mixed ct__law_mixed : Value}
    {f__law_large : Addr} {od__law_large an__law_large : Option Addr} {sl__law_large : Array (Option Value)} {oc__law_large kV__law_large dc__law_large pm__law_large cd__law_large ct__law_large : Value}
    {f__law_steepest : Addr} {od__law_steepest an__law_steepest : Option Addr} {sl__law_steepest : Array (Option Value)} {oc__law_steepest kV__law_steepest dc__law_steepest pm__law_steepest cd__law_steepest ct__law_steepest : Value}
    {f_law : Addr} {od_law an_law : Option Addr} {sl_law : Array (Option Value)} {oc_law kV_law dc_law pm_law cd_law ct_law : Value}
    (z_len : PySem.W.nsIn K mainGlobals "len" = some none)
    (z_abs : PySem.W.nsIn K mainGlobals "abs" = some none)
    (z_max : PySem.W.nsIn K mainGlobals "max" = some none)
    (z_min : PySem.W.nsIn K mainGlobals "min" = some none)
    (z_sum : PySem.W.nsIn K mainGlobals "sum" = some none)
    (z_sorted : PySem.W.nsIn K mainGlobals "sorted" = some none)
    (z_isinstance : PySem.W.nsIn K mainGlobals "isinstance" = some none)
    (z_iter : PySem.W.nsIn K mainGlobals "iter" = some none)
    (z_ord : PySem.W.nsIn K mainGlobals "ord" = some none)
    (z_any : PySem.W.nsIn K mainGlobals "any" = some none)
    (z_all : PySem.W.nsIn K mainGlobals "all" = some none)
    (z_int : PySem.W.nsIn K mainGlobals "int" = some none)
    (z_bool : PySem.W.nsIn K mainGlobals "bool" = some none)
    (z_str : PySem.W.nsIn K mainGlobals "str" = some none)
    (z_list : PySem.W.nsIn K mainGlobals "list" = some none)
    (z_tuple : PySem.W.nsIn K mainGlobals "tuple" = some none)
    (z_dict : PySem.W.nsIn K mainGlobals "dict" = some none)
    (z_set : PySem.W.nsIn K mainGlobals "set" = some none)
    (z_range : PySem.W.nsIn K mainGlobals "range" = some none)
    (z_enumerate : PySem.W.nsIn K mainGlobals "enumerate" = some none)
    (z_zip : PySem.W.nsIn K mainGlobals "zip" = some none)
    (z_reversed : PySem.W.nsIn K mainGlobals "reversed" = some none)
    (z_super : PySem.W.nsIn K mainGlobals "super" = some none)
    (z_ValueError : PySem.W.nsIn K mainGlobals "ValueError" = some none)
    (q_get : PySem.W.specialIn K (.builtin "object.__class__") "__get__" = some (some (.builtin "getset_descriptor.__get__")))
    (q_takes : PySem.W.takesIn K (.builtin "object.__class__") = some true)
    (q_tp : PySem.W.nsIn K cStatics "thirdparty.any" = some none)
    (e0_NightsError : PySem.W.nsIn K mainGlobals "NightsError" = some (some (.ref c_NightsError)))
    (e1_NightsError : PySem.W.subIn K (.ref c_NightsError) (.type "BaseException") = some true)
    (e2_NightsError : PySem.W.subIn K (.ref c_NightsError) (.type "ValueError") = some true)
    (e3_NightsError : PySem.W.typeIn K (.ref c_NightsError) = some (.type "type"))
    (e4_NightsError : PySem.W.hasDictIn K c_NightsError = true)
    (e5_NightsError : PySem.W.subIn K (.ref c_NightsError) (.ref c_NightsError) = some true)
    (e6_NightsError : PySem.W.findIn K (.ref c_NightsError) "__getattribute__" = some (some (.builtin "BaseException.__getattribute__")))
    (e7_NightsError : PySem.W.findIn K (.ref c_NightsError) "__getattr__" = some none)
    (e8_NightsError : PySem.W.findIn K (.ref c_NightsError) "__class__" = some (some (.builtin "object.__class__")))
    (e9_NightsError : PySem.W.mroIn K c_NightsError (.type "object") = some true)
    (e0_NoPerson : PySem.W.nsIn K mainGlobals "NoPerson" = some (some (.ref c_NoPerson)))
    (e1_NoPerson : PySem.W.subIn K (.ref c_NoPerson) (.type "BaseException") = some true)
    (e2_NoPerson : PySem.W.subIn K (.ref c_NoPerson) (.type "ValueError") = some true)
    (e3_NoPerson : PySem.W.typeIn K (.ref c_NoPerson) = some (.type "type"))
    (e4_NoPerson : PySem.W.hasDictIn K c_NoPerson = true)
    (e5_NoPerson : PySem.W.subIn K (.ref c_NoPerson) (.ref c_NoPerson) = some true)
    (e6_NoPerson : PySem.W.findIn K (.ref c_NoPerson) "__getattribute__" = some (some (.builtin "BaseException.__getattribute__")))
    (e7_NoPerson : PySem.W.findIn K (.ref c_NoPerson) "__getattr__" = some none)
    (e8_NoPerson : PySem.W.findIn K (.ref c_NoPerson) "__class__" = some (some (.builtin "object.__class__")))
    (e9_NoPerson : PySem.W.mroIn K c_NoPerson (.type "object") = some true)
    (g1_NoPerson : K.lookup c_NoPerson = some (excClassObj nm_NoPerson q_NoPerson c_NoPerson N_NoPerson bs_NoPerson bm_NoPerson true sn_NoPerson sub_NoPerson ab_NoPerson col_NoPerson dd_NoPerson u0_NoPerson u1_NoPerson u2_NoPerson u3_NoPerson u5_NoPerson "ValueError.__new__"))
    (g2_NoPerson : PySem.HandSPX.refsVE bm_NoPerson = true)
    (g3_NoPerson : PySem.W.findIn K (.ref c_NoPerson) "__setattr__" = some (some (.builtin "object.__setattr__")))
    (n0_NoPerson : PySem.W.findIn K (.ref c_NoPerson) "person" = some none)
    (g4_NoPerson : PySem.W.findIn K (.ref c_NoPerson) "__init__" = some (some (.ref i_NoPerson)))
    (g5_NoPerson : PySem.W.typeIn K (.ref i_NoPerson) = some (.type "function"))
    (g6_NoPerson : PySem.W.keepIn K (.ref c_NoPerson) = true)
    (g7_NoPerson : PySem.W.ks_superIn K c_NoPerson c_NoPerson "__init__" = some (some (.builtin "ValueError.__init__")))
    (g8_NoPerson : PySem.W.mroIn K c_NoPerson (.ref c_NoPerson) = some true)
    (g9_NoPerson : K.lookup i_NoPerson = some ⟨oc_NoPerson, od_NoPerson, .func (PySem.W.ksFn "__init__" "NoPerson.__init__" (defArgs s_NoPerson___init__) (defBody s_NoPerson___init__) (defScope s_NoPerson___init__) .none kV_NoPerson doc_NoPerson pm_NoPerson an_NoPerson (.ref cda_NoPerson) ct_NoPerson cc_NoPerson), osl_NoPerson⟩)
    (h1_NoPerson : PySem.W.codeIn K (.ref cda_NoPerson) "NoPerson.__init__" = true)
    (h2_NoPerson : K.lookup cda_NoPerson = some ⟨ccl_NoPerson, cdd_NoPerson, .fields vs_NoPerson, ccs_NoPerson⟩)
    (h3_NoPerson : vs_NoPerson[2]? = some (.str file_NoPerson tf_NoPerson))
    (h4_NoPerson : ((("/claim/cut.py" : Str)) == file_NoPerson) = true)
    (h5_NoPerson : K.lookup cc_NoPerson = some ⟨cl_NoPerson, cld_NoPerson, .cell (some (.ref c_NoPerson)), csl_NoPerson⟩)
    (e0_NamedTwice : PySem.W.nsIn K mainGlobals "NamedTwice" = some (some (.ref c_NamedTwice)))
    (e1_NamedTwice : PySem.W.subIn K (.ref c_NamedTwice) (.type "BaseException") = some true)
    (e2_NamedTwice : PySem.W.subIn K (.ref c_NamedTwice) (.type "ValueError") = some true)
    (e3_NamedTwice : PySem.W.typeIn K (.ref c_NamedTwice) = some (.type "type"))
    (e4_NamedTwice : PySem.W.hasDictIn K c_NamedTwice = true)
    (e5_NamedTwice : PySem.W.subIn K (.ref c_NamedTwice) (.ref c_NamedTwice) = some true)
    (e6_NamedTwice : PySem.W.findIn K (.ref c_NamedTwice) "__getattribute__" = some (some (.builtin "BaseException.__getattribute__")))
    (e7_NamedTwice : PySem.W.findIn K (.ref c_NamedTwice) "__getattr__" = some none)
    (e8_NamedTwice : PySem.W.findIn K (.ref c_NamedTwice) "__class__" = some (some (.builtin "object.__class__")))
    (e9_NamedTwice : PySem.W.mroIn K c_NamedTwice (.type "object") = some true)
    (g1_NamedTwice : K.lookup c_NamedTwice = some (excClassObj nm_NamedTwice q_NamedTwice c_NamedTwice N_NamedTwice bs_NamedTwice bm_NamedTwice true sn_NamedTwice sub_NamedTwice ab_NamedTwice col_NamedTwice dd_NamedTwice u0_NamedTwice u1_NamedTwice u2_NamedTwice u3_NamedTwice u5_NamedTwice "ValueError.__new__"))
    (g2_NamedTwice : PySem.HandSPX.refsVE bm_NamedTwice = true)
    (g3_NamedTwice : PySem.W.findIn K (.ref c_NamedTwice) "__setattr__" = some (some (.builtin "object.__setattr__")))
    (n0_NamedTwice : PySem.W.findIn K (.ref c_NamedTwice) "person" = some none)
    (g4_NamedTwice : PySem.W.findIn K (.ref c_NamedTwice) "__init__" = some (some (.ref i_NamedTwice)))
    (g5_NamedTwice : PySem.W.typeIn K (.ref i_NamedTwice) = some (.type "function"))
    (g6_NamedTwice : PySem.W.keepIn K (.ref c_NamedTwice) = true)
    (g7_NamedTwice : PySem.W.ks_superIn K c_NamedTwice c_NamedTwice "__init__" = some (some (.builtin "ValueError.__init__")))
    (g8_NamedTwice : PySem.W.mroIn K c_NamedTwice (.ref c_NamedTwice) = some true)
    (g9_NamedTwice : K.lookup i_NamedTwice = some ⟨oc_NamedTwice, od_NamedTwice, .func (PySem.W.ksFn "__init__" "NamedTwice.__init__" (defArgs s_NamedTwice___init__) (defBody s_NamedTwice___init__) (defScope s_NamedTwice___init__) .none kV_NamedTwice doc_NamedTwice pm_NamedTwice an_NamedTwice (.ref cda_NamedTwice) ct_NamedTwice cc_NamedTwice), osl_NamedTwice⟩)
    (h1_NamedTwice : PySem.W.codeIn K (.ref cda_NamedTwice) "NamedTwice.__init__" = true)
    (h2_NamedTwice : K.lookup cda_NamedTwice = some ⟨ccl_NamedTwice, cdd_NamedTwice, .fields vs_NamedTwice, ccs_NamedTwice⟩)
    (h3_NamedTwice : vs_NamedTwice[2]? = some (.str file_NamedTwice tf_NamedTwice))
    (h4_NamedTwice : ((("/claim/cut.py" : Str)) == file_NamedTwice) = true)
    (h5_NamedTwice : K.lookup cc_NamedTwice = some ⟨cl_NamedTwice, cld_NamedTwice, .cell (some (.ref c_NamedTwice)), csl_NamedTwice⟩)
    (e0_WrongLength : PySem.W.nsIn K mainGlobals "WrongLength" = some (some (.ref c_WrongLength)))
    (e1_WrongLength : PySem.W.subIn K (.ref c_WrongLength) (.type "BaseException") = some true)
    (e2_WrongLength : PySem.W.subIn K (.ref c_WrongLength) (.type "ValueError") = some true)
    (e3_WrongLength : PySem.W.typeIn K (.ref c_WrongLength) = some (.type "type"))
    (e4_WrongLength : PySem.W.hasDictIn K c_WrongLength = true)
    (e5_WrongLength : PySem.W.subIn K (.ref c_WrongLength) (.ref c_WrongLength) = some true)
    (e6_WrongLength : PySem.W.findIn K (.ref c_WrongLength) "__getattribute__" = some (some (.builtin "BaseException.__getattribute__")))
    (e7_WrongLength : PySem.W.findIn K (.ref c_WrongLength) "__getattr__" = some none)
    (e8_WrongLength : PySem.W.findIn K (.ref c_WrongLength) "__class__" = some (some (.builtin "object.__class__")))
    (e9_WrongLength : PySem.W.mroIn K c_WrongLength (.type "object") = some true)
    (g1_WrongLength : K.lookup c_WrongLength = some (excClassObj nm_WrongLength q_WrongLength c_WrongLength N_WrongLength bs_WrongLength bm_WrongLength true sn_WrongLength sub_WrongLength ab_WrongLength col_WrongLength dd_WrongLength u0_WrongLength u1_WrongLength u2_WrongLength u3_WrongLength u5_WrongLength "ValueError.__new__"))
    (g2_WrongLength : PySem.HandSPX.refsVE bm_WrongLength = true)
    (g3_WrongLength : PySem.W.findIn K (.ref c_WrongLength) "__setattr__" = some (some (.builtin "object.__setattr__")))
    (n0_WrongLength : PySem.W.findIn K (.ref c_WrongLength) "found" = some none)
    (n1_WrongLength : PySem.W.findIn K (.ref c_WrongLength) "wanted" = some none)
    (g4_WrongLength : PySem.W.findIn K (.ref c_WrongLength) "__init__" = some (some (.ref i_WrongLength)))
    (g5_WrongLength : PySem.W.typeIn K (.ref i_WrongLength) = some (.type "function"))
    (g6_WrongLength : PySem.W.keepIn K (.ref c_WrongLength) = true)
    (g7_WrongLength : PySem.W.ks_superIn K c_WrongLength c_WrongLength "__init__" = some (some (.builtin "ValueError.__init__")))
    (g8_WrongLength : PySem.W.mroIn K c_WrongLength (.ref c_WrongLength) = some true)
    (g9_WrongLength : K.lookup i_WrongLength = some ⟨oc_WrongLength, od_WrongLength, .func (PySem.W.ksFn "__init__" "WrongLength.__init__" (defArgs s_WrongLength___init__) (defBody s_WrongLength___init__) (defScope s_WrongLength___init__) .none kV_WrongLength doc_WrongLength pm_WrongLength an_WrongLength (.ref cda_WrongLength) ct_WrongLength cc_WrongLength), osl_WrongLength⟩)
    (h1_WrongLength : PySem.W.codeIn K (.ref cda_WrongLength) "WrongLength.__init__" = true)
    (h2_WrongLength : K.lookup cda_WrongLength = some ⟨ccl_WrongLength, cdd_WrongLength, .fields vs_WrongLength, ccs_WrongLength⟩)
    (h3_WrongLength : vs_WrongLength[2]? = some (.str file_WrongLength tf_WrongLength))
    (h4_WrongLength : ((("/claim/cut.py" : Str)) == file_WrongLength) = true)
    (h5_WrongLength : K.lookup cc_WrongLength = some ⟨cl_WrongLength, cld_WrongLength, .cell (some (.ref c_WrongLength)), csl_WrongLength⟩)
    (e0_House : PySem.W.nsIn K mainGlobals "House" = some (some (.ref c_House)))
    (e1_House : PySem.W.plainGet K c_House Str.empty = true)
    (e2_House : PySem.W.hasDictIn K c_House = true)
    (e3_House : PySem.W.plainOver K c_House = true)
    (e4_House : PySem.W.findIn K (.ref c_House) "__setattr__" = some (some (.builtin "object.__setattr__")))
    (n_House_wants : PySem.W.findIn K (.ref c_House) "wants" = some none)
    (n_House_comings : PySem.W.findIn K (.ref c_House) "comings" = some none)
    (n_House_rest : PySem.W.findIn K (.ref c_House) "rest" = some none)
    (mm_House : PySem.W.makesIn K c_House = true)
    (mp_House : PySem.W.keepIn K (.ref c_House) = true)
    (e0_Wants : PySem.W.nsIn K mainGlobals "Wants" = some (some (.ref c_Wants)))
    (e1_Wants : PySem.W.plainGet K c_Wants Str.empty = true)
    (e2_Wants : PySem.W.hasDictIn K c_Wants = true)
    (e3_Wants : PySem.W.plainOver K c_Wants = true)
    (e4_Wants : PySem.W.findIn K (.ref c_Wants) "__setattr__" = some (some (.builtin "object.__setattr__")))
    (n_Wants_numbers : PySem.W.findIn K (.ref c_Wants) "numbers" = some none)
    (mm_Wants : PySem.W.makesIn K c_Wants = true)
    (mp_Wants : PySem.W.keepIn K (.ref c_Wants) = true)
    (r1_Wants : PySem.W.readsIn K c_Wants (.type "type") = true)
    (r2_Wants : PySem.W.specialIn K (.ref c_Wants) "__getattribute__" = some (some (.builtin "type.__getattribute__")))
    (v_Wants_MOST : PySem.W.findCls K (.ref c_Wants) (.type "type") "MOST" = some (.val (.int 60 kc_Wants_MOST)))
    (v_Wants_GREATEST : PySem.W.findCls K (.ref c_Wants) (.type "type") "GREATEST" = some (.val (.int 30 kc_Wants_GREATEST)))
    (gi_MOST_PEOPLE : PySem.W.nsIn K mainGlobals "MOST_PEOPLE" = some (some (.int 30 k_MOST_PEOPLE)))
    (gi_MOST_REST : PySem.W.nsIn K mainGlobals "MOST_REST" = some (some (.int 60 k_MOST_REST)))
    (a_Wants___init__ : PySem.W.findIn K (.ref c_Wants) "__init__" = some (some (.ref f_Wants___init__)))
    (i_Wants___init__ : PySem.W.isFn K (.ref f_Wants___init__) = true)
    (l_Wants___init__ : K.lookup f_Wants___init__ = some ⟨oc_Wants___init__, od_Wants___init__, .func (PySem.W.fnOf "__init__" "Wants.__init__" (defArgs s_Wants___init__) (defBody s_Wants___init__) (defScope s_Wants___init__) .none kV_Wants___init__ dc_Wants___init__ pm_Wants___init__ an_Wants___init__ cd_Wants___init__ ct_Wants___init__), sl_Wants___init__⟩)
    (c_Wants___init__ : PySem.W.codeIn K cd_Wants___init__ "Wants.__init__" = true)
    (k_Wants___init__ : PySem.W.keepIn K (.ref f_Wants___init__) = true)
    (a_Wants___len__ : PySem.W.findIn K (.ref c_Wants) "__len__" = some (some (.ref f_Wants___len__)))
    (i_Wants___len__ : PySem.W.isFn K (.ref f_Wants___len__) = true)
    (l_Wants___len__ : K.lookup f_Wants___len__ = some ⟨oc_Wants___len__, od_Wants___len__, .func (PySem.W.fnOf "__len__" "Wants.__len__" (defArgs s_Wants___len__) (defBody s_Wants___len__) (defScope s_Wants___len__) .none kV_Wants___len__ dc_Wants___len__ pm_Wants___len__ an_Wants___len__ cd_Wants___len__ ct_Wants___len__), sl_Wants___len__⟩)
    (c_Wants___len__ : PySem.W.codeIn K cd_Wants___len__ "Wants.__len__" = true)
    (k_Wants___len__ : PySem.W.keepIn K (.ref f_Wants___len__) = true)
    (a_Wants___iter__ : PySem.W.findIn K (.ref c_Wants) "__iter__" = some (some (.ref f_Wants___iter__)))
    (i_Wants___iter__ : PySem.W.isFn K (.ref f_Wants___iter__) = true)
    (l_Wants___iter__ : K.lookup f_Wants___iter__ = some ⟨oc_Wants___iter__, od_Wants___iter__, .func (PySem.W.fnOf "__iter__" "Wants.__iter__" (defArgs s_Wants___iter__) (defBody s_Wants___iter__) (defScope s_Wants___iter__) .none kV_Wants___iter__ dc_Wants___iter__ pm_Wants___iter__ an_Wants___iter__ cd_Wants___iter__ ct_Wants___iter__), sl_Wants___iter__⟩)
    (c_Wants___iter__ : PySem.W.codeIn K cd_Wants___iter__ "Wants.__iter__" = true)
    (k_Wants___iter__ : PySem.W.keepIn K (.ref f_Wants___iter__) = true)
    (a_House___init__ : PySem.W.findIn K (.ref c_House) "__init__" = some (some (.ref f_House___init__)))
    (i_House___init__ : PySem.W.isFn K (.ref f_House___init__) = true)
    (l_House___init__ : K.lookup f_House___init__ = some ⟨oc_House___init__, od_House___init__, .func (PySem.W.fnOf "__init__" "House.__init__" (defArgs s_House___init__) (defBody s_House___init__) (defScope s_House___init__) .none kV_House___init__ dc_House___init__ pm_House___init__ an_House___init__ cd_House___init__ ct_House___init__), sl_House___init__⟩)
    (c_House___init__ : PySem.W.codeIn K cd_House___init__ "House.__init__" = true)
    (k_House___init__ : PySem.W.keepIn K (.ref f_House___init__) = true)
    (p1_House_nights : PySem.W.findIn K (.ref c_House) "nights" = some (some (.ref p_House_nights)))
    (p2_House_nights : PySem.W.specialIn K (.ref p_House_nights) "__get__" = some (some (.builtin "property.__get__")))
    (p3_House_nights : PySem.W.takesIn K (.ref p_House_nights) = some true)
    (p4_House_nights : PySem.W.recIn K p_House_nights "property" = some (.ref f_House_nights :: rs_House_nights))
    (l_House_nights : K.lookup f_House_nights = some ⟨oc_House_nights, od_House_nights, .func (PySem.W.fnOf "nights" "House.nights" (defArgs s_House_nights) (defBody s_House_nights) (defScope s_House_nights) .none kV_House_nights dc_House_nights pm_House_nights an_House_nights cd_House_nights ct_House_nights), sl_House_nights⟩)
    (c_House_nights : PySem.W.codeIn K cd_House_nights "House.nights" = true)
    (k_House_nights : PySem.W.keepIn K (.ref f_House_nights) = true)
    (p1_House_people : PySem.W.findIn K (.ref c_House) "people" = some (some (.ref p_House_people)))
    (p2_House_people : PySem.W.specialIn K (.ref p_House_people) "__get__" = some (some (.builtin "property.__get__")))
    (p3_House_people : PySem.W.takesIn K (.ref p_House_people) = some true)
    (p4_House_people : PySem.W.recIn K p_House_people "property" = some (.ref f_House_people :: rs_House_people))
    (l_House_people : K.lookup f_House_people = some ⟨oc_House_people, od_House_people, .func (PySem.W.fnOf "people" "House.people" (defArgs s_House_people) (defBody s_House_people) (defScope s_House_people) .none kV_House_people dc_House_people pm_House_people an_House_people cd_House_people ct_House_people), sl_House_people⟩)
    (c_House_people : PySem.W.codeIn K cd_House_people "House.people" = true)
    (k_House_people : PySem.W.keepIn K (.ref f_House_people) = true)
    (a_check_person : PySem.W.nsIn K mainGlobals "check_person" = some (some (.ref f_check_person)))
    (l_check_person : K.lookup f_check_person = some ⟨oc_check_person, od_check_person, .func (PySem.W.fnOf "check_person" "check_person" (defArgs s_check_person) (defBody s_check_person) (defScope s_check_person) .none kV_check_person dc_check_person pm_check_person an_check_person cd_check_person ct_check_person), sl_check_person⟩)
    (c_check_person : PySem.W.codeIn K cd_check_person "check_person" = true)
    (k_check_person : PySem.W.keepIn K (.ref f_check_person) = true)
    (a_check_people : PySem.W.nsIn K mainGlobals "check_people" = some (some (.ref f_check_people)))
    (l_check_people : K.lookup f_check_people = some ⟨oc_check_people, od_check_people, .func (PySem.W.fnOf "check_people" "check_people" (defArgs s_check_people) (defBody s_check_people) (defScope s_check_people) .none kV_check_people dc_check_people pm_check_people an_check_people cd_check_people ct_check_people), sl_check_people⟩)
    (c_check_people : PySem.W.codeIn K cd_check_people "check_people" = true)
    (k_check_people : PySem.W.keepIn K (.ref f_check_people) = true)
    (a_arrivals : PySem.W.nsIn K mainGlobals "arrivals" = some (some (.ref f_arrivals)))
    (l_arrivals : K.lookup f_arrivals = some ⟨oc_arrivals, od_arrivals, .func (PySem.W.fnOf "arrivals" "arrivals" (defArgs s_arrivals) (defBody s_arrivals) (defScope s_arrivals) .none kV_arrivals dc_arrivals pm_arrivals an_arrivals cd_arrivals ct_arrivals), sl_arrivals⟩)
    (c_arrivals : PySem.W.codeIn K cd_arrivals "arrivals" = true)
    (k_arrivals : PySem.W.keepIn K (.ref f_arrivals) = true)
    (a_first_choice : PySem.W.nsIn K mainGlobals "first_choice" = some (some (.ref f_first_choice)))
    (l_first_choice : K.lookup f_first_choice = some ⟨oc_first_choice, od_first_choice, .func (PySem.W.fnOf "first_choice" "first_choice" (defArgs s_first_choice) (defBody s_first_choice) (defScope s_first_choice) .none kV_first_choice dc_first_choice pm_first_choice an_first_choice cd_first_choice ct_first_choice), sl_first_choice⟩)
    (c_first_choice : PySem.W.codeIn K cd_first_choice "first_choice" = true)
    (k_first_choice : PySem.W.keepIn K (.ref f_first_choice) = true)
    (a_room_left : PySem.W.nsIn K mainGlobals "room_left" = some (some (.ref f_room_left)))
    (l_room_left : K.lookup f_room_left = some ⟨oc_room_left, od_room_left, .func (PySem.W.fnOf "room_left" "room_left" (defArgs s_room_left) (defBody s_room_left) (defScope s_room_left) .none kV_room_left dc_room_left pm_room_left an_room_left cd_room_left ct_room_left), sl_room_left⟩)
    (c_room_left : PySem.W.codeIn K cd_room_left "room_left" = true)
    (k_room_left : PySem.W.keepIn K (.ref f_room_left) = true)
    (a_growth : PySem.W.nsIn K mainGlobals "growth" = some (some (.ref f_growth)))
    (l_growth : K.lookup f_growth = some ⟨oc_growth, od_growth, .func (PySem.W.fnOf "growth" "growth" (defArgs s_growth) (defBody s_growth) (defScope s_growth) .none kV_growth dc_growth pm_growth an_growth cd_growth ct_growth), sl_growth⟩)
    (c_growth : PySem.W.codeIn K cd_growth "growth" = true)
    (k_growth : PySem.W.keepIn K (.ref f_growth) = true)
    (a_check_order : PySem.W.nsIn K mainGlobals "check_order" = some (some (.ref f_check_order)))
    (l_check_order : K.lookup f_check_order = some ⟨oc_check_order, od_check_order, .func (PySem.W.fnOf "check_order" "check_order" (defArgs s_check_order) (defBody s_check_order) (defScope s_check_order) .none kV_check_order dc_check_order pm_check_order an_check_order cd_check_order ct_check_order), sl_check_order⟩)
    (c_check_order : PySem.W.codeIn K cd_check_order "check_order" = true)
    (k_check_order : PySem.W.keepIn K (.ref f_check_order) = true)
    (a_nights_in_order : PySem.W.nsIn K mainGlobals "nights_in_order" = some (some (.ref f_nights_in_order)))
    (l_nights_in_order : K.lookup f_nights_in_order = some ⟨oc_nights_in_order, od_nights_in_order, .func (PySem.W.fnOf "nights_in_order" "nights_in_order" (defArgs s_nights_in_order) (defBody s_nights_in_order) (defScope s_nights_in_order) .none kV_nights_in_order dc_nights_in_order pm_nights_in_order an_nights_in_order cd_nights_in_order ct_nights_in_order), sl_nights_in_order⟩)
    (c_nights_in_order : PySem.W.codeIn K cd_nights_in_order "nights_in_order" = true)
    (k_nights_in_order : PySem.W.keepIn K (.ref f_nights_in_order) = true)
    (a_order_counts : PySem.W.nsIn K mainGlobals "order_counts" = some (some (.ref f_order_counts)))
    (l_order_counts : K.lookup f_order_counts = some ⟨oc_order_counts, od_order_counts, .func (PySem.W.fnOf "order_counts" "order_counts" (defArgs s_order_counts) (defBody s_order_counts) (defScope s_order_counts) .none kV_order_counts dc_order_counts pm_order_counts an_order_counts cd_order_counts ct_order_counts), sl_order_counts⟩)
    (c_order_counts : PySem.W.codeIn K cd_order_counts "order_counts" = true)
    (k_order_counts : PySem.W.keepIn K (.ref f_order_counts) = true)
    (a_most_of : PySem.W.nsIn K mainGlobals "most_of" = some (some (.ref f_most_of)))
    (l_most_of : K.lookup f_most_of = some ⟨oc_most_of, od_most_of, .func (PySem.W.fnOf "most_of" "most_of" (defArgs s_most_of) (defBody s_most_of) (defScope s_most_of) .none kV_most_of dc_most_of pm_most_of an_most_of cd_most_of ct_most_of), sl_most_of⟩)
    (c_most_of : PySem.W.codeIn K cd_most_of "most_of" = true)
    (k_most_of : PySem.W.keepIn K (.ref f_most_of) = true)
    (a__law_pool : PySem.W.nsIn K mainGlobals "_law_pool" = some (some (.ref f__law_pool)))
    (l__law_pool : K.lookup f__law_pool = some ⟨oc__law_pool, od__law_pool, .func (PySem.W.fnOf "_law_pool" "_law_pool" (defArgs s__law_pool) (defBody s__law_pool) (defScope s__law_pool) .none kV__law_pool dc__law_pool pm__law_pool an__law_pool cd__law_pool ct__law_pool), sl__law_pool⟩)
    (c__law_pool : PySem.W.codeIn K cd__law_pool "_law_pool" = true)
    (k__law_pool : PySem.W.keepIn K (.ref f__law_pool) = true)
    (a__law_draw : PySem.W.nsIn K mainGlobals "_law_draw" = some (some (.ref f__law_draw)))
    (l__law_draw : K.lookup f__law_draw = some ⟨oc__law_draw, od__law_draw, .func (PySem.W.fnOf "_law_draw" "_law_draw" (defArgs s__law_draw) (defBody s__law_draw) (defScope s__law_draw) .none kV__law_draw dc__law_draw pm__law_draw an__law_draw cd__law_draw ct__law_draw), sl__law_draw⟩)
    (c__law_draw : PySem.W.codeIn K cd__law_draw "_law_draw" = true)
    (k__law_draw : PySem.W.keepIn K (.ref f__law_draw) = true)
    (a__law_comings : PySem.W.nsIn K mainGlobals "_law_comings" = some (some (.ref f__law_comings)))
    (l__law_comings : K.lookup f__law_comings = some ⟨oc__law_comings, od__law_comings, .func (PySem.W.fnOf "_law_comings" "_law_comings" (defArgs s__law_comings) (defBody s__law_comings) (defScope s__law_comings) .none kV__law_comings dc__law_comings pm__law_comings an__law_comings cd__law_comings ct__law_comings), sl__law_comings⟩)
    (c__law_comings : PySem.W.codeIn K cd__law_comings "_law_comings" = true)
    (k__law_comings : PySem.W.keepIn K (.ref f__law_comings) = true)
    (a__law_wants : PySem.W.nsIn K mainGlobals "_law_wants" = some (some (.ref f__law_wants)))
    (l__law_wants : K.lookup f__law_wants = some ⟨oc__law_wants, od__law_wants, .func (PySem.W.fnOf "_law_wants" "_law_wants" (defArgs s__law_wants) (defBody s__law_wants) (defScope s__law_wants) .none kV__law_wants dc__law_wants pm__law_wants an__law_wants cd__law_wants ct__law_wants), sl__law_wants⟩)
    (c__law_wants : PySem.W.codeIn K cd__law_wants "_law_wants" = true)
    (k__law_wants : PySem.W.keepIn K (.ref f__law_wants) = true)
    (a__law_size : PySem.W.nsIn K mainGlobals "_law_size" = some (some (.ref f__law_size)))
    (l__law_size : K.lookup f__law_size = some ⟨oc__law_size, od__law_size, .func (PySem.W.fnOf "_law_size" "_law_size" (defArgs s__law_size) (defBody s__law_size) (defScope s__law_size) .none kV__law_size dc__law_size pm__law_size an__law_size cd__law_size ct__law_size), sl__law_size⟩)
    (c__law_size : PySem.W.codeIn K cd__law_size "_law_size" = true)
    (k__law_size : PySem.W.keepIn K (.ref f__law_size) = true)
    (a__law_int : PySem.W.nsIn K mainGlobals "_law_int" = some (some (.ref f__law_int)))
    (l__law_int : K.lookup f__law_int = some ⟨oc__law_int, od__law_int, .func (PySem.W.fnOf "_law_int" "_law_int" (defArgs s__law_int) (defBody s__law_int) (defScope s__law_int) .none kV__law_int dc__law_int pm__law_int an__law_int cd__law_int ct__law_int), sl__law_int⟩)
    (c__law_int : PySem.W.codeIn K cd__law_int "_law_int" = true)
    (k__law_int : PySem.W.keepIn K (.ref f__law_int) = true)
    (a__law_first : PySem.W.nsIn K mainGlobals "_law_first" = some (some (.ref f__law_first)))
    (l__law_first : K.lookup f__law_first = some ⟨oc__law_first, od__law_first, .func (PySem.W.fnOf "_law_first" "_law_first" (defArgs s__law_first) (defBody s__law_first) (defScope s__law_first) .none kV__law_first dc__law_first pm__law_first an__law_first cd__law_first ct__law_first), sl__law_first⟩)
    (c__law_first : PySem.W.codeIn K cd__law_first "_law_first" = true)
    (k__law_first : PySem.W.keepIn K (.ref f__law_first) = true)
    (a__law_same : PySem.W.nsIn K mainGlobals "_law_same" = some (some (.ref f__law_same)))
    (l__law_same : K.lookup f__law_same = some ⟨oc__law_same, od__law_same, .func (PySem.W.fnOf "_law_same" "_law_same" (defArgs s__law_same) (defBody s__law_same) (defScope s__law_same) .none kV__law_same dc__law_same pm__law_same an__law_same cd__law_same ct__law_same), sl__law_same⟩)
    (c__law_same : PySem.W.codeIn K cd__law_same "_law_same" = true)
    (k__law_same : PySem.W.keepIn K (.ref f__law_same) = true)
    (a__law_rows : PySem.W.nsIn K mainGlobals "_law_rows" = some (some (.ref f__law_rows)))
    (l__law_rows : K.lookup f__law_rows = some ⟨oc__law_rows, od__law_rows, .func (PySem.W.fnOf "_law_rows" "_law_rows" (defArgs s__law_rows) (defBody s__law_rows) (defScope s__law_rows) .none kV__law_rows dc__law_rows pm__law_rows an__law_rows cd__law_rows ct__law_rows), sl__law_rows⟩)
    (c__law_rows : PySem.W.codeIn K cd__law_rows "_law_rows" = true)
    (k__law_rows : PySem.W.keepIn K (.ref f__law_rows) = true)
    (a__law_counts : PySem.W.nsIn K mainGlobals "_law_counts" = some (some (.ref f__law_counts)))
    (l__law_counts : K.lookup f__law_counts = some ⟨oc__law_counts, od__law_counts, .func (PySem.W.fnOf "_law_counts" "_law_counts" (defArgs s__law_counts) (defBody s__law_counts) (defScope s__law_counts) .none kV__law_counts dc__law_counts pm__law_counts an__law_counts cd__law_counts ct__law_counts), sl__law_counts⟩)
    (c__law_counts : PySem.W.codeIn K cd__law_counts "_law_counts" = true)
    (k__law_counts : PySem.W.keepIn K (.ref f__law_counts) = true)
    (a__law_world : PySem.W.nsIn K mainGlobals "_law_world" = some (some (.ref f__law_world)))
    (l__law_world : K.lookup f__law_world = some ⟨oc__law_world, od__law_world, .func (PySem.W.fnOf "_law_world" "_law_world" (defArgs s__law_world) (defBody s__law_world) (defScope s__law_world) .none kV__law_world dc__law_world pm__law_world an__law_world cd__law_world ct__law_world), sl__law_world⟩)
    (c__law_world : PySem.W.codeIn K cd__law_world "_law_world" = true)
    (k__law_world : PySem.W.keepIn K (.ref f__law_world) = true)
    (a__law_bend_days : PySem.W.nsIn K mainGlobals "_law_bend_days" = some (some (.ref f__law_bend_days)))
    (l__law_bend_days : K.lookup f__law_bend_days = some ⟨oc__law_bend_days, od__law_bend_days, .func (PySem.W.fnOf "_law_bend_days" "_law_bend_days" (defArgs s__law_bend_days) (defBody s__law_bend_days) (defScope s__law_bend_days) .none kV__law_bend_days dc__law_bend_days pm__law_bend_days an__law_bend_days cd__law_bend_days ct__law_bend_days), sl__law_bend_days⟩)
    (c__law_bend_days : PySem.W.codeIn K cd__law_bend_days "_law_bend_days" = true)
    (k__law_bend_days : PySem.W.keepIn K (.ref f__law_bend_days) = true)
    (a__law_ints : PySem.W.nsIn K mainGlobals "_law_ints" = some (some (.ref f__law_ints)))
    (l__law_ints : K.lookup f__law_ints = some ⟨oc__law_ints, od__law_ints, .func (PySem.W.fnOf "_law_ints" "_law_ints" (defArgs s__law_ints) (defBody s__law_ints) (defScope s__law_ints) .none kV__law_ints dc__law_ints pm__law_ints an__law_ints cd__law_ints ct__law_ints), sl__law_ints⟩)
    (c__law_ints : PySem.W.codeIn K cd__law_ints "_law_ints" = true)
    (k__law_ints : PySem.W.keepIn K (.ref f__law_ints) = true)
    (a__law_house : PySem.W.nsIn K mainGlobals "_law_house" = some (some (.ref f__law_house)))
    (l__law_house : K.lookup f__law_house = some ⟨oc__law_house, od__law_house, .func (PySem.W.fnOf "_law_house" "_law_house" (defArgs s__law_house) (defBody s__law_house) (defScope s__law_house) .none kV__law_house dc__law_house pm__law_house an__law_house cd__law_house ct__law_house), sl__law_house⟩)
    (c__law_house : PySem.W.codeIn K cd__law_house "_law_house" = true)
    (k__law_house : PySem.W.keepIn K (.ref f__law_house) = true)
    (a__law_cut : PySem.W.nsIn K mainGlobals "_law_cut" = some (some (.ref f__law_cut)))
    (l__law_cut : K.lookup f__law_cut = some ⟨oc__law_cut, od__law_cut, .func (PySem.W.fnOf "_law_cut" "_law_cut" (defArgs s__law_cut) (defBody s__law_cut) (defScope s__law_cut) .none kV__law_cut dc__law_cut pm__law_cut an__law_cut cd__law_cut ct__law_cut), sl__law_cut⟩)
    (c__law_cut : PySem.W.codeIn K cd__law_cut "_law_cut" = true)
    (k__law_cut : PySem.W.keepIn K (.ref f__law_cut) = true)
    (a__law_thin : PySem.W.nsIn K mainGlobals "_law_thin" = some (some (.ref f__law_thin)))
    (l__law_thin : K.lookup f__law_thin = some ⟨oc__law_thin, od__law_thin, .func (PySem.W.fnOf "_law_thin" "_law_thin" (defArgs s__law_thin) (defBody s__law_thin) (defScope s__law_thin) .none kV__law_thin dc__law_thin pm__law_thin an__law_thin cd__law_thin ct__law_thin), sl__law_thin⟩)
    (c__law_thin : PySem.W.codeIn K cd__law_thin "_law_thin" = true)
    (k__law_thin : PySem.W.keepIn K (.ref f__law_thin) = true)
    (a__law_mixed : PySem.W.nsIn K mainGlobals "_law_mixed" = some (some (.ref f__law_mixed)))
    (l__law_mixed : K.lookup f__law_mixed = some ⟨oc__law_mixed, od__law_mixed, .func (PySem.W.fnOf "_law_mixed" "_law_mixed" (defArgs s__law_mixed) (defBody s__law_mixed) (defScope s__law_mixed) .none kV__law_mixed dc__law_mixed pm__law_mixed an__law_mixed cd__law_mixed ct__law_mixed), sl__law_mixed⟩)
    (c__law_mixed : PySem.W.codeIn K cd__law_mixed "_law_mixed" = true)
    (k__law_mixed : PySem.W.keepIn K (.ref f__law_mixed) = true)
    (a__law_large : PySem.W.nsIn K mainGlobals "_law_large" = some (some (.ref f__law_large)))
    (l__law_large : K.lookup f__law_large = some ⟨oc__law_large, od__law_large, .func (PySem.W.fnOf "_law_large" "_law_large" (defArgs s__law_large) (defBody s__law_large) (defScope s__law_large) .none kV__law_large dc__law_large pm__law_large an__law_large cd__law_large ct__law_large), sl__law_large⟩)
    (c__law_large : PySem.W.codeIn K cd__law_large "_law_large" = true)
    (k__law_large : PySem.W.keepIn K (.ref f__law_large) = true)
    (a__law_steepest : PySem.W.nsIn K mainGlobals "_law_steepest" = some (some (.ref f__law_steepest)))
    (l__law_steepest : K.lookup f__law_steepest = some ⟨oc__law_steepest, od__law_steepest, .func (PySem.W.fnOf "_law_steepest" "_law_steepest" (defArgs s__law_steepest) (defBody s__law_steepest) (defScope s__law_steepest) .none kV__law_steepest dc__law_steepest pm__law_steepest an__law_steepest cd__law_steepest ct__law_steepest), sl__law_steepest⟩)
    (c__law_steepest : PySem.W.codeIn K cd__law_steepest "_law_steepest" = true)
    (k__law_steepest : PySem.W.keepIn K (.ref f__law_steepest) = true)
    (a_law : PySem.W.nsIn K mainGlobals "law" = some (some (.ref f_law)))
    (l_law : K.lookup f_law = some ⟨oc_law, od_law, .func (PySem.W.fnOf "law" "law" (defArgs s_law) (defBody s_law) (defScope s_law) .none kV_law dc_law pm_law an_law cd_law ct_law), sl_law⟩)
    (c_law : PySem.W.codeIn K cd_law "law" = true)
    (k_law : PySem.W.keepIn K (.ref f_law) = true) :
    ∃ fd : FuncData, (∀ (s : Shared) (v : Value), BindsTo s fd ⟨[v], []⟩ [("script", v)]) ∧ ∀ base : Heap, K.In base → base.Ns mainGlobals mg → FnOk l.prog w K mg base (L2.CX l.prog w) 14 fa fd ["script"] (spLaw K) := by
  have e := hfa.symm.trans (PySem.W.mg_of X G a_law)
  cases e
  have B : Blt mg := Blt.of X G z_len z_abs z_max z_min z_sum z_sorted z_isinstance z_iter z_ord z_any z_all z_int z_bool z_str z_list z_tuple z_dict z_set z_range z_enumerate z_zip z_reversed z_super z_ValueError
  have xb_NightsError := ExcB.of X G e0_NightsError e1_NightsError e2_NightsError e3_NightsError e4_NightsError e5_NightsError e6_NightsError e7_NightsError e8_NightsError q_get q_takes e9_NightsError
  have xb_NoPerson := ExcB.of X G e0_NoPerson e1_NoPerson e2_NoPerson e3_NoPerson e4_NoPerson e5_NoPerson e6_NoPerson e7_NoPerson e8_NoPerson q_get q_takes e9_NoPerson
  have x_NoPerson : ErrC K mg "NoPerson" c_NoPerson i_NoPerson (["person"] : List Str) := ErrTxt.of si_NoPerson xb_NoPerson g1_NoPerson g2_NoPerson g3_NoPerson (fun f hf => by simp only [List.mem_cons, List.not_mem_nil, or_false] at hf; rcases hf with rfl <;> assumption) g4_NoPerson g5_NoPerson g6_NoPerson g7_NoPerson g8_NoPerson q_tp z_super g9_NoPerson h1_NoPerson h2_NoPerson h3_NoPerson h4_NoPerson h5_NoPerson
  have xb_NamedTwice := ExcB.of X G e0_NamedTwice e1_NamedTwice e2_NamedTwice e3_NamedTwice e4_NamedTwice e5_NamedTwice e6_NamedTwice e7_NamedTwice e8_NamedTwice q_get q_takes e9_NamedTwice
  have x_NamedTwice : ErrC K mg "NamedTwice" c_NamedTwice i_NamedTwice (["person"] : List Str) := ErrTxt.of si_NamedTwice xb_NamedTwice g1_NamedTwice g2_NamedTwice g3_NamedTwice (fun f hf => by simp only [List.mem_cons, List.not_mem_nil, or_false] at hf; rcases hf with rfl <;> assumption) g4_NamedTwice g5_NamedTwice g6_NamedTwice g7_NamedTwice g8_NamedTwice q_tp z_super g9_NamedTwice h1_NamedTwice h2_NamedTwice h3_NamedTwice h4_NamedTwice h5_NamedTwice
  have xb_WrongLength := ExcB.of X G e0_WrongLength e1_WrongLength e2_WrongLength e3_WrongLength e4_WrongLength e5_WrongLength e6_WrongLength e7_WrongLength e8_WrongLength q_get q_takes e9_WrongLength
  have x_WrongLength : ErrC K mg "WrongLength" c_WrongLength i_WrongLength (["found", "wanted"] : List Str) := ErrTxt.of si_WrongLength xb_WrongLength g1_WrongLength g2_WrongLength g3_WrongLength (fun f hf => by simp only [List.mem_cons, List.not_mem_nil, or_false] at hf; rcases hf with rfl | rfl <;> assumption) g4_WrongLength g5_WrongLength g6_WrongLength g7_WrongLength g8_WrongLength q_tp z_super g9_WrongLength h1_WrongLength h2_WrongLength h3_WrongLength h4_WrongLength h5_WrongLength
  have cl_House : Cls K c_House := ⟨e1_House, e2_House, e3_House, e4_House⟩
  have g_House : GNm mg "House" c_House := ⟨PySem.W.mg_of X G e0_House⟩
  have cl_Wants : Cls K c_Wants := ⟨e1_Wants, e2_Wants, e3_Wants, e4_Wants⟩
  have g_Wants : GNm mg "Wants" c_Wants := ⟨PySem.W.mg_of X G e0_Wants⟩
  have F_Wants___init__ := fun_mk (st := s_Wants___init__) l_Wants___init__ c_Wants___init__ k_Wants___init__
  have b_Wants___init__ := F_Wants___init__.binds (ps := (["self", "numbers"] : List Str)) fun _ _ _ _ _ _ us hl => match us, hl with | [_, _], _ => rfl
  have F_Wants___len__ := fun_mk (st := s_Wants___len__) l_Wants___len__ c_Wants___len__ k_Wants___len__
  have b_Wants___len__ := F_Wants___len__.binds (ps := (["self"] : List Str)) fun _ _ _ _ _ _ us hl => match us, hl with | [_], _ => rfl
  have F_Wants___iter__ := fun_mk (st := s_Wants___iter__) l_Wants___iter__ c_Wants___iter__ k_Wants___iter__
  have b_Wants___iter__ := F_Wants___iter__.binds (ps := (["self"] : List Str)) fun _ _ _ _ _ _ us hl => match us, hl with | [_], _ => rfl
  have F_House___init__ := fun_mk (st := s_House___init__) l_House___init__ c_House___init__ k_House___init__
  have b_House___init__ : KBn K (PySem.W.fnOf "__init__" "House.__init__" (defArgs s_House___init__) (defBody s_House___init__) (defScope s_House___init__) .none kV_House___init__ dc_House___init__ pm_House___init__ an_House___init__ cd_House___init__ ct_House___init__) (["self", "wants", "comings", "rest"] : List Str) 3 (["rest"] : List Str) (fun us ws => us ++ ws) (fun vs zs => vs ++ zs) := ⟨fun s us ws _ l1 l2 => match us, ws, l1, l2 with | [_, _, _], [_], _, _ => .of_eq rfl, fun r1 r2 => r1.append r2⟩
  have F_House_nights := fun_mk (st := s_House_nights) l_House_nights c_House_nights k_House_nights
  have b_House_nights := F_House_nights.binds (ps := (["self"] : List Str)) fun _ _ _ _ _ _ us hl => match us, hl with | [_], _ => rfl
  have F_House_people := fun_mk (st := s_House_people) l_House_people c_House_people k_House_people
  have b_House_people := F_House_people.binds (ps := (["self"] : List Str)) fun _ _ _ _ _ _ us hl => match us, hl with | [_], _ => rfl
  have F_check_person := fun_mk (st := s_check_person) l_check_person c_check_person k_check_person
  have b_check_person := F_check_person.binds (ps := (["house", "person"] : List Str)) fun _ _ _ _ _ _ us hl => match us, hl with | [_, _], _ => rfl
  have m_check_person := PySem.W.mg_of X G a_check_person
  have F_check_people := fun_mk (st := s_check_people) l_check_people c_check_people k_check_people
  have b_check_people := F_check_people.binds (ps := (["house", "people"] : List Str)) fun _ _ _ _ _ _ us hl => match us, hl with | [_, _], _ => rfl
  have m_check_people := PySem.W.mg_of X G a_check_people
  have F_arrivals := fun_mk (st := s_arrivals) l_arrivals c_arrivals k_arrivals
  have b_arrivals := F_arrivals.binds (ps := (["house", "people"] : List Str)) fun _ _ _ _ _ _ us hl => match us, hl with | [_, _], _ => rfl
  have m_arrivals := PySem.W.mg_of X G a_arrivals
  have F_first_choice := fun_mk (st := s_first_choice) l_first_choice c_first_choice k_first_choice
  have b_first_choice := F_first_choice.binds (ps := (["house", "people"] : List Str)) fun _ _ _ _ _ _ us hl => match us, hl with | [_, _], _ => rfl
  have m_first_choice := PySem.W.mg_of X G a_first_choice
  have F_room_left := fun_mk (st := s_room_left) l_room_left c_room_left k_room_left
  have b_room_left := F_room_left.binds (ps := (["house", "people"] : List Str)) fun _ _ _ _ _ _ us hl => match us, hl with | [_, _], _ => rfl
  have m_room_left := PySem.W.mg_of X G a_room_left
  have F_growth := fun_mk (st := s_growth) l_growth c_growth k_growth
  have b_growth := F_growth.binds (ps := (["house", "people", "person"] : List Str)) fun _ _ _ _ _ _ us hl => match us, hl with | [_, _, _], _ => rfl
  have m_growth := PySem.W.mg_of X G a_growth
  have F_check_order := fun_mk (st := s_check_order) l_check_order c_check_order k_check_order
  have b_check_order := F_check_order.binds (ps := (["house", "order"] : List Str)) fun _ _ _ _ _ _ us hl => match us, hl with | [_, _], _ => rfl
  have m_check_order := PySem.W.mg_of X G a_check_order
  have F_nights_in_order := fun_mk (st := s_nights_in_order) l_nights_in_order c_nights_in_order k_nights_in_order
  have b_nights_in_order := F_nights_in_order.binds (ps := (["house", "order"] : List Str)) fun _ _ _ _ _ _ us hl => match us, hl with | [_, _], _ => rfl
  have m_nights_in_order := PySem.W.mg_of X G a_nights_in_order
  have F_order_counts := fun_mk (st := s_order_counts) l_order_counts c_order_counts k_order_counts
  have b_order_counts := F_order_counts.binds (ps := (["house", "order"] : List Str)) fun _ _ _ _ _ _ us hl => match us, hl with | [_, _], _ => rfl
  have m_order_counts := PySem.W.mg_of X G a_order_counts
  have F_most_of := fun_mk (st := s_most_of) l_most_of c_most_of k_most_of
  have b_most_of := F_most_of.binds (ps := (["house", "people"] : List Str)) fun _ _ _ _ _ _ us hl => match us, hl with | [_, _], _ => rfl
  have m_most_of := PySem.W.mg_of X G a_most_of
  have F__law_pool := fun_mk (st := s__law_pool) l__law_pool c__law_pool k__law_pool
  have b__law_pool := F__law_pool.binds (ps := (["script", "at"] : List Str)) fun _ _ _ _ _ _ us hl => match us, hl with | [_, _], _ => rfl
  have m__law_pool := PySem.W.mg_of X G a__law_pool
  have F__law_draw := fun_mk (st := s__law_draw) l__law_draw c__law_draw k__law_draw
  have b__law_draw := F__law_draw.binds (ps := (["pool", "many"] : List Str)) fun _ _ _ _ _ _ us hl => match us, hl with | [_, _], _ => rfl
  have m__law_draw := PySem.W.mg_of X G a__law_draw
  have F__law_comings := fun_mk (st := s__law_comings) l__law_comings c__law_comings k__law_comings
  have b__law_comings := F__law_comings.binds (ps := (["pool", "people", "nights"] : List Str)) fun _ _ _ _ _ _ us hl => match us, hl with | [_, _, _], _ => rfl
  have m__law_comings := PySem.W.mg_of X G a__law_comings
  have F__law_wants := fun_mk (st := s__law_wants) l__law_wants c__law_wants k__law_wants
  have b__law_wants := F__law_wants.binds (ps := (["pool", "nights", "most"] : List Str)) fun _ _ _ _ _ _ us hl => match us, hl with | [_, _, _], _ => rfl
  have m__law_wants := PySem.W.mg_of X G a__law_wants
  have F__law_size := fun_mk (st := s__law_size) l__law_size c__law_size k__law_size
  have b__law_size := F__law_size.binds (ps := (["pool", "most"] : List Str)) fun _ _ _ _ _ _ us hl => match us, hl with | [_, _], _ => rfl
  have m__law_size := PySem.W.mg_of X G a__law_size
  have F__law_int := fun_mk (st := s__law_int) l__law_int c__law_int k__law_int
  have b__law_int := F__law_int.binds (ps := (["x"] : List Str)) fun _ _ _ _ _ _ us hl => match us, hl with | [_], _ => rfl
  have m__law_int := PySem.W.mg_of X G a__law_int
  have F__law_first := fun_mk (st := s__law_first) l__law_first c__law_first k__law_first
  have b__law_first := F__law_first.binds (ps := (["days", "starts", "gap", "people"] : List Str)) fun _ _ _ _ _ _ us hl => match us, hl with | [_, _, _, _], _ => rfl
  have m__law_first := PySem.W.mg_of X G a__law_first
  have F__law_same := fun_mk (st := s__law_same) l__law_same c__law_same k__law_same
  have b__law_same := F__law_same.binds (ps := (["got", "due"] : List Str)) fun _ _ _ _ _ _ us hl => match us, hl with | [_, _], _ => rfl
  have m__law_same := PySem.W.mg_of X G a__law_same
  have F__law_rows := fun_mk (st := s__law_rows) l__law_rows c__law_rows k__law_rows
  have b__law_rows := F__law_rows.binds (ps := (["pool", "nights", "comings", "gap", "keen"] : List Str)) fun _ _ _ _ _ _ us hl => match us, hl with | [_, _, _, _, _], _ => rfl
  have m__law_rows := PySem.W.mg_of X G a__law_rows
  have F__law_counts := fun_mk (st := s__law_counts) l__law_counts c__law_counts k__law_counts
  have b__law_counts := F__law_counts.binds (ps := (["rows", "people"] : List Str)) fun _ _ _ _ _ _ us hl => match us, hl with | [_, _], _ => rfl
  have m__law_counts := PySem.W.mg_of X G a__law_counts
  have F__law_world := fun_mk (st := s__law_world) l__law_world c__law_world k__law_world
  have b__law_world := F__law_world.binds (ps := (["pool", "most_nights", "most_people", "most_gap"] : List Str)) fun _ _ _ _ _ _ us hl => match us, hl with | [_, _, _, _], _ => rfl
  have m__law_world := PySem.W.mg_of X G a__law_world
  have F__law_bend_days := fun_mk (st := s__law_bend_days) l__law_bend_days c__law_bend_days k__law_bend_days
  have b__law_bend_days := F__law_bend_days.binds (ps := (["pool", "days"] : List Str)) fun _ _ _ _ _ _ us hl => match us, hl with | [_, _], _ => rfl
  have m__law_bend_days := PySem.W.mg_of X G a__law_bend_days
  have F__law_ints := fun_mk (st := s__law_ints) l__law_ints c__law_ints k__law_ints
  have b__law_ints := F__law_ints.binds (ps := (["xs"] : List Str)) fun _ _ _ _ _ _ us hl => match us, hl with | [_], _ => rfl
  have m__law_ints := PySem.W.mg_of X G a__law_ints
  have F__law_house := fun_mk (st := s__law_house) l__law_house c__law_house k__law_house
  have b__law_house := F__law_house.binds (ps := (["pool", "most_nights", "most_people", "most_gap"] : List Str)) fun _ _ _ _ _ _ us hl => match us, hl with | [_, _, _, _], _ => rfl
  have m__law_house := PySem.W.mg_of X G a__law_house
  have F__law_cut := fun_mk (st := s__law_cut) l__law_cut c__law_cut k__law_cut
  have b__law_cut := F__law_cut.binds (ps := (["rows", "days"] : List Str)) fun _ _ _ _ _ _ us hl => match us, hl with | [_, _], _ => rfl
  have m__law_cut := PySem.W.mg_of X G a__law_cut
  have F__law_thin := fun_mk (st := s__law_thin) l__law_thin c__law_thin k__law_thin
  have b__law_thin := F__law_thin.binds (ps := (["pool", "rows"] : List Str)) fun _ _ _ _ _ _ us hl => match us, hl with | [_, _], _ => rfl
  have m__law_thin := PySem.W.mg_of X G a__law_thin
  have F__law_mixed := fun_mk (st := s__law_mixed) l__law_mixed c__law_mixed k__law_mixed
  have b__law_mixed := F__law_mixed.binds (ps := (["pool", "many"] : List Str)) fun _ _ _ _ _ _ us hl => match us, hl with | [_, _], _ => rfl
  have m__law_mixed := PySem.W.mg_of X G a__law_mixed
  have F__law_large := fun_mk (st := s__law_large) l__law_large c__law_large k__law_large
  have b__law_large := F__law_large.binds (ps := (["pool"] : List Str)) fun _ _ _ _ _ _ us hl => match us, hl with | [_], _ => rfl
  have m__law_large := PySem.W.mg_of X G a__law_large
  have F__law_steepest := fun_mk (st := s__law_steepest) l__law_steepest c__law_steepest k__law_steepest
  have b__law_steepest := F__law_steepest.binds (ps := (["house", "parts", "order", "plans"] : List Str)) fun _ _ _ _ _ _ us hl => match us, hl with | [_, _, _, _], _ => rfl
  have m__law_steepest := PySem.W.mg_of X G a__law_steepest
  have F_law := fun_mk (st := s_law) l_law c_law k_law
  have b_law := F_law.binds (ps := (["script"] : List Str)) fun _ _ _ _ _ _ us hl => match us, hl with | [_], _ => rfl
  have m_law := PySem.W.mg_of X G a_law
  let A : Ad := { c_NightsError := c_NightsError, c_NoPerson := c_NoPerson, i_NoPerson := i_NoPerson, c_NamedTwice := c_NamedTwice, i_NamedTwice := i_NamedTwice, c_WrongLength := c_WrongLength, i_WrongLength := i_WrongLength, c_House := c_House, c_Wants := c_Wants, kc_Wants_MOST := kc_Wants_MOST, kc_Wants_GREATEST := kc_Wants_GREATEST, k_MOST_PEOPLE := k_MOST_PEOPLE, k_MOST_REST := k_MOST_REST }
  have T : Tx K mg A := ⟨x_NoPerson, x_NamedTwice, x_WrongLength, xb_NightsError, g_House, cl_House, n_House_wants, n_House_comings, n_House_rest, g_Wants, cl_Wants, n_Wants_numbers, ⟨r1_Wants, r2_Wants⟩, ⟨v_Wants_MOST, ⟨_, rfl⟩⟩, ⟨r1_Wants, r2_Wants⟩, ⟨v_Wants_GREATEST, ⟨_, rfl⟩⟩, PySem.W.mg_of X G gi_MOST_PEOPLE, PySem.W.mg_of X G gi_MOST_REST⟩
  refine ⟨PySem.W.fnOf "law" "law" (defArgs s_law) (defBody s_law) (defScope s_law) .none kV_law dc_law pm_law an_law cd_law ct_law, fun s v => .of_eq rfl, fun base _ _ => ?_⟩
  have M_Wants : MkAt l.prog w K mg base 1 "Wants" c_Wants (spP K (dsMkWants A)) := mkAt_of g_Wants.g ⟨mm_Wants, a_Wants___init__, i_Wants___init__, mp_Wants⟩ (ok_Wants___init__ (A := A) F_Wants___init__ B T) b_Wants___init__
  have O : OwnC l.prog w K mg base c_Wants "numbers" _ _ _ _ (spP K (dspLen c_Wants "numbers")) := ⟨cl_Wants, a_Wants___len__, i_Wants___len__, ok_Wants___len__ (A := A) F_Wants___len__ B T, b_Wants___len__, ⟨a_Wants___iter__, i_Wants___iter__⟩, okN_Wants___iter__ (A := A) F_Wants___iter__ B T, b_Wants___iter__⟩
  have M_House : MkAtK l.prog w K mg base 3 "House" c_House 2 (["rest"] : List Str) (spP K (dsMkHouse A)) := mkAtK_of g_House.g ⟨mm_House, a_House___init__, i_House___init__, mp_House⟩ (ok_House___init__ (A := A) F_House___init__ B T O) b_House___init__
  have R_nights : PrAt l.prog w K mg base 3 c_House "nights" (spP K (dsNights A)) := ⟨cl_House, _, _, _, ⟨p1_House_nights, p2_House_nights, p3_House_nights, _, p4_House_nights⟩, ok_House_nights (A := A) F_House_nights B T O, b_House_nights⟩
  have R_people : PrAt l.prog w K mg base 1 c_House "people" (spP K (dsPeople A)) := ⟨cl_House, _, _, _, ⟨p1_House_people, p2_House_people, p3_House_people, _, p4_House_people⟩, ok_House_people (A := A) F_House_people B T, b_House_people⟩
  have C_check_person : FnAt l.prog w K mg base 3 "check_person" (["house", "person"] : List Str) (spP K (dsCkPerson A)) := .of F_check_person m_check_person (ok_check_person (A := A) F_check_person B T hfile htop R_people) b_check_person
  have C_check_people : FnAt l.prog w K mg base 4 "check_people" (["house", "people"] : List Str) (spP K (dsCkPeople A)) := .of F_check_people m_check_people (ok_check_people (A := A) F_check_people B T hfile htop R_people C_check_person) b_check_people
  have C_arrivals : FnAt l.prog w K mg base 5 "arrivals" (["house", "people"] : List Str) (spP K (dsArr A)) := .of F_arrivals m_arrivals (ok_arrivals (A := A) F_arrivals B T R_nights) b_arrivals
  have C_first_choice : FnAt l.prog w K mg base 6 "first_choice" (["house", "people"] : List Str) (spP K (dsFirst A)) := .of F_first_choice m_first_choice (ok_first_choice (A := A) F_first_choice B T O C_check_people C_arrivals) b_first_choice
  have C_room_left : FnAt l.prog w K mg base 7 "room_left" (["house", "people"] : List Str) (spP K (dsRoom A)) := .of F_room_left m_room_left (ok_room_left (A := A) F_room_left B T O C_first_choice) b_room_left
  have C_growth : FnAt l.prog w K mg base 8 "growth" (["house", "people", "person"] : List Str) (spP K (dsGrowth A)) := .of F_growth m_growth (ok_growth (A := A) F_growth B T hfile htop R_nights C_room_left C_check_person) b_growth
  have C_check_order : FnAt l.prog w K mg base 5 "check_order" (["house", "order"] : List Str) (spP K (dsCkOrder A)) := .of F_check_order m_check_order (ok_check_order (A := A) F_check_order B T hfile htop R_people C_check_people) b_check_order
  have C_nights_in_order : FnAt l.prog w K mg base 9 "nights_in_order" (["house", "order"] : List Str) (spP K (dsNio A)) := .of F_nights_in_order m_nights_in_order (ok_nights_in_order (A := A) F_nights_in_order B T R_people C_check_order C_growth) b_nights_in_order
  have C_order_counts : FnAt l.prog w K mg base 10 "order_counts" (["house", "order"] : List Str) (spP K (dsOcnt A)) := .of F_order_counts m_order_counts (ok_order_counts (A := A) F_order_counts B T C_nights_in_order) b_order_counts
  have C_most_of : FnAt l.prog w K mg base 7 "most_of" (["house", "people"] : List Str) (spP K (dsMost A)) := .of F_most_of m_most_of (ok_most_of (A := A) F_most_of B T C_first_choice) b_most_of
  have C__law_pool : FnAt l.prog w K mg base 1 "_law_pool" (["script", "at"] : List Str) (spP K (dsPool)) := .of F__law_pool m__law_pool (ok__law_pool F__law_pool B) b__law_pool
  have C__law_draw : FnAt l.prog w K mg base 1 "_law_draw" (["pool", "many"] : List Str) (spM K (dsDraw)) := .of F__law_draw m__law_draw (ok__law_draw F__law_draw B) b__law_draw
  have C__law_comings : FnAt l.prog w K mg base 2 "_law_comings" (["pool", "people", "nights"] : List Str) (spM K (dsComings)) := .of F__law_comings m__law_comings (ok__law_comings F__law_comings B C__law_draw) b__law_comings
  have C__law_wants : FnAt l.prog w K mg base 2 "_law_wants" (["pool", "nights", "most"] : List Str) (spM K (dsWantsL)) := .of F__law_wants m__law_wants (ok__law_wants F__law_wants B C__law_draw) b__law_wants
  have C__law_size : FnAt l.prog w K mg base 2 "_law_size" (["pool", "most"] : List Str) (spM K (dsSize)) := .of F__law_size m__law_size (ok__law_size F__law_size B C__law_draw) b__law_size
  have C__law_int : FnAt l.prog w K mg base 1 "_law_int" (["x"] : List Str) (spP K (dsInt)) := .of F__law_int m__law_int (ok__law_int F__law_int B) b__law_int
  have C__law_first : FnAt l.prog w K mg base 1 "_law_first" (["days", "starts", "gap", "people"] : List Str) (spP K (dsFirstL)) := .of F__law_first m__law_first (ok__law_first F__law_first B) b__law_first
  have S0 : FnAt l.prog w K mg base (0 + 2) "_law_same" (["got", "due"] : List Str) (spP K (dsSame 0)) := .noP F__law_same m__law_same b__law_same
  have S1 : FnAt l.prog w K mg base (0 + 3) "_law_same" (["got", "due"] : List Str) (spP K (dsSame (0 + 1))) := .of F__law_same m__law_same (ok__law_same F__law_same B C__law_int S0) b__law_same
  have S2 : FnAt l.prog w K mg base (1 + 3) "_law_same" (["got", "due"] : List Str) (spP K (dsSame (1 + 1))) := .of F__law_same m__law_same (ok__law_same F__law_same B C__law_int S1) b__law_same
  have C__law_same : FnAt l.prog w K mg base (2 + 3) "_law_same" (["got", "due"] : List Str) (spP K (dsSame (2 + 1))) := .of F__law_same m__law_same (ok__law_same F__law_same B C__law_int S2) b__law_same
  have C__law_rows : FnAt l.prog w K mg base 2 "_law_rows" (["pool", "nights", "comings", "gap", "keen"] : List Str) (spM K (dsRowsL)) := .of F__law_rows m__law_rows (ok__law_rows F__law_rows B C__law_draw) b__law_rows
  have C__law_counts : FnAt l.prog w K mg base 1 "_law_counts" (["rows", "people"] : List Str) (spP K (dsCountsL)) := .of F__law_counts m__law_counts (ok__law_counts F__law_counts B) b__law_counts
  have C__law_world : FnAt l.prog w K mg base 3 "_law_world" (["pool", "most_nights", "most_people", "most_gap"] : List Str) (spM K (dsWorldL)) := .of F__law_world m__law_world (ok__law_world F__law_world B C__law_draw C__law_size C__law_comings C__law_rows C__law_counts) b__law_world
  have C__law_bend_days : FnAt l.prog w K mg base 2 "_law_bend_days" (["pool", "days"] : List Str) (spM K (dsBendL)) := .of F__law_bend_days m__law_bend_days (ok__law_bend_days F__law_bend_days B C__law_draw) b__law_bend_days
  have C__law_ints : FnAt l.prog w K mg base 2 "_law_ints" (["xs"] : List Str) (spP K (dsIntsL)) := .of F__law_ints m__law_ints (ok__law_ints F__law_ints B C__law_int) b__law_ints
  have C__law_house : FnAt l.prog w K mg base 4 "_law_house" (["pool", "most_nights", "most_people", "most_gap"] : List Str) (spM K (dsHouseL2)) := .of F__law_house m__law_house (ok__law_house F__law_house B C__law_draw C__law_world C__law_bend_days C__law_wants) b__law_house
  have C__law_cut : FnAt l.prog w K mg base 1 "_law_cut" (["rows", "days"] : List Str) (spP K (dsCutL)) := .of F__law_cut m__law_cut (ok__law_cut F__law_cut B) b__law_cut
  have C__law_thin : FnAt l.prog w K mg base 2 "_law_thin" (["pool", "rows"] : List Str) (spM K (dsThinL)) := .of F__law_thin m__law_thin (ok__law_thin F__law_thin B C__law_draw) b__law_thin
  have C__law_mixed : FnAt l.prog w K mg base 2 "_law_mixed" (["pool", "many"] : List Str) (spM K (dsMixN)) := .of F__law_mixed m__law_mixed (ok__law_mixed F__law_mixed B C__law_draw) b__law_mixed
  have C__law_large : FnAt l.prog w K mg base 3 "_law_large" (["pool"] : List Str) (spM K (dsLarge15)) := .of F__law_large m__law_large (ok__law_large F__law_large B C__law_draw C__law_wants C__law_comings C__law_rows C__law_cut) b__law_large
  have C__law_steepest : FnAt l.prog w K mg base 11 "_law_steepest" (["house", "parts", "order", "plans"] : List Str) (spP K (dsSteepL A)) := .of F__law_steepest m__law_steepest (ok__law_steepest (A := A) F__law_steepest B C_order_counts C__law_ints C__law_same C__law_first C_most_of) b__law_steepest
  exact (ok_law (A := A) F_law B C__law_pool C__law_draw C__law_large C__law_house C__law_mixed C__law_rows C__law_counts C__law_thin C__law_cut C__law_steepest C_order_counts M_Wants M_House).imp spLaw_spP
theorem walk {l : PySem.W.OpenLaw} {q : Program} {loose : List Str} {XP : (Str → Option Value) → Heap → Prop} {YP : World → Heap → Prop} {d : DefRec} {K : Params → PySem.W.Frag} (hn : l.most = some 63) (hdf : d.params.defaults = [])
    (hY : ∀ (w : World) (h : Heap), YP w h → (K w.params).In h)
    (F : ∀ (w : World) (mg : Str → Option Value) (fa : Addr) (h : Heap), (K w.params).In h → h.Ns mainGlobals mg → mg d.name = some (.ref fa) →
      ∃ fd : FuncData, (∀ (s : Shared) (u : Value), BindsTo s fd ⟨[u], []⟩ [("script", u)]) ∧ ∀ base : Heap, (K w.params).In base → base.Ns mainGlobals mg → FnOk l.prog w (K w.params) mg base (L2.CX l.prog w) 14 fa fd ["script"] (spLaw (K w.params))) :
    PySem.W.WalkO q loose XP YP l.row.toRowW d [] (fun f vs => PySem.call f vs) :=
  L2.walk_of (n := 63) (k := 14) (x := "script") (CX := fun w => L2.CX l.prog w) (sp := fun w => spLaw (K w.params)) hn (by decide) hdf ⟨rfl, by decide, by decide⟩ hY F (fun _ _ a ns hl _ hS => ⟨a, ns, rfl, hS, fun _ => rfl⟩) fun _ _ _ _ _ ⟨_, _, _, _, _, _, _, _, _, _, _, _, z⟩ => z
end Nk
open PySem PySem.W PyProof.Rows
set_option maxRecDepth 100000 in
set_option maxHeartbeats 0 in
theorem PySem.Challenge.cw_nightsoff_k15_orders_whole_steepest_holds : PySem.Challenge.rw_nightsoff_k15_orders_whole_steepest.Holds := by
  w_on; o_law; k_head; (case hw => w_witness2)
  k_fill
  refine Nk.walk (l := PySem.Challenge.rw_nightsoff_k15_orders_whole_steepest) rfl rfl (fun w h Y => PySem.W.kIn_of Y) ?F
  case F =>
    intro w mg fa h KX G hmg
    refine' Nk.all_mk (by decide +kernel) (by decide +kernel) KX G hmg ?z_len ?z_abs ?z_max ?z_min ?z_sum ?z_sorted ?z_isinstance ?z_iter ?z_ord ?z_any ?z_all ?z_int ?z_bool ?z_str ?z_list ?z_tuple ?z_dict ?z_set ?z_range ?z_enumerate ?z_zip ?z_reversed ?z_super ?z_ValueError ?q_get ?q_takes ?q_tp ?e0_NightsError ?e1_NightsError ?e2_NightsError ?e3_NightsError ?e4_NightsError ?e5_NightsError ?e6_NightsError ?e7_NightsError ?e8_NightsError ?e9_NightsError ?e0_NoPerson ?e1_NoPerson ?e2_NoPerson ?e3_NoPerson ?e4_NoPerson ?e5_NoPerson ?e6_NoPerson ?e7_NoPerson ?e8_NoPerson ?e9_NoPerson ?g1_NoPerson ?g2_NoPerson ?g3_NoPerson ?n0_NoPerson ?g4_NoPerson ?g5_NoPerson ?g6_NoPerson ?g7_NoPerson ?g8_NoPerson ?g9_NoPerson ?h1_NoPerson ?h2_NoPerson ?h3_NoPerson ?h4_NoPerson ?h5_NoPerson ?e0_NamedTwice ?e1_NamedTwice ?e2_NamedTwice ?e3_NamedTwice ?e4_NamedTwice ?e5_NamedTwice ?e6_NamedTwice ?e7_NamedTwice ?e8_NamedTwice ?e9_NamedTwice ?g1_NamedTwice ?g2_NamedTwice ?g3_NamedTwice ?n0_NamedTwice ?g4_NamedTwice ?g5_NamedTwice ?g6_NamedTwice ?g7_NamedTwice ?g8_NamedTwice ?g9_NamedTwice ?h1_NamedTwice ?h2_NamedTwice ?h3_NamedTwice ?h4_NamedTwice ?h5_NamedTwice ?e0_WrongLength ?e1_WrongLength ?e2_WrongLength ?e3_WrongLength ?e4_WrongLength ?e5_WrongLength ?e6_WrongLength ?e7_WrongLength ?e8_WrongLength ?e9_WrongLength ?g1_WrongLength ?g2_WrongLength ?g3_WrongLength ?n0_WrongLength ?n1_WrongLength ?g4_WrongLength ?g5_WrongLength ?g6_WrongLength ?g7_WrongLength ?g8_WrongLength ?g9_WrongLength ?h1_WrongLength ?h2_WrongLength ?h3_WrongLength ?h4_WrongLength ?h5_WrongLength ?e0_House ?e1_House ?e2_House ?e3_House ?e4_House ?n_House_wants ?n_House_comings ?n_House_rest ?mm_House ?mp_House ?e0_Wants ?e1_Wants ?e2_Wants ?e3_Wants ?e4_Wants ?n_Wants_numbers ?mm_Wants ?mp_Wants ?r1_Wants ?r2_Wants ?v_Wants_MOST ?v_Wants_GREATEST ?gi_MOST_PEOPLE ?gi_MOST_REST ?a_Wants___init__ ?i_Wants___init__ ?l_Wants___init__ ?c_Wants___init__ ?k_Wants___init__ ?a_Wants___len__ ?i_Wants___len__ ?l_Wants___len__ ?c_Wants___len__ ?k_Wants___len__ ?a_Wants___iter__ ?i_Wants___iter__ ?l_Wants___iter__ ?c_Wants___iter__ ?k_Wants___iter__ ?a_House___init__ ?i_House___init__ ?l_House___init__ ?c_House___init__ ?k_House___init__ ?p1_House_nights ?p2_House_nights ?p3_House_nights ?p4_House_nights ?l_House_nights ?c_House_nights ?k_House_nights ?p1_House_people ?p2_House_people ?p3_House_people ?p4_House_people ?l_House_people ?c_House_people ?k_House_people ?a_check_person ?l_check_person ?c_check_person ?k_check_person ?a_check_people ?l_check_people ?c_check_people ?k_check_people ?a_arrivals ?l_arrivals ?c_arrivals ?k_arrivals ?a_first_choice ?l_first_choice ?c_first_choice ?k_first_choice ?a_room_left ?l_room_left ?c_room_left ?k_room_left ?a_growth ?l_growth ?c_growth ?k_growth ?a_check_order ?l_check_order ?c_check_order ?k_check_order ?a_nights_in_order ?l_nights_in_order ?c_nights_in_order ?k_nights_in_order ?a_order_counts ?l_order_counts ?c_order_counts ?k_order_counts ?a_most_of ?l_most_of ?c_most_of ?k_most_of ?a__law_pool ?l__law_pool ?c__law_pool ?k__law_pool ?a__law_draw ?l__law_draw ?c__law_draw ?k__law_draw ?a__law_comings ?l__law_comings ?c__law_comings ?k__law_comings ?a__law_wants ?l__law_wants ?c__law_wants ?k__law_wants ?a__law_size ?l__law_size ?c__law_size ?k__law_size ?a__law_int ?l__law_int ?c__law_int ?k__law_int ?a__law_first ?l__law_first ?c__law_first ?k__law_first ?a__law_same ?l__law_same ?c__law_same ?k__law_same ?a__law_rows ?l__law_rows ?c__law_rows ?k__law_rows ?a__law_counts ?l__law_counts ?c__law_counts ?k__law_counts ?a__law_world ?l__law_world ?c__law_world ?k__law_world ?a__law_bend_days ?l__law_bend_days ?c__law_bend_days ?k__law_bend_days ?a__law_ints ?l__law_ints ?c__law_ints ?k__law_ints ?a__law_house ?l__law_house ?c__law_house ?k__law_house ?a__law_cut ?l__law_cut ?c__law_cut ?k__law_cut ?a__law_thin ?l__law_thin ?c__law_thin ?k__law_thin ?a__law_mixed ?l__law_mixed ?c__law_mixed ?k__law_mixed ?a__law_large ?l__law_large ?c__law_large ?k__law_large ?a__law_steepest ?l__law_steepest ?c__law_steepest ?k__law_steepest ?a_law ?l_law ?c_law ?k_law
    (case z_len => k_is)
    (case z_abs => k_is)
    (case z_max => k_is)
    (case z_min => k_is)
    (case z_sum => k_is)
    (case z_sorted => k_is)
    (case z_isinstance => k_is)
    (case z_iter => k_is)
    (case z_ord => k_is)
    (case z_any => k_is)
    (case z_all => k_is)
    (case z_int => k_is)
    (case z_bool => k_is)
    (case z_str => k_is)
    (case z_list => k_is)
    (case z_tuple => k_is)
    (case z_dict => k_is)
    (case z_set => k_is)
    (case z_range => k_is)
    (case z_enumerate => k_is)
    (case z_zip => k_is)
    (case z_reversed => k_is)
    (case z_super => k_is)
    (case z_ValueError => k_is)
    (case q_get => k_is)
    (case q_takes => k_is)
    (case q_tp => k_is)
    (case e0_NightsError => k_is)
    (case e1_NightsError => k_is)
    (case e2_NightsError => k_is)
    (case e3_NightsError => k_is)
    (case e4_NightsError => k_is)
    (case e5_NightsError => k_is)
    (case e6_NightsError => k_is)
    (case e7_NightsError => k_is)
    (case e8_NightsError => k_is)
    (case e9_NightsError => k_is)
    (case e0_NoPerson => k_is)
    (case e1_NoPerson => k_is)
    (case e2_NoPerson => k_is)
    (case e3_NoPerson => k_is)
    (case e4_NoPerson => k_is)
    (case e5_NoPerson => k_is)
    (case e6_NoPerson => k_is)
    (case e7_NoPerson => k_is)
    (case e8_NoPerson => k_is)
    (case e9_NoPerson => k_is)
    (case g1_NoPerson => k_is)
    (case g2_NoPerson => exact rfl)
    (case g3_NoPerson => k_is)
    (case n0_NoPerson => k_is)
    (case g4_NoPerson => k_is)
    (case g5_NoPerson => k_is)
    (case g6_NoPerson => k_is)
    (case g7_NoPerson => kernel_rfl)
    (case g8_NoPerson => k_is)
    (case g9_NoPerson => k_is)
    (case h1_NoPerson => k_is)
    (case h2_NoPerson => k_is)
    (case h3_NoPerson => exact rfl)
    (case h4_NoPerson => exact rfl)
    (case h5_NoPerson => k_is)
    (case e0_NamedTwice => k_is)
    (case e1_NamedTwice => k_is)
    (case e2_NamedTwice => k_is)
    (case e3_NamedTwice => k_is)
    (case e4_NamedTwice => k_is)
    (case e5_NamedTwice => k_is)
    (case e6_NamedTwice => k_is)
    (case e7_NamedTwice => k_is)
    (case e8_NamedTwice => k_is)
    (case e9_NamedTwice => k_is)
    (case g1_NamedTwice => k_is)
    (case g2_NamedTwice => exact rfl)
    (case g3_NamedTwice => k_is)
    (case n0_NamedTwice => k_is)
    (case g4_NamedTwice => k_is)
    (case g5_NamedTwice => k_is)
    (case g6_NamedTwice => k_is)
    (case g7_NamedTwice => kernel_rfl)
    (case g8_NamedTwice => k_is)
    (case g9_NamedTwice => k_is)
    (case h1_NamedTwice => k_is)
    (case h2_NamedTwice => k_is)
    (case h3_NamedTwice => exact rfl)
    (case h4_NamedTwice => exact rfl)
    (case h5_NamedTwice => k_is)
    (case e0_WrongLength => k_is)
    (case e1_WrongLength => k_is)
    (case e2_WrongLength => k_is)
    (case e3_WrongLength => k_is)
    (case e4_WrongLength => k_is)
    (case e5_WrongLength => k_is)
    (case e6_WrongLength => k_is)
    (case e7_WrongLength => k_is)
    (case e8_WrongLength => k_is)
    (case e9_WrongLength => k_is)
    (case g1_WrongLength => k_is)
    (case g2_WrongLength => exact rfl)
    (case g3_WrongLength => k_is)
    (case n0_WrongLength => k_is)
    (case n1_WrongLength => k_is)
    (case g4_WrongLength => k_is)
    (case g5_WrongLength => k_is)
    (case g6_WrongLength => k_is)
    (case g7_WrongLength => kernel_rfl)
    (case g8_WrongLength => k_is)
    (case g9_WrongLength => k_is)
    (case h1_WrongLength => k_is)
    (case h2_WrongLength => k_is)
    (case h3_WrongLength => exact rfl)
    (case h4_WrongLength => exact rfl)
    (case h5_WrongLength => k_is)
    (case e0_House => k_is)
    (case e1_House => k_is)
    (case e2_House => k_is)
    (case e3_House => k_is)
    (case e4_House => k_is)
    (case n_House_wants => k_is)
    (case n_House_comings => k_is)
    (case n_House_rest => k_is)
    (case mm_House => k_is)
    (case mp_House => k_is)
    (case e0_Wants => k_is)
    (case e1_Wants => k_is)
    (case e2_Wants => k_is)
    (case e3_Wants => k_is)
    (case e4_Wants => k_is)
    (case n_Wants_numbers => k_is)
    (case mm_Wants => k_is)
    (case mp_Wants => k_is)
    (case r1_Wants => k_is)
    (case r2_Wants => k_is)
    (case v_Wants_MOST => k_is)
    (case v_Wants_GREATEST => k_is)
    (case gi_MOST_PEOPLE => k_is)
    (case gi_MOST_REST => k_is)
    (case a_Wants___init__ => k_is)
    (case i_Wants___init__ => k_is)
    (case l_Wants___init__ => k_is)
    (case c_Wants___init__ => k_is)
    (case k_Wants___init__ => k_is)
    (case a_Wants___len__ => k_is)
    (case i_Wants___len__ => k_is)
    (case l_Wants___len__ => k_is)
    (case c_Wants___len__ => k_is)
    (case k_Wants___len__ => k_is)
    (case a_Wants___iter__ => k_is)
    (case i_Wants___iter__ => k_is)
    (case l_Wants___iter__ => k_is)
    (case c_Wants___iter__ => k_is)
    (case k_Wants___iter__ => k_is)
    (case a_House___init__ => k_is)
    (case i_House___init__ => k_is)
    (case l_House___init__ => k_is)
    (case c_House___init__ => k_is)
    (case k_House___init__ => k_is)
    (case p1_House_nights => k_is)
    (case p2_House_nights => k_is)
    (case p3_House_nights => k_is)
    (case p4_House_nights => k_is)
    (case l_House_nights => k_is)
    (case c_House_nights => k_is)
    (case k_House_nights => k_is)
    (case p1_House_people => k_is)
    (case p2_House_people => k_is)
    (case p3_House_people => k_is)
    (case p4_House_people => k_is)
    (case l_House_people => k_is)
    (case c_House_people => k_is)
    (case k_House_people => k_is)
    (case a_check_person => k_is)
    (case l_check_person => k_is)
    (case c_check_person => k_is)
    (case k_check_person => k_is)
    (case a_check_people => k_is)
    (case l_check_people => k_is)
    (case c_check_people => k_is)
    (case k_check_people => k_is)
    (case a_arrivals => k_is)
    (case l_arrivals => k_is)
    (case c_arrivals => k_is)
    (case k_arrivals => k_is)
    (case a_first_choice => k_is)
    (case l_first_choice => k_is)
    (case c_first_choice => k_is)
    (case k_first_choice => k_is)
    (case a_room_left => k_is)
    (case l_room_left => k_is)
    (case c_room_left => k_is)
    (case k_room_left => k_is)
    (case a_growth => k_is)
    (case l_growth => k_is)
    (case c_growth => k_is)
    (case k_growth => k_is)
    (case a_check_order => k_is)
    (case l_check_order => k_is)
    (case c_check_order => k_is)
    (case k_check_order => k_is)
    (case a_nights_in_order => k_is)
    (case l_nights_in_order => k_is)
    (case c_nights_in_order => k_is)
    (case k_nights_in_order => k_is)
    (case a_order_counts => k_is)
    (case l_order_counts => k_is)
    (case c_order_counts => k_is)
    (case k_order_counts => k_is)
    (case a_most_of => k_is)
    (case l_most_of => k_is)
    (case c_most_of => k_is)
    (case k_most_of => k_is)
    (case a__law_pool => k_is)
    (case l__law_pool => k_is)
    (case c__law_pool => k_is)
    (case k__law_pool => k_is)
    (case a__law_draw => k_is)
    (case l__law_draw => k_is)
    (case c__law_draw => k_is)
    (case k__law_draw => k_is)
    (case a__law_comings => k_is)
    (case l__law_comings => k_is)
    (case c__law_comings => k_is)
    (case k__law_comings => k_is)
    (case a__law_wants => k_is)
    (case l__law_wants => k_is)
    (case c__law_wants => k_is)
    (case k__law_wants => k_is)
    (case a__law_size => k_is)
    (case l__law_size => k_is)
    (case c__law_size => k_is)
    (case k__law_size => k_is)
    (case a__law_int => k_is)
    (case l__law_int => k_is)
    (case c__law_int => k_is)
    (case k__law_int => k_is)
    (case a__law_first => k_is)
    (case l__law_first => k_is)
    (case c__law_first => k_is)
    (case k__law_first => k_is)
    (case a__law_same => k_is)
    (case l__law_same => k_is)
    (case c__law_same => k_is)
    (case k__law_same => k_is)
    (case a__law_rows => k_is)
    (case l__law_rows => k_is)
    (case c__law_rows => k_is)
    (case k__law_rows => k_is)
    (case a__law_counts => k_is)
    (case l__law_counts => k_is)
    (case c__law_counts => k_is)
    (case k__law_counts => k_is)
    (case a__law_world => k_is)
    (case l__law_world => k_is)
    (case c__law_world => k_is)
    (case k__law_world => k_is)
    (case a__law_bend_days => k_is)
    (case l__law_bend_days => k_is)
    (case c__law_bend_days => k_is)
    (case k__law_bend_days => k_is)
    (case a__law_ints => k_is)
    (case l__law_ints => k_is)
    (case c__law_ints => k_is)
    (case k__law_ints => k_is)
    (case a__law_house => k_is)
    (case l__law_house => k_is)
    (case c__law_house => k_is)
    (case k__law_house => k_is)
    (case a__law_cut => k_is)
    (case l__law_cut => k_is)
    (case c__law_cut => k_is)
    (case k__law_cut => k_is)
    (case a__law_thin => k_is)
    (case l__law_thin => k_is)
    (case c__law_thin => k_is)
    (case k__law_thin => k_is)
    (case a__law_mixed => k_is)
    (case l__law_mixed => k_is)
    (case c__law_mixed => k_is)
    (case k__law_mixed => k_is)
    (case a__law_large => k_is)
    (case l__law_large => k_is)
    (case c__law_large => k_is)
    (case k__law_large => k_is)
    (case a__law_steepest => k_is)
    (case l__law_steepest => k_is)
    (case c__law_steepest => k_is)
    (case k__law_steepest => k_is)
    (case a_law => k_is)
    (case l_law => k_is)
    (case c_law => k_is)
    (case k_law => k_is)
