import PyProof.Rows.All
import Wide.All
import OpenK.AllK
import Wide.FinOn
import HandS.ForMost
import HandS.IsInst
import HandS.StrMore
import HandS.Walk
import PySem.Challenge.RW_stallshares_k01_sums_written_and_read
set_option Elab.async false
set_option linter.all false
set_option maxRecDepth 100000
set_option maxHeartbeats 4000000
/-! the shared layer: heaps but for some mutable places, the box of draws -/
namespace Z
open PySem L2

/-- H without the places of M -/
def hid (M : List Addr) (H : Hp) : Hp := fun a => if a ∈ M then none else H a
theorem hid_of {M : List Addr} {H : Hp} {a : Addr} (h : a ∉ M) : hid M H a = H a := if_neg h
theorem hid_none {M : List Addr} {H : Hp} {a : Addr} (h : H a = none) : hid M H a = none := by
  unfold hid; split <;> simp_all
theorem hid_same {M : List Addr} {H : Hp} : Same (hid M H) H := fun a o h => by
  unfold hid at h
  split at h
  · cases h
  · exact h
/-- what stands outside M is as it was -/
def Fr (M : List Addr) (H H' : Hp) : Prop := ∀ a o, a ∉ M → H a = some o → H' a = some o
theorem Fr.refl (M : List Addr) (H : Hp) : Fr M H H := fun _ _ _ h => h
theorem Fr.trans {M : List Addr} {H H1 H2 : Hp} (a : Fr M H H1) (b : Fr M H1 H2) : Fr M H H2 := fun x o n h => b x o n (a x o n h)
theorem Same.fr {M : List Addr} {H H' : Hp} (s : Same H H') : Fr M H H' := fun a o _ h => s a o h
theorem Fr.same {M : List Addr} {H H' : Hp} (f : Fr M H H') : Same (hid M H) (hid M H') := fun a o h => by
  unfold hid at h ⊢
  split at h
  · cases h
  · next n => rw [if_neg n]; exact f a o n h
theorem Fr.new {M : List Addr} {H : Hp} {p : Addr} {o : HO} (h : H p = none) : Fr M H (upd H p o) := fun a u _ e => by
  rw [upd_ne (ne_of_none e h)]; exact e
theorem Same.new {H : Hp} {p : Addr} {o : HO} (h : H p = none) : Same H (upd H p o) := fun a u e => by
  rw [upd_ne (ne_of_none e h)]; exact e
theorem Fr.put {M : List Addr} {H H' : Hp} {p : Addr} {o : HO} (f : Fr M H H') (h : p ∈ M) : Fr M H (upd H' p o) := fun a u n e => by
  rw [upd_ne (fun q : a = p => n (by rw [q]; exact h))]; exact f a u n e
theorem Fr.mono {M N : List Addr} {H H' : Hp} (f : Fr M H H') (s : ∀ a ∈ M, a ∈ N) : Fr N H H' := fun a o n h => f a o (fun q => n (s a q)) h
theorem Fr.nil {H H' : Hp} (f : Fr [] H H') : Same H H' := fun a o h => f a o (by simp) h
theorem Fr.back {M : List Addr} {H H' : Hp} {p : Addr} (f : Fr M H H') (hp : p ∉ M) (h : H' p = none) : H p = none := by
  cases q : H p with
  | none => rfl
  | some o => rw [f p o hp q] at h; cases h
theorem Fr.out {M : List Addr} {H H1 H2 : Hp} (f : Fr M H1 H2) (s : Same H H1) (hM : ∀ b ∈ M, H b = none) : Same H H2 := fun a o h => f a o (fun q => by rw [hM a q] at h; cases h) (s a o h)
theorem SqL.mono {K : PySem.W.Frag} {H H' : Hp} {a : Addr} {xs : List V} (e : Same H H') (h : SqL K H a xs) : SqL K H' a xs := e.seq h
theorem SqT.mono {K : PySem.W.Frag} {H H' : Hp} {a : Addr} {xs : List V} (e : Same H H') (h : SqT K H a xs) : SqT K H' a xs := by
  rcases h with (h | ⟨o, h⟩) | h
  · exact .inl (.inl (e _ _ h))
  · exact .inl (.inr ⟨o, e _ _ h⟩)
  · exact .inr h
mutual
theorem Dp.mono {K : PySem.W.Frag} {H H' : Hp} (e : Same H H') : ∀ {v : V} {d : PyData}, Dp K H v d → Dp K H' v d
  | _, _, .non => .non
  | _, _, .bl b => .bl b
  | _, _, .int i => .int i
  | _, _, .str x => .str x
  | _, _, .lst h r => .lst (SqL.mono e h) (DpAll.mono e r)
  | _, _, .tup h r => .tup (SqT.mono e h) (DpAll.mono e r)
theorem DpAll.mono {K : PySem.W.Frag} {H H' : Hp} (e : Same H H') : ∀ {v : List V} {d : List PyData}, DpAll K H v d → DpAll K H' v d
  | _, _, .nil => .nil
  | _, _, .cons a b => .cons (Dp.mono e a) (DpAll.mono e b)
end

/-- a comprehension that lays g of each, nothing else being changed -/
structure LcP {α : Type} (H1 : Hp) (D : Addr) (xs : List α) (g : α → V) (i : Nat) (H : Hp) : Prop where
  new : H1 D = none
  same : Same H1 H
  at_ : H D = some (.lst ((xs.take i).map g))
theorem LcP.start {α : Type} {H1 : Hp} {D : Addr} {xs : List α} {g : α → V} (h : H1 D = none) : LcP H1 D xs g 0 (upd H1 D (.lst [])) := ⟨h, Same.new h, upd_same⟩
theorem LcP.step {α : Type} {H1 H H4 : Hp} {D : Addr} {xs : List α} {g : α → V} {i : Nat} {x : α} {y : V} (p : LcP H1 D xs g i H) (s : Same H H4) (hx : xs[i]? = some x) (hy : y = g x) (hl : xs.length ≤ sizeLine) :
    ∃ acc, H4 D = some (.lst acc) ∧ acc.length < sizeLine ∧ LcP H1 D xs g (i + 1) (upd H4 D (.lst (acc ++ [y]))) := by
  have hi : i < xs.length := (List.getElem?_eq_some_iff.mp hx).1
  refine ⟨_, s _ _ p.at_, by simp; omega, p.new, fun b o e => ?_, ?_⟩
  · rw [upd_ne (ne_of_none e p.new)]
    exact s _ _ (p.same _ _ e)
  · rw [upd_same, hy, List.take_add_one, hx, List.map_append]
    rfl
theorem LcP.done {α : Type} {H1 H : Hp} {D : Addr} {xs : List α} {g : α → V} (p : LcP H1 D xs g xs.length H) : H D = some (.lst (xs.map g)) := by
  have h := p.at_
  rw [List.take_length] at h
  exact h

/-- the box of draws at B, n draws behind it at most -/
def Box (H : Hp) (B : Addr) (n : Nat) : Prop := ∃ b0 b1 b2 : Int, H B = some (.lst [.int b0, .int b1, .int b2]) ∧ 0 ≤ b0 ∧ 0 ≤ b1 ∧ b1 < 2147483647 ∧ 0 ≤ b2 ∧ b2 ≤ (n : Int)
theorem Box.mono {H : Hp} {B : Addr} {n m : Nat} (b : Box H B n) (h : n ≤ m) : Box H B m := by
  obtain ⟨b0, b1, b2, e, h0, h1, h2, h3, h4⟩ := b
  exact ⟨b0, b1, b2, e, h0, h1, h2, h3, by omega⟩
theorem Box.some {H : Hp} {B : Addr} {n : Nat} (b : Box H B n) : ∃ o, H B = some o := by
  obtain ⟨b0, b1, b2, e, _⟩ := b
  exact ⟨_, e⟩
theorem Box.keep {H H' : Hp} {B : Addr} {n : Nat} (b : Box H B n) (s : Same H H') : Box H' B n := by
  obtain ⟨b0, b1, b2, e, h⟩ := b
  exact ⟨b0, b1, b2, s _ _ e, h⟩
theorem Box.ne {H : Hp} {B p : Addr} {n : Nat} (b : Box H B n) (h : H p = none) : p ≠ B := by
  obtain ⟨o, e⟩ := b.some
  exact (ne_of_none e h).symm
theorem atI_in {xs : List V} {r : Int} (h0 : 0 ≤ r) (h1 : r < xs.length) : ∃ v, atI xs r = some v ∧ v ∈ xs := by
  obtain ⟨j, rfl⟩ := Int.eq_ofNat_of_zero_le h0
  have hj : j < xs.length := by omega
  exact ⟨xs[j], atI_nat (List.getElem?_eq_getElem hj), List.getElem_mem hj⟩
theorem walk_range0 {n : Nat} : Walk (Itr 0 n) n (fun _ => True) (YFn fun i => .int ((i : Nat) : Int)) :=
  walk_range.mono (fun _ h => h) fun i H x H' _ _ y => ⟨y.1, by rw [y.2]; show V.int (0 + (i : Int)) = V.int (i : Int); rw [Int.zero_add]⟩
theorem iteD {p A B : Prop} [Decidable p] (h1 : p → A) (h2 : ¬ p → B) : if decide p = true then A else B := by
  by_cases h : p
  · rw [if_pos (decide_eq_true h)]; exact h1 h
  · rw [if_neg (by rw [decide_eq_false h]; exact Bool.false_ne_true)]; exact h2 h
theorem iteND {p A B : Prop} [Decidable p] (h1 : ¬ p → A) (h2 : p → B) : if (!decide p) = true then A else B := by
  by_cases h : p
  · rw [decide_eq_true h]; exact iteF (h2 h)
  · rw [decide_eq_false h]; exact iteT (h1 h)
theorem ix3 {a b c : V} : (atI [a, b, c] 0 = some a ∧ atI [a, b, c] 1 = some b ∧ atI [a, b, c] 2 = some c) := ⟨rfl, rfl, rfl⟩

theorem log2_ok {x : Int} (h : x.natAbs < 2 ^ 1000) : x.natAbs.log2 < 1920 := by
  by_cases h0 : x.natAbs = 0
  · rw [h0]; decide
  · exact Nat.lt_of_lt_of_le ((Nat.log2_lt h0).mpr h) (by decide)
theorem log2_ok18 {x : Int} (h : x.natAbs < 10 ^ 18) : x.natAbs.log2 < 1920 := log2_ok (Nat.lt_of_lt_of_le h (by decide))
theorem ite01 (b : Bool) : (0 : Int) ≤ (if b = true then 1 else 0) := by cases b <;> decide
theorem pe_globE {X : Cx} {x : Str} {v : V} {pos : Pos} (hg : Gl X x) (h : ∃ u, X.mg x = some u ∧ RelV v u) (hd : (x == ("__debug__" : Str)) = false := by decide) : PE X (.Name x pos) (tC v) := by
  obtain ⟨u, hm, r⟩ := h
  exact pe_glob hg hm r hd
/-- s.rpartition(t) -/
theorem mt_rpartition {X : Cx} : MtR X "str.rpartition" (fun x xs H Q => ∃ a b, x = .str a ∧ xs = [.str b] ∧ (b.length == 0) = false ∧ a.length ≤ sizeLine ∧
    ∀ p, H p = none → Q (.ref p) (upd H p (.tup [.str (Txt.rpartition a b).1, .str (Txt.rpartition a b).2.1, .str (Txt.rpartition a b).2.2]))) := by
  intro pins s σ H x xs v us Q I rx rs h
  obtain ⟨a, b, rfl, rfl, hb, hz, h⟩ := h
  obtain ⟨t, rfl⟩ := rx
  cases rs with
  | cons r1 rs =>
    cases rs
    obtain ⟨u, rfl⟩ := r1
    refine call_meets F.slot_str_rpartition (typeIs_str _ _ _) F.entry_str_rpartition (F.args_str_rpartition_2 _ _) (meets_str_rpartition a b t u hb hz) ?_
    unfold Txt.rpartition at h
    revert h
    cases Builtin.Str.lastOccurrence a b 0 a.length with
    | none => intro h; exact laid_parts I h
    | some i => intro h; exact laid_parts I h
end Z
/-! sums as texts: plain law -/
namespace Z
open PySem L2 TL
/-- the text of a sum, as sum_text makes it -/
def sumT (a : Int) : Str := ((Str.ofString (toString (a / 100))) ++ (Str.ofString ".")) ++ Txt.zfill (Str.ofString (toString (a % 100))) 2
def figL (n : Nat) : List Nat := numL (n / 100) ++ [46, 48 + n % 100 / 10, 48 + n % 10]
theorem tl_dot : tl (Str.ofString ".") = [46] := by decide +kernel
theorem tl_zfill2 {m : Nat} (h : m < 100) : tl (Txt.zfill (Str.ofString (toString ((m : Nat) : Int))) 2) = [48 + m / 10, 48 + m % 10] := by
  have e : ∀ m : Fin 100, tl (Txt.zfill (Str.ofString (toString (((m : Fin 100).val : Nat) : Int))) 2) = [48 + m.val / 10, 48 + m.val % 10] := by decide +kernel
  exact e ⟨m, h⟩
theorem tl_sumT (n : Nat) : tl (sumT (n : Int)) = figL n := by
  unfold sumT figL
  rw [tl_append, tl_append, tl_dot]
  have e1 : ((n : Nat) : Int) / 100 = ((n / 100 : Nat) : Int) := by omega
  have e2 : ((n : Nat) : Int) % 100 = ((n % 100 : Nat) : Int) := by omega
  rw [e1, e2, tl_num, tl_zfill2 (Nat.mod_lt _ (by decide))]
  have e3 : n % 100 % 10 = n % 10 := by omega
  rw [e3]
  simp
theorem len_sumT {n : Nat} (h : n < 10 ^ 12) : (sumT (n : Int)).length ≤ 13 := by
  rw [len_tl, tl_sumT]
  unfold figL
  have := numL_len (n := n / 100) (k := 10) (by decide) (by omega)
  simp
  omega

/-! figure by figure -/
/-- one turn of the law's own writing -/
def wStep (s : List Nat × Nat) (k : Nat) : List Nat × Nat :=
  let f := if k < 3 ∨ 0 < s.2 then (48 + s.2 % 10) :: s.1 else s.1
  (if k = 1 then 46 :: f else f, s.2 / 10)
def wGo (n k : Nat) : List Nat × Nat := (List.range k).foldl wStep ([], n)
theorem wGo_succ (n k : Nat) : wGo n (k + 1) = wStep (wGo n k) k := by
  unfold wGo
  rw [List.range_succ, List.foldl_append]
  rfl
theorem wGo_3 (n : Nat) : wGo n 3 = ([48 + n / 100 % 10, 46, 48 + n % 100 / 10, 48 + n % 10], n / 1000) := by
  rw [wGo_succ, wGo_succ, wGo_succ]
  unfold wGo
  simp [wStep]
  omega
theorem wGo_more (n : Nat) : ∀ k, 3 ≤ k → n < 10 ^ 12 → ∃ u, wGo n k = (u, n / 10 ^ k) ∧ figL n = (if 0 < n / 10 ^ k then numL (n / 10 ^ k) else []) ++ u := by
  intro k hk hn
  induction k with
  | zero => omega
  | succ k ih =>
    by_cases h3 : k = 2
    · subst h3
      refine ⟨_, wGo_3 n, ?_⟩
      show figL n = _
      unfold figL
      have e : n / 10 ^ (2 + 1) = n / 100 / 10 := by omega
      rw [e]
      by_cases h : n / 100 < 10
      · rw [numL_lt h, if_neg (by omega)]
        have : n / 100 % 10 = n / 100 := by omega
        rw [this]
        rfl
      · rw [numL_step (by omega), if_pos (by omega)]
        simp
    · obtain ⟨u, e1, e2⟩ := ih (by omega)
      have ek : n / 10 ^ (k + 1) = n / 10 ^ k / 10 := by rw [Nat.pow_succ, Nat.div_div_eq_div_mul]
      rw [wGo_succ, e1]
      unfold wStep
      simp only
      rw [if_neg (by omega : ¬ k = 1), ek]
      by_cases h : 0 < n / 10 ^ k
      · rw [if_pos (.inr h)]
        refine ⟨_, rfl, ?_⟩
        rw [e2, if_pos h]
        by_cases h10 : n / 10 ^ k < 10
        · rw [numL_lt h10, if_neg (by omega)]
          have : n / 10 ^ k % 10 = n / 10 ^ k := by omega
          rw [this]
          rfl
        · rw [numL_step (by omega), if_pos (by omega)]
          simp
      · rw [if_neg (by omega)]
        refine ⟨_, rfl, ?_⟩
        rw [e2, if_neg h, if_neg (by omega)]
theorem wGo_12 {n : Nat} (h : n < 10 ^ 12) : (wGo n 12).1 = figL n := by
  obtain ⟨u, e1, e2⟩ := wGo_more n 12 (by decide) h
  rw [e1, e2, if_neg (by omega)]
  rfl
theorem wGo_len (n k : Nat) : (wGo n k).1.length ≤ 2 * k := by
  induction k with
  | zero => exact Nat.zero_le _
  | succ k ih =>
    rw [wGo_succ]
    unfold wStep
    simp only
    split <;> split <;> (try simp only [List.length_cons]) <;> omega

/-! read back -/
theorem rp_one {x : Str} {A B : List Nat} (h : tl x = A ++ 46 :: B) (hB : 46 ∉ B) : Txt.rpartition x (Str.ofString ".") = (⟨A.toArray⟩, Str.ofString ".", ⟨B.toArray⟩) := by
  have hl : (Str.ofString ".").length = 1 := by rw [len_tl, tl_dot]; rfl
  have hne : tl (Str.ofString ".") ≠ [] := by rw [tl_dot]; simp
  have hd : (tl x).drop A.length = 46 :: B := by rw [h, List.drop_left]
  have atA : StrLaws.At x (Str.ofString ".") x.length A.length := by
    refine (at_iff hne _).mpr ?_
    rw [hd, tl_dot]
    rfl
  have no : ∀ k, A.length < k → ¬ StrLaws.At x (Str.ofString ".") x.length k := fun k hk q => by
    have q := (at_iff hne k).mp q
    rw [h, List.drop_append, List.drop_eq_nil_of_le (by omega), List.nil_append] at q
    obtain ⟨j, hj⟩ : ∃ j, k - A.length = j + 1 := ⟨k - A.length - 1, by omega⟩
    rw [hj, List.drop_succ_cons, tl_dot] at q
    cases e : B.drop j with
    | nil => rw [e] at q; exact absurd q (by decide)
    | cons c r =>
      rw [e] at q
      have hc : c = 46 := by
        simp [pre] at q
        exact q
      subst hc
      exact hB (List.mem_of_mem_drop (e ▸ List.mem_cons_self ..))
  unfold Txt.rpartition
  rcases StrLaws.last_spec x (Str.ofString ".") with ⟨h0, hn⟩ | ⟨i, h0, hi, hn⟩
  · exact absurd atA (hn _)
  · have ei : i = A.length := by
      rcases Nat.lt_trichotomy i A.length with q | q | q
      · exact absurd atA (hn _ q)
      · exact q
      · exact absurd hi (no _ q)
    subst ei
    rw [h0]
    show (_, _, _) = _
    have e1 : PySem.Builtin.Str.strSub x 0 A.length = ⟨A.toArray⟩ := by
      refine ext_tl ((tl_strSub ..).trans ?_)
      rw [h]
      simp
    have e2 : PySem.Builtin.Str.strSub x (A.length + (Str.ofString ".").length) x.length = ⟨B.toArray⟩ := by
      refine ext_tl ((tl_strSub_end ..).trans ?_)
      rw [hl, h]
      simp
    rw [e1, e2]
theorem rp_none {x : Str} (h : 46 ∉ tl x) : Txt.rpartition x (Str.ofString ".") = (Str.empty, Str.empty, x) := by
  have hne : tl (Str.ofString ".") ≠ [] := by rw [tl_dot]; simp
  unfold Txt.rpartition
  rcases StrLaws.last_spec x (Str.ofString ".") with ⟨h0, hn⟩ | ⟨i, h0, hi, hn⟩
  · rw [h0]
  · exfalso
    have q := (at_iff hne i).mp hi
    rw [tl_dot] at q
    cases e : (tl x).drop i with
    | nil => rw [e] at q; exact absurd q (by decide)
    | cons c r =>
      rw [e] at q
      have hc : c = 46 := by
        simp [pre] at q
        exact q
      subst hc
      exact h (List.mem_of_mem_drop (e ▸ List.mem_cons_self ..))
/-- are figures -/
def figs (z : List Nat) : Bool := z.all fun c => decide (48 ≤ c ∧ c ≤ 57)
theorem figs_iff {z : List Nat} : figs z = true ↔ NumText.AllDigits z := by
  unfold figs NumText.AllDigits
  simp [List.all_eq_true]
theorem ten_mem (c : Nat) : decide (c ∈ tl (Str.ofString "0123456789")) = decide (48 ≤ c ∧ c ≤ 57) := by
  have e : tl (Str.ofString "0123456789") = [48, 49, 50, 51, 52, 53, 54, 55, 56, 57] := by decide +kernel
  rw [e]
  apply decide_eq_decide.mpr
  simp
  omega
theorem int_of_figs {z : Str} (h : figs (tl z) = true) (h1 : tl z ≠ []) (h2 : z.length ≤ 640) : PySem.intText? z = some ((NumText.digitsVal (tl z) : Nat) : Int) :=
  PySem.intText_digits (figs_iff.mp h) h1 (by omega)
theorem rp_sumT (n : Nat) : Txt.rpartition (sumT (n : Int)) (Str.ofString ".") = (⟨(numL (n / 100)).toArray⟩, Str.ofString ".", ⟨[48 + n % 100 / 10, 48 + n % 10].toArray⟩) := by
  refine rp_one (A := numL (n / 100)) (B := [48 + n % 100 / 10, 48 + n % 10]) ?_ ?_
  · rw [tl_sumT]; rfl
  · simp
    omega
end Z
namespace K
open PySem L2 Z TL
local macro_rules | `(tactic| walk_at "z1") => `(tactic| first | with_reducible refine iteT ?_ | with_reducible refine iteF ?_ | ((fail_if_success (with_reducible refine iteD (fun _ => ?_) (fun _ => ?_))); (fail_if_success (with_reducible refine iteND (fun _ => ?_) (fun _ => ?_))); first
  | refine ⟨_, rfl, ?_⟩
  | refine ⟨_, _, rfl, rfl, ?_⟩
  | refine ⟨rfl, ?_⟩
  | refine ⟨(by show (0 : Int) < _; first | decide | omega), ?_⟩
  | refine ⟨⟨by decide, by decide⟩, ?_⟩
  | refine ⟨⟨(by show (0 : Int) < _; omega), (by show _ < (1073741824 : Int); omega)⟩, ?_⟩
  | refine ⟨⟨by decide, by decide, by decide⟩, ?_⟩
  | refine ⟨.inl ⟨by omega, by omega⟩, ?_⟩
  | refine ⟨.inr ⟨by omega, by omega⟩, ?_⟩
  | refine .inl ⟨_, rfl, ?_⟩
  | refine .inr ⟨_, rfl, ?_⟩
  | refine ⟨_, _, _, _, rfl, rfl, SqL.of (by assumption), rfl, ?_⟩
  | refine ⟨_, _, _, _, rfl, rfl, SqL.of upd_same, rfl, ?_⟩
  | refine ⟨_, _, _, _, rfl, rfl, (by assumption), rfl, ?_⟩
  | refine ⟨_, _, _, _, rfl, rfl, upd_same, rfl, ?_⟩
  | refine ⟨_, _, rfl, SqT.of upd_same, rfl, ?_⟩
  | refine ⟨_, _, rfl, ?_⟩
  | refine ⟨Nat.le_of_ble_eq_true rfl, ?_⟩
  | refine ⟨_, _, _, _, true, rfl, .ty _, .base (.str _), kit_ty (by decide +kernel), ?_⟩
  | refine ⟨_, _, _, _, false, rfl, .ty _, .base (.str _), kit_ty (by decide +kernel), ?_⟩
  | refine ⟨_, _, _, _, true, rfl, .ty _, .base (.int _), kit_ty (by decide +kernel), ?_⟩
  | refine ⟨_, _, _, _, false, rfl, .ty _, .base (.int _), kit_ty (by decide +kernel), ?_⟩))
local macro_rules | `(tactic| walk_at "z") => `(tactic| repeat walk_at "z1")
def top (i : Nat) : Stmt := PySem.Challenge.pw_stallshares_k01_sums_written_and_read.main.body.getD i (.Pass ⟨0, 0, 0, 0⟩)
abbrev s_sum_text : Stmt := top 7
abbrev N_sum_text : List Str := ["amount", "pounds", "pennies"]
theorem sc_sum_text : FnScope N_sum_text ["amount"] (defScope s_sum_text) := ⟨rfl, rfl, rfl, by decide +kernel, rfl, by decide +kernel, by decide +kernel⟩
abbrev s_are_figures : Stmt := top 8
abbrev N_are_figures : List Str := ["word", "least", "most", "sign"]
theorem sc_are_figures : FnScope N_are_figures ["word", "least", "most"] (defScope s_are_figures) := ⟨rfl, rfl, rfl, by decide +kernel, rfl, by decide +kernel, by decide +kernel⟩
abbrev s_sum_in : Stmt := top 9
abbrev N_sum_in : List Str := ["text", "pounds", "point", "pennies", "amount"]
theorem sc_sum_in : FnScope N_sum_in ["text"] (defScope s_sum_in) := ⟨rfl, rfl, rfl, by decide +kernel, rfl, by decide +kernel, by decide +kernel⟩
abbrev s__law_box : Stmt := top 11
abbrev N__law_box : List Str := ["_law_script", "_law_k", "_law_cell"]
theorem sc__law_box : FnScope N__law_box ["_law_script", "_law_k"] (defScope s__law_box) := ⟨rfl, rfl, rfl, by decide +kernel, rfl, by decide +kernel, by decide +kernel⟩
abbrev s__law_take : Stmt := top 12
abbrev N__law_take : List Str := ["_law_box_here", "_law_size", "_law_found", "_law_step", "_law_once", "_law_twice"]
theorem sc__law_take : FnScope N__law_take ["_law_box_here", "_law_size"] (defScope s__law_take) := ⟨rfl, rfl, rfl, by decide +kernel, rfl, by decide +kernel, by decide +kernel⟩
abbrev s__law_sum : Stmt := top 13
abbrev N__law_sum : List Str := ["_law_box_here", "_law_way", "_law_near"]
theorem sc__law_sum : FnScope N__law_sum ["_law_box_here"] (defScope s__law_sum) := ⟨rfl, rfl, rfl, by decide +kernel, rfl, by decide +kernel, by decide +kernel⟩
abbrev s__law_written : Stmt := top 14
abbrev N__law_written : List Str := ["_law_amount", "_law_found", "_law_left", "_law_k"]
theorem sc__law_written : FnScope N__law_written ["_law_amount"] (defScope s__law_written) := ⟨rfl, rfl, rfl, by decide +kernel, rfl, by decide +kernel, by decide +kernel⟩
abbrev s_law : Stmt := top 15
abbrev N_law : List Str := ["_law_script", "_law_k", "_law_box_here", "_law_turn", "_law_amount", "_law_text", "_law_told", "_law_great"]
theorem sc_law : FnScope N_law ["_law_script"] (defScope s_law) := ⟨rfl, rfl, rfl, by decide +kernel, rfl, by decide +kernel, by decide +kernel⟩
structure Ad where
  f_sum_text : Addr
  d_sum_text : FuncData
  f_are_figures : Addr
  d_are_figures : FuncData
  f_sum_in : Addr
  d_sum_in : FuncData
  f__law_box : Addr
  d__law_box : FuncData
  f__law_take : Addr
  d__law_take : FuncData
  f__law_sum : Addr
  d__law_sum : FuncData
  f__law_written : Addr
  d__law_written : FuncData
  f_law : Addr
  d_law : FuncData
structure Txt (K : PySem.W.Frag) (mg : Str → Option Value) (a : Ad) : Prop where
  n_divmod : mg "divmod" = none
  n_str : mg "str" = none
  n_all : mg "all" = none
  n_len : mg "len" = none
  n_int : mg "int" = none
  n_abs : mg "abs" = none
  n_min : mg "min" = none
  n_range : mg "range" = none
  n_isinstance : mg "isinstance" = none
  n_bool : mg "bool" = none
  c_PLAIN_FIGURES : ∃ u, mg "PLAIN_FIGURES" = some u ∧ RelV (.str "0123456789") u
  c_POUND_POINT : ∃ u, mg "POUND_POINT" = some u ∧ RelV (.str ".") u
  c_POUND_PENNIES : ∃ u, mg "POUND_PENNIES" = some u ∧ RelV (.int 100) u
  c_MOST_POUND_FIGURES : ∃ u, mg "MOST_POUND_FIGURES" = some u ∧ RelV (.int 5) u
  F_sum_text : Fun K "sum_text" "sum_text" s_sum_text a.f_sum_text a.d_sum_text
  g_sum_text : mg "sum_text" = some (.ref a.f_sum_text)
  b_sum_text : Binds K a.d_sum_text ["amount"] []
  F_are_figures : Fun K "are_figures" "are_figures" s_are_figures a.f_are_figures a.d_are_figures
  g_are_figures : mg "are_figures" = some (.ref a.f_are_figures)
  b_are_figures : Binds K a.d_are_figures ["word", "least", "most"] []
  F_sum_in : Fun K "sum_in" "sum_in" s_sum_in a.f_sum_in a.d_sum_in
  g_sum_in : mg "sum_in" = some (.ref a.f_sum_in)
  b_sum_in : Binds K a.d_sum_in ["text"] []
  F__law_box : Fun K "_law_box" "_law_box" s__law_box a.f__law_box a.d__law_box
  g__law_box : mg "_law_box" = some (.ref a.f__law_box)
  b__law_box : Binds K a.d__law_box ["_law_script", "_law_k"] []
  F__law_take : Fun K "_law_take" "_law_take" s__law_take a.f__law_take a.d__law_take
  g__law_take : mg "_law_take" = some (.ref a.f__law_take)
  b__law_take : Binds K a.d__law_take ["_law_box_here", "_law_size"] []
  F__law_sum : Fun K "_law_sum" "_law_sum" s__law_sum a.f__law_sum a.d__law_sum
  g__law_sum : mg "_law_sum" = some (.ref a.f__law_sum)
  b__law_sum : Binds K a.d__law_sum ["_law_box_here"] []
  F__law_written : Fun K "_law_written" "_law_written" s__law_written a.f__law_written a.d__law_written
  g__law_written : mg "_law_written" = some (.ref a.f__law_written)
  b__law_written : Binds K a.d__law_written ["_law_amount"] []
  F_law : Fun K "law" "law" s_law a.f_law a.d_law
/-! ### the box and its draws -/
def sp__law_box (K : PySem.W.Frag) : Sp := fun vs H Q _ => ∃ (a : Addr) (ns : List Int) (k : Nat), vs = [.ref a, .int k] ∧ SqL K H a (ns.map V.int) ∧ k < 1000 ∧
  ∀ p H', H p = none → Same H H' → Box H' p 0 → Q (.ref p) H'
def sp__law_take : Sp := fun vs H Q _ => ∃ (B : Addr) (m : Int) (n : Nat), vs = [.ref B, .int m] ∧ Box H B n ∧ 0 < m ∧ m < 1073741824 ∧ n < 1000000000 ∧
  ∀ r H', 0 ≤ r → r < m → Fr [B] H H' → Box H' B (n + 1) → Q (.int r) H'
theorem ok__law_box {P : Program} {w : World} {K : PySem.W.Frag} {mg : Str → Option Value} {base : Heap} {ad : Ad} (T : Txt K mg ad) : FnOk P w K mg base CX0 1 ad.f__law_box ad.d__law_box ["_law_script", "_law_k"] (sp__law_box K) := by
  refine T.F__law_box.ok sc__law_box (fun vs H Q E h => ?_) (fun cdv A outer s H vs Q E hr h => ?_)
  · obtain ⟨a, ns, k, rfl, _⟩ := h
    rfl
  · obtain ⟨a, ns, k, rfl, hS, hk, q⟩ := h
    refine ⟨_, (pss_cons (ps_set (i := 2) sc__law_box.nd rfl (Or.inl rfl) (pe_ifExp (pt_cmpR op_lt (pv 1) (pe_callB call_len_seq (by rfl) T.n_len PySem.boot_len (pa_cons (pv 0) pa_nil)) (nomark _)) (pe_ix ix_list (pv 0) (pv 1) (fun _ _ => rfl)) pe_int))
    (pss_one (ps_ret (pe_lst (pa_cons (pe_op op_mul (pe_callB call_abs (by rfl) T.n_abs (by decide +kernel) (pa_cons (pv 2) pa_nil)) (pe_callTy call_int1 (by rfl) T.n_int (by decide +kernel) (pa_cons (pe_cmpR op_ge (pe_callB call_abs (by rfl) T.n_abs (by decide +kernel) (pa_cons (pv 2) pa_nil)) (pe_op op_pow pe_int pe_int) (nomark _)) pa_nil))) (pa_cons (pe_op op_mod (pe_op op_mul (pe_op op_add (pe_op op_add (pe_op op_mod (pv 2) pe_int) (pe_op op_mul pe_int (pv 1))) pe_int) pe_int) pe_int) (pa_cons pe_int pa_nil))))))), ?_⟩
    refine ⟨_, rfl, _, rfl, a, _, rfl, .inl hS, _, _, rfl, rfl, _, rfl, ?_⟩
    refine ite2 (fun h => ?_) (fun h => ?_)
    · have hkl : k < ns.length := by simpa using h
      have e : (ns.map V.int)[k]? = some (V.int ns[k]) := by rw [List.getElem?_map, List.getElem?_eq_getElem hkl]; rfl
      refine ⟨_, rfl, _, rfl, a, _, _, _, rfl, rfl, hS, atI_nat e, ?_⟩
      generalize ns[k] = c
      walk_at "z"
      refine fun p hp => ?_
      refine q p _ hp (Same.new hp) ⟨_, _, _, upd_same, ?_, Int.emod_nonneg _ (by decide), Int.emod_lt_of_pos _ (by decide), by decide, by decide⟩
      refine Int.mul_nonneg (by split <;> omega) (ite01 _)
    · walk_at "z"
      refine fun p hp => ?_
      refine q p _ hp (Same.new hp) ⟨_, _, _, upd_same, by decide, Int.emod_nonneg _ (by decide), Int.emod_lt_of_pos _ (by decide), by decide, by decide⟩
theorem ok__law_take {P : Program} {w : World} {K : PySem.W.Frag} {mg : Str → Option Value} {base : Heap} {ad : Ad} (T : Txt K mg ad) : FnOk P w K mg base CX0 1 ad.f__law_take ad.d__law_take ["_law_box_here", "_law_size"] sp__law_take := by
  refine T.F__law_take.ok sc__law_take (fun vs H Q E h => ?_) (fun cdv A outer s H vs Q E hr h => ?_)
  · obtain ⟨a, ns, k, rfl, _⟩ := h
    rfl
  · obtain ⟨B, m, n, rfl, ⟨b0, b1, b2, hB, h0, h1, h2, h3, h4⟩, m0, m1, hn, q⟩ := h
    refine ⟨_, (pss_cons (ps_if (pt_cmpR op_gt (pe_ix ix_list (pv 0) pe_int (fun _ _ => rfl)) pe_int (nomark _)) (pss_cons (ps_asg (pe_callB call_divmod (by rfl) T.n_divmod (by decide +kernel) (pa_cons (pe_ix ix_list (pv 0) pe_int (fun _ _ => rfl)) (pa_cons (pv 1) pa_nil))) (pg_tup (by rfl) (pgs_cons (pg_sub (pv 0) pe_int set_list) (pgs_cons (pg_name (i := 2) sc__law_take.nd rfl (Or.inl rfl)) pgs_nil))))
    (pss_one (ps_ret (pv 2)))) pss_nil)
    (pss_cons (ps_asg (pe_op op_add (pe_ix ix_list (pv 0) pe_int (fun _ _ => rfl)) pe_int) (pg_sub (pv 0) pe_int set_list))
    (pss_cons (ps_set (i := 3) sc__law_take.nd rfl (Or.inl rfl) (pe_op op_add pe_int (pe_op op_mul (pe_ix ix_list (pv 0) pe_int (fun _ _ => rfl)) (pe_ix ix_list (pv 0) pe_int (fun _ _ => rfl)))))
    (pss_cons (ps_set (i := 4) sc__law_take.nd rfl (Or.inl rfl) (pe_op op_mod (pe_op op_mul (pe_op op_add (pe_ix ix_list (pv 0) pe_int (fun _ _ => rfl)) (pe_op op_mul pe_int (pe_ix ix_list (pv 0) pe_int (fun _ _ => rfl)))) (pv 3)) pe_int))
    (pss_cons (ps_set (i := 5) sc__law_take.nd rfl (Or.inl rfl) (pe_op op_mod (pe_op op_add (pe_op op_mul (pv 4) (pe_op op_add (pe_op op_mod (pv 4) pe_int) pe_int)) (pe_ix ix_list (pv 0) pe_int (fun _ _ => rfl))) pe_int))
    (pss_one (ps_ret (pe_op op_mod (pe_op op_fdiv (pe_op op_mod (pe_op op_mul (pv 5) (pe_op op_add (pe_op op_mod (pv 5) pe_int) pe_int)) pe_int) pe_int) (pv 1))))))))), ?_⟩
    walk_at "z"
    refine ite2 (fun h => ?_) (fun h => ?_)
    · walk_at "z"
      refine fun p hp => ?_
      have hBp : B ≠ p := ne_of_none hB hp
      have hB' : upd H p (.tup [.int (b0 / m), .int (b0 % m)]) B = some (.lst [.int b0, .int b1, .int b2]) := by rw [upd_ne hBp]; exact hB
      walk_at "z"
      refine q _ _ (Int.emod_nonneg _ (by omega)) (Int.emod_lt_of_pos _ m0) ?_ ?_
      · exact (Fr.new hp).put (by simp)
      · exact ⟨_, _, _, upd_same, Int.ediv_nonneg h0 (by omega), h1, h2, h3, by omega⟩
    · walk_at "z"
      refine q _ _ (Int.emod_nonneg _ (by omega)) (Int.emod_lt_of_pos _ m0) ((Fr.refl _ _).put (by simp)) ⟨_, _, _, upd_same, h0, h1, h2, by omega, by omega⟩
/-! ### sums -/
def sp_sum_text : Sp := fun vs H Q _ => ∃ n : Nat, vs = [.int (n : Int)] ∧ n < 10 ^ 12 ∧ ∀ H', Same H H' → Q (.str (sumT (n : Int))) H'
theorem ok_sum_text {P : Program} {w : World} {K : PySem.W.Frag} {mg : Str → Option Value} {base : Heap} {ad : Ad} (T : Txt K mg ad) : FnOk P w K mg base CX0 1 ad.f_sum_text ad.d_sum_text ["amount"] sp_sum_text := by
  refine T.F_sum_text.ok sc_sum_text (fun vs H Q E h => ?_) (fun cdv A outer s H vs Q E hr h => ?_)
  · obtain ⟨n, rfl, _⟩ := h
    rfl
  · obtain ⟨n, rfl, hn, q⟩ := h
    refine ⟨_, (pss_cons (ps_asg (pe_callB call_divmod (by rfl) T.n_divmod (by decide +kernel) (pa_cons (pv 0) (pa_cons (pe_globE rfl T.c_POUND_PENNIES) pa_nil))) (pg_tup (by rfl) (pgs_cons (pg_name (i := 1) sc_sum_text.nd rfl (Or.inl rfl)) (pgs_cons (pg_name (i := 2) sc_sum_text.nd rfl (Or.inl rfl)) pgs_nil))))
    (pss_one (ps_ret (pe_op op_add_str (pe_op op_add_str (pe_callTy call_str_int (by rfl) T.n_str (by decide +kernel) (pa_cons (pv 1) pa_nil)) (pe_globE rfl T.c_POUND_POINT)) (pe_bm PySem.F.plainAttrs_str PySem.F.slot_str_zfill PySem.F.type_str_zfill mt_zfill (pe_callTy call_str_int (by rfl) T.n_str (by decide +kernel) (pa_cons (pv 2) pa_nil)) (pa_cons pe_int pa_nil)))))), ?_⟩
    walk_at "z"
    refine fun p hp => ?_
    walk_at "z"
    have l1 : (Str.ofString (toString ((n : Int) / 100))).length ≤ 10 := by
      have e : ((n : Nat) : Int) / 100 = ((n / 100 : Nat) : Int) := by omega
      rw [e, len_tl, tl_num]
      exact numL_len (by decide) (by omega)
    have l2 : (Txt.zfill (Str.ofString (toString ((n : Int) % 100))) 2).length = 2 := by
      have e : ((n : Nat) : Int) % 100 = ((n % 100 : Nat) : Int) := by omega
      rw [e, len_tl, tl_zfill2 (Nat.mod_lt _ (by decide))]
      rfl
    have l3 : (Str.ofString ".").length = 1 := by decide +kernel
    have l4 : sizeLine = 16777216 := by decide +kernel
    refine ⟨log2_ok18 (by omega), ?_⟩
    walk_at "z"
    refine ⟨by rw [l3, l4]; omega, ?_⟩
    walk_at "z"
    refine ⟨log2_ok18 (by omega), ?_⟩
    refine ⟨rfl, ?_⟩
    walk_at "z"
    refine ⟨by rw [l4, len_tl, tl_append, List.length_append, ← len_tl, ← len_tl]; omega, ?_⟩
    exact q _ (Same.new hp)
def sp_are_figures : Sp := fun vs H Q _ => ∃ (z : Str) (lo hi : Int), vs = [.str z, .int lo, .int hi] ∧ z.length ≤ sizeLine ∧ ∀ H', Same H H' → Q (.bl (decide (lo ≤ z.length ∧ (z.length : Int) ≤ hi) && figs (tl z))) H'
theorem ok_are_figures {P : Program} {w : World} {K : PySem.W.Frag} {mg : Str → Option Value} {base : Heap} {ad : Ad} (T : Txt K mg ad) : FnOk P w K mg base CX0 1 ad.f_are_figures ad.d_are_figures ["word", "least", "most"] sp_are_figures := by
  refine T.F_are_figures.ok sc_are_figures (fun vs H Q E h => ?_) (fun cdv A outer s H vs Q E hr h => ?_)
  · obtain ⟨z, lo, hi, rfl, _⟩ := h
    rfl
  · obtain ⟨z, lo, hi, rfl, hz, q⟩ := h
    refine ⟨_, (pss_one (ps_ret (pe_and (pe_chain op_le op_le (pv 1) (pe_callB call_len_str (by rfl) T.n_len PySem.boot_len (pa_cons (pv 0) pa_nil)) (pv 2)) (pe_one (pe_callB (cr_all rfl) (by rfl) T.n_all (by decide +kernel) (pa_cons (pe_lc (own := [("sign", 3)]) (g := gName 3) (by rfl) sc_are_figures.nd (pi_str (pv 0)) (blkOk_by (own := [("sign", 3)]) (N := N_are_figures) (sc := defScope s_are_figures) (by decide +kernel)) (fun _ _ _ _ _ => (pg_name (i := 3) sc_are_figures.nd rfl (Or.inl rfl))) (fun _ _ _ _ _ => pts_nil) (fun _ _ _ _ _ => (pe_cmpR op_in_sign (pv 3) (pe_globE rfl T.c_PLAIN_FIGURES) rfl))) pa_nil)))))), ?_⟩
    walk_at "z"
    refine ⟨hz, ?_⟩
    walk_at "z"
    refine ite2 (fun h1 => ?_) (fun h1 => ?_)
    · walk_at "z"
      refine ite2 (fun h2 => ?_) (fun h2 => ?_)
      · have hlo : lo ≤ (z.length : Int) := by simpa using h1
        have hhi : (z.length : Int) ≤ hi := by simpa using h2
        refine ⟨_, rfl, z, rfl, fun D hD => ?_⟩
        have hn : z.cps.size = (tl z).length := len_tl z
        refine lc_it (walk_str (z := z)) (fun i H' => LcP H D (tl z) (fun c => V.bl (decide (48 ≤ c ∧ c ≤ 57))) i H') (LcP.start hD) (fun _ _ _ _ => trivial) ?_ ?_
        · rintro i x H' _ hi p ⟨rfl, c, hc, rfl⟩
          refine ⟨rfl, ?_⟩
          walk_at "z"
          have hc' : (tl z)[i]? = some c := by rw [← hc]; simp
          refine p.step (Same.refl _) hc' ?_ (hn ▸ hz)
          show V.bl _ = V.bl _
          rw [← ten_mem]
        · intro H' p
          rw [hn] at p
          refine ⟨D, (tl z).map fun c => decide (48 ≤ c ∧ c ≤ 57), rfl, SqL.of (by rw [p.done, List.map_map]; rfl), ?_⟩
          have e : (((tl z).map fun c => decide (48 ≤ c ∧ c ≤ 57)).all id) = (decide (lo ≤ (z.length : Int) ∧ (z.length : Int) ≤ hi) && figs (tl z)) := by
            rw [decide_eq_true ⟨hlo, hhi⟩, Bool.true_and, List.all_map]
            rfl
          rw [e]
          exact q _ p.same
      · have e : (false : Bool) = (decide (lo ≤ (z.length : Int) ∧ (z.length : Int) ≤ hi) && figs (tl z)) := by
          rw [decide_eq_false (fun h => h2 (by simpa using h.2)), Bool.false_and]
        rw [e]
        exact q _ (Same.refl _)
    · walk_at "z"
      have e : (false : Bool) = (decide (lo ≤ (z.length : Int) ∧ (z.length : Int) ≤ hi) && figs (tl z)) := by
        rw [decide_eq_false (fun h => h1 (by simpa using h.1)), Bool.false_and]
      rw [e]
      exact q _ (Same.refl _)
def sp_sum_in : Sp := fun vs H Q _ => ∃ n : Nat, vs = [.str (sumT (n : Int))] ∧ n ≤ 9999999 ∧ ∀ H', Same H H' → Q (.int (n : Int)) H'
theorem ok_sum_in {P : Program} {w : World} {K : PySem.W.Frag} {mg : Str → Option Value} {base : Heap} {ad : Ad} (T : Txt K mg ad) : FnOk P w K mg base CX0 2 ad.f_sum_in ad.d_sum_in ["text"] sp_sum_in := by
  have G_sum_text := ok_sum_text (P := P) (w := w) (base := base) T
  have G_are_figures := ok_are_figures (P := P) (w := w) (base := base) T
  refine T.F_sum_in.ok sc_sum_in (fun vs H Q E h => ?_) (fun cdv A outer s H vs Q E hr h => ?_)
  · obtain ⟨n, rfl, _⟩ := h
    rfl
  · obtain ⟨n, rfl, hn, q⟩ := h
    have hl : (sumT (n : Int)).length ≤ 13 := len_sumT (by omega)
    obtain ⟨A, B, eR, eA, eB⟩ : ∃ A B : Str, Txt.rpartition (sumT (n : Int)) (Str.ofString ".") = (A, Str.ofString ".", B) ∧ tl A = numL (n / 100) ∧ tl B = [48 + n % 100 / 10, 48 + n % 10] := ⟨_, _, rp_sumT n, rfl, rfl⟩
    have lA : A.length ≤ 5 := by rw [len_tl, eA]; exact numL_len (by decide) (by omega)
    have lA1 : 1 ≤ A.length := by
      rw [len_tl, eA]
      have := numL_ne (n / 100)
      cases e : numL (n / 100) with
      | nil => exact absurd e this
      | cons c r => simp
    have lB : B.length = 2 := by rw [len_tl, eB]; rfl
    have fA : figs (tl A) = true := by rw [eA]; exact figs_iff.mpr (numL_digits _)
    have fB : figs (tl B) = true := by
      rw [eB]
      unfold figs
      simp
      omega
    have iA : PySem.intText? A = some ((n / 100 : Nat) : Int) := by
      rw [int_of_figs fA (by rw [eA]; exact numL_ne _) (by omega), eA, numL_val]
    have iB : PySem.intText? B = some ((n % 100 : Nat) : Int) := by
      rw [int_of_figs fB (by rw [eB]; simp) (by omega), eB]
      congr 2
      unfold NumText.digitsVal
      simp
      omega
    refine ⟨_, (pss_cons (ps_asg (pe_bm PySem.F.plainAttrs_str PySem.F.slot_str_rpartition PySem.F.type_str_rpartition mt_rpartition (pv 0) (pa_cons (pe_globE rfl T.c_POUND_POINT) pa_nil)) (pg_tup (by rfl) (pgs_cons (pg_name (i := 1) sc_sum_in.nd rfl (Or.inl rfl)) (pgs_cons (pg_name (i := 2) sc_sum_in.nd rfl (Or.inl rfl)) (pgs_cons (pg_name (i := 3) sc_sum_in.nd rfl (Or.inl rfl)) pgs_nil)))))
    (pss_cons (ps_if (PW.pt (pw_or (pt_not (pt_val (pe_call G_are_figures (hr.mono (by decide)) rfl T.g_are_figures T.F_are_figures.kp T.b_are_figures .nil pass0 (pa_cons (pv 1) (pa_cons pe_int (pa_cons (pe_globE rfl T.c_MOST_POUND_FIGURES) pa_nil)))))) (pw_or1 (pt_not (pt_val (pe_call G_are_figures (hr.mono (by decide)) rfl T.g_are_figures T.F_are_figures.kp T.b_are_figures .nil pass0 (pa_cons (pv 3) (pa_cons pe_int (pa_cons pe_int pa_nil))))))))) (pss_one ps_never) pss_nil)
    (pss_cons (ps_set (i := 4) sc_sum_in.nd rfl (Or.inl rfl) (pe_op op_add (pe_op op_mul (pe_callTy call_int_str (by rfl) T.n_int (by decide +kernel) (pa_cons (pv 1) pa_nil)) (pe_globE rfl T.c_POUND_PENNIES)) (pe_callTy call_int_str (by rfl) T.n_int (by decide +kernel) (pa_cons (pv 3) pa_nil))))
    (pss_cons (ps_if (pt_cmpR op_ne (pe_call G_sum_text (hr.mono (by decide)) rfl T.g_sum_text T.F_sum_text.kp T.b_sum_text .nil pass0 (pa_cons (pv 4) pa_nil)) (pv 0) (nomark _)) (pss_one ps_never) pss_nil)
    (pss_one (ps_ret (pv 4))))))), ?_⟩
    refine ⟨_, rfl, rfl, _, _, rfl, rfl, (by decide +kernel), Nat.le_trans hl (by decide), fun p hp => ?_⟩
    rw [eR]
    walk_at "z"
    refine ⟨A, 1, 5, rfl, Nat.le_trans lA (by decide), fun H1 s1 => ?_⟩
    rw [fA, decide_eq_true ⟨by omega, by omega⟩]
    walk_at "z"
    walk_at "z"
    refine ⟨B, 2, 2, rfl, by rw [lB]; decide, fun H2 s2 => ?_⟩
    rw [fB, decide_eq_true ⟨by omega, by omega⟩]
    walk_at "z"
    refine ⟨A, _, rfl, iA, by omega, ?_⟩
    walk_at "z"
    refine ⟨B, _, rfl, iB, by omega, ?_⟩
    walk_at "z"
    have en : n / 100 * 100 + n % 100 = n := by omega
    have ei : ((n / 100 : Nat) : Int) * 100 + ((n % 100 : Nat) : Int) = (n : Int) := by omega
    refine ⟨by show n / 100 * 100 + n % 100 < 10 ^ 12; omega, fun H3 s3 => ?_⟩
    have en' : (V.str (sumT ((n / 100 * 100 + n % 100 : Nat) : Int))) = V.str (sumT (n : Int)) := by rw [en]
    refine ⟨_, rfl, ?_⟩
    rw [en']
    refine ⟨rfl, _, rfl, ?_⟩
    refine iteNS rfl ?_
    refine ⟨_, rfl, ?_⟩
    show Q (V.int (((n / 100 : Nat) : Int) * 100 + ((n % 100 : Nat) : Int))) _
    rw [ei]
    exact q _ (((Same.new hp).trans s1).trans (s2.trans s3))
/-! ### the law's own -/
def sp__law_sum : Sp := fun vs H Q _ => ∃ (B : Addr) (n : Nat), vs = [.ref B] ∧ Box H B n ∧ n < 100000000 ∧
  ∀ (r : Nat) H', r ≤ 9999999 → Fr [B] H H' → Box H' B (n + 3) → Q (.int (r : Int)) H'
theorem ok__law_sum {P : Program} {w : World} {K : PySem.W.Frag} {mg : Str → Option Value} {base : Heap} {ad : Ad} (T : Txt K mg ad) : FnOk P w K mg base CX0 2 ad.f__law_sum ad.d__law_sum ["_law_box_here"] sp__law_sum := by
  have G__law_take := ok__law_take (P := P) (w := w) (base := base) T
  refine T.F__law_sum.ok sc__law_sum (fun vs H Q E h => ?_) (fun cdv A outer s H vs Q E hr h => ?_)
  · obtain ⟨B, n, rfl, _⟩ := h
    rfl
  · obtain ⟨B, n, rfl, hB, hn, q⟩ := h
    have q' : ∀ (r : Int) H', 0 ≤ r → r ≤ 9999999 → Fr [B] H H' → Box H' B (n + 3) → Q (.int r) H' := fun r H' h0 h1 f b => by
      obtain ⟨m, rfl⟩ := Int.eq_ofNat_of_zero_le h0
      exact q m H' (by omega) f b
    refine ⟨_, (pss_cons (ps_par (i := 1) (j := 2) (by rfl) sc__law_sum.nd rfl rfl (by decide) rfl rfl (pa_cons (pe_call G__law_take (hr.mono (by decide)) rfl T.g__law_take T.F__law_take.kp T.b__law_take .nil pass0 (pa_cons (pv 0) (pa_cons pe_int pa_nil))) (pa_cons (pe_op op_sub (pe_call G__law_take (hr.mono (by decide)) rfl T.g__law_take T.F__law_take.kp T.b__law_take .nil pass0 (pa_cons (pv 0) (pa_cons pe_int pa_nil))) pe_int) pa_nil)) (by rfl))
    (pss_cons (ps_if (pt_cmpR op_eq (pv 1) pe_int (nomark _)) (pss_one (ps_ret (pe_call G__law_take (hr.mono (by decide)) rfl T.g__law_take T.F__law_take.kp T.b__law_take .nil pass0 (pa_cons (pv 0) (pa_cons pe_int pa_nil))))) pss_nil)
    (pss_cons (ps_if (pt_cmpR op_eq (pv 1) pe_int (nomark _)) (pss_one (ps_ret (pe_op op_add (pe_op op_mul pe_int (pe_op op_add pe_int (pe_call G__law_take (hr.mono (by decide)) rfl T.g__law_take T.F__law_take.kp T.b__law_take .nil pass0 (pa_cons (pv 0) (pa_cons pe_int pa_nil))))) (pv 2)))) pss_nil)
    (pss_cons (ps_if (pt_cmpR op_eq (pv 1) pe_int (nomark _)) (pss_one (ps_ret (pe_callB (call_min2 rfl) (by rfl) T.n_min (by decide +kernel) (pa_cons pe_int (pa_cons (pe_op op_add (pe_ix ix_list (pe_lst (pa_cons pe_int (pa_cons pe_int (pa_cons pe_int (pa_cons (pe_op op_pow pe_int pe_int) (pa_cons (pe_op op_pow pe_int pe_int) (pa_cons (pe_op op_pow pe_int pe_int) (pa_cons (pe_op op_pow pe_int pe_int) pa_nil)))))))) (pe_call G__law_take (hr.mono (by decide)) rfl T.g__law_take T.F__law_take.kp T.b__law_take .nil pass0 (pa_cons (pv 0) (pa_cons pe_int pa_nil))) (fun _ _ => rfl)) (pv 2)) pa_nil))))) pss_nil)
    (pss_one (ps_ret (pe_ifExp (pt_cmpR op_eq (pv 1) pe_int (nomark _)) (pe_op op_sub pe_int (pe_call G__law_take (hr.mono (by decide)) rfl T.g__law_take T.F__law_take.kp T.b__law_take .nil pass0 (pa_cons (pv 0) (pa_cons pe_int pa_nil)))) (pe_call G__law_take (hr.mono (by decide)) rfl T.g__law_take T.F__law_take.kp T.b__law_take .nil pass0 (pa_cons (pv 0) (pa_cons (pe_op op_pow pe_int pe_int) pa_nil)))))))))), ?_⟩
    refine ⟨_, rfl, B, 5, n, rfl, hB, by decide, by decide, by omega, fun way H1 w0 w1 f1 b1 => ?_⟩
    refine ⟨_, rfl, B, 3, n + 1, rfl, b1, by decide, by decide, by omega, fun near H2 r0 r1 f2 b2 => ?_⟩
    walk_at "z"
    have f12 := f1.trans f2
    refine ite2 (fun h => ?_) (fun h => ?_)
    · refine ⟨_, rfl, B, 120, n + 2, rfl, b2, by decide, by decide, by omega, fun r H3 c0 c1 f3 b3 => ?_⟩
      exact q' _ _ c0 (by omega) (f12.trans f3) b3
    walk_at "z"
    refine ite2 (fun h => ?_) (fun h => ?_)
    · refine ⟨_, rfl, B, 30, n + 2, rfl, b2, by decide, by decide, by omega, fun r H3 c0 c1 f3 b3 => ?_⟩
      walk_at "z"
      exact q' _ _ (by omega) (by omega) (f12.trans f3) b3
    walk_at "z"
    refine ite2 (fun h => ?_) (fun h => ?_)
    · walk_at "z"
      refine fun p hp => ?_
      have hpB : p ≠ B := b2.ne hp
      refine ⟨_, rfl, B, 7, n + 2, rfl, b2.keep (Same.new hp), by decide, by decide, by omega, fun r H3 c0 c1 f3 b3 => ?_⟩
      have hL := f3 p _ (by simp [hpB]) upd_same
      obtain ⟨v, e, hv⟩ := atI_in (xs := [V.int 10, V.int 100, V.int 1000, V.int (10 ^ 4), V.int (10 ^ 5), V.int (10 ^ 6), V.int (10 ^ 7)]) c0 c1
      have hv' : ∃ k : Int, v = V.int k ∧ 10 ≤ k ∧ k ≤ 10000000 := by
        simp at hv
        rcases hv with rfl | rfl | rfl | rfl | rfl | rfl | rfl <;> exact ⟨_, rfl, by decide, by decide⟩
      obtain ⟨k, rfl, k0, k1⟩ := hv'
      refine ⟨p, _, r, _, rfl, rfl, SqL.of hL, e, ?_⟩
      walk_at "z"
      refine q' _ _ ?_ ?_ ((f12.trans (Fr.new hp)).trans f3) b3
      · split <;> omega
      · split <;> omega
    walk_at "z"
    refine ite2 (fun h => ?_) (fun h => ?_)
    · refine ⟨_, rfl, B, 3, n + 2, rfl, b2, by decide, by decide, by omega, fun r H3 c0 c1 f3 b3 => ?_⟩
      walk_at "z"
      exact q' _ _ (by omega) (by omega) (f12.trans f3) b3
    · walk_at "z"
      refine ⟨B, _, n + 2, rfl, b2, by decide, by decide, by omega, fun r H3 c0 c1 f3 b3 => ?_⟩
      have e : (10 : Int) ^ Int.toNat 7 = 10000000 := by decide
      exact q' _ _ c0 (by rw [e] at c1; omega) (f12.trans f3) b3
def sp__law_written : Sp := fun vs H Q _ => ∃ n : Nat, vs = [.int (n : Int)] ∧ n < 10 ^ 12 ∧ ∀ H', Same H H' → Q (.str (sumT (n : Int))) H'
theorem fig_at {d : Nat} (h : d < 10) : atI (Str.ofString "0123456789").cps.toList (d : Int) = some (48 + d) := by
  have e : (Str.ofString "0123456789").cps.toList = [48, 49, 50, 51, 52, 53, 54, 55, 56, 57] := by decide +kernel
  rw [e]
  have : ∀ d : Fin 10, atI [48, 49, 50, 51, 52, 53, 54, 55, 56, 57] ((d.val : Nat) : Int) = some (48 + d.val) := by decide +kernel
  exact this ⟨d, h⟩
structure WInv (H : Hp) (n i : Nat) (σ : L2.St) (H' : Hp) : Prop where
  same : Same H H'
  st : ∃ (z : Str) (v : Option V), σ = [some (.int (n : Int)), some (.str z), some (.int ((wGo n i).2 : Nat)), v] ∧ tl z = (wGo n i).1
theorem WInv.next {H H' : Hp} {n i m : Nat} {u : List Nat} {y : Str} {v : Option V} (s : Same H H') (sr : wGo n (i + 1) = wStep (u, m) i) (hy : tl y = (wStep (u, m) i).1) :
    WInv H n (i + 1) [some (V.int (n : Int)), some (V.str y), some (V.int ((m : Int) / 10)), v] H' := by
  refine ⟨s, y, v, ?_, by rw [sr]; exact hy⟩
  have : ((wGo n (i + 1)).2 : Int) = (m : Int) / 10 := by rw [sr]; show ((m / 10 : Nat) : Int) = _; omega
  rw [this]
theorem ok__law_written {P : Program} {w : World} {K : PySem.W.Frag} {mg : Str → Option Value} {base : Heap} {ad : Ad} (T : Txt K mg ad) : FnOk P w K mg base CX0 1 ad.f__law_written ad.d__law_written ["_law_amount"] sp__law_written := by
  refine T.F__law_written.ok sc__law_written (fun vs H Q E h => ?_) (fun cdv A outer s H vs Q E hr h => ?_)
  · obtain ⟨n, rfl, _⟩ := h
    rfl
  · obtain ⟨n, rfl, hn, q⟩ := h
    refine ⟨_, (pss_cons (ps_par (i := 1) (j := 2) (by rfl) sc__law_written.nd rfl rfl (by decide) rfl rfl (pa_cons pe_str (pa_cons (pv 0) pa_nil)) (by rfl))
    (pss_cons (ps_for PassesOwn.never rfl (pi_range1 rfl T.n_range (pa_cons pe_int pa_nil)) (pg_name (i := 3) sc__law_written.nd rfl (Or.inl rfl))
    (pss_cons (ps_if (PW.pt (pw_or (pt_cmpR op_lt (pv 3) pe_int (nomark _)) (pw_or1 (pt_cmpR op_gt (pv 2) pe_int (nomark _))))) (pss_one (ps_set (i := 1) sc__law_written.nd rfl (Or.inl rfl) (pe_op op_add_str (pe_ix ix_str pe_str (pe_op op_mod (pv 2) pe_int) (fun _ _ => rfl)) (pv 1)))) pss_nil)
    (pss_cons (ps_if (pt_cmpR op_eq (pv 3) pe_int (nomark _)) (pss_one (ps_set (i := 1) sc__law_written.nd rfl (Or.inl rfl) (pe_op op_add_str pe_str (pv 1)))) pss_nil)
    (pss_one (ps_set (i := 2) sc__law_written.nd rfl (Or.inl rfl) (pe_op op_fdiv (pv 2) pe_int))))))
    (pss_one (ps_ret (pv 1))))), ?_⟩
    walk_at "z"
    refine ⟨by decide, by decide, ?_⟩
    have l4 : sizeLine = 16777216 := by decide +kernel
    have c1 : ∀ d : Nat, (⟨#[d]⟩ : Str).length = 1 := fun _ => rfl
    refine for_it (walk_range (lo := 0) (n := 12)) (WInv H n) ⟨Same.refl _, Str.ofString "", none, rfl, (by decide +kernel : tl (Str.ofString "") = [])⟩ (fun _ _ _ _ _ => trivial) ?_ ?_
    · rintro i x σ H' _ hi ⟨sm, z, v, rfl, ez⟩ ⟨rfl, rfl⟩
      have hz : z.length ≤ 24 := by
        rw [len_tl, ez]
        have := wGo_len n i
        omega
      have sr := wGo_succ n i
      generalize wGo n i = s0 at ez sr
      obtain ⟨u, m⟩ := s0
      dsimp only at ez
      have dig : atI (Str.ofString "0123456789").cps.toList ((m : Int) % 10) = some (48 + m % 10) := by
        have e : ((m : Int) % 10) = ((m % 10 : Nat) : Int) := by omega
        rw [e]
        exact fig_at (by omega)
      have l3 : (Str.ofString ".").length = 1 := by decide +kernel
      have cat : ∃ y : Str, (⟨#[48 + m % 10]⟩ : Str) ++ z = y ∧ tl y = (48 + m % 10) :: u ∧ y.length ≤ 25 := ⟨_, rfl, by rw [tl_append, ez]; rfl, by rw [len_tl, tl_append, List.length_append, ← len_tl, ← len_tl, c1]; omega⟩
      obtain ⟨y, hY, hyu, ly⟩ := cat
      walk_at "z"
      refine ite2 (fun h1 => ?_) (fun h1 => ?_)
      · have hy : tl y = if i < 3 ∨ 0 < m then (48 + m % 10) :: u else u := by
          have := of_decide_eq_true h1
          rw [if_pos (.inl (by omega)), hyu]
        refine iteT ?_
        refine ⟨_, rfl, _, _, rfl, rfl, (by show (0 : Int) < 10; decide), _, _, _, rfl, rfl, (by decide +kernel), dig, ?_⟩
        walk_at "z"
        refine ⟨by rw [c1, l4]; omega, ?_⟩
        rw [hY]
        walk_at "z"
        refine ite2 (fun h3 => ?_) (fun h3 => ?_)
        · have hi1 : i = 1 := by
            have := of_decide_eq_true h3
            injection this with this
            omega
          walk_at "z"
          refine ⟨by rw [l3, l4]; omega, ?_⟩
          walk_at "z"
          refine WInv.next sm sr ?_
          rw [tl_append, hy, tl_dot]
          unfold wStep
          simp only
          rw [if_pos hi1]
          rfl
        · have hi1 : ¬ i = 1 := fun e => h3 (by rw [e]; rfl)
          walk_at "z"
          refine WInv.next sm sr ?_
          rw [hy]
          unfold wStep
          simp only
          rw [if_neg hi1]
      · walk_at "z"
        refine ite2 (fun h2 => ?_) (fun h2 => ?_)
        · have hy : tl y = if i < 3 ∨ 0 < m then (48 + m % 10) :: u else u := by
            have h2' : (0 : Int) < (m : Int) := of_decide_eq_true h2
            rw [if_pos (.inr (by omega)), hyu]
          refine ⟨_, rfl, _, _, rfl, rfl, (by show (0 : Int) < 10; decide), _, _, _, rfl, rfl, (by decide +kernel), dig, ?_⟩
          walk_at "z"
          refine ⟨by rw [c1, l4]; omega, ?_⟩
          rw [hY]
          walk_at "z"
          refine ite2 (fun h3 => ?_) (fun h3 => ?_)
          · have hi1 : i = 1 := by
              have := of_decide_eq_true h3
              injection this with this
              omega
            walk_at "z"
            refine ⟨by rw [l3, l4]; omega, ?_⟩
            walk_at "z"
            refine WInv.next sm sr ?_
            rw [tl_append, hy, tl_dot]
            unfold wStep
            simp only
            rw [if_pos hi1]
            rfl
          · have hi1 : ¬ i = 1 := fun e => h3 (by rw [e]; rfl)
            walk_at "z"
            refine WInv.next sm sr ?_
            rw [hy]
            unfold wStep
            simp only
            rw [if_neg hi1]
        · have hy : tl z = if i < 3 ∨ 0 < m then (48 + m % 10) :: u else u := by
            rw [if_neg, ez]
            rintro (h | h)
            · exact h1 (decide_eq_true (by omega))
            · exact h2 (decide_eq_true (by show (0 : Int) < (m : Int); omega))
          walk_at "z"
          refine ite2 (fun h3 => ?_) (fun h3 => ?_)
          · have hi1 : i = 1 := by
              have := of_decide_eq_true h3
              injection this with this
              omega
            walk_at "z"
            refine ⟨by rw [l3, l4]; omega, ?_⟩
            walk_at "z"
            refine WInv.next sm sr ?_
            rw [tl_append, hy, tl_dot]
            unfold wStep
            simp only
            rw [if_pos hi1]
            rfl
          · have hi1 : ¬ i = 1 := fun e => h3 (by rw [e]; rfl)
            walk_at "z"
            refine WInv.next sm sr ?_
            rw [hy]
            unfold wStep
            simp only
            rw [if_neg hi1]
    · rintro σ H' ⟨sm, z, v, rfl, ez⟩
      refine ⟨_, rfl, ?_⟩
      have e : z = sumT (n : Int) := ext_tl (by rw [ez, wGo_12 hn, tl_sumT])
      rw [e]
      exact q _ sm
def sp_law (K : PySem.W.Frag) : Sp := fun vs H Q _ => ∃ (a : Addr) (ns : List Int), vs = [.ref a] ∧ SqL K H a (ns.map V.int) ∧ ns.length ≤ 63 ∧ ∀ H', Q (.bl true) H'
theorem ok_law {P : Program} {w : World} {K : PySem.W.Frag} {mg : Str → Option Value} {base : Heap} {ad : Ad} (T : Txt K mg ad) : FnOk P w K mg base CX0 3 ad.f_law ad.d_law ["_law_script"] (sp_law K) := by
  have G__law_box := ok__law_box (P := P) (w := w) (base := base) T
  have G__law_sum := ok__law_sum (P := P) (w := w) (base := base) T
  have G_sum_text := ok_sum_text (P := P) (w := w) (base := base) T
  have G_sum_in := ok_sum_in (P := P) (w := w) (base := base) T
  have G__law_written := ok__law_written (P := P) (w := w) (base := base) T
  have G__law_take := ok__law_take (P := P) (w := w) (base := base) T
  refine T.F_law.ok sc_law (fun vs H Q E h => ?_) (fun cdv A outer s H vs Q E hr h => ?_)
  · obtain ⟨a, ns, rfl, _⟩ := h
    rfl
  · obtain ⟨a, ns, rfl, hS, hlen, q⟩ := h
    refine ⟨_, (pss_cons (ps_for PassesOwn.never rfl (pi_range1 rfl T.n_range (pa_cons (pe_op op_add pe_int (pe_callB (call_min2 rfl) (by rfl) T.n_min (by decide +kernel) (pa_cons pe_int (pa_cons (pe_callB call_len_seq (by rfl) T.n_len PySem.boot_len (pa_cons (pv 0) pa_nil)) pa_nil)))) pa_nil)) (pg_name (i := 1) sc_law.nd rfl (Or.inl rfl))
    (pss_cons (ps_set (i := 2) sc_law.nd rfl (Or.inl rfl) (pe_call G__law_box (hr.mono (by decide)) rfl T.g__law_box T.F__law_box.kp T.b__law_box .nil pass0 (pa_cons (pv 0) (pa_cons (pv 1) pa_nil))))
    (pss_cons (ps_for PassesOwn.never rfl (pi_range1 rfl T.n_range (pa_cons pe_int pa_nil)) (pg_name (i := 3) sc_law.nd rfl (Or.inl rfl))
    (pss_cons (ps_set (i := 4) sc_law.nd rfl (Or.inl rfl) (pe_call G__law_sum (hr.mono (by decide)) rfl T.g__law_sum T.F__law_sum.kp T.b__law_sum .nil pass0 (pa_cons (pv 2) pa_nil)))
    (pss_cons (ps_set (i := 5) sc_law.nd rfl (Or.inl rfl) (pe_call G_sum_text (hr.mono (by decide)) rfl T.g_sum_text T.F_sum_text.kp T.b_sum_text .nil pass0 (pa_cons (pv 4) pa_nil)))
    (pss_cons (ps_if (PW.pt (pw_or (pt_not (pt_val (pe_callB call_isi (by rfl) T.n_isinstance (by decide +kernel) (pa_cons (pv 5) (pa_cons (pe_bltn (v := .ty "str") (by rfl) T.n_str (by decide +kernel) rfl) pa_nil))))) (pw_or (pt_cmpR op_ne (pv 5) (pe_call G__law_written (hr.mono (by decide)) rfl T.g__law_written T.F__law_written.kp T.b__law_written .nil pass0 (pa_cons (pv 4) pa_nil)) (nomark _)) (pw_or1 (pt_cmpR op_ne (pe_call G_sum_text (hr.mono (by decide)) rfl T.g_sum_text T.F_sum_text.kp T.b_sum_text .nil pass0 (pa_cons (pv 4) pa_nil)) (pv 5) (nomark _)))))) (pss_one (ps_ret pe_bl)) pss_nil)
    (pss_cons (ps_set (i := 6) sc_law.nd rfl (Or.inl rfl) (pe_call G_sum_in (hr.mono (by decide)) rfl T.g_sum_in T.F_sum_in.kp T.b_sum_in .nil pass0 (pa_cons (pv 5) pa_nil)))
    (pss_cons (ps_if (PW.pt (pw_or (pt_not (pt_val (pe_callB call_isi (by rfl) T.n_isinstance (by decide +kernel) (pa_cons (pv 6) (pa_cons (pe_bltn (v := .ty "int") (by rfl) T.n_int (by decide +kernel) rfl) pa_nil))))) (pw_or (pt_val (pe_callB call_isi (by rfl) T.n_isinstance (by decide +kernel) (pa_cons (pv 6) (pa_cons (pe_bltn (v := .ty "bool") (by rfl) T.n_bool (by decide +kernel) rfl) pa_nil)))) (pw_or (pt_cmpR op_ne (pv 6) (pv 4) (nomark _)) (pw_or1 (pt_cmpR op_ne (pe_call G_sum_in (hr.mono (by decide)) rfl T.g_sum_in T.F_sum_in.kp T.b_sum_in .nil pass0 (pa_cons (pv 5) pa_nil)) (pv 4) (nomark _))))))) (pss_one (ps_ret pe_bl)) pss_nil)
    (pss_one (ps_if (PW.pt (pw_and (pt_cmpR op_lt (pv 4) pe_int (nomark _)) (pw_and1 (pt_cmpR op_ne (pe_call G_sum_text (hr.mono (by decide)) rfl T.g_sum_text T.F_sum_text.kp T.b_sum_text .nil pass0 (pa_cons (pe_op op_add (pv 4) pe_int) pa_nil)) (pe_call G__law_written (hr.mono (by decide)) rfl T.g__law_written T.F__law_written.kp T.b__law_written .nil pass0 (pa_cons (pe_op op_add (pv 4) pe_int) pa_nil)) (nomark _))))) (pss_one (ps_ret pe_bl)) pss_nil))))))))
    (pss_cons (ps_set (i := 7) sc_law.nd rfl (Or.inl rfl) (pe_op op_add (pe_op op_mul (pe_op op_pow pe_int pe_int) (pe_op op_add pe_int (pe_call G__law_take (hr.mono (by decide)) rfl T.g__law_take T.F__law_take.kp T.b__law_take .nil pass0 (pa_cons (pv 2) (pa_cons pe_int pa_nil))))) (pe_call G__law_sum (hr.mono (by decide)) rfl T.g__law_sum T.F__law_sum.kp T.b__law_sum .nil pass0 (pa_cons (pv 2) pa_nil))))
    (pss_one (ps_if (pt_cmpR op_ne (pe_call G_sum_text (hr.mono (by decide)) rfl T.g_sum_text T.F_sum_text.kp T.b_sum_text .nil pass0 (pa_cons (pv 7) pa_nil)) (pe_call G__law_written (hr.mono (by decide)) rfl T.g__law_written T.F__law_written.kp T.b__law_written .nil pass0 (pa_cons (pv 7) pa_nil)) (nomark _)) (pss_one (ps_ret pe_bl)) pss_nil))))))
    (pss_one (ps_ret (pe_cmpR (op_eqD hr.units) (pe_lc (own := [("_law_amount", 4)]) (g := gName 4) (by rfl) sc_law.nd (pi_tup (pe_tup (pa_cons pe_int (pa_cons pe_int (pa_cons pe_int (pa_cons pe_int pa_nil)))))) (blkOk_by (own := [("_law_amount", 4)]) (N := N_law) (sc := defScope s_law) (by decide +kernel)) (fun _ _ _ _ _ => (pg_name (i := 4) sc_law.nd rfl (Or.inl rfl))) (fun _ _ _ _ _ => pts_nil) (fun _ _ _ _ _ => (pe_call G_sum_text (hr.mono (by decide)) rfl T.g_sum_text T.F_sum_text.kp T.b_sum_text .nil pass0 (pa_cons (pv 4) pa_nil)))) (pe_lst (pa_cons pe_str (pa_cons pe_str (pa_cons pe_str (pa_cons pe_str pa_nil))))) (nomark _))))), ?_⟩
    refine ⟨_, rfl, a, _, rfl, .inl hS, _, _, rfl, _, _, rfl, rfl, _, rfl, ?_, ?_, ?_⟩
    · split <;> simp <;> omega
    · split <;> simp <;> omega
    refine for_it walk_range0 (fun i σ H' => Same H H' ∧ ∃ v1 v2 v3 v4 v5 v6 v7, σ = [some (.ref a), v1, v2, v3, v4, v5, v6, v7]) ⟨Same.refl _, none, none, none, none, none, none, none, rfl⟩ (fun _ _ _ _ _ => trivial) ?_ ?_
    · rintro i x σ H1 _ hi ⟨s1, v1, v2, v3, v4, v5, v6, v7, rfl⟩ ⟨rfl, rfl⟩
      have hi7 : i < 7 := by
        have : (if ((ns.map V.int).length : Int) < 6 then ((ns.map V.int).length : Int) else 6) ≤ 6 := by split <;> omega
        omega
      refine ⟨_, rfl, _, rfl, a, ns, i, rfl, s1.seq hS, by omega, fun B H2 nB s2 bB => ?_⟩
      refine ⟨_, rfl, by decide, by decide, ?_⟩
      have hB0 : H B = none := s1.free nB
      refine for_it (walk_range0 (n := 12)) (fun j σ H' => Fr [B] H2 H' ∧ Box H' B (3 * j) ∧ ∃ v3 v4 v5 v6 v7, σ = [some (.ref a), some (.int (i : Int)), some (.ref B), v3, v4, v5, v6, v7]) ⟨Fr.refl _ _, bB, _, _, _, _, _, rfl⟩ (fun _ _ _ _ _ => trivial) ?_ ?_
      · rintro j x σ H3 _ hj ⟨f3, b3, w3, w4, w5, w6, w7, rfl⟩ ⟨rfl, rfl⟩
        refine ⟨_, rfl, B, 3 * j, rfl, b3, by omega, fun n H4 hn f4 b4 => ?_⟩
        refine ⟨_, rfl, n, rfl, by omega, fun H5 s5 => ?_⟩
        walk_at "z"
        refine ⟨by omega, fun H6 s6 => ?_⟩
        refine ⟨rfl, _, rfl, ?_⟩
        refine iteNS rfl ?_
        refine ⟨_, rfl, n, rfl, by omega, fun H7 s7 => ?_⟩
        refine ⟨_, rfl, rfl, _, rfl, ?_⟩
        refine iteNS rfl ?_
        refine ⟨_, rfl, n, rfl, by omega, fun H8 s8 => ?_⟩
        walk_at "z"
        refine iteNS rfl ?_
        refine ⟨_, rfl, n, rfl, by omega, fun H9 s9 => ?_⟩
        refine ⟨_, rfl, rfl, _, rfl, ?_⟩
        refine iteNS rfl ?_
        have s59 : Same H4 H9 := s5.trans (s6.trans (s7.trans (s8.trans s9)))
        walk_at "z"
        with_reducible refine iteD (fun h => ?_) (fun h => ?_)
        · refine ⟨_, rfl, _, _, rfl, rfl, n + 1, rfl, by omega, fun H10 s10 => ?_⟩
          refine ⟨_, rfl, _, _, rfl, rfl, n + 1, rfl, by omega, fun H11 s11 => ?_⟩
          refine ⟨rfl, _, rfl, ?_⟩
          refine iteNS rfl ?_
          have s : Same H4 H11 := s59.trans (s10.trans s11)
          exact ⟨(f3.trans f4).trans (Same.fr s), b4.keep s, _, _, _, _, _, rfl⟩
        · exact ⟨(f3.trans f4).trans (Same.fr s59), b4.keep s59, _, _, _, _, _, rfl⟩
      · rintro σ H3 ⟨f3, b3, w3, w4, w5, w6, w7, rfl⟩
        walk_at "z"
        refine ⟨B, 40, 36, rfl, b3, by decide, by decide, by omega, fun r H4 r0 r1 f4 b4 => ?_⟩
        walk_at "z"
        refine ⟨B, 37, rfl, b4, by omega, fun m H5 hm f5 b5 => ?_⟩
        obtain ⟨r', rfl⟩ := Int.eq_ofNat_of_zero_le r0
        have eN : (fun i j => V.int (i + j)) ((10 : Int) ^ Int.toNat 7 * (1 + (r' : Int))) (m : Int) = V.int ((10000000 * (1 + r') + m : Nat) : Int) := by
          show V.int ((10 : Int) ^ 7 * (1 + (r' : Int)) + (m : Int)) = _
          have e7 : (10 : Int) ^ 7 = 10000000 := by decide
          rw [e7]
          congr 1 <;> omega
        refine ⟨_, _, rfl, rfl, ?_⟩
        rw [eN]
        refine ⟨_, rfl, _, rfl, by omega, fun H6 s6 => ?_⟩
        refine ⟨_, rfl, _, rfl, by omega, fun H7 s7 => ?_⟩
        refine ⟨rfl, _, rfl, ?_⟩
        refine iteNS rfl ?_
        refine ⟨?_, _, _, _, _, _, _, _, rfl⟩
        refine Fr.out (M := [B]) ((((f3.trans f4).trans f5).trans (Same.fr s6)).trans (Same.fr s7)) (s1.trans s2) ?_
        intro b hb
        rw [List.mem_singleton.mp hb]
        exact hB0
    · rintro σ H1 ⟨s1, v1, v2, v3, v4, v5, v6, v7, rfl⟩
      refine ⟨Nat.le_of_ble_eq_true rfl, fun t ht => ⟨t, rfl, ⟨_, SqT.of upd_same⟩, fun D hD => ?_⟩⟩
      refine lc_it (walk_tup (xs := [V.int 0, V.int 5, V.int 1230, V.int 9999999])) (fun i H' => LcP (upd H1 t (.tup [V.int 0, V.int 5, V.int 1230, V.int 9999999])) D [0, 5, 1230, 9999999] (fun n : Nat => V.str (sumT (n : Int))) i H') (LcP.start hD) ?_ ?_ ?_
      · intro i H' _ p
        exact SqT.of (p.same _ _ upd_same)
      · rintro i x H' _ hi p ⟨rfl, hx⟩
        refine ⟨rfl, ?_⟩
        obtain ⟨n, hn, rfl⟩ : ∃ n : Nat, [0, 5, 1230, 9999999][i]? = some n ∧ x = V.int (n : Int) := by
          have e : [V.int 0, V.int 5, V.int 1230, V.int 9999999] = ([0, 5, 1230, 9999999] : List Nat).map (fun n : Nat => V.int (n : Int)) := rfl
          rw [e, List.getElem?_map] at hx
          cases q : ([0, 5, 1230, 9999999] : List Nat)[i]? with
          | none => rw [q] at hx; cases hx
          | some n => rw [q] at hx; exact ⟨n, rfl, (Option.some.inj hx).symm⟩
        have hn9 : n < 10 ^ 12 := by
          have := List.mem_of_getElem? hn
          simp at this
          omega
        refine ⟨_, rfl, n, rfl, hn9, fun H4 s4 => ?_⟩
        exact p.step s4 hn rfl (by decide)
      · intro H' p
        refine ⟨Nat.le_of_ble_eq_true rfl, fun r hr' => ?_⟩
        have hD' := p.done
        have nDr : D ≠ r := ne_of_none hD' hr'
        refine ⟨.list [.str (sumT 0), .str (sumT 5), .str (sumT 1230), .str (sumT 9999999)], .list [.str (Str.ofString "0.00"), .str (Str.ofString "0.05"), .str (Str.ofString "12.30"), .str (Str.ofString "99999.99")],
          .lst (SqL.of (by rw [upd_ne nDr]; exact hD')) (.cons (.str _) (.cons (.str _) (.cons (.str _) (.cons (.str _) .nil)))), .lst (SqL.of upd_same) (.cons (.str _) (.cons (.str _) (.cons (.str _) (.cons (.str _) .nil)))), by decide +kernel, by decide +kernel, ?_⟩
        have e0 : sumT 0 = Str.ofString "0.00" := by decide +kernel
        have e1 : sumT 5 = Str.ofString "0.05" := by decide +kernel
        have e2 : sumT 1230 = Str.ofString "12.30" := by decide +kernel
        have e3 : sumT 9999999 = Str.ofString "99999.99" := by decide +kernel
        rw [e0, e1, e2, e3, SeqAt.eqv_refl _ (by decide +kernel)]
        exact q _
theorem all_mk {l : PySem.W.OpenLaw} {w : World} {K : PySem.W.Frag} {h : Heap} {mg : Str → Option Value} {fa : Addr} (X : K.In h) (G : h.Ns mainGlobals mg) (hfa : mg "law" = some (.ref fa))
    {f_sum_text : Addr} {od_sum_text an_sum_text : Option Addr} {sl_sum_text : Array (Option Value)} {oc_sum_text kV_sum_text dc_sum_text pm_sum_text cd_sum_text ct_sum_text : Value}
    {f_are_figures : Addr} {od_are_figures an_are_figures : Option Addr} {sl_are_figures : Array (Option Value)} {oc_are_figures kV_are_figures dc_are_figures pm_are_figures cd_are_figures ct_are_figures : Value}
    {f_sum_in : Addr} {od_sum_in an_sum_in : Option Addr} {sl_sum_in : Array (Option Value)} {oc_sum_in kV_sum_in dc_sum_in pm_sum_in cd_sum_in ct_sum_in : Value}
    {f__law_box : Addr} {od__law_box an__law_box : Option Addr} {sl__law_box : Array (Option Value)} {oc__law_box kV__law_box dc__law_box pm__law_box cd__law_box ct__law_box : Value}
    {f__law_take : Addr} {od__law_take an__law_take : Option Addr} {sl__law_take : Array (Option Value)} {oc__law_take kV__law_take dc__law_take pm__law_take cd__law_take ct__law_take : Value}
    {f__law_sum : Addr} {od__law_sum an__law_sum : Option Addr} {sl__law_sum : Array (Option Value)} {oc__law_sum kV__law_sum dc__law_sum pm__law_sum cd__law_sum ct__law_sum : Value}
    {f__law_written : Addr} {od__law_written an__law_written : Option Addr} {sl__law_written : Array (Option Value)} {oc__law_written kV__law_written dc__law_written pm__law_written cd__law_written ct__law_written : Value}
    {f_law : Addr} {od_law an_law : Option Addr} {sl_law : Array (Option Value)} {oc_law kV_law dc_law pm_law cd_law ct_law : Value}
    {t_PLAIN_FIGURES : Tok}
    {t_POUND_POINT : Tok}
    {t_POUND_PENNIES : Tok}
    {t_MOST_POUND_FIGURES : Tok}
    (a_sum_text : PySem.W.nsIn K mainGlobals "sum_text" = some (some (.ref f_sum_text)))
    (l_sum_text : K.lookup f_sum_text = some ⟨oc_sum_text, od_sum_text, .func (PySem.W.fnOf "sum_text" "sum_text" (defArgs s_sum_text) (defBody s_sum_text) (defScope s_sum_text) .none kV_sum_text dc_sum_text pm_sum_text an_sum_text cd_sum_text ct_sum_text), sl_sum_text⟩)
    (e_sum_text : PySem.W.codeIn K cd_sum_text "sum_text" = true)
    (k_sum_text : PySem.W.keepIn K (.ref f_sum_text) = true)
    (a_are_figures : PySem.W.nsIn K mainGlobals "are_figures" = some (some (.ref f_are_figures)))
    (l_are_figures : K.lookup f_are_figures = some ⟨oc_are_figures, od_are_figures, .func (PySem.W.fnOf "are_figures" "are_figures" (defArgs s_are_figures) (defBody s_are_figures) (defScope s_are_figures) .none kV_are_figures dc_are_figures pm_are_figures an_are_figures cd_are_figures ct_are_figures), sl_are_figures⟩)
    (e_are_figures : PySem.W.codeIn K cd_are_figures "are_figures" = true)
    (k_are_figures : PySem.W.keepIn K (.ref f_are_figures) = true)
    (a_sum_in : PySem.W.nsIn K mainGlobals "sum_in" = some (some (.ref f_sum_in)))
    (l_sum_in : K.lookup f_sum_in = some ⟨oc_sum_in, od_sum_in, .func (PySem.W.fnOf "sum_in" "sum_in" (defArgs s_sum_in) (defBody s_sum_in) (defScope s_sum_in) .none kV_sum_in dc_sum_in pm_sum_in an_sum_in cd_sum_in ct_sum_in), sl_sum_in⟩)
    (e_sum_in : PySem.W.codeIn K cd_sum_in "sum_in" = true)
    (k_sum_in : PySem.W.keepIn K (.ref f_sum_in) = true)
    (a__law_box : PySem.W.nsIn K mainGlobals "_law_box" = some (some (.ref f__law_box)))
    (l__law_box : K.lookup f__law_box = some ⟨oc__law_box, od__law_box, .func (PySem.W.fnOf "_law_box" "_law_box" (defArgs s__law_box) (defBody s__law_box) (defScope s__law_box) .none kV__law_box dc__law_box pm__law_box an__law_box cd__law_box ct__law_box), sl__law_box⟩)
    (e__law_box : PySem.W.codeIn K cd__law_box "_law_box" = true)
    (k__law_box : PySem.W.keepIn K (.ref f__law_box) = true)
    (a__law_take : PySem.W.nsIn K mainGlobals "_law_take" = some (some (.ref f__law_take)))
    (l__law_take : K.lookup f__law_take = some ⟨oc__law_take, od__law_take, .func (PySem.W.fnOf "_law_take" "_law_take" (defArgs s__law_take) (defBody s__law_take) (defScope s__law_take) .none kV__law_take dc__law_take pm__law_take an__law_take cd__law_take ct__law_take), sl__law_take⟩)
    (e__law_take : PySem.W.codeIn K cd__law_take "_law_take" = true)
    (k__law_take : PySem.W.keepIn K (.ref f__law_take) = true)
    (a__law_sum : PySem.W.nsIn K mainGlobals "_law_sum" = some (some (.ref f__law_sum)))
    (l__law_sum : K.lookup f__law_sum = some ⟨oc__law_sum, od__law_sum, .func (PySem.W.fnOf "_law_sum" "_law_sum" (defArgs s__law_sum) (defBody s__law_sum) (defScope s__law_sum) .none kV__law_sum dc__law_sum pm__law_sum an__law_sum cd__law_sum ct__law_sum), sl__law_sum⟩)
    (e__law_sum : PySem.W.codeIn K cd__law_sum "_law_sum" = true)
    (k__law_sum : PySem.W.keepIn K (.ref f__law_sum) = true)
    (a__law_written : PySem.W.nsIn K mainGlobals "_law_written" = some (some (.ref f__law_written)))
    (l__law_written : K.lookup f__law_written = some ⟨oc__law_written, od__law_written, .func (PySem.W.fnOf "_law_written" "_law_written" (defArgs s__law_written) (defBody s__law_written) (defScope s__law_written) .none kV__law_written dc__law_written pm__law_written an__law_written cd__law_written ct__law_written), sl__law_written⟩)
    (e__law_written : PySem.W.codeIn K cd__law_written "_law_written" = true)
    (k__law_written : PySem.W.keepIn K (.ref f__law_written) = true)
    (a_law : PySem.W.nsIn K mainGlobals "law" = some (some (.ref f_law)))
    (l_law : K.lookup f_law = some ⟨oc_law, od_law, .func (PySem.W.fnOf "law" "law" (defArgs s_law) (defBody s_law) (defScope s_law) .none kV_law dc_law pm_law an_law cd_law ct_law), sl_law⟩)
    (e_law : PySem.W.codeIn K cd_law "law" = true)
    (k_law : PySem.W.keepIn K (.ref f_law) = true)
    (z_divmod : PySem.W.nsIn K mainGlobals "divmod" = some none)
    (z_str : PySem.W.nsIn K mainGlobals "str" = some none)
    (z_all : PySem.W.nsIn K mainGlobals "all" = some none)
    (z_len : PySem.W.nsIn K mainGlobals "len" = some none)
    (z_int : PySem.W.nsIn K mainGlobals "int" = some none)
    (z_abs : PySem.W.nsIn K mainGlobals "abs" = some none)
    (z_min : PySem.W.nsIn K mainGlobals "min" = some none)
    (z_range : PySem.W.nsIn K mainGlobals "range" = some none)
    (z_isinstance : PySem.W.nsIn K mainGlobals "isinstance" = some none)
    (z_bool : PySem.W.nsIn K mainGlobals "bool" = some none)
    (y_PLAIN_FIGURES : PySem.W.nsIn K mainGlobals "PLAIN_FIGURES" = some (some (.str "0123456789" t_PLAIN_FIGURES)))
    (y_POUND_POINT : PySem.W.nsIn K mainGlobals "POUND_POINT" = some (some (.str "." t_POUND_POINT)))
    (y_POUND_PENNIES : PySem.W.nsIn K mainGlobals "POUND_PENNIES" = some (some (.int 100 t_POUND_PENNIES)))
    (y_MOST_POUND_FIGURES : PySem.W.nsIn K mainGlobals "MOST_POUND_FIGURES" = some (some (.int 5 t_MOST_POUND_FIGURES)))
    : ∃ fd : FuncData, (∀ (s : Shared) (v : Value), BindsTo s fd ⟨[v], []⟩ [("_law_script", v)]) ∧ ∀ base : Heap, K.In base → base.Ns mainGlobals mg → FnOk l.prog w K mg base CX0 3 fa fd ["_law_script"] (sp_law K) := by
  have e := hfa.symm.trans (PySem.W.mg_of X G a_law)
  cases e
  have F_sum_text := fun_mk (st := s_sum_text) l_sum_text e_sum_text k_sum_text
  have b_sum_text := F_sum_text.binds (ps := ["amount"]) fun _ _ _ _ _ _ us hl => match us, hl with | [_], _ => rfl
  have F_are_figures := fun_mk (st := s_are_figures) l_are_figures e_are_figures k_are_figures
  have b_are_figures := F_are_figures.binds (ps := ["word", "least", "most"]) fun _ _ _ _ _ _ us hl => match us, hl with | [_, _, _], _ => rfl
  have F_sum_in := fun_mk (st := s_sum_in) l_sum_in e_sum_in k_sum_in
  have b_sum_in := F_sum_in.binds (ps := ["text"]) fun _ _ _ _ _ _ us hl => match us, hl with | [_], _ => rfl
  have F__law_box := fun_mk (st := s__law_box) l__law_box e__law_box k__law_box
  have b__law_box := F__law_box.binds (ps := ["_law_script", "_law_k"]) fun _ _ _ _ _ _ us hl => match us, hl with | [_, _], _ => rfl
  have F__law_take := fun_mk (st := s__law_take) l__law_take e__law_take k__law_take
  have b__law_take := F__law_take.binds (ps := ["_law_box_here", "_law_size"]) fun _ _ _ _ _ _ us hl => match us, hl with | [_, _], _ => rfl
  have F__law_sum := fun_mk (st := s__law_sum) l__law_sum e__law_sum k__law_sum
  have b__law_sum := F__law_sum.binds (ps := ["_law_box_here"]) fun _ _ _ _ _ _ us hl => match us, hl with | [_], _ => rfl
  have F__law_written := fun_mk (st := s__law_written) l__law_written e__law_written k__law_written
  have b__law_written := F__law_written.binds (ps := ["_law_amount"]) fun _ _ _ _ _ _ us hl => match us, hl with | [_], _ => rfl
  have F_law := fun_mk (st := s_law) l_law e_law k_law
  have T : Txt K mg ⟨f_sum_text, PySem.W.fnOf "sum_text" "sum_text" (defArgs s_sum_text) (defBody s_sum_text) (defScope s_sum_text) .none kV_sum_text dc_sum_text pm_sum_text an_sum_text cd_sum_text ct_sum_text, f_are_figures, PySem.W.fnOf "are_figures" "are_figures" (defArgs s_are_figures) (defBody s_are_figures) (defScope s_are_figures) .none kV_are_figures dc_are_figures pm_are_figures an_are_figures cd_are_figures ct_are_figures, f_sum_in, PySem.W.fnOf "sum_in" "sum_in" (defArgs s_sum_in) (defBody s_sum_in) (defScope s_sum_in) .none kV_sum_in dc_sum_in pm_sum_in an_sum_in cd_sum_in ct_sum_in, f__law_box, PySem.W.fnOf "_law_box" "_law_box" (defArgs s__law_box) (defBody s__law_box) (defScope s__law_box) .none kV__law_box dc__law_box pm__law_box an__law_box cd__law_box ct__law_box, f__law_take, PySem.W.fnOf "_law_take" "_law_take" (defArgs s__law_take) (defBody s__law_take) (defScope s__law_take) .none kV__law_take dc__law_take pm__law_take an__law_take cd__law_take ct__law_take, f__law_sum, PySem.W.fnOf "_law_sum" "_law_sum" (defArgs s__law_sum) (defBody s__law_sum) (defScope s__law_sum) .none kV__law_sum dc__law_sum pm__law_sum an__law_sum cd__law_sum ct__law_sum, f__law_written, PySem.W.fnOf "_law_written" "_law_written" (defArgs s__law_written) (defBody s__law_written) (defScope s__law_written) .none kV__law_written dc__law_written pm__law_written an__law_written cd__law_written ct__law_written, fa, PySem.W.fnOf "law" "law" (defArgs s_law) (defBody s_law) (defScope s_law) .none kV_law dc_law pm_law an_law cd_law ct_law⟩ := ⟨PySem.W.mg_none_of X G z_divmod, PySem.W.mg_none_of X G z_str, PySem.W.mg_none_of X G z_all, PySem.W.mg_none_of X G z_len, PySem.W.mg_none_of X G z_int, PySem.W.mg_none_of X G z_abs, PySem.W.mg_none_of X G z_min, PySem.W.mg_none_of X G z_range, PySem.W.mg_none_of X G z_isinstance, PySem.W.mg_none_of X G z_bool, ⟨_, PySem.W.mg_of X G y_PLAIN_FIGURES, ⟨_, rfl⟩⟩, ⟨_, PySem.W.mg_of X G y_POUND_POINT, ⟨_, rfl⟩⟩, ⟨_, PySem.W.mg_of X G y_POUND_PENNIES, ⟨_, rfl⟩⟩, ⟨_, PySem.W.mg_of X G y_MOST_POUND_FIGURES, ⟨_, rfl⟩⟩, F_sum_text, PySem.W.mg_of X G a_sum_text, b_sum_text, F_are_figures, PySem.W.mg_of X G a_are_figures, b_are_figures, F_sum_in, PySem.W.mg_of X G a_sum_in, b_sum_in, F__law_box, PySem.W.mg_of X G a__law_box, b__law_box, F__law_take, PySem.W.mg_of X G a__law_take, b__law_take, F__law_sum, PySem.W.mg_of X G a__law_sum, b__law_sum, F__law_written, PySem.W.mg_of X G a__law_written, b__law_written, F_law⟩
  exact ⟨_, fun s v => .of_eq rfl, fun base _ _ => ok_law T⟩
theorem walk {l : PySem.W.OpenLaw} {q : Program} {loose : List Str} {XP : (Str → Option Value) → Heap → Prop} {YP : World → Heap → Prop} {d : DefRec} {K : Params → PySem.W.Frag} (hn : l.most = some 63) (hdf : d.params.defaults = [])
    (hY : ∀ (w : World) (h : Heap), YP w h → (K w.params).In h)
    (F : ∀ (w : World) (mg : Str → Option Value) (fa : Addr) (h : Heap), (K w.params).In h → h.Ns mainGlobals mg → mg d.name = some (.ref fa) →
      ∃ fd : FuncData, (∀ (s : Shared) (u : Value), BindsTo s fd ⟨[u], []⟩ [("_law_script", u)]) ∧ ∀ base : Heap, (K w.params).In base → base.Ns mainGlobals mg → FnOk l.prog w (K w.params) mg base CX0 3 fa fd ["_law_script"] (sp_law (K w.params))) :
    PySem.W.WalkO q loose XP YP l.row.toRowW d [] (fun f vs => PySem.call f vs) :=
  L2.walk_of (n := 63) (k := 3) (x := "_law_script") (CX := fun _ => CX0) (sp := fun w => sp_law (K w.params)) hn (by decide) hdf ⟨rfl, by decide, by decide⟩ hY F (fun _ _ a ns hl _ hS => ⟨a, ns, rfl, hS, hl, fun _ => rfl⟩) fun _ _ _ _ _ z => z
end K

open PySem PySem.W PyProof.Rows in
set_option maxRecDepth 100000 in
set_option maxHeartbeats 0 in
theorem PySem.Challenge.cw_stallshares_k01_sums_written_and_read_holds : PySem.Challenge.rw_stallshares_k01_sums_written_and_read.Holds := by
  w_on; o_law; k_head; (case hw => w_witness2)
  k_fill
  refine K.walk (l := PySem.Challenge.rw_stallshares_k01_sums_written_and_read) rfl rfl (fun w h Y => PySem.W.kIn_of Y) ?F
  case F =>
    intro w mg fa h KX G hmg
    refine' K.all_mk KX G hmg ?a_sum_text ?l_sum_text ?e_sum_text ?k_sum_text ?a_are_figures ?l_are_figures ?e_are_figures ?k_are_figures ?a_sum_in ?l_sum_in ?e_sum_in ?k_sum_in ?a__law_box ?l__law_box ?e__law_box ?k__law_box ?a__law_take ?l__law_take ?e__law_take ?k__law_take ?a__law_sum ?l__law_sum ?e__law_sum ?k__law_sum ?a__law_written ?l__law_written ?e__law_written ?k__law_written ?a_law ?l_law ?e_law ?k_law ?z_divmod ?z_str ?z_all ?z_len ?z_int ?z_abs ?z_min ?z_range ?z_isinstance ?z_bool ?y_PLAIN_FIGURES ?y_POUND_POINT ?y_POUND_PENNIES ?y_MOST_POUND_FIGURES
    (case a_sum_text => k_is)
    (case l_sum_text => k_is)
    (case e_sum_text => k_is)
    (case k_sum_text => k_is)
    (case a_are_figures => k_is)
    (case l_are_figures => k_is)
    (case e_are_figures => k_is)
    (case k_are_figures => k_is)
    (case a_sum_in => k_is)
    (case l_sum_in => k_is)
    (case e_sum_in => k_is)
    (case k_sum_in => k_is)
    (case a__law_box => k_is)
    (case l__law_box => k_is)
    (case e__law_box => k_is)
    (case k__law_box => k_is)
    (case a__law_take => k_is)
    (case l__law_take => k_is)
    (case e__law_take => k_is)
    (case k__law_take => k_is)
    (case a__law_sum => k_is)
    (case l__law_sum => k_is)
    (case e__law_sum => k_is)
    (case k__law_sum => k_is)
    (case a__law_written => k_is)
    (case l__law_written => k_is)
    (case e__law_written => k_is)
    (case k__law_written => k_is)
    (case a_law => k_is)
    (case l_law => k_is)
    (case e_law => k_is)
    (case k_law => k_is)
    (case z_divmod => k_is)
    (case z_str => k_is)
    (case z_all => k_is)
    (case z_len => k_is)
    (case z_int => k_is)
    (case z_abs => k_is)
    (case z_min => k_is)
    (case z_range => k_is)
    (case z_isinstance => k_is)
    (case z_bool => k_is)
    (case y_PLAIN_FIGURES => k_is)
    (case y_POUND_POINT => k_is)
    (case y_POUND_PENNIES => k_is)
    (case y_MOST_POUND_FIGURES => k_is)

