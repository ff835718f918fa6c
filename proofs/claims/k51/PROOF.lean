import PyProof.Rows.All
import Wide.All
import OpenK.AllK
import Wide.FinOn
import HandS.ForMost
import HandS.IsInst
import HandS.StrMore
import HandS.Walk
import HandS.SortInts
import HandS.Zip
import HandS.Style
import HandS.MakeKw
import HandS.TupAny
import HandS.Exc
import HandS.ExcInit
import HandS.ExcOwn
import HandS.CallSlots
import HandS.ExcIs
import HandS.ExcField
import HandS.WordsExc
import HandS.Lambda
import HandS.EndTab
import HandS.SortKw
import KE.KSortKeySt
import KE.KExcInit
import KE.KTryMore
import KE.KExcIs
import KE.KExcLine
import KE.RegKIsAll
import KE.RegKTryMore
import KE.GoesMore
import KE.GoesEnum
import KE.GoesEnumKw
import KE.GoesZip
import HandS.NoneIn
import HandS.Strs
import HandS.SetFor
import HandS.WideBits
import HandS.Deep
import HandS.TupMul
import HandS.FStr
import HandS.TupLe
import HandS.TryOnly
import HandS.Flow
import HandS.SetKeys
import KE.SortKeyHeap
import HandS.Remove
import HandS.Small
import HandS.SetFor
import KE.KTupSum
import KE.SortData
import PyProof.InstEq
import PyProof.FactsAll.object_2
import HandS.Conv
import PySem.Challenge.RW_stallshares_k51_deeds_told_apart
set_option Elab.async false
set_option linter.all false
set_option maxRecDepth 100000
set_option maxHeartbeats 4000000
/-! the shared layer: heaps but for some mutable places, the box of draws -/
namespace Z
open PySem L2

/-- H without the places of M -/
def hid (M : List Addr) (H : Hp) : Hp := fun a => if a ∈ M then none else H a
/-- what stands outside M is as it was -/
def Fr (M : List Addr) (H H' : Hp) : Prop := ∀ a o, a ∉ M → H a = some o → H' a = some o
theorem Fr.refl (M : List Addr) (H : Hp) : Fr M H H := fun _ _ _ h => h
theorem Fr.trans {M : List Addr} {H H1 H2 : Hp} (a : Fr M H H1) (b : Fr M H1 H2) : Fr M H H2 := fun x o n h => b x o n (a x o n h)
theorem Same.fr {M : List Addr} {H H' : Hp} (s : Same H H') : Fr M H H' := fun a o _ h => s a o h
theorem Fr.same {M : List Addr} {H H' : Hp} (f : Fr M H H') : Same (hid M H) (hid M H') := fun a o h => by
  unfold hid at h ⊢
  split at h
  · cases h
  · next n => rw [if_neg n]; exact f a o n h
theorem Fr.new {M : List Addr} {H : Hp} {p : Addr} {o : HO} (h : H p = none) : Fr M H (upd H p o) := fun a u _ e => by
  rw [upd_ne (ne_of_none e h)]; exact e
theorem Same.new {H : Hp} {p : Addr} {o : HO} (h : H p = none) : Same H (upd H p o) := fun a u e => by
  rw [upd_ne (ne_of_none e h)]; exact e
theorem Fr.put {M : List Addr} {H H' : Hp} {p : Addr} {o : HO} (f : Fr M H H') (h : p ∈ M) : Fr M H (upd H' p o) := fun a u n e => by
  rw [upd_ne (fun q : a = p => n (by rw [q]; exact h))]; exact f a u n e
theorem Fr.mono {M N : List Addr} {H H' : Hp} (f : Fr M H H') (s : ∀ a ∈ M, a ∈ N) : Fr N H H' := fun a o n h => f a o (fun q => n (s a q)) h
theorem Fr.nil {H H' : Hp} (f : Fr [] H H') : Same H H' := fun a o h => f a o (by simp) h
theorem Fr.back {M : List Addr} {H H' : Hp} {p : Addr} (f : Fr M H H') (hp : p ∉ M) (h : H' p = none) : H p = none := by
  cases q : H p with
  | none => rfl
  | some o => rw [f p o hp q] at h; cases h
theorem Fr.out {M : List Addr} {H H1 H2 : Hp} (f : Fr M H1 H2) (s : Same H H1) (hM : ∀ b ∈ M, H b = none) : Same H H2 := fun a o h => f a o (fun q => by rw [hM a q] at h; cases h) (s a o h)
theorem Fr.drop {M : List Addr} {H H' : Hp} {f : Addr} (fr : Fr (M ++ [f]) H H') (h : H f = none) : Fr M H H' := fun a o n e => fr a o (by
  simp only [List.mem_append, List.mem_singleton, not_or]
  exact ⟨n, ne_of_none e h⟩) e
theorem SqL.mono {K : PySem.W.Frag} {H H' : Hp} {a : Addr} {xs : List V} (e : Same H H') (h : SqL K H a xs) : SqL K H' a xs := e.seq h
theorem SqT.mono {K : PySem.W.Frag} {H H' : Hp} {a : Addr} {xs : List V} (e : Same H H') (h : SqT K H a xs) : SqT K H' a xs := by
  rcases h with (h | ⟨o, h⟩) | h
  · exact .inl (.inl (e _ _ h))
  · exact .inl (.inr ⟨o, e _ _ h⟩)
  · exact .inr h
mutual
theorem Dp.mono {K : PySem.W.Frag} {H H' : Hp} (e : Same H H') : ∀ {v : V} {d : PyData}, Dp K H v d → Dp K H' v d
  | _, _, .non => .non
  | _, _, .bl b => .bl b
  | _, _, .int i => .int i
  | _, _, .str x => .str x
  | _, _, .lst h r => .lst (SqL.mono e h) (DpAll.mono e r)
  | _, _, .tup h r => .tup (SqT.mono e h) (DpAll.mono e r)
theorem DpAll.mono {K : PySem.W.Frag} {H H' : Hp} (e : Same H H') : ∀ {v : List V} {d : List PyData}, DpAll K H v d → DpAll K H' v d
  | _, _, .nil => .nil
  | _, _, .cons a b => .cons (Dp.mono e a) (DpAll.mono e b)
end

theorem DpAll.length {K : PySem.W.Frag} {H : Hp} : ∀ {v : List V} {d : List PyData}, DpAll K H v d → v.length = d.length
  | _, _, .nil => rfl
  | _, _, .cons _ b => by rw [List.length_cons, List.length_cons, DpAll.length b]
theorem DpAll.get {K : PySem.W.Frag} {H : Hp} : ∀ {v : List V} {d : List PyData} {i : Nat} {x : V}, DpAll K H v d → v[i]? = some x → ∃ y, d[i]? = some y ∧ Dp K H x y
  | _, _, _, _, .nil, h => by simp at h
  | _, _, 0, _, .cons a _, h => by simp at h; subst h; exact ⟨_, rfl, a⟩
  | _, _, i + 1, _, .cons _ b, h => by
    obtain ⟨y, e, q⟩ := DpAll.get (i := i) b (by simpa using h)
    exact ⟨y, by simpa using e, q⟩
theorem Dp.list_of {K : PySem.W.Frag} {H : Hp} {v : V} {ds : List PyData} (h : Dp K H v (.list ds)) : ∃ a xs, v = .ref a ∧ SqL K H a xs ∧ DpAll K H xs ds := by
  cases h with
  | lst s r => exact ⟨_, _, rfl, s, r⟩
theorem Dp.tuple_of {K : PySem.W.Frag} {H : Hp} {v : V} {ds : List PyData} (h : Dp K H v (.tuple ds)) : ∃ a xs, v = .ref a ∧ SqT K H a xs ∧ DpAll K H xs ds := by
  cases h with
  | tup s r => exact ⟨_, _, rfl, s, r⟩
/-- the built-in class of data -/
def kindD : PyData → String
  | .none => "NoneType"
  | .bool _ => "bool"
  | .int _ => "int"
  | .str _ => "str"
  | .list _ => "list"
  | .tuple _ => "tuple"
  | .dict _ => "dict"
theorem SqL.ty {K : PySem.W.Frag} {H : Hp} {a : Addr} {xs : List V} (h : SqL K H a xs) : TyX K H (.ref a) (.type "list") := by
  rcases h with (h | ⟨o, h⟩) | ⟨o, its, n, e, c, _⟩
  · exact .base (.lst h)
  · exact .base (.frz h)
  · exact .kList e c
theorem SqT.ty {K : PySem.W.Frag} {H : Hp} {a : Addr} {xs : List V} (h : SqT K H a xs) : TyX K H (.ref a) (.type "tuple") := by
  rcases h with (h | ⟨o, h⟩) | ⟨o, its, n, e, c, _⟩
  · exact .base (.tup h)
  · exact .fTuple h
  · exact .kTuple e c
theorem Dp.ty {K : PySem.W.Frag} {H : Hp} {v : V} {d : PyData} (h : Dp K H v d) : TyX K H v (.type (kindD d)) := by
  cases h with
  | non => exact .base .non
  | bl b => exact .base (.bl b)
  | int i => exact .base (.int i)
  | str x => exact .base (.str x)
  | lst s _ => exact SqL.ty s
  | tup s _ => exact SqT.ty s
mutual
/-- how many things data is made of -/
def nodes : PyData → Nat
  | .list xs => nodesAll xs + 1
  | .tuple xs => nodesAll xs + 1
  | _ => 1
def nodesAll : List PyData → Nat
  | [] => 0
  | x :: r => nodes x + nodesAll r
end
theorem nodes_pos (d : PyData) : 1 ≤ nodes d := by cases d <;> simp [nodes]
theorem len_nodes : ∀ ds : List PyData, ds.length ≤ nodesAll ds
  | [] => Nat.le_refl _
  | x :: r => by
    have h1 := nodes_pos x
    have h2 := len_nodes r
    show r.length + 1 ≤ nodes x + nodesAll r
    omega
theorem walk_zipT {K : PySem.W.Frag} {a b : Addr} {xs ys : List V} {n : Nat} (hn : n = min xs.length ys.length) :
    Walk (RZ.ItzT K a b) n (fun H => SqT K H a xs ∧ SqT K H b ys) (YPair (fun i => xs[i]?) (fun i => ys[i]?)) := by
  refine ⟨fun i H hi q => ?_, fun H q => ⟨xs, ys, q.1, q.2, by omega⟩, fun i H v H' hi q y => ?_⟩
  · exact ⟨xs, ys, xs[i]'(by omega), ys[i]'(by omega), q.1, q.2, List.getElem?_eq_getElem (by omega), List.getElem?_eq_getElem (by omega)⟩
  · obtain ⟨t, x, z, e1, e2, e3, e4, e5⟩ := y
    exact ⟨t, x, z, e1, e2, e3, e4 xs q.1, e5 ys q.2⟩
/-- a comprehension that lays g of each, nothing else being changed -/
structure LcP {α : Type} (H1 : Hp) (D : Addr) (xs : List α) (g : α → V) (i : Nat) (H : Hp) : Prop where
  new : H1 D = none
  same : Same H1 H
  at_ : H D = some (.lst ((xs.take i).map g))
theorem LcP.start {α : Type} {H1 : Hp} {D : Addr} {xs : List α} {g : α → V} (h : H1 D = none) : LcP H1 D xs g 0 (upd H1 D (.lst [])) := ⟨h, Same.new h, upd_same⟩
theorem LcP.step {α : Type} {H1 H H4 : Hp} {D : Addr} {xs : List α} {g : α → V} {i : Nat} {x : α} {y : V} (p : LcP H1 D xs g i H) (s : Same H H4) (hx : xs[i]? = some x) (hy : y = g x) (hl : xs.length ≤ sizeLine) :
    ∃ acc, H4 D = some (.lst acc) ∧ acc.length < sizeLine ∧ LcP H1 D xs g (i + 1) (upd H4 D (.lst (acc ++ [y]))) := by
  have hi : i < xs.length := (List.getElem?_eq_some_iff.mp hx).1
  refine ⟨_, s _ _ p.at_, by simp; omega, p.new, fun b o e => ?_, ?_⟩
  · rw [upd_ne (ne_of_none e p.new)]
    exact s _ _ (p.same _ _ e)
  · rw [upd_same, hy, List.take_add_one, hx, List.map_append]
    rfl
theorem LcP.done {α : Type} {H1 H : Hp} {D : Addr} {xs : List α} {g : α → V} (p : LcP H1 D xs g xs.length H) : H D = some (.lst (xs.map g)) := by
  have h := p.at_
  rw [List.take_length] at h
  exact h

/-- a comprehension: what is laid so far is told by A -/
structure LcA (H1 : Hp) (D : Addr) (A : Nat → List V) (i : Nat) (H : Hp) : Prop where
  new : H1 D = none
  same : Same H1 H
  at_ : H D = some (.lst (A i))
theorem LcA.start {H1 : Hp} {D : Addr} {A : Nat → List V} (h : H1 D = none) (h0 : A 0 = []) : LcA H1 D A 0 (upd H1 D (.lst [])) := ⟨h, Same.new h, by rw [upd_same, h0]⟩
theorem LcA.put {H1 H H4 : Hp} {D : Addr} {A : Nat → List V} {i : Nat} {y : V} (p : LcA H1 D A i H) (s : Same H H4) (hA : A (i + 1) = A i ++ [y]) (hl : (A i).length < sizeLine) :
    ∃ acc, H4 D = some (.lst acc) ∧ acc.length < sizeLine ∧ LcA H1 D A (i + 1) (upd H4 D (.lst (acc ++ [y]))) := by
  refine ⟨_, s _ _ p.at_, hl, p.new, fun b o e => ?_, by rw [upd_same, hA]⟩
  rw [upd_ne (ne_of_none e p.new)]
  exact s _ _ (p.same _ _ e)
theorem LcA.skip {H1 H H4 : Hp} {D : Addr} {A : Nat → List V} {i : Nat} (p : LcA H1 D A i H) (s : Same H H4) (hA : A (i + 1) = A i) : LcA H1 D A (i + 1) H4 :=
  ⟨p.new, p.same.trans s, by rw [hA]; exact s _ _ p.at_⟩

/-- tuples and locked things stay -/
def Immut : HO → Prop
  | .tup _ => True
  | .frz _ _ => True
  | .ins _ _ _ => True
  | .own _ => True
  | _ => False
def KeepT (H H' : Hp) : Prop := ∀ t u, Immut u → H t = some u → H' t = some u
theorem KeepT.refl (H : Hp) : KeepT H H := fun _ _ _ h => h
theorem KeepT.trans {H H1 H2 : Hp} (a : KeepT H H1) (b : KeepT H1 H2) : KeepT H H2 := fun t u i h => b t u i (a t u i h)
theorem Same.kt {H H' : Hp} (s : Same H H') : KeepT H H' := fun t u _ h => s t u h
theorem KeepT.new {H : Hp} {p : Addr} {o : HO} (h : H p = none) : KeepT H (upd H p o) := Same.kt (Same.new h)
theorem KeepT.lst {H : Hp} {p : Addr} {xs : List V} {o : HO} (h : H p = some (.lst xs)) : KeepT H (upd H p o) := fun t u i e => by
  have hn : t ≠ p := fun q => by
    rw [q, h] at e
    cases e
    exact i
  rw [upd_ne hn]
  exact e
mutual
def noList : PyData → Bool
  | .list _ => false
  | .dict _ => false
  | .tuple xs => noLists xs
  | _ => true
def noLists : List PyData → Bool
  | [] => true
  | x :: r => noList x && noLists r
end
theorem SqT.keep {K : PySem.W.Frag} {H H' : Hp} {a : Addr} {xs : List V} (e : KeepT H H') (h : SqT K H a xs) : SqT K H' a xs := by
  rcases h with (h | ⟨o, h⟩) | h
  · exact .inl (.inl (e _ _ trivial h))
  · exact .inl (.inr ⟨o, e _ _ trivial h⟩)
  · exact .inr h
mutual
theorem Dp.keep {K : PySem.W.Frag} {H H' : Hp} (e : KeepT H H') : ∀ {v : V} {d : PyData}, Dp K H v d → noList d = true → Dp K H' v d
  | _, _, .non, _ => .non
  | _, _, .bl b, _ => .bl b
  | _, _, .int i, _ => .int i
  | _, _, .str x, _ => .str x
  | _, _, .lst _ _, h => by cases h
  | _, _, .tup s r, h => .tup (SqT.keep e s) (DpAll.keep e r h)
theorem DpAll.keep {K : PySem.W.Frag} {H H' : Hp} (e : KeepT H H') : ∀ {v : List V} {d : List PyData}, DpAll K H v d → noLists d = true → DpAll K H' v d
  | _, _, .nil, _ => .nil
  | _, _, .cons a b, h => by
    have h' := Bool.and_eq_true_iff.mp h
    exact .cons (Dp.keep e a h'.1) (DpAll.keep e b h'.2)
end
theorem DpAll.snoc {K : PySem.W.Frag} {H : Hp} {y : V} {c : PyData} (hy : Dp K H y c) : ∀ {v : List V} {d : List PyData}, DpAll K H v d → DpAll K H (v ++ [y]) (d ++ [c])
  | _, _, .nil => .cons hy .nil
  | _, _, .cons a b => .cons a (DpAll.snoc hy b)
theorem DpAll.take {K : PySem.W.Frag} {H : Hp} : ∀ {v : List V} {d : List PyData} (n : Nat), DpAll K H v d → DpAll K H (v.take n) (d.take n)
  | _, _, 0, _ => .nil
  | _, _, _ + 1, .nil => .nil
  | _, _, n + 1, .cons a b => .cons a (DpAll.take n b)
theorem DpAll.set {K : PySem.W.Frag} {H : Hp} {y : V} {c : PyData} (hy : Dp K H y c) : ∀ {v : List V} {d : List PyData} (n : Nat), DpAll K H v d → DpAll K H (v.set n y) (d.set n c)
  | _, _, _, .nil => .nil
  | _, _, 0, .cons _ b => .cons hy b
  | _, _, n + 1, .cons a b => .cons a (DpAll.set hy n b)

theorem DpAll.ints {K : PySem.W.Frag} {H : Hp} : ∀ ns : List Int, DpAll K H (ns.map V.int) (ns.map .int)
  | [] => .nil
  | n :: r => .cons (.int n) (DpAll.ints r)
/-- the box of draws at B, n draws behind it at most -/
def Box (H : Hp) (B : Addr) (n : Nat) : Prop := ∃ b0 b1 b2 : Int, H B = some (.lst [.int b0, .int b1, .int b2]) ∧ 0 ≤ b0 ∧ 0 ≤ b1 ∧ b1 < 2147483647 ∧ 0 ≤ b2 ∧ b2 ≤ (n : Int)
theorem Box.mono {H : Hp} {B : Addr} {n m : Nat} (b : Box H B n) (h : n ≤ m) : Box H B m := by
  obtain ⟨b0, b1, b2, e, h0, h1, h2, h3, h4⟩ := b
  exact ⟨b0, b1, b2, e, h0, h1, h2, h3, by omega⟩
theorem Box.some {H : Hp} {B : Addr} {n : Nat} (b : Box H B n) : ∃ o, H B = some o := by
  obtain ⟨b0, b1, b2, e, _⟩ := b
  exact ⟨_, e⟩
theorem Box.keep {H H' : Hp} {B : Addr} {n : Nat} (b : Box H B n) (s : Same H H') : Box H' B n := by
  obtain ⟨b0, b1, b2, e, h⟩ := b
  exact ⟨b0, b1, b2, s _ _ e, h⟩
theorem Box.put {H : Hp} {B p : Addr} {n : Nat} {o : HO} (b : Box H B n) (h : p ≠ B) : Box (upd H p o) B n := by
  obtain ⟨b0, b1, b2, e, r⟩ := b
  exact ⟨b0, b1, b2, by rw [upd_ne h.symm]; exact e, r⟩
theorem Box.ne {H : Hp} {B p : Addr} {n : Nat} (b : Box H B n) (h : H p = none) : p ≠ B := by
  obtain ⟨o, e⟩ := b.some
  exact (ne_of_none e h).symm
theorem Fr.kt {H H' : Hp} {B : Addr} {n : Nat} (f : Fr [B] H H') (b : Box H B n) : KeepT H H' := fun t u i e => by
  have hn : t ≠ B := fun q => by
    obtain ⟨b0, b1, b2, hB, _⟩ := b
    rw [q, hB] at e
    cases e
    exact i
  exact f t u (by simp [hn]) e
theorem iteD {p A B : Prop} [Decidable p] (h1 : p → A) (h2 : ¬ p → B) : if decide p = true then A else B := by
  by_cases h : p
  · rw [if_pos (decide_eq_true h)]; exact h1 h
  · rw [if_neg (by rw [decide_eq_false h]; exact Bool.false_ne_true)]; exact h2 h
theorem iteND {p A B : Prop} [Decidable p] (h1 : ¬ p → A) (h2 : p → B) : if (!decide p) = true then A else B := by
  by_cases h : p
  · rw [decide_eq_true h]; exact iteF (h2 h)
  · rw [decide_eq_false h]; exact iteT (h1 h)
theorem iteDS {p A B : Prop} [Decidable p] (h : p) (a : A) : if decide p = true then A else B := by rw [if_pos (decide_eq_true h)]; exact a
theorem iteDN {p A B : Prop} [Decidable p] (h : ¬ p) (b : B) : if decide p = true then A else B := by rw [decide_eq_false h]; exact iteF b
theorem iteNDN {p A B : Prop} [Decidable p] (h : ¬ p) (a : A) : if (!decide p) = true then A else B := by rw [decide_eq_false h]; exact iteT a
theorem ixN_nat {n j : Nat} (h : j < n) : ixN n (j : Int) = some j := by
  unfold ixN
  rw [if_pos (by omega), if_pos (by omega), Int.toNat_natCast]
def rLenK (K : PySem.W.Frag) : List V → Hp → VK → Prop := fun xs H Q => ∃ p ys, xs = [.ref p] ∧ (SqL K H p ys ∨ SqT K H p ys) ∧ Q (.int ys.length) H
theorem atI_last {xs : List V} {x : V} (h : xs[xs.length - 1]? = some x) : atI xs (-1) = some x := by
  have hl : xs.length - 1 < xs.length := (List.getElem?_eq_some_iff.mp h).1
  have e : ixN xs.length (-1) = some (xs.length - 1) := by
    unfold ixN
    rw [if_neg (by decide), if_pos (by omega)]
    congr 1
    omega
  unfold atI
  rw [e]
  exact h
theorem ixN_last {n : Nat} (h : 0 < n) : ixN n (-1) = some (n - 1) := by
  unfold ixN
  rw [if_neg (by decide), if_pos (by omega)]
  congr 1
  omega
def max3 (i j k : Int) : Int := if k > (if j > i then j else i) then k else (if j > i then j else i)
theorem log2_ok {x : Int} (h : x.natAbs < 2 ^ 200) : x.natAbs.log2 < 1920 := by
  by_cases h0 : x.natAbs = 0
  · rw [h0]; decide
  · exact Nat.lt_of_lt_of_le ((Nat.log2_lt h0).mpr h) (by decide)
theorem log2_ok18 {x : Int} (h : x.natAbs < 10 ^ 18) : x.natAbs.log2 < 1920 := log2_ok (Nat.lt_of_lt_of_le h (by decide))
theorem pe_globE {X : Cx} {x : Str} {v : V} {pos : Pos} (hg : Gl X x) (h : ∃ u, X.mg x = some u ∧ RelV v u) (hd : (x == ("__debug__" : Str)) = false := by decide) : PE X (.Name x pos) (tC v) := by
  obtain ⟨u, hm, r⟩ := h
  exact pe_glob hg hm r hd
end Z
/-! defs that run while no repr is under way; repr and str of data -/
namespace Z
open PySem L2 PySem.Spec PyProof.Rows

/-- a promise that is kept wherever no repr is under way -/
structure FnG (P : Program) (w : World) (K : PySem.W.Frag) (mg : Str → Option Value) (base : Heap) (k : Nat) (f : Addr) (fd : FuncData)
    (ps : List Str) (sp : Sp) : Prop where
  size : ∀ vs H Q E, sp vs H Q E → vs.length = ps.length
  goes : ∀ (A : Around) (outer : List Env) (s : Shared) (H : Hp) (args : Args) (us : List Value) (vs : List V) (Q : VK) (E : XK),
    Room k A → A.guards = some [] → Env0 P w K mg base A outer s H → BindsTo s fd args (ps.zip us) → Vals vs us → sp vs H Q E →
    codeAny (model P w) A (.call (.ref f) args) (CR CX0 outer P w H s Q E) s
section
variable {P : Program} {w : World} {K : PySem.W.Frag} {mg : Str → Option Value} {base : Heap} {k : Nat} {f : Addr} {fd : FuncData} {ps : List Str} {sp : Sp}
theorem FnG.of (F : FnOk P w K mg base CX0 k f fd ps sp) : FnG P w K mg base k f fd ps sp :=
  ⟨F.len, fun A outer s H args us vs Q E hr _ => F.run A outer s H args us vs Q E hr⟩
theorem FnG.fit (F : FnG P w K mg base k f fd ps sp) {j : Nat} (h : k ≤ j) : FnG P w K mg base j f fd ps sp :=
  ⟨F.size, fun A outer s H args us vs Q E hr => F.goes A outer s H args us vs Q E (hr.mono h)⟩
/-- its body, in a frame of which it is known that no repr is under way -/
theorem okG {x qual : Str} {st : Stmt} {N : List Str} (F : Fun K x qual st f fd) (S : FnScope N ps (defScope st))
    (len : ∀ vs H Q E, sp vs H Q E → vs.length = ps.length)
    (body : ∀ (cdv : Value) (A : Around) (outer : List Env) (s : Shared) (H : Hp) (vs : List V) (Q : VK) (E : XK),
      Room k (A.deeper (envOfC qual (defScope st) s.heap.objs.size f cdv)) →
      (A.deeper (envOfC qual (defScope st) s.heap.objs.size f cdv)).guards = some [] → sp vs H Q E →
      ∃ t, PSs (cxOf CX0 P w K mg base N qual (defScope st) f cdv A outer s H E).nox (defBody st) t ∧
        t { nx := fun _ H' => Q .non H', rt := Q } (start N vs) H) :
    FnG P w K mg base (k + 1) f fd ps sp := by
  obtain ⟨oc, od, kV, doc, pm, an, cdv, ct, osl, rfl, at_f, code⟩ := F.ex
  refine ⟨len, fun A outer s H args us vs Q E room calm start0 binds rel want => ?_⟩
  have here : K.In s.heap := start0.mod.kin.keeps fun b o e => (start0.bs b o e).1
  have nolim : s.heap.NoLimit := start0.mod.nolimit.keeps fun b o e => (start0.bs b o e).1
  obtain ⟨t, der, rd⟩ := body cdv A outer s H vs Q E (room.deeper _) calm want
  have kinds : ∀ y ∈ ps.zip us, (defScope st).names.lookup y.1 = some .local ∨
      ((defScope st).names.lookup y.1 = some .cell ∧ ((cellsFrom (s.heap.objs.size + 1) (defScope st).names []).lookup y.1).isSome = true) := by
    rintro ⟨n, v⟩ hy
    refine (S.par n (List.of_mem_zip hy).1).imp id fun q => ⟨q, PySem.W.cellsFrom_some _ _ _ (.inl q)⟩
  refine codeAny_call_function room.depth (here _ _ at_f) rfl S.co S.gen rfl (PySem.W.codeRec_of here code) (binds _ _ _ _ ?_)
  refine wpAny_newFunctionEnv_cells S.kind kinds fun env he s1 inside => ?_
  subst he
  refine ⟨nolim.keeps inside.toInCall.keep, codeAny_func ?_⟩
  have I := inv_start (CX := CX0) (E := E) S room.hd start0 (len _ _ _ _ want) rel inside
  refine wpAny_mono (der.nox.run [] s1 (start N vs) H _ I rd) (fun fl s' ends => ?_) fun e s' ends => ends
  cases fl with
  | ret u => obtain ⟨v, σ', H', J, rv, q⟩ := ends; exact ⟨v, H', J.os, J.bare, J.base, J.hok, rv, q⟩
  | next => obtain ⟨σ', H', J, q⟩ := ends; exact ⟨.non, H', J.os, J.bare, J.base, J.hok, rfl, q⟩
  | brk => obtain ⟨_, _, _, q⟩ := ends; exact q.elim
  | cont => obtain ⟨_, _, _, q⟩ := ends; exact q.elim
end
section
variable {X : Cx} {k : Nat} {f : Addr} {fd : FuncData} {ps : List Str} {sp : Sp} {dvs : List V} {ds : List Value} {x : Str} {p pos : Pos} {e : Expr} {es : List Expr} {t : TA}
end

/-! the law's call, its def being such a one -/
theorem law_callG {P : Program} {w : World} {K : PySem.W.Frag} {mg mb : Str → Option Value} {k : Nat} {fa a : Addr} {fd : FuncData} {x : Str} {sp : Sp} {s₁ : Shared} {vs : List Value} {ns : List Int}
    (kin : K.In s₁.heap) (ng : s₁.heap.Ns mainGlobals mg) (nb : s₁.heap.Ns builtinsNs mb) (boot : ∀ x : Str, x ≠ "__name__" → mb x = bootBuiltins x)
    (nolim : s₁.heap.NoLimit) (nogen : s₁.gens = #[]) (at_a : s₁.heap.get? a = some { cls := .type "list", data := .seq vs.toArray })
    (ints_ : IntsAre vs ns) (few : ns.length ≤ sizeLine) (room : Room k callerA)
    (F : ∀ base : Heap, K.In base → base.Ns mainGlobals mg → FnG P w K mg base k fa fd [x] sp) (bind : ∀ (s : Shared) (u : Value), BindsTo s fd ⟨[u], []⟩ [(x, u)])
    (want : ∀ H : Hp, Only H → SqL K H a (ns.map V.int) → sp [.ref a] H (fun v _ => v = .bl true) fun _ _ _ => False) :
    codeAny (model P w) callerA (.call (.ref fa) ⟨[.ref a], []⟩)
      (fun r s' => r = .ok (.ret (.bool true)) ∧ OldK s₁.heap s'.heap ∧ s'.os = s₁.os ∧ AllBare s'.gens) s₁ := by
  have rel := vals_ints ints_
  have one : ∀ H : Hp, Only H → SqL K H a (ns.map V.int) → HOk P w H s₁.heap → (∀ b, H b ≠ none → b = a) → (H a ≠ none → K.lookup a = none) →
      codeAny (model P w) callerA (.call (.ref fa) ⟨[.ref a], []⟩)
        (fun r s' => r = .ok (.ret (.bool true)) ∧ OldK s₁.heap s'.heap ∧ s'.os = s₁.os ∧ AllBare s'.gens) s₁ := fun H only sq hok alone noK => by
    have dictOut : ∀ {b : Addr} {o : Obj} {es : Array DictEntry} {ep : Nat}, s₁.heap.get? b = some o → o.data = .dict es ep → H b = none := by
      intro b o es ep e d
      refine Option.eq_none_iff_forall_ne_some.mpr fun u q => ?_
      have hb := alone b (q ▸ Option.some_ne_none u)
      rw [hb, at_a] at e
      injection e with e
      rw [← e] at d
      exact Data.noConfusion d
    have nsIn : ∀ {b : Addr} {m : Str → Option Value}, s₁.heap.Ns b m → (hidT s₁.heap H).Ns b m := by
      rintro b m ⟨o, es, ep, e, d, r⟩
      exact ⟨o, es, ep, hidT_get e (dictOut e d), d, r⟩
    have kb : K.In (hidT s₁.heap H) := fun b o e => hidT_get (kin b o e) (Option.eq_none_iff_forall_ne_some.mpr fun u q => by
      have hb := alone b (q ▸ Option.some_ne_none u)
      rw [hb] at q e
      rw [noK (q ▸ Option.some_ne_none u)] at e
      cases e)
    have lim' : (hidT s₁.heap H).NoLimit := by
      obtain ⟨mc, h1, h2⟩ := nolim
      exact ⟨mc, nsIn h1, h2⟩
    have start0 : Env0 P w K mg (hidT s₁.heap H) callerA [] s₁ H :=
      ⟨rfl, ⟨kb, nsIn ng, ⟨mb, nsIn nb, boot⟩, lim'⟩, fun b o e => of_hidT e, Nat.le_of_eq (hidT_size _ _), trivial, (fun b hb => (List.not_mem_nil hb).elim), hok, .of_eq nogen⟩
    refine codeAny_mono ((F _ kb (nsIn ng)).goes callerA [] s₁ H ⟨[.ref a], []⟩ [.ref a] [.ref a] _ _ room rfl start0 (bind s₁ (.ref a)) (.cons rfl .nil) (want H only sq)) ?_
    intro res s' out
    match res, out with
    | .ok .next, out => exact (out : False).elim
    | .ok .brk, out => exact (out : False).elim
    | .ok .cont, out => exact (out : False).elim
    | .error _, out => exact (out : False).elim
    | .ok (.ret u), out =>
      obtain ⟨v, H', os, bare, un, hok', rv, q⟩ := out
      cases (show v = .bl true from q)
      cases (show u = Value.bool true from rv)
      refine ⟨rfl, OldK.of_keep fun b o e => ?_, os, bare⟩
      rcases only b with z | ⟨ob, xs, z⟩
      · exact un.keep b o e z (fun q => by cases q) (fun q => by cases q)
      · have e1 := (hok b _ z).1
        have e2 := (hok' b _ (un.frzs b ob _ z)).1
        rw [e] at e1
        injection e1 with e1
        rw [e1]
        exact e2
  by_cases hk : K.lookup a = none
  · refine one (fun b => if b = a then some (.frz { cls := .type "list", data := .seq vs.toArray } (.lst (ns.map V.int))) else none) (fun b => ?_)
      (.inl (.inr ⟨_, if_pos rfl⟩)) (fun b u z => ?_) (fun b z => ?_) fun _ => hk
    · exact if h : b = a then .inr ⟨_, _, if_pos h⟩ else .inl (if_neg h)
    · refine if h : b = a then ?_ else ?_
      · dsimp only at z
        rw [if_pos h] at z
        cases z
        rw [h]
        exact ⟨at_a, by rw [List.length_map]; exact few, vs, _, rel, at_a⟩
      · dsimp only at z
        rw [if_neg h] at z
        cases z
    · exact Decidable.byContradiction fun h => z (if_neg h)
  · obtain ⟨o, ho⟩ := Option.ne_none_iff_exists'.mp hk
    have e := kin a o ho
    rw [at_a] at e
    injection e with e
    refine one (fun _ => none) (fun _ => .inl rfl) (.inr ⟨_, vs.toArray, _, ho, by rw [← e], by rw [← e], by rw [← e], ?_, ?_⟩) (fun b u z => by cases z) (fun b z => (z rfl).elim) fun z => (z rfl).elim
    · rw [List.size_toArray, ints_.length]
      exact few
    · simpa using rel
theorem walk_ofG {l : PySem.W.OpenLaw} {n k : Nat} {q : Program} {loose : List Str} {XP : (Str → Option Value) → Heap → Prop} {YP : World → Heap → Prop} {d : DefRec} {K : Params → PySem.W.Frag}
    {sp : PySem.W.Frag → Sp} {x : Str} (most : l.most = some n) (line : n ≤ sizeLine) (nodef : d.params.defaults = []) (room : Room k callerA)
    (kin : ∀ (w : World) (h : Heap), YP w h → (K w.params).In h)
    (F : ∀ (w : World) (mg : Str → Option Value) (fa : Addr) (h : Heap), (K w.params).In h → h.Ns mainGlobals mg → mg d.name = some (.ref fa) →
      ∃ fd : FuncData, (∀ (s : Shared) (u : Value), BindsTo s fd ⟨[u], []⟩ [(x, u)]) ∧
        ∀ base : Heap, (K w.params).In base → base.Ns mainGlobals mg → FnG l.prog w (K w.params) mg base k fa fd [x] (sp (K w.params)))
    (want : ∀ (K : PySem.W.Frag) (H : Hp) (a : Addr) (ns : List Int), ns.length ≤ n → Only H → SqL K H a (ns.map V.int) → sp K [.ref a] H (fun v _ => v = .bl true) fun _ _ _ => False) :
    PySem.W.WalkO q loose XP YP l.row.toRowW d [] (fun f vs => PySem.call f vs) := by
  refine Att.attach_call most nodef fun w s₀ s₁ mg mb fa o pm cd doc a vs ns G Y ho hd hcd hmg hobj hints hlen hg => ?_
  obtain ⟨fd, hb, hF⟩ := F w mg fa _ (kin w _ Y) G.T.g hmg
  exact law_callG (kin w _ Y) G.T.g G.T.b G.T.builtins G.T.nolimit hg hobj hints (Nat.le_trans hlen line) room hF hb fun H only sq => want _ H a ns hlen only sq
end Z
namespace Z
open PySem L2 PySem.Spec PyProof.Rows
section
variable {X : Cx}
mutual
theorem Dp.plain {K : PySem.W.Frag} {H : Hp} : ∀ {v : V} {d : PyData}, Dp K H v d → d.hasDict = false
  | _, _, .non => rfl
  | _, _, .bl _ => rfl
  | _, _, .int _ => rfl
  | _, _, .str _ => rfl
  | _, _, .lst _ r => DpAll.plain r
  | _, _, .tup _ r => DpAll.plain r
theorem DpAll.plain {K : PySem.W.Frag} {H : Hp} : ∀ {v : List V} {d : List PyData}, DpAll K H v d → PyData.hasDictAll d = false
  | _, _, .nil => rfl
  | _, _, .cons a b => by
    show (PyData.hasDict _ || PyData.hasDictAll _) = false
    rw [Dp.plain a, DpAll.plain b]
    rfl
end
/-- repr(x), x a list or a tuple of data -/
theorem call_reprD (calm : X.A.guards = some []) (hu : X.A.units + 64 < cLine) : CallR X (.builtin "repr") (fun xs H Q => ∃ (a : Addr) (d : PyData), xs = [.ref a] ∧ Dp X.K H (.ref a) d ∧
    d.showable = true ∧ d.depth ≤ 60 ∧ d.shown.length ≤ sizeLine ∧ Q (.str d.shown) H) := by
  intro pins s σ H xs us Q I r h
  obtain ⟨a, d, rfl, hd, sh, dp, sz, q⟩ := h
  obtain ⟨u, rfl, rx⟩ := vals1 r
  obtain ⟨as, rd⟩ := Dp.reads I d _ u hd rx
  cases (show u = Value.ref a from rx)
  exact repr_of_reads' rd sh (PyData.noDict_hsm (Dp.plain hd)) calm (by omega) (fun _ _ e => e) (fun h' u tk hk => ⟨.str d.shown, H, I.kept (t' := tk) hk, ⟨u, rfl⟩, q⟩) sz
end
end Z
/-! carrying facts along heaps -/
namespace Z
open PySem L2
theorem Same.at {H H' : Hp} {p : Addr} {o : HO} (s : Same H H') (h : H p = some o) : H' p = some o := s _ _ h
theorem Fr.at1 {H H' : Hp} {B p : Addr} {o : HO} (f : Fr [B] H H') (n : p ≠ B) (h : H p = some o) : H' p = some o := f p o (by simp [n]) h
end Z
/-! tuples cut and put together, by what is to be read there -/
namespace Z
open PySem L2
end Z
/-! defs with defaults -/
namespace Z
open PySem L2 PySem.Spec PyProof.Rows
section
variable {P : Program} {w : World} {K : PySem.W.Frag} {mg : Str → Option Value} {base : Heap} {x qual : Str} {params : Arguments} {body : List Stmt} {scope : Scope} {dvs : List V} {kws : List (Str × V)} {f : Addr} {fd : FuncData}
theorem okD {N ps : List Str} {k : Nat} {sp : Sp} (F : FunD K x qual params body scope dvs kws f fd) (S : FnScope N ps scope) (len : ∀ vs H Q E, sp vs H Q E → vs.length = ps.length)
    (walk : ∀ (cdv : Value) (A : Around) (outer : List Env) (s : Shared) (H : Hp) (vs : List V) (Q : VK) (E : XK), Room k (A.deeper (envOfC qual scope s.heap.objs.size f cdv)) → sp vs H Q E →
      ∃ t, PSs (cxOf CX0 P w K mg base N qual scope f cdv A outer s H E).nox body t ∧ t { nx := fun _ H' => Q .non H', rt := Q } (start N vs) H) : FnOk P w K mg base CX0 (k + 1) f fd ps sp :=
  FunD.ok F S len fun cdv A outer s H vs Q E hr h => by
    obtain ⟨t, der, rd⟩ := walk cdv A outer s H vs Q E hr h
    exact ⟨t, der.nox, rd⟩
end
end Z
/-! values as data: heaps but for some places, slots, what stands in them -/
namespace DL
open PySem L2 Z
open Classical in
/-- H without the places of A -/
noncomputable def hp (A : Addr → Prop) (H : Hp) : Hp := fun a => if A a then none else H a
theorem hp_of {A : Addr → Prop} {H : Hp} {a : Addr} (h : ¬ A a) : hp A H a = H a := if_neg h
theorem hp_some {A : Addr → Prop} {H : Hp} {a : Addr} {o : HO} (h : hp A H a = some o) : ¬ A a ∧ H a = some o := by
  by_cases q : A a
  · rw [show hp A H a = none from if_pos q] at h; cases h
  · exact ⟨q, by rw [← hp_of (H := H) q]; exact h⟩
theorem hp_mk {A : Addr → Prop} {H : Hp} {a : Addr} {o : HO} (h : ¬ A a) (e : H a = some o) : hp A H a = some o := by rw [hp_of h]; exact e
theorem hp_same {A : Addr → Prop} {H : Hp} : Same (hp A H) H := fun _ _ h => (hp_some h).2
def FrA (A : Addr → Prop) (H H' : Hp) : Prop := ∀ a o, ¬ A a → H a = some o → H' a = some o
theorem FrA.refl (A : Addr → Prop) (H : Hp) : FrA A H H := fun _ _ _ h => h
theorem FrA.trans {A : Addr → Prop} {H H1 H2 : Hp} (f : FrA A H H1) (g : FrA A H1 H2) : FrA A H H2 := fun a o n h => g a o n (f a o n h)
theorem FrA.of {A : Addr → Prop} {H H' : Hp} (s : Same H H') : FrA A H H' := fun a o _ h => s a o h
theorem FrA.up {A B : Addr → Prop} {H H' : Hp} (f : FrA A H H') (h : ∀ a, A a → B a) : FrA B H H' := fun a o n e => f a o (fun q => n (h a q)) e
theorem hp_less {A B : Addr → Prop} {H : Hp} (h : ∀ a, B a → A a) : Same (hp A H) (hp B H) := fun a o e => by
  obtain ⟨n, e⟩ := hp_some e
  exact hp_mk (fun q => n (h a q)) e
theorem hp_fr {A W : Addr → Prop} {H H' : Hp} (f : FrA W H H') (h : ∀ a, W a → A a) : Same (hp A H) (hp A H') := fun a o e => by
  obtain ⟨n, e⟩ := hp_some e
  exact hp_mk n (f a o (fun q => n (h a q)) e)
theorem hp_grow {A : Addr → Prop} {H H' : Hp} (s : Same H H') : Same (hp A H) (hp A H') := hp_fr (W := fun _ => False) (FrA.of s) (fun _ q => q.elim)
/-- a caught exception that is kept: its class, its dict -/
def exk (a C dx : Addr) : HO := .ext fun h => ∃ o vs, h.get? a = some o ∧ o.cls = .ref C ∧ o.dict = some dx ∧ o.data = .fields vs
/-- a thing of the store, by its place -/
def hdl (a : Addr) : PyData := .dict [(.none, .int a)]
/-- a tuple of which it is known that it has no dict (its methods can be asked) -/
def tnD (ds : List PyData) : PyData := .dict [(.bool false, .tuple ds)]
/-- a key as data -/
def keyD : L2.Key → PyData
  | .inl i => .int i
  | .inr x => .str x
/-- a dict as data -/
def dctD (kd : List (L2.Key × PyData)) : PyData := .dict ((.bool true, .none) :: kd.map fun z => (keyD z.1, z.2))
mutual
inductive Dq (K : PySem.W.Frag) (H : Hp) : V → PyData → Prop
  | non : Dq K H .non .none
  | bl (b : Bool) : Dq K H (.bl b) (.bool b)
  | int (i : Int) : Dq K H (.int i) (.int i)
  | str (x : Str) : Dq K H (.str x) (.str x)
  | lst {a : Addr} {xs : List V} {ds : List PyData} : SqL K H a xs → DqAll K H xs ds → Dq K H (.ref a) (.list ds)
  | tup {a : Addr} {xs : List V} {ds : List PyData} : SqT K H a xs → DqAll K H xs ds → Dq K H (.ref a) (.tuple ds)
  | obj {a C dx : Addr} {c : Str} {fv : List (Str × V)} {fs : List (PyData × PyData)} : PySem.W.nsIn K mainGlobals c = some (some (.ref C)) → H a = some (.ins C dx fv) → DqFs K H fv fs → Dq K H (.ref a) (.dict ((.str c, .none) :: fs))
  | exc {a C dx : Addr} {c : Str} {fv : List (Str × V)} {fs : List (PyData × PyData)} : PySem.W.nsIn K mainGlobals c = some (some (.ref C)) → H a = some (exk a C dx) → H dx = some (.xd fv) → DqFs K H fv fs → Dq K H (.ref a) (.dict ((.str c, .bool true) :: fs))
  | fnc {a : Addr} {x : Str} : PySem.W.nsIn K mainGlobals x = some (some (.ref a)) → Dq K H (.ref a) (.dict [(.str x, .int 0)])
  | hdl {a : Addr} : Dq K H (.ref a) (hdl a)
  | tn {a : Addr} {o : PySem.Obj} {xs : List V} {ds : List PyData} : H a = some (.frz o (.tup xs)) → o.dict = none → DqAll K H xs ds → Dq K H (.ref a) (tnD ds)
  | dct {a : Addr} {kv : List (L2.Key × V)} {kd : List (L2.Key × PyData)} : L2.Rd H a (.dK kv) → DqKs K H kv kd → Dq K H (.ref a) (dctD kd)
inductive DqKs (K : PySem.W.Frag) (H : Hp) : List (L2.Key × V) → List (L2.Key × PyData) → Prop
  | nil : DqKs K H [] []
  | cons {k : L2.Key} {v : V} {d : PyData} {kv : List (L2.Key × V)} {kd : List (L2.Key × PyData)} : Dq K H v d → DqKs K H kv kd → DqKs K H ((k, v) :: kv) ((k, d) :: kd)
/-- the fields of an object -/
inductive DqFs (K : PySem.W.Frag) (H : Hp) : List (Str × V) → List (PyData × PyData) → Prop
  | nil : DqFs K H [] []
  | cons {f : Str} {v : V} {d : PyData} {fv : List (Str × V)} {fs : List (PyData × PyData)} : Dq K H v d → DqFs K H fv fs → DqFs K H ((f, v) :: fv) ((.str f, d) :: fs)
inductive DqAll (K : PySem.W.Frag) (H : Hp) : List V → List PyData → Prop
  | nil : DqAll K H [] []
  | cons {v : V} {vs : List V} {d : PyData} {ds : List PyData} : Dq K H v d → DqAll K H vs ds → DqAll K H (v :: vs) (d :: ds)
end
mutual
theorem Dq.mono {K : PySem.W.Frag} {H H' : Hp} (e : Same H H') : ∀ {v : V} {d : PyData}, Dq K H v d → Dq K H' v d
  | _, _, .non => .non
  | _, _, .bl b => .bl b
  | _, _, .int i => .int i
  | _, _, .str x => .str x
  | _, _, .lst h r => .lst (SqL.mono e h) (DqAll.mono e r)
  | _, _, .tup h r => .tup (SqT.mono e h) (DqAll.mono e r)
  | _, _, .obj c h r => .obj c (e _ _ h) (DqFs.mono e r)
  | _, _, .exc c h g r => .exc c (e _ _ h) (e _ _ g) (DqFs.mono e r)
  | _, _, .fnc h => .fnc h
  | _, _, .hdl => .hdl
  | _, _, .tn h n r => .tn (e _ _ h) n (DqAll.mono e r)
  | _, _, .dct h r => .dct (h.imp (e _ _) fun ⟨o, q⟩ => ⟨o, e _ _ q⟩) (DqKs.mono e r)
theorem DqKs.mono {K : PySem.W.Frag} {H H' : Hp} (e : Same H H') : ∀ {kv : List (L2.Key × V)} {kd : List (L2.Key × PyData)}, DqKs K H kv kd → DqKs K H' kv kd
  | _, _, .nil => .nil
  | _, _, .cons a b => .cons (Dq.mono e a) (DqKs.mono e b)
theorem DqFs.mono {K : PySem.W.Frag} {H H' : Hp} (e : Same H H') : ∀ {fv : List (Str × V)} {fs : List (PyData × PyData)}, DqFs K H fv fs → DqFs K H' fv fs
  | _, _, .nil => .nil
  | _, _, .cons a b => .cons (Dq.mono e a) (DqFs.mono e b)
theorem DqAll.mono {K : PySem.W.Frag} {H H' : Hp} (e : Same H H') : ∀ {v : List V} {d : List PyData}, DqAll K H v d → DqAll K H' v d
  | _, _, .nil => .nil
  | _, _, .cons a b => .cons (Dq.mono e a) (DqAll.mono e b)
end
mutual
theorem Dq.dp {K : PySem.W.Frag} {H : Hp} : ∀ {v : V} {d : PyData}, Dq K H v d → d.hasDict = false → Dp K H v d
  | _, _, .non, _ => .non
  | _, _, .bl b, _ => .bl b
  | _, _, .int i, _ => .int i
  | _, _, .str x, _ => .str x
  | _, _, .lst h r, e => .lst h (DqAll.dp r e)
  | _, _, .tup h r, e => .tup h (DqAll.dp r e)
  | _, _, .obj _ _ _, e => by cases e
  | _, _, .exc _ _ _ _, e => by cases e
  | _, _, .fnc _, e => by cases e
  | _, _, .hdl, e => by cases e
  | _, _, .tn _ _ _, e => by cases e
  | _, _, .dct _ _, e => by cases e
theorem DqAll.dp {K : PySem.W.Frag} {H : Hp} : ∀ {v : List V} {d : List PyData}, DqAll K H v d → PyData.hasDictAll d = false → DpAll K H v d
  | _, _, .nil, _ => .nil
  | _, _, .cons a b, e => by
    have e' : (PyData.hasDict _ || PyData.hasDictAll _) = false := e
    rw [Bool.or_eq_false_iff] at e'
    exact .cons (Dq.dp a e'.1) (DqAll.dp b e'.2)
end
theorem plain_of {d : PyData} (h : SeqAt.shaped d = true) : d.hasDict = false := PyData.hasDict_of_canLay d (SeqAt.canLay_of_shaped h)
def fldD (f : Str) : List (PyData × PyData) → Option PyData
  | [] => none
  | (.str g, d) :: r => if f = g then some d else fldD f r
  | _ :: r => fldD f r
theorem DqFs.get {K : PySem.W.Frag} {H : Hp} {f : Str} {d : PyData} : ∀ {fv : List (Str × V)} {fs : List (PyData × PyData)}, DqFs K H fv fs → fldD f fs = some d → ∃ v, fv.lookup f = some v ∧ Dq K H v d
  | _, _, .nil, h => by cases h
  | _, _, .cons (f := g) (v := v) (d := c) a b, h => by
    unfold fldD at h
    rw [List.lookup_cons]
    by_cases e : f = g
    · rw [if_pos e] at h
      cases h
      have : (f == g) = true := by rw [e]; exact beq_self_eq_true g
      rw [this]
      exact ⟨_, rfl, a⟩
    · rw [if_neg e] at h
      have : (f == g) = false := by simpa using e
      rw [this]
      exact DqFs.get b h
section
variable {K : PySem.W.Frag} {H : Hp}
theorem DqAll.length : ∀ {v : List V} {d : List PyData}, DqAll K H v d → v.length = d.length
  | _, _, .nil => rfl
  | _, _, .cons _ b => by rw [List.length_cons, List.length_cons, DqAll.length b]
theorem DqAll.get : ∀ {v : List V} {d : List PyData} {i : Nat} {x : V}, DqAll K H v d → v[i]? = some x → ∃ y, d[i]? = some y ∧ Dq K H x y
  | _, _, _, _, .nil, h => by simp at h
  | _, _, 0, _, .cons a _, h => by simp at h; subst h; exact ⟨_, rfl, a⟩
  | _, _, i + 1, _, .cons _ b, h => by
    obtain ⟨y, e, q⟩ := DqAll.get (i := i) b (by simpa using h)
    exact ⟨y, by simpa using e, q⟩
theorem DqAll.got : ∀ {v : List V} {d : List PyData} {i : Nat} {y : PyData}, DqAll K H v d → d[i]? = some y → ∃ x, v[i]? = some x ∧ Dq K H x y
  | _, _, _, _, .nil, h => by simp at h
  | _, _, 0, _, .cons a _, h => by simp at h; subst h; exact ⟨_, rfl, a⟩
  | _, _, i + 1, _, .cons _ b, h => by
    obtain ⟨y, e, q⟩ := DqAll.got (i := i) b (by simpa using h)
    exact ⟨y, by simpa using e, q⟩
theorem DqAll.append : ∀ {v : List V} {d : List PyData} {w : List V} {e : List PyData}, DqAll K H v d → DqAll K H w e → DqAll K H (v ++ w) (d ++ e)
  | _, _, _, _, .nil, h => h
  | _, _, _, _, .cons a b, h => .cons a (DqAll.append b h)
theorem DqAll.take : ∀ {v : List V} {d : List PyData} (n : Nat), DqAll K H v d → DqAll K H (v.take n) (d.take n)
  | _, _, 0, _ => .nil
  | _, _, _ + 1, .nil => .nil
  | _, _, n + 1, .cons a b => .cons a (DqAll.take n b)
theorem DqAll.drop : ∀ {v : List V} {d : List PyData} (n : Nat), DqAll K H v d → DqAll K H (v.drop n) (d.drop n)
  | _, _, 0, h => h
  | _, _, _ + 1, .nil => .nil
  | _, _, n + 1, .cons _ b => DqAll.drop n b
theorem DqAll.set {y : V} {c : PyData} (hy : Dq K H y c) : ∀ {v : List V} {d : List PyData} (n : Nat), DqAll K H v d → DqAll K H (v.set n y) (d.set n c)
  | _, _, _, .nil => .nil
  | _, _, 0, .cons _ b => .cons hy b
  | _, _, n + 1, .cons a b => .cons a (DqAll.set hy n b)
theorem DqAll.rev : ∀ {v : List V} {d : List PyData}, DqAll K H v d → DqAll K H v.reverse d.reverse
  | _, _, .nil => .nil
  | _, _, .cons a b => by rw [List.reverse_cons, List.reverse_cons]; exact DqAll.append (DqAll.rev b) (.cons a .nil)
theorem DqAll.ints : ∀ ns : List Int, DqAll K H (ns.map V.int) (ns.map .int)
  | [] => .nil
  | n :: r => .cons (.int n) (DqAll.ints r)
theorem DqAll.strs : ∀ ns : List Str, DqAll K H (ns.map V.str) (ns.map .str)
  | [] => .nil
  | n :: r => .cons (.str n) (DqAll.strs r)
theorem DqAll.ints_of : ∀ {ns : List Int} {v : List V}, DqAll K H v (ns.map .int) → v = ns.map V.int
  | [], _, .nil => rfl
  | n :: r, _, .cons a b => by cases a; rw [DqAll.ints_of b]; rfl
theorem DqAll.strs_of : ∀ {ns : List Str} {v : List V}, DqAll K H v (ns.map .str) → v = ns.map V.str
  | [], _, .nil => rfl
  | n :: r, _, .cons a b => by cases a; rw [DqAll.strs_of b]; rfl
theorem DqAll.bools_of : ∀ {ns : List Bool} {v : List V}, DqAll K H v (ns.map .bool) → v = ns.map V.bl
  | [], _, .nil => rfl
  | n :: r, _, .cons a b => by cases a; rw [DqAll.bools_of b]; rfl
theorem Dq.list_of {v : V} {ds : List PyData} (h : Dq K H v (.list ds)) : ∃ a xs, v = .ref a ∧ SqL K H a xs ∧ DqAll K H xs ds := by
  cases h with
  | lst s r => exact ⟨_, _, rfl, s, r⟩
theorem Dq.tuple_of {v : V} {ds : List PyData} (h : Dq K H v (.tuple ds)) : ∃ a xs, v = .ref a ∧ SqT K H a xs ∧ DqAll K H xs ds := by
  cases h with
  | tup s r => exact ⟨_, _, rfl, s, r⟩
end

/-- a thing that may change, by what stands in it -/
inductive SO where
  | lst (ds : List PyData)
  | obj (c : Str) (fs : List (PyData × PyData))
  | dct (kvs : List (L2.Key × PyData))
  | dctL (od : PySem.Obj) (kv : List (L2.Key × V)) (kvs : List (L2.Key × PyData))
/-- the things that may change and be met by several names, by their places -/
abbrev Sto := Addr → Option SO
/-- the tracked heap and the store -/
structure Hs where
  hp : Hp
  st : Sto
instance : CoeFun Hs (fun _ => Addr → Option HO) := ⟨Hs.hp⟩
instance : Coe Hs Hp := ⟨Hs.hp⟩
theorem DqKs.ind {K : PySem.W.Frag} {H : Hp} {M : List (L2.Key × V) → List (L2.Key × PyData) → Prop} (h0 : M [] []) (h1 : ∀ (k : L2.Key) (v : V) (d : PyData) (kv : List (L2.Key × V)) (kd : List (L2.Key × PyData)), Dq K H v d → DqKs K H kv kd → M kv kd → M ((k, v) :: kv) ((k, d) :: kd)) : ∀ {kv : List (L2.Key × V)} {kd : List (L2.Key × PyData)}, DqKs K H kv kd → M kv kd
  | _, _, .nil => h0
  | _, _, .cons a r => h1 _ _ _ _ _ a r (DqKs.ind h0 h1 r)
inductive SoR (K : PySem.W.Frag) (G : Hp) : HO → SO → Prop
  | lst {xs : List V} {ds : List PyData} : DqAll K G xs ds → SoR K G (.lst xs) (.lst ds)
  | obj {C dx : Addr} {c : Str} {fv : List (Str × V)} {fs : List (PyData × PyData)} : PySem.W.nsIn K mainGlobals c = some (some (.ref C)) → DqFs K G fv fs → SoR K G (.ins C dx fv) (.obj c fs)
  | dct {kv : List (L2.Key × V)} {kd : List (L2.Key × PyData)} : DqKs K G kv kd → SoR K G (.dK kv) (.dct kd)
  | dctL {od : PySem.Obj} {kv : List (L2.Key × V)} {kd : List (L2.Key × PyData)} : DqKs K G kv kd → SoR K G (.frz od (.dK kv)) (.dctL od kv kd)
theorem SoR.mono {K : PySem.W.Frag} {G G' : Hp} (e : Same G G') {u : HO} {o : SO} (h : SoR K G u o) : SoR K G' u o := by
  cases h with
  | lst q => exact .lst (q.mono e)
  | obj c q => exact .obj c (q.mono e)
  | dct q => exact .dct (q.mono e)
  | dctL q => exact .dctL (q.mono e)
theorem SoR.ntb {K : PySem.W.Frag} {G : Hp} {u : HO} {o : SO} (h : SoR K G u o) : ∀ ps, u ≠ .tbl ps := fun ps e => by subst e; cases h
/-- the store is as said -/
def StoR (K : PySem.W.Frag) (G H : Hp) (S : Sto) : Prop := ∀ a o, S a = some o → ∃ u, H a = some u ∧ SoR K G u o
theorem StoR.move {K : PySem.W.Frag} {G G' H H' : Hp} {S : Sto} (h : StoR K G H S) (s : Same G G') (k : ∀ a, S a ≠ none → H' a = H a) : StoR K G' H' S := fun a o e => by
  obtain ⟨u, e1, q⟩ := h a o e
  exact ⟨u, by rw [k a (by rw [e]; exact Option.some_ne_none _)]; exact e1, q.mono s⟩
def Nod (H : Hp) (b : Addr) : Prop := ∃ o, H b = some o ∧ ∀ ps, o ≠ .tbl ps

/-- a slot: nothing that is known, data that stays, a list that is its own; behind all slots the store -/
inductive Sl where
  | no
  | fz (d : PyData)
  | own (ds : List PyData)
  | st (S : Sto)
abbrev En := List Sl
/-- the tables of code objects that may grow -/
class Tbs where
  T : List (Addr × Str)
variable [Tbs]
abbrev TabsOk (H : Hp) : Prop := LamX.Tabs Tbs.T H
theorem TabsOk.put {H : Hp} {a : Addr} {xs ys : List V} (t : TabsOk H) (h : H a = some (.lst xs)) : TabsOk (upd H a (.lst ys)) := fun p hp => by
  obtain ⟨ps, h1, h2, h3⟩ := t p hp
  have ne : ∀ b o, H b = some o → o ≠ .lst xs → b ≠ a := fun b o e n z => n (Option.some.inj (e.symm.trans (by rw [z]; exact h)))
  refine ⟨ps, by rw [upd_ne (ne _ _ h1 (fun z => by cases z))]; exact h1, h2, fun pos cv hc => ?_⟩
  obtain ⟨c, e1, e2⟩ := h3 pos cv hc
  exact ⟨c, e1, by rw [upd_ne (ne _ _ e2 (fun z => by unfold LamX.CodeO at z; cases z))]; exact e2⟩
theorem TabsOk.full {H : Hp} (t : TabsOk H) {p : Addr × Str} (hp : p ∈ Tbs.T) : H p.1 ≠ none := by
  obtain ⟨ps, h1, _⟩ := t p hp
  rw [h1]
  exact Option.some_ne_none _
theorem TabsOk.no {H : Hp} {a : Addr} {xs : List V} (t : TabsOk H) (h : H a = some (.lst xs)) : ¬ ∃ p ∈ Tbs.T, p.1 = a := fun ⟨p, hp, e⟩ => by
  obtain ⟨ps, h1, _⟩ := t p hp
  rw [e, h] at h1
  cases h1
/-- the tables are none of what is a list, an object, a dict -/
theorem TabsOk.nod {H : Hp} {a : Addr} (t : TabsOk H) (h : Nod H a) : ¬ ∃ p ∈ Tbs.T, p.1 = a := fun ⟨p, hp, e⟩ => by
  obtain ⟨ps, h1, _⟩ := t p hp
  obtain ⟨o, h2, n⟩ := h
  rw [e, h2] at h1
  exact n ps (Option.some.inj h1)
/-- what a slot owns: a place, all of the store -/
inductive Rg where
  | lf (a : Addr)
  | sto
abbrev As := Nat → Option Rg
/-- the places of a slot -/
def Rgn (H : Hs) : Rg → Addr → Prop
  | .lf a, b => b = a
  | .sto, b => H.st b ≠ none
theorem Rgn.lf_of {H : Hs} {a b : Addr} (h : Rgn H (.lf a) b) : b = a := h
theorem Rgn.here {H : Hs} {a : Addr} : Rgn H (.lf a) a := rfl
def Own (as : As) (H : Hs) (a : Addr) : Prop := (∃ i r, as i = some r ∧ Rgn H r a) ∨ ∃ p ∈ Tbs.T, p.1 = a
def Hid (O : Addr → Prop) (as : As) (H : Hs) (a : Addr) : Prop := O a ∨ Own as H a
/-- what data may lean on -/
noncomputable abbrev hq (O : Addr → Prop) (as : As) (H : Hs) : Hp := hp (Hid O as H) H.hp
theorem Own.lf {as : As} {H : Hs} {i : Nat} {a : Addr} (h : as i = some (.lf a)) : Own as H a := .inl ⟨i, _, h, rfl⟩
/-- the store isn't this one's -/
def NoSto (as : As) : Prop := ∀ i, as i ≠ some .sto
/-- but for what is owned and what is new all stays; what is owned was so or is new -/
structure Fr (as : As) (H H' : Hs) : Prop where
  fr : FrA (Own as H) H.hp H'.hp
  new : ∀ a, Own as H' a → Own as H a ∨ H a = none
  liv : ∀ a, H a ≠ none → H' a ≠ none
  nst : NoSto as → H'.st = H.st
section
variable {as as' as'' : As} {H H' H'' : Hs} {n : Nat} {O : Addr → Prop}
theorem Fr.refl : Fr as H H := ⟨FrA.refl _ _, fun _ h => .inl h, fun _ h => h, fun _ => rfl⟩
theorem Fr.trans (x : Fr as H H') (y : Fr as H' H'') : Fr as H H'' := by
  refine ⟨fun a o h e => y.fr a o (fun q => ?_) (x.fr a o h e), fun a q => ?_, fun a h => y.liv a (x.liv a h), fun h => (y.nst h).trans (x.nst h)⟩
  · rcases x.new a q with z | z
    · exact h z
    · rw [z] at e; cases e
  · rcases y.new a q with z | z
    · exact x.new a z
    · by_cases w : Own as H a
      · exact .inl w
      · cases e : H a with
        | none => exact .inr rfl
        | some o => rw [x.fr a o w e] at z; cases z
/-- how one state comes of another: but for own things and new objects all stays -/
structure Ext (n : Nat) (as as' : As) (H H' : Hs) : Prop where
  fr : FrA (Own as H) H.hp H'.hp
  new : ∀ a, Own as' H' a → Own as H a ∨ H a = none
  fix : ∀ i, i < n → as' i = as i
  liv : ∀ a, H a ≠ none → H' a ≠ none
  ks : ∀ i, as' i = some .sto ↔ as i = some .sto
  nst : NoSto as → H'.st = H.st
theorem Ext.refl : Ext n as as H H := ⟨FrA.refl _ _, fun _ h => .inl h, fun _ _ => rfl, fun _ h => h, fun _ => Iff.rfl, fun _ => rfl⟩
theorem Ext.of (f : Fr as H H') : Ext n as as H H' := ⟨f.fr, f.new, fun _ _ => rfl, f.liv, fun _ => Iff.rfl, f.nst⟩
theorem Ext.trans (x : Ext n as as' H H') (y : Ext n as' as'' H' H'') : Ext n as as'' H H'' := by
  refine ⟨fun a o h e => y.fr a o (fun q => ?_) (x.fr a o h e), fun a q => ?_, fun i h => (y.fix i h).trans (x.fix i h), fun a h => y.liv a (x.liv a h), fun i => (y.ks i).trans (x.ks i), fun h => (y.nst fun i z => h i ((x.ks i).mp z)).trans (x.nst h)⟩
  · rcases x.new a q with z | z
    · exact h z
    · rw [z] at e; cases e
  · rcases y.new a q with z | z
    · exact x.new a z
    · by_cases w : Own as H a
      · exact .inl w
      · cases e : H a with
        | none => exact .inr rfl
        | some o => rw [x.fr a o w e] at z; cases z
theorem Ext.same (x : Ext n as as' H H') : Same (hq O as H) (hq O as' H') := fun a o e => by
  obtain ⟨h, e⟩ := hp_some e
  refine hp_mk (fun q => ?_) (x.fr a o (fun z => h (.inr z)) e)
  rcases q with q | q
  · exact h (.inl q)
  · rcases x.new a q with z | z
    · exact h (.inr z)
    · rw [z] at e; cases e
theorem Fr.same (x : Fr as H H') : Same (hq O as H) (hq O as H') := (Ext.of (n := 0) x).same
end
/-- what is so from some state on -/
structure Jv (n : Nat) where
  P : As → Hs → Prop
  cl : ∀ as as' H H', P as H → Ext n as as' H H' → P as' H'
  Q : (Addr → Prop) → Prop
  up : ∀ O O' : Addr → Prop, (∀ a, O a → O' a) → Q O → Q O'
def J0 {n : Nat} : Jv n := ⟨fun _ _ => True, fun _ _ _ _ _ _ => trivial, fun _ => True, fun _ _ _ _ => trivial⟩
/-- all that comes of this state -/
def Jst (n : Nat) (O : Addr → Prop) (as : As) (H : Hs) : Jv n := ⟨fun as' H' => Ext n as as' H H', fun _ _ _ _ x y => x.trans y, fun O' => ∀ a, O a → O' a, fun _ _ h q a z => h a (q a z)⟩
def Jv.and {n : Nat} (J J' : Jv n) : Jv n := ⟨fun as H => J.P as H ∧ J'.P as H, fun _ _ _ _ x y => ⟨J.cl _ _ _ _ x.1 y, J'.cl _ _ _ _ x.2 y⟩, fun O => J.Q O ∧ J'.Q O, fun _ _ h q => ⟨J.up _ _ h q.1, J'.up _ _ h q.2⟩⟩
def Jv.le {n : Nat} (J' J : Jv n) : Prop := (∀ as H, J'.P as H → J.P as H) ∧ ∀ O, J'.Q O → J.Q O
theorem Jv.le.refl {n : Nat} {J : Jv n} : J.le J := ⟨fun _ _ h => h, fun _ h => h⟩
theorem Jv.fr {n : Nat} (J : Jv n) {as : As} {H H' : Hs} (h : J.P as H) (f : Fr as H H') : J.P as H' := J.cl _ _ _ _ h (.of f)
inductive SlR (K : PySem.W.Frag) (G H : Hp) : Option Rg → Sl → Option V → Prop
  | no {o : Option V} : SlR K G H none .no o
  | fz {v : V} {d : PyData} : Dq K G v d → SlR K G H none (.fz d) (some v)
  | own {a : Addr} {xs : List V} {ds : List PyData} : H a = some (.lst xs) → DqAll K G xs ds → SlR K G H (some (.lf a)) (.own ds) (some (.ref a))
structure EnR (K : PySem.W.Frag) {n : Nat} (J : Jv n) (O : Addr → Prop) (as : As) (H : Hs) (ρ : En) (σ : L2.St) : Prop where
  len : σ.length ≤ ρ.length ∧ ρ.length ≤ σ.length + 1
  tl : ∀ (i : Nat) (sl : Sl), ρ[i]? = some sl → σ.length ≤ i → as i = some .sto
  at_ : ∀ (i : Nat) (sl : Sl) (o : Option V), ρ[i]? = some sl → σ[i]? = some o → SlR K (hq O as H) H.hp (as i) sl o
  sto : ∀ i, as i = some .sto → i = σ.length ∧ ρ[i]? = some (.st H.st) ∧ StoR K (hq O as H) H.hp H.st
  inj : ∀ (i j : Nat) (r r' : Rg) (b : Addr), as i = some r → as j = some r' → Rgn H r b → Rgn H r' b → i = j
  out : ∀ (i : Nat) (r : Rg) (b : Addr), as i = some r → Rgn H r b → ¬ O b
  bnd : ∀ (i : Nat) (r : Rg), as i = some r → i < ρ.length
  occ : ∀ a, O a → H a ≠ none
  inv : J.P as H
  inq : J.Q O
  tab : TabsOk H.hp
/-- another heap, the same store -/
abbrev Hs.w (H : Hs) (H' : Hp) : Hs := ⟨H', H.st⟩
section
variable {K : PySem.W.Frag} {n : Nat} {J : Jv n} {O : Addr → Prop} {as as' as'' : As} {H H' H'' : Hs} {G' : Hp} {ρ : En} {σ : L2.St} {i : Nat} {v : V} {d : PyData} {ds : List PyData}
theorem EnR.reJ {n' : Nat} {J' : Jv n'} (E : EnR K J O as H ρ σ) (h : J'.P as H) (q : J'.Q O) : EnR K J' O as H ρ σ := ⟨E.len, E.tl, E.at_, E.sto, E.inj, E.out, E.bnd, E.occ, h, q, E.tab⟩
/-- a slot that is none of the store -/
theorem EnR.lt (E : EnR K J O as H ρ σ) {sl : Sl} (h : ρ[i]? = some sl) (ns : ∀ S, sl ≠ .st S) : i < σ.length := by
  rcases Nat.lt_or_ge i σ.length with z | z
  · exact z
  · have e := (E.sto i (E.tl i sl h z)).2.1
    rw [h] at e
    exact absurd (Option.some.inj e) (ns _)
theorem EnR.at' (E : EnR K J O as H ρ σ) {sl : Sl} (h : ρ[i]? = some sl) (ns : ∀ S, sl ≠ .st S) : ∃ o, σ[i]? = some o ∧ SlR K (hq O as H) H.hp (as i) sl o := by
  have hi := E.lt h ns
  exact ⟨_, List.getElem?_eq_getElem hi, E.at_ i sl _ h (List.getElem?_eq_getElem hi)⟩
theorem EnR.fz_at (E : EnR K J O as H ρ σ) (h : ρ[i]? = some (.fz d)) : ∃ v, σ[i]? = some (some v) ∧ as i = none ∧ Dq K (hq O as H) v d := by
  obtain ⟨o, e, r⟩ := E.at' h (fun _ z => by cases z)
  generalize as i = z at r
  cases r with
  | fz q => exact ⟨_, e, rfl, q⟩
theorem EnR.own_at (E : EnR K J O as H ρ σ) (h : ρ[i]? = some (.own ds)) : ∃ a xs, σ[i]? = some (some (.ref a)) ∧ as i = some (.lf a) ∧ H a = some (.lst xs) ∧ DqAll K (hq O as H) xs ds := by
  obtain ⟨o, e, r⟩ := E.at' h (fun _ z => by cases z)
  generalize as i = z at r
  cases r with
  | own q z => exact ⟨_, _, e, rfl, q, z⟩
theorem EnR.st_at (E : EnR K J O as H ρ σ) {S : Sto} (h : ρ[i]? = some (.st S)) : as i = some .sto ∧ S = H.st ∧ StoR K (hq O as H) H.hp S := by
  have z : σ.length ≤ i := by
    rcases Nat.lt_or_ge i σ.length with z | z
    · have q := E.at_ i _ _ h (List.getElem?_eq_getElem z)
      generalize as i = w at q
      cases q
    · exact z
  have e := E.tl i _ h z
  obtain ⟨_, e2, q⟩ := E.sto i e
  rw [h] at e2
  cases e2
  exact ⟨e, rfl, q⟩
/-- a slot with places of its own -/
theorem EnR.is_reg (E : EnR K J O as H ρ σ) {r : Rg} (h : as i = some r) : (∃ a ds xs, r = .lf a ∧ ρ[i]? = some (.own ds) ∧ σ[i]? = some (some (.ref a)) ∧ H a = some (.lst xs) ∧ DqAll K (hq O as H) xs ds) ∨ (r = .sto ∧ i = σ.length ∧ ρ[i]? = some (.st H.st) ∧ StoR K (hq O as H) H.hp H.st) := by
  cases r with
  | sto => exact .inr ⟨rfl, E.sto i h⟩
  | lf a =>
    have hi := E.bnd i _ h
    rcases Nat.lt_or_ge i σ.length with z | z
    · have q := E.at_ i _ _ (List.getElem?_eq_getElem hi) (List.getElem?_eq_getElem z)
      rw [h] at q
      rw [List.getElem?_eq_getElem hi, List.getElem?_eq_getElem z]
      generalize ρ[i] = sl at q
      generalize σ[i] = o at q
      cases q with
      | own q z => exact .inl ⟨a, _, _, rfl, rfl, rfl, q, z⟩
    · have e := E.tl i _ (List.getElem?_eq_getElem hi) z
      rw [h] at e
      cases e
theorem EnR.nod (E : EnR K J O as H ρ σ) {r : Rg} (h : as i = some r) {b : Addr} (q : Rgn H r b) : Nod H.hp b := by
  rcases E.is_reg h with ⟨a, ds, xs, rfl, _, _, e2, _⟩ | ⟨rfl, _, _, w⟩
  · rw [q.lf_of]
    exact ⟨_, e2, fun _ z => by cases z⟩
  · obtain ⟨o, e⟩ := Option.ne_none_iff_exists'.mp (show H.st b ≠ none from q)
    obtain ⟨u, e1, q1⟩ := w b o e
    exact ⟨u, e1, q1.ntb⟩
theorem EnR.is_own (E : EnR K J O as H ρ σ) {a : Addr} (h : as i = some (.lf a)) : ∃ ds xs, ρ[i]? = some (.own ds) ∧ σ[i]? = some (some (.ref a)) ∧ H a = some (.lst xs) ∧ DqAll K (hq O as H) xs ds := by
  rcases E.is_reg h with ⟨b, ds, xs, e, h1, h2, h3, h4⟩ | ⟨e, _⟩
  · cases e; exact ⟨ds, xs, h1, h2, h3, h4⟩
  · cases e
theorem EnR.not_own (E : EnR K J O as H ρ σ) {sl : Sl} (h : ρ[i]? = some sl) (n : ∀ ds, sl ≠ .own ds) (n2 : ∀ S, sl ≠ .st S) : as i = none := by
  cases e : as i with
  | none => rfl
  | some r =>
    rcases E.is_reg e with ⟨_, ds, xs, _, h', _⟩ | ⟨_, _, h', _⟩
    · rw [h] at h'
      exact absurd (Option.some.inj h') (n ds)
    · rw [h] at h'
      exact absurd (Option.some.inj h') (n2 _)
theorem EnR.full (E : EnR K J O as H ρ σ) {a : Addr} (h : Hid O as H a) : H a ≠ none := by
  rcases h with h | ⟨i, r, h, q⟩ | ⟨p, hp, h⟩
  · exact E.occ a h
  · obtain ⟨o, e, _⟩ := E.nod h q
    rw [e]
    exact Option.some_ne_none _
  · rw [← h]
    exact E.tab.full hp
theorem EnR.occ' (E : EnR K J O as H ρ σ) (f : FrA (Own as H) H.hp G') (t : TabsOk G') {a : Addr} (h : O a) : G' a ≠ none := by
  by_cases q : ∃ p ∈ Tbs.T, p.1 = a
  · obtain ⟨p, hp, e⟩ := q
    rw [← e]
    exact t.full hp
  · obtain ⟨o, e⟩ := Option.ne_none_iff_exists'.mp (E.occ a h)
    rw [f a o (fun z => z.elim (fun ⟨i, r, z, w⟩ => E.out i r a z w h) q) e]
    exact Option.some_ne_none _
theorem EnR.fresh (E : EnR K J O as H ρ σ) {a : Addr} (h : H a = none) : ¬ Hid O as H a := fun q => E.full q h
theorem SlR.mono {G G' H H' : Hp} {a : Option Rg} {sl : Sl} {o : Option V} (s : Same G G') (f : ∀ b, a = some (.lf b) → H' b = H b) (r : SlR K G H a sl o) : SlR K G' H' a sl o := by
  cases r with
  | no => exact .no
  | fz q => exact .fz (q.mono s)
  | own q z => exact .own (by rw [f _ rfl]; exact q) (z.mono s)
/-- what the slots own stands as it did -/
structure Stay (as : As) (H H' : Hs) : Prop where
  pl : ∀ i r b, as i = some r → Rgn H r b → H' b = H b
  st : H'.st = H.st
theorem Rgn.st (h : H'.st = H.st) {r : Rg} {b : Addr} : Rgn H' r b ↔ Rgn H r b := by
  cases r with
  | lf a => exact Iff.rfl
  | sto => show H'.st b ≠ none ↔ H.st b ≠ none; rw [h]
theorem Stay.reg (k : Stay as H H') {r : Rg} {b : Addr} : Rgn H' r b ↔ Rgn H r b := Rgn.st k.st
theorem Own.st (h : H'.st = H.st) {b : Addr} : Own as H' b ↔ Own as H b := by
  constructor
  · rintro (⟨i, r, z, q⟩ | z)
    · exact .inl ⟨i, r, z, (Rgn.st h).mp q⟩
    · exact .inr z
  · rintro (⟨i, r, z, q⟩ | z)
    · exact .inl ⟨i, r, z, (Rgn.st h).mpr q⟩
    · exact .inr z
theorem Stay.own (k : Stay as H H') {b : Addr} : Own as H' b ↔ Own as H b := Own.st k.st
theorem EnR.stay (E : EnR K J O as H ρ σ) (s : Same H.hp G') : Stay as H (H.w G') := ⟨fun i r b h q => by
  obtain ⟨o, e, _⟩ := E.nod h q
  show G' b = _
  rw [e, s _ _ e], rfl⟩
theorem EnR.frS (E : EnR K J O as H ρ σ) (s : Same H.hp G') : Fr as H (H.w G') := ⟨FrA.of s, fun a h => .inl h, fun a h => by obtain ⟨o, e⟩ := Option.ne_none_iff_exists'.mp h; show G' a ≠ none; rw [s _ _ e]; exact Option.some_ne_none _, fun _ => rfl⟩
theorem EnR.hgrow (E : EnR K J O as H ρ σ) (s : Same H.hp G') : Same (hq O as H) (hq O as (H.w G')) := (E.frS s).same
/-- hidden places are the same -/
theorem EnR.hidS (_E : EnR K J O as H ρ σ) (_s : Same H.hp G') {a : Addr} : Hid O as (H.w G') a ↔ Hid O as H a := Iff.rfl
theorem EnR.toS (E : EnR K J O as H ρ σ) (s : Same H.hp G') : Same (hp (Hid O as H) G') (hq O as (H.w G')) := hp_less fun _ h => (E.hidS s).mp h
/-- a state of which the owned things stand as they did -/
theorem EnR.keepS (E : EnR K J O as H ρ σ) (k : Stay as H H') (f : Fr as H H') (t : TabsOk H'.hp) : EnR K J O as H' ρ σ :=
  ⟨E.len, E.tl, fun i sl o h1 h2 => (E.at_ i sl o h1 h2).mono f.same fun b hb => k.pl i _ b hb rfl, fun i h => by
    obtain ⟨e1, e2, e3⟩ := E.sto i h
    refine ⟨e1, by rw [e2, k.st], ?_⟩
    rw [k.st]
    exact e3.move f.same fun a z => k.pl i _ a h z,
   fun i j r r' b h1 h2 q1 q2 => E.inj i j r r' b h1 h2 (k.reg.mp q1) (k.reg.mp q2), fun i r b h q => E.out i r b h (k.reg.mp q), E.bnd, fun a h => E.occ' f.fr t h, J.fr E.inv f, E.inq, t⟩
/-- more objects -/
theorem EnR.grow (E : EnR K J O as H ρ σ) (s : Same H.hp G') : EnR K J O as (H.w G') ρ σ := E.keepS (E.stay s) (E.frS s) (E.tab.ext s)
/-- the slot is there and nothing of its own -/
def slotF (ρ : En) (i : Nat) : Bool := match ρ[i]? with
  | some (.own _) => false
  | some (.st _) => false
  | some _ => true
  | none => false
theorem slotF_of (h : slotF ρ i = true) : ∃ sl, ρ[i]? = some sl ∧ (∀ ds, sl ≠ .own ds) ∧ ∀ t, sl ≠ .st t := by
  unfold slotF at h
  split at h
  · cases h
  · cases h
  · next sl e1 e2 hn => exact ⟨sl, hn, fun ds q => e1 ds (by rw [q]), fun t q => e2 t (by rw [q])⟩
  · cases h
theorem EnR.none_of (E : EnR K J O as H ρ σ) (h : slotF ρ i = true) : as i = none := by
  obtain ⟨sl, e, n, n2⟩ := slotF_of h
  exact E.not_own e n n2
/-- one slot stored -/
theorem EnR.setAt (E : EnR K J O as H ρ σ) (h : slotF ρ i = true) {sl : Sl} {o : Option V} (q : SlR K (hq O as H) H.hp none sl o) : EnR K J O as H (ρ.set i sl) (σ.set i o) := by
  have hn := E.none_of h
  have hi : i < σ.length := by
    obtain ⟨sl, e, n, n2⟩ := slotF_of h
    exact E.lt e n2
  refine ⟨by rw [List.length_set, List.length_set]; exact E.len, fun j sl' h1 h2 => ?_, fun j sl' o' h1 h2 => ?_, fun j h1 => ?_, E.inj, E.out, fun j r e => by rw [List.length_set]; exact E.bnd j r e, E.occ, E.inv, E.inq, E.tab⟩
  · rw [List.length_set] at h2
    rw [List.getElem?_set_ne (by omega)] at h1
    exact E.tl j sl' h1 h2
  · rw [List.getElem?_set] at h1 h2
    by_cases e : i = j
    · subst e
      rw [if_pos rfl] at h1 h2
      split at h1
      · rw [if_pos hi] at h2
        cases h1; cases h2
        rw [hn]
        exact q
      · cases h1
    · rw [if_neg e] at h1 h2
      exact E.at_ j sl' o' h1 h2
  · obtain ⟨e1, e2, e3⟩ := E.sto j h1
    refine ⟨by rw [List.length_set]; exact e1, ?_, e3⟩
    rw [List.getElem?_set_ne (by omega)]
    exact e2
theorem EnR.setFz (E : EnR K J O as H ρ σ) (h : slotF ρ i = true) (q : Dq K (hq O as H) v d) : EnR K J O as H (ρ.set i (.fz d)) (σ.set i (some v)) := E.setAt h (.fz q)
theorem EnR.setNo (E : EnR K J O as H ρ σ) (h : slotF ρ i = true) (o : Option V) : EnR K J O as H (ρ.set i .no) (σ.set i o) := E.setAt h .no
end
end DL
/-! slots stored, changed, let go -/
namespace DL
open PySem L2 Z
variable [Tbs]
section
variable {K : PySem.W.Frag} {n : Nat} {J : Jv n} {O : Addr → Prop} {as as' as'' : As} {H H' H'' : Hs} {G' : Hp} {ρ : En} {σ : L2.St} {i : Nat} {v : V} {d : PyData} {ds : List PyData}
theorem liv_upd {H : Hp} {p : Addr} (o : HO) : ∀ a, H a ≠ none → upd H p o a ≠ none := fun a h => by
  by_cases z : a = p
  · rw [z, upd_same]; exact Option.some_ne_none _
  · rw [upd_ne z]; exact h
/-- the own list of a slot, or the store, is changed -/
theorem EnR.change (E : EnR K J O as H ρ σ) {r : Rg} (hi : as i = some r) (fr : ∀ a o, ¬ Rgn H r a → H a = some o → H' a = some o) (nw : ∀ a, Rgn H' r a → Rgn H r a ∨ H a = none) (tab : TabsOk H'.hp) (lv : ∀ a, H a ≠ none → H' a ≠ none) (hst : r ≠ .sto → H'.st = H.st) :
    Fr as H H' ∧ ∀ sl, (r ≠ .sto → SlR K (hq O as H') H'.hp (some r) sl (σ[i]?.getD none)) → (r = .sto → sl = .st H'.st ∧ StoR K (hq O as H') H'.hp H'.st) → EnR K J O as H' (ρ.set i sl) σ := by
  have ns : ∀ j r', j ≠ i → as j = some r' → r' = .sto → H'.st = H.st := fun j r' ne hj e => by
    subst e
    refine hst fun e => ?_
    rw [e] at hi
    exact ne ((E.sto j hj).1.trans (E.sto i hi).1.symm)
  have other : ∀ j r' b, j ≠ i → as j = some r' → Rgn H r' b → H' b = H b := fun j r' b ne hj q => by
    obtain ⟨o, e, _⟩ := E.nod hj q
    rw [e]
    exact fr b o (fun z => ne (E.inj j i r' r b hj hi q z)) e
  have otherR : ∀ j r' b, j ≠ i → as j = some r' → (Rgn H' r' b ↔ Rgn H r' b) := fun j r' b ne hj => by
    cases r' with
    | lf a => exact Iff.rfl
    | sto => exact Rgn.st (ns j _ ne hj rfl)
  have F : Fr as H H' := by
    refine ⟨fun a o na e => fr a o (fun z => na (.inl ⟨i, r, hi, z⟩)) e, fun a q => ?_, lv, fun h => hst fun e => h i (by rw [hi, e])⟩
    rcases q with ⟨j, r', hj, q⟩ | q
    · by_cases e : j = i
      · subst e
        rw [hi] at hj
        cases hj
        rcases nw a q with z | z
        · exact .inl (.inl ⟨j, r, hi, z⟩)
        · exact .inr z
      · exact .inl (.inl ⟨j, r', hj, (otherR j r' a e hj).mp q⟩)
    · exact .inl (.inr q)
  refine ⟨F, fun sl hs ht => ⟨by rw [List.length_set]; exact E.len, fun j sl' h1 h2 => ?_, fun j sl' o h1 h2 => ?_, fun j h => ?_, fun j k r1 r2 b h1 h2 q1 q2 => ?_, fun j r' b h q => ?_, fun j r' h => by rw [List.length_set]; exact E.bnd j r' h, fun a h => E.occ' F.fr tab h, J.fr E.inv F, E.inq, tab⟩⟩
  · have hj : j < ρ.length := by rw [← List.length_set (as := ρ) (i := i) (a := sl)]; exact (List.getElem?_eq_some_iff.mp h1).1
    exact E.tl j _ (List.getElem?_eq_getElem hj) h2
  · rw [List.getElem?_set] at h1
    by_cases e : i = j
    · subst e
      rw [if_pos rfl] at h1
      have hl : i < σ.length := (List.getElem?_eq_some_iff.mp h2).1
      have nr : r ≠ .sto := fun e => by
        rw [e] at hi
        have := (E.sto i hi).1
        omega
      split at h1
      · cases h1
        have := hs nr
        rw [h2] at this
        rw [hi]
        exact this
      · cases h1
    · rw [if_neg e] at h1
      exact (E.at_ j sl' o h1 h2).mono F.same fun b hb => other j _ b (fun z => e z.symm) hb rfl
  · obtain ⟨e1, e2, e3⟩ := E.sto j h
    by_cases e : i = j
    · subst e
      rw [hi] at h
      cases h
      obtain ⟨h1, h2⟩ := ht rfl
      refine ⟨e1, ?_, h2⟩
      rw [List.getElem?_set_self (E.bnd _ _ hi), h1]
    · have nr : r ≠ .sto := fun z => by
        rw [z] at hi
        exact e ((E.sto i hi).1.trans e1.symm)
      have := hst nr
      refine ⟨e1, ?_, ?_⟩
      · rw [List.getElem?_set_ne e, e2, this]
      · rw [this]
        exact e3.move F.same fun a z => other j _ a (fun w => e w.symm) h z
  · by_cases e1 : j = i
    · by_cases e2 : k = i
      · rw [e1, e2]
      · rw [e1, hi] at h1
        cases h1
        have q2' := (otherR k r2 b e2 h2).mp q2
        rcases nw b q1 with z | z
        · rw [e1]; exact E.inj i k r r2 b hi h2 z q2'
        · obtain ⟨o, e, _⟩ := E.nod h2 q2'
          rw [show H.hp b = none from z] at e; cases e
    · have q1' := (otherR j r1 b e1 h1).mp q1
      by_cases e2 : k = i
      · rw [e2, hi] at h2
        cases h2
        rcases nw b q2 with z | z
        · rw [e2]; exact E.inj j i r1 r b h1 hi q1' z
        · obtain ⟨o, e, _⟩ := E.nod h1 q1'
          rw [show H.hp b = none from z] at e; cases e
      · exact E.inj j k r1 r2 b h1 h2 q1' ((otherR k r2 b e2 h2).mp q2)
  · by_cases e : j = i
    · subst e
      rw [hi] at h
      cases h
      rcases nw b q with z | z
      · exact E.out j r b hi z
      · exact fun w => E.occ b w z
    · exact E.out j r' b h ((otherR j r' b e h).mp q)
/-- an own list changed -/
theorem EnR.put (E : EnR K J O as H ρ σ) {a : Addr} (ha : as i = some (.lf a)) {zs : List V} (hl : H a = some (.lst zs)) {xs : List V} (q : DqAll K (hq O as H) xs ds) : EnR K J O as (H.w (upd H a (.lst xs))) (ρ.set i (.own ds)) σ ∧ Fr as H (H.w (upd H a (.lst xs))) := by
  obtain ⟨F, k⟩ := E.change (H' := H.w (upd H a (.lst xs))) ha (fun b o nb e => by show upd H a _ b = _; rw [upd_ne (fun z => nb (by rw [z]; exact .here))]; exact e) (fun b q => .inl q) (E.tab.put hl) (liv_upd _) (fun _ => rfl)
  refine ⟨k _ (fun _ => ?_) (fun z => by cases z), F⟩
  obtain ⟨_, _, _, e, _⟩ := E.is_own ha
  rw [e]
  exact .own upd_same (q.mono F.same)
/-- the store changed -/
theorem EnR.putS (E : EnR K J O as H ρ σ) {S : Sto} (hs : ρ[i]? = some (.st S)) {S' : Sto} {G' : Hp} (fr : ∀ a o, S a = none → H a = some o → G' a = some o) (nw : ∀ a, S' a ≠ none → S a ≠ none ∨ H a = none) (tab : TabsOk G') (lv : ∀ a, H a ≠ none → G' a ≠ none)
    (q : Fr as H ⟨G', S'⟩ → StoR K (hq O as ⟨G', S'⟩) G' S') : EnR K J O as ⟨G', S'⟩ (ρ.set i (.st S')) σ ∧ Fr as H ⟨G', S'⟩ := by
  obtain ⟨ha, e, _⟩ := E.st_at hs
  subst e
  obtain ⟨F, k⟩ := E.change (H' := ⟨G', S'⟩) ha (fun b o nb e => fr b o (Classical.byContradiction fun z => nb z) e) nw tab lv (fun z => absurd rfl z)
  exact ⟨k _ (fun z => absurd rfl z) (fun _ => ⟨rfl, q F⟩), F⟩
def upA (as : As) (i : Nat) (o : Option Rg) : As := fun j => if j = i then o else as j
theorem upA_at {o : Option Rg} : upA as i o i = o := if_pos rfl
theorem upA_ne {o : Option Rg} {j : Nat} (h : j ≠ i) : upA as i o j = as j := if_neg h
theorem upA_ks {o : Option Rg} (h : as i ≠ some .sto) (ho : o ≠ some .sto) : ∀ j, upA as i o j = some .sto ↔ as j = some .sto := fun j => by
  by_cases e : j = i
  · rw [e, upA_at]
    exact ⟨fun z => absurd z ho, fun z => absurd z h⟩
  · rw [upA_ne e]
theorem EnR.nst_at (E : EnR K J O as H ρ σ) (h : i < σ.length) : as i ≠ some .sto := fun z => by
  have := (E.sto i z).1
  omega
theorem Own.up {a : Addr} {o : Option Rg} (h : Own (upA as i o) H a) : (∃ r, o = some r ∧ Rgn H r a) ∨ Own as H a := by
  rcases h with ⟨j, r, h, q⟩ | h
  · by_cases e : j = i
    · rw [e, upA_at] at h; exact .inl ⟨r, h, q⟩
    · rw [upA_ne e] at h; exact .inr (.inl ⟨j, r, h, q⟩)
  · exact .inr (.inr h)
/-- one place more -/
def plus (O : Addr → Prop) (p : Addr) : Addr → Prop := fun a => O a ∨ a = p
theorem hid_plus {p : Addr} {a : Addr} (h : Hid O as H a) : Hid (plus O p) as H a := h.imp .inl id
/-- what is held is stored in a slot -/
theorem EnR.setOwn {p : Addr} (E : EnR K J (plus O p) as H ρ σ) (hQ : J.Q O) (hi : i < σ.length) (hJ : J.P (upA as i (some (.lf p))) H) {xs : List V} (hp1 : H p = some (.lst xs)) (q : DqAll K (hq (plus O p) as H) xs ds) (np : ¬ O p) :
    EnR K J O (upA as i (some (.lf p))) H (ρ.set i (.own ds)) (σ.set i (some (.ref p))) := by
  have hS : Same (hq (plus O p) as H) (hq O (upA as i (some (.lf p))) H) := hp_less fun a h => by
    rcases h with h | h
    · exact .inl (.inl h)
    · rcases h.up with ⟨r', e, h⟩ | h
      · cases e
        exact .inl (.inr h.lf_of)
      · exact .inr h
  have up : ∀ j r, upA as i (some (.lf p)) j = some r → j ≠ i → as j = some r := fun j r h e => by rwa [upA_ne e] at h
  refine ⟨by rw [List.length_set, List.length_set]; exact E.len, fun j sl' h1 h2 => ?_, fun j sl' o h1 h2 => ?_, fun j h => ?_, fun j k r1 r2 b h1 h2 q1 q2 => ?_, fun j r' b h q => ?_, fun j r' h => ?_, fun a h => E.occ a (.inl h), hJ, hQ, E.tab⟩
  · rw [List.length_set] at h2
    rw [List.getElem?_set_ne (by omega)] at h1
    rw [upA_ne (by omega)]
    exact E.tl j sl' h1 h2
  · rw [List.getElem?_set] at h1 h2
    by_cases e : i = j
    · subst e
      rw [if_pos rfl] at h1
      rw [if_pos rfl, if_pos hi] at h2
      rw [if_pos (Nat.lt_of_lt_of_le hi E.len.1)] at h1
      cases h1; cases h2
      rw [upA_at]
      exact .own hp1 (q.mono hS)
    · rw [if_neg e] at h1 h2
      rw [upA_ne (fun z => e z.symm)]
      exact (E.at_ j sl' o h1 h2).mono hS fun _ _ => rfl
  · by_cases e : j = i
    · rw [e, upA_at] at h
      cases h
    · obtain ⟨e1, e2, e3⟩ := E.sto j (up j _ h e)
      refine ⟨by rw [List.length_set]; exact e1, ?_, e3.move hS fun _ _ => rfl⟩
      rw [List.getElem?_set_ne (fun z => e z.symm)]
      exact e2
  · by_cases e1 : j = i
    · by_cases e2 : k = i
      · rw [e1, e2]
      · rw [e1, upA_at] at h1
        cases h1
        exact absurd (.inr q1.lf_of) (E.out k r2 b (up k _ h2 e2) q2)
    · by_cases e2 : k = i
      · rw [e2, upA_at] at h2
        cases h2
        exact absurd (.inr q2.lf_of) (E.out j r1 b (up j _ h1 e1) q1)
      · exact E.inj j k r1 r2 b (up j _ h1 e1) (up k _ h2 e2) q1 q2
  · by_cases e1 : j = i
    · rw [e1, upA_at] at h
      cases h
      rw [q.lf_of]
      exact np
    · exact fun z => E.out j r' b (up j _ h e1) q (.inl z)
  · rw [List.length_set]
    by_cases e1 : j = i
    · rw [e1]; exact Nat.lt_of_lt_of_le hi E.len.1
    · exact E.bnd j r' (up j _ h e1)
/-- what a slot owned is let go: it stays from now on -/
theorem EnR.letGo (E : EnR K J O as H ρ σ) (hn : n ≤ i) {sl : Sl} {o : Option V} (h2 : σ[i]? = some o) (q : SlR K (hq O (upA as i none) H) H none sl o) : EnR K J O (upA as i none) H (ρ.set i sl) σ := by
  have hi : i < σ.length := (List.getElem?_eq_some_iff.mp h2).1
  have ls : ∀ a, Own (upA as i none) H a → Own as H a := fun a h => by
    rcases h.up with ⟨r, e, _⟩ | h
    · cases e
    · exact h
  have hS : Same (hq O as H) (hq O (upA as i none) H) := hp_less fun a h => h.imp id (ls a)
  have sub : ∀ j r, upA as i none j = some r → j ≠ i ∧ as j = some r := fun j r h => by
    by_cases e : j = i
    · rw [e, upA_at] at h; cases h
    · rw [upA_ne e] at h; exact ⟨e, h⟩
  refine ⟨by rw [List.length_set]; exact E.len, fun j sl' h1 h3 => ?_, fun j sl' o' h1 h3 => ?_, fun j h => ?_, fun j k r r' b h1 h2 => E.inj j k r r' b (sub j r h1).2 (sub k r' h2).2, fun j r b h => E.out j r b (sub j r h).2, fun j r h => by rw [List.length_set]; exact E.bnd j r (sub j r h).2, E.occ, J.cl _ _ _ _ E.inv ⟨FrA.refl _ _, fun a h => .inl (ls a h), fun j hj => upA_ne (by omega), fun _ h => h, fun j => ⟨fun z => (sub j _ z).2, fun z => by rw [upA_ne (fun e => by rw [e] at z; have := (E.sto i z).1; omega)]; exact z⟩, fun _ => rfl⟩, E.inq, E.tab⟩
  · rw [List.getElem?_set_ne (by omega)] at h1
    rw [upA_ne (by omega)]
    exact E.tl j sl' h1 h3
  · rw [List.getElem?_set] at h1
    by_cases e : i = j
    · subst e
      rw [if_pos rfl] at h1
      rw [h2] at h3
      cases h3
      split at h1
      · cases h1
        rw [upA_at]
        exact q
      · cases h1
    · rw [if_neg e] at h1
      rw [upA_ne (fun z => e z.symm)]
      exact (E.at_ j sl' o' h1 h3).mono hS fun _ _ => rfl
  · obtain ⟨ne, h⟩ := sub j _ h
    obtain ⟨e1, e2, e3⟩ := E.sto j h
    refine ⟨e1, ?_, e3.move hS fun _ _ => rfl⟩
    rw [List.getElem?_set_ne (fun z => ne z.symm)]
    exact e2
theorem Ext.go {as : As} {H : Hs} (hn : n ≤ i) (ni : as i ≠ some .sto) : Ext n as (upA as i none) H H := ⟨FrA.refl _ _, fun a h => by
  rcases h.up with ⟨r, e, _⟩ | h
  · cases e
  · exact .inl h, fun j hj => upA_ne (by omega), fun _ h => h, upA_ks ni (fun z => by cases z), fun _ => rfl⟩
/-- an own list that stays from now on -/
theorem EnR.freeze (E : EnR K J O as H ρ σ) (hn : n ≤ i) (h : ρ[i]? = some (.own ds)) : EnR K J O (upA as i none) H (ρ.set i (.fz (.list ds))) σ := by
  obtain ⟨a, xs, e1, e2, e3, e4⟩ := E.own_at h
  have hS : Same (hq O as H) (hq O (upA as i none) H) := (Ext.go hn (by rw [e2]; intro z; cases z)).same
  have na : ¬ Hid O (upA as i none) H a := by
    rintro (z | ⟨j, r, z, q⟩ | z)
    · exact E.out i _ a e2 .here z
    · by_cases w : j = i
      · rw [w, upA_at] at z; cases z
      · rw [upA_ne w] at z
        exact w (E.inj j i _ _ a z e2 q .here)
    · exact E.tab.no e3 z
  exact E.letGo hn e1 (.fz (.lst (SqL.of (hp_mk na e3)) (e4.mono hS)))
end
end DL
namespace DL
open PySem L2 Z
variable [Tbs]
theorem EnR.fresh1 {K : PySem.W.Frag} {n : Nat} {J : Jv n} {O : Addr → Prop} {as : As} {H : Hs} {ρ : En} {σ : L2.St} (E : EnR K J O as H ρ σ) {p : Addr} {o : HO} (h : H p = none) : ¬ Hid O as (H.w (upd H p o)) p := fun q => E.fresh h ((E.hidS (Same.new h)).mp q)
end DL
namespace DL
open PySem L2 Z
variable [Tbs]
/-- a list that is held is nobody's own -/
theorem EnR.newp {K : PySem.W.Frag} {n : Nat} {J : Jv n} {O : Addr → Prop} {as : As} {H : Hs} {ρ : En} {σ : L2.St} {p : Addr} {xs : List V} (E : EnR K J (plus O p) as H ρ σ) (h : H p = some (.lst xs)) : ¬ Own as H p := fun q => by
  rcases q with ⟨i, r, e, q⟩ | q
  · exact E.out i r p e q (.inr rfl)
  · exact E.tab.no h q
end DL
/-! what expressions, tests, arguments, stores and statements come to -/
namespace DL
open PySem L2 Z
variable [Tbs]
abbrev FE := En → (PyData → En → Prop) → Prop
abbrev FT := En → (Bool → En → Prop) → Prop
abbrev FA := En → (List PyData → En → Prop) → Prop
abbrev FG := PyData → En → (En → Prop) → Prop
abbrev FGs := List PyData → En → (En → Prop) → Prop
inductive Ar where
  | dat (d : PyData)
  | own (i : Nat)
abbrev FC := En → (List Ar → En → Prop) → Prop
structure FEnds where
  nx : En → Prop
  rt : PyData → En → Prop
  bk : En → Prop := fun _ => False
  ct : En → Prop := fun _ => False
  ro : List PyData → En → Prop := fun _ _ => False
abbrev FS := FEnds → En → Prop
abbrev FN := List Sl → (PyData → List Sl → Prop) → Prop
def RE (K : PySem.W.Frag) {n : Nat} (J : Jv n) (t : TE) (f : FE) : Prop := ∀ (O : Addr → Prop) (as : As) (σ : L2.St) (H : Hs) (Q : VK) (ρ : En) (P : PyData → En → Prop), EnR K J O as H ρ σ → f ρ P →
  (∀ d ρ' v H', P d ρ' → Fr as H H' → EnR K J O as H' ρ' σ → Dq K (hq O as H') v d → Q v H') → t σ H Q
section
variable {K : PySem.W.Frag} {n : Nat} {J : Jv n} {O : Addr → Prop} {as : As} {H : Hs} {ρ : En} {σ : L2.St} {p : Addr}
/-- a new object that is held -/
theorem EnR.addO {o : HO} (E : EnR K J O as H ρ σ) (h : H p = none) : EnR K J (plus O p) as (H.w (upd H p o)) ρ σ ∧ Same (hq O as H) (hq (plus O p) as (H.w (upd H p o))) := by
  have s : Same H.hp (upd H p o) := Same.new h
  have np := E.fresh h
  have E2 := E.grow s
  have hS : Same (hq O as H) (hq (plus O p) as (H.w (upd H p o))) := fun a u e => by
    obtain ⟨n, e⟩ := hp_some e
    have ne : a ≠ p := ne_of_none e h
    refine hp_mk (fun q => ?_) (by show upd H.hp p o a = _; rw [upd_ne ne]; exact e)
    rcases q with (q | q) | q
    · exact n (.inl q)
    · exact ne q
    · exact n (.inr ((E.stay s).own.mp q))
  refine ⟨⟨E.len, E.tl, fun i sl o' h1 h2 => (E.at_ i sl o' h1 h2).mono hS fun b hb => (E.stay s).pl i _ b hb rfl, fun i h => ?_, E2.inj, fun i r b e q z => ?_, E.bnd, fun a q => ?_, E2.inv, J.up _ _ (fun _ z => .inl z) E.inq, E2.tab⟩, hS⟩
  · obtain ⟨e1, e2, e3⟩ := E.sto i h
    exact ⟨e1, e2, e3.move hS fun a z => (E.stay s).pl i _ a h z⟩
  · rcases z with z | z
    · exact E2.out i r b e q z
    · rw [z] at q
      exact np (.inr (.inl ⟨i, r, e, (E.stay s).reg.mp q⟩))
  · rcases q with q | q
    · exact E2.occ a q
    · show upd H p o a ≠ none
      rw [q, upd_same]; exact Option.some_ne_none _
theorem EnR.lessO (E : EnR K J (plus O p) as H ρ σ) (hQ : J.Q O) : EnR K J O as H ρ σ :=
  ⟨E.len, E.tl, fun i sl o h1 h2 => (E.at_ i sl o h1 h2).mono (hp_less fun _ => hid_plus) fun _ _ => rfl, fun i h => ⟨(E.sto i h).1, (E.sto i h).2.1, (E.sto i h).2.2.move (hp_less fun _ => hid_plus) fun _ _ => rfl⟩, E.inj, fun i r b e q z => E.out i r b e q (.inl z), E.bnd, fun a q => E.occ a (.inl q), E.inv, hQ, E.tab⟩
/-- what is held is changed -/
theorem EnR.putO {xs ys : List V} (E : EnR K J O as H ρ σ) (h : O p) (hl : H p = some (.lst xs)) (hJ : J.P as (H.w (upd H p (.lst ys)))) :
    EnR K J O as (H.w (upd H p (.lst ys))) ρ σ ∧ Same (hq O as H) (hq O as (H.w (upd H p (.lst ys)))) := by
  have st : Stay as H (H.w (upd H p (.lst ys))) := ⟨fun i r b e q => upd_ne fun z => E.out i r b e q (by rw [z]; exact h), rfl⟩
  have hS : Same (hq O as H) (hq O as (H.w (upd H p (.lst ys)))) := fun a u e => by
    obtain ⟨n, e⟩ := hp_some e
    exact hp_mk (fun q => n (q.imp id st.own.mp)) (by show upd H.hp p _ a = _; rw [upd_ne (fun z : a = p => n (by rw [z]; exact .inl h))]; exact e)
  refine ⟨⟨E.len, E.tl, fun i sl o' h1 h2 => (E.at_ i sl o' h1 h2).mono hS fun b hb => st.pl i _ b hb rfl, fun i h => ?_, fun i j r r' b h1 h2 q1 q2 => E.inj i j r r' b h1 h2 (st.reg.mp q1) (st.reg.mp q2), fun i r b e q => E.out i r b e (st.reg.mp q), E.bnd, fun a q => ?_, hJ, E.inq, E.tab.put hl⟩, hS⟩
  · obtain ⟨e1, e2, e3⟩ := E.sto i h
    exact ⟨e1, e2, e3.move hS fun a z => st.pl i _ a h z⟩
  · show upd H p _ a ≠ none
    by_cases z : a = p
    · rw [z, upd_same]; exact Option.some_ne_none _
    · rw [upd_ne z]; exact E.occ a q
end
/-- a slot that is there and not the store -/
def slotL (ρ : En) (i : Nat) : Bool := match ρ[i]? with
  | some (.st _) => false
  | some _ => true
  | none => false
theorem EnR.ltB {K : PySem.W.Frag} {n : Nat} {J : Jv n} {O : Addr → Prop} {as : As} {H : Hs} {ρ : En} {σ : L2.St} {i : Nat} (E : EnR K J O as H ρ σ) (h : slotL ρ i = true) : i < σ.length := by
  unfold slotL at h
  split at h
  · cases h
  · next sl e hn => exact E.lt hn fun S z => e S (by rw [z])
  · cases h
/-- new, or what was somebody's own -/
abbrev NewO (as : As) (H : Hs) (p : Addr) : Prop := H p = none ∨ Own as H p
theorem EnR.notO {K : PySem.W.Frag} {n n' : Nat} {J : Jv n} {J' : Jv n'} {O O' : Addr → Prop} {as as' : As} {H H' : Hs} {ρ ρ' : En} {σ σ' : L2.St} {p : Addr} {xs : List V} (E : EnR K J O as H ρ σ) (E' : EnR K J' O' as' H' ρ' σ') (h : NewO as H p) (e : H' p = some (.lst xs)) : ¬ O p := fun z => by
  rcases h with h | ⟨i, r, h, q⟩ | h
  · exact E.occ p z h
  · exact E.out i r p h q z
  · exact E'.tab.no e h
/-- an expression that makes a new list -/
def RN (K : PySem.W.Frag) {n : Nat} (J : Jv n) (t : TE) (f : FA) : Prop := ∀ (O : Addr → Prop) (as : As) (σ : L2.St) (H : Hs) (Q : VK) (ρ : En) (P : List PyData → En → Prop), EnR K J O as H ρ σ → f ρ P →
  (∀ ds ρ' p xs H', P ds ρ' → Fr as H H' → NewO as H p → EnR K J (plus O p) as H' ρ' σ → H' p = some (.lst xs) → DqAll K (hq (plus O p) as H') xs ds → Q (.ref p) H') → t σ H Q
def RT (K : PySem.W.Frag) {n : Nat} (J : Jv n) (t : TT) (f : FT) : Prop := ∀ (O : Addr → Prop) (as : As) (σ : L2.St) (H : Hs) (Q : Bool → Hp → Prop) (ρ : En) (P : Bool → En → Prop), EnR K J O as H ρ σ → f ρ P →
  (∀ b ρ' H', P b ρ' → Fr as H H' → EnR K J O as H' ρ' σ → Q b H') → t σ H Q
def RA (K : PySem.W.Frag) {n : Nat} (J : Jv n) (t : TA) (f : FA) : Prop := ∀ (O : Addr → Prop) (as : As) (σ : L2.St) (H : Hs) (Q : List V → Hp → Prop) (ρ : En) (P : List PyData → En → Prop), EnR K J O as H ρ σ → f ρ P →
  (∀ ds ρ' vs H', P ds ρ' → Fr as H H' → EnR K J O as H' ρ' σ → DqAll K (hq O as H') vs ds → Q vs H') → t σ H Q
inductive ArR (K : PySem.W.Frag) (G : Hp) (as : As) : V → Ar → Prop
  | dat {v : V} {d : PyData} : Dq K G v d → ArR K G as v (.dat d)
  | own {a : Addr} {i : Nat} : as i = some (.lf a) → ArR K G as (.ref a) (.own i)
inductive ArsR (K : PySem.W.Frag) (G : Hp) (as : As) : List V → List Ar → Prop
  | nil : ArsR K G as [] []
  | cons {v : V} {vs : List V} {x : Ar} {xs : List Ar} : ArR K G as v x → ArsR K G as vs xs → ArsR K G as (v :: vs) (x :: xs)
def RC (K : PySem.W.Frag) {n : Nat} (J : Jv n) (t : TA) (f : FC) : Prop := ∀ (O : Addr → Prop) (as : As) (σ : L2.St) (H : Hs) (Q : List V → Hp → Prop) (ρ : En) (P : List Ar → En → Prop), EnR K J O as H ρ σ → f ρ P →
  (∀ xs ρ' vs H', P xs ρ' → Fr as H H' → EnR K J O as H' ρ' σ → ArsR K (hq O as H') as vs xs → Q vs H') → t σ H Q
/-- but for these slots all is as it was -/
def Touch (vs : List Nat) (σ σ' : L2.St) : Prop := σ'.length = σ.length ∧ ∀ j, j ∉ vs → σ'[j]? = σ[j]?
def RG (K : PySem.W.Frag) {n : Nat} (J : Jv n) (vs : List Nat) (g : TG) (f : FG) : Prop := ∀ (O : Addr → Prop) (as : As) (σ : L2.St) (H : Hs) (R : L2.St → Hp → Prop) (ρ : En) (P : En → Prop) (v : V) (d : PyData), EnR K J O as H ρ σ → Dq K (hq O as H) v d → f d ρ P →
  (∀ ρ' σ' H', P ρ' → Fr as H H' → EnR K J O as H' ρ' σ' → Touch vs σ σ' → R σ' H') → g v σ H R
def RGs (K : PySem.W.Frag) {n : Nat} (J : Jv n) (vs : List Nat) (g : TGs) (f : FGs) : Prop := ∀ (O : Addr → Prop) (as : As) (σ : L2.St) (H : Hs) (R : L2.St → Hp → Prop) (ρ : En) (P : En → Prop) (ys : List V) (ds : List PyData), EnR K J O as H ρ σ → DqAll K (hq O as H) ys ds → f ds ρ P →
  (∀ ρ' σ' H', P ρ' → Fr as H H' → EnR K J O as H' ρ' σ' → Touch vs σ σ' → R σ' H') → g ys σ H R
/-- what the ends ask, carried over -/
structure Car (K : PySem.W.Frag) {n : Nat} (J : Jv n) (O : Addr → Prop) (as : As) (H : Hs) (E : FEnds) (D : Ends) : Prop where
  nx : ∀ ρ' as' σ' H', E.nx ρ' → Ext n as as' H H' → EnR K J O as' H' ρ' σ' → D.nx σ' H'
  rt : ∀ d ρ' v as' σ' H', E.rt d ρ' → Ext n as as' H H' → EnR K J O as' H' ρ' σ' → Dq K (hq O as' H') v d → D.rt v H'
  bk : ∀ ρ' as' σ' H', E.bk ρ' → Ext n as as' H H' → EnR K J O as' H' ρ' σ' → D.bk σ' H'
  ct : ∀ ρ' as' σ' H', E.ct ρ' → Ext n as as' H H' → EnR K J O as' H' ρ' σ' → D.ct σ' H'
  ro : ∀ ds ρ' p xs as' σ' H', E.ro ds ρ' → Ext n as as' H H' → H p = none ∨ Own as H p → EnR K J (plus O p) as' H' ρ' σ' → H' p = some (.lst xs) → DqAll K (hq (plus O p) as' H') xs ds → D.rt (.ref p) H'
theorem Ext.old {n : Nat} {as as' : As} {H H' : Hs} {p : Addr} (x : Ext n as as' H H') (h : H' p = none ∨ Own as' H' p) : H p = none ∨ Own as H p := by
  by_cases w : Own as H p
  · exact .inr w
  · rcases h with h | h
    · cases e : H p with
      | none => exact .inl rfl
      | some o => rw [x.fr p o w e] at h; cases h
    · rcases x.new p h with z | z
      · exact absurd z w
      · exact .inl z
theorem Car.ext {K : PySem.W.Frag} {n : Nat} {J : Jv n} {O : Addr → Prop} {as as' : As} {H H' : Hs} {E : FEnds} {D : Ends} (C : Car K J O as H E D) (x : Ext n as as' H H') : Car K J O as' H' E D :=
  ⟨fun ρ' as2 σ' H2 p y => C.nx ρ' as2 σ' H2 p (x.trans y), fun d ρ' v as2 σ' H2 p y => C.rt d ρ' v as2 σ' H2 p (x.trans y), fun ρ' as2 σ' H2 p y => C.bk ρ' as2 σ' H2 p (x.trans y), fun ρ' as2 σ' H2 p y => C.ct ρ' as2 σ' H2 p (x.trans y), fun ds ρ' p xs as2 σ' H2 q y o => C.ro ds ρ' p xs as2 σ' H2 q (x.trans y) (x.old o)⟩
def RS (K : PySem.W.Frag) {n : Nat} (J : Jv n) (t : TS) (f : FS) : Prop := ∀ (O : Addr → Prop) (as : As) (σ : L2.St) (H : Hs) (D : Ends) (ρ : En) (E : FEnds), EnR K J O as H ρ σ → f E ρ → Car K J O as H E D → t D σ H

section
variable {K : PySem.W.Frag} {n : Nat} {J : Jv n}
theorem Dq.fr {O : Addr → Prop} {as : As} {H H' : Hs} {v : V} {d : PyData} (q : Dq K (hq O as H) v d) (f : Fr as H H') : Dq K (hq O as H') v d := q.mono f.same
theorem DqAll.fr {O : Addr → Prop} {as : As} {H H' : Hs} {v : List V} {d : List PyData} (q : DqAll K (hq O as H) v d) (f : Fr as H H') : DqAll K (hq O as H') v d := q.mono f.same
/-! constants, names -/
def fC (d : PyData) : FE := fun ρ P => P d ρ
theorem re_c {v : V} {d : PyData} (h : ∀ H, Dq K H v d) : RE K J (tC v) (fC d) := fun O as σ H Q ρ P E f k => k d ρ v H f (Fr.refl) E (h _)
def fV (i : Nat) : FE := fun ρ P => match ρ[i]? with
  | some (.fz d) => P d ρ
  | _ => False
theorem re_v {i : Nat} : RE K J (tVar i) (fV i) := by
  intro O as σ H Q ρ P E f k
  unfold fV at f
  split at f
  · next d h =>
    obtain ⟨v, e, _, q⟩ := E.fz_at h
    exact ⟨v, e, k d ρ v H f (Fr.refl) E q⟩
  · exact f.elim
/-! arguments -/
def fNil : FA := fun ρ P => P [] ρ
def fCons (a : FE) (b : FA) : FA := fun ρ P => a ρ fun d ρ1 => b ρ1 fun ds ρ2 => P (d :: ds) ρ2
theorem ra_nil : RA K J tNil fNil := fun O as σ H Q ρ P E f k => k [] ρ [] H f (Fr.refl) E .nil
theorem ra_cons {ta : TE} {t : TA} {fa : FE} {f : FA} (ha : RE K J ta fa) (h : RA K J t f) : RA K J (tCons ta t) (fCons fa f) := by
  intro O as σ H Q ρ P E q k
  refine ha O as σ H _ ρ _ E q fun d ρ1 v H1 q1 f1 E1 d1 => ?_
  refine h O as σ H1 _ ρ1 _ E1 q1 fun ds ρ2 vs H2 q2 f2 E2 d2 => ?_
  exact k _ _ _ _ q2 (f1.trans f2) E2 (.cons (d1.fr f2) d2)
/-! operators -/
def RR (K : PySem.W.Frag) (r : R2) (g : PyData → PyData → (PyData → Prop) → Prop) : Prop := ∀ (A : Addr → Prop) (H : Hp) (Q : VK) (x y : V) (a b : PyData) (P : PyData → Prop), (∀ c, A c → H c ≠ none) →
  Dq K (hp A H) x a → Dq K (hp A H) y b → g a b P → (∀ d v H', P d → Same H H' → Dq K (hp A H') v d → Q v H') → r x y H Q
def fOp (g : PyData → PyData → (PyData → Prop) → Prop) (a b : FE) : FE := fun ρ P => a ρ fun x ρ1 => b ρ1 fun y ρ2 => g x y fun d => P d ρ2
theorem re_op {r : R2} {g : PyData → PyData → (PyData → Prop) → Prop} {ta tb : TE} {fa fb : FE} (hr : RR K r g) (ha : RE K J ta fa) (hb : RE K J tb fb) : RE K J (tOp r ta tb) (fOp g fa fb) := by
  intro O as σ H Q ρ P E q k
  refine ha O as σ H _ ρ _ E q fun a ρ1 x H1 q1 f1 E1 d1 => ?_
  refine hb O as σ H1 _ ρ1 _ E1 q1 fun b ρ2 y H2 q2 f2 E2 d2 => ?_
  refine hr (Hid O as H2) H2 _ x y a b _ (fun c h => E2.full h) (d1.fr f2) d2 q2 fun d v H3 p s3 d3 => ?_
  exact k d ρ2 v ⟨H3, _⟩ p ((f1.trans f2).trans (E2.frS s3)) (E2.grow s3) (d3.mono (E2.toS s3))
def RU (K : PySem.W.Frag) (r : V → Hp → VK → Prop) (g : PyData → (PyData → Prop) → Prop) : Prop := ∀ (A : Addr → Prop) (H : Hp) (Q : VK) (x : V) (a : PyData) (P : PyData → Prop), (∀ c, A c → H c ≠ none) →
  Dq K (hp A H) x a → g a P → (∀ d v H', P d → Same H H' → Dq K (hp A H') v d → Q v H') → r x H Q
def fUn (g : PyData → (PyData → Prop) → Prop) (a : FE) : FE := fun ρ P => a ρ fun x ρ1 => g x fun d => P d ρ1
theorem re_un {r : V → Hp → VK → Prop} {g : PyData → (PyData → Prop) → Prop} {ta : TE} {fa : FE} (hr : RU K r g) (ha : RE K J ta fa) : RE K J (tUn r ta) (fUn g fa) := by
  intro O as σ H Q ρ P E q k
  refine ha O as σ H _ ρ _ E q fun a ρ1 x H1 q1 f1 E1 d1 => ?_
  refine hr (Hid O as H1) H1 _ x a _ (fun c h => E1.full h) d1 q1 fun d v H3 p s3 d3 => ?_
  exact k d ρ1 v ⟨H3, _⟩ p (f1.trans (E1.frS s3)) (E1.grow s3) (d3.mono (E1.toS s3))
/-! built-in calls -/
def RB (K : PySem.W.Frag) (r : List V → Hp → VK → Prop) (g : List PyData → (PyData → Prop) → Prop) : Prop := ∀ (A : Addr → Prop) (H : Hp) (Q : VK) (xs : List V) (ds : List PyData) (P : PyData → Prop), (∀ c, A c → H c ≠ none) →
  DqAll K (hp A H) xs ds → g ds P → (∀ d v H', P d → Same H H' → Dq K (hp A H') v d → Q v H') → r xs H Q
def fCB (g : List PyData → (PyData → Prop) → Prop) (a : FA) : FE := fun ρ P => a ρ fun ds ρ1 => g ds fun d => P d ρ1
theorem re_cb {r : List V → Hp → VK → Prop} {g : List PyData → (PyData → Prop) → Prop} {t : TA} {f : FA} (hr : RB K r g) (ha : RA K J t f) : RE K J (tCB r t) (fCB g f) := by
  intro O as σ H Q ρ P E q k
  refine ha O as σ H _ ρ _ E q fun ds ρ1 vs H1 q1 f1 E1 d1 => ?_
  refine hr (Hid O as H1) H1 _ vs ds _ (fun c h => E1.full h) d1 q1 fun d v H3 p s3 d3 => ?_
  exact k d ρ1 v ⟨H3, _⟩ p (f1.trans (E1.frS s3)) (E1.grow s3) (d3.mono (E1.toS s3))
/-- methods of texts -/
def RM (K : PySem.W.Frag) (r : V → List V → Hp → VK → Prop) (g : Str → List PyData → (PyData → Prop) → Prop) : Prop := ∀ (A : Addr → Prop) (H : Hp) (Q : VK) (z : Str) (xs : List V) (ds : List PyData) (P : PyData → Prop), (∀ c, A c → H c ≠ none) →
  DqAll K (hp A H) xs ds → g z ds P → (∀ d v H', P d → Same H H' → Dq K (hp A H') v d → Q v H') → r (.str z) xs H Q
def strF (a : PyData) (k : Str → Prop) : Prop := match a with
  | .str z => k z
  | _ => False
def fBM (g : Str → List PyData → (PyData → Prop) → Prop) (a : FE) (b : FA) : FE := fun ρ P => a ρ fun x ρ1 => strF x fun z => b ρ1 fun ds ρ2 => g z ds fun d => P d ρ2
theorem re_bm {r : V → List V → Hp → VK → Prop} {g : Str → List PyData → (PyData → Prop) → Prop} {to : TE} {t : TA} {fo : FE} {f : FA} (hr : RM K r g) (ho : RE K J to fo) (ha : RA K J t f) : RE K J (tBM K "str" r to t) (fBM g fo f) := by
  intro O as σ H Q ρ P E q k
  refine ho O as σ H _ ρ _ E q fun a ρ1 x H1 q1 f1 E1 d1 => ?_
  unfold strF at q1
  split at q1
  · next z =>
    cases d1
    refine ⟨rfl, ?_⟩
    refine ha O as σ H1 _ ρ1 _ E1 q1 fun ds ρ2 vs H2 q2 f2 E2 d2 => ?_
    refine hr (Hid O as H2) H2 _ z vs ds _ (fun c h => E2.full h) d2 q2 fun d v H3 p s3 d3 => ?_
    exact k d ρ2 v ⟨H3, _⟩ p ((f1.trans f2).trans (E2.frS s3)) (E2.grow s3) (d3.mono (E2.toS s3))
  · exact q1.elim
/-! displays -/
def fTup (f : FA) : FE := fun ρ P => f ρ fun ds ρ1 => ds.length ≤ sizeLine ∧ P (.tuple ds) ρ1
theorem re_tup {t : TA} {f : FA} (h : RA K J t f) : RE K J (tTup t) (fTup f) := by
  intro O as σ H Q ρ P E q k
  refine h O as σ H _ ρ _ E q fun ds ρ1 vs H1 q1 f1 E1 d1 => ⟨by rw [d1.length]; exact q1.1, fun p hp1 => ?_⟩
  have s := Same.new (o := .tup vs) hp1
  refine k _ _ _ _ q1.2 (f1.trans (E1.frS s)) (E1.grow s) (.tup (SqT.of (hp_mk (E1.fresh1 hp1) upd_same)) (d1.mono (E1.hgrow s)))
def fLst (f : FA) : FA := fun ρ P => f ρ fun ds ρ1 => ds.length ≤ sizeLine ∧ P ds ρ1
theorem rn_lst {t : TA} {f : FA} (h : RA K J t f) : RN K J (tLst t) (fLst f) := by
  intro O as σ H Q ρ P E q k
  refine h O as σ H _ ρ _ E q fun ds ρ1 vs H1 q1 f1 E1 d1 => ⟨by rw [d1.length]; exact q1.1, fun p hp1 => ?_⟩
  obtain ⟨E2, s2⟩ := E1.addO (o := .lst vs) hp1
  refine k _ _ _ _ _ q1.2 (f1.trans (E1.frS (Same.new hp1))) ?_ E2 upd_same (d1.mono s2)
  exact .inl (Classical.byContradiction fun z => f1.liv p z hp1)
def fNew (f : FA) : FE := fun ρ P => f ρ fun ds ρ1 => P (.list ds) ρ1
theorem RN.re {t : TE} {f : FA} (h : RN K J t f) : RE K J t (fNew f) := by
  intro O as σ H Q ρ P E q k
  refine h O as σ H _ ρ _ E q fun ds ρ1 p xs H2 q1 f1 hp1 E1 hp2 d1 => ?_
  exact k _ _ _ _ q1 f1 (E1.lessO E.inq) (.lst (SqL.of (hp_mk (fun z => z.elim (fun w => E.notO E1 hp1 hp2 w) (E1.newp hp2)) hp2)) (d1.mono (hp_less fun _ => hid_plus)))
/-! tests -/
def boolF (a : PyData) (k : Bool → Prop) : Prop := match a with
  | .bool b => k b
  | _ => False
def fB (f : FE) : FT := fun ρ P => f ρ fun d ρ1 => boolF d fun b => P b ρ1
theorem rt_b {t : TE} {f : FE} (h : RE K J t f) : RT K J (tB t) (fB f) := by
  intro O as σ H Q ρ P E q k
  refine h O as σ H _ ρ _ E q fun d ρ1 v H1 q1 f1 E1 d1 => ?_
  unfold boolF at q1
  split at q1
  · cases d1; exact ⟨_, rfl, k _ _ _ q1 f1 E1⟩
  · exact q1.elim
theorem rt_test {t : TE} {f : FE} (h : RE K J t f) : RT K J (tTest t) (fB f) := rt_b h
def fAnd (a b : FT) : FT := fun ρ P => a ρ fun c ρ1 => if c = true then b ρ1 P else P false ρ1
def fOr (a b : FT) : FT := fun ρ P => a ρ fun c ρ1 => if c = true then P true ρ1 else b ρ1 P
def fNot (a : FT) : FT := fun ρ P => a ρ fun c ρ1 => P (!c) ρ1
theorem rt_and {t u : TT} {a b : FT} (ha : RT K J t a) (hb : RT K J u b) : RT K J (tAnd t u) (fAnd a b) := by
  intro O as σ H Q ρ P E q k
  refine ha O as σ H _ ρ _ E q fun c ρ1 H1 q1 f1 E1 => ?_
  cases c
  · exact k _ _ _ q1 f1 E1
  · exact hb O as σ H1 _ ρ1 _ E1 q1 fun b ρ2 H2 q2 f2 E2 => k _ _ _ q2 (f1.trans f2) E2
theorem rt_or {t u : TT} {a b : FT} (ha : RT K J t a) (hb : RT K J u b) : RT K J (tOr t u) (fOr a b) := by
  intro O as σ H Q ρ P E q k
  refine ha O as σ H _ ρ _ E q fun c ρ1 H1 q1 f1 E1 => ?_
  cases c
  · exact hb O as σ H1 _ ρ1 _ E1 q1 fun b ρ2 H2 q2 f2 E2 => k _ _ _ q2 (f1.trans f2) E2
  · exact k _ _ _ q1 f1 E1
theorem rt_not {t : TT} {a : FT} (ha : RT K J t a) : RT K J (tNot t) (fNot a) := by
  intro O as σ H Q ρ P E q k
  exact ha O as σ H _ ρ _ E q fun c ρ1 H1 q1 f1 E1 => k _ _ _ q1 f1 E1
def fAndV (a b : FE) : FE := fun ρ P => a ρ fun d ρ1 => boolF d fun c => if c = true then b ρ1 P else P (.bool false) ρ1
def fOrV (a b : FE) : FE := fun ρ P => a ρ fun d ρ1 => boolF d fun c => if c = true then P (.bool true) ρ1 else b ρ1 P
def fNotV (a : FE) : FE := fun ρ P => a ρ fun d ρ1 => boolF d fun c => P (.bool (!c)) ρ1
theorem re_and {t u : TE} {a b : FE} (ha : RE K J t a) (hb : RE K J u b) : RE K J (tAndV t u) (fAndV a b) := by
  intro O as σ H Q ρ P E q k
  refine ha O as σ H _ ρ _ E q fun d ρ1 v H1 q1 f1 E1 d1 => ?_
  unfold boolF at q1
  split at q1
  · next c =>
    cases d1
    refine ⟨_, rfl, ?_⟩
    cases c
    · exact k _ _ _ _ q1 f1 E1 (.bl _)
    · exact hb O as σ H1 _ ρ1 _ E1 q1 fun b ρ2 v H2 q2 f2 E2 => k _ _ _ _ q2 (f1.trans f2) E2
  · exact q1.elim
theorem re_or {t u : TE} {a b : FE} (ha : RE K J t a) (hb : RE K J u b) : RE K J (tOrV t u) (fOrV a b) := by
  intro O as σ H Q ρ P E q k
  refine ha O as σ H _ ρ _ E q fun d ρ1 v H1 q1 f1 E1 d1 => ?_
  unfold boolF at q1
  split at q1
  · next c =>
    cases d1
    refine ⟨_, rfl, ?_⟩
    cases c
    · exact hb O as σ H1 _ ρ1 _ E1 q1 fun b ρ2 v H2 q2 f2 E2 => k _ _ _ _ q2 (f1.trans f2) E2
    · exact k _ _ _ _ q1 f1 E1 (.bl _)
  · exact q1.elim
theorem re_not {t : TE} {a : FE} (ha : RE K J t a) : RE K J (tNotV t) (fNotV a) := by
  intro O as σ H Q ρ P E q k
  refine ha O as σ H _ ρ _ E q fun d ρ1 v H1 q1 f1 E1 d1 => ?_
  unfold boolF at q1
  split at q1
  · cases d1
    exact ⟨_, rfl, k _ _ _ _ q1 f1 E1 (.bl _)⟩
  · exact q1.elim
def fIf (c : FT) (a b : FE) : FE := fun ρ P => c ρ fun k ρ1 => if k = true then a ρ1 P else b ρ1 P
theorem re_if {t : TT} {ta tb : TE} {c : FT} {a b : FE} (hc : RT K J t c) (ha : RE K J ta a) (hb : RE K J tb b) : RE K J (tIf t ta tb) (fIf c a b) := by
  intro O as σ H Q ρ P E q k
  refine hc O as σ H _ ρ _ E q fun c ρ1 H1 q1 f1 E1 => ?_
  cases c
  · exact hb O as σ H1 _ ρ1 _ E1 q1 fun b ρ2 v H2 q2 f2 E2 => k _ _ _ _ q2 (f1.trans f2) E2
  · exact ha O as σ H1 _ ρ1 _ E1 q1 fun b ρ2 v H2 q2 f2 E2 => k _ _ _ _ q2 (f1.trans f2) E2
def fChain (g g' : PyData → PyData → (PyData → Prop) → Prop) (a b c : FE) : FE := fun ρ P => a ρ fun x ρ1 => b ρ1 fun y ρ2 => g x y fun z => boolF z fun k => if k = true then c ρ2 fun w ρ3 => g' y w fun d => P d ρ3 else P (.bool false) ρ2
theorem re_chain {r r' : R2} {g g' : PyData → PyData → (PyData → Prop) → Prop} {ta tb tc : TE} {fa fb fc : FE} (hr : RR K r g) (hr' : RR K r' g') (ha : RE K J ta fa) (hb : RE K J tb fb) (hc : RE K J tc fc) : RE K J (tChain r r' ta tb tc) (fChain g g' fa fb fc) := by
  intro O as σ H Q ρ P E q k
  refine ha O as σ H _ ρ _ E q fun a ρ1 x H1 q1 f1 E1 d1 => ?_
  refine hb O as σ H1 _ ρ1 _ E1 q1 fun b ρ2 y H2 q2 f2 E2 d2 => ?_
  refine hr (Hid O as H2) H2 _ x y a b _ (fun c h => E2.full h) (d1.fr f2) d2 q2 fun d v H3 p s3 d3 => ?_
  unfold boolF at p
  split at p
  · next c =>
    cases d3
    refine ⟨_, rfl, ?_⟩
    have E3 := E2.grow s3
    have f3 := (f1.trans f2).trans (E2.frS s3)
    cases c
    · exact k _ _ _ _ p f3 E3 (.bl _)
    · refine hc O as σ _ _ ρ2 _ E3 p fun e ρ4 w H4 q4 f4 E4 d4 => ?_
      refine hr' (Hid O as H4) H4.hp _ y w b e _ (fun c h => E4.full h) ((d2.mono (E2.hgrow s3)).fr f4) d4 q4 fun d v H5 p s5 d5 => ?_
      exact k _ _ _ _ p ((f3.trans f4).trans (E4.frS s5)) (E4.grow s5) (d5.mono (E4.toS s5))
  · exact p.elim
/-! stores -/
def gN (i : Nat) : FG := fun d ρ P => slotF ρ i = true ∧ P (ρ.set i (.fz d))
theorem rg_name {i : Nat} : RG K J [i] (gName i) (gN i) := fun O as σ H R ρ P v d E q f k => k _ _ H f.2 (Fr.refl) (E.setFz f.1 q) ⟨List.length_set, fun j hj => by
  rw [List.getElem?_set, if_neg (fun z => hj (by simp [z]))]⟩
def gsNil : FGs := fun ds ρ P => ds = [] ∧ P ρ
def gsCons (a : FG) (b : FGs) : FGs := fun ds ρ P => match ds with
  | d :: r => a d ρ fun ρ1 => b r ρ1 P
  | [] => False
theorem rgs_nil : RGs K J [] gNil gsNil := by
  intro O as σ H R ρ P vs ds E q f k
  obtain ⟨rfl, f⟩ := f
  cases q
  exact ⟨rfl, k _ _ H f (Fr.refl) E ⟨rfl, fun _ _ => rfl⟩⟩
theorem rgs_cons {us ws : List Nat} {g : TG} {gs : TGs} {a : FG} {b : FGs} (ha : RG K J us g a) (hb : RGs K J ws gs b) : RGs K J (us ++ ws) (gCons g gs) (gsCons a b) := by
  intro O as σ H R ρ P vs ds E q f k
  cases q with
  | nil => exact f.elim
  | cons q1 q2 =>
    refine ⟨_, _, rfl, ?_⟩
    refine ha O as σ H _ ρ _ _ _ E q1 f fun ρ1 σ1 H1 p1 f1 E1 z1 => ?_
    exact hb O as σ1 H1 _ ρ1 _ _ _ E1 (q2.fr f1) p1 fun ρ2 σ2 H2 p2 f2 E2 z2 => k _ _ _ p2 (f1.trans f2) E2 ⟨z2.1.trans z1.1, fun j hj => by
      rw [List.mem_append, not_or] at hj
      rw [z2.2 j hj.2, z1.2 j hj.1]⟩
def gT (m : Nat) (b : FGs) : FG := fun d ρ P => match d with
  | .tuple ds => ds.length = m ∧ b ds ρ P
  | _ => False
theorem rg_tup {ws : List Nat} {m : Nat} {gs : TGs} {b : FGs} (h : RGs K J ws gs b) : RG K J ws (gTup K m gs) (gT m b) := by
  intro O as σ H R ρ P v d E q f k
  unfold gT at f
  split at f
  · obtain ⟨a, xs, rfl, s, r⟩ := q.tuple_of
    exact ⟨_, _, rfl, SqT.mono hp_same s, by rw [r.length]; exact f.1, h O as σ H _ ρ _ _ _ E r f.2 k⟩
  · exact f.elim
/-! statements -/
def fSeq (a b : FS) : FS := fun E ρ => a { E with nx := b E } ρ
theorem rs_seq {t u : TS} {a b : FS} (ha : RS K J t a) (hb : RS K J u b) : RS K J (tSeq t u) (fSeq a b) := by
  intro O as σ H D ρ E R f C
  refine ha O as σ H _ ρ _ R f ⟨fun ρ' as' σ' H' p x R' => ?_, C.rt, C.bk, C.ct, C.ro⟩
  exact hb O as' σ' H' D ρ' E R' p (C.ext x)
def fNext : FS := fun E ρ => E.nx ρ
theorem rs_next : RS K J tNext fNext := fun O as σ H D ρ E R f C => C.nx ρ as σ H f .refl R
def fAsg (a : FE) (g : FG) : FS := fun E ρ => a ρ fun d ρ1 => g d ρ1 E.nx
theorem rs_asg {ws : List Nat} {te : TE} {g : TG} {a : FE} {b : FG} (ha : RE K J te a) (hg : RG K J ws g b) : RS K J (tAsg te g) (fAsg a b) := by
  intro O as σ H D ρ E R f C
  refine ha O as σ H _ ρ _ R f fun d ρ1 v H1 q1 f1 E1 d1 => ?_
  refine hg O as σ H1 _ ρ1 _ v d E1 d1 q1 fun ρ2 σ2 H2 p2 f2 E2 _ => ?_
  exact C.nx _ _ _ _ p2 (.of (f1.trans f2)) E2
def fRet (a : FE) : FS := fun E ρ => a ρ E.rt
theorem rs_ret {te : TE} {a : FE} (ha : RE K J te a) : RS K J (tRet te) (fRet a) := by
  intro O as σ H D ρ E R f C
  exact ha O as σ H _ ρ _ R f fun d ρ1 v H1 q1 f1 E1 d1 => C.rt _ _ _ _ _ _ q1 (.of f1) E1 d1
def fRetN : FS := fun E ρ => E.rt .none ρ
def fDrop (a : FE) : FS := fun E ρ => a ρ fun _ ρ1 => E.nx ρ1
theorem rs_drop {te : TE} {a : FE} (ha : RE K J te a) : RS K J (tDrop te) (fDrop a) := by
  intro O as σ H D ρ E R f C
  exact ha O as σ H _ ρ _ R f fun d ρ1 v H1 q1 f1 E1 d1 => C.nx _ _ _ _ q1 (.of f1) E1
def fIfS (c : FT) (a b : FS) : FS := fun E ρ => c ρ fun k ρ1 => if k = true then a E ρ1 else b E ρ1
theorem rs_if {c : TT} {t u : TS} {fc : FT} {a b : FS} (hc : RT K J c fc) (ha : RS K J t a) (hb : RS K J u b) : RS K J (tIfS c t u) (fIfS fc a b) := by
  intro O as σ H D ρ E R f C
  refine hc O as σ H _ ρ _ R f fun k ρ1 H1 q1 f1 E1 => ?_
  cases k
  · exact hb O as σ H1 D ρ1 E E1 q1 (C.ext (.of f1))
  · exact ha O as σ H1 D ρ1 E E1 q1 (C.ext (.of f1))
def fNever : FS := fun _ _ => False
def fBreak : FS := fun E ρ => E.bk ρ
def fCont : FS := fun E ρ => E.ct ρ
def fPar (i j : Nat) (a : FA) : FS := fun E ρ => a ρ fun ds ρ1 => match ds with
  | [x, y] => gN i x ρ1 fun ρ2 => gN j y ρ2 E.nx
  | _ => False
theorem rs_par {i j : Nat} {t : TA} {a : FA} (ha : RA K J t a) : RS K J (tPar i j t) (fPar i j a) := by
  intro O as σ H D ρ E R f C
  refine ha O as σ H _ ρ _ R f fun ds ρ1 vs H1 q1 f1 E1 d1 => ?_
  split at q1
  · cases d1 with
    | cons d1 r => cases r with
      | cons d2 r =>
        cases r
        refine ⟨_, _, rfl, ?_⟩
        exact C.nx _ _ _ _ q1.2.2 (.of f1) ((E1.setFz q1.1 d1).setFz q1.2.1 d2)
  · exact q1.elim
/-- an own list that is so from now on -/
def fFreeze (i : Nat) (a : FS) : FS := fun E ρ => match ρ[i]? with
  | some (.own ds) => a E (ρ.set i (.fz (.list ds)))
  | _ => a E ρ
theorem rs_freeze {i : Nat} {t : TS} {a : FS} (hi : n ≤ i) (ha : RS K J t a) : RS K J t (fFreeze i a) := by
  intro O as σ H D ρ E R f C
  unfold fFreeze at f
  split at f
  · next ds h =>
    refine ha O _ σ H D _ E (R.freeze hi h) f (C.ext (Ext.go hi (R.nst_at (R.lt h fun _ z => by cases z))))
  · exact ha O as σ H D ρ E R f C
/-- a new list into a slot, its own -/
def fOwn (i : Nat) (a : FA) : FS := fun E ρ => a ρ fun ds ρ1 => slotL ρ1 i = true ∧ E.nx (ρ1.set i (.own ds))
theorem rs_own {i : Nat} {te : TE} {a : FA} (hi : n ≤ i) (ha : RN K J te a) : RS K J (tAsg te (gName i)) (fOwn i a) := by
  intro O as σ H D ρ E R f C
  refine ha O as σ H _ ρ _ R f fun ds ρ1 p xs H2 q1 f1 hp1 E1 hp2 d1 => ?_
  have x : Ext n as (upA as i (some (.lf p))) H H2 := ⟨f1.fr, fun a q => by
    rcases q.up with ⟨r, e, q⟩ | q
    · cases e
      rw [q.lf_of]
      exact hp1.symm
    · exact f1.new a q, fun j hj => upA_ne (by omega), f1.liv, upA_ks (E1.nst_at (E1.ltB q1.1)) (fun z => by cases z), f1.nst⟩
  have E2 := E1.setOwn R.inq (E1.ltB q1.1) (J.cl _ _ _ _ R.inv x) hp2 d1 fun z => R.notO E1 hp1 hp2 z
  exact C.nx _ _ _ _ q1.2 x E2
end
end DL
/-! loops, comprehensions, calls -/
namespace DL
open PySem L2 Z
variable [Tbs]
/-- what is gone through: the data of each turn -/
def IsIt (K : PySem.W.Frag) (A : Addr → Prop) (J : It) (H : Hp) (ds : List PyData) : Prop := ∃ (G : Hp → Prop) (Y : Nat → Hp → V → Hp → Prop), Walk J ds.length G Y ∧ (∀ (A' : Addr → Prop) (H1 : Hp), Same (hp A H) (hp A' H1) → G H1) ∧
  ∀ (i : Nat) (d : PyData) (A' : Addr → Prop) (H1 : Hp) (x : V) (H2 : Hp), ds[i]? = some d → Same (hp A H) (hp A' H1) → (∀ c, A' c → H1 c ≠ none) → Y i H1 x H2 → Same H1 H2 ∧ Dq K (hp A' H2) x d
def RI (K : PySem.W.Frag) {n : Nat} (J : Jv n) (wi : TI) (f : FA) : Prop := ∀ (O : Addr → Prop) (as : As) (σ : L2.St) (H : Hs) (R : It → Hp → Prop) (ρ : En) (P : List PyData → En → Prop), EnR K J O as H ρ σ → f ρ P →
  (∀ ds ρ' I H', P ds ρ' → Fr as H H' → EnR K J O as H' ρ' σ → IsIt K (Hid O as H') I H' ds → R I H') → wi σ H R
section
variable {K : PySem.W.Frag} {n : Nat} {J : Jv n}
def listF (a : PyData) (k : List PyData → Prop) : Prop := match a with
  | .list ds => k ds
  | _ => False
def tupleF (a : PyData) (k : List PyData → Prop) : Prop := match a with
  | .tuple ds => k ds
  | _ => False
def intF (a : PyData) (k : Int → Prop) : Prop := match a with
  | .int i => k i
  | _ => False
def iL (f : FE) : FA := fun ρ P => f ρ fun d ρ1 => listF d fun ds => P ds ρ1
theorem ri_list {tl : TE} {f : FE} (h : RE K J tl f) : RI K J (iList K tl) (iL f) := by
  intro O as σ H R ρ P E q k
  refine h O as σ H _ ρ _ E q fun d ρ1 v H1 q1 f1 E1 d1 => ?_
  unfold listF at q1
  split at q1
  · next ds =>
    obtain ⟨a, xs, rfl, s, r⟩ := d1.list_of
    refine ⟨a, rfl, ⟨_, SqL.mono hp_same s⟩, k _ _ _ _ q1 f1 E1 ?_⟩
    refine ⟨_, _, by rw [← r.length]; exact walk_list (xs := xs), fun A' H2 s2 => SqL.mono hp_same (SqL.mono s2 s), fun i d A' H2 x H3 hd s2 oc y => ?_⟩
    obtain ⟨rfl, hx⟩ := y
    obtain ⟨d', e, q⟩ := r.get hx
    rw [hd] at e
    cases e
    exact ⟨Same.refl _, q.mono s2⟩
  · exact q1.elim
def iT (f : FE) : FA := fun ρ P => f ρ fun d ρ1 => tupleF d fun ds => P ds ρ1
theorem ri_tup {tl : TE} {f : FE} (h : RE K J tl f) : RI K J (iTup K tl) (iT f) := by
  intro O as σ H R ρ P E q k
  refine h O as σ H _ ρ _ E q fun d ρ1 v H1 q1 f1 E1 d1 => ?_
  unfold tupleF at q1
  split at q1
  · next ds =>
    obtain ⟨a, xs, rfl, s, r⟩ := d1.tuple_of
    refine ⟨a, rfl, ⟨_, SqT.mono hp_same s⟩, k _ _ _ _ q1 f1 E1 ?_⟩
    refine ⟨_, _, by rw [← r.length]; exact walk_tup (xs := xs), fun A' H2 s2 => SqT.mono hp_same (SqT.mono s2 s), fun i d A' H2 x H3 hd s2 oc y => ?_⟩
    obtain ⟨rfl, hx⟩ := y
    obtain ⟨d', e, q⟩ := r.get hx
    rw [hd] at e
    cases e
    exact ⟨Same.refl _, q.mono s2⟩
  · exact q1.elim
def signs (z : Str) : List PyData := z.cps.toList.map fun c => .str ⟨#[c]⟩
def iS (f : FE) : FA := fun ρ P => f ρ fun d ρ1 => strF d fun z => P (signs z) ρ1
theorem ri_str {te : TE} {f : FE} (h : RE K J te f) : RI K J (iStr te) (iS f) := by
  intro O as σ H R ρ P E q k
  refine h O as σ H _ ρ _ E q fun d ρ1 v H1 q1 f1 E1 d1 => ?_
  unfold strF at q1
  split at q1
  · next z =>
    cases d1
    refine ⟨z, rfl, k _ _ _ _ q1 f1 E1 ?_⟩
    refine ⟨_, _, by rw [signs, List.length_map, Array.length_toList]; exact walk_str (z := z), fun _ _ _ => trivial, fun i d A' H2 x H3 hd s2 oc y => ?_⟩
    obtain ⟨rfl, c, hc, rfl⟩ := y
    rw [signs, List.getElem?_map, Array.getElem?_toList, hc] at hd
    cases hd
    exact ⟨Same.refl _, .str _⟩
  · exact q1.elim
def rangeD (lo : Int) (m : Nat) : List PyData := (List.range m).map fun k : Nat => .int (lo + (k : Int))
theorem isIt_range {A : Addr → Prop} {H : Hp} {lo : Int} {m : Nat} : IsIt K A (Itr lo m) H (rangeD lo m) := by
  refine ⟨_, _, by rw [rangeD, List.length_map, List.length_range]; exact walk_range (lo := lo) (n := m), fun _ _ _ => trivial, fun i d A' H2 x H3 hd s2 oc y => ?_⟩
  obtain ⟨rfl, rfl⟩ := y
  rw [rangeD, List.getElem?_map] at hd
  have hi : i < m := by
    by_cases h : i < m
    · exact h
    · rw [List.getElem?_eq_none (by rw [List.length_range]; omega)] at hd; cases hd
  rw [List.getElem?_range hi] at hd
  cases hd
  exact ⟨Same.refl _, .int _⟩
def iR1 (f : FA) : FA := fun ρ P => f ρ fun ds ρ1 => match ds with
  | [.int j] => -(2 ^ 62) ≤ j ∧ j < 2 ^ 62 ∧ P (rangeD 0 j.toNat) ρ1
  | _ => False
theorem ri_rng1 {ta : TA} {f : FA} (h : RA K J ta f) : RI K J (iRng1 ta) (iR1 f) := by
  intro O as σ H R ρ P E q k
  refine h O as σ H _ ρ _ E q fun ds ρ1 vs H1 q1 f1 E1 d1 => ?_
  split at q1
  · cases d1 with
    | cons a b => cases a; cases b; exact ⟨_, rfl, q1.1, q1.2.1, k _ _ _ _ q1.2.2 f1 E1 isIt_range⟩
  · exact q1.elim
def iR2 (f : FA) : FA := fun ρ P => f ρ fun ds ρ1 => match ds with
  | [.int i, .int j] => (-(2 ^ 62) ≤ i ∧ i < 2 ^ 62 ∧ -(2 ^ 62) ≤ j ∧ j < 2 ^ 62) ∧ P (rangeD i (j - i).toNat) ρ1
  | _ => False
theorem ri_rng2 {ta : TA} {f : FA} (h : RA K J ta f) : RI K J (iRng2 ta) (iR2 f) := by
  intro O as σ H R ρ P E q k
  refine h O as σ H _ ρ _ E q fun ds ρ1 vs H1 q1 f1 E1 d1 => ?_
  split at q1
  · cases d1 with
    | cons a b => cases a; cases b with
      | cons a b => cases a; cases b; exact ⟨_, _, rfl, q1.1, k _ _ _ _ q1.2 f1 E1 isIt_range⟩
  · exact q1.elim
def downD (lo : Int) (m : Nat) : List PyData := (List.range m).map fun k : Nat => .int (lo - (k : Int))
/-- range(i, j, -1) -/
def iR3 (f : FA) : FA := fun ρ P => f ρ fun ds ρ1 => match ds with
  | [.int i, .int j, .int c] => c = -1 ∧ (-(2 ^ 62) ≤ i ∧ i < 2 ^ 62 ∧ -(2 ^ 62) ≤ j ∧ j < 2 ^ 62) ∧ P (downD i (i - j).toNat) ρ1
  | _ => False
theorem yPair {A A' : Addr → Prop} {H H1 H2 : Hp} {T : Addr} {x y : V} {a b : PyData} (hT : H1 T = none) (e : H2 = upd H1 T (.tup [x, y])) (oc : ∀ c, A' c → H1 c ≠ none) (hx : Dq K (hp A' H1) x a) (hy : Dq K (hp A' H1) y b) :
    Same H1 H2 ∧ Dq K (hp A' H2) (.ref T) (.tuple [a, b]) := by
  subst e
  have s := Same.new (o := .tup [x, y]) hT
  exact ⟨s, .tup (SqT.of (hp_mk (fun q => oc _ q hT) upd_same)) (.cons (hx.mono (hp_grow s)) (.cons (hy.mono (hp_grow s)) .nil))⟩
def enumD (ds : List PyData) : List PyData := ds.zipIdx.map fun z => .tuple [.int (z.2 : Nat), z.1]
def iE (f : FA) : FA := fun ρ P => f ρ fun ds ρ1 => match ds with
  | [.list es] => P (enumD es) ρ1
  | _ => False
theorem ri_enum {ta : TA} {f : FA} (h : RA K J ta f) : RI K J (iEnum K ta) (iE f) := by
  intro O as σ H R ρ P E q k
  refine h O as σ H _ ρ _ E q fun ds ρ1 vs H1 q1 f1 E1 d1 => ?_
  split at q1
  · next es =>
    cases d1 with
    | cons d1 b =>
      cases b
      obtain ⟨a, xs, rfl, s, r⟩ := d1.list_of
      refine ⟨a, xs, rfl, SqL.mono hp_same s, k _ _ _ _ q1 f1 E1 ?_⟩
      refine ⟨_, _, by rw [enumD, List.length_map, List.length_zipIdx, ← r.length]; exact walk_enum (xs := xs), fun A' H2 s2 => SqL.mono hp_same (SqL.mono s2 s), fun i d A' H2 x H3 hd s2 oc y => ?_⟩
      obtain ⟨T, x1, y1, rfl, hT, e, e1, e2⟩ := y
      cases e1
      obtain ⟨d', e', q'⟩ := r.get e2
      rw [enumD, List.getElem?_map, List.getElem?_zipIdx, e'] at hd
      simp only [Option.map_some, Nat.zero_add] at hd
      cases hd
      exact yPair (A := fun _ => False) (H := H) hT e oc (.int _) (q'.mono s2)
  · exact q1.elim
def zipD (a b : List PyData) : List PyData := (a.zip b).map fun z => .tuple [z.1, z.2]
def iZ (f : FA) : FA := fun ρ P => f ρ fun ds ρ1 => match ds with
  | [.list es, .list gs] => P (zipD es gs) ρ1
  | [.tuple es, .tuple gs] => P (zipD es gs) ρ1
  | _ => False
theorem zipD_get {es gs : List PyData} {i : Nat} {d d1 d2 : PyData} (h : (zipD es gs)[i]? = some d) (h1 : es[i]? = some d1) (h2 : gs[i]? = some d2) : d = .tuple [d1, d2] := by
  rw [zipD, List.getElem?_map, (List.getElem?_zip_eq_some (z := (d1, d2))).mpr ⟨h1, h2⟩] at h
  cases h
  rfl
theorem zipD_len {es gs : List PyData} : (zipD es gs).length = min es.length gs.length := by rw [zipD, List.length_map, List.length_zip]
theorem ri_zip {ta : TA} {f : FA} (h : RA K J ta f) : RI K J (RZ.iZipA K ta) (iZ f) := by
  intro O as σ H R ρ P E q k
  refine h O as σ H _ ρ _ E q fun ds ρ1 vs H1 q1 f1 E1 d1 => ?_
  split at q1
  · next es gs =>
    cases d1 with
    | cons d1 b => cases b with
      | cons d2 b =>
        cases b
        obtain ⟨a, xs, rfl, s, r⟩ := d1.list_of
        obtain ⟨a', xs', rfl, s', r'⟩ := d2.list_of
        refine ⟨a, a', xs, xs', rfl, .inl ⟨SqL.mono hp_same s, SqL.mono hp_same s', k _ _ _ _ q1 f1 E1 ?_⟩⟩
        refine ⟨_, _, walk_zip (xs := xs) (ys := xs') (n := (zipD es gs).length) (by rw [zipD_len, ← r.length, ← r'.length]), fun A' H2 s2 => ⟨SqL.mono hp_same (SqL.mono s2 s), SqL.mono hp_same (SqL.mono s2 s')⟩, fun i d A' H2 x H3 hd s2 oc y => ?_⟩
        obtain ⟨T, x1, y1, rfl, hT, e, e1, e2⟩ := y
        obtain ⟨c1, g1, q1'⟩ := r.get e1
        obtain ⟨c2, g2, q2'⟩ := r'.get e2
        rw [zipD_get hd g1 g2]
        exact yPair (A := fun _ => False) (H := H) hT e oc (q1'.mono s2) (q2'.mono s2)
  · next es gs =>
    cases d1 with
    | cons d1 b => cases b with
      | cons d2 b =>
        cases b
        obtain ⟨a, xs, rfl, s, r⟩ := d1.tuple_of
        obtain ⟨a', xs', rfl, s', r'⟩ := d2.tuple_of
        refine ⟨a, a', xs, xs', rfl, .inr ⟨SqT.mono hp_same s, SqT.mono hp_same s', k _ _ _ _ q1 f1 E1 ?_⟩⟩
        refine ⟨_, _, walk_zipT (xs := xs) (ys := xs') (n := (zipD es gs).length) (by rw [zipD_len, ← r.length, ← r'.length]), fun A' H2 s2 => ⟨SqT.mono hp_same (SqT.mono s2 s), SqT.mono hp_same (SqT.mono s2 s')⟩, fun i d A' H2 x H3 hd s2 oc y => ?_⟩
        obtain ⟨T, x1, y1, rfl, hT, e, e1, e2⟩ := y
        obtain ⟨c1, g1, q1'⟩ := r.get e1
        obtain ⟨c2, g2, q2'⟩ := r'.get e2
        rw [zipD_get hd g1 g2]
        exact yPair (A := fun _ => False) (H := H) hT e oc (q1'.mono s2) (q2'.mono s2)
  · exact q1.elim
/-! for, while -/
/-- slots forgotten -/
def fgt (ρ : En) : List Nat → En
  | [] => ρ
  | v :: vs => fgt (if slotL ρ v then ρ.set v .no else ρ) vs
theorem EnR.forget1 {O : Addr → Prop} {as : As} {H : Hs} {ρ : En} {σ : L2.St} {v : Nat} (R : EnR K J O as H ρ σ) (hv : n ≤ v) : ∃ as', Ext n as as' H H ∧ EnR K J O as' H (if slotL ρ v then ρ.set v .no else ρ) σ := by
  have self : ∀ {ρ : En} {as : As}, EnR K J O as H ρ σ → slotF ρ v = true → EnR K J O as H (ρ.set v .no) σ := fun {ρ as} R h => by
    obtain ⟨sl, e, _, ns⟩ := slotF_of h
    obtain ⟨o, eo, _⟩ := R.at' e ns
    have := R.setNo h o
    rw [show σ.set v o = σ from by
      refine List.ext_getElem? fun j => ?_
      rw [List.getElem?_set]
      by_cases z : v = j
      · subst z
        rw [if_pos rfl, eo, if_pos (List.getElem?_eq_some_iff.mp eo).1]
      · rw [if_neg z]] at this
    exact this
  cases e : ρ[v]? with
  | none =>
    rw [if_neg (by unfold slotL; rw [e]; exact Bool.false_ne_true)]
    exact ⟨as, .refl, R⟩
  | some sl =>
    by_cases st : ∃ S, sl = .st S
    · obtain ⟨S, rfl⟩ := st
      rw [if_neg (by unfold slotL; rw [e]; exact Bool.false_ne_true)]
      exact ⟨as, .refl, R⟩
    have ns : ∀ S, sl ≠ .st S := fun S z => st ⟨S, z⟩
    rw [if_pos (by
      unfold slotL
      rw [e]
      cases sl with
      | st S => exact absurd rfl (ns S)
      | _ => rfl)]
    cases sl with
    | no => exact ⟨as, .refl, self R (by unfold slotF; rw [e])⟩
    | fz d => exact ⟨as, .refl, self R (by unfold slotF; rw [e])⟩
    | own ds =>
      obtain ⟨o, eo, _⟩ := R.at' e ns
      exact ⟨_, Ext.go hv (R.nst_at (R.lt e ns)), R.letGo hv eo .no⟩
    | st S => exact absurd rfl (ns S)
theorem EnR.forget {O : Addr → Prop} {H : Hs} {σ : L2.St} : ∀ (vs : List Nat) {as : As} {ρ : En}, EnR K J O as H ρ σ → (∀ v ∈ vs, n ≤ v) → ∃ as', Ext n as as' H H ∧ EnR K J O as' H (fgt ρ vs) σ
  | [], as, ρ, R, _ => ⟨as, .refl, R⟩
  | v :: vs, as, ρ, R, h => by
    obtain ⟨a1, x1, R1⟩ := R.forget1 (h v (List.mem_cons_self ..))
    obtain ⟨a2, x2, R2⟩ := EnR.forget vs R1 (fun u hu => h u (List.mem_cons_of_mem _ hu))
    exact ⟨a2, x1.trans x2, R2⟩
/-- a loop over data from now on; the slots us are forgotten at each turn's end -/
def forW (us : List Nat) (ds : List PyData) (g : FG) (b : FS) (E : FEnds) (ρ : En) : Prop := ∃ W : Nat → En → Prop, W 0 (fgt ρ us) ∧ (∀ i d ρ2, ds[i]? = some d → W i ρ2 → g d ρ2 fun ρ3 => b { E with nx := fun ρ4 => W (i + 1) (fgt ρ4 us), ct := fun ρ4 => W (i + 1) (fgt ρ4 us), bk := E.nx } ρ3) ∧ ∀ ρ2, W ds.length ρ2 → E.nx ρ2
def fFor (us : List Nat) (fi : FA) (g : FG) (b : FS) : FS := fun E ρ => fi ρ fun ds ρ1 => forW us ds g b E ρ1
theorem rs_for {us ws : List Nat} {wi : TI} {g : TG} {tb : TS} {fi : FA} {fg : FG} {b : FS} (hu : ∀ u ∈ us, n ≤ u) (hi : RI K J wi fi) (hg : RG K J ws g fg) (hb : RS K J tb b) : RS K J (tFor wi g tb) (fFor us fi fg b) := by
  intro O as σ H D ρ E R f C
  refine hi O as σ H _ ρ _ R f fun ds ρ1 I H1 q1 f1 E1 it => ?_
  obtain ⟨W, w0, ws', we⟩ := q1
  obtain ⟨G, Y, wk, hG, hY⟩ := it
  have C1 := C.ext (.of f1)
  obtain ⟨a0, x0, R0⟩ := E1.forget us hu
  refine for_it wk (fun i σ' H' => ∃ S' as' ρ', Ext n as as' H1 ⟨H', S'⟩ ∧ EnR K J O as' ⟨H', S'⟩ ρ' σ' ∧ W i ρ') ⟨_, a0, _, x0, R0, w0⟩ (fun i σ' H' _ ⟨S', as', ρ', x, _, _⟩ => hG (Hid O as' ⟨H', S'⟩) _ x.same) ?_ ?_
  · rintro i x σ2 H2' H3 hi' ⟨S2, as', ρ', x2, E2, w⟩ y
    obtain ⟨H2, hH2⟩ : ∃ H2 : Hs, H2 = ⟨H2', S2⟩ := ⟨_, rfl⟩
    rw [← hH2] at x2 E2
    have y' := y
    rw [show H2' = H2.hp from by rw [hH2]] at y
    obtain ⟨s3, d3⟩ := hY i _ (Hid O as' H2) H2 x H3 (List.getElem?_eq_getElem hi') x2.same (fun c h => E2.full h) y
    have x3 : Ext n as' as' H2 (H2.w H3) := .of (E2.frS s3)
    refine hg O as' σ2 (H2.w H3) _ ρ' _ x _ (E2.grow s3) (d3.mono (E2.toS s3)) (ws' i _ ρ' (List.getElem?_eq_getElem hi') w) fun ρ4 σ4 H4 p4 f4 E4 _ => ?_
    have x4 := (x2.trans x3).trans (Ext.of (n := n) f4)
    have C4 := C1.ext x4
    have fin : ∀ ρ5 as5 σ5 H5, W (i + 1) (fgt ρ5 us) → Ext n as' as5 H4 H5 → EnR K J O as5 H5 ρ5 σ5 → ∃ S' as' ρ', Ext n as as' H1 ⟨H5.hp, S'⟩ ∧ EnR K J O as' ⟨H5.hp, S'⟩ ρ' σ5 ∧ W (i + 1) ρ' := fun ρ5 as5 σ5 H5 p5 x5 E5 => by
      obtain ⟨a6, x6, R6⟩ := E5.forget us hu
      exact ⟨H5.st, a6, _, (x4.trans x5).trans x6, R6, p5⟩
    refine hb O as' σ4 H4 _ ρ4 _ E4 p4 ⟨fin, C4.rt, C4.nx, fin, C4.ro⟩
  · rintro σ2 H2 ⟨S2, as', ρ', x2, E2, w⟩
    exact C1.nx _ _ _ _ (we _ w) x2 E2
def whileW (us : List Nat) (c : FT) (b : FS) (E : FEnds) (ρ : En) : Prop := ∃ W : Nat → En → Prop, (∃ m, W m (fgt ρ us)) ∧ ∀ m ρ1, W m ρ1 → c ρ1 fun k ρ2 => if k = true then b { E with nx := fun ρ' => ∃ m', m' < m ∧ W m' (fgt ρ' us), ct := fun ρ' => ∃ m', m' < m ∧ W m' (fgt ρ' us), bk := E.nx } ρ2 else E.nx ρ2
def fWhile (us : List Nat) (c : FT) (b : FS) : FS := fun E ρ => whileW us c b E ρ
/-! comprehensions -/
def wipeF (ρ : En) : List Nat → En
  | [] => ρ
  | v :: vs => (wipeF ρ vs).set v .no
theorem wipe_at (σ : L2.St) (j : Nat) : ∀ vs : List Nat, (wipe σ vs)[j]? = if j ∈ vs ∧ j < σ.length then some none else σ[j]?
  | [] => by simp [wipe]
  | v :: vs => by
    rw [wipe, List.getElem?_set, wipe_length, wipe_at σ j vs]
    by_cases e : v = j
    · subst e
      by_cases h : v < σ.length
      · simp [h]
      · simp [h]
    · rw [if_neg e]
      simp [show ¬ j = v from fun z => e z.symm]
theorem wipe_eq {σ σ' : L2.St} {vs : List Nat} (hl : σ'.length = σ.length) (h : ∀ j, j ∉ vs → σ'[j]? = σ[j]?) : wipe σ' vs = wipe σ vs := by
  refine List.ext_getElem? fun j => ?_
  rw [wipe_at, wipe_at, hl]
  by_cases q : j ∈ vs
  · by_cases z : j < σ.length
    · rw [if_pos ⟨q, z⟩, if_pos ⟨q, z⟩]
    · rw [if_neg (fun w => z w.2), if_neg (fun w => z w.2), List.getElem?_eq_none (by omega), List.getElem?_eq_none (by omega)]
  · rw [if_neg (fun w => q w.1), if_neg (fun w => q w.1)]
    exact h j q
theorem slotF_set {ρ : En} {i j : Nat} (h : slotF ρ j = true) : slotF (ρ.set i .no) j = true := by
  obtain ⟨sl, q, _⟩ := slotF_of h
  have hj : j < ρ.length := (List.getElem?_eq_some_iff.mp q).1
  unfold slotF at *
  rw [List.getElem?_set]
  by_cases e : i = j
  · subst e
    simp [hj]
  · rw [if_neg e]
    exact h
theorem EnR.wipes {O : Addr → Prop} {as : As} {H : Hs} {ρ : En} {σ : L2.St} (E : EnR K J O as H ρ σ) : ∀ vs : List Nat, vs.all (slotF ρ) = true → EnR K J O as H (wipeF ρ vs) (wipe σ vs) ∧ ∀ j, slotF ρ j = true → slotF (wipeF ρ vs) j = true
  | [], _ => ⟨E, fun _ h => h⟩
  | v :: vs, h => by
    have h' : (slotF ρ v && vs.all (slotF ρ)) = true := h
    rw [Bool.and_eq_true] at h'
    obtain ⟨E1, k⟩ := EnR.wipes E vs h'.2
    exact ⟨E1.setNo (k v h'.1) none, fun j hj => slotF_set (k j hj)⟩
theorem wipeF_len (ρ : En) : ∀ vs : List Nat, (wipeF ρ vs).length = ρ.length
  | [] => rfl
  | v :: vs => by rw [wipeF, List.length_set, wipeF_len ρ vs]
theorem wipeF_at (ρ : En) (j : Nat) : ∀ vs : List Nat, (wipeF ρ vs)[j]? = if j ∈ vs ∧ j < ρ.length then some .no else ρ[j]?
  | [] => by simp [wipeF]
  | v :: vs => by
    rw [wipeF, List.getElem?_set, wipeF_len, wipeF_at ρ j vs]
    by_cases e : v = j
    · subst e
      by_cases h : v < ρ.length
      · simp [h]
      · simp [h]
    · rw [if_neg e]
      simp [show ¬ j = v from fun z => e z.symm]
/-- slots that are known of nothing may hold anything -/
theorem EnR.unwipe {O : Addr → Prop} {as : As} {H : Hs} {ρ : En} {σ σ' : L2.St} {vs : List Nat} (E : EnR K J O as H (wipeF ρ vs) (wipe σ vs)) (h : ∀ j, j ∈ vs → as j = none) (hl : σ'.length = σ.length) (h' : ∀ j, j ∉ vs → σ'[j]? = σ[j]?) :
    EnR K J O as H (wipeF ρ vs) σ' := by
  have L := E.len
  rw [wipeF_len, wipe_length] at L
  refine ⟨by rw [wipeF_len, hl]; exact L, fun j sl h1 h2 => E.tl j sl h1 (by rw [wipe_length, ← hl]; exact h2), fun j sl o h1 h2 => ?_, fun j h => by rw [hl, ← wipe_length σ vs]; exact E.sto j h, E.inj, E.out, E.bnd, E.occ, E.inv, E.inq, E.tab⟩
  by_cases q : j ∈ vs
  · rw [wipeF_at] at h1
    have hj : j < ρ.length := by
      have := (List.getElem?_eq_some_iff.mp h2).1
      omega
    rw [if_pos ⟨q, hj⟩] at h1
    cases h1
    rw [h j q]
    exact .no
  · refine E.at_ j sl o h1 ?_
    rw [wipe_at, if_neg (fun w => q w.1), ← h' j q]
    exact h2
/-- since a state in which nothing was at D -/
def Jv.hide {n : Nat} (J : Jv n) (D : Addr) : Jv n := ⟨fun as H => ∃ as0 H0, J.P as0 H0 ∧ H0 D = none ∧ Ext n as0 as H0 H, fun as as' H H' p x => by
  obtain ⟨a0, H0, h1, h2, h3⟩ := p
  exact ⟨a0, H0, h1, h2, h3.trans x⟩, J.Q, J.up⟩
theorem Jv.hide_le {n : Nat} {J : Jv n} {D : Addr} : (J.hide D).le J := ⟨fun _ _ ⟨_, _, h, _, x⟩ => J.cl _ _ _ _ h x, fun _ h => h⟩
theorem Jv.hide_new {n : Nat} {J : Jv n} {D : Addr} {as : As} {H H' : Hs} (h : J.P as H) (e : H D = none) (f : Fr as H H') : (J.hide D).P as H' := ⟨as, H, h, e, .of f⟩
theorem Ext.putN {n : Nat} {as as' : As} {H H' : Hs} {D : Addr} {o : HO} (x : Ext n as as' H H') (e : H D = none) (st : Stay as' H' (H'.w (upd H' D o))) : Ext n as as' H (H'.w (upd H' D o)) :=
  ⟨fun a u na h => by show upd H' D o a = _; rw [upd_ne (ne_of_none h e)]; exact x.fr a u na h, fun a h => x.new a (st.own.mp h), x.fix, fun a h => liv_upd _ a (x.liv a h), x.ks, x.nst⟩
theorem Fr.putN {as : As} {H H' : Hs} {D : Addr} {o : HO} (x : Fr as H H') (e : H D = none) (st : Stay as H' (H'.w (upd H' D o))) : Fr as H (H'.w (upd H' D o)) := by
  have y := (Ext.of (n := 0) x).putN e st
  exact ⟨y.fr, y.new, y.liv, y.nst⟩
theorem EnR.stayO {O : Addr → Prop} {as : As} {H : Hs} {ρ : En} {σ : L2.St} {D : Addr} {o : HO} (E : EnR K J O as H ρ σ) (h : O D) : Stay as H (H.w (upd H D o)) := ⟨fun i r b e q => upd_ne fun z => E.out i r b e q (by rw [z]; exact h), rfl⟩
theorem Jv.hide_put {n : Nat} {J : Jv n} {D : Addr} {as : As} {H : Hs} {o : HO} (h : (J.hide D).P as H) (st : Stay as H (H.w (upd H D o))) : (J.hide D).P as (H.w (upd H D o)) := by
  obtain ⟨a0, H0, h1, h2, h3⟩ := h
  exact ⟨a0, H0, h1, h2, h3.putN h2 st⟩
def lcW (ds : List PyData) (g : FG) (ft : FT) (fe : FE) (vs : List Nat) (ρ : En) (P : List PyData → En → Prop) : Prop := vs.all (slotF ρ) = true ∧ ∃ W : Nat → List PyData → En → Prop, W 0 [] (wipeF ρ vs) ∧
  (∀ i d acc ρ2, ds[i]? = some d → W i acc ρ2 → g d ρ2 fun ρ3 => ft ρ3 fun b ρ4 => if b = true then fe ρ4 fun y ρ5 => acc.length < sizeLine ∧ vs.all (slotF ρ5) = true ∧ W (i + 1) (acc ++ [y]) (wipeF ρ5 vs) else vs.all (slotF ρ4) = true ∧ W (i + 1) acc (wipeF ρ4 vs)) ∧
  ∀ acc ρ2, W ds.length acc (wipeF ρ2 vs) → P acc (wipeF ρ2 vs)
def fLc (fi : FA) (g : FG) (ft : FT) (fe : FE) (vs : List Nat) : FA := fun ρ P => fi ρ fun ds ρ1 => lcW ds g ft fe vs ρ1 P
theorem rn_lc {ws vs : List Nat} {wi : TI} {g : TG} {tt : TT} {te : TE} {fi : FA} {fg : FG} {ft : FT} {fe : FE} (hw : ∀ j ∈ ws, j ∈ vs) (hi : RI K J wi fi) (hg : ∀ J' : Jv n, J'.le J → RG K J' ws g fg) (ht : ∀ J' : Jv n, J'.le J → RT K J' tt ft) (he : ∀ J' : Jv n, J'.le J → RE K J' te fe) : RN K J (tLc wi g tt te vs) (fLc fi fg ft fe vs) := by
  intro O as σ H Q ρ P E q k
  refine hi O as σ H _ ρ _ E q fun ds ρ1 I H1 q1 f1 E1 it => ?_
  obtain ⟨hv, W, w0, ws', we⟩ := q1
  obtain ⟨G, Y, wk, hG, hY⟩ := it
  intro D hD
  have hvn : ∀ j, j ∈ vs → as j = none := fun j hj => E1.none_of (List.all_eq_true.mp hv j hj)
  have sO : ∀ {H2 : Hs}, Fr as H1 H2 → Same (hq O as H1) (hq (plus O D) as H2) := fun f a o e => by
    obtain ⟨na, e⟩ := hp_some e
    refine hp_mk (fun z => ?_) (f.fr a o (fun z => na (.inr z)) e)
    rcases z with (z | z) | z
    · exact na (.inl z)
    · rw [z, hD] at e; cases e
    · rcases f.new a z with z | z
      · exact na (.inr z)
      · rw [z] at e; cases e
  have hD0 : H D = none := by
    cases e : H D with
    | none => rfl
    | some o => exact absurd hD (f1.liv D (by rw [e]; exact Option.some_ne_none _))
  refine lc_it wk (fun i H2 => ∃ S2 acc ρ2 xs, Fr as H1 ⟨H2, S2⟩ ∧ EnR K (J.hide D) (plus O D) as ⟨H2, S2⟩ (wipeF ρ2 vs) (wipe σ vs) ∧ H2 D = some (.lst xs) ∧ DqAll K (hq (plus O D) as ⟨H2, S2⟩) xs acc ∧ W i acc (wipeF ρ2 vs)) ?_ (fun i H2 _ ⟨S2, acc, ρ2, xs, f2, _⟩ => hG (Hid (plus O D) as ⟨H2, S2⟩) _ (sO f2)) ?_ ?_
  · exact ⟨_, [], ρ1, [], E1.frS (Same.new hD), (((E1.addO (o := .lst []) hD).1.reJ (Jv.hide_new E1.inv hD (E1.frS (Same.new hD))) (J.up _ _ (fun _ z => .inl z) E1.inq)).wipes vs hv).1, upd_same, .nil, w0⟩
  · rintro i x H2' H3 hi' ⟨S2, acc, ρ2, xs, f2, E2, hx, dx, w⟩ y
    obtain ⟨H2, hH2⟩ : ∃ H2 : Hs, H2 = ⟨H2', S2⟩ := ⟨_, rfl⟩
    rw [← hH2] at f2 E2 dx
    rw [show H2' = H2.hp from by rw [hH2]] at y hx
    obtain ⟨s3, d3⟩ := hY i _ (Hid (plus O D) as H2) H2 x H3 (List.getElem?_eq_getElem hi') (sO f2) (fun c h => E2.full h) y
    have E3 := E2.grow s3
    refine hg _ Jv.hide_le (plus O D) as _ (H2.w H3) _ _ _ x _ E3 (d3.mono (E2.toS s3)) (ws' i _ acc _ (List.getElem?_eq_getElem hi') w) fun ρ4 σ4 H4 p4 f4 E4 z4 => ?_
    have len4 : σ4.length = σ.length := by rw [z4.1, wipe_length]
    have z4' : ∀ j, j ∉ vs → σ4[j]? = σ[j]? := fun j hj => by
      rw [z4.2 j (fun z => hj (hw j z)), wipe_at, if_neg (fun w => hj w.1)]
    refine ⟨wipe_eq len4 z4', ?_⟩
    refine ht _ Jv.hide_le (plus O D) as σ4 H4 _ ρ4 _ E4 p4 fun b ρ5 H5 q5 f5 E5 => ?_
    cases b
    · obtain ⟨v5, w5⟩ := q5
      have E6 := ((E5.wipes vs v5).1)
      rw [wipe_eq len4 z4'] at E6
      have f35 := (E2.frS s3).trans (f4.trans f5)
      exact ⟨H5.st, acc, ρ5, xs, f2.trans f35, E6, f35.fr _ _ (E2.newp hx) hx, dx.fr f35, w5⟩
    · refine he _ Jv.hide_le (plus O D) as σ4 H5 _ ρ5 _ E5 q5 fun d ρ6 v H6 q6 f6 E6 d6 => ?_
      obtain ⟨l6, v6, w6⟩ := q6
      have f36 := (E2.frS s3).trans ((f4.trans f5).trans f6)
      have hx6 := f36.fr _ _ (E2.newp hx) hx
      have dx6 := dx.fr f36
      obtain ⟨E7, s7⟩ := E6.putO (p := D) (ys := xs ++ [v]) (.inr rfl) hx6 (Jv.hide_put E6.inv (E6.stayO (.inr rfl)))
      have E8 := ((E7.wipes vs v6).1)
      rw [wipe_eq len4 z4'] at E8
      refine ⟨xs, hx6, by rw [dx.length]; exact l6, H6.st, acc ++ [d], ρ6, xs ++ [v], (f2.trans f36).putN hD (E6.stayO (.inr rfl)), E8, upd_same, (dx6.mono s7).append (.cons (d6.mono s7) .nil), w6⟩
  · rintro H2 ⟨S2, acc, ρ2, xs, f2, E2, hx, dx, w⟩
    have E3 := (E2.unwipe hvn (σ' := σ) rfl fun j hj => rfl).reJ (Jv.hide_le.1 _ _ E2.inv) (Jv.hide_le.2 _ E2.inq)
    exact k _ _ _ _ _ (we acc ρ2 w) (f1.trans f2) (.inl hD0) E3 hx dx
end
end DL
/-! calls of defs, own lists, the def itself -/
namespace DL
open PySem L2 Z PySem.Spec PyProof.Rows
variable [Tbs]
section
variable {K : PySem.W.Frag} {n : Nat} {J : Jv n}
/-- how a slot's own stands -/
def RgR (K : PySem.W.Frag) (G : Hp) (H : Hs) : Rg → Sl → Prop
  | .lf a, sl => SlR K G H.hp (some (.lf a)) sl (some (.ref a))
  | .sto, sl => sl = .st H.st ∧ StoR K G H.hp H.st
theorem RgR.mono {G G' : Hp} {H : Hs} (s : Same G G') {r : Rg} {sl : Sl} (h : RgR K G H r sl) : RgR K G' H r sl := by
  cases r with
  | lf a => exact SlR.mono s (fun _ _ => rfl) h
  | sto => exact ⟨h.1, h.2.move s fun _ _ => rfl⟩
theorem RgR.nod {G : Hp} {H : Hs} {r : Rg} {sl : Sl} (h : RgR K G H r sl) {b : Addr} (q : Rgn H r b) : Nod H.hp b := by
  cases r with
  | lf a =>
    cases h with
    | own e _ => rw [q.lf_of]; exact ⟨_, e, fun _ z => by cases z⟩
  | sto =>
    obtain ⟨o, e⟩ := Option.ne_none_iff_exists'.mp (show H.st b ≠ none from q)
    obtain ⟨u, e1, q1⟩ := h.2 b o e
    exact ⟨u, e1, q1.ntb⟩
/-- what comes back of what slots own -/
structure Bk (K : PySem.W.Frag) (O : Addr → Prop) (as : As) (H : Hs) (out : List Sl) : Prop where
  tab : TabsOk H.hp
  at_ : ∀ (i : Nat) (r : Rg), as i = some r → ∃ sl, out[i]? = some sl ∧ RgR K (hq O as H) H r sl
  inj : ∀ (i j : Nat) (r r' : Rg) (b : Addr), as i = some r → as j = some r' → Rgn H r b → Rgn H r' b → i = j
  out : ∀ (i : Nat) (r : Rg) (b : Addr), as i = some r → Rgn H r b → ¬ O b
theorem EnR.reg_at {O : Addr → Prop} {as : As} {H : Hs} {ρ : En} {σ : L2.St} (E : EnR K J O as H ρ σ) {i : Nat} {r : Rg} (h : as i = some r) : ∃ sl, ρ[i]? = some sl ∧ RgR K (hq O as H) H r sl := by
  rcases E.is_reg h with ⟨a, ds, xs, rfl, e1, _, e2, e3⟩ | ⟨rfl, _, e1, e2⟩
  · exact ⟨_, e1, .own e2 e3⟩
  · exact ⟨_, e1, rfl, e2⟩
/-- the store's slot, told by how many slots are ahead -/
def shA (as : As) (m N : Nat) : As := fun i => if i < m then as i else if i = N then as m else none
/-- what the parameters own, behind a run -/
theorem EnR.back {n' : Nat} {J' : Jv n'} {O : Addr → Prop} {as as' : As} {H' : Hs} {ρ' : En} {σ' : L2.St} {m N : Nat} (R : EnR K J' O as' H' ρ' σ') (hm : m ≤ N) (hb : ∀ i r, as i = some r → (i < m ∧ r ≠ .sto) ∨ (i = m ∧ r = .sto)) (hx : ∀ i, i < m → as' i = as i) (ks : as' N = some .sto ↔ as m = some .sto) : Bk K O as H' (ρ'.take m ++ ρ'.drop N) ∧ Same (hq O as' H') (hq O as H') := by
  have up : ∀ i r, as i = some r → ∃ j, as' j = some r ∧ ((i < m ∧ j = i) ∨ (i = m ∧ j = N)) := fun i r h => by
    rcases hb i r h with ⟨z, _⟩ | ⟨z, e⟩
    · exact ⟨i, by rw [hx i z]; exact h, .inl ⟨z, rfl⟩⟩
    · subst z; subst e
      exact ⟨N, ks.mpr h, .inr ⟨rfl, rfl⟩⟩
  have s : Same (hq O as' H') (hq O as H') := hp_less fun c hc => by
    rcases hc with hc | ⟨j, r, hc, q⟩ | hc
    · exact .inl hc
    · obtain ⟨j', e, _⟩ := up j r hc
      exact .inr (.inl ⟨j', r, e, q⟩)
    · exact .inr (.inr hc)
  refine ⟨⟨R.tab, fun i r h => ?_, fun i j r r' b h1 h2 q1 q2 => ?_, fun i r b h => ?_⟩, s⟩
  · obtain ⟨j, e, z⟩ := up i r h
    obtain ⟨sl, e1, e3⟩ := R.reg_at e
    refine ⟨sl, ?_, e3.mono s⟩
    have hj := (List.getElem?_eq_some_iff.mp e1).1
    rcases z with ⟨z, rfl⟩ | ⟨rfl, rfl⟩
    · rw [List.getElem?_append_left (by rw [List.length_take]; omega), List.getElem?_take, if_pos z]
      exact e1
    · rw [List.getElem?_append_right (by rw [List.length_take]; omega), List.length_take, Nat.min_eq_left (by omega), Nat.sub_self, List.getElem?_drop]
      exact e1
  · obtain ⟨i', e1, z1⟩ := up i r h1
    obtain ⟨j', e2, z2⟩ := up j r' h2
    have := R.inj i' j' r r' b e1 e2 q1 q2
    omega
  · obtain ⟨j, e, _⟩ := up i r h
    exact R.out j r b e
theorem Ext.frB {n N : Nat} {as as' : As} {H H' : Hs} (x : Ext n (shA as n N) as' H H') (hb : ∀ i r, as i = some r → (i < n ∧ r ≠ .sto) ∨ (i = n ∧ r = .sto)) (hN : n ≤ N) : Fr as H H' := by
  have own : ∀ a, Own (shA as n N) H a ↔ Own as H a := fun a => by
    constructor
    · rintro (⟨j, r, hc, q⟩ | hc)
      · unfold shA at hc
        split at hc
        · exact .inl ⟨j, r, hc, q⟩
        · split at hc
          · exact .inl ⟨n, r, hc, q⟩
          · cases hc
      · exact .inr hc
    · rintro (⟨j, r, hc, q⟩ | hc)
      · rcases hb j r hc with ⟨z, _⟩ | ⟨z, _⟩
        · exact .inl ⟨j, r, by unfold shA; rw [if_pos z]; exact hc, q⟩
        · exact .inl ⟨N, r, by unfold shA; rw [if_neg (by omega), if_pos rfl, ← z]; exact hc, q⟩
      · exact .inr hc
  have sh : ∀ j, shA as n N j = some .sto → ∃ i, as i = some .sto := fun j hj => by
    unfold shA at hj
    split at hj
    · exact ⟨_, hj⟩
    · split at hj
      · exact ⟨_, hj⟩
      · cases hj
  refine ⟨fun a o h e => x.fr a o (fun z => h ((own a).mp z)) e, fun a h => ?_, x.liv, fun h => x.nst fun j hj => (sh j hj).elim fun i z => h i z⟩
  refine (x.new a ?_).imp (own a).mp id
  rcases h with ⟨j, r, hc, q⟩ | hc
  · rcases hb j r hc with ⟨z, _⟩ | ⟨z, e⟩
    · exact .inl ⟨j, r, by rw [x.fix j z]; unfold shA; rw [if_pos z]; exact hc, q⟩
    · subst e
      exact .inl ⟨N, .sto, by rw [x.ks N]; unfold shA; rw [if_neg (by omega), if_pos rfl, ← z]; exact hc, q⟩
  · exact .inr hc
/-- what a def keeps that hands back data; e: whether it is handed the store -/
def spG (K : PySem.W.Frag) (n e : Nat) (F : FN) : Sp := fun vs H Q _ => vs.length = n ∧ ∃ (O : Addr → Prop) (as : As) (S : Sto) (ρ : En) (P : PyData → List Sl → Prop), EnR K (J0 : Jv 0) O as ⟨H, S⟩ ρ (vs.map some) ∧ ρ.length = n + e ∧ F ρ P ∧
  ∀ d out v H', P d out → Fr as ⟨H, S⟩ H' → Bk K O as H' out → Dq K (hq O as H') v d → Q v H'
abbrev spF (K : PySem.W.Frag) (n : Nat) (F : FN) : Sp := spG K n 0 F
abbrev spS (K : PySem.W.Frag) (n : Nat) (F : FN) : Sp := spG K n 1 F
/-! arguments -/
def cNil : FC := fun ρ P => P [] ρ
def cDat (a : FE) (b : FC) : FC := fun ρ P => a ρ fun d ρ1 => b ρ1 fun xs ρ2 => P (.dat d :: xs) ρ2
def cOwn (i : Nat) (b : FC) : FC := fun ρ P => match ρ[i]? with
  | some (.own _) => b ρ fun xs ρ1 => P (.own i :: xs) ρ1
  | _ => False
theorem ArsR.fr {O : Addr → Prop} {as : As} {H H' : Hs} (f : Fr as H H') : ∀ {vs : List V} {xs : List Ar}, ArsR K (hq O as H) as vs xs → ArsR K (hq O as H') as vs xs
  | _, _, .nil => .nil
  | _, _, .cons (.dat q) r => .cons (.dat (q.fr f)) (ArsR.fr f r)
  | _, _, .cons (.own q) r => .cons (.own q) (ArsR.fr f r)
theorem rc_nil : RC K J tNil cNil := fun O as σ H Q ρ P E f k => k [] ρ [] H f (Fr.refl) E .nil
theorem rc_dat {ta : TE} {t : TA} {fa : FE} {f : FC} (ha : RE K J ta fa) (h : RC K J t f) : RC K J (tCons ta t) (cDat fa f) := by
  intro O as σ H Q ρ P E q k
  refine ha O as σ H _ ρ _ E q fun d ρ1 v H1 q1 f1 E1 d1 => ?_
  refine h O as σ H1 _ ρ1 _ E1 q1 fun ds ρ2 vs H2 q2 f2 E2 d2 => ?_
  exact k _ _ _ _ q2 (f1.trans f2) E2 (.cons (.dat (d1.fr f2)) d2)
theorem rc_own {i : Nat} {t : TA} {f : FC} (h : RC K J t f) : RC K J (tCons (tVar i) t) (cOwn i f) := by
  intro O as σ H Q ρ P E q k
  unfold cOwn at q
  split at q
  · next ds hs =>
    obtain ⟨a, xs, e1, e2, e3, e4⟩ := E.own_at hs
    refine ⟨_, e1, ?_⟩
    exact h O as σ H _ ρ _ E q fun ds ρ2 vs H2 q2 f2 E2 d2 => k _ _ _ _ q2 f2 E2 (.cons (.own e2) d2)
  · exact q.elim
def argF (ρ : En) : List Ar → (List Sl → Prop) → Prop
  | [], k => k []
  | .dat d :: xs, k => argF ρ xs fun r => k (.fz d :: r)
  | .own i :: xs, k => match ρ[i]? with
    | some (.own ds) => argF ρ xs fun r => k (.own ds :: r)
    | some (.st S) => argF ρ xs fun r => k (.st S :: r)
    | _ => False
def ownIx : List Ar → List Nat
  | [] => []
  | .dat _ :: xs => ownIx xs
  | .own i :: xs => i :: ownIx xs
/-- what comes back -/
def wb (ρ : En) : List Ar → List Sl → En
  | [], _ => ρ
  | .own i :: xs, r => (wb ρ xs r.tail).set i (r.headD .no)
  | .dat _ :: xs, r => wb ρ xs r.tail
def adrs (as : As) (xs : List Ar) : As := fun j => match xs[j]? with
  | some (.own i) => as i
  | _ => none
theorem adrs_own {as : As} {xs : List Ar} {j : Nat} {a : Rg} (h : adrs as xs j = some a) : ∃ i, xs[j]? = some (.own i) ∧ as i = some a := by
  unfold adrs at h
  split at h
  · next i e => exact ⟨i, e, h⟩
  · cases h
theorem ownIx_mem {i : Nat} : ∀ {xs : List Ar}, i ∈ ownIx xs → ∃ j : Nat, xs[j]? = some (Ar.own i)
  | .dat _ :: xs, h => by
    obtain ⟨j, e⟩ := ownIx_mem (xs := xs) h
    exact ⟨j + 1, e⟩
  | .own k :: xs, h => by
    rcases List.mem_cons.mp h with rfl | h
    · exact ⟨0, rfl⟩
    · obtain ⟨j, e⟩ := ownIx_mem (xs := xs) h
      exact ⟨j + 1, e⟩
theorem mem_ownIx {i : Nat} : ∀ {xs : List Ar} {j : Nat}, xs[j]? = some (.own i) → i ∈ ownIx xs
  | .dat _ :: xs, 0, h => by cases h
  | .dat _ :: xs, j + 1, h => mem_ownIx (xs := xs) (j := j) h
  | .own k :: xs, 0, h => by cases h; exact List.mem_cons_self ..
  | .own k :: xs, j + 1, h => List.mem_cons_of_mem _ (mem_ownIx (xs := xs) (j := j) h)
theorem ownIx_inj {i : Nat} : ∀ {xs : List Ar} {j k : Nat}, (ownIx xs).Nodup → xs[j]? = some (.own i) → xs[k]? = some (.own i) → j = k
  | [], _, _, _, h, _ => by cases h
  | .dat _ :: xs, 0, _, _, h, _ => by cases h
  | .dat _ :: xs, _ + 1, 0, _, _, h => by cases h
  | .dat _ :: xs, j + 1, k + 1, nd, h, h' => by rw [ownIx_inj (xs := xs) nd h h']
  | .own m :: xs, 0, 0, _, _, _ => rfl
  | .own m :: xs, 0, k + 1, nd, h, h' => by cases h; exact absurd (mem_ownIx (xs := xs) (j := k) h') (List.nodup_cons.mp nd).1
  | .own m :: xs, j + 1, 0, nd, h', h => by cases h; exact absurd (mem_ownIx (xs := xs) (j := j) h') (List.nodup_cons.mp nd).1
  | .own m :: xs, j + 1, k + 1, nd, h, h' => by rw [ownIx_inj (xs := xs) (List.nodup_cons.mp nd).2 h h']
theorem wb_len (ρ : En) : ∀ (xs : List Ar) (r : List Sl), (wb ρ xs r).length = ρ.length
  | [], _ => rfl
  | .own i :: xs, r => by rw [wb, List.length_set, wb_len ρ xs r.tail]
  | .dat _ :: xs, r => by rw [wb, wb_len ρ xs r.tail]
theorem wb_other (ρ : En) {i : Nat} : ∀ (xs : List Ar) (r : List Sl), i ∉ ownIx xs → (wb ρ xs r)[i]? = ρ[i]?
  | [], _, _ => rfl
  | .own k :: xs, r, h => by
    have h' := not_or.mp (fun q => h (List.mem_cons.mpr q))
    rw [wb, List.getElem?_set, if_neg (fun z => h'.1 z.symm), wb_other ρ xs r.tail h'.2]
  | .dat _ :: xs, r, h => by rw [wb, wb_other ρ xs r.tail h]
theorem wb_own (ρ : En) {i : Nat} {sl : Sl} (hi : i < ρ.length) : ∀ {xs : List Ar} {r : List Sl} {j : Nat}, (ownIx xs).Nodup → xs[j]? = some (.own i) → r[j]? = some sl → (wb ρ xs r)[i]? = some sl
  | [], _, _, _, h, _ => by cases h
  | _, [], _, _, _, h => by cases h
  | .dat _ :: xs, _, 0, _, h, _ => by cases h
  | .dat _ :: xs, _ :: r, j + 1, nd, h, h' => by rw [wb]; exact wb_own ρ hi (xs := xs) (r := r) (j := j) nd h h'
  | .own k :: xs, s :: r, 0, nd, h, h' => by
    cases h; cases h'
    rw [wb, List.getElem?_set, if_pos rfl, wb_len, if_pos hi]
    rfl
  | .own k :: xs, _ :: r, j + 1, nd, h, h' => by
    have nd' := List.nodup_cons.mp nd
    have hk : k ≠ i := fun z => nd'.1 (by rw [z]; exact mem_ownIx (xs := xs) (j := j) h)
    rw [wb, List.getElem?_set, if_neg hk]
    exact wb_own ρ hi (xs := xs) (r := r) (j := j) nd'.2 h h'
inductive Fits (ρ : En) : List Ar → List Sl → Prop
  | nil : Fits ρ [] []
  | dat {d : PyData} {xs : List Ar} {r : List Sl} : Fits ρ xs r → Fits ρ (.dat d :: xs) (.fz d :: r)
  | own {i : Nat} {ds : List PyData} {xs : List Ar} {r : List Sl} : ρ[i]? = some (.own ds) → Fits ρ xs r → Fits ρ (.own i :: xs) (.own ds :: r)
  | st {i : Nat} {S : Sto} {xs : List Ar} {r : List Sl} : ρ[i]? = some (.st S) → Fits ρ xs r → Fits ρ (.own i :: xs) (.st S :: r)
theorem argF_of {ρ : En} : ∀ {xs : List Ar} {k : List Sl → Prop}, argF ρ xs k → ∃ r, Fits ρ xs r ∧ k r
  | [], k, h => ⟨_, .nil, h⟩
  | .dat d :: xs, k, h => by
    obtain ⟨r, f, q⟩ := argF_of (xs := xs) h
    exact ⟨_, .dat f, q⟩
  | .own i :: xs, k, h => by
    unfold argF at h
    split at h
    · next ds e =>
      obtain ⟨r, f, q⟩ := argF_of (xs := xs) h
      exact ⟨_, .own e f, q⟩
    · next S e =>
      obtain ⟨r, f, q⟩ := argF_of (xs := xs) h
      exact ⟨_, .st e f, q⟩
    · exact h.elim
/-- arguments, behind them the store, or not -/
inductive ArsT (K : PySem.W.Frag) (G : Hp) (as : As) : List V → List Ar → Prop
  | nil : ArsT K G as [] []
  | cons {v : V} {vs : List V} {x : Ar} {xs : List Ar} : ArR K G as v x → ArsT K G as vs xs → ArsT K G as (v :: vs) (x :: xs)
  | sto {i : Nat} : as i = some .sto → ArsT K G as [] [.own i]
theorem ArsR.toT {G : Hp} {as : As} : ∀ {vs : List V} {xs : List Ar}, ArsR K G as vs xs → ArsT K G as vs xs
  | _, _, .nil => .nil
  | _, _, .cons a r => .cons a (ArsR.toT r)
theorem ArsR.snoc {G : Hp} {as : As} {i : Nat} (h : as i = some .sto) : ∀ {vs : List V} {xs : List Ar}, ArsR K G as vs xs → ArsT K G as vs (xs ++ [.own i])
  | _, _, .nil => .sto h
  | _, _, .cons a r => .cons a (ArsR.snoc h r)
/-- one argument's slot -/
theorem fits_at {O : Addr → Prop} {as : As} {H : Hs} {G : Hp} {ρ : En} {σ : L2.St} (E : EnR K J O as H ρ σ) (s : Same (hq O as H) G) : ∀ {xs : List Ar} {r : List Sl} {vs : List V} {j : Nat} {sl : Sl} {o : Option V}, Fits ρ xs r → ArsT K (hq O as H) as vs xs →
    r[j]? = some sl → (vs.map some)[j]? = some o → SlR K G H.hp (adrs as xs j) sl o
  | _, _, _, _, _, _, .nil, _, h, _ => by cases h
  | _, _, _, _, _, _, _, .sto q, h, h' => by cases h'
  | _, _, _, 0, _, _, .dat f, .cons (.dat q) _, h, h' => by cases h; cases h'; exact .fz (q.mono s)
  | _, _, _, 0, _, _, .own e f, .cons (.own q) _, h, h' => by
    cases h; cases h'
    obtain ⟨a, xs, e1, e2, e3, e4⟩ := E.own_at e
    rw [q] at e2
    cases e2
    show SlR K G H.hp (as _) _ _
    rw [q]
    exact .own e3 (e4.mono s)
  | _, _, _, 0, _, _, .st e f, .cons (.own q) _, h, h' => by
    have := (E.st_at e).1
    rw [q] at this
    cases this
  | _, _, _, j + 1, _, _, .st _ f, .cons _ r', h, h' => fits_at E s (j := j) f r' h h'
  | _, _, _, j + 1, _, _, .dat f, .cons _ r', h, h' => fits_at E s (j := j) f r' h h'
  | _, _, _, j + 1, _, _, .own _ f, .cons _ r', h, h' => fits_at E s (j := j) f r' h h'
theorem Fits.len {ρ : En} : ∀ {xs : List Ar} {r : List Sl}, Fits ρ xs r → r.length = xs.length
  | _, _, .nil => rfl
  | _, _, .dat f => by rw [List.length_cons, List.length_cons, Fits.len f]
  | _, _, .own _ f => by rw [List.length_cons, List.length_cons, Fits.len f]
  | _, _, .st _ f => by rw [List.length_cons, List.length_cons, Fits.len f]
theorem ArsT.len {G : Hp} {as : As} : ∀ {vs : List V} {xs : List Ar}, ArsT K G as vs xs → vs.length ≤ xs.length ∧ xs.length ≤ vs.length + 1
  | _, _, .nil => ⟨Nat.le_refl _, Nat.le_succ _⟩
  | _, _, .cons _ r => by
    have := ArsT.len r
    rw [List.length_cons, List.length_cons]
    omega
  | _, _, .sto _ => ⟨Nat.zero_le _, Nat.le_refl _⟩
theorem ArsR.len {G : Hp} {as : As} : ∀ {vs : List V} {xs : List Ar}, ArsR K G as vs xs → vs.length = xs.length
  | _, _, .nil => rfl
  | _, _, .cons _ r => by rw [List.length_cons, List.length_cons, ArsR.len r]
theorem ArsT.tl {G : Hp} {as : As} : ∀ {vs : List V} {xs : List Ar} {j : Nat}, ArsT K G as vs xs → j < xs.length → vs.length ≤ j → adrs as xs j = some .sto
  | _, _, _, .nil, h, _ => by cases h
  | _, _, 0, .cons _ r, _, h => by cases h
  | _, _, j + 1, .cons _ r, h, h' => ArsT.tl (j := j) r (Nat.lt_of_succ_lt_succ h) (Nat.le_of_succ_le_succ h')
  | _, _, 0, .sto q, _, _ => q
  | _, _, j + 1, .sto q, h, _ => by rw [List.length_singleton] at h; omega
theorem ArsT.at_sto {G : Hp} {as : As} : ∀ {vs : List V} {xs : List Ar} {j : Nat}, ArsT K G as vs xs → adrs as xs j = some .sto → j = vs.length
  | _, _, _, .nil, h => by cases h
  | _, _, 0, .cons (.dat _) r, h => by cases h
  | _, _, 0, .cons (.own q) r, h => by
    have h : as _ = some Rg.sto := h
    rw [q] at h; cases h
  | _, _, j + 1, .cons _ r, h => by rw [List.length_cons, ArsT.at_sto (j := j) r h]
  | _, _, 0, .sto q, _ => rfl
  | _, _, j + 1, .sto q, h => by cases h
def fCall (m : Nat) (F : FN) (dv : List PyData) (a : FC) : FE := fun ρ P => a ρ fun xs ρ1 => xs.length + dv.length = m ∧ (ownIx xs).Nodup ∧ argF ρ1 xs fun r => F (r ++ dv.map .fz) fun d out => P d (wb ρ1 xs out)
theorem dat_ars {G : Hp} {as : As} : ∀ {vs : List V} {ds : List PyData}, DqAll K G vs ds → ArsR K G as vs (ds.map .dat)
  | _, _, .nil => .nil
  | _, _, .cons a b => .cons (.dat a) (dat_ars b)
theorem fits_dat {ρ : En} : ∀ ds : List PyData, Fits ρ (ds.map .dat) (ds.map .fz)
  | [] => .nil
  | d :: r => .dat (fits_dat r)
theorem ArsR.app {G : Hp} {as : As} : ∀ {vs ws : List V} {xs ys : List Ar}, ArsR K G as vs xs → ArsR K G as ws ys → ArsR K G as (vs ++ ws) (xs ++ ys)
  | _, _, _, _, .nil, h => h
  | _, _, _, _, .cons a b, h => .cons a (ArsR.app b h)
theorem Fits.st_of {ρ : En} {i : Nat} {S : Sto} : ∀ {xs : List Ar} {r : List Sl} {j : Nat}, Fits ρ xs r → xs[j]? = some (.own i) → ρ[i]? = some (.st S) → r[j]? = some (.st S)
  | _, _, _, .nil, h, _ => by cases h
  | _, _, 0, .dat f, h, _ => by cases h
  | _, _, 0, .own e f, h, h' => by cases h; rw [e] at h'; cases h'
  | _, _, 0, .st e f, h, h' => by cases h; rw [e] at h'; cases h'; rfl
  | _, _, j + 1, .dat f, h, h' => Fits.st_of (j := j) f h h'
  | _, _, j + 1, .own _ f, h, h' => Fits.st_of (j := j) f h h'
  | _, _, j + 1, .st _ f, h, h' => Fits.st_of (j := j) f h h'
theorem Fits.app {ρ : En} : ∀ {xs ys : List Ar} {r s : List Sl}, Fits ρ xs r → Fits ρ ys s → Fits ρ (xs ++ ys) (r ++ s)
  | _, _, _, _, .nil, h => h
  | _, _, _, _, .dat f, h => .dat (Fits.app f h)
  | _, _, _, _, .own e f, h => .own e (Fits.app f h)
  | _, _, _, _, .st e f, h => .st e (Fits.app f h)
theorem ownIx_app : ∀ (xs : List Ar) (ds : List PyData), ownIx (xs ++ ds.map .dat) = ownIx xs
  | [], [] => rfl
  | [], d :: r => ownIx_app [] r
  | .dat _ :: xs, ds => ownIx_app xs ds
  | .own i :: xs, ds => by show i :: ownIx (xs ++ _) = _; rw [ownIx_app xs ds]; rfl
theorem wb_app (ρ : En) : ∀ (xs : List Ar) (ds : List PyData) (r : List Sl), wb ρ (xs ++ ds.map .dat) r = wb ρ xs r
  | [], [], r => rfl
  | [], d :: ds, r => by
    show wb ρ (ds.map .dat) r.tail = _
    have := wb_app ρ [] ds r.tail
    rw [List.nil_append] at this
    rw [this]
    rfl
  | .dat _ :: xs, ds, r => wb_app ρ xs ds r.tail
  | .own i :: xs, ds, r => by show (wb ρ (xs ++ _) r.tail).set i _ = _; rw [wb_app ρ xs ds r.tail]; rfl
theorem ArsT.own_at {G : Hp} {as : As} {i : Nat} : ∀ {vs : List V} {xs : List Ar} {j : Nat}, ArsT K G as vs xs → xs[j]? = some (Ar.own i) → ∃ a, as i = some a
  | _, _, _, .nil, h => by cases h
  | _, _, 0, .cons (.dat _) _, h => by cases h
  | _, _, 0, .cons (.own q) _, h => by cases h; exact ⟨_, q⟩
  | _, _, j + 1, .cons _ r, h => ArsT.own_at (j := j) r h
  | _, _, 0, .sto q, h => by cases h; exact ⟨_, q⟩
  | _, _, j + 1, .sto q, h => by cases h
/-- what a callee may not touch -/
def OutO (O : Addr → Prop) (as : As) (xs : List Ar) (H : Hs) : Addr → Prop := fun a => Hid O as H a ∧ ¬ Own (adrs as xs) H a
theorem adrs_sub {as : As} {xs : List Ar} {H : Hs} {a : Addr} (h : Own (adrs as xs) H a) : Own as H a := by
  rcases h with ⟨j, r, h, q⟩ | h
  · obtain ⟨i, _, h⟩ := adrs_own h
    exact .inl ⟨i, r, h, q⟩
  · exact .inr h
/-- the callee's view of the state -/
theorem call_in {O : Addr → Prop} {as : As} {H : Hs} {ρ : En} {σ : L2.St} {xs : List Ar} {r : List Sl} {vs : List V} (E : EnR K J O as H ρ σ) (fit : Fits ρ xs r) (ar : ArsT K (hq O as H) as vs xs) (nd : (ownIx xs).Nodup) : EnR K (J0 : Jv 0) (OutO O as xs H) (adrs as xs) H r (vs.map some) := by
  have s1 : Same (hq O as H) (hq (OutO O as xs H) (adrs as xs) H) := hp_less fun a h => h.elim (fun h => h.1) fun h => .inr (adrs_sub h)
  have L := ar.len
  refine ⟨by rw [List.length_map, fit.len]; exact L, fun j sl h1 h2 => ?_, fun j sl o h1 h2 => fits_at E s1 fit ar h1 h2, fun j h => ?_, fun j1 j2 r1 r2 b h1 h2 q1 q2 => ?_, fun j r1 b h q z => z.2 (.inl ⟨j, r1, h, q⟩), fun j r1 h => ?_, fun a h => E.full h.1, trivial, trivial, E.tab⟩
  · refine ar.tl ?_ (by rw [List.length_map] at h2; exact h2)
    rw [← fit.len]
    exact (List.getElem?_eq_some_iff.mp h1).1
  · obtain ⟨i, e, hi⟩ := adrs_own h
    obtain ⟨_, e2, e3⟩ := E.sto i hi
    refine ⟨by rw [List.length_map]; exact ar.at_sto h, fit.st_of e e2, e3.move s1 fun _ _ => rfl⟩
  · obtain ⟨i1, e1, h1⟩ := adrs_own h1
    obtain ⟨i2, e2, h2⟩ := adrs_own h2
    rw [E.inj i1 i2 r1 r2 b h1 h2 q1 q2] at e1
    exact ownIx_inj nd e1 e2
  · obtain ⟨i, e, _⟩ := adrs_own h
    rw [fit.len]
    exact (List.getElem?_eq_some_iff.mp e).1
/-- and back -/
theorem call_back {O : Addr → Prop} {as : As} {H H' : Hs} {ρ : En} {σ : L2.St} {xs : List Ar} {vs : List V} {out : List Sl} (E : EnR K J O as H ρ σ) (ar : ArsT K (hq O as H) as vs xs) (nd : (ownIx xs).Nodup) (fr : Fr (adrs as xs) H H') (bk : Bk K (OutO O as xs H) (adrs as xs) H' out) :
    Fr as H H' ∧ EnR K J O as H' (wb ρ xs out) σ ∧ (∀ a, Hid O as H' a → Hid (OutO O as xs H) (adrs as xs) H' a) ∧ ∀ i r b, i ∉ ownIx xs → as i = some r → Rgn H r b → H' b = H b ∧ ¬ Own (adrs as xs) H b := by
  have off : ∀ i r b, i ∉ ownIx xs → as i = some r → Rgn H r b → ¬ Own (adrs as xs) H b := fun i r b ni h q z => by
    rcases z with ⟨j, r', z, q'⟩ | z
    · obtain ⟨i', e', h'⟩ := adrs_own z
      rw [E.inj i' i r' r b h' h q' q] at e'
      exact ni (mem_ownIx e')
    · exact E.tab.nod (E.nod h q) z
  have stay : ∀ i r b, i ∉ ownIx xs → as i = some r → Rgn H r b → H' b = H b := fun i r b ni h q => by
    obtain ⟨o, e, _⟩ := E.nod h q
    rw [e]
    exact fr.fr _ _ (off i r b ni h q) e
  have inn : ∀ i r, i ∈ ownIx xs → as i = some r → ∃ j, xs[j]? = some (.own i) ∧ adrs as xs j = some r := fun i r q h => by
    obtain ⟨j, e⟩ := ownIx_mem q
    exact ⟨j, e, by unfold adrs; rw [e]; exact h⟩
  have stEq : ∀ i, i ∉ ownIx xs → as i = some .sto → H'.st = H.st := fun i ni h => fr.nst fun j z => by
    obtain ⟨i', e', h'⟩ := adrs_own z
    rw [(E.sto i' h').1, ← (E.sto i h).1] at e'
    exact ni (mem_ownIx e')
  have stayR : ∀ i r b, i ∉ ownIx xs → as i = some r → (Rgn H' r b ↔ Rgn H r b) := fun i r b ni h => by
    cases r with
    | lf a => exact Iff.rfl
    | sto => exact Rgn.st (stEq i ni h)
  have fr' : Fr as H H' := by
    refine ⟨fr.fr.up fun a h => adrs_sub h, fun a h => ?_, fr.liv, fun h => fr.nst fun j z => ?_⟩
    · rcases h with ⟨i, r, h, q⟩ | h
      · by_cases m : i ∈ ownIx xs
        · obtain ⟨j, _, e⟩ := inn i r m h
          exact (fr.new a (.inl ⟨j, r, e, q⟩)).imp adrs_sub id
        · exact .inl (.inl ⟨i, r, h, (stayR i r a m h).mp q⟩)
      · exact .inl (.inr h)
    · obtain ⟨i', e', h'⟩ := adrs_own z
      exact h i' h'
  have nO : ∀ i r b, i ∉ ownIx xs → as i = some r → Rgn H r b → OutO O as xs H b := fun i r b ni h q => ⟨.inr (.inl ⟨i, r, h, q⟩), off i r b ni h q⟩
  have oO : ∀ b, O b → (∃ p ∈ Tbs.T, p.1 = b) ∨ OutO O as xs H b := fun b h => by
    by_cases z : ∃ p ∈ Tbs.T, p.1 = b
    · exact .inl z
    · refine .inr ⟨.inl h, fun w => ?_⟩
      rcases w with ⟨j, r', w, q'⟩ | w
      · obtain ⟨i', _, h'⟩ := adrs_own w
        exact E.out i' r' b h' q' h
      · exact z w
  have hid : ∀ a, Hid O as H' a → Hid (OutO O as xs H) (adrs as xs) H' a := fun a h => by
    rcases h with h | ⟨i, r, h, q⟩ | h
    · rcases oO a h with z | z
      · exact .inr (.inr z)
      · exact .inl z
    · by_cases m : i ∈ ownIx xs
      · obtain ⟨j, _, e⟩ := inn i r m h
        exact .inr (.inl ⟨j, r, e, q⟩)
      · exact .inl (nO i r a m h ((stayR i r a m h).mp q))
    · exact .inr (.inr h)
  have s2 : Same (hq (OutO O as xs H) (adrs as xs) H') (hq O as H') := hp_less hid
  refine ⟨fr', ⟨by rw [wb_len]; exact E.len, fun i sl h1 h2 => ?_, fun i sl o h1 h2 => ?_, fun i h => ?_, fun i1 i2 r1 r2 b h1 h2 q1 q2 => ?_, fun i r b h q => ?_, fun i a h => by rw [wb_len]; exact E.bnd i a h, fun a h => E.occ' fr'.fr bk.tab h, J.fr E.inv fr', E.inq, bk.tab⟩, hid, fun i r b ni h q => ⟨stay i r b ni h q, off i r b ni h q⟩⟩
  · have hi : i < ρ.length := by
      have := (List.getElem?_eq_some_iff.mp h1).1
      rw [wb_len] at this
      exact this
    exact E.tl i _ (List.getElem?_eq_getElem hi) h2
  · by_cases q : i ∈ ownIx xs
    · obtain ⟨j, e⟩ := ownIx_mem q
      have hi : i < ρ.length := by
        have := (List.getElem?_eq_some_iff.mp h1).1
        rw [wb_len] at this
        exact this
      obtain ⟨a, ha⟩ := ar.own_at e
      have hadr : adrs as xs j = some a := by unfold adrs; rw [e]; exact ha
      obtain ⟨sl', e1, e2⟩ := bk.at_ j a hadr
      rw [wb_own ρ hi nd e e1] at h1
      cases h1
      cases a with
      | sto =>
        have := (E.sto i ha).1
        have := (List.getElem?_eq_some_iff.mp h2).1
        omega
      | lf a =>
        obtain ⟨_, _, _, e4, _⟩ := E.is_own ha
        rw [e4] at h2
        cases h2
        rw [ha]
        exact e2.mono s2
    · rw [wb_other ρ xs out q] at h1
      exact (E.at_ i sl o h1 h2).mono fr'.same fun b hb => stay i _ b q hb rfl
  · by_cases q : i ∈ ownIx xs
    · obtain ⟨j, e, hadr⟩ := inn i _ q h
      obtain ⟨sl', e1, e2, e3⟩ := bk.at_ j _ hadr
      refine ⟨(E.sto i h).1, ?_, e3.move s2 fun _ _ => rfl⟩
      rw [wb_own ρ (E.bnd i _ h) nd e e1, e2]
    · obtain ⟨e1, e2, e3⟩ := E.sto i h
      refine ⟨e1, by rw [wb_other ρ xs out q, e2, stEq i q h], ?_⟩
      rw [stEq i q h]
      exact e3.move fr'.same fun a z => stay i _ a q h z
  · by_cases m1 : i1 ∈ ownIx xs
    · obtain ⟨j1, x1, e1⟩ := inn i1 r1 m1 h1
      by_cases m2 : i2 ∈ ownIx xs
      · obtain ⟨j2, x2, e2⟩ := inn i2 r2 m2 h2
        have := bk.inj j1 j2 r1 r2 b e1 e2 q1 q2
        rw [this, x2] at x1
        cases x1
        rfl
      · exact absurd (nO i2 r2 b m2 h2 ((stayR i2 r2 b m2 h2).mp q2)) (bk.out j1 r1 b e1 q1)
    · by_cases m2 : i2 ∈ ownIx xs
      · obtain ⟨j2, x2, e2⟩ := inn i2 r2 m2 h2
        exact absurd (nO i1 r1 b m1 h1 ((stayR i1 r1 b m1 h1).mp q1)) (bk.out j2 r2 b e2 q2)
      · exact E.inj i1 i2 r1 r2 b h1 h2 ((stayR i1 r1 b m1 h1).mp q1) ((stayR i2 r2 b m2 h2).mp q2)
  · by_cases m : i ∈ ownIx xs
    · obtain ⟨j, x1, e1⟩ := inn i r m h
      intro z
      rcases oO b z with w | w
      · obtain ⟨sl, _, g⟩ := bk.at_ j r e1
        exact bk.tab.nod (g.nod q) w
      · exact bk.out j r b e1 q w
    · exact E.out i r b h ((stayR i r b m h).mp q)
theorem call_core {O : Addr → Prop} {as : As} {H : Hs} {ρ : En} {σ : L2.St} {xs : List Ar} {r : List Sl} {vs : List V} {m e : Nat} {F : FN} {P : PyData → En → Prop} {Q : VK} {E0 : XK} (E : EnR K J O as H ρ σ) (fit : Fits ρ xs r) (ar : ArsT K (hq O as H) as vs xs) (hv : vs.length = m) (hm : xs.length = m + e) (nd : (ownIx xs).Nodup)
    (f : F r fun d out => P d (wb ρ xs out)) (k : ∀ d ρ' v H', P d ρ' → Fr as H H' → EnR K J O as H' ρ' σ → Dq K (hq O as H') v d → Q v H') : spG K m e F vs H Q E0 := by
  refine ⟨hv, _, adrs as xs, H.st, r, _, call_in E fit ar nd, by rw [fit.len, hm], f, fun d out v H' p fr bk dv => ?_⟩
  obtain ⟨fr', E', hid, _⟩ := call_back E ar nd fr bk
  exact k d _ v H' p fr' E' (dv.mono (hp_less hid))
theorem re_call {m : Nat} {F : FN} {dvs : List V} {dv : List PyData} {E0 : XK} {t : TA} {f : FC} (hd : ∀ H, DqAll K H dvs dv) (ha : RC K J t f) : RE K J (tCall (spF K m F) dvs E0 t) (fCall m F dv f) := by
  intro O as σ H Q ρ P E q k
  refine ha O as σ H _ ρ _ E q fun xs ρ1 vs H1 q1 f1 E1 d1 => ?_
  obtain ⟨hm, nd, q1⟩ := q1
  obtain ⟨r, fit, q1⟩ := argF_of q1
  have hl : (vs ++ dvs).length = m := by rw [List.length_append, d1.len, (hd H1).length]; exact hm
  refine call_core (xs := xs ++ dv.map .dat) E1 (fit.app (fits_dat dv)) (d1.app (dat_ars (hd _))).toT hl (by rw [List.length_append, List.length_map]; exact hm) (by rw [ownIx_app]; exact nd) ?_ fun d ρ' v H' p fr E' q' => k d ρ' v H' p (f1.trans fr) E' q'
  · simp only [wb_app]
    exact q1
/-- a call that is handed the store, too; sx: where it stands -/
def fCallS (sx m : Nat) (F : FN) (dv : List PyData) (a : FC) : FE := fun ρ P => a ρ fun xs ρ1 => xs.length + dv.length = m ∧ (ownIx xs ++ [sx]).Nodup ∧ argF ρ1 xs fun r => match ρ1[sx]? with
  | some (.st S) => F (r ++ dv.map .fz ++ [.st S]) fun d out => P d ((wb ρ1 xs out).set sx ((out.drop m).headD .no))
  | _ => False
theorem ownIx_snoc (i : Nat) : ∀ xs : List Ar, ownIx (xs ++ [.own i]) = ownIx xs ++ [i]
  | [] => rfl
  | .dat _ :: xs => ownIx_snoc i xs
  | .own k :: xs => by show k :: ownIx (xs ++ _) = _; rw [ownIx_snoc i xs]; rfl
theorem wb_snoc (ρ : En) (i : Nat) : ∀ (xs : List Ar) (out : List Sl), wb ρ (xs ++ [.own i]) out = wb (ρ.set i ((out.drop xs.length).headD .no)) xs out
  | [], out => rfl
  | .dat _ :: xs, out => by show wb ρ (xs ++ _) out.tail = wb _ xs out.tail; rw [wb_snoc ρ i xs, List.length_cons, List.drop_tail]
  | .own k :: xs, out => by show (wb ρ (xs ++ _) out.tail).set k _ = (wb _ xs out.tail).set k _; rw [wb_snoc ρ i xs, List.length_cons, List.drop_tail]
theorem wb_set (ρ : En) (i : Nat) (sl : Sl) : ∀ (xs : List Ar) (out : List Sl), i ∉ ownIx xs → wb (ρ.set i sl) xs out = (wb ρ xs out).set i sl
  | [], out, _ => rfl
  | .dat _ :: xs, out, h => wb_set ρ i sl xs out.tail h
  | .own k :: xs, out, h => by
    have h' := not_or.mp (fun q => h (List.mem_cons.mpr q))
    show (wb (ρ.set i sl) xs out.tail).set k _ = ((wb ρ xs out.tail).set k _).set i sl
    rw [wb_set ρ i sl xs out.tail h'.2, List.set_comm _ _ h'.1]
theorem re_callS {sx m : Nat} {F : FN} {dvs : List V} {dv : List PyData} {E0 : XK} {t : TA} {f : FC} (hd : ∀ H, DqAll K H dvs dv) (ha : RC K J t f) : RE K J (tCall (spS K m F) dvs E0 t) (fCallS sx m F dv f) := by
  intro O as σ H Q ρ P E q k
  refine ha O as σ H _ ρ _ E q fun xs ρ1 vs H1 q1 f1 E1 d1 => ?_
  obtain ⟨hm, nd, q1⟩ := q1
  obtain ⟨r, fit, q1⟩ := argF_of q1
  split at q1
  · next S hs =>
    have hl : (vs ++ dvs).length = m := by rw [List.length_append, d1.len, (hd H1).length]; exact hm
    have ni : sx ∉ ownIx xs := fun z => (List.nodup_append.mp nd).2.2 _ z _ (List.mem_singleton.mpr rfl) rfl
    refine call_core (xs := xs ++ dv.map .dat ++ [.own sx]) E1 ((fit.app (fits_dat dv)).app (.st hs .nil)) ((d1.app (dat_ars (hd _))).snoc (E1.st_at hs).1) hl (by rw [List.length_append, List.length_append, List.length_map, hm]; rfl) (by rw [ownIx_snoc, ownIx_app]; exact nd) ?_ fun d ρ' v H' p fr E' q' => k d ρ' v H' p (f1.trans fr) E' q'
    · simp only [wb_snoc, wb_app, wb_set _ _ _ _ _ ni, List.length_append, List.length_map, hm]
      exact q1
  · exact q1.elim
/-! own lists -/
def ownF (ρ : En) (i : Nat) (k : List PyData → Prop) : Prop := match ρ[i]? with
  | some (.own ds) => k ds
  | _ => False
theorem ownF_of {ρ : En} {i : Nat} {k : List PyData → Prop} (h : ownF ρ i k) : ∃ ds, ρ[i]? = some (.own ds) ∧ k ds := by
  unfold ownF at h
  split at h
  · next ds e => exact ⟨ds, e, h⟩
  · exact h.elim
theorem DqAll.atI {G : Hp} {xs : List V} {ds : List PyData} {k : Int} {d : PyData} (r : DqAll K G xs ds) (h : L2.atI ds k = some d) : ∃ v, L2.atI xs k = some v ∧ Dq K G v d := by
  unfold L2.atI at h ⊢
  rw [r.length]
  cases e : ixN ds.length k with
  | none => rw [e] at h; cases h
  | some j =>
    rw [e] at h
    exact r.got h
def fIxO (i : Nat) (b : FE) : FE := fun ρ P => ownF ρ i fun _ => b ρ fun x ρ1 => intF x fun k => ownF ρ1 i fun ds => ∃ d, atI ds k = some d ∧ P d ρ1
theorem re_ixO {i : Nat} {tb : TE} {b : FE} (hb : RE K J tb b) : RE K J (tOp (rIxL K) (tVar i) tb) (fIxO i b) := by
  intro O as σ H Q ρ P E q k
  obtain ⟨ds0, h0, q⟩ := ownF_of q
  obtain ⟨a, xs0, e1, e2, _, _⟩ := E.own_at h0
  refine ⟨_, e1, ?_⟩
  refine hb O as σ H _ ρ _ E q fun x ρ1 v H1 q1 f1 E1 d1 => ?_
  unfold intF at q1
  split at q1
  · next z =>
    cases d1
    obtain ⟨ds, hds, d, hd, p⟩ := ownF_of q1
    obtain ⟨a', xs, e1', e2', e3, e4⟩ := E1.own_at hds
    rw [e2] at e2'
    cases e2'
    obtain ⟨v, hv, dv⟩ := e4.atI hd
    exact ⟨a, xs, z, v, rfl, rfl, SqL.of e3, hv, k d ρ1 v H1 p f1 E1 dv⟩
  · exact q1.elim
/-- len of an own list -/
def fLenO (i : Nat) : FE := fun ρ P => ownF ρ i fun ds => P (.int ds.length) ρ
theorem re_lenO {i : Nat} : RE K J (tCB (fun xs H Q => ∃ p ys, xs = [.ref p] ∧ (SqL K H p ys ∨ SqT K H p ys) ∧ Q (.int ys.length) H) (tCons (tVar i) tNil)) (fLenO i) := by
  intro O as σ H Q ρ P E q k
  obtain ⟨ds, h0, q⟩ := ownF_of q
  obtain ⟨a, xs, e1, e2, e3, e4⟩ := E.own_at h0
  refine ⟨_, e1, a, xs, rfl, .inl (SqL.of e3), ?_⟩
  rw [e4.length]
  exact k _ _ _ _ q (Fr.refl) E (.int _)
/-- own.append(e) -/
def fAppend (i : Nat) (a : FE) : FS := fun E ρ => ownF ρ i fun _ => a ρ fun d ρ1 => ownF ρ1 i fun ds => ds.length < sizeLine ∧ E.nx (ρ1.set i (.own (ds ++ [d])))
theorem rs_append {i : Nat} {te : TE} {a : FE} (ha : RE K J te a) : RS K J (tDrop (tBM K "list" rAppend (tVar i) (tCons te tNil))) (fAppend i a) := by
  intro O as σ H D ρ E R f C
  obtain ⟨ds0, h0, f⟩ := ownF_of f
  obtain ⟨p, xs0, e1, e2, e3, _⟩ := R.own_at h0
  refine ⟨_, e1, .inl ⟨rfl, _, SqL.of e3⟩, ?_⟩
  refine ha O as σ H _ ρ _ R f fun d ρ1 v H1 q1 f1 E1 d1 => ?_
  obtain ⟨ds, hds, hl, q1⟩ := ownF_of q1
  obtain ⟨p', xs, e1', e2', e3', e4'⟩ := E1.own_at hds
  rw [e2] at e2'
  cases e2'
  refine ⟨p, xs, v, rfl, rfl, e3', by rw [e4'.length]; exact hl, ?_⟩
  obtain ⟨E2, f2⟩ := E1.put e2 e3' (e4'.append (.cons d1 .nil))
  exact C.nx _ _ _ _ q1 (.of (f1.trans f2)) E2
/-- own[k] = e -/
def gSubO (i : Nat) (b : FE) : FG := fun d ρ P => ownF ρ i fun _ => b ρ fun x ρ1 => intF x fun k => ownF ρ1 i fun ds => ∃ j, ixN ds.length k = some j ∧ P (ρ1.set i (.own (ds.set j d)))
theorem rg_subO {i : Nat} {ti : TE} {b : FE} (hb : RE K J ti b) : RG K J [] (gSub (tVar i) ti rSetL) (gSubO i b) := by
  intro O as σ H R ρ P v d E q f k
  obtain ⟨ds0, h0, f⟩ := ownF_of f
  obtain ⟨p, xs0, e1, e2, e3, _⟩ := E.own_at h0
  refine ⟨_, e1, ?_⟩
  refine hb O as σ H _ ρ _ E f fun x ρ1 w H1 q1 f1 E1 d1 => ?_
  unfold intF at q1
  split at q1
  · next z =>
    cases d1
    obtain ⟨ds, hds, j, hj, q1⟩ := ownF_of q1
    obtain ⟨p', xs, e1', e2', e3', e4'⟩ := E1.own_at hds
    rw [e2] at e2'
    cases e2'
    refine ⟨p, xs, z, j, rfl, rfl, e3', by rw [e4'.length]; exact hj, ?_⟩
    obtain ⟨E2, f2⟩ := E1.put e2 e3' (e4'.set (q.fr f1) j)
    exact k _ _ _ q1 (f1.trans f2) E2 ⟨rfl, fun _ _ => rfl⟩
  · exact q1.elim
/-! the def -/
def fnF (n m : Nat) (b : FS) : FN := fun sls P => b { nx := fun ρ' => P .none (ρ'.take n), rt := fun d ρ' => P d (ρ'.take n) } (sls ++ List.replicate (m - n) .no)
/-- a def that is handed the store -/
def fnS (n m : Nat) (b : FS) : FN := fun sls P => b { nx := fun ρ' => P .none (ρ'.take n ++ ρ'.drop m), rt := fun d ρ' => P d (ρ'.take n ++ ρ'.drop m) } (sls.take n ++ List.replicate (m - n) .no ++ sls.drop n)
/-- slots of which nothing is known, ahead of the store -/
theorem EnR.more {n N : Nat} {n' n'' : Nat} {J : Jv n'} {J' : Jv n''} {O : Addr → Prop} {as : As} {H : Hs} {ρ : En} {σ : L2.St} (E : EnR K J O as H ρ σ) (hv : σ.length = n) (hN : n ≤ N) (hJ : J'.P (shA as n N) H) (hQ : J'.Q O) : EnR K J' O (shA as n N) H (ρ.take n ++ List.replicate (N - n) .no ++ ρ.drop n) (σ ++ List.replicate (N - n) none) := by
  have L := E.len
  rw [hv] at L
  have tk : (ρ.take n).length = n := by rw [List.length_take]; omega
  have ls : (σ ++ List.replicate (N - n) none).length = N := by rw [List.length_append, List.length_replicate]; omega
  have l1 : (ρ.take n ++ List.replicate (N - n) Sl.no).length = N := by rw [List.length_append, tk, List.length_replicate]; omega
  have hb : ∀ i r, as i = some r → (i < n ∧ r ≠ .sto) ∨ (i = n ∧ r = .sto) := fun i r h => by
    rcases E.is_reg h with ⟨a, ds, xs, rfl, e1, e2, _⟩ | ⟨rfl, e, _⟩
    · have := E.lt e1 (fun _ z => by cases z)
      rw [hv] at this
      exact .inl ⟨this, fun z => by cases z⟩
    · rw [hv] at e
      exact .inr ⟨e, rfl⟩
  have sh : ∀ j r, shA as n N j = some r → ∃ i, as i = some r ∧ ((i < n ∧ j = i) ∨ (i = n ∧ j = N ∧ r = .sto)) := fun j r h => by
    unfold shA at h
    split at h
    · exact ⟨j, h, .inl ⟨by assumption, rfl⟩⟩
    · split at h
      · rcases hb _ _ h with z | z
        · omega
        · exact ⟨n, h, .inr ⟨rfl, by assumption, z.2⟩⟩
      · cases h
  have own : ∀ a, Own (shA as n N) H a ↔ Own as H a := fun a => by
    constructor
    · rintro (⟨j, r, hc, q⟩ | hc)
      · obtain ⟨i, e, _⟩ := sh j r hc
        exact .inl ⟨i, r, e, q⟩
      · exact .inr hc
    · rintro (⟨j, r, hc, q⟩ | hc)
      · rcases hb j r hc with ⟨z, _⟩ | ⟨z, _⟩
        · exact .inl ⟨j, r, by unfold shA; rw [if_pos z]; exact hc, q⟩
        · exact .inl ⟨N, r, by unfold shA; rw [if_neg (by omega), if_pos rfl, ← z]; exact hc, q⟩
      · exact .inr hc
  have hS : Same (hq O as H) (hq O (shA as n N) H) := hp_less fun a h => h.imp id (own a).mp
  have last : ∀ i, N ≤ i → (ρ.take n ++ List.replicate (N - n) Sl.no ++ ρ.drop n)[i]? = ρ[n + (i - N)]? := fun i h => by
    rw [List.getElem?_append_right (by omega), l1, List.getElem?_drop]
  refine ⟨?_, fun i sl h1 h2 => ?_, fun i sl o h1 h2 => ?_, fun i h => ?_, fun i j r r' b h1 h2 q1 q2 => ?_, fun i r b h q => ?_, fun i r h => ?_, E.occ, hJ, hQ, E.tab⟩
  · rw [ls, List.length_append, l1, List.length_drop]
    omega
  · rw [ls] at h2
    rw [last i h2] at h1
    have hi : n + (i - N) < ρ.length := (List.getElem?_eq_some_iff.mp h1).1
    have e := E.tl _ _ h1 (by rw [hv]; omega)
    have : i = N := by omega
    unfold shA
    rw [if_neg (by omega), if_pos this]
    rw [this, Nat.sub_self] at e
    exact e
  · have hi : i < N := by rw [← ls]; exact (List.getElem?_eq_some_iff.mp h2).1
    rw [List.getElem?_append_left (by omega)] at h1
    by_cases q : i < n
    · rw [List.getElem?_append_left (by omega), List.getElem?_take, if_pos q] at h1
      rw [List.getElem?_append_left (by omega)] at h2
      unfold shA
      rw [if_pos q]
      exact (E.at_ i sl o h1 h2).mono hS fun _ _ => rfl
    · rw [List.getElem?_append_right (by omega), List.getElem?_replicate] at h1
      split at h1
      · cases h1
        unfold shA
        rw [if_neg q, if_neg (by omega)]
        exact .no
      · cases h1
  · obtain ⟨i', e, z⟩ := sh i _ h
    obtain ⟨e1, e2, e3⟩ := E.sto i' e
    rw [hv] at e1
    have : i = N := by omega
    refine ⟨by rw [ls]; exact this, ?_, e3.move hS fun _ _ => rfl⟩
    rw [last i (by omega), this, Nat.sub_self, Nat.add_zero, ← e1]
    exact e2
  · obtain ⟨i', e1, z1⟩ := sh i r h1
    obtain ⟨j', e2, z2⟩ := sh j r' h2
    have := E.inj i' j' r r' b e1 e2 q1 q2
    omega
  · obtain ⟨i', e1, z1⟩ := sh i r h
    exact E.out i' r b e1 q
  · obtain ⟨i', e1, z1⟩ := sh i r h
    have := E.bnd i' r e1
    rw [List.length_append, l1, List.length_drop]
    omega
theorem EnR.start {n : Nat} {n' n'' : Nat} {J : Jv n'} {J' : Jv n''} {O : Addr → Prop} {as : As} {H : Hs} {ρ : En} {vs : List V} (N : List Str) (E : EnR K J O as H ρ (vs.map some)) (hv : vs.length = n) (hN : n ≤ N.length) (hJ : J'.P (shA as n N.length) H) (hQ : J'.Q O) : EnR K J' O (shA as n N.length) H (ρ.take n ++ List.replicate (N.length - n) .no ++ ρ.drop n) (L2.start N vs) := by
  rw [L2.start, hv]
  exact E.more (by rw [List.length_map]; exact hv) hN hJ hQ
/-- what the parameters own -/
theorem EnR.pars {n : Nat} {n' : Nat} {J : Jv n'} {O : Addr → Prop} {as : As} {H : Hs} {ρ : En} {vs : List V} (E : EnR K J O as H ρ (vs.map some)) (hv : vs.length = n) : ∀ i r, as i = some r → (i < n ∧ r ≠ .sto) ∨ (i = n ∧ r = .sto) := fun i r h => by
  rcases E.is_reg h with ⟨a, ds, xs, rfl, e1, e2, _⟩ | ⟨rfl, e, _⟩
  · have := E.lt e1 (fun _ z => by cases z)
    rw [List.length_map, hv] at this
    exact .inl ⟨this, fun z => by cases z⟩
  · rw [List.length_map, hv] at e
    exact .inr ⟨e, rfl⟩
/-- the slots at a def's start; e: whether it is handed the store -/
def enS : Nat → Nat → Nat → List Sl → En
  | 0, n, m, sls => sls ++ List.replicate (m - n) .no
  | _, n, m, sls => sls.take n ++ List.replicate (m - n) .no ++ sls.drop n
/-- what is handed back of the slots -/
def outS : Nat → Nat → Nat → En → List Sl
  | 0, n, _, ρ => ρ.take n
  | _, n, m, ρ => ρ.take n ++ ρ.drop m
theorem fn_start {e m : Nat} {N : List Str} {O : Addr → Prop} {as : As} {H : Hs} {ρ : En} {vs : List V} (R : EnR K (J0 : Jv 0) O as H ρ (vs.map some)) (hv : vs.length = m) (hl : ρ.length = m + e) (hN : m ≤ N.length) :
    EnR K (Jst m O (shA as m N.length) H) O (shA as m N.length) H (enS e m N.length ρ) (L2.start N vs) := by
  have st := R.start (J' := Jst m O (shA as m N.length) H) N hv hN .refl fun _ h => h
  cases e with
  | succ e => exact st
  | zero =>
    rw [List.take_of_length_le (by omega), List.drop_of_length_le (by omega), List.append_nil] at st
    exact st
theorem fn_back {e m N : Nat} {O O' : Addr → Prop} {as as' : As} {H H' : Hs} {ρ ρ' : En} {vs : List V} {σ' : L2.St} {n' : Nat} {J' : Jv n'} (R : EnR K (J0 : Jv 0) O as H ρ (vs.map some)) (hv : vs.length = m) (hl : ρ.length = m + e) (hN : m ≤ N) (x : Ext m (shA as m N) as' H H') (R' : EnR K J' O' as' H' ρ' σ') :
    Fr as H H' ∧ Bk K O' as H' (outS e m N ρ') ∧ Same (hq O' as' H') (hq O' as H') := by
  have hb := R.pars hv
  have fx : ∀ i, i < m → as' i = as i := fun i hi => by
    rw [x.fix i hi]
    unfold shA
    rw [if_pos hi]
  have kn : as' N = some .sto ↔ as m = some .sto := by
    rw [x.ks]
    unfold shA
    rw [if_neg (by omega), if_pos rfl]
  obtain ⟨b, s⟩ := R'.back hN hb fx kn
  refine ⟨x.frB hb hN, ?_, s⟩
  cases e with
  | succ e => exact b
  | zero =>
    have hb' : ∀ i r, as i = some r → i < m := fun i r h => by have := R.bnd i r h; omega
    refine ⟨b.tab, fun i r e => ?_, b.inj, b.out⟩
    have hi := hb' i r e
    obtain ⟨sl, e1, e2⟩ := R'.reg_at (i := i) (r := r) (by rw [fx i hi]; exact e)
    exact ⟨sl, by show (List.take m ρ')[i]? = _; rw [List.getElem?_take, if_pos hi]; exact e1, e2.mono s⟩
/-- a run of a def's body -/
theorem fn_run {m e : Nat} {N : List Str} {b : FS} {t : TS} (rs : ∀ J : Jv m, RS K J t b) {vs : List V} {H : Hp} {Q : VK} {E : XK} (hN : m ≤ N.length) {F : FN} (hF : F = fun sls P => b { nx := fun ρ' => P .none (outS e m N.length ρ'), rt := fun d ρ' => P d (outS e m N.length ρ') } (enS e m N.length sls)) (h : spG K m e F vs H Q E) : t { nx := fun _ H' => Q .non H', rt := Q } (L2.start N vs) H := by
  obtain ⟨hv, O, as, S, ρ, P, R, hl, hf, q⟩ := h
  subst hF
  refine rs (Jst m O (shA as m N.length) ⟨H, S⟩) O _ _ ⟨H, S⟩ _ _ _ (fn_start R hv hl hN) hf ⟨fun ρ' as' σ' H' p x R' => ?_, fun d ρ' v as' σ' H' p x R' dv => ?_, fun _ _ _ _ p => p.elim, fun _ _ _ _ p => p.elim, fun _ _ _ _ _ _ _ p => p.elim⟩
  · obtain ⟨h1, h2, _⟩ := fn_back R hv hl hN x R'
    exact q _ _ _ _ p h1 h2 .non
  · obtain ⟨h1, h2, h3⟩ := fn_back R hv hl hN x R'
    exact q _ _ _ _ p h1 h2 (dv.mono h3)
theorem scope_le {N ps : List Str} {sc : Scope} (S : FnScope N ps sc) : ps.length ≤ N.length := by
  have := congrArg List.length S.pre
  rw [List.length_take] at this
  omega
theorem fn_core {ps : List Str} {N : List Str} {b : FS} {t : TS} (hN : ps.length ≤ N.length) (rs : ∀ J : Jv ps.length, RS K J t b) {vs : List V} {H : Hp} {Q : VK} {E : XK} (h : spF K ps.length (fnF ps.length N.length b) vs H Q E) : t { nx := fun _ H' => Q .non H', rt := Q } (L2.start N vs) H := fn_run rs hN rfl h
theorem fn_coreS {ps : List Str} {N : List Str} {b : FS} {t : TS} (hN : ps.length ≤ N.length) (rs : ∀ J : Jv ps.length, RS K J t b) {vs : List V} {H : Hp} {Q : VK} {E : XK} (h : spS K ps.length (fnS ps.length N.length b) vs H Q E) : t { nx := fun _ H' => Q .non H', rt := Q } (L2.start N vs) H := fn_run rs hN rfl h
section
variable {P : Program} {w : World} {mg : Str → Option Value} {base : Heap} {k : Nat} {f : Addr} {fd : FuncData} {ps : List Str} {x qual : Str} {st : Stmt} {N : List Str} {b : FS}
/-- without repr -/
theorem okF0 (F : Fun K x qual st f fd) (S : FnScope N ps (defScope st))
    (body : ∀ (cdv : Value) (A : Around) (outer : List Env) (s : Shared) (H : Hp) (E : XK), Room k (A.deeper (envOfC qual (defScope st) s.heap.objs.size f cdv)) →
      ∃ t, PSs (cxOf CX0 P w K mg base N qual (defScope st) f cdv A outer s H E).nox (defBody st) t ∧ ∀ J : Jv ps.length, RS K J t b) :
    FnOk P w K mg base CX0 (k + 1) f fd ps (spF K ps.length (fnF ps.length N.length b)) := by
  refine F.ok S (fun vs H Q E h => h.1) (fun cdv A outer s H vs Q E hr h => ?_)
  obtain ⟨t, pt, rs⟩ := body cdv A outer s H E hr
  exact ⟨t, pt, fn_core (scope_le S) rs h⟩
theorem okS (F : Fun K x qual st f fd) (S : FnScope N ps (defScope st))
    (body : ∀ (cdv : Value) (A : Around) (outer : List Env) (s : Shared) (H : Hp) (E : XK), Room k (A.deeper (envOfC qual (defScope st) s.heap.objs.size f cdv)) →
      (A.deeper (envOfC qual (defScope st) s.heap.objs.size f cdv)).guards = some [] →
      ∃ t, PSs (cxOf CX0 P w K mg base N qual (defScope st) f cdv A outer s H E).nox (defBody st) t ∧ ∀ J : Jv ps.length, RS K J t b) :
    FnG P w K mg base (k + 1) f fd ps (spS K ps.length (fnS ps.length N.length b)) := by
  refine okG F S (fun vs H Q E h => h.1) (fun cdv A outer s H vs Q E hr hg h => ?_)
  obtain ⟨t, pt, rs⟩ := body cdv A outer s H E hr hg
  exact ⟨t, pt, fn_coreS (scope_le S) rs h⟩
/-- without repr -/
theorem okS0 (F : Fun K x qual st f fd) (S : FnScope N ps (defScope st))
    (body : ∀ (cdv : Value) (A : Around) (outer : List Env) (s : Shared) (H : Hp) (E : XK), Room k (A.deeper (envOfC qual (defScope st) s.heap.objs.size f cdv)) →
      ∃ t, PSs (cxOf CX0 P w K mg base N qual (defScope st) f cdv A outer s H E).nox (defBody st) t ∧ ∀ J : Jv ps.length, RS K J t b) :
    FnOk P w K mg base CX0 (k + 1) f fd ps (spS K ps.length (fnS ps.length N.length b)) := by
  refine F.ok S (fun vs H Q E h => h.1) (fun cdv A outer s H vs Q E hr h => ?_)
  obtain ⟨t, pt, rs⟩ := body cdv A outer s H E hr
  exact ⟨t, pt, fn_coreS (scope_le S) rs h⟩
end
end
end DL
/-! operators and built-in calls over data -/
namespace DL
open PySem L2 Z PySem.Spec PyProof.Rows
variable [Tbs]
abbrev G2 := PyData → PyData → (PyData → Prop) → Prop
section
variable {K : PySem.W.Frag} {n : Nat} {J : Jv n}
def o2 (h : Int → Int → PyData) : G2 := fun a b P => match a, b with
  | .int i, .int j => P (h i j)
  | _, _ => False
def o2c (C : Int → Int → Prop) (h : Int → Int → PyData) : G2 := fun a b P => match a, b with
  | .int i, .int j => C i j ∧ P (h i j)
  | _, _ => False
theorem rr_i0 {h : Int → Int → V} {h' : Int → Int → PyData} (e : ∀ i j H, Dq K H (h i j) (h' i j)) : RR K (rI0 h) (o2 h') := by
  intro A H Q x y a b P oc da db g k
  unfold o2 at g
  split at g
  · cases da; cases db; exact ⟨_, _, rfl, rfl, k _ _ _ g (Same.refl _) (e _ _ _)⟩
  · exact g.elim
theorem rr_ic {C : Int → Int → Prop} {h : Int → Int → V} {h' : Int → Int → PyData} (e : ∀ i j H, Dq K H (h i j) (h' i j)) : RR K (rI C h) (o2c C h') := by
  intro A H Q x y a b P oc da db g k
  unfold o2c at g
  split at g
  · cases da; cases db; exact ⟨_, _, rfl, rfl, g.1, k _ _ _ g.2 (Same.refl _) (e _ _ _)⟩
  · exact g.elim
abbrev oAdd : G2 := o2 fun i j => .int (i + j)
abbrev oSub : G2 := o2 fun i j => .int (i - j)
abbrev oMul : G2 := o2c CMul fun i j => .int (i * j)
abbrev oDiv : G2 := o2c CDiv fun i j => .int (i / j)
abbrev oMod : G2 := o2c (fun _ j => 0 < j) fun i j => .int (i % j)
abbrev oPow : G2 := o2c CPow fun i j => .int (i ^ j.toNat)
abbrev oLt : G2 := o2 fun i j => .bool (decide (i < j))
abbrev oLe : G2 := o2 fun i j => .bool (decide (i ≤ j))
abbrev oGt : G2 := o2 fun i j => .bool (decide (j < i))
abbrev oGe : G2 := o2 fun i j => .bool (decide (j ≤ i))
theorem rr_add : RR K (rI0 fun i j => .int (i + j)) oAdd := rr_i0 fun _ _ _ => .int _
theorem rr_sub : RR K (rI0 fun i j => .int (i - j)) oSub := rr_i0 fun _ _ _ => .int _
theorem rr_mul : RR K (rI CMul fun i j => .int (i * j)) oMul := rr_ic fun _ _ _ => .int _
theorem rr_fdiv : RR K (rI CDiv fun i j => .int (i / j)) oDiv := rr_ic fun _ _ _ => .int _
theorem rr_mod : RR K (rI (fun _ j => 0 < j) fun i j => .int (i % j)) oMod := rr_ic fun _ _ _ => .int _
theorem rr_pow : RR K (rI CPow fun i j => .int (i ^ j.toNat)) oPow := rr_ic fun _ _ _ => .int _
theorem rr_lt : RR K (rI0 fun i j => .bl (decide (i < j))) oLt := rr_i0 fun _ _ _ => .bl _
theorem rr_le : RR K (rI0 fun i j => .bl (decide (i ≤ j))) oLe := rr_i0 fun _ _ _ => .bl _
theorem rr_gt : RR K (rI0 fun i j => .bl (decide (j < i))) oGt := rr_i0 fun _ _ _ => .bl _
theorem rr_ge : RR K (rI0 fun i j => .bl (decide (j ≤ i))) oGe := rr_i0 fun _ _ _ => .bl _
def oStr (C : Str → Str → Prop) (h : Str → Str → PyData) : G2 := fun a b P => match a, b with
  | .str i, .str j => C i j ∧ P (h i j)
  | _, _ => False
abbrev oAddS : G2 := oStr (fun i j => i.length + j.length ≤ sizeLine) fun i j => .str (i ++ j)
theorem rr_add_str : RR K (fun x y H Q => ∃ i j, x = .str i ∧ y = .str j ∧ i.length + j.length ≤ sizeLine ∧ Q (.str (i ++ j)) H) oAddS := by
  intro A H Q x y a b P oc da db g k
  unfold oAddS oStr at g
  split at g
  · cases da; cases db; exact ⟨_, _, rfl, rfl, g.1, k _ _ _ g.2 (Same.refl _) (.str _)⟩
  · exact g.elim
/-- == of plain things -/
def oEqB (h : Bool → Bool) : G2 := fun a b P => match a, b with
  | .int i, .int j => P (.bool (h (decide (i = j))))
  | .str i, .str j => P (.bool (h (decide (i = j))))
  | .bool i, .bool j => P (.bool (h (decide (i = j))))
  | .none, .none => P (.bool (h true))
  | .none, .int _ => P (.bool (h false))
  | .int _, .none => P (.bool (h false))
  | .none, .str _ => P (.bool (h false))
  | .str _, .none => P (.bool (h false))
  | .none, .bool _ => P (.bool (h false))
  | .bool _, .none => P (.bool (h false))
  | .int _, .str _ => P (.bool (h false))
  | .str _, .int _ => P (.bool (h false))
  | _, _ => False
abbrev oEq : G2 := oEqB id
abbrev oNe : G2 := oEqB not
theorem dec_int {i j : Int} : decide (V.int i = V.int j) = decide (i = j) := by by_cases h : i = j <;> simp [h]
theorem dec_str {i j : Str} : decide (V.str i = V.str j) = decide (i = j) := by by_cases h : i = j <;> simp [h]
theorem dec_bl {i j : Bool} : decide (V.bl i = V.bl j) = decide (i = j) := by by_cases h : i = j <;> simp [h]
theorem rr_eq : RR K rEq oEq := by
  intro A H Q x y a b P oc da db g k
  unfold oEq oEqB at g
  split at g
  · cases da; cases db; refine ⟨rfl, ?_⟩; rw [dec_int]; exact k _ _ _ g (Same.refl _) (.bl _)
  · cases da; cases db; refine ⟨rfl, ?_⟩; rw [dec_str]; exact k _ _ _ g (Same.refl _) (.bl _)
  · cases da; cases db; refine ⟨rfl, ?_⟩; rw [dec_bl]; exact k _ _ _ g (Same.refl _) (.bl _)
  all_goals first | (exact g.elim) | (cases da; cases db; exact ⟨rfl, k _ _ _ g (Same.refl _) (.bl _)⟩)
theorem rr_ne : RR K rNe oNe := by
  intro A H Q x y a b P oc da db g k
  unfold oNe oEqB at g
  split at g
  · cases da; cases db; refine ⟨rfl, ?_⟩; rw [dec_int]; exact k _ _ _ g (Same.refl _) (.bl _)
  · cases da; cases db; refine ⟨rfl, ?_⟩; rw [dec_str]; exact k _ _ _ g (Same.refl _) (.bl _)
  · cases da; cases db; refine ⟨rfl, ?_⟩; rw [dec_bl]; exact k _ _ _ g (Same.refl _) (.bl _)
  all_goals first | (exact g.elim) | (cases da; cases db; exact ⟨rfl, k _ _ _ g (Same.refl _) (.bl _)⟩)
/-- == of data -/
def oEqD : G2 := fun a b P => SeqAt.shaped a = true ∧ SeqAt.shaped b = true ∧ P (.bool (PyData.eqv a b))
def oNeD : G2 := fun a b P => SeqAt.shaped a = true ∧ SeqAt.shaped b = true ∧ P (.bool (!PyData.eqv a b))
theorem rr_eqD : RR K (rEqD K) oEqD := fun A H Q x y a b P oc da db g k => ⟨a, b, Dp.mono hp_same (da.dp (plain_of g.1)), Dp.mono hp_same (db.dp (plain_of g.2.1)), g.1, g.2.1, k _ _ _ g.2.2 (Same.refl _) (.bl _)⟩
theorem rr_neD : RR K (rNeD K) oNeD := fun A H Q x y a b P oc da db g k => ⟨a, b, Dp.mono hp_same (da.dp (plain_of g.1)), Dp.mono hp_same (db.dp (plain_of g.2.1)), g.1, g.2.1, k _ _ _ g.2.2 (Same.refl _) (.bl _)⟩
def isNone : PyData → Bool
  | .none => true
  | _ => false
def oIsB (h : Bool → Bool) : G2 := fun a b P => match b with
  | .none => P (.bool (h (isNone a)))
  | _ => False
abbrev oIs : G2 := oIsB id
theorem isNone_of {H : Hp} {x : V} {a : PyData} (d : Dq K H x a) : decide (x = .non) = isNone a := by cases d <;> rfl
theorem rr_isN : RR K (fun x y H Q => y = .non ∧ Q (.bl (decide (x = .non))) H) oIs := by
  intro A H Q x y a b P oc da db g k
  unfold oIs oIsB at g
  split at g
  · cases db; refine ⟨rfl, ?_⟩; rw [isNone_of da]; exact k _ _ _ g (Same.refl _) (.bl _)
  · exact g.elim
/-- a sign in a text -/
def oInSB (h : Bool → Bool) : G2 := fun a b P => match a, b with
  | .str s, .str z => ∃ c, s = ⟨#[c]⟩ ∧ P (.bool (h (decide (c ∈ z.cps.toList))))
  | _, _ => False
abbrev oInS : G2 := oInSB id
theorem rr_in_sign : RR K (fun x y H Q => ∃ (c : Nat) (z : Str), x = .str ⟨#[c]⟩ ∧ y = .str z ∧ Q (.bl (decide (c ∈ z.cps.toList))) H) oInS := by
  intro A H Q x y a b P oc da db g k
  unfold oInS oInSB at g
  split at g
  · cases da; cases db; obtain ⟨c, rfl, g⟩ := g; exact ⟨_, _, rfl, rfl, k _ _ _ g (Same.refl _) (.bl _)⟩
  · exact g.elim
def flatD : PyData → Bool
  | .none => true
  | .bool _ => true
  | .int _ => true
  | .str _ => true
  | _ => false
theorem flat_of {H : Hp} {x : V} {a : PyData} (d : Dq K H x a) (h : flatD a = true) : flatV x = true := by
  cases d <;> first | rfl | cases h
theorem eqV_of {H : Hp} {x y : V} {a b : PyData} (d : Dq K H x a) (e : Dq K H y b) (h : flatD a = true) (h' : flatD b = true) : eqV x y = PyData.eqv a b := by
  cases d <;> first | (cases h; done) | (cases e <;> first | (cases h'; done) | (unfold PyData.eqv; rfl))
theorem flats_of {H : Hp} : ∀ {xs : List V} {ds : List PyData}, DqAll K H xs ds → ds.all flatD = true → xs.all flatV = true
  | _, _, .nil, _ => rfl
  | _, _, .cons a b, h => by
    have h' := Bool.and_eq_true_iff.mp h
    exact Bool.and_eq_true_iff.mpr ⟨flat_of a h'.1, flats_of b h'.2⟩
def inD (a : PyData) (ds : List PyData) : Bool := ds.any fun y => PyData.eqv y a
theorem in_of {H : Hp} {x : V} {a : PyData} (d : Dq K H x a) (h : flatD a = true) : ∀ {xs : List V} {ds : List PyData}, DqAll K H xs ds → ds.all flatD = true → inV x xs = inD a ds
  | _, _, .nil, _ => rfl
  | _, _, .cons e b, h' => by
    have h' := Bool.and_eq_true_iff.mp h'
    show (eqV _ x || inV x _) = (PyData.eqv _ a || inD a _)
    rw [eqV_of e d h'.1 h, in_of d h b h'.2]
def seqF (a : PyData) (k : List PyData → Prop) : Prop := match a with
  | .list ds => k ds
  | .tuple ds => k ds
  | _ => False
def oIn (neg : Bool) : G2 := fun a b P => seqF b fun ds => flatD a = true ∧ ds.all flatD = true ∧ P (.bool (if neg then !inD a ds else inD a ds))
theorem seqF_of {A : Addr → Prop} {H : Hp} {x : V} {a : PyData} {k : List PyData → Prop} (d : Dq K (hp A H) x a) (h : seqF a k) : ∃ p xs ds, x = .ref p ∧ (SqL K H p xs ∨ SqT K H p xs) ∧ DqAll K (hp A H) xs ds ∧ k ds := by
  unfold seqF at h
  split at h
  · obtain ⟨p, xs, rfl, s, r⟩ := d.list_of
    exact ⟨p, xs, _, rfl, .inl (SqL.mono hp_same s), r, h⟩
  · obtain ⟨p, xs, rfl, s, r⟩ := d.tuple_of
    exact ⟨p, xs, _, rfl, .inr (SqT.mono hp_same s), r, h⟩
  · exact h.elim
theorem rr_in {neg : Bool} : RR K (rIn K neg) (oIn neg) := by
  intro A H Q x y a b P oc da db g k
  obtain ⟨p, xs, ds, rfl, s, r, h1, h2, g⟩ := seqF_of db g
  refine ⟨p, xs, rfl, s, flat_of da h1, flats_of r h2, ?_⟩
  rw [in_of da h1 r h2]
  exact k _ _ _ g (Same.refl _) (.bl _)
/-- x in own -/
def fInO (neg : Bool) (i : Nat) (a : FE) : FE := fun ρ P => a ρ fun x ρ1 => ownF ρ1 i fun ds => flatD x = true ∧ ds.all flatD = true ∧ P (.bool (if neg then !inD x ds else inD x ds)) ρ1
theorem re_inO {neg : Bool} {i : Nat} {ta : TE} {a : FE} (ha : RE K J ta a) : RE K J (tOp (rIn K neg) ta (tVar i)) (fInO neg i a) := by
  intro O as σ H Q ρ P E q k
  refine ha O as σ H _ ρ _ E q fun x ρ1 v H1 q1 f1 E1 d1 => ?_
  obtain ⟨ds, hds, h1, h2, q1⟩ := ownF_of q1
  obtain ⟨p, xs, e1, e2, e3, e4⟩ := E1.own_at hds
  refine ⟨_, e1, p, xs, rfl, .inl (SqL.of e3), flat_of d1 h1, flats_of e4 h2, ?_⟩
  rw [in_of d1 h1 e4 h2]
  exact k _ _ _ _ q1 f1 E1 (.bl _)
/-! places -/
def oIxL : G2 := fun a b P => match a, b with
  | .list ds, .int k => ∃ d, atI ds k = some d ∧ P d
  | _, _ => False
def oIxT : G2 := fun a b P => match a, b with
  | .tuple ds, .int k => ∃ d, atI ds k = some d ∧ P d
  | _, _ => False
def oIxS : G2 := fun a b P => match a, b with
  | .str z, .int k => z.length ≤ sizeLine ∧ ∃ c, atI z.cps.toList k = some c ∧ P (.str ⟨#[c]⟩)
  | _, _ => False
theorem rr_ixL : RR K (rIxL K) oIxL := by
  intro A H Q x y a b P oc da db g k
  unfold oIxL at g
  split at g
  · cases db
    obtain ⟨p, xs, rfl, s, r⟩ := da.list_of
    obtain ⟨d, hd, g⟩ := g
    obtain ⟨v, hv, dv⟩ := r.atI hd
    exact ⟨p, xs, _, v, rfl, rfl, SqL.mono hp_same s, hv, k _ _ _ g (Same.refl _) dv⟩
  · exact g.elim
theorem rr_ixT : RR K (rIxT K) oIxT := by
  intro A H Q x y a b P oc da db g k
  unfold oIxT at g
  split at g
  · cases db
    obtain ⟨p, xs, rfl, s, r⟩ := da.tuple_of
    obtain ⟨d, hd, g⟩ := g
    obtain ⟨v, hv, dv⟩ := r.atI hd
    exact ⟨p, xs, _, v, rfl, rfl, SqT.mono hp_same s, hv, k _ _ _ g (Same.refl _) dv⟩
  · exact g.elim
theorem rr_ixS : RR K rIxS oIxS := by
  intro A H Q x y a b P oc da db g k
  unfold oIxS at g
  split at g
  · cases da; cases db
    obtain ⟨hz, c, hc, g⟩ := g
    exact ⟨_, _, c, rfl, rfl, hz, hc, k _ _ _ g (Same.refl _) (.str _)⟩
  · exact g.elim
def oIx : G2 := fun a b P => match a, b with
  | .list ds, .int k => ∃ d, atI ds k = some d ∧ P d
  | .tuple ds, .int k => ∃ d, atI ds k = some d ∧ P d
  | .str z, .int k => z.length ≤ sizeLine ∧ ∃ c, atI z.cps.toList k = some c ∧ P (.str ⟨#[c]⟩)
  | _, _ => False
theorem rr_ix : RR K (rIx K) oIx := by
  intro A H Q x y a b P oc da db g k
  unfold oIx at g
  split at g
  · exact .inl (rr_ixL A H Q x y _ _ P oc da db g k)
  · exact .inr (.inl (rr_ixT A H Q x y _ _ P oc da db g k))
  · exact .inr (.inr (rr_ixS A H Q x y _ _ P oc da db g k))
  · exact g.elim
/-! slices -/
abbrev FO := En → (Option Int → En → Prop) → Prop
def RO (K : PySem.W.Frag) {n : Nat} (J : Jv n) (t : TO) (f : FO) : Prop := ∀ (O : Addr → Prop) (as : As) (σ : L2.St) (H : Hs) (Q : Option Int → Hp → Prop) (ρ : En) (P : Option Int → En → Prop), EnR K J O as H ρ σ → f ρ P →
  (∀ o ρ' H', P o ρ' → Fr as H H' → EnR K J O as H' ρ' σ → Q o H') → t σ H Q
def pNo : FO := fun ρ P => P none ρ
def pSo (a : FE) : FO := fun ρ P => a ρ fun d ρ1 => intF d fun i => P (some i) ρ1
theorem ro_no : RO K J tNoPart pNo := fun O as σ H Q ρ P E f k => k none ρ H f (Fr.refl) E
theorem ro_so {t : TE} {a : FE} (ha : RE K J t a) : RO K J (tPart t) (pSo a) := by
  intro O as σ H Q ρ P E q k
  refine ha O as σ H _ ρ _ E q fun d ρ1 v H1 q1 f1 E1 d1 => ?_
  unfold intF at q1
  split at q1
  · cases d1; exact ⟨_, rfl, k _ _ _ q1 f1 E1⟩
  · exact q1.elim
def RL (K : PySem.W.Frag) (r : V → Option Int → Option Int → Hp → VK → Prop) (g : PyData → Option Int → Option Int → (PyData → Prop) → Prop) : Prop := ∀ (A : Addr → Prop) (H : Hp) (Q : VK) (x : V) (a : PyData) (lo hi : Option Int) (P : PyData → Prop), (∀ c, A c → H c ≠ none) →
  Dq K (hp A H) x a → g a lo hi P → (∀ d v H', P d → Same H H' → Dq K (hp A H') v d → Q v H') → r x lo hi H Q
def fSl (g : PyData → Option Int → Option Int → (PyData → Prop) → Prop) (a : FE) (lo hi : FO) : FE := fun ρ P => a ρ fun x ρ1 => lo ρ1 fun l ρ2 => hi ρ2 fun u ρ3 => g x l u fun d => P d ρ3
theorem re_sl {r : V → Option Int → Option Int → Hp → VK → Prop} {g : PyData → Option Int → Option Int → (PyData → Prop) → Prop} {te : TE} {tl th : TO} {a : FE} {lo hi : FO} (hr : RL K r g) (ha : RE K J te a) (hl : RO K J tl lo) (hh : RO K J th hi) : RE K J (tSl r te tl th) (fSl g a lo hi) := by
  intro O as σ H Q ρ P E q k
  refine ha O as σ H _ ρ _ E q fun x ρ1 v H1 q1 f1 E1 d1 => ?_
  refine hl O as σ H1 _ ρ1 _ E1 q1 fun l ρ2 H2 q2 f2 E2 => ?_
  refine hh O as σ H2 _ ρ2 _ E2 q2 fun u ρ3 H3 q3 f3 E3 => ?_
  refine hr (Hid O as H3) H3 _ v x l u _ (fun c h => E3.full h) ((d1.fr f2).fr f3) q3 fun d w H4 p s4 d4 => ?_
  exact k _ _ _ _ p (((f1.trans f2).trans f3).trans (E3.frS s4)) (E3.grow s4) (d4.mono (E3.toS s4))
def cutD (xs : List PyData) (lo hi : Option Int) : List PyData := (xs.drop (HT.sIx xs.length 0 lo)).take (HT.sIx xs.length xs.length hi - HT.sIx xs.length 0 lo)
theorem DqAll.cut {G : Hp} {xs : List V} {ds : List PyData} (r : DqAll K G xs ds) (lo hi : Option Int) : DqAll K G (cutV xs lo hi) (cutD ds lo hi) := by
  unfold cutV cutD
  rw [r.length]
  exact (r.drop _).take _
def sL : PyData → Option Int → Option Int → (PyData → Prop) → Prop := fun a lo hi P => listF a fun ds => P (.list (cutD ds lo hi))
def sT : PyData → Option Int → Option Int → (PyData → Prop) → Prop := fun a lo hi P => tupleF a fun ds => P (.tuple (cutD ds lo hi))
def sS : PyData → Option Int → Option Int → (PyData → Prop) → Prop := fun a lo hi P => strF a fun z => z.length ≤ sizeLine ∧ P (.str (cutS z lo hi))
theorem rl_list : RL K (rSlL K) sL := by
  intro A H Q x a lo hi P oc da g k
  unfold sL listF at g
  split at g
  · obtain ⟨p, xs, rfl, s, r⟩ := da.list_of
    refine ⟨p, xs, rfl, SqL.mono hp_same s, fun l hl => ?_⟩
    have sm := Same.new (o := .lst (cutV xs lo hi)) hl
    exact k _ _ _ g sm (.lst (SqL.of (hp_mk (fun q => oc _ q hl) upd_same)) ((r.mono (hp_grow sm)).cut lo hi))
  · exact g.elim
theorem rl_tupA : RL K (rSlA K) sT := by
  intro A H Q x a lo hi P oc da g k
  unfold sT tupleF at g
  split at g
  · obtain ⟨p, xs, rfl, s, r⟩ := da.tuple_of
    refine ⟨p, xs, rfl, SqT.mono hp_same s, fun e => ?_, fun _ l hl => ?_⟩
    · refine k _ _ _ g (Same.refl _) (.tup (xs := cutV xs lo hi) ?_ (r.cut lo hi))
      unfold cutV
      rw [e.1, e.2, List.drop_zero, Nat.sub_zero, List.take_length]
      exact s
    · have sm := Same.new (o := .tup (cutV xs lo hi)) hl
      exact k _ _ _ g sm (.tup (SqT.of (hp_mk (fun q => oc _ q hl) upd_same)) ((r.mono (hp_grow sm)).cut lo hi))
  · exact g.elim
end
end DL
namespace DL
open PySem L2 Z PySem.Spec PyProof.Rows
variable [Tbs]
section
variable {K : PySem.W.Frag} {n : Nat} {J : Jv n}
/-- list + list, each tracked, frozen or of the module -/
def rCatK (K : PySem.W.Frag) : R2 := fun x y H Q => ∃ l b xs zs, x = .ref l ∧ y = .ref b ∧ SqL K H l xs ∧ SqL K H b zs ∧ xs.length + zs.length ≤ sizeLine ∧ ∀ p, H p = none → Q (.ref p) (upd H p (.lst (xs ++ zs)))
theorem op_catK {X : Cx} : OpR X (binaryOp .Add) (rCatK X.K) := by
  intro pins s σ H x y v u Q I rx ry h
  obtain ⟨l, b, xs, zs, rfl, rfl, hH, hB, hz, q⟩ := h
  cases rx
  cases ry
  obtain ⟨its, r, ⟨⟨c1, d1, e1, sl1⟩, n1, ho1, hc1, hd1, hs1⟩, z1⟩ := I.list hH
  obtain ⟨its2, r2, ⟨⟨c2, d2, e2, sl2⟩, n2, ho2, hc2, hd2, hs2⟩, z2⟩ := I.list hB
  simp only at hc1 hd1 hs1 hc2 hd2 hs2
  subst hc1 hd1 hs1 hc2 hd2 hs2
  have ea : its.toArray ++ its2.toArray = (its ++ its2).toArray := by simp
  have l1 := r.length
  have l2 := r2.length
  refine concat_meets ⟨_, ho1, rfl⟩ ⟨_, ho2, rfl⟩ noFill_list_add seq_list_add PySem.F.slot_list_add PySem.F.entry_list_add (PySem.F.args_list_add_2 _ _) (list_addW l b its.toArray its2.toArray n1 n2 none none sl1 sl2 (by simp; omega)) ⟨ho1, ho2, ?_⟩
  rw [ea]
  exact ⟨.ref _, _, I.lnew (t' := s.toks) (r.append r2) (by rw [List.length_append]; omega), rfl, q _ I.fresh⟩
def oCatL : G2 := fun a b P => match a, b with
  | .list xs, .list ys => xs.length + ys.length ≤ sizeLine ∧ P (.list (xs ++ ys))
  | _, _ => False
theorem rr_cat : RR K (rCatK K) oCatL := by
  intro A H Q x y a b P oc da db g k
  unfold oCatL at g
  split at g
  · obtain ⟨p, xs, rfl, s, r⟩ := da.list_of
    obtain ⟨p', xs', rfl, s', r'⟩ := db.list_of
    refine ⟨p, p', xs, xs', rfl, rfl, SqL.mono hp_same s, SqL.mono hp_same s', by rw [r.length, r'.length]; exact g.1, fun l hl => ?_⟩
    have sm := Same.new (o := .lst (xs ++ xs')) hl
    exact k _ _ _ g.2 sm (.lst (SqL.of (hp_mk (fun q => oc _ q hl) upd_same)) ((r.mono (hp_grow sm)).append (r'.mono (hp_grow sm))))
  · exact g.elim
def oCatT : G2 := fun a b P => match a, b with
  | .tuple xs, .tuple ys => xs.length + ys.length ≤ sizeLine ∧ P (.tuple (xs ++ ys))
  | _, _ => False
theorem rr_catA : RR K (rCatA K) oCatT := by
  intro A H Q x y a b P oc da db g k
  unfold oCatT at g
  split at g
  · obtain ⟨p, xs, rfl, s, r⟩ := da.tuple_of
    obtain ⟨p', xs', rfl, s', r'⟩ := db.tuple_of
    have rr := r.append r'
    refine ⟨p, p', xs, xs', rfl, rfl, SqT.mono hp_same s, SqT.mono hp_same s', by rw [r.length, r'.length]; exact g.1, fun e => ?_, fun _ e => ?_, fun _ _ l hl => ?_⟩
    · subst e
      exact k _ _ _ g.2 (Same.refl _) (.tup s' rr)
    · subst e
      rw [List.append_nil] at rr
      exact k _ _ _ g.2 (Same.refl _) (.tup s rr)
    · have sm := Same.new (o := .tup (xs ++ xs')) hl
      exact k _ _ _ g.2 sm (.tup (SqT.of (hp_mk (fun q => oc _ q hl) upd_same)) (rr.mono (hp_grow sm)))
  · exact g.elim
def uNeg (a : PyData) (P : PyData → Prop) : Prop := intF a fun i => P (.int (-i))
theorem ru_neg : RU K (rU fun i => .int (-i)) uNeg := by
  intro A H Q x a P oc da g k
  unfold uNeg intF at g
  split at g
  · cases da; exact ⟨_, rfl, k _ _ _ g (Same.refl _) (.int _)⟩
  · exact g.elim
/-! built-in calls -/
def one (ds : List PyData) (k : PyData → Prop) : Prop := match ds with
  | [d] => k d
  | _ => False
theorem one_of {G : Hp} {vs : List V} {ds : List PyData} {k : PyData → Prop} (r : DqAll K G vs ds) (h : one ds k) : ∃ v d, vs = [v] ∧ Dq K G v d ∧ k d := by
  unfold one at h
  split at h
  · cases r with
    | cons a b => cases b; exact ⟨_, _, rfl, a, h⟩
  · exact h.elim
def bLenS (ds : List PyData) (P : PyData → Prop) : Prop := one ds fun d => strF d fun z => z.length ≤ sizeLine ∧ P (.int z.length)
theorem rb_len_str : RB K (fun xs H Q => ∃ z, xs = [.str z] ∧ z.length ≤ sizeLine ∧ Q (.int z.length) H) bLenS := by
  intro A H Q xs ds P oc r g k
  obtain ⟨v, d, rfl, q, g⟩ := one_of r g
  unfold strF at g
  split at g
  · cases q; exact ⟨_, rfl, g.1, k _ _ _ g.2 (Same.refl _) (.int _)⟩
  · exact g.elim
def bLen (ds : List PyData) (P : PyData → Prop) : Prop := one ds fun d => seqF d fun es => P (.int es.length)
theorem rb_len : RB K (fun xs H Q => ∃ p ys, xs = [.ref p] ∧ (SqL K H p ys ∨ SqT K H p ys) ∧ Q (.int ys.length) H) bLen := by
  intro A H Q xs ds P oc r g k
  obtain ⟨v, d, rfl, q, g⟩ := one_of r g
  obtain ⟨p, xs, ds, rfl, s, r, g⟩ := seqF_of q g
  refine ⟨p, xs, rfl, s, ?_⟩
  rw [r.length]
  exact k _ _ _ g (Same.refl _) (.int _)
def bAbs (ds : List PyData) (P : PyData → Prop) : Prop := one ds fun d => intF d fun i => P (.int (if i < 0 then -i else i))
theorem rb_abs : RB K (fun xs H Q => ∃ i, xs = [.int i] ∧ Q (.int (if i < 0 then -i else i)) H) bAbs := by
  intro A H Q xs ds P oc r g k
  obtain ⟨v, d, rfl, q, g⟩ := one_of r g
  unfold intF at g
  split at g
  · cases q; exact ⟨_, rfl, k _ _ _ g (Same.refl _) (.int _)⟩
  · exact g.elim
def two (ds : List PyData) (k : Int → Int → Prop) : Prop := match ds with
  | [.int i, .int j] => k i j
  | _ => False
theorem two_of {G : Hp} {vs : List V} {ds : List PyData} {k : Int → Int → Prop} (r : DqAll K G vs ds) (h : two ds k) : ∃ i j, vs = [.int i, .int j] ∧ k i j := by
  unfold two at h
  split at h
  · cases r with
    | cons a b => cases b with
      | cons c d => cases a; cases c; cases d; exact ⟨_, _, rfl, h⟩
  · exact h.elim
def bMin (ds : List PyData) (P : PyData → Prop) : Prop := two ds fun i j => P (.int (if j < i then j else i))
def bMax (ds : List PyData) (P : PyData → Prop) : Prop := two ds fun i j => P (.int (if j > i then j else i))
theorem rb_min2 : RB K (fun xs H Q => ∃ i j, xs = [.int i, .int j] ∧ Q (.int (if j < i then j else i)) H) bMin := by
  intro A H Q xs ds P oc r g k
  obtain ⟨i, j, rfl, g⟩ := two_of r g
  exact ⟨_, _, rfl, k _ _ _ g (Same.refl _) (.int _)⟩
theorem rb_max2 : RB K (fun xs H Q => ∃ i j, xs = [.int i, .int j] ∧ Q (.int (if j > i then j else i)) H) bMax := by
  intro A H Q xs ds P oc r g k
  obtain ⟨i, j, rfl, g⟩ := two_of r g
  exact ⟨_, _, rfl, k _ _ _ g (Same.refl _) (.int _)⟩
def bDivmod (ds : List PyData) (P : PyData → Prop) : Prop := two ds fun i j => CDiv i j ∧ P (.tuple [.int (i / j), .int (i % j)])
def boolsF : List PyData → (List Bool → Prop) → Prop
  | [], k => k []
  | .bool b :: r, k => boolsF r fun bs => k (b :: bs)
  | _ :: _, _ => False
theorem boolsF_of : ∀ {ds : List PyData} {k : List Bool → Prop}, boolsF ds k → ∃ bs : List Bool, ds = bs.map .bool ∧ k bs
  | [], k, h => ⟨[], rfl, h⟩
  | .bool b :: r, k, h => by
    obtain ⟨bs, e, h'⟩ := boolsF_of (ds := r) h
    exact ⟨b :: bs, by rw [e]; rfl, h'⟩
theorem boolsF_map {bs : List Bool} : ∀ {k : List Bool → Prop}, k bs → boolsF (bs.map .bool) k := by
  induction bs with
  | nil => exact fun h => h
  | cons b r ih => exact fun {k} h => ih (k := fun bs => k (b :: bs)) h
def intsF : List PyData → (List Int → Prop) → Prop
  | [], k => k []
  | .int b :: r, k => intsF r fun bs => k (b :: bs)
  | _ :: _, _ => False
theorem intsF_of : ∀ {ds : List PyData} {k : List Int → Prop}, intsF ds k → ∃ bs : List Int, ds = bs.map .int ∧ k bs
  | [], k, h => ⟨[], rfl, h⟩
  | .int b :: r, k, h => by
    obtain ⟨bs, e, h'⟩ := intsF_of (ds := r) h
    exact ⟨b :: bs, by rw [e]; rfl, h'⟩
theorem intsF_map {bs : List Int} : ∀ {k : List Int → Prop}, k bs → intsF (bs.map .int) k := by
  induction bs with
  | nil => exact fun h => h
  | cons b r ih => exact fun {k} h => ih (k := fun bs => k (b :: bs)) h
def strsF : List PyData → (List Str → Prop) → Prop
  | [], k => k []
  | .str b :: r, k => strsF r fun bs => k (b :: bs)
  | _ :: _, _ => False
theorem strsF_of : ∀ {ds : List PyData} {k : List Str → Prop}, strsF ds k → ∃ bs : List Str, ds = bs.map .str ∧ k bs
  | [], k, h => ⟨[], rfl, h⟩
  | .str b :: r, k, h => by
    obtain ⟨bs, e, h'⟩ := strsF_of (ds := r) h
    exact ⟨b :: bs, by rw [e]; rfl, h'⟩
theorem strsF_map {bs : List Str} : ∀ {k : List Str → Prop}, k bs → strsF (bs.map .str) k := by
  induction bs with
  | nil => exact fun h => h
  | cons b r ih => exact fun {k} h => ih (k := fun bs => k (b :: bs)) h
def bAll (ds : List PyData) (P : PyData → Prop) : Prop := one ds fun d => listF d fun es => boolsF es fun bs => P (.bool (bs.all id))
def bAny (ds : List PyData) (P : PyData → Prop) : Prop := one ds fun d => listF d fun es => boolsF es fun bs => P (.bool (bs.any id))
def bSum (ds : List PyData) (P : PyData → Prop) : Prop := one ds fun d => listF d fun es => intsF es fun ns => P (.int ns.sum)
theorem rb_all : RB K (rAll K) bAll := by
  intro A H Q xs ds P oc r g k
  obtain ⟨v, d, rfl, q, g⟩ := one_of r g
  unfold listF at g
  split at g
  · obtain ⟨bs, e, g'⟩ := boolsF_of g
    subst e
    obtain ⟨a, ys, rfl, s, r⟩ := q.list_of
    cases r.bools_of
    exact ⟨a, bs, rfl, SqL.mono hp_same s, k _ _ _ g' (Same.refl _) (.bl _)⟩
  · exact g.elim
theorem rb_any : RB K (rAny K) bAny := by
  intro A H Q xs ds P oc r g k
  obtain ⟨v, d, rfl, q, g⟩ := one_of r g
  unfold listF at g
  split at g
  · obtain ⟨bs, e, g'⟩ := boolsF_of g
    subst e
    obtain ⟨a, ys, rfl, s, r⟩ := q.list_of
    cases r.bools_of
    exact ⟨a, bs, rfl, SqL.mono hp_same s, k _ _ _ g' (Same.refl _) (.bl _)⟩
  · exact g.elim
theorem rb_sum : RB K (rSum K) bSum := by
  intro A H Q xs ds P oc r g k
  obtain ⟨v, d, rfl, q, g⟩ := one_of r g
  unfold listF at g
  split at g
  · obtain ⟨bs, e, g'⟩ := intsF_of g
    subst e
    obtain ⟨a, ys, rfl, s, r⟩ := q.list_of
    cases r.ints_of
    exact ⟨a, bs, rfl, SqL.mono hp_same s, k _ _ _ g' (Same.refl _) (.int _)⟩
  · exact g.elim
def bInt (ds : List PyData) (P : PyData → Prop) : Prop := one ds fun d => match d with
  | .int i => P (.int i)
  | .bool b => P (.int (if b then 1 else 0))
  | _ => False
theorem rb_int : RB K (fun xs H Q => (∃ i, xs = [.int i] ∧ Q (.int i) H) ∨ ∃ k, xs = [.bl k] ∧ Q (.int (if k then 1 else 0)) H) bInt := by
  intro A H Q xs ds P oc r g k
  obtain ⟨v, d, rfl, q, g⟩ := one_of r g
  split at g
  · cases q; exact .inl ⟨_, rfl, k _ _ _ g (Same.refl _) (.int _)⟩
  · cases q; exact .inr ⟨_, rfl, k _ _ _ g (Same.refl _) (.int _)⟩
  · exact g.elim
def bBool (ds : List PyData) (P : PyData → Prop) : Prop := one ds fun d => match d with
  | .int i => P (.bool (i != 0))
  | .bool b => P (.bool b)
  | _ => False
def bList (ds : List PyData) (P : PyData → Prop) : Prop := one ds fun d => seqF d fun es => P (.list es)
theorem rb_list : RB K (fun xs H Q => ∃ p ys, xs = [.ref p] ∧ (SqL K H p ys ∨ SqT K H p ys) ∧ ∀ l, H l = none → Q (.ref l) (upd H l (.lst ys))) bList := by
  intro A H Q xs ds P oc r g k
  obtain ⟨v, d, rfl, q, g⟩ := one_of r g
  obtain ⟨p, xs, ds, rfl, s, r, g⟩ := seqF_of q g
  refine ⟨p, xs, rfl, s, fun l hl => ?_⟩
  have sm := Same.new (o := .lst xs) hl
  exact k _ _ _ g sm (.lst (SqL.of (hp_mk (fun q => oc _ q hl) upd_same)) (r.mono (hp_grow sm)))
def bTuple (ds : List PyData) (P : PyData → Prop) : Prop := one ds fun d => seqF d fun es => P (.tuple es)
theorem rb_tuple : RB K (fun xs H Q => ∃ p ys, xs = [.ref p] ∧ ((SqL K H p ys ∧ ∀ l, H l = none → Q (.ref l) (upd H l (.tup ys))) ∨ (SqT K H p ys ∧ Q (.ref p) H))) bTuple := by
  intro A H Q xs ds P oc r g k
  obtain ⟨v, d, rfl, q, g⟩ := one_of r g
  unfold seqF at g
  split at g
  · obtain ⟨p, xs, rfl, s, r⟩ := q.list_of
    refine ⟨p, xs, rfl, .inl ⟨SqL.mono hp_same s, fun l hl => ?_⟩⟩
    have sm := Same.new (o := .tup xs) hl
    exact k _ _ _ g sm (.tup (SqT.of (hp_mk (fun q => oc _ q hl) upd_same)) (r.mono (hp_grow sm)))
  · obtain ⟨p, xs, rfl, s, r⟩ := q.tuple_of
    exact ⟨p, xs, rfl, .inr ⟨SqT.mono hp_same s, k _ _ _ g (Same.refl _) (.tup s r)⟩⟩
  · exact g.elim
def bRepr (ds : List PyData) (P : PyData → Prop) : Prop := one ds fun d => seqF d fun _ => d.hasDict = false ∧ d.showable = true ∧ d.depth ≤ 60 ∧ d.shown.length ≤ sizeLine ∧ P (.str d.shown)
theorem rb_repr : RB K (fun xs H Q => ∃ (a : Addr) (d : PyData), xs = [.ref a] ∧ Dp K H (.ref a) d ∧ d.showable = true ∧ d.depth ≤ 60 ∧ d.shown.length ≤ sizeLine ∧ Q (.str d.shown) H) bRepr := by
  intro A H Q xs ds P oc r g k
  obtain ⟨v, d, rfl, q, g⟩ := one_of r g
  obtain ⟨p, xs, es, rfl, s, r, h0, h1, h2, h3, g⟩ := seqF_of q g
  exact ⟨p, d, rfl, Dp.mono hp_same (q.dp h0), h1, h2, h3, k _ _ _ g (Same.refl _) (.str _)⟩
/-! isinstance -/
def isObjD : PyData → Bool
  | .dict _ => true
  | _ => false
def fIsi (b : String) (a : FE) : FE := fun ρ P => a ρ fun d ρ1 => isObjD d = false ∧ ∃ c, kitB (kindD d) b = some c ∧ P (.bool c) ρ1
theorem Dq.ty {A : Addr → Prop} {H : Hp} {v : V} {d : PyData} (q : Dq K (hp A H) v d) (h : isObjD d = false) : TyX K H v (.type (kindD d)) := by
  cases q with
  | non => exact .base .non
  | bl b => exact .base (.bl b)
  | int i => exact .base (.int i)
  | str x => exact .base (.str x)
  | lst s _ => exact SqL.ty (SqL.mono hp_same s)
  | tup s _ => exact SqT.ty (SqT.mono hp_same s)
  | obj _ _ _ => cases h
  | exc _ _ _ _ => cases h
  | fnc _ => cases h
  | hdl => cases h
  | tn _ _ _ => cases h
  | dct _ _ => cases h
theorem re_isi {b : String} {ta : TE} {a : FE} (ha : RE K J ta a) : RE K J (tCB (rIsi K) (tCons ta (tCons (tC (.ty b)) tNil))) (fIsi b a) := by
  intro O as σ H Q ρ P E q k
  refine ha O as σ H _ ρ _ E q fun d ρ1 v H1 q1 f1 E1 d1 => ?_
  obtain ⟨ho, c, hc, q1⟩ := q1
  exact ⟨_, _, _, _, c, rfl, .ty _, d1.ty ho, kit_ty hc, k _ _ _ _ q1 f1 E1 (.bl _)⟩
/-! methods of texts -/
def mStr1 (C : Str → Str → Prop) (h : Str → Str → PyData) : Str → List PyData → (PyData → Prop) → Prop := fun z ds P => one ds fun d => strF d fun b => C z b ∧ P (h z b)
theorem strs1_of {G : Hp} {vs : List V} {ds : List PyData} {k : Str → Prop} (r : DqAll K G vs ds) (h : one ds fun d => strF d k) : ∃ b, vs = [.str b] ∧ k b := by
  obtain ⟨v, d, rfl, q, g⟩ := one_of r h
  unfold strF at g
  split at g
  · cases q; exact ⟨_, rfl, g⟩
  · exact g.elim
abbrev mSplit := mStr1 (fun a b => (b.length == 0) = false ∧ a.length + 2 ≤ sizeLine) fun a b => .list ((Txt.split a b).map .str)
theorem rm_split : RM K (fun x xs H Q => ∃ a b, x = .str a ∧ xs = [.str b] ∧ (b.length == 0) = false ∧ a.length + 2 ≤ sizeLine ∧ rNewStrs (Txt.split a b) H Q) mSplit := by
  intro A H Q z xs ds P oc r g k
  obtain ⟨b, rfl, g⟩ := strs1_of r g
  refine ⟨_, _, rfl, rfl, g.1.1, g.1.2, fun p hp1 => ?_⟩
  exact k _ _ _ g.2 (Same.new hp1) (.lst (SqL.of (hp_mk (fun q => oc _ q hp1) upd_same)) (DqAll.strs _))
def mJoin : Str → List PyData → (PyData → Prop) → Prop := fun z ds P => one ds fun d => seqF d fun es => strsF es fun ys => (ys.map (·.length)).sum + ys.length * z.length ≤ 16777216 ∧ P (.str (Txt.join z ys))
theorem rm_join : RM K (fun x xs H Q => ∃ a p, ∃ ys : List Str, x = .str a ∧ xs = [.ref p] ∧ (SqL K H p (ys.map V.str) ∨ SqT K H p (ys.map V.str)) ∧ (ys.map (·.length)).sum + ys.length * a.length ≤ 16777216 ∧ Q (.str (Txt.join a ys)) H) mJoin := by
  intro A H Q z xs ds P oc r g k
  obtain ⟨v, d, rfl, q, g⟩ := one_of r g
  obtain ⟨p, xs, es, rfl, s, r, g⟩ := seqF_of q g
  obtain ⟨ys, e, h, g'⟩ := strsF_of g
  subst e
  cases r.strs_of
  exact ⟨_, p, ys, rfl, rfl, s, h, k _ _ _ g' (Same.refl _) (.str _)⟩
/-! x += e -/
def fAug (i : Nat) (a : FE) (h : Int → Int → Int) : FS := fun E ρ => match ρ[i]? with
  | some (.fz (.int x)) => a ρ fun y ρ1 => intF y fun j => gN i (.int (h x j)) ρ1 E.nx
  | _ => False
def fPar3 (i j l : Nat) (a : FA) : FS := fun E ρ => a ρ fun ds ρ1 => match ds with
  | [x, y, z] => gN i x ρ1 fun ρ2 => gN j y ρ2 fun ρ3 => gN l z ρ3 E.nx
  | _ => False
/-! truth -/
theorem DqAll.empty {G : Hp} {xs : List V} {ds : List PyData} (r : DqAll K G xs ds) : xs.isEmpty = ds.isEmpty := by cases r <;> rfl
def truF (d : PyData) (k : Bool → Prop) : Prop := match d with
  | .none => k false
  | .bool b => k b
  | .int i => k (i != 0)
  | .str z => z.length ≤ sizeLine ∧ k ((z.length : Int) != 0)
  | .list ds => k (!ds.isEmpty)
  | .tuple ds => k (!ds.isEmpty)
  | _ => False
def fTru (f : FE) : FT := fun ρ P => f ρ fun d ρ1 => truF d fun b => P b ρ1
def fYes : FT := fun ρ P => P true ρ
theorem rt_yes : RT K J tYes fYes := fun O as σ H Q ρ P E f k => k true ρ H f (Fr.refl) E
end
end DL
/-! the box of draws as data; promises weakened -/
namespace DL
open PySem L2 Z PySem.Spec PyProof.Rows
variable [Tbs]
def BoxD (ds : List PyData) (n : Nat) : Prop := ∃ b0 b1 b2 : Int, ds = [.int b0, .int b1, .int b2] ∧ 0 ≤ b0 ∧ 0 ≤ b1 ∧ b1 < 2147483647 ∧ 0 ≤ b2 ∧ b2 ≤ (n : Int)
theorem BoxD.mono {ds : List PyData} {n m : Nat} (b : BoxD ds n) (h : n ≤ m) : BoxD ds m := by
  obtain ⟨b0, b1, b2, e, h0, h1, h2, h3, h4⟩ := b
  exact ⟨b0, b1, b2, e, h0, h1, h2, h3, by omega⟩
/-- a draw: any number below m -/
def takeF (ds : List PyData) (m : Int) (P : Int → List PyData → Prop) : Prop := ∃ n, BoxD ds n ∧ 0 < m ∧ m < 1073741824 ∧ n < 1000000000 ∧ ∀ r ds', 0 ≤ r → r < m → BoxD ds' (n + 1) → P r ds'
def F__law_take : FN := fun sls P => match sls with
  | [.own ds, .fz (.int m)] => takeF ds m fun r ds' => P (.int r) [.own ds', .no]
  | _ => False
section
variable {P : Program} {w : World} {K : PySem.W.Frag} {mg : Str → Option Value} {base : Heap} {k : Nat} {f : Addr} {fd : FuncData} {ps : List Str} {sp sp' : Sp}
def spTake : Sp := fun vs H Q _ => ∃ (B : Addr) (m : Int) (n : Nat), vs = [.ref B, .int m] ∧ Box H B n ∧ 0 < m ∧ m < 1073741824 ∧ n < 1000000000 ∧ ∀ (r : Int) H', 0 ≤ r → r < m → Z.Fr [B] H H' → Box H' B (n + 1) → Q (.int r) H'
theorem boxD_ints {G : Hp} {xs : List V} {b0 b1 b2 : Int} (h : DqAll K G xs [.int b0, .int b1, .int b2]) : xs = [.int b0, .int b1, .int b2] := by
  cases h with
  | cons a r => cases r with
    | cons b r => cases r with
      | cons c r => cases r; cases a; cases b; cases c; rfl
theorem TabsOk.frB {H H' : Hp} {B : Addr} {xs : List V} (t : TabsOk H) (f : Z.Fr [B] H H') (h : H B = some (.lst xs)) : TabsOk H' := fun p hp => by
  obtain ⟨ps, h1, h2, h3⟩ := t p hp
  have ne : ∀ b o, H b = some o → o ≠ .lst xs → b ∉ [B] := fun b o e n z => n (Option.some.inj (e.symm.trans (by rw [List.mem_singleton.mp z]; exact h)))
  refine ⟨ps, f _ _ (ne _ _ h1 (fun z => by cases z)) h1, h2, fun pos cv hc => ?_⟩
  obtain ⟨c, e1, e2⟩ := h3 pos cv hc
  exact ⟨c, e1, f _ _ (ne _ _ e2 (fun z => by unfold LamX.CodeO at z; cases z)) e2⟩
theorem take_of {vs : List V} {H : Hp} {Q : VK} {E : XK} (h : spF K 2 F__law_take vs H Q E) : spTake vs H Q E := by
  obtain ⟨hv, O, as, S, ρ, P, R, hl, hF, q⟩ := h
  match vs, hv with
  | [v0, v1], _ =>
    have hl : ρ.length = 2 := hl
    match ρ, hl with
    | [s0, s1], _ =>
      unfold F__law_take at hF
      split at hF
      · next ds m e =>
        injection e with e1 e2
        injection e2 with e2 _
        subst e1
        subst e2
        obtain ⟨n, hb, m0, m1, hn, st⟩ := hF
        obtain ⟨b0, b1, b2, rfl, h0, h1, h2, h3, h4⟩ := hb
        obtain ⟨B, xs, z1, z2, z3, z4⟩ := R.own_at (i := 0) rfl
        obtain ⟨v, y1, y2, y3⟩ := R.fz_at (i := 1) rfl
        cases boxD_ints z4
        cases z1
        cases y1
        cases y3
        refine ⟨B, m, n, rfl, ⟨b0, b1, b2, z3, h0, h1, h2, h3, h4⟩, m0, m1, hn, fun r H' r0 r1 fr hB => ?_⟩
        obtain ⟨c0, c1, c2, ec, k0, k1, k2, k3, k4⟩ := hB
        have as0 : ∀ i r, as i = some r → i = 0 ∧ r = .lf B := fun i r ha => by
          have hi := R.bnd i r ha
          match i, hi, ha with
          | 0, _, ha => rw [z2] at ha; cases ha; exact ⟨rfl, rfl⟩
          | 1, _, ha => rw [y2] at ha; cases ha
        have hfr : Fr as ⟨H, S⟩ ⟨H', S⟩ := by
          refine ⟨fun a o na e => fr a o (fun z => na (.inl ⟨0, _, z2, by rw [List.mem_singleton.mp z]; exact .here⟩)) e, fun a h => ?_, fun a h => ?_, fun _ => rfl⟩
          · rcases h with ⟨i, r', h, q'⟩ | h
            · obtain ⟨rfl, rfl⟩ := as0 i r' h
              rw [q'.lf_of]
              exact .inl (.inl ⟨0, _, z2, .here⟩)
            · exact .inl (.inr h)
          · show H' a ≠ none
            by_cases z : a = B
            · rw [z, ec]; exact Option.some_ne_none _
            · obtain ⟨o, e⟩ := Option.ne_none_iff_exists'.mp h
              rw [fr a o (fun w => z (List.mem_singleton.mp w)) e]
              exact Option.some_ne_none _
        refine q _ _ _ ⟨H', S⟩ (st r [.int c0, .int c1, .int c2] r0 r1 ⟨c0, c1, c2, rfl, k0, k1, k2, k3, k4⟩) hfr ⟨R.tab.frB fr z3, fun i a ha => ?_, fun i j r1 r2 b h1 h2 _ _ => by rw [(as0 i r1 h1).1, (as0 j r2 h2).1], fun i r' b h q' => ?_⟩ (.int _)
        · obtain ⟨rfl, rfl⟩ := as0 i a ha
          exact ⟨_, rfl, .own ec (.cons (.int _) (.cons (.int _) (.cons (.int _) .nil)))⟩
        · obtain ⟨rfl, rfl⟩ := as0 i r' h
          rw [q'.lf_of]
          exact R.out 0 _ B z2 .here
      · exact hF.elim
end
end DL
/-! going through data -/
namespace DL
open PySem L2 Z PySem.Spec PyProof.Rows
variable [Tbs]
theorem kit_none_int : kitB (kindD .none) "int" = some false := by show kitB "NoneType" "int" = _; decide +kernel
theorem kit_none_bool : kitB (kindD .none) "bool" = some false := by show kitB "NoneType" "bool" = _; decide +kernel
theorem kit_none_str : kitB (kindD .none) "str" = some false := by show kitB "NoneType" "str" = _; decide +kernel
theorem kit_none_list : kitB (kindD .none) "list" = some false := by show kitB "NoneType" "list" = _; decide +kernel
theorem kit_none_tuple : kitB (kindD .none) "tuple" = some false := by show kitB "NoneType" "tuple" = _; decide +kernel
theorem kit_bool_int {b : Bool} : kitB (kindD (.bool b)) "int" = some true := by show kitB "bool" "int" = _; decide +kernel
theorem kit_bool_bool {b : Bool} : kitB (kindD (.bool b)) "bool" = some true := by show kitB "bool" "bool" = _; decide +kernel
theorem kit_bool_str {b : Bool} : kitB (kindD (.bool b)) "str" = some false := by show kitB "bool" "str" = _; decide +kernel
theorem kit_bool_list {b : Bool} : kitB (kindD (.bool b)) "list" = some false := by show kitB "bool" "list" = _; decide +kernel
theorem kit_bool_tuple {b : Bool} : kitB (kindD (.bool b)) "tuple" = some false := by show kitB "bool" "tuple" = _; decide +kernel
theorem kit_int_int {i : Int} : kitB (kindD (.int i)) "int" = some true := by show kitB "int" "int" = _; decide +kernel
theorem kit_int_bool {i : Int} : kitB (kindD (.int i)) "bool" = some false := by show kitB "int" "bool" = _; decide +kernel
theorem kit_int_str {i : Int} : kitB (kindD (.int i)) "str" = some false := by show kitB "int" "str" = _; decide +kernel
theorem kit_int_list {i : Int} : kitB (kindD (.int i)) "list" = some false := by show kitB "int" "list" = _; decide +kernel
theorem kit_int_tuple {i : Int} : kitB (kindD (.int i)) "tuple" = some false := by show kitB "int" "tuple" = _; decide +kernel
theorem kit_str_int {s : Str} : kitB (kindD (.str s)) "int" = some false := by show kitB "str" "int" = _; decide +kernel
theorem kit_str_bool {s : Str} : kitB (kindD (.str s)) "bool" = some false := by show kitB "str" "bool" = _; decide +kernel
theorem kit_str_str {s : Str} : kitB (kindD (.str s)) "str" = some true := by show kitB "str" "str" = _; decide +kernel
theorem kit_str_list {s : Str} : kitB (kindD (.str s)) "list" = some false := by show kitB "str" "list" = _; decide +kernel
theorem kit_str_tuple {s : Str} : kitB (kindD (.str s)) "tuple" = some false := by show kitB "str" "tuple" = _; decide +kernel
theorem kit_list_int {l : List PyData} : kitB (kindD (.list l)) "int" = some false := by show kitB "list" "int" = _; decide +kernel
theorem kit_list_bool {l : List PyData} : kitB (kindD (.list l)) "bool" = some false := by show kitB "list" "bool" = _; decide +kernel
theorem kit_list_str {l : List PyData} : kitB (kindD (.list l)) "str" = some false := by show kitB "list" "str" = _; decide +kernel
theorem kit_list_list {l : List PyData} : kitB (kindD (.list l)) "list" = some true := by show kitB "list" "list" = _; decide +kernel
theorem kit_list_tuple {l : List PyData} : kitB (kindD (.list l)) "tuple" = some false := by show kitB "list" "tuple" = _; decide +kernel
theorem kit_tuple_int {l : List PyData} : kitB (kindD (.tuple l)) "int" = some false := by show kitB "tuple" "int" = _; decide +kernel
theorem kit_tuple_bool {l : List PyData} : kitB (kindD (.tuple l)) "bool" = some false := by show kitB "tuple" "bool" = _; decide +kernel
theorem kit_tuple_str {l : List PyData} : kitB (kindD (.tuple l)) "str" = some false := by show kitB "tuple" "str" = _; decide +kernel
theorem kit_tuple_list {l : List PyData} : kitB (kindD (.tuple l)) "list" = some false := by show kitB "tuple" "list" = _; decide +kernel
theorem kit_tuple_tuple {l : List PyData} : kitB (kindD (.tuple l)) "tuple" = some true := by show kitB "tuple" "tuple" = _; decide +kernel
/-- a comprehension that draws nothing: of xs those of which k tells something -/
theorem lc_map {α : Type} {g : FG} {ft : FT} {fe : FE} {vs : List Nat} {ρ : En} {P : List PyData → En → Prop} {ds : List PyData} (xs : List α) (e : α → PyData) (k : α → Option PyData) (hd : ds = xs.map e) (hv : vs.all (slotF ρ) = true) (hl : xs.length ≤ sizeLine)
    (st : ∀ (x : α) (R : List PyData → En → Prop) (acc : List PyData), x ∈ xs → acc.length < sizeLine → R (acc ++ (k x).toList) (wipeF ρ vs) →
      g (e x) (wipeF ρ vs) fun ρ3 => ft ρ3 fun b ρ4 => if b = true then fe ρ4 fun y ρ5 => acc.length < sizeLine ∧ vs.all (slotF ρ5) = true ∧ R (acc ++ [y]) (wipeF ρ5 vs) else vs.all (slotF ρ4) = true ∧ R acc (wipeF ρ4 vs))
    (q : P (xs.filterMap k) (wipeF ρ vs)) : lcW ds g ft fe vs ρ P := by
  subst hd
  refine ⟨hv, fun i acc ρ2 => acc = (xs.take i).filterMap k ∧ ρ2 = wipeF ρ vs, ⟨rfl, rfl⟩, ?_, ?_⟩
  · rintro i d acc ρ2 hd ⟨rfl, rfl⟩
    rw [List.getElem?_map] at hd
    cases ex : xs[i]? with
    | none => rw [ex] at hd; cases hd
    | some x =>
      rw [ex] at hd
      cases hd
      have hi := (List.getElem?_eq_some_iff.mp ex).1
      refine st x (fun acc ρ2 => acc = (xs.take (i + 1)).filterMap k ∧ ρ2 = wipeF ρ vs) _ (List.mem_of_getElem? ex) ?_ ⟨?_, rfl⟩
      · refine Nat.lt_of_le_of_lt (List.length_filterMap_le _ _) ?_
        rw [List.length_take]
        omega
      · rw [List.take_add_one, ex, List.filterMap_append]
        cases h : k x <;> simp [h]
  · rintro acc ρ2 ⟨rfl, h⟩
    rw [h, List.length_map, List.take_length]
    exact q
/-- a comprehension by its state: W of the turn, what is laid, the slots -/
theorem lc_inv {α : Type} {g : FG} {ft : FT} {fe : FE} {vs : List Nat} {ρ : En} {P : List PyData → En → Prop} {ds : List PyData} (xs : List α) (e : α → PyData) (W : Nat → List PyData → En → Prop) (hd : ds = xs.map e) (hv : vs.all (slotF ρ) = true) (h0 : W 0 [] (wipeF ρ vs))
    (st : ∀ (i : Nat) (x : α) (acc : List PyData) (ρ2 : En), xs[i]? = some x → i < xs.length → W i acc ρ2 →
      g (e x) ρ2 fun ρ3 => ft ρ3 fun b ρ4 => if b = true then fe ρ4 fun y ρ5 => acc.length < sizeLine ∧ vs.all (slotF ρ5) = true ∧ W (i + 1) (acc ++ [y]) (wipeF ρ5 vs) else vs.all (slotF ρ4) = true ∧ W (i + 1) acc (wipeF ρ4 vs))
    (q : ∀ acc ρ2, W xs.length acc (wipeF ρ2 vs) → P acc (wipeF ρ2 vs)) : lcW ds g ft fe vs ρ P := by
  subst hd
  refine ⟨hv, W, h0, ?_, by rw [List.length_map]; exact q⟩
  intro i d acc ρ2 hd w
  rw [List.getElem?_map] at hd
  cases ex : xs[i]? with
  | none => rw [ex] at hd; cases hd
  | some x =>
    rw [ex] at hd
    cases hd
    exact st i x acc ρ2 ex (List.getElem?_eq_some_iff.mp ex).1 w
theorem strsF_f {α : Type} {f : α → Str} {xs : List α} {k : List Str → Prop} (h : k (xs.map f)) : strsF (xs.map fun x => .str (f x)) k := by
  have := strsF_map (bs := xs.map f) (k := k) h
  rw [List.map_map] at this
  exact this
theorem filterMap_if {α β : Type} (k : α → Bool) (f : α → β) (xs : List α) : xs.filterMap (fun x => if k x = true then some (f x) else none) = (xs.filter k).map f := by
  induction xs with
  | nil => rfl
  | cons x r ih =>
    rw [List.filterMap_cons, List.filter_cons, ih]
    cases h : k x <;> simp
theorem filterMap_some {α β : Type} (f : α → β) (xs : List α) : xs.filterMap (fun x => some (f x)) = xs.map f := by
  induction xs with
  | nil => rfl
  | cons x r ih => rw [List.filterMap_cons, ih]; rfl
/-- a loop by its state -/
theorem for_map {α : Type} {us : List Nat} {g : FG} {b : FS} {E : FEnds} {ρ : En} {ds : List PyData} (xs : List α) (e : α → PyData) (W : Nat → En → Prop) (hd : ds = xs.map e) (h0 : W 0 (fgt ρ us))
    (st : ∀ (i : Nat) (x : α) (ρ2 : En), xs[i]? = some x → i < xs.length → W i ρ2 → g (e x) ρ2 fun ρ3 => b { E with nx := fun ρ4 => W (i + 1) (fgt ρ4 us), ct := fun ρ4 => W (i + 1) (fgt ρ4 us), bk := E.nx } ρ3) (q : ∀ ρ2, W xs.length ρ2 → E.nx ρ2) : forW us ds g b E ρ := by
  subst hd
  refine ⟨W, h0, ?_, by rw [List.length_map]; exact q⟩
  intro i d ρ2 hd w
  rw [List.getElem?_map] at hd
  cases ex : xs[i]? with
  | none => rw [ex] at hd; cases hd
  | some x =>
    rw [ex] at hd
    cases hd
    exact st i x ρ2 ex (List.getElem?_eq_some_iff.mp ex).1 w
/-- a loop over range(m) -/
theorem for_range {us : List Nat} {g : FG} {b : FS} {E : FEnds} {ρ : En} {lo : Int} {m : Nat} (W : Nat → En → Prop) (h0 : W 0 (fgt ρ us))
    (st : ∀ (i : Nat) (ρ2 : En), i < m → W i ρ2 → g (.int (lo + (i : Int))) ρ2 fun ρ3 => b { E with nx := fun ρ4 => W (i + 1) (fgt ρ4 us), ct := fun ρ4 => W (i + 1) (fgt ρ4 us), bk := E.nx } ρ3) (q : ∀ ρ2, W m ρ2 → E.nx ρ2) : forW us (rangeD lo m) g b E ρ := by
  refine for_map (List.range m) (fun k : Nat => .int (lo + (k : Int))) W rfl h0 (fun i x ρ2 hx hi w => ?_) (by rw [List.length_range]; exact q)
  rw [List.length_range] at hi
  rw [List.getElem?_range hi] at hx
  cases hx
  exact st i ρ2 hi w
/-- a draw -/
theorem take_step {ds : List PyData} {m : Int} {n : Nat} {P : Int → List PyData → Prop} (hb : BoxD ds n) (h0 : 0 < m) (h1 : m < 1073741824) (h2 : n < 1000000000) (k : ∀ r ds', 0 ≤ r → r < m → BoxD ds' (n + 1) → P r ds') : takeF ds m P := ⟨n, hb, h0, h1, h2, k⟩
theorem sz0 : (0 ≤ sizeLine) = True := eq_true (by decide)
theorem sz1 : (1 ≤ sizeLine) = True := eq_true (by decide)
theorem sz2 : (2 ≤ sizeLine) = True := eq_true (by decide)
theorem sz3 : (3 ≤ sizeLine) = True := eq_true (by decide)
theorem sz4 : (4 ≤ sizeLine) = True := eq_true (by decide)
theorem sz5 : (5 ≤ sizeLine) = True := eq_true (by decide)
theorem sz6 : (6 ≤ sizeLine) = True := eq_true (by decide)
theorem sz7 : (7 ≤ sizeLine) = True := eq_true (by decide)
theorem sz8 : (8 ≤ sizeLine) = True := eq_true (by decide)
theorem sz9 : (9 ≤ sizeLine) = True := eq_true (by decide)
theorem sz10 : (10 ≤ sizeLine) = True := eq_true (by decide)
theorem sz11 : (11 ≤ sizeLine) = True := eq_true (by decide)
theorem sz12 : (12 ≤ sizeLine) = True := eq_true (by decide)
theorem sz13 : (13 ≤ sizeLine) = True := eq_true (by decide)
theorem sz14 : (14 ≤ sizeLine) = True := eq_true (by decide)
theorem sz15 : (15 ≤ sizeLine) = True := eq_true (by decide)
theorem sz16 : (16 ≤ sizeLine) = True := eq_true (by decide)
theorem sz17 : (17 ≤ sizeLine) = True := eq_true (by decide)
theorem sz18 : (18 ≤ sizeLine) = True := eq_true (by decide)
theorem sz19 : (19 ≤ sizeLine) = True := eq_true (by decide)
theorem sz20 : (20 ≤ sizeLine) = True := eq_true (by decide)
theorem at0 {α : Type} {x : α} {xs : List α} : L2.atI (x :: xs) 0 = some x := by simp [L2.atI, ixN]
theorem at1 {α : Type} {x y : α} {xs : List α} : L2.atI (x :: y :: xs) 1 = some y := by
  unfold L2.atI ixN
  rw [if_pos (by decide), if_pos (by simp only [List.length_cons]; omega)]
  rfl
theorem at2 {α : Type} {x y z : α} {xs : List α} : L2.atI (x :: y :: z :: xs) 2 = some z := by
  unfold L2.atI ixN
  rw [if_pos (by decide), if_pos (by simp only [List.length_cons]; omega)]
  rfl
theorem at3 {α : Type} {x y z w : α} {xs : List α} : L2.atI (x :: y :: z :: w :: xs) 3 = some w := by
  unfold L2.atI ixN
  rw [if_pos (by decide), if_pos (by simp only [List.length_cons]; omega)]
  rfl
theorem at4 {α : Type} {x y z w v : α} {xs : List α} : L2.atI (x :: y :: z :: w :: v :: xs) 4 = some v := by
  unfold L2.atI ixN
  rw [if_pos (by decide), if_pos (by simp only [List.length_cons]; omega)]
  rfl
/-- a drawn one of a written list -/
theorem at_mem {α : Type} {xs : List α} {r : Int} (h0 : 0 ≤ r) (h1 : r < xs.length) : ∃ v, L2.atI xs r = some v ∧ v ∈ xs := by
  obtain ⟨j, rfl⟩ := Int.eq_ofNat_of_zero_le h0
  have hj : j < xs.length := by omega
  refine ⟨xs[j], ?_, List.getElem_mem hj⟩
  unfold L2.atI
  rw [ixN_nat hj]
  exact List.getElem?_eq_getElem hj
theorem cutD_tail {α : Type} (xs : List α) (e : α → PyData) : cutD (xs.map e) (some 1) none = xs.tail.map e := by
  unfold cutD
  have h : HT.sIx (xs.map e).length 0 (some 1) = min 1 (xs.map e).length := HT.sIx_nat _ _ 1
  rw [h, HT.sIx_none, List.length_map]
  cases xs with
  | nil => rfl
  | cons x r =>
    rw [List.length_cons, Nat.min_eq_left (by omega), List.map_cons, List.drop_succ_cons, List.drop_zero, List.take_of_length_le (by rw [List.length_map]; omega)]
    rfl
theorem cutD_take {α : Type} (xs : List α) (e : α → PyData) (k : Nat) : cutD (xs.map e) none (some (k : Int)) = (xs.take k).map e := by
  unfold cutD
  rw [HT.sIx_nat, HT.sIx_none, List.drop_zero, Nat.sub_zero, List.length_map]
  by_cases h : k ≤ xs.length
  · rw [Nat.min_eq_left h, List.map_take]
  · rw [Nat.min_eq_right (by omega), List.take_of_length_le (by rw [List.length_map]; omega), List.take_of_length_le (by omega)]
theorem atI_nat' {α : Type} {xs : List α} {k : Nat} {x : α} (h : xs[k]? = some x) : L2.atI xs (k : Int) = some x := by
  unfold L2.atI
  rw [ixN_nat (List.getElem?_eq_some_iff.mp h).1]
  exact h
theorem atI_map {α β : Type} (f : α → β) (xs : List α) (k : Int) : L2.atI (xs.map f) k = (L2.atI xs k).map f := by
  unfold L2.atI
  rw [List.length_map]
  cases ixN xs.length k with
  | none => rfl
  | some j => exact List.getElem?_map ..
end DL
/-! objects that stay, keywords, own lists in a parallel assignment, more of own lists -/
namespace DL
open PySem L2 Z PySem.Spec PyProof.Rows
variable [Tbs]
section
variable {K : PySem.W.Frag} {n : Nat} {J : Jv n}
def objF (c : Str) (d : PyData) (k : List (PyData × PyData) → Prop) : Prop := match d with
  | .dict ((.str c', .none) :: fs) => c' = c ∧ k fs
  | _ => False
/-- e.f -/
def fFld (c f : Str) (a : FE) : FE := fun ρ P => a ρ fun d ρ1 => objF c d fun fs => ∃ v, fldD f fs = some v ∧ P v ρ1
def fMk (c : Str) (G : List PyData → (List (PyData × PyData) → Prop) → Prop) (dv : List PyData) (f : FA) : FE := fun ρ P => f ρ fun ds ρ1 => G (ds ++ dv) fun fs => P (.dict ((.str c, .none) :: fs)) ρ1
def fMkN (c : Str) (G : List PyData → (List (PyData × PyData) → Prop) → Prop) (n m : Nat) (gD : List PyData → List PyData → List PyData) (f fk : FA) : FE := fun ρ P => f ρ fun ds ρ1 => fk ρ1 fun es ρ2 => ds.length = n ∧ es.length = m ∧ G (gD ds es) fun fs => P (.dict ((.str c, .none) :: fs)) ρ2
/-- a call with keywords, data alone -/
def fCallN (F : FN) (n m : Nat) (gD : List PyData → List PyData → List PyData) (f fk : FA) : FE := fun ρ P => f ρ fun ds ρ1 => fk ρ1 fun es ρ2 => ds.length = n ∧ es.length = m ∧ F ((gD ds es).map .fz) fun d _ => P d ρ2
/-! own lists in a parallel assignment -/
theorem EnR.ownNew {O : Addr → Prop} {as : As} {H : Hs} {ρ : En} {σ : L2.St} {p : Addr} {xs : List V} {ds : List PyData} {i : Nat} (E : EnR K J (plus O p) as H ρ σ) (hi : slotL ρ i = true) (hJ : J.P (upA as i (some (.lf p))) H) (hQ : J.Q O) (np : ¬ O p) (h : H p = some (.lst xs)) (d : DqAll K (hq (plus O p) as H) xs ds) :
    EnR K J O (upA as i (some (.lf p))) H (ρ.set i (.own ds)) (σ.set i (some (.ref p))) := E.setOwn hQ (E.ltB hi) hJ h d np
theorem same_plus {O : Addr → Prop} {as : As} {H H' : Hs} {p : Addr} (f : Fr as H H') (h : NewO as H p) : Same (hq O as H) (hq (plus O p) as H') := fun a o e => by
  obtain ⟨na, e⟩ := hp_some e
  refine hp_mk (fun z => ?_) (f.fr a o (fun z => na (.inr z)) e)
  rcases z with (z | z) | z
  · exact na (.inl z)
  · rw [z] at e na
    rcases h with h | h
    · rw [h] at e; cases e
    · exact na (.inr h)
  · rcases f.new a z with z | z
    · exact na (.inr z)
    · rw [z] at e; cases e
theorem ext_own {as : As} {H H' : Hs} {p : Addr} {i : Nat} (f : Fr as H H') (hi : n ≤ i) (ns : as i ≠ some .sto) (h : NewO as H p) : Ext n as (upA as i (some (.lf p))) H H' := by
  refine ⟨f.fr, fun a q => ?_, fun j hj => upA_ne (by omega), f.liv, upA_ks ns (fun z => by cases z), f.nst⟩
  rcases q.up with ⟨r, e, q⟩ | q
  · cases e
    rw [q.lf_of]; exact h.symm
  · exact f.new a q
theorem less_own {O : Addr → Prop} {as : As} {H : Hs} {p : Addr} {i : Nat} : Same (hq (plus O p) as H) (hq O (upA as i (some (.lf p))) H) := hp_less fun a z => by
  rcases z with z | z
  · exact .inl (.inl z)
  · rcases z.up with ⟨r, e, z⟩ | z
    · cases e
      exact .inl (.inr z.lf_of)
    · exact .inr z
/-- i, j = e, [..] -/
def fParO2 (i j : Nat) (a : FE) (b : FA) : FS := fun E ρ => a ρ fun d ρ1 => b ρ1 fun ds ρ2 => gN i d ρ2 fun ρ3 => slotL ρ3 j = true ∧ E.nx (ρ3.set j (.own ds))
theorem none_back {as : As} {H H1 : Hs} {p : Addr} (f : Fr as H H1) (h : NewO as H1 p) : NewO as H p := (Ext.of (n := 0) f).old h
/-- i, j = [..], e -/
def fParO1 (i j : Nat) (b : FA) (a : FE) : FS := fun E ρ => b ρ fun ds ρ1 => a ρ1 fun d ρ2 => slotL ρ2 i = true ∧ slotF (ρ2.set i (.own ds)) j = true ∧ E.nx ((ρ2.set i (.own ds)).set j (.fz d))
theorem slotL_set {ρ : En} {i j : Nat} {ds : List PyData} (h : slotL ρ i = true) : slotL (ρ.set j (.own ds)) i = true := by
  unfold slotL at h ⊢
  rw [List.getElem?_set]
  by_cases e : j = i
  · subst e
    rw [if_pos rfl]
    split at h
    · cases h
    · next sl _ hn => rw [if_pos (List.getElem?_eq_some_iff.mp hn).1]
    · cases h
  · rw [if_neg e]
    exact h
/-- i, j = [..], [..] -/
def fParOO (i j : Nat) (a b : FA) : FS := fun E ρ => a ρ fun ds ρ1 => b ρ1 fun es ρ2 => slotL ρ2 i = true ∧ slotL ρ2 j = true ∧ E.nx ((ρ2.set i (.own ds)).set j (.own es))
theorem EnR.ownTwo {O : Addr → Prop} {as : As} {H0 H : Hs} {ρ : En} {σ : L2.St} {p q : Addr} {xs ys : List V} {ds es : List PyData} {i j : Nat} (E : EnR K J (plus (plus O p) q) as H ρ σ) (hij : i ≠ j) (hi : slotL ρ i = true) (hj : slotL ρ j = true) (ni : n ≤ i) (nj : n ≤ j) (h0 : J.P as H0) (hq0 : J.Q O) (f : Fr as H0 H)
    (hp : NewO as H0 p) (hq : NewO as H0 q) (np : ¬ O p) (nq : ¬ plus O p q) (h1 : H p = some (.lst xs)) (h2 : H q = some (.lst ys)) (d1 : DqAll K (DL.hq (plus (plus O p) q) as H) xs ds) (d2 : DqAll K (DL.hq (plus (plus O p) q) as H) ys es) :
    ∃ as', Ext n as as' H0 H ∧ EnR K J O as' H ((ρ.set i (.own ds)).set j (.own es)) ((σ.set i (some (.ref p))).set j (some (.ref q))) := by
  have x1 : Ext n as (upA as j (some (.lf q))) H0 H := ext_own f nj (E.nst_at (E.ltB hj)) hq
  have E1 := E.ownNew (i := j) hj (J.cl _ _ _ _ h0 x1) (J.up _ _ (fun _ z => .inl z) hq0) nq h2 d2
  have x2 : Ext n as (upA (upA as j (some (.lf q))) i (some (.lf p))) H0 H := ⟨f.fr, fun a z => by
    rcases z.up with ⟨r, e, z⟩ | z
    · cases e
      rw [z.lf_of]; exact hp.symm
    · exact x1.new a z, fun k hk => by rw [upA_ne (by omega)]; exact x1.fix k hk, f.liv, fun k => (upA_ks (o := some (.lf p)) (fun z => E.nst_at (E.ltB hi) ((x1.ks i).mp z)) (fun z => by cases z) k).trans (x1.ks k), f.nst⟩
  have E2 := E1.ownNew (i := i) (slotL_set hi) (J.cl _ _ _ _ h0 x2) hq0 np h1 (d1.mono less_own)
  refine ⟨_, x2, ?_⟩
  rw [List.set_comm _ _ hij, List.set_comm _ _ hij]
  exact E2
theorem rs_parOO {i j : Nat} {ta tb : TE} {a b : FA} (hij : i ≠ j) (hi : n ≤ i) (hj : n ≤ j) (ha : RN K J ta a) (hb : RN K J tb b) : RS K J (tPar i j (tCons ta (tCons tb tNil))) (fParOO i j a b) := by
  intro O as σ H D ρ E R f C
  refine ha O as σ H _ ρ _ R f fun ds ρ1 p xs H1 q1 f1 hp1 E1 hp2 d1 => ?_
  refine hb (plus O p) as σ H1 _ ρ1 _ E1 q1 fun es ρ2 q ys H2 q2 f2 hq1 E2 hq2 d2 => ?_
  refine ⟨_, _, rfl, ?_⟩
  obtain ⟨as', x, E3⟩ := E2.ownTwo hij q2.1 q2.2.1 hi hj R.inv R.inq (f1.trans f2) hp1 (none_back f1 hq1) (R.notO E1 hp1 hp2) (E1.notO E2 hq1 hq2) (f2.fr _ _ (E1.newp hp2) hp2) hq2 (d1.mono (same_plus f2 hq1)) d2
  exact C.nx _ _ _ _ q2.2.2 x E3
/-- i, j, l = e, e', [..] -/
def fPar3O3 (i j l : Nat) (a a' : FE) (b : FA) : FS := fun E ρ => a ρ fun d ρ1 => a' ρ1 fun d' ρ2 => b ρ2 fun ds ρ3 => gN i d ρ3 fun ρ4 => gN j d' ρ4 fun ρ5 => slotL ρ5 l = true ∧ E.nx (ρ5.set l (.own ds))
theorem rs_par3O3 {i j l : Nat} {ta ta' tn : TE} {a a' : FE} {b : FA} (hl : n ≤ l) (ha : RE K J ta a) (ha' : RE K J ta' a') (hb : RN K J tn b) : RS K J (tPar3 i j l (tCons ta (tCons ta' (tCons tn tNil)))) (fPar3O3 i j l a a' b) := by
  intro O as σ H D ρ E R f C
  refine ha O as σ H _ ρ _ R f fun d ρ1 v H1 q1 f1 E1 d1 => ?_
  refine ha' O as σ H1 _ ρ1 _ E1 q1 fun d' ρ2 v' H2 q2 f2 E2 d2 => ?_
  refine hb O as σ H2 _ ρ2 _ E2 q2 fun ds ρ3 p xs H3 q3 f3 hp1 E3 hp2 d3 => ?_
  refine ⟨_, _, _, rfl, ?_⟩
  have E4 := (E3.setFz q3.1 ((d1.fr f2).mono (same_plus f3 hp1))).setFz q3.2.1 (d2.mono (same_plus f3 hp1))
  have x := ext_own ((f1.trans f2).trans f3) hl (E4.nst_at (E4.ltB q3.2.2.1)) (none_back f1 (none_back f2 hp1))
  exact C.nx _ _ _ _ q3.2.2.2 x (E4.ownNew q3.2.2.1 (J.cl _ _ _ _ R.inv x) R.inq (E2.notO E3 hp1 hp2) hp2 d3)
/-- own[k] += e -/
def fAugO (i : Nat) (b a : FE) (h : Int → Int → Int) : FS := fun E ρ => ownF ρ i fun _ => b ρ fun x ρ1 => intF x fun k => ownF ρ1 i fun ds => ∃ c, atI ds k = some (.int c) ∧ a ρ1 fun y ρ2 => intF y fun y => ownF ρ2 i fun es => ∃ j, ixN es.length k = some j ∧ E.nx (ρ2.set i (.own (es.set j (.int (h c y)))))
/-- i, j = e, [..] by way of the tuple -/
theorem rs_asgO2 {i j : Nat} {ta tn : TE} {a : FE} {b : FA} (hj : n ≤ j) (ha : RE K J ta a) (hb : RN K J tn b) : RS K J (tAsg (tTup (tCons ta (tCons tn tNil))) (gTup K 2 (gCons (gName i) (gCons (gName j) gNil)))) (fParO2 i j a b) := by
  intro O as σ H D ρ E R f C
  refine ha O as σ H _ ρ _ R f fun d ρ1 v H1 q1 f1 E1 d1 => ?_
  refine hb O as σ H1 _ ρ1 _ E1 q1 fun ds ρ2 p xs H2 q2 f2 hp1 E2 hp2 d2 => ?_
  refine ⟨by show 2 ≤ sizeLine; decide, fun T hT => ?_⟩
  have s3 := Same.new (o := .tup [v, .ref p]) hT
  refine ⟨T, _, rfl, SqT.of upd_same, rfl, _, _, rfl, _, _, rfl, rfl, ?_⟩
  have E3 := E2.grow s3
  have E4 := E3.setFz q2.1 ((d1.mono (same_plus f2 hp1)).mono (E2.hgrow s3))
  have x := ext_own ((f1.trans f2).trans (E2.frS s3)) hj (E4.nst_at (E4.ltB q2.2.1)) (none_back f1 hp1)
  exact C.nx _ _ _ _ q2.2.2 x (E4.ownNew q2.2.1 (J.cl _ _ _ _ R.inv x) R.inq (E1.notO E2 hp1 hp2) (s3 _ _ hp2) (d2.mono (E2.hgrow s3)))
/-- own == e, own != e -/
def fEqO (h : Bool → Bool) (i : Nat) (b : FE) : FE := fun ρ P => ownF ρ i fun _ => b ρ fun y ρ1 => ownF ρ1 i fun ds => SeqAt.shaped (.list ds) = true ∧ SeqAt.shaped y = true ∧ P (.bool (h (PyData.eqv (.list ds) y))) ρ1
end
end DL
/-! new lists handed back; own lists changed by methods; more built-in calls -/
namespace DL
open PySem L2 Z PySem.Spec PyProof.Rows
variable [Tbs]
section
variable {K : PySem.W.Frag} {n : Nat} {J : Jv n}
/-- return own -/
def fRetO (i : Nat) : FS := fun E ρ => ownF ρ i fun ds => E.ro ds (ρ.set i .no)
/-- return of a new list -/
def fRetW (f : FA) : FS := fun E ρ => f ρ fun ds ρ1 => E.ro ds ρ1
theorem rs_retW {te : TE} {f : FA} (h : RN K J te f) : RS K J (tRet te) (fRetW f) := by
  intro O as σ H D ρ E R q C
  exact h O as σ H _ ρ _ R q fun ds ρ1 p xs H2 q1 f1 hp1 E1 hp2 d1 => C.ro _ _ _ _ _ _ _ q1 (.of f1) hp1 E1 hp2 d1
abbrev FM := List Sl → (List PyData → List Sl → Prop) → Prop
/-- a def that hands back a new list -/
def spNG (K : PySem.W.Frag) (n e : Nat) (F : FM) : Sp := fun vs H Q _ => vs.length = n ∧ ∃ (O : Addr → Prop) (as : As) (S : Sto) (ρ : En) (P : List PyData → List Sl → Prop), EnR K (J0 : Jv 0) O as ⟨H, S⟩ ρ (vs.map some) ∧ ρ.length = n + e ∧ F ρ P ∧
  ∀ ds out p xs H', P ds out → Fr as ⟨H, S⟩ H' → NewO as ⟨H, S⟩ p → Bk K (plus O p) as H' out → H' p = some (.lst xs) → DqAll K (hq (plus O p) as H') xs ds → Q (.ref p) H'
abbrev spN (K : PySem.W.Frag) (n : Nat) (F : FM) : Sp := spNG K n 0 F
def fnM (n m : Nat) (b : FS) : FM := fun sls P => b { nx := fun _ => False, rt := fun _ _ => False, ro := fun ds ρ' => P ds (ρ'.take n) } (sls ++ List.replicate (m - n) .no)
def fnMS (n m : Nat) (b : FS) : FM := fun sls P => b { nx := fun _ => False, rt := fun _ _ => False, ro := fun ds ρ' => P ds (ρ'.take n ++ ρ'.drop m) } (sls.take n ++ List.replicate (m - n) .no ++ sls.drop n)
theorem Ext.newS {n N : Nat} {as : As} {H : Hs} {p : Addr} (h : NewO (shA as n N) H p) : NewO as H p := h.imp id fun z => by
  rcases z with ⟨j, r, hc, q⟩ | hc
  · unfold shA at hc
    split at hc
    · exact .inl ⟨j, r, hc, q⟩
    · split at hc
      · exact .inl ⟨n, r, hc, q⟩
      · cases hc
  · exact .inr hc
theorem fn_runN {m e : Nat} {N : List Str} {b : FS} {t : TS} (rs : ∀ J : Jv m, RS K J t b) {vs : List V} {H : Hp} {Q : VK} {E : XK} (hN : m ≤ N.length) {F : FM} (hF : F = fun sls P => b { nx := fun _ => False, rt := fun _ _ => False, ro := fun ds ρ' => P ds (outS e m N.length ρ') } (enS e m N.length sls)) (h : spNG K m e F vs H Q E) : t { nx := fun _ H' => Q .non H', rt := Q } (L2.start N vs) H := by
  obtain ⟨hv, O, as, S, ρ, P, R, hl, hf, q⟩ := h
  subst hF
  refine rs (Jst m O (shA as m N.length) ⟨H, S⟩) O _ _ ⟨H, S⟩ _ _ _ (fn_start R hv hl hN) hf ⟨fun _ _ _ _ p => p.elim, fun _ _ _ _ _ _ p => p.elim, fun _ _ _ _ p => p.elim, fun _ _ _ _ p => p.elim, fun ds ρ' p xs as' σ' H' pr x o R' e d => ?_⟩
  obtain ⟨h1, h2, h3⟩ := fn_back R hv hl hN x R'
  exact q _ _ _ _ _ pr h1 (Ext.newS o) h2 e (d.mono h3)
theorem fn_coreN {ps : List Str} {N : List Str} {b : FS} {t : TS} (hN : ps.length ≤ N.length) (rs : ∀ J : Jv ps.length, RS K J t b) {vs : List V} {H : Hp} {Q : VK} {E : XK} (h : spN K ps.length (fnM ps.length N.length b) vs H Q E) : t { nx := fun _ H' => Q .non H', rt := Q } (L2.start N vs) H := fn_runN rs hN rfl h
section
variable {P : Program} {w : World} {mg : Str → Option Value} {base : Heap} {k : Nat} {f : Addr} {fd : FuncData} {ps : List Str} {x qual : Str} {st : Stmt} {N : List Str} {b : FS}
theorem okN0 (F : Fun K x qual st f fd) (S : FnScope N ps (defScope st))
    (body : ∀ (cdv : Value) (A : Around) (outer : List Env) (s : Shared) (H : Hp) (E : XK), Room k (A.deeper (envOfC qual (defScope st) s.heap.objs.size f cdv)) →
      ∃ t, PSs (cxOf CX0 P w K mg base N qual (defScope st) f cdv A outer s H E).nox (defBody st) t ∧ ∀ J : Jv ps.length, RS K J t b) :
    FnOk P w K mg base CX0 (k + 1) f fd ps (spN K ps.length (fnM ps.length N.length b)) := by
  refine F.ok S (fun vs H Q E h => h.1) (fun cdv A outer s H vs Q E hr h => ?_)
  obtain ⟨t, pt, rs⟩ := body cdv A outer s H E hr
  exact ⟨t, pt, fn_coreN (scope_le S) rs h⟩
end
/-- back from a def that hands back the place p -/
theorem call_backX {O : Addr → Prop} {p : Addr} {as : As} {H H' : Hs} {ρ : En} {σ : L2.St} {xs : List Ar} {vs : List V} {out : List Sl} (E : EnR K J O as H ρ σ) (ar : ArsT K (hq O as H) as vs xs) (nd : (ownIx xs).Nodup) (fr : Fr (adrs as xs) H H') (hX : NewO (adrs as xs) H p) (hL : H' p ≠ none) (bk : Bk K (plus (OutO O as xs H) p) (adrs as xs) H' out) :
    Fr as H H' ∧ EnR K J (plus O p) as H' (wb ρ xs out) σ ∧ ∀ a, Hid (plus O p) as H' a → Hid (plus (OutO O as xs H) p) (adrs as xs) H' a := by
  have bk0 : Bk K (OutO O as xs H) (adrs as xs) H' out := ⟨bk.tab, fun i r h => by
    obtain ⟨sl, e, q⟩ := bk.at_ i r h
    exact ⟨sl, e, q.mono (hp_less fun _ => hid_plus)⟩, bk.inj, fun i r b h q z => bk.out i r b h q (.inl z)⟩
  obtain ⟨fr', E', hid, st⟩ := call_back E ar nd fr bk0
  have hidX : ∀ a, Hid (plus O p) as H' a → Hid (plus (OutO O as xs H) p) (adrs as xs) H' a := fun a h => by
    rcases h with (h | h) | h
    · exact (hid a (.inl h)).imp .inl id
    · exact .inl (.inr h)
    · exact (hid a (.inr h)).imp .inl id
  have sX : Same (hq O as H) (hq (plus O p) as H') := fun a o e => by
    obtain ⟨na, e⟩ := hp_some e
    refine hp_mk (fun z => ?_) (fr'.fr a o (fun z => na (.inr z)) e)
    rcases z with (z | z) | z
    · exact na (.inl z)
    · rw [z] at e na
      rcases hX with h | h
      · rw [h] at e; cases e
      · exact na (.inr (adrs_sub h))
    · rcases fr'.new a z with z | z
      · exact na (.inr z)
      · rw [z] at e; cases e
  have np : ∀ i r b, as i = some r → Rgn H' r b → b ≠ p := fun i r b h q z => by
    by_cases m : i ∈ ownIx xs
    · obtain ⟨j, e⟩ := ownIx_mem m
      exact bk.out j r b (by unfold adrs; rw [e]; exact h) q (.inr z)
    · have q' : Rgn H r b := by
        cases r with
        | lf a => exact q
        | sto =>
          refine (Rgn.st (fr.nst fun j z => ?_)).mp q
          obtain ⟨i', e', h'⟩ := adrs_own z
          rw [(E.sto i' h').1, ← (E.sto i h).1] at e'
          exact m (mem_ownIx e')
      rw [z] at q'
      rcases hX with w | w
      · obtain ⟨o, e, _⟩ := E.nod h q'
        rw [show H.hp p = none from w] at e; cases e
      · exact (st i r p m h q').2 w
  refine ⟨fr', ⟨E'.len, E'.tl, fun i sl o h1 h2 => ?_, fun i h => ?_, E'.inj, fun i r b h q z => ?_, E'.bnd, fun a h => ?_, E'.inv, J.up _ _ (fun _ z => .inl z) E.inq, E'.tab⟩, hidX⟩
  · by_cases q : i ∈ ownIx xs
    · obtain ⟨j, e⟩ := ownIx_mem q
      have hi : i < ρ.length := by
        have := (List.getElem?_eq_some_iff.mp h1).1
        rw [wb_len] at this
        exact this
      obtain ⟨a, ha⟩ := ar.own_at e
      have hadr : adrs as xs j = some a := by unfold adrs; rw [e]; exact ha
      obtain ⟨sl', e1, e2⟩ := bk.at_ j a hadr
      rw [wb_own ρ hi nd e e1] at h1
      cases h1
      cases a with
      | sto =>
        have := (E.sto i ha).1
        have := (List.getElem?_eq_some_iff.mp h2).1
        omega
      | lf a =>
        obtain ⟨_, _, _, e4, _⟩ := E.is_own ha
        rw [e4] at h2
        cases h2
        rw [ha]
        exact RgR.mono (hp_less hidX) e2
    · rw [wb_other ρ xs out q] at h1
      exact (E.at_ i sl o h1 h2).mono sX fun b hb => (st i _ b q hb rfl).1
  · obtain ⟨e1, e2, e3⟩ := E'.sto i h
    refine ⟨e1, e2, ?_⟩
    by_cases q : i ∈ ownIx xs
    · obtain ⟨j, e⟩ := ownIx_mem q
      obtain ⟨sl', x1, x2⟩ := bk.at_ j .sto (by unfold adrs; rw [e]; exact h)
      exact x2.2.move (hp_less hidX) fun _ _ => rfl
    · have se : H'.st = H.st := fr.nst fun j z => by
        obtain ⟨i', e', h'⟩ := adrs_own z
        rw [(E.sto i' h').1, ← (E.sto i h).1] at e'
        exact q (mem_ownIx e')
      rw [se]
      exact (E.sto i h).2.2.move sX fun a z => (st i _ a q h z).1
  · rcases z with z | z
    · exact E'.out i r b h q z
    · exact np i r b h q z
  · rcases h with h | h
    · exact E'.occ a h
    · rw [h]; exact hL
theorem call_coreN {O : Addr → Prop} {as : As} {H : Hs} {ρ : En} {σ : L2.St} {xs : List Ar} {r : List Sl} {vs : List V} {m e : Nat} {F : FM} {P : List PyData → En → Prop} {Q : VK} {E0 : XK} (E : EnR K J O as H ρ σ) (fit : Fits ρ xs r) (ar : ArsT K (hq O as H) as vs xs) (hv : vs.length = m) (hm : xs.length = m + e) (nd : (ownIx xs).Nodup)
    (f : F r fun d out => P d (wb ρ xs out)) (k : ∀ ds ρ' p ys H', P ds ρ' → Fr as H H' → NewO as H p → EnR K J (plus O p) as H' ρ' σ → H' p = some (.lst ys) → DqAll K (hq (plus O p) as H') ys ds → Q (.ref p) H') : spNG K m e F vs H Q E0 := by
  refine ⟨hv, _, adrs as xs, H.st, r, _, call_in E fit ar nd, by rw [fit.len, hm], f, fun d out p ys H' pr fr hp1 bk hp2 dv => ?_⟩
  obtain ⟨fr', E', hid⟩ := call_backX E ar nd fr hp1 (by rw [hp2]; exact Option.some_ne_none _) bk
  exact k d _ p ys H' pr fr' (hp1.imp id adrs_sub) E' hp2 (dv.mono (hp_less hid))
def fCallW (m : Nat) (F : FM) (dv : List PyData) (a : FC) : FA := fun ρ P => a ρ fun xs ρ1 => xs.length + dv.length = m ∧ (ownIx xs).Nodup ∧ argF ρ1 xs fun r => F (r ++ dv.map .fz) fun d out => P d (wb ρ1 xs out)
theorem rn_call {m : Nat} {F : FM} {dvs : List V} {dv : List PyData} {E0 : XK} {t : TA} {f : FC} (hd : ∀ H, DqAll K H dvs dv) (ha : RC K J t f) : RN K J (tCall (spN K m F) dvs E0 t) (fCallW m F dv f) := by
  intro O as σ H Q ρ P E q k
  refine ha O as σ H _ ρ _ E q fun xs ρ1 vs H1 q1 f1 E1 d1 => ?_
  obtain ⟨hm, nd, q1⟩ := q1
  obtain ⟨r, fit, q1⟩ := argF_of q1
  refine call_coreN (xs := xs ++ dv.map .dat) E1 (fit.app (fits_dat dv)) (d1.app (dat_ars (hd _))).toT (by rw [List.length_append, d1.len, (hd H1).length]; exact hm) (by rw [List.length_append, List.length_map]; exact hm) (by rw [ownIx_app]; exact nd) ?_ fun ds ρ' p ys H' pr fr hp1 E' hp2 q' => k ds ρ' p ys H' pr (f1.trans fr) (none_back f1 hp1) E' hp2 q'
  simp only [wb_app]
  exact q1
/-- the same, handed the store, too -/
def fCallWS (sx m : Nat) (F : FM) (dv : List PyData) (a : FC) : FA := fun ρ P => a ρ fun xs ρ1 => xs.length + dv.length = m ∧ (ownIx xs ++ [sx]).Nodup ∧ argF ρ1 xs fun r => match ρ1[sx]? with
  | some (.st S) => F (r ++ dv.map .fz ++ [.st S]) fun d out => P d ((wb ρ1 xs out).set sx ((out.drop m).headD .no))
  | _ => False
def fCallNW (F : FM) (n m : Nat) (gD : List PyData → List PyData → List PyData) (f fk : FA) : FA := fun ρ P => f ρ fun ds ρ1 => fk ρ1 fun es ρ2 => ds.length = n ∧ es.length = m ∧ F ((gD ds es).map .fz) fun d _ => P d ρ2
/-! built-in calls and operators that make a new list -/
def RBN (K : PySem.W.Frag) (r : List V → Hp → VK → Prop) (g : List PyData → (List PyData → Prop) → Prop) : Prop := ∀ (A : Addr → Prop) (H : Hp) (Q : VK) (xs : List V) (ds : List PyData) (P : List PyData → Prop),
  DqAll K (hp A H) xs ds → g ds P → (∀ es p ys, P es → H p = none → DqAll K (hp A H) ys es → Q (.ref p) (upd H p (.lst ys))) → r xs H Q
theorem new_step {O : Addr → Prop} {as : As} {H H1 : Hs} {ρ1 : En} {σ : L2.St} {p : Addr} {ys : List V} {es : List PyData} {P : List PyData → En → Prop} {Q : VK} (f1 : Fr as H H1) (E1 : EnR K J O as H1 ρ1 σ) (q : P es ρ1) (hp1 : H1 p = none) (d : DqAll K (hq O as H1) ys es)
    (k : ∀ ds ρ' p xs H', P ds ρ' → Fr as H H' → NewO as H p → EnR K J (plus O p) as H' ρ' σ → H' p = some (.lst xs) → DqAll K (hq (plus O p) as H') xs ds → Q (.ref p) H') : Q (.ref p) (H1.w (upd H1 p (.lst ys))) := by
  obtain ⟨E2, s2⟩ := E1.addO (o := .lst ys) hp1
  exact k _ _ _ _ _ q (f1.trans (E1.frS (Same.new hp1))) (none_back f1 (.inl hp1)) E2 upd_same (d.mono s2)
def fCBN (g : List PyData → (List PyData → Prop) → Prop) (a : FA) : FA := fun ρ P => a ρ fun ds ρ1 => g ds fun es => P es ρ1
theorem rn_cb {r : List V → Hp → VK → Prop} {g : List PyData → (List PyData → Prop) → Prop} {t : TA} {f : FA} (hr : RBN K r g) (ha : RA K J t f) : RN K J (tCB r t) (fCBN g f) := by
  intro O as σ H Q ρ P E q k
  refine ha O as σ H _ ρ _ E q fun ds ρ1 vs H1 q1 f1 E1 d1 => ?_
  exact hr (Hid O as H1) H1 _ vs ds _ d1 q1 fun es p ys pr hp1 d => new_step f1 E1 pr hp1 d k
def nList (ds : List PyData) (P : List PyData → Prop) : Prop := one ds fun d => seqF d P
theorem rbn_list : RBN K (fun xs H Q => ∃ p ys, xs = [.ref p] ∧ (SqL K H p ys ∨ SqT K H p ys) ∧ ∀ l, H l = none → Q (.ref l) (upd H l (.lst ys))) nList := by
  intro A H Q xs ds P r g k
  obtain ⟨v, d, rfl, q, g⟩ := one_of r g
  obtain ⟨p, ys, es, rfl, s, r, g⟩ := seqF_of q g
  exact ⟨p, ys, rfl, s, fun l hl => k _ _ _ g hl r⟩
def nSortI (ds : List PyData) (P : List PyData → Prop) : Prop := one ds fun d => listF d fun es => intsF es fun ns => ∀ ms : List Int, ms.Perm ns → ms.Pairwise (· ≤ ·) → P (ms.map .int)
theorem rbn_sortI : RBN K (rSortedI K) nSortI := by
  intro A H Q xs ds P r g k
  obtain ⟨v, d, rfl, q, g⟩ := one_of r g
  unfold listF at g
  split at g
  · obtain ⟨ns, e, g'⟩ := intsF_of g
    subst e
    obtain ⟨a, ys, rfl, s, r⟩ := q.list_of
    cases r.ints_of
    exact ⟨a, ns, rfl, SqL.mono hp_same s, fun ms p h1 h2 hp1 => k _ _ _ (g' ms h1 h2) hp1 (DqAll.ints _)⟩
  · exact g.elim
def nSortS (ds : List PyData) (P : List PyData → Prop) : Prop := one ds fun d => listF d fun es => strsF es fun ns => ns.length < 64 ∧ ∀ ms : List Str, ms.Perm ns → sortedS ms = true → P (ms.map .str)
theorem rbn_sortS : RBN K (rSortedS K) nSortS := by
  intro A H Q xs ds P r g k
  obtain ⟨v, d, rfl, q, g⟩ := one_of r g
  unfold listF at g
  split at g
  · obtain ⟨ns, e, hl, g'⟩ := strsF_of g
    subst e
    obtain ⟨a, ys, rfl, s, r⟩ := q.list_of
    cases r.strs_of
    exact ⟨a, ns, rfl, SqL.mono hp_same s, hl, fun ms p h1 h2 hp1 => k _ _ _ (g' ms h1 h2) hp1 (DqAll.strs _)⟩
  · exact g.elim
def RRN (K : PySem.W.Frag) (r : R2) (g : PyData → PyData → (List PyData → Prop) → Prop) : Prop := ∀ (A : Addr → Prop) (H : Hp) (Q : VK) (x y : V) (a b : PyData) (P : List PyData → Prop),
  Dq K (hp A H) x a → Dq K (hp A H) y b → g a b P → (∀ es p ys, P es → H p = none → DqAll K (hp A H) ys es → Q (.ref p) (upd H p (.lst ys))) → r x y H Q
def fOpN (g : PyData → PyData → (List PyData → Prop) → Prop) (a b : FE) : FA := fun ρ P => a ρ fun x ρ1 => b ρ1 fun y ρ2 => g x y fun es => P es ρ2
theorem rn_op {r : R2} {g : PyData → PyData → (List PyData → Prop) → Prop} {ta tb : TE} {fa fb : FE} (hr : RRN K r g) (ha : RE K J ta fa) (hb : RE K J tb fb) : RN K J (tOp r ta tb) (fOpN g fa fb) := by
  intro O as σ H Q ρ P E q k
  refine ha O as σ H _ ρ _ E q fun a ρ1 x H1 q1 f1 E1 d1 => ?_
  refine hb O as σ H1 _ ρ1 _ E1 q1 fun b ρ2 y H2 q2 f2 E2 d2 => ?_
  exact hr (Hid O as H2) H2 _ x y a b _ (d1.fr f2) d2 q2 fun es p ys pr hp1 d => new_step (f1.trans f2) E2 pr hp1 d k
def nCat : PyData → PyData → (List PyData → Prop) → Prop := fun a b P => match a, b with
  | .list xs, .list ys => xs.length + ys.length ≤ sizeLine ∧ P (xs ++ ys)
  | _, _ => False
theorem rrn_cat : RRN K (rCatK K) nCat := by
  intro A H Q x y a b P da db g k
  unfold nCat at g
  split at g
  · obtain ⟨p, xs, rfl, s, r⟩ := da.list_of
    obtain ⟨p', xs', rfl, s', r'⟩ := db.list_of
    exact ⟨p, p', xs, xs', rfl, rfl, SqL.mono hp_same s, SqL.mono hp_same s', by rw [r.length, r'.length]; exact g.1, fun l hl => k _ _ _ g.2 hl (r.append r')⟩
  · exact g.elim
/-- [..] * k, the list being written there -/
def fRep (a : FA) (b : FE) : FA := fun ρ P => a ρ fun ds ρ1 => b ρ1 fun y ρ2 => intF y fun k => -(2 ^ 63) ≤ k ∧ k < 2 ^ 63 ∧ ds.length * k.toNat ≤ sizeLine ∧ P (List.replicate k.toNat ds).flatten ρ2
def fSlN (a : FE) (lo hi : FO) : FA := fun ρ P => a ρ fun x ρ1 => lo ρ1 fun l ρ2 => hi ρ2 fun u ρ3 => listF x fun ds => P (cutD ds l u) ρ3
/-- xs[::-1] -/
def fRev (a : FE) : FA := fun ρ P => a ρ fun x ρ1 => listF x fun ds => P ds.reverse ρ1
/-! own lists changed by methods -/
/-- own.pop(k), its value -/
def fPopAt (i : Nat) (a : FE) : FE := fun ρ P => ownF ρ i fun _ => a ρ fun x ρ1 => intF x fun k => ownF ρ1 i fun ds => -(2 ^ 63) ≤ k ∧ k < 2 ^ 63 ∧ ∃ j d, seqIndex? k ds.length = some j ∧ ds[j]? = some d ∧ P d (ρ1.set i (.own (ds.eraseIdx j)))
theorem DqAll.erase {G : Hp} : ∀ {v : List V} {d : List PyData} (m : Nat), DqAll K G v d → DqAll K G (v.eraseIdx m) (d.eraseIdx m)
  | _, _, _, .nil => .nil
  | _, _, 0, .cons _ b => b
  | _, _, m + 1, .cons a b => .cons a (DqAll.erase m b)
theorem re_popAt {i : Nat} {te : TE} {a : FE} (ha : RE K J te a) : RE K J (tBM K "list" rPopAt (tVar i) (tCons te tNil)) (fPopAt i a) := by
  intro O as σ H Q ρ P E q kk
  obtain ⟨ds0, h0, q⟩ := ownF_of q
  obtain ⟨p, xs0, e1, e2, e3, _⟩ := E.own_at h0
  refine ⟨_, e1, .inl ⟨rfl, _, SqL.of e3⟩, ?_⟩
  refine ha O as σ H _ ρ _ E q fun x ρ1 v H1 q1 f1 E1 d1 => ?_
  unfold intF at q1
  split at q1
  · cases d1
    obtain ⟨ds, hds, b1, b2, j, d, hj, hd, pr⟩ := ownF_of q1
    obtain ⟨p', xs, e1', e2', e3', e4'⟩ := E1.own_at hds
    rw [e2] at e2'
    cases e2'
    obtain ⟨y, hy, dy⟩ := e4'.got hd
    obtain ⟨E2, f2⟩ := E1.put (i := i) e2 e3' (e4'.erase j)
    exact ⟨p, xs, _, j, y, rfl, rfl, e3', b1, b2, by rw [e4'.length]; exact hj, hy, kk _ _ _ _ pr (f1.trans f2) E2 (dy.fr f2)⟩
  · exact q1.elim
/-- own.pop(), its value -/
def fPop (i : Nat) : FE := fun ρ P => ownF ρ i fun ds => ∃ d, ds[ds.length - 1]? = some d ∧ P d (ρ.set i (.own ds.dropLast))
theorem DqAll.last {G : Hp} {v : List V} {d : List PyData} (h : DqAll K G v d) : DqAll K G v.dropLast d.dropLast := by
  rw [List.dropLast_eq_take, List.dropLast_eq_take, h.length]
  exact h.take _
/-- own.insert(k, e) -/
def fInsert (i : Nat) (a b : FE) : FS := fun E ρ => ownF ρ i fun _ => a ρ fun x ρ1 => intF x fun k => b ρ1 fun d ρ2 => ownF ρ2 i fun ds => ds.length < sizeLine ∧ 0 ≤ k ∧ k < 2 ^ 63 ∧ E.nx (ρ2.set i (.own (ds.take k.toNat ++ [d] ++ ds.drop k.toNat)))
/-- own.extend(e), e being a list that is made there -/
def fExtend (i : Nat) (a : FA) : FS := fun E ρ => ownF ρ i fun _ => a ρ fun es ρ1 => ownF ρ1 i fun ds => ds.length + es.length ≤ sizeLine ∧ E.nx (ρ1.set i (.own (ds ++ es)))
/-- own.reverse() -/
def fReverse (i : Nat) : FS := fun E ρ => ownF ρ i fun ds => E.nx (ρ.set i (.own ds.reverse))
/-! isinstance(x, (list, tuple)) -/
def fIsiLT (a : FE) : FE := fun ρ P => a ρ fun d ρ1 => isObjD d = false ∧ ∃ b c, kitB (kindD d) "list" = some b ∧ kitB (kindD d) "tuple" = some c ∧ P (.bool (b || c)) ρ1
/-! the greatest of three -/
def bMax3 (ds : List PyData) (P : PyData → Prop) : Prop := match ds with
  | [.int i, .int j, .int k] => P (.int (max3 i j k))
  | _ => False
/-! the law's own likeness -/
def F__law_same : FN := fun sls P => match sls with
  | [.fz a, .fz b] => a = b ∧ SeqAt.shaped a = true ∧ a.depth < 8 ∧ nodes a ≤ 1000000 ∧ ∀ sl, P (.bool true) sl
  | _ => False
end
end DL
/-! own exceptions over a built-in one whose __new__ is that of a class above it (KeyError) -/
namespace XBO
open PySem PySem.Spec PyProof.Rows PySem.HandSPX
structure ExcBO (B O newId initId : String) (bm : List Value) : Prop where
  ends : newId.endsWith ".__new__" = true
  owner : newId.dropRight 8 = O
  entry : entryFor table newId = some Builtin.«BaseException.__new__»
  quiet : newId.startsWith "lifetime." = false
  init : Slot B "__init__" initId
  initEntry : entryFor table initId = some Builtin.«BaseException.__init__»
  initSplit : splitId initId = some (B, "__init__")
  initKind : builtinKind initId = some .slot
  initRow : Manifest.signature? initId = some ⟨.positional, "*", B, .self, [⟨"args", .varPos, false⟩]⟩
  noStar : (B != "*") = true
  noStarO : (O != "*") = true
  newSplit : splitId newId = some (O, "__new__")
  newKind : builtinKind newId = some .builtinFn
  newRow : Manifest.signature? newId = some ⟨.any, O, O, .cls, [⟨"args", .varPos, false⟩, ⟨"kwargs", .varKw, false⟩]⟩
  mroIs : mroOf (.type B) = pure bm
  hasB : bm.contains (.type B) = true
  hasO : bm.contains (.type O) = true
  hasBase : bm.contains (.type "BaseException") = true
  noAttr : bm.contains (.type "AttributeError") = false
  noName : bm.contains (.type "NameError") = false
  canon : Manifest.canonical newId = Manifest.canonical "BaseException.__new__"
theorem ExcBO.of {B newId initId : String} {bm : List Value} (F : ExcBaseFacts B newId initId bm) : ExcBO B B newId initId bm :=
  ⟨F.ends, F.owner, F.entry, F.quiet, F.init, F.initEntry, F.initSplit, F.initKind, F.initRow, F.noStar, F.noStar, F.newSplit, F.newKind, F.newRow, F.mroIs, F.hasB, F.hasB, F.hasBase, F.noAttr, F.noName, F.canon⟩
section
variable {M : Model} {A : Around} {E : Value → Shared → Prop} {h : Heap} {g : Array GenState} {d : Drawn} {t : Nat} {os : OsState}
variable {nm q : Str} {C N : Addr} {bs bm bmB : List Value} {hdct : Bool} {sn : List Str} {sub : List Value} {ab : Bool} {col : Option Bool} {dd : Option Addr} {k0 k1 k2 k3 k5 : Option Value} {B O newId initId : String}
end
section
variable {prog : Program} {w : World} {A : Around} {E : Value → Shared → Prop} {R : Result → Shared → Prop} {h : Heap} {g : Array GenState} {d : Drawn} {t : Nat} {os : OsState}
variable {nm q : Str} {C N : Addr} {bs bm bmB : List Value} {hdct : Bool} {sn : List Str} {sub : List Value} {ab : Bool} {col : Option Bool} {dd : Option Addr} {k0 k1 k2 k3 k5 : Option Value} {B O newId initId : String}
end
end XBO
/-! exceptions of own classes over any built-in one: made, raised, called for; those of __init__ -/
namespace DL
open PySem L2 Z PySem.Spec PyProof.Rows
variable [Tbs]
section
open Builtin Builtin.ObjectAttr
variable {prog : Program} {w : World} {A : Around} {E : Value → Shared → Prop} {R : Result → Shared → Prop} {hh : Heap} {g : Array GenState} {d : Drawn} {t : Nat} {os : OsState}
/-- what is known of an own exception's class C over B -/
structure OxB (K : PySem.W.Frag) (C : Addr) (B nI iI : String) (bm : List Value) : Prop where
  fb : ∃ O, XBO.ExcBO B O nI iI bm
  st : StoreFacts B bm "object.__setattr__" "object"
  ci : PySem.W.excInitIn K C bm nI = true
  co : PySem.W.excOver K C bm = true
  hd : PySem.W.hasDictIn K C = true
  sa : PySem.W.findIn K (.ref C) "__setattr__" = some (some (.builtin "object.__setattr__"))
  exC : PySem.W.subIn K (.ref C) (.type "BaseException") = some true
  tyC : PySem.W.typeIn K (.ref C) = some (.type "type")
  kC : PySem.W.keepIn K (.ref C) = true
  nw : PySem.W.findIn K (.ref C) "what" = some none
end
section
variable {X : Cx} {pins : List (Addr × Obj)} {σ : L2.St} {H : Hp} {s : Shared} {a C : Addr} {y : V} {u : Value} {E : Value → Shared → Prop} {A : Around} {B nI iI : String} {bm : List Value}
end
section
variable {X : Cx} {o e : Expr} {es : List Expr} {to te : TE} {ta : TA} {p p' p1 p2 pos : Pos} {B nI iI : String} {bm : List Value} {b : Str}
end
end DL
/-! try .. except (C, ..) as e: what is caught is kept -/
namespace DL
open PySem PySem.W
variable [Tbs]
/-- a loop that looks at each and goes on -/
theorem loop_all {M : Model} {A : Around} {E : Value → Shared → Prop} {f : Value → PUnit → Sem (ForInStep PUnit)} {s : Shared} {Q : PUnit → Shared → Prop} : ∀ {cs : List Value}, (∀ c ∈ cs, ∀ Q' : ForInStep PUnit → Shared → Prop, Q' (.yield ⟨⟩) s → wpAny M A (f c ⟨⟩) Q' E s) → Q ⟨⟩ s → wpAny M A (forIn cs ⟨⟩ f) Q E s
  | [], _, q => by rw [List.forIn_nil]; exact wpAny_pure q
  | c :: r, h, q => by
    rw [List.forIn_cons]
    exact wpAny_bind (h c List.mem_cons_self _ (loop_all (fun x hx => h x (List.mem_cons_of_mem _ hx)) q))
/-- a loop that ends at the first one -/
theorem loop_any {M : Model} {A : Around} {E : Value → Shared → Prop} {K : Frag} {cls : Value} {f : Value → Option Bool × Unit → Sem (ForInStep (Option Bool × Unit))} {s : Shared} {Q : Option Bool × Unit → Shared → Prop}
    (hf : ∀ c b, exmOne K cls c = some b → ∀ Q' : ForInStep (Option Bool × Unit) → Shared → Prop, Q' (if b = true then .done (some true, ()) else .yield (none, ())) s → wpAny M A (f c (none, ())) Q' E s) : ∀ {cs : List Value} {b : Bool}, exmAny K cls cs = some b → Q (if b = true then some true else none, ()) s → wpAny M A (forIn cs (none, ()) f) Q E s
  | [], b, e, q => by
    cases (Option.some.inj (show some false = some b from e))
    rw [List.forIn_nil]; exact wpAny_pure q
  | c :: r, b, e, q => by
    obtain ⟨b1, d1, e1, e2, rfl⟩ := exmAny_cons e
    rw [List.forIn_cons]
    refine wpAny_bind (hf c b1 e1 _ ?_)
    cases b1
    · exact loop_any hf e2 (by simpa using q)
    · exact wpAny_pure (by simpa using q)
theorem exm_mem {K : Frag} {cls : Value} : ∀ {cs : List Value} {b : Bool}, exmAny K cls cs = some b → ∀ c ∈ cs, ∃ b1, exmOne K cls c = some b1
  | [], _, _, _, h => by cases h
  | c :: r, b, e, x, h => by
    obtain ⟨b1, d1, e1, e2, _⟩ := exmAny_cons e
    rcases List.mem_cons.mp h with rfl | h
    · exact ⟨b1, e1⟩
    · exact exm_mem e2 x h
theorem exm_all {K : Frag} {M : Model} {cls : Value} {tp e : Addr} {b : Bool} {h : Heap} {cs : List Value} (X : K.In h) (LT : Looks M h (typeOf (.ref e)) cls) (hp : h.get? tp = some { cls := .type "tuple", data := .seq cs.toArray }) (hx : exmAny K cls cs = some b) :
    Looks M h (excMatches (.ref e) (.ref tp)) b := by
  intro A Q E s kk q
  have L0 : Looks M h (isInstance (.ref tp) (.type "tuple")) true := ((Looks.ld hp).andThen .now).andThen (Looks.of_pure isSubtype_tuple_tuple)
  have hp' := kk _ _ hp
  unfold excMatches
  refine wpAny_bind ((L0.keeps kk).here ?_)
  dsimp only
  rw [if_pos rfl]
  refine wpAny_bind (wpAny_seqItems hp' rfl (wpAny_bind (wpAny_pure ?_)))
  dsimp only [Option.getD_some, Option.getD]
  refine wpAny_bind (loop_all (fun c hc Q' q' => ?_) ?_)
  · obtain ⟨b1, e1⟩ := exm_mem hx c hc
    refine wpAny_bind (((exm_cls (M := M) X e1).1.keeps kk).here ?_)
    rw [if_neg (by decide)]
    exact wpAny_pure q'
  · refine wpAny_bind ((LT.keeps kk).here ?_)
    refine wpAny_bind (loop_any (K := K) (cls := cls) (fun c b1 e1 Q' q' => ?_) hx ?_)
    · refine wpAny_bind (((exm_cls (M := M) X e1).2.keeps kk).here ?_)
      cases b1
      · exact wpAny_pure q'
      · exact wpAny_pure q'
    · cases b <;> exact wpAny_pure q
end DL
namespace DL
open PySem L2 Z PySem.Spec PyProof.Rows
variable [Tbs]
/-- the classes that an except clause names -/
inductive ExT (X : Cx) : Expr → List Value → Prop
  | one {x : Str} {c : Value} {p : Pos} : Names X x c → ExT X (.Name x p) [c]
  | many {xs : List (Str × Pos × Value)} {k : Nat} {p : Pos} : (∀ q ∈ xs, Names X q.1 q.2.2) → xs.length ≤ 1000 → ExT X (.Tuple (xs.map fun q => .Name q.1 q.2.1) k p) (xs.map (·.2.2))
section
variable {X : Cx} {pins : List (Addr × Obj)} {σ : L2.St} {H : Hp} {s : Shared} {E : Value → Shared → Prop}
theorem name_run {x : Str} {c : Value} {p : Pos} {Q : Value → Shared → Prop} (I : Inv X pins σ H s) (n : Names X x c) (q : Q c s) : wpAny (model X.prog X.w) X.A (eval (.Name x p) X.env) Q E s := by
  obtain ⟨g, db, m | ⟨m, v, nn⟩⟩ := n
  · exact ld_glob I g m q db
  · exact ld_blt I g m v q nn db
theorem names_run {pos : Pos} (I : Inv X pins σ H s) : ∀ {xs : List (Str × Pos × Value)} {Q : List Value → Shared → Prop}, (∀ q ∈ xs, Names X q.1 q.2.2) → Q (xs.map (·.2.2)) s → wpAny (model X.prog X.w) X.A (spliced (backTo pos (starEach (xs.map fun q => Expr.Name q.1 q.2.1) X.env))) Q E s
  | [], Q, _, q => wpAny_items_nil q
  | z :: r, Q, h, q => wpAny_items_cons (name_run I (h z List.mem_cons_self) (names_run I (fun y hy => h y (List.mem_cons_of_mem _ hy)) q))
/-- the test of an except clause -/
theorem ExT.run {T : Expr} {cs : List Value} {a : Addr} {cls : Value} {b : Bool} {Q : Bool → Shared → Prop} (t : ExT X T cs) (I : Inv X pins σ H s) (LT : PySem.W.Looks (model X.prog X.w) s.heap (typeOf (.ref a)) cls) (e : PySem.W.exmAny X.K cls cs = some b)
    (q : ∀ h', (∀ b o, s.heap.get? b = some o → h'.get? b = some o) → Q b { s with heap := h' }) : wpAny (model X.prog X.w) X.A (eval T X.env) (fun c s₁ => wpAny (model X.prog X.w) X.A (excMatches (.ref a) c) Q E s₁) E s := by
  cases t with
  | one n =>
    obtain ⟨b1, d1, e1, e2, rfl⟩ := PySem.W.exmAny_cons e
    cases (Option.some.inj (show some false = some d1 from e2))
    rw [Bool.or_false] at q
    exact name_run I n ((PySem.W.exm_one I.kIn LT e1).here (q s.heap fun _ _ z => z))
  | @many xs kk pp n l =>
    refine wpAny_Tuple (names_run I n ⟨by rw [List.length_map, sizeLine_eq]; omega, ?_⟩)
    have kp : ∀ b o, s.heap.get? b = some o → (s.heap.push ({ cls := .type "tuple", data := .seq (xs.map (·.2.2)).toArray } : Obj)).get? b = some o := fun _ _ z => Heap.get?_push_of_some _ z
    exact (exm_all (I.kIn.keeps kp) (LT.keeps kp) (Heap.get?_push_size s.heap rfl) e).here (q _ kp)
end
section
variable {X : Cx} {n : Str} {T : Expr} {cs : List Value} {i : Nat} {body suite : List Stmt} {b₀ : Stmt} {pos pos' : Pos} {tb : WX → TS} {ts : Addr → TS} {Wout : WX}
end
end DL
/-! kept exceptions asked; what is raised, over data -/
namespace DL
open PySem L2 Z PySem.Spec PyProof.Rows
variable [Tbs]
/-- what is known of the class of a kept exception -/
structure ExK (K : PySem.W.Frag) (C : Addr) : Prop where
  cl : (PySem.W.clsIn K C).isSome = true
  ga : PySem.W.findIn K (.ref C) "__getattribute__" = some (some (.builtin "BaseException.__getattribute__"))
  gt : PySem.W.findIn K (.ref C) "__getattr__" = some none
  ex : PySem.W.subIn K (.ref C) (.type "BaseException") = some true
  ca : PySem.W.findIn K (.ref C) "__class__" = some (some (.builtin "object.__class__"))
  dg : PySem.W.specialIn K (.builtin "object.__class__") "__get__" = some (some (.builtin "getset_descriptor.__get__"))
  tk : PySem.W.takesIn K (.builtin "object.__class__") = some true
  ob : PySem.W.mroIn K C (.type "object") = some true
  hd : PySem.W.hasDictIn K C = true
  nw : PySem.W.findIn K (.ref C) "what" = some none
section
variable {X : Cx} {pins : List (Addr × Obj)} {σ : L2.St} {H : Hp} {s : Shared} {a C dx : Addr} {fv : List (Str × V)}
end
/-! over data -/
section
variable {K : PySem.W.Frag} {n : Nat} {J : Jv n}
def excF (d : PyData) (k : Str → List (PyData × PyData) → Prop) : Prop := match d with
  | .dict ((.str c, .bool true) :: fs) => k c fs
  | _ => False
def fIsX (tab : Str → Option Bool) (a : FE) : FE := fun ρ P => a ρ fun d ρ1 => excF d fun c _ => ∃ b, tab c = some b ∧ P (.bool b) ρ1
@[reducible] def taC : List V → TA
  | [] => tNil
  | c :: r => tCons (tC c) (taC r)
def fWhat (L : List Str) (a : FE) : FE := fun ρ P => a ρ fun d ρ1 => excF d fun c fs => c ∈ L ∧ ∃ w, fldD "what" fs = some w ∧ P w ρ1
/-- an exception, raised: its class, its dict, as data -/
def XcAt (K : PySem.W.Frag) (G : Hp) (cls : Value) (dd : Option Addr) (d : PyData) : Prop := ∃ (c : Str) (C dx : Addr) (fv : List (Str × V)) (fs : List (PyData × PyData)), d = .dict ((.str c, .bool true) :: fs) ∧ cls = .ref C ∧ dd = some dx ∧ PySem.W.nsIn K mainGlobals c = some (some (.ref C)) ∧ G dx = some (.xd fv) ∧ DqFs K G fv fs
theorem XcAt.mono {G G' : Hp} {cls : Value} {dd : Option Addr} {d : PyData} (x : XcAt K G cls dd d) (s : Same G G') : XcAt K G' cls dd d := by
  obtain ⟨c, C, dx, fv, fs, e1, e2, e3, e4, e5, r⟩ := x
  exact ⟨c, C, dx, fv, fs, e1, e2, e3, e4, s _ _ e5, DqFs.mono s r⟩
/-- a wish over data carries the wish -/
def Lk (K : PySem.W.Frag) {n : Nat} (J : Jv n) (X : PyData → En → Prop) (W : WX) : Prop := ∀ (O : Addr → Prop) (as : As) (σ : L2.St) (H : Hs) (ρ : En) (cls : Value) (dd : Option Addr) (d : PyData), EnR K J O as H ρ σ → XcAt K (hq O as H) cls dd d → X d ρ → W cls dd σ H
theorem Lk.le {J' : Jv n} {X : PyData → En → Prop} {W : WX} (l : Lk K J X W) (h : J'.le J) : Lk K J' X W := fun O as σ H ρ cls dd d E => l O as σ H ρ cls dd d (E.reJ (h.1 _ _ E.inv) (h.2 _ E.inq))
def excD (c : Str) (w : PyData) : PyData := .dict [(.str c, .bool true), (.str "what", w)]
def fRaise (c : Str) (a : FE) (X : PyData → En → Prop) : FS := fun _ ρ => a ρ fun d ρ1 => X (excD c d) ρ1
end
end DL
/-! defs that raise, over data; try -/
namespace DL
open PySem L2 Z PySem.Spec PyProof.Rows
variable [Tbs]
abbrev FX := List Sl → (PyData → List Sl → Prop) → (PyData → List Sl → Prop) → Prop
def fnX (n m : Nat) (b : (PyData → En → Prop) → FS) : FX := fun sls P X => b (fun d ρ' => X d (ρ'.take n)) { nx := fun ρ' => P .none (ρ'.take n), rt := fun d ρ' => P d (ρ'.take n) } (sls ++ List.replicate (m - n) .no)
def fnXS (n m : Nat) (b : (PyData → En → Prop) → FS) : FX := fun sls P X => b (fun d ρ' => X d (ρ'.take n ++ ρ'.drop m)) { nx := fun ρ' => P .none (ρ'.take n ++ ρ'.drop m), rt := fun d ρ' => P d (ρ'.take n ++ ρ'.drop m) } (sls.take n ++ List.replicate (m - n) .no ++ sls.drop n)
section
variable {K : PySem.W.Frag} {n : Nat} {J : Jv n}
theorem EnR.sub {O O2 : Addr → Prop} {as : As} {H : Hs} {ρ : En} {σ : L2.St} (E : EnR K J O2 as H ρ σ) (h : ∀ a, O a → O2 a) (hq : J.Q O) : EnR K J O as H ρ σ :=
  ⟨E.len, E.tl, fun i sl o h1 h2 => (E.at_ i sl o h1 h2).mono (hp_less fun a z => z.imp (h a) id) fun _ _ => rfl, fun i z => ⟨(E.sto i z).1, (E.sto i z).2.1, (E.sto i z).2.2.move (hp_less fun a z => z.imp (h a) id) fun _ _ => rfl⟩, E.inj, fun i r b e q z => E.out i r b e q (h b z), E.bnd, fun a q => E.occ a (h a q), E.inv, hq, E.tab⟩
theorem Car.le {J' : Jv n} {O : Addr → Prop} {as : As} {H : Hs} {E : FEnds} {D : Ends} (C : Car K J O as H E D) (h : J'.le J) : Car K J' O as H E D :=
  ⟨fun ρ' as' σ' H' p x R => C.nx ρ' as' σ' H' p x (R.reJ (h.1 _ _ R.inv) (h.2 _ R.inq)), fun d ρ' v as' σ' H' p x R => C.rt d ρ' v as' σ' H' p x (R.reJ (h.1 _ _ R.inv) (h.2 _ R.inq)), fun ρ' as' σ' H' p x R => C.bk ρ' as' σ' H' p x (R.reJ (h.1 _ _ R.inv) (h.2 _ R.inq)),
    fun ρ' as' σ' H' p x R => C.ct ρ' as' σ' H' p x (R.reJ (h.1 _ _ R.inv) (h.2 _ R.inq)), fun ds ρ' p xs as' σ' H' q x o R => C.ro ds ρ' p xs as' σ' H' q x o (R.reJ (h.1 _ _ R.inv) (h.2 _ R.inq))⟩
def fCallX (m : Nat) (F : FX) (dv : List PyData) (X : PyData → En → Prop) (a : FC) : FE := fun ρ P => a ρ fun xs ρ1 => xs.length + dv.length = m ∧ (ownIx xs).Nodup ∧ argF ρ1 xs fun r => F (r ++ dv.map .fz) (fun d out => P d (wb ρ1 xs out)) fun d out => X d (wb ρ1 xs out)
def fCallXS (sx m : Nat) (F : FX) (dv : List PyData) (X : PyData → En → Prop) (a : FC) : FE := fun ρ P => a ρ fun xs ρ1 => xs.length + dv.length = m ∧ (ownIx xs ++ [sx]).Nodup ∧ argF ρ1 xs fun r => match ρ1[sx]? with
  | some (.st S) => F (r ++ dv.map .fz ++ [.st S]) (fun d out => P d ((wb ρ1 xs out).set sx ((out.drop m).headD .no))) fun d out => X d ((wb ρ1 xs out).set sx ((out.drop m).headD .no))
  | _ => False
/-- try: body except T as i: j = i -/
def fTryK (i j : Nat) (tab : Str → Option Bool) (X : PyData → En → Prop) (b : (PyData → En → Prop) → FS) : FS := fun E ρ => b (fun d ρ' => excF d fun c _ => ∃ k, tab c = some k ∧ if k = true then slotF ρ' i = true ∧ slotF (ρ'.set i .no) j = true ∧ E.nx ((ρ'.set i .no).set j (.fz d)) else X d ρ') E ρ
end
end DL
/-! defs that raise: the promise; calls by keywords -/
namespace DL
open PySem L2 Z PySem.Spec PyProof.Rows
variable [Tbs]
section
variable {P : Program} {w : World} {K : PySem.W.Frag} {mg : Str → Option Value} {base : Heap} {k : Nat} {f : Addr} {fd : FuncData} {ps : List Str} {x qual : Str} {st : Stmt} {N : List Str} {b : (PyData → En → Prop) → FS}
end
/-! the call with keywords, where it may raise -/
section
variable {X : Cx} {CX : CXT} {k n : Nat} {f : Addr} {fd : FuncData} {ps ks : List Str} {sp : Sp} {E : L2.St → XK} {x : Str} {p pos : Pos} {e : Expr} {es : List Expr} {kws : List Keyword} {t tk : TA} {g : List Value → List Value → List Value} {gV : List V → List V → List V}
end
section
variable {K : PySem.W.Frag} {n : Nat} {J : Jv n}
def fCallNX (F : FX) (n m : Nat) (gD : List PyData → List PyData → List PyData) (X : PyData → En → Prop) (f fk : FA) : FE := fun ρ P => f ρ fun ds ρ1 => fk ρ1 fun es ρ2 => ds.length = n ∧ es.length = m ∧ F ((gD ds es).map .fz) (fun d _ => P d ρ2) fun d _ => X d ρ2
/-- calls by keywords of defs that are handed the store -/
def fCallNXS (sx l : Nat) (F : FX) (n m : Nat) (gD : List PyData → List PyData → List PyData) (X : PyData → En → Prop) (f fk : FA) : FE := fun ρ P => f ρ fun ds ρ1 => fk ρ1 fun es ρ2 => ds.length = n ∧ es.length = m ∧ match ρ2[sx]? with
  | some (.st S) => F ((gD ds es).map .fz ++ [.st S]) (fun d out => P d (ρ2.set sx ((out.drop l).headD .no))) fun d out => X d (ρ2.set sx ((out.drop l).headD .no))
  | _ => False
def fCallNS (sx l : Nat) (F : FN) (n m : Nat) (gD : List PyData → List PyData → List PyData) (f fk : FA) : FE := fun ρ P => f ρ fun ds ρ1 => fk ρ1 fun es ρ2 => ds.length = n ∧ es.length = m ∧ match ρ2[sx]? with
  | some (.st S) => F ((gD ds es).map .fz ++ [.st S]) fun d out => P d (ρ2.set sx ((out.drop l).headD .no))
  | _ => False
/-- a def that raises, where it doesn't -/
def noX (F : FX) : FN := fun ss P => F ss P fun _ _ => False
end
/-! is True, is False -/
def isBool (b : Bool) : PyData → Bool
  | .bool c => c == b
  | _ => false
def oIsT : G2 := fun a d P => match d with
  | .bool b => P (.bool (isBool b a))
  | _ => False
section
variable {K : PySem.W.Frag}
end
/-! what the printed texts use -/
def tabL : List (Str × Bool) → Str → Option Bool
  | [], _ => none
  | (x, b) :: r, c => if c = x then some b else tabL r c
section
variable {K : PySem.W.Frag} {p : Addr → Bool → Prop}
end
end DL
/-! the law's def over data; functions as data -/
namespace DL
open PySem L2 Z PySem.Spec PyProof.Rows
variable [Tbs]
section
variable {P : Program} {w : World} {K : PySem.W.Frag} {mg : Str → Option Value} {base : Heap} {k : Nat} {f : Addr} {fd : FuncData} {ps : List Str} {sp sp' : Sp}
theorem _root_.Z.FnG.imp (F : FnG P w K mg base k f fd ps sp) (h : ∀ vs H Q E, sp' vs H Q E → sp vs H Q E) : FnG P w K mg base k f fd ps sp' :=
  ⟨fun vs H Q E q => F.size vs H Q E (h vs H Q E q), fun A outer s H args us vs Q E hr c e b v q => F.goes A outer s H args us vs Q E hr c e b v (h vs H Q E q)⟩
def spLaw (K : PySem.W.Frag) : Sp := fun vs H Q _ => ∃ (a : Addr) (ns : List Int), vs = [.ref a] ∧ SqL K H a (ns.map V.int) ∧ ns.length ≤ 63 ∧ TabsOk H ∧ ∀ H', Q (.bl true) H'
/-- the store at the law's begin -/
def noS : Sto := fun _ => none
theorem sqL_noT {as : As} {H : Hp} {a : Addr} {xs : List V} (t : TabsOk H) (ha : ∀ i r, as i = some r → r = .sto) (h : SqL K H a xs) : SqL K (hq (fun _ => False) as ⟨H, noS⟩) a xs := by
  have no : ∀ o, H a = some o → (∀ ps, o ≠ .tbl ps) → ¬ Hid (fun _ => False) as ⟨H, noS⟩ a := fun o e n q => by
    rcases q with q | ⟨_, _, q, w⟩ | ⟨p, hp, q⟩
    · exact q
    · rw [ha _ _ q] at w
      exact w rfl
    · obtain ⟨ps, h1, _⟩ := t p hp
      rw [q, e] at h1
      exact n ps (Option.some.inj h1)
  rcases h with (h | ⟨o, h⟩) | h
  · exact .inl (.inl (hp_mk (no _ h fun _ z => by cases z) h))
  · exact .inl (.inr ⟨o, hp_mk (no _ h fun _ z => by cases z) h⟩)
  · exact .inr h
/-- the law's def, which begins with an empty store -/
theorem law_ofS {F : FN} (hF : ∀ ns : List Int, ns.length ≤ 63 → F [.fz (.list (ns.map .int)), .st noS] fun d _ => d = .bool true) {vs : List V} {H : Hp} {Q : VK} {E : XK} (h : spLaw K vs H Q E) : spS K 1 F vs H Q E := by
  obtain ⟨a, ns, rfl, hS, hl, tb, q⟩ := h
  have as1 : ∀ i r, (if i = 1 then some Rg.sto else none) = some r → i = 1 ∧ r = .sto := fun i r h => by
    split at h
    · next z => cases h; exact ⟨z, rfl⟩
    · cases h
  refine ⟨rfl, fun _ => False, fun i => if i = 1 then some .sto else none, noS, [.fz (.list (ns.map .int)), .st noS], _, ⟨⟨Nat.le_succ _, Nat.le_refl _⟩, fun i sl e1 e2 => ?_, fun i sl o e1 e2 => ?_, fun i h => ?_, fun i j r r' b h1 h2 _ _ => by rw [(as1 i r h1).1, (as1 j r' h2).1], fun i r b h w => ?_, fun i r h => by rw [(as1 i r h).1]; exact Nat.lt_succ_self 1, fun a z => z.elim, trivial, trivial, tb⟩, rfl, hF ns hl, fun d out v H' hd fr _ dv => ?_⟩
  · have h1 : i < 2 := (List.getElem?_eq_some_iff.mp e1).1
    have h2 : 1 ≤ i := e2
    rw [if_pos (by omega)]
  · match i, e1, e2 with
    | 0, e1, e2 =>
      cases e1
      cases e2
      exact .fz (.lst (sqL_noT tb (fun i r z => (as1 i r z).2) hS) (DqAll.ints _))
  · rw [(as1 i _ h).1]
    exact ⟨rfl, rfl, fun a o e => by cases e⟩
  · rw [(as1 i r h).2] at w
    exact absurd rfl w
  · subst hd
    cases dv
    exact q _
end
/-! a local name that holds a def which may raise -/
structure HeldX (P : Program) (w : World) (K : PySem.W.Frag) (mg : Str → Option Value) (base : Heap) (k : Nat) (f : Addr) (sp : Sp) : Prop where
  ex : ∃ (fd : FuncData) (ps : List Str), FnOk P w K mg base (L2.CX P w) k f fd ps sp ∧ PySem.W.keepIn K (.ref f) = true ∧ Binds K fd ps []
section
variable {X : Cx} {k i : Nat} {E : L2.St → XK} {x : Str} {p pos : Pos} {e : Expr} {es : List Expr} {t : TA}
end
section
variable {K : PySem.W.Frag} {n : Nat} {J : Jv n}
def fnD (x : Str) : PyData := .dict [(.str x, .int 0)]
def funF (ρ : En) (i : Nat) (k : Str → Prop) : Prop := match ρ[i]? with
  | some (.fz (.dict [(.str x, .int 0)])) => k x
  | _ => False
theorem funF_of {ρ : En} {i : Nat} {k : Str → Prop} (h : funF ρ i k) : ∃ x, ρ[i]? = some (.fz (fnD x)) ∧ k x := by
  unfold funF at h
  split at h
  · next x e => exact ⟨x, e, h⟩
  · exact h.elim
def tabF : List (Str × Nat × FX) → Str → (Nat → FX → Prop) → Prop
  | [], _, _ => False
  | (y, m, F) :: l, x, k => if y = x then k m F else tabF l x k
theorem Dq.fn_of {G : Hp} {v : V} {x : Str} (q : Dq K G v (fnD x)) : ∃ f, v = .ref f ∧ PySem.W.nsIn K mainGlobals x = some (some (.ref f)) := by
  unfold fnD at q
  cases q with
  | fnc h => exact ⟨_, rfl, h⟩
/-- the def that a slot holds, called -/
def fCallV (i : Nat) (tab : List (Str × Nat × FX)) (X : PyData → En → Prop) (a : FC) : FE := fun ρ P => funF ρ i fun x => tabF tab x fun m F => a ρ fun xs ρ1 => xs.length = m ∧ (ownIx xs).Nodup ∧ argF ρ1 xs fun r => F r (fun d out => P d (wb ρ1 xs out)) fun d out => X d (wb ρ1 xs out)
end
/-! a list or a tuple, walked -/
def iAny (K : PySem.W.Frag) (tl : TE) : TI := fun σ H R => tl σ H fun x H1 => ∃ a, x = .ref a ∧ (((∃ xs, SqL K H1 a xs) ∧ R (Itl K a) H1) ∨ ((∃ xs, SqT K H1 a xs) ∧ R (Itt K a) H1))
theorem pi_any {X : Cx} {tg l : Expr} {tl : TE} (hl : PE X l tl) : PI X tg l (iAny X.K tl) := by
  refine ⟨fun pins s σ H R I h => ?_⟩
  refine thn (hl.run pins s σ H _ I h) fun v s1 ⟨x, H1, I1, r1, q1⟩ => ?_
  obtain ⟨a, e, q1⟩ := q1
  subst e
  cases r1
  rcases q1 with ⟨⟨xs, hq⟩, q⟩ | ⟨⟨xs, hq⟩, q⟩
  · obtain ⟨its, rv, p, hz⟩ := I1.list hq
    refine wpAny_pyIter_list p.isList ?_
    refine ⟨s1.heap.objs.size, [s1.heap.objs.size], _, _, H1, rfl, I1.kept (t' := s1.toks) fun b o e => Heap.get?_push_of_some _ e, turn_list a _, ⟨_, Heap.get?_push_size _ rfl, rfl, rfl⟩, fun b hb => ?_, q⟩
    have e : b = s1.heap.objs.size := by simpa using hb
    subst e
    exact I1.fpOk (Nat.le_refl _) (I1.hok.fresh (Nat.le_refl _))
  · obtain ⟨its, rv, p, hz⟩ := I1.tuple hq
    refine wpAny_pyIter_tuple (show s1.heap.IsTuple a its.toArray from p) ?_
    refine ⟨s1.heap.objs.size, [s1.heap.objs.size], _, _, H1, rfl, I1.kept (t' := s1.toks) fun b o e => Heap.get?_push_of_some _ e, turn_tuple a _, ⟨_, Heap.get?_push_size _ rfl, rfl, rfl⟩, fun b hb => ?_, q⟩
    have e : b = s1.heap.objs.size := by simpa using hb
    subst e
    exact I1.fpOk (Nat.le_refl _) (I1.hok.fresh (Nat.le_refl _))
section
variable {K : PySem.W.Frag} {n : Nat} {J : Jv n}
def iA (f : FE) : FA := fun ρ P => f ρ fun d ρ1 => seqF d fun ds => P ds ρ1
theorem ri_any {tl : TE} {f : FE} (h : RE K J tl f) : RI K J (iAny K tl) (iA f) := by
  intro O as σ H R ρ P E q k
  refine h O as σ H _ ρ _ E q fun d ρ1 v H1 q1 f1 E1 d1 => ?_
  unfold seqF at q1
  split at q1
  · next ds =>
    obtain ⟨a, xs, rfl, s, r⟩ := d1.list_of
    refine ⟨a, rfl, .inl ⟨⟨_, SqL.mono hp_same s⟩, k _ _ _ _ q1 f1 E1 ?_⟩⟩
    refine ⟨_, _, by rw [← r.length]; exact walk_list (xs := xs), fun A' H2 s2 => SqL.mono hp_same (SqL.mono s2 s), fun i d A' H2 x H3 hd s2 oc y => ?_⟩
    obtain ⟨rfl, hx⟩ := y
    obtain ⟨d', e, q⟩ := r.get hx
    rw [hd] at e
    cases e
    exact ⟨Same.refl _, q.mono s2⟩
  · next ds =>
    obtain ⟨a, xs, rfl, s, r⟩ := d1.tuple_of
    refine ⟨a, rfl, .inr ⟨⟨_, SqT.mono hp_same s⟩, k _ _ _ _ q1 f1 E1 ?_⟩⟩
    refine ⟨_, _, by rw [← r.length]; exact walk_tup (xs := xs), fun A' H2 s2 => SqT.mono hp_same (SqT.mono s2 s), fun i d A' H2 x H3 hd s2 oc y => ?_⟩
    obtain ⟨rfl, hx⟩ := y
    obtain ⟨d', e, q⟩ := r.get hx
    rw [hd] at e
    cases e
    exact ⟨Same.refl _, q.mono s2⟩
  · exact q1.elim
end
end DL
/-! texts and tuples turned about -/
namespace DL
open PySem L2 Z PySem.Spec PyProof.Rows
variable [Tbs]
section
variable {X : Cx}
def revS (z : Str) : Str := ⟨z.cps.toList.reverse.toArray⟩
end
section
variable {K : PySem.W.Frag} {n : Nat} {J : Jv n}
def fRevS (a : FE) : FE := fun ρ P => a ρ fun d ρ1 => strF d fun z => z.length ≤ sizeLine ∧ P (.str (revS z)) ρ1
end
end DL
/-! numbers and truths; repr and str of any data; tuples turned about -/
namespace DL
open PySem L2 Z PySem.Spec PyProof.Rows
variable [Tbs]
section
variable {X : Cx}
/-! ### t[::-1] -/
theorem places_rev (n : Nat) : Builtin.Slice.sliceAdjust none none (-1) (n : Int) = ((n : Int) - 1, -1) ∧ Builtin.Slice.slicePlaces ((n : Int) - 1) (-1) (-1) = n := by
  refine ⟨rfl, ?_⟩
  unfold Builtin.Slice.slicePlaces
  have h1 : ¬ ((-1 : Int) > 0) := by decide
  rw [if_neg h1]
  split
  · rw [show (- -1 : Int) = 1 from rfl, Int.ediv_one]
    omega
  · omega
theorem pick_rev (xs : Array Value) : ((List.range xs.size).filterMap fun (m : Nat) => xs[(((xs.size : Int) - 1) + (m : Int) * (-1)).toNat]?) = xs.toList.reverse := by
  have e : ((List.range xs.size).filterMap fun (m : Nat) => xs[(((xs.size : Int) - 1) + (m : Int) * (-1)).toNat]?) = ((List.range xs.size).map fun m => xs.size - 1 - m).filterMap (xs[·]?) := by
    rw [List.filterMap_map]
    have gen : ∀ l : List Nat, (∀ m ∈ l, m < xs.size) → (l.filterMap fun (m : Nat) => xs[(((xs.size : Int) - 1) + (m : Int) * (-1)).toNat]?) = l.filterMap ((fun x => xs[x]?) ∘ fun m => xs.size - 1 - m) := by
      intro l
      induction l with
      | nil => intro _; rfl
      | cons m l ih =>
        intro h
        have hm := h m List.mem_cons_self
        have e : (((xs.size : Int) - 1) + (m : Int) * (-1)).toNat = xs.size - 1 - m := by omega
        rw [List.filterMap_cons, List.filterMap_cons, ih fun k hk => h k (List.mem_cons_of_mem _ hk), e]
        rfl
    exact gen _ fun m hm => List.mem_range.mp hm
  rw [e, PySem.W.krv_range, List.filterMap_reverse, PySem.W.krv_all]
theorem getItem_tuple_rev {prog : Program} {w : World} {A : Around} {E : Value → Shared → Prop} {s : Shared} {t sl : Addr} {items : Array Value} {vl vu vs : Value} {Q : Value → Shared → Prop} (ht : IsTup s.heap t items) (hs : s.heap.IsSliceOf sl vl vu vs) (pl : IsPart vl none) (pu : IsPart vu none) (ps : IsPart vs (some (-1)))
    (h : Q (.ref s.heap.objs.size) { s with heap := s.heap.push { cls := .type "tuple", data := .seq items.toList.reverse.toArray } })
    (hsz : items.size ≤ sizeLine) : wpAny (model prog w) A (getItem (.ref t) (.ref sl)) Q E s := by
  have htake : sizeOk (.seq items.toList.reverse.toArray) := by
    show items.toList.reverse.toArray.size ≤ sizeLine
    rw [List.size_toArray, List.length_reverse, Array.length_toList]
    exact hsz
  obtain ⟨os, hos, hcs, hds⟩ := id hs
  have hTs : s.TypeIs (.ref sl) "slice" := ⟨os, hos, hcs⟩
  unfold getItem
  try with_reducible refine wpAny_holding ?_
  first | refine wpAny_bind (wpAny_pure ?_) | skip
  refine wpAny_bind (wpAny_sequenceKey ht.typeIs (by decide) ?_)
  refine wpAny_bind (wpAny_callSpecial?_slot (name := Str.ofString "__getitem__") ht.typeIs PyProof.Rows.slot_tuple_getitem
    (wpAny_call_entry PyProof.Rows.slot_tuple_getitem ht.typeIs entry_tuple_getitem ?_ (args_tuple_getitem _ _)))
  show wpAny _ _ (Builtin.Tuple.tupleItemsOf (.ref t) >>= _) _ _ s
  refine wpAny_bind (tupleItemsOf_ ht ?_)
  refine wpAny_bind (wpAny_typeOf hTs ?_)
  rw [if_pos (by decide)]
  refine wpAny_bind ?_
  unfold Builtin.Slice.sliceApplied Builtin.Slice.sliceFields
  refine wpAny_bind (wpAny_bind (wpAny_field hos hds (x := vl) rfl (wpAny_bind (wpAny_field hos hds (x := vu) rfl (wpAny_bind (wpAny_field hos hds (x := vs) rfl (wpAny_pure ?_)))))))
  refine wpAny_bind (HT.slicePart_ ps ?_)
  show wpAny _ _ (if ((-1 : Int) == 0) = true then _ else _) _ _ s
  rw [if_neg (by decide)]
  refine wpAny_bind (HT.slicePart_ pl (wpAny_bind (HT.slicePart_ pu (wpAny_bind (wpAny_pure ?_)))))
  show wpAny _ _ (match Builtin.Slice.sliceAdjust none none (-1) (items.size : Int) with | (lo, hi) => pure (lo, (-1 : Int), Builtin.Slice.slicePlaces lo hi (-1))) _ _ s
  rw [(places_rev _).1]
  show wpAny _ _ (pure (((items.size : Int) - 1), (-1 : Int), Builtin.Slice.slicePlaces ((items.size : Int) - 1) (-1) (-1))) _ _ s
  rw [(places_rev _).2]
  refine wpAny_pure ?_
  show wpAny _ _ (if (((items.size : Int) - 1) == 0 && (-1 : Int) == 1 && items.size == items.size) = true then _ else _) _ _ s
  rw [if_neg (by rw [show ((-1 : Int) == 1) = false from rfl, Bool.and_false, Bool.false_and]; decide), pick_rev]
  first
    | exact wpAny_bind (m := Builtin.Tuple.tupleExact _) (wpAny_newObj_type (wpAny_pure ⟨_, rfl, wpAny_pure h⟩) htake)
    | exact wpAny_bind (m := Builtin.Tuple.tupleExact _) (wpAny_newObj_type (wpAny_bind (wpAny_pure (wpAny_pure ⟨_, rfl, wpAny_pure h⟩))) htake)
    | exact wpAny_bind (wpAny_bind (m := Builtin.Tuple.tupleExact _) (wpAny_newObj_type (wpAny_pure (wpAny_pure ⟨_, rfl, wpAny_pure h⟩)) htake))
    | exact wpAny_bind (wpAny_bind (m := Builtin.Tuple.tupleExact _) (wpAny_newObj_type (wpAny_pure ⟨_, rfl, wpAny_pure h⟩) htake))
def tRevT (K : PySem.W.Frag) (te : TE) : TE := fun σ H Q => te σ H fun x H1 => ∃ a xs, x = .ref a ∧ SqT K H1 a xs ∧ ∀ p, H1 p = none → Q (.ref p) (upd H1 p (.tup xs.reverse))
theorem pe_revT {e : Expr} {te : TE} {k : Nat} {p1 p2 p3 pos : Pos} (he : PE X e te) : PE X (.Subscript e (.Slice none none (some (.UnaryOp .USub (.Constant (.int 1) k p1) p2)) p3) pos) (tRevT X.K te) := by
  refine ⟨fun pins s σ H Q I h => ?_⟩
  refine Subscript_ (thn (he.run pins s σ H _ I h) fun v s1 ⟨x, H1, I1, r1, q1⟩ => ?_)
  obtain ⟨a, xs, ex, hx, q⟩ := q1
  subst ex
  cases r1
  have hst : PO X (some (.UnaryOp .USub (.Constant (.int 1) k p1) p2)) (tPart (tUn (rU fun i => .int (-i)) (tC (.int 1)))) := po_some (pe_un un_neg pe_int)
  refine wpAny_Slice (thn (po_none.run pins s1 σ H1 (fun o H2 => o = none ∧ H2 = H1) I1 ⟨rfl, rfl⟩) fun vl s2 ⟨l, H2, I2, pl, el, e2⟩ => ?_)
  subst el e2
  refine thn (po_none.run pins s2 σ H2 (fun o H3 => o = none ∧ H3 = H2) I2 ⟨rfl, rfl⟩) fun vu s3 ⟨u, H3, I3, pu, eu, e3⟩ => ?_
  subst eu e3
  refine thn (hst.run pins s3 σ H3 (fun o H4 => o = some (-1) ∧ H4 = H3) I3 ⟨1, rfl, -1, rfl, rfl, rfl⟩) fun vs s4 ⟨o, H4, I4, ps, eo, e4⟩ => ?_
  subst eo e4
  have I5 : Inv X pins σ H4 { s4 with heap := s4.heap.push { cls := .type "slice", data := .fields #[vl, vu, vs] } } := I4.kept (t' := s4.toks) fun b ob q => Heap.get?_push_of_some _ q
  obtain ⟨its, r, ht, hz⟩ := I5.tuple hx
  have hlen := r.length
  show wpAny (model X.prog X.w) X.A (subscriptTail e (.Slice none none (some (.UnaryOp .USub (.Constant (.int 1) k p1) p2)) p3) (.ref a) (.ref s4.heap.objs.size)) (EP X pins σ Q) X.xe { s4 with heap := s4.heap.push { cls := .type "slice", data := .fields #[vl, vu, vs] } }
  refine tail_any (ops := [.ref a, .ref s4.heap.objs.size]) ht.typeIs (PyProof.Rows.slot_tuple_getitem.lookup) ?_ (by with_unfolding_all rfl)
  refine getItem_tuple_rev ht (Heap.IsSliceOf.new _ vl vu vs) pl pu ps ?_ (by rw [List.size_toArray]; omega)
  refine ⟨.ref _, _, I5.laid (t' := s4.toks) (o := .tup xs.reverse) (fun b ob q => Heap.get?_push_of_some _ q) (Nat.le_refl _) ?_, rfl, q _ (I5.hok.fresh (Nat.le_refl _))⟩
  exact ⟨by rw [List.length_reverse]; exact hz, _, r.reverse, IsTup.new _ _⟩
end
section
variable {K : PySem.W.Frag} {n : Nat} {J : Jv n}
def fRevT (a : FE) : FE := fun ρ P => a ρ fun d ρ1 => tupleF d fun ds => P (.tuple ds.reverse) ρ1
theorem re_revT {te : TE} {a : FE} (ha : RE K J te a) : RE K J (tRevT K te) (fRevT a) := by
  intro O as σ H Q ρ P E q k
  refine ha O as σ H _ ρ _ E q fun d ρ1 v H1 q1 f1 E1 d1 => ?_
  unfold tupleF at q1
  split at q1
  · obtain ⟨a, xs, rfl, s, r⟩ := d1.tuple_of
    refine ⟨a, xs, rfl, SqT.mono hp_same s, fun p hp1 => ?_⟩
    have sm := Same.new (o := .tup xs.reverse) hp1
    exact k _ _ _ _ q1 (f1.trans (E1.frS sm)) (E1.grow sm) (.tup (SqT.of (hp_mk (E1.fresh1 hp1) upd_same)) ((r.mono (E1.hgrow sm)).rev))
  · exact q1.elim
def numD : PyData → Option Int
  | .int i => some i
  | .bool b => some (if b then 1 else 0)
  | _ => none
def oNumD (f : Int → Int → Int) : G2 := fun a b P => match numD a, numD b with
  | some i, some j => P (.int (f i j))
  | _, _ => False
def strD : PyData → Option Str
  | .none => some "None"
  | .bool b => some (if b then "True" else "False")
  | .int i => if i.natAbs.log2 < 1920 then some (toString i) else none
  | .str z => some z
  | _ => none
def bStrV (ds : List PyData) (P : PyData → Prop) : Prop := one ds fun d => ∃ z, strD d = some z ∧ P (.str z)
end
end DL
/-! sorted(places, key=lambda place: parts[place][1], reverse=True) -/
namespace DL
open PySem L2 Z PySem.Spec PyProof.Rows
section
variable {X : Cx} {pins : List (Addr × Obj)} {σ : L2.St} {H : Hp} {s : Shared}
/-- what a lambda by one name asks -/
structure Lam1 (sc scope : Scope) (px x : Str) : Prop where
  kind : scope.kind = .function
  co : scope.isCoroutine = false
  gen : scope.isGenerator = false
  nocell : ∀ y ∈ scope.names, y.2 ≠ .cell
  here : scope.names.lookup x = some .local
  caught : scope.names.lookup px = some .free
  cell : sc.names.lookup px = some .cell
  free : ∀ y ∈ scope.names, y.2 = .free → sc.names.lookup y.1 = some .cell ∨ sc.names.lookup y.1 = some .free
theorem Lam1.has {scope : Scope} {px x : Str} (L : Lam1 X.env.scope scope px x) (ok : X.Ok) : ∀ y ∈ scope.names, y.2 = .free → ∃ c, X.env.cells.lookup y.1 = some c := fun y hy e => by
  rcases L.free y hy e with k | k
  · exact ok.has _ (.inl k)
  · exact ok.has _ (.inr k)
end
end DL
namespace DL
open PySem L2 Z PySem.Spec PyProof.Rows
variable [Tbs]
section
variable {K : PySem.W.Frag} {n : Nat} {J : Jv n}
/-- sorted(places, key=lambda place: parts[place][1], reverse=True) -/
def fSortLam (jp : Nat) (a : FE) : FA := fun ρ P => a ρ fun d ρ1 => ∃ (ns : List Int) (ds : List PyData) (g : Int → Int), d = .list (ns.map .int) ∧ ρ1[jp]? = some (.fz (.list ds)) ∧ (∀ n ∈ ns, 0 ≤ n ∧ ∃ es, ds[n.toNat]? = some (.tuple es) ∧ es[1]? = some (.int (g n))) ∧
  ∀ ns' : List Int, ns'.Perm ns → ns'.Pairwise (fun x y => g y ≤ g x) → (∀ z, ns'.filter (fun x => g x == z) = ns.filter (fun x => g x == z)) → P (ns'.map .int) ρ1
end
end DL
namespace DL
open PySem L2 Z PySem.Spec PyProof.Rows
variable [Tbs]
section
variable {P : Program} {w : World} {K : PySem.W.Frag} {mg : Str → Option Value} {base : Heap} {k : Nat} {f : Addr} {fd : FuncData} {ps : List Str} {x qual : Str} {st : Stmt} {N : List Str}
end
section
variable {K : PySem.W.Frag} {n : Nat} {J : Jv n}
/-- sum(own) -/
def fSumO (i : Nat) : FE := fun ρ P => ownF ρ i fun ds => intsF ds fun ns => P (.int ns.sum) ρ
end
end DL
/-! sorted of pairs; a new list handed on at once; defs that raise or hand back a new list -/
namespace DL
open PySem L2 Z PySem.Spec PyProof.Rows
variable [Tbs]
/-! pairs of numbers, sorted -/
def PrAt (K : PySem.W.Frag) (H : Hp) (x : V) (p : Int × Int) : Prop := ∃ t, x = V.ref t ∧ SqT K H t [.int p.1, .int p.2]
inductive PrsAt (K : PySem.W.Frag) (H : Hp) : List V → List (Int × Int) → Prop
  | nil : PrsAt K H [] []
  | cons {x : V} {p : Int × Int} {xs : List V} {ps : List (Int × Int)} : PrAt K H x p → PrsAt K H xs ps → PrsAt K H (x :: xs) (p :: ps)
def lexLe (p q : Int × Int) : Prop := p.1 < q.1 ∨ (p.1 = q.1 ∧ p.2 ≤ q.2)
theorem PrsAt.all {K : PySem.W.Frag} {H : Hp} {k : V → Int × Int} (u : ∀ x p, PrAt K H x p → k x = p) : ∀ {xs : List V} {ps : List (Int × Int)}, PrsAt K H xs ps → ps = xs.map k ∧ ∀ x ∈ xs, PrAt K H x (k x)
  | _, _, .nil => ⟨rfl, fun _ h => by cases h⟩
  | _, _, .cons a b => by
    obtain ⟨e, r⟩ := PrsAt.all u b
    refine ⟨by rw [List.map_cons, u _ _ a, ← e], fun y hy => ?_⟩
    rcases List.mem_cons.mp hy with rfl | hy
    · rw [u _ _ a]; exact a
    · exact r y hy
section
variable {X : Cx}
end
section
variable {K : PySem.W.Frag} {n : Nat} {J : Jv n}
abbrev prD (p : Int × Int) : PyData := .tuple [.int p.1, .int p.2]
/-- data that is a list of pairs of numbers -/
def prsF (es : List PyData) (k : List (Int × Int) → Prop) : Prop := ∃ ps : List (Int × Int), es = ps.map prD ∧ k ps
def nSortP (ds : List PyData) (P : List PyData → Prop) : Prop := one ds fun d => listF d fun es => prsF es fun ps => ∀ qs : List (Int × Int), qs.Perm ps → qs.Pairwise lexLe → P (qs.map prD)
/-! a new list handed on at once -/
theorem ArsR.imp {G G' : Hp} {as as' : As} {n : Nat} (s : Same G G') (h : ∀ i, i < n → as' i = as i) : ∀ {vs : List V} {ys : List Ar}, ArsR K G as vs ys → (∀ i ∈ ownIx ys, i < n) → ArsR K G' as' vs ys
  | _, _, .nil, _ => .nil
  | _, _, .cons (.dat q) r, k => .cons (.dat (q.mono s)) (ArsR.imp s h r k)
  | _, _, .cons (.own q) r, k => .cons (.own (by rw [h _ (k _ List.mem_cons_self)]; exact q)) (ArsR.imp s h r fun j hj => k j (List.mem_cons_of_mem _ hj))
/-- a held list in a slot of its own, ahead of the store -/
theorem EnR.push {O : Addr → Prop} {as : As} {H : Hs} {ρ : En} {σ : L2.St} {p : Addr} {xs : List V} {ds : List PyData} {l : Nat} (E : EnR K J (plus O p) as H ρ σ) (hl : σ.length = l) (hp : H p = some (.lst xs)) (d : DqAll K (hq (plus O p) as H) xs ds) (np : ¬ O p) :
    EnR K (J0 : Jv 0) O (upA (shA as l (l + 1)) l (some (.lf p))) H (ρ.take l ++ [.own ds] ++ ρ.drop l) (σ ++ [some (.ref p)]) := by
  have E2 := E.more (J' := (J0 : Jv 0)) (N := l + 1) hl (Nat.le_succ _) trivial trivial
  rw [show l + 1 - l = 1 from by omega] at E2
  have L := E.len
  have tk : (ρ.take l).length = l := by rw [List.length_take]; omega
  have hS : Same (hq (plus O p) as H) (hq (plus O p) (shA as l (l + 1)) H) := hp_less fun a h => h.imp id fun h => by
    rcases h with ⟨j, r, hc, q⟩ | hc
    · unfold shA at hc
      split at hc
      · exact .inl ⟨j, r, hc, q⟩
      · split at hc
        · exact .inl ⟨l, r, hc, q⟩
        · cases hc
    · exact .inr hc
  have E3 := E2.setOwn (i := l) (p := p) (xs := xs) (ds := ds) trivial (by rw [List.length_append, hl]; exact Nat.lt_succ_self _) trivial hp (d.mono hS) np
  have e1 : (ρ.take l ++ List.replicate 1 Sl.no ++ ρ.drop l).set l (.own ds) = ρ.take l ++ [.own ds] ++ ρ.drop l := by
    rw [List.append_assoc, List.set_append_right _ _ (by omega), tk, Nat.sub_self, List.append_assoc]
    rfl
  have e2 : (σ ++ List.replicate 1 none).set l (some (.ref p)) = σ ++ [some (.ref p)] := by
    rw [List.set_append_right _ _ (by omega), hl, Nat.sub_self]
    rfl
  rw [e1, e2] at E3
  exact E3
def fCallT (m : Nat) (F : FN) (dv : List PyData) (a0 : FA) (a : FC) : FE := fun ρ P => a0 ρ fun ds ρ1 => a ρ1 fun xs ρ2 => xs.length + 1 + dv.length = m ∧ (ownIx xs).Nodup ∧ argF ρ2 xs fun r => F (.own ds :: (r ++ dv.map .fz)) fun d out => P d (wb ρ2 xs out.tail)
def fCallTS (sx m : Nat) (F : FN) (dv : List PyData) (a0 : FA) (a : FC) : FE := fun ρ P => a0 ρ fun ds ρ1 => a ρ1 fun xs ρ2 => xs.length + 1 + dv.length = m ∧ (ownIx xs).Nodup ∧ argF ρ2 xs fun r => match ρ2[sx]? with
  | some (.st S) => F (.own ds :: (r ++ dv.map .fz) ++ [.st S]) fun d out => P d ((wb ρ2 xs out.tail).set sx ((out.drop m).headD .no))
  | _ => False
/-! defs that raise or hand back a new list -/
abbrev FXM := List Sl → (List PyData → List Sl → Prop) → (PyData → List Sl → Prop) → Prop
def fnXM (n m : Nat) (b : (PyData → En → Prop) → FS) : FXM := fun sls P X => b (fun d ρ' => X d (ρ'.take n)) { nx := fun _ => False, rt := fun _ _ => False, ro := fun ds ρ' => P ds (ρ'.take n) } (sls ++ List.replicate (m - n) .no)
def fnXMS (n m : Nat) (b : (PyData → En → Prop) → FS) : FXM := fun sls P X => b (fun d ρ' => X d (ρ'.take n ++ ρ'.drop m)) { nx := fun _ => False, rt := fun _ _ => False, ro := fun ds ρ' => P ds (ρ'.take n ++ ρ'.drop m) } (sls.take n ++ List.replicate (m - n) .no ++ sls.drop n)
section
variable {P : Program} {w : World} {mg : Str → Option Value} {base : Heap} {k : Nat} {f : Addr} {fd : FuncData} {ps : List Str} {x qual : Str} {st : Stmt} {N : List Str}
end
def fCallXW (m : Nat) (F : FXM) (dv : List PyData) (X : PyData → En → Prop) (a : FC) : FA := fun ρ P => a ρ fun xs ρ1 => xs.length + dv.length = m ∧ (ownIx xs).Nodup ∧ argF ρ1 xs fun r => F (r ++ dv.map .fz) (fun d out => P d (wb ρ1 xs out)) fun d out => X d (wb ρ1 xs out)
end
end DL
/-! zip of a list and a tuple in any mix -/
namespace ZM
open PySem PySem.Spec PyProof.Rows L2
def SqK (K : PySem.W.Frag) (H : Hp) (k : Bool) (a : Addr) (xs : List V) : Prop := match k with
  | true => SqL K H a xs
  | false => SqT K H a xs
def itK (h : Heap) (k : Bool) (it a : Addr) (i : Nat) : Prop := match k with
  | true => h.IsListIter it a i
  | false => h.IsTupleIter it a i
def isK (h : Heap) (k : Bool) (a : Addr) (items : Array Value) : Prop := match k with
  | true => h.IsList a items
  | false => h.IsTuple a items
def objK (k : Bool) (a : Addr) : Obj := match k with
  | true => { cls := .type "list_iterator", data := .fields #[.ref a, .int 0 0] }
  | false => { cls := .type "tuple_iterator", data := .fields #[.ref a, .int 0 0] }
theorem drawsK {prog : Program} {w : World} {A : Around} (hh : A.handled = none) (k : Bool) (it a : Addr) (ne : a ≠ it) (items : Array Value) :
    Draws prog w A it [it, a] items.size (fun i v => items[i]? = some v) (fun i h => itK h k it a i ∧ isK h k a items) := by
  cases k
  · exact Draws.tuple hh it a ne items
  · exact Draws.list hh it a ne items
theorem beginsK (k : Bool) (a : Addr) (items : Array Value) : Begins (.ref a) (objK k a) fun h => isK h k a items := by
  cases k
  · exact begins_tuple a items
  · exact begins_list a items
theorem itK.at {h h' : Heap} {k : Bool} {it a : Addr} {i : Nat} (q : itK h k it a i) (e : ∀ o, h.get? it = some o → h'.get? it = some o) : itK h' k it a i := by
  cases k
  · exact Heap.IsTupleIter.at q e
  · exact Heap.IsListIter.at q e
theorem itK.obj {h : Heap} {k : Bool} {it a : Addr} {i : Nat} (q : itK h k it a i) : ∃ o, h.get? it = some o ∧ ∀ v, o.data ≠ .cell v := by
  cases k
  · obtain ⟨o, e, _, d⟩ := q
    exact ⟨o, e, fun v z => by rw [d] at z; cases z⟩
  · obtain ⟨o, e, _, d⟩ := q
    exact ⟨o, e, fun v z => by rw [d] at z; cases z⟩
section
variable {X : Cx} {pins : List (Addr × Obj)} {σ : L2.St} {H : Hp} {s : Shared}
theorem sqK (I : Inv X pins σ H s) {k : Bool} {a : Addr} {xs : List V} (h : SqK X.K H k a xs) : ∃ its : List Value, Vals xs its ∧ isK s.heap k a its.toArray ∧ a < s.heap.objs.size := by
  cases k
  · obtain ⟨its, rv, p, _⟩ := I.tuple h
    obtain ⟨o, e, _⟩ := id p
    exact ⟨its, rv, p, Heap.lt_size e⟩
  · obtain ⟨its, rv, p, _⟩ := I.list h
    exact ⟨its, rv, p.isList, p.lt⟩
theorem sqK_inj (I : Inv X pins σ H s) {k : Bool} {a : Addr} {xs ys : List V} (h : SqK X.K H k a xs) (h' : SqK X.K H k a ys) : xs = ys := by
  cases k
  · exact I.tuple_inj h h'
  · exact I.list_inj h h'
end
def ItzM (K : PySem.W.Frag) (k1 k2 : Bool) (a b : Addr) : It :=
  ⟨fun i H => ∃ (xs ys : List V) (x y : V), SqK K H k1 a xs ∧ SqK K H k2 b ys ∧ xs[i]? = some x ∧ ys[i]? = some y,
    fun i H v H' => ∃ T x y, v = .ref T ∧ H T = none ∧ H' = upd H T (.tup [x, y]) ∧ (∀ xs, SqK K H k1 a xs → xs[i]? = some x) ∧ ∀ ys, SqK K H k2 b ys → ys[i]? = some y,
    fun i H => ∃ xs ys : List V, SqK K H k1 a xs ∧ SqK K H k2 b ys ∧ i ≤ xs.length ∧ i ≤ ys.length ∧ (xs.length = i ∨ ys.length = i)⟩
theorem nn {a b : Nat} (h : a ≠ b) : @Ne Addr a b := h
theorem n2 {z a b : Nat} (h : z ≠ a) (h' : z ≠ b) : ¬ @Membership.mem Addr (List Addr) _ [a, b] z := fun q => by
  rcases List.mem_cons.mp q with q | q
  · exact h q
  · rcases List.mem_cons.mp q with q | q
    · exact h' q
    · cases q
theorem nc5 {n c : Nat} (h : ¬ (n ≤ c ∧ c ≤ n + 4)) : c ≠ n + 4 ∧ c ≠ n + 3 ∧ c ≠ n ∧ c ≠ n + 1 := by omega
theorem mem5 {n c : Nat} : c ∈ ([n + 4, n + 2, n + 3, n, n + 1] : List Nat) ↔ n ≤ c ∧ c ≤ n + 4 := by
  simp only [List.mem_cons, List.not_mem_nil, or_false]
  omega
theorem turn_zipM {P : Program} {w : World} {K : PySem.W.Frag} {elts : List Expr} {kk : Nat} {tpos : Pos} {k1 k2 : Bool} {a b n : Nat} (ha : a < n) (hb : b < n) :
    Turn P w K (.Tuple elts kk tpos) (ItzM K k1 k2 a b) [n + 4, n + 2, n + 3, n, n + 1] (n + 4) (fun i h => IsZip h (n + 4) (n + 2) (n + 3) .none ∧ IsTupOf2 h (n + 2) (.ref n) (.ref (n + 1)) ∧ (∃ x y, IsTupOf2 h (n + 3) x y) ∧ itK h k1 n a i ∧ itK h k2 (n + 1) b i) := by
  have S : ZipSep2 (n + 4) (n + 2) (n + 3) n (n + 1) [n, a] [n + 1, b] := by
    exact ⟨nn (by omega), nn (by omega), nn (by omega), nn (by omega), List.mem_cons_self, n2 (by omega) (by omega), n2 (by omega) (by omega), nn (by omega), List.mem_cons_self, n2 (by omega) (by omega), n2 (by omega) (by omega), n2 (by omega) (by omega), n2 (by omega) (by omega)⟩
  refine ⟨by simp, ?_, ?_, ?_, ?_, ?_⟩
  · rintro i h ⟨hz, hI, ⟨x, y, hO⟩, q1, q2⟩ c hc
    simp only [List.mem_cons, List.not_mem_nil, or_false] at hc
    rcases hc with rfl | rfl | rfl | rfl | rfl
    · exact ⟨_, hz, fun v q => nomatch q⟩
    · exact ⟨_, hI, fun v q => nomatch q⟩
    · exact ⟨_, hO, fun v q => nomatch q⟩
    · exact q1.obj
    · exact q2.obj
  · rintro i h h' ⟨hz, hI, ⟨x, y, hO⟩, q1, q2⟩ kp
    exact ⟨kp _ (by simp) _ hz, kp _ (by simp) _ hI, ⟨x, y, kp _ (by simp) _ hO⟩, q1.at fun o => kp _ (by simp) o, q2.at fun o => kp _ (by simp) o⟩
  · intro X hP hw hK hc i pins s σ H E I hf st hg
    subst hP hw hK
    obtain ⟨hz, hI, ⟨x0, y0, hO⟩, q1, q2⟩ := st
    obtain ⟨xs, ys, x, y, hqx, hqy, hx, hy⟩ := hg
    obtain ⟨its, rv, p1, _⟩ := sqK I hqx
    obtain ⟨jts, rv2, p2, _⟩ := sqK I hqy
    obtain ⟨u, hu, ru⟩ := rv.get hx
    obtain ⟨v, hv, rv'⟩ := rv2.get hy
    have lz : (n + 4 : Nat) < s.heap.objs.size := Heap.lt_size hz
    have l1 : i < its.toArray.size := by simpa using (List.getElem?_eq_some_iff.mp hu).1
    have l2 : i < jts.toArray.size := by simpa using (List.getElem?_eq_some_iff.mp hv).1
    have hh : X.A.in1.handled = none := I.ok.hd hc
    refine wpAny_pyNext_zipD2_item S (drawsK hh k1 n a (nn (by omega)) its.toArray) (drawsK hh k2 (n + 1) b (nn (by omega)) jts.toArray) hz hI hO ⟨q1, p1⟩ ⟨q2, p2⟩ l1 l2 fun u1 u2 h' tk e1 e2 z' _ s1 s2 hT _ kp => ?_
    have eu : u1 = u := by
      have : its.toArray[i]? = some u := by simpa using hu
      rw [this] at e1
      exact (Option.some.inj e1).symm
    have ev : u2 = v := by
      have : jts.toArray[i]? = some v := by simpa using hv
      rw [this] at e2
      exact (Option.some.inj e2).symm
    subst eu ev
    refine ⟨_, rfl, wpAny_letOwnedTupleGo_zip (s := { s with heap := h', toks := tk }) z' fun h2 z2 sb => ?_⟩
    have sb' : ∀ c, c ≠ n + 4 → h2.get? c = h'.get? c := fun c hc => sb.2 c hc
    have hT2 : h2.get? s.heap.objs.size = some { cls := .type "tuple", data := .seq #[u1, u2] } := (sb' _ (nn (by omega))).trans hT
    have new : ObjOk X.prog X.w (upd H s.heap.objs.size (.tup [x, y])) h2 s.heap.objs.size (.tup [x, y]) :=
      ⟨Nat.le_of_ble_eq_true rfl, [u1, u2], .cons ru (.cons rv' .nil), ⟨_, hT2, rfl, _, rfl⟩⟩
    have I1 : Inv X pins σ (upd H s.heap.objs.size (.tup [x, y])) { s with heap := h2, toks := tk } := by
      refine I.turnedNew (t' := tk) (ch := [n + 4, n + 2, n + 3, n, n + 1]) (fun c o hb q => ?_) hf (Nat.le_refl _) new
      obtain ⟨c1, c2, c3, c4⟩ := nc5 fun z => hb (mem5.mpr z)
      exact (sb' c c1).trans (kp c o c1 c2 c3 c4 q)
    refine ⟨.ref s.heap.objs.size, _, I1, rfl, ⟨_, x, y, rfl, I.hok.fresh (Nat.le_refl _), rfl, fun l hl => by rw [sqK_inj I hl hqx]; exact hx, fun l hl => by rw [sqK_inj I hl hqy]; exact hy⟩, ⟨z2, ?_, ?_, ?_, ?_⟩, fun c hcm => ?_⟩
    · exact (sb' _ (nn (by omega))).trans (kp _ _ (nn (by omega)) (nn (by omega)) (nn (by omega)) (nn (by omega)) hI)
    · refine ⟨u1, u2, ?_⟩
      show h2.get? (n + 3) = _
      rw [sb' _ (nn (by omega))]
      assumption
    · exact s1.1.at fun o q => (sb' _ (nn (by omega))).trans q
    · exact s2.1.at fun o q => (sb' _ (nn (by omega))).trans q
    · have := mem5.mp hcm
      rw [upd_ne (nn (a := c) (b := s.heap.objs.size) (by omega))]
      exact (hf c hcm).1
  · intro X hP hw hK hc i pins s σ H E I hf st hg
    subst hP hw hK
    obtain ⟨hz, hI, ⟨x0, y0, hO⟩, q1, q2⟩ := st
    obtain ⟨xs, ys, hqx, hqy, g1, g2, ge⟩ := hg
    obtain ⟨its, rv, p1, _⟩ := sqK I hqx
    obtain ⟨jts, rv2, p2, _⟩ := sqK I hqy
    have l1 := rv.length
    have l2 := rv2.length
    have z1 : its.toArray.size = its.length := by simp
    have z2 : jts.toArray.size = jts.length := by simp
    have hh : X.A.in1.handled = none := I.ok.hd hc
    refine wpAny_pyNext_zipD2_end S (drawsK hh k1 n a (nn (by omega)) its.toArray) (drawsK hh k2 (n + 1) b (nn (by omega)) jts.toArray) hz hI hO ⟨q1, p1⟩ ⟨q2, p2⟩ (by omega) (by omega) (by omega) fun h' tk kp => ⟨rfl, I.turnedL (t' := tk) (ch := [n + 4, n + 2, n + 3, n, n + 1]) (fun c o hb q => ?_) hf⟩
    obtain ⟨c1, c2, c3, c4⟩ := nc5 fun z => hb (mem5.mpr z)
    exact kp c o c1 c2 c3 c4 q
  · exact fun A i s Q E st h => wpAny_pyIter_zip st.1 h
def iZipM (K : PySem.W.Frag) (ta : TA) : TI := fun σ H R => ta σ H fun vs H1 => ∃ k1 k2 a b xs ys, vs = [.ref a, .ref b] ∧ SqK K H1 k1 a xs ∧ SqK K H1 k2 b ys ∧ R (ItzM K k1 k2 a b) H1
theorem pi_zipM {X : Cx} {e e2 : Expr} {ta : TA} {p pos tpos : Pos} {elts : List Expr} {kk : Nat} (hg : Gl X "zip") (hm : X.mg "zip" = none) (ha : PA X [e, e2] ta)
    (hs : starEach [e, e2] X.env = (false, eval e X.env) :: starEach [e2] X.env := by rfl) (hpl : (backTo pos (starEach [e2] X.env)).any (·.1) = false := by rfl) : PI X (.Tuple elts kk tpos) (.Call (.Name "zip" p) [e, e2] [] pos) (iZipM X.K ta) := by
  refine ⟨fun pins s σ H R I h => ?_⟩
  refine Call_ (ld_blt I hg hm PyProof.Rows.boot_zip (PyProof.Rows.callWith_type1 (thn (ha.run pos pins s σ H _ I h) fun us s1 q => ?_) hs hpl))
  obtain ⟨vs, H1, I1, r1, k1, k2, a, b, xs, ys, rfl, hqx, hqy, q⟩ := q
  obtain ⟨u1, u2, rfl, r1, r2⟩ := vals2 r1
  obtain rfl : u1 = Value.ref a := r1
  obtain rfl : u2 = Value.ref b := r2
  obtain ⟨its, rv, p1, la⟩ := sqK I1 hqx
  obtain ⟨jts, rv2, p2, lb⟩ := sqK I1 hqy
  refine zip_begins2 (beginsK k1 a its.toArray) (beginsK k2 b jts.toArray) p1 p2 fun h' hz hI hO g1 g2 _ kp => wpAny_pyIter_zip hz ?_
  have I2 : Inv X pins σ H1 { s1 with heap := h' } := I1.kept (t' := s1.toks) kp
  refine ⟨s1.heap.objs.size + 4, [s1.heap.objs.size + 4, s1.heap.objs.size + 2, s1.heap.objs.size + 3, s1.heap.objs.size, s1.heap.objs.size + 1], _, ItzM X.K k1 k2 a b, H1, rfl, I2, turn_zipM la lb, ⟨hz, hI, ⟨_, _, hO⟩, ?_, ?_⟩, fun c hc => ?_, q⟩
  · cases k1 <;> exact ⟨_, g1, rfl, rfl⟩
  · cases k2 <;> exact ⟨_, g2, rfl, rfl⟩
  · have : s1.heap.objs.size ≤ c := (mem5.mp hc).1
    exact I1.fpOk this (I1.hok.fresh this)
theorem walk_zipM {K : PySem.W.Frag} {k1 k2 : Bool} {a b : Addr} {xs ys : List V} {n : Nat} (hn : n = min xs.length ys.length) :
    Walk (ItzM K k1 k2 a b) n (fun H => SqK K H k1 a xs ∧ SqK K H k2 b ys) (YPair (fun i => xs[i]?) (fun i => ys[i]?)) := by
  refine ⟨fun i H hi q => ?_, fun H q => ⟨xs, ys, q.1, q.2, by omega, by omega, by omega⟩, fun i H v H' hi q y => ?_⟩
  · exact ⟨xs, ys, xs[i]'(by omega), ys[i]'(by omega), q.1, q.2, List.getElem?_eq_getElem (by omega), List.getElem?_eq_getElem (by omega)⟩
  · obtain ⟨t, x, z, e1, e2, e3, e4, e5⟩ := y
    exact ⟨t, x, z, e1, e2, e3, e4 xs q.1, e5 ys q.2⟩
theorem SqK.mono {K : PySem.W.Frag} {H H' : Hp} {k : Bool} {a : Addr} {xs : List V} (s : Same H H') (h : SqK K H k a xs) : SqK K H' k a xs := by
  cases k
  · exact Z.SqT.mono s h
  · exact Z.SqL.mono s h
end ZM
namespace DL
open PySem L2 Z PySem.Spec PyProof.Rows
variable [Tbs]
section
variable {K : PySem.W.Frag} {n : Nat} {J : Jv n}
theorem seqK_of {G : Hp} {v : V} {d : PyData} {P : List PyData → Prop} (q : Dq K G v d) (h : seqF d P) : ∃ k a xs ds, v = .ref a ∧ ZM.SqK K G k a xs ∧ DqAll K G xs ds ∧ P ds := by
  unfold seqF at h
  split at h
  · next ds =>
    obtain ⟨a, xs, rfl, s, r⟩ := q.list_of
    exact ⟨true, a, xs, ds, rfl, s, r, h⟩
  · next ds =>
    obtain ⟨a, xs, rfl, s, r⟩ := q.tuple_of
    exact ⟨false, a, xs, ds, rfl, s, r, h⟩
  · exact h.elim
def iZM (f : FA) : FA := fun ρ P => f ρ fun ds ρ1 => match ds with
  | [x, y] => seqF x fun es => seqF y fun gs => P (zipD es gs) ρ1
  | _ => False
theorem ri_zipM {ta : TA} {f : FA} (h : RA K J ta f) : RI K J (ZM.iZipM K ta) (iZM f) := by
  intro O as σ H R ρ P E q k
  refine h O as σ H _ ρ _ E q fun ds ρ1 vs H1 q1 f1 E1 d1 => ?_
  split at q1
  · next x y =>
    cases d1 with
    | cons d1 b => cases b with
      | cons d2 b =>
        cases b
        obtain ⟨k1, a, xs, es, rfl, s, r, q1⟩ := seqK_of d1 q1
        obtain ⟨k2, a', xs', gs, rfl, s', r', q1⟩ := seqK_of d2 q1
        refine ⟨k1, k2, a, a', xs, xs', rfl, ZM.SqK.mono hp_same s, ZM.SqK.mono hp_same s', k _ _ _ _ q1 f1 E1 ?_⟩
        refine ⟨_, _, ZM.walk_zipM (xs := xs) (ys := xs') (n := (zipD es gs).length) (by rw [zipD_len, ← r.length, ← r'.length]), fun A' H2 s2 => ⟨ZM.SqK.mono hp_same (ZM.SqK.mono s2 s), ZM.SqK.mono hp_same (ZM.SqK.mono s2 s')⟩, fun i d A' H2 x H3 hd s2 oc y => ?_⟩
        obtain ⟨T, x1, y1, rfl, hT, e, e1, e2⟩ := y
        obtain ⟨c1, g1, q1'⟩ := r.get e1
        obtain ⟨c2, g2, q2'⟩ := r'.get e2
        rw [zipD_get hd g1 g2]
        exact yPair (A := fun _ => False) (H := H) hT e oc (q1'.mono s2) (q2'.mono s2)
  · exact q1.elim
end
/-! is not True -/
theorem op_notB {X : Cx} : OpR X (compareOp .IsNot) (fun x y H Q => ∃ b, y = .bl b ∧ (∀ n, x ≠ .ty n) ∧ Q (.bl (!decide (x = .bl b))) H) := by
  intro pins s σ H x y v u Q I rx ry h
  obtain ⟨b, rfl, nt, q⟩ := h
  cases ry
  have key : ∀ c : Bool, (!decide (x = V.bl b)) = c → wpAny (model X.prog X.w) X.A (pure (.bool c)) (EP X pins σ Q) X.xe s := fun c e => wpAny_pure ⟨.bl c, H, I, rfl, by rw [← e]; exact q⟩
  cases x with
  | non => cases rx; exact key true rfl
  | bl c => cases rx; cases c <;> cases b <;> first | exact key true rfl | exact key false rfl
  | int i => obtain ⟨t, rfl⟩ := rx; exact key true rfl
  | str i => obtain ⟨t, rfl⟩ := rx; exact key true rfl
  | byt i => obtain ⟨t, rfl⟩ := rx; exact key true rfl
  | flt i => obtain ⟨t, rfl⟩ := rx; exact key true rfl
  | ref a => cases rx; exact key true rfl
  | ty n => exact absurd rfl (nt n)
def oIsntT : G2 := fun a d P => match d with
  | .bool b => P (.bool (!isBool b a))
  | _ => False
theorem rr_notB {K : PySem.W.Frag} : RR K (fun x y H Q => ∃ b, y = .bl b ∧ (∀ n, x ≠ .ty n) ∧ Q (.bl (!decide (x = .bl b))) H) oIsntT := by
  intro A H Q x y a c P oc da db g k
  unfold oIsntT at g
  split at g
  · next b =>
    cases db
    refine ⟨b, rfl, fun n => ?_, ?_⟩
    · cases da <;> exact fun z => nomatch z
    · have e : decide (x = V.bl b) = isBool b a := by
        cases da <;> first | rfl | (next z => cases z <;> cases b <;> rfl)
      rw [e]
      exact k _ _ _ g (Same.refl _) (.bl _)
  · exact g.elim
end DL
/-! own lists and things of the store read as data while they stay -/
namespace DL
open PySem L2 Z PySem.Spec PyProof.Rows
variable [Tbs]
mutual
/-- a thing with what stands in the store now laid open -/
inductive Res (S : Sto) : PyData → PyData → Prop
  | refl (d : PyData) : Res S d d
  | lst {a : Addr} {ds ds' : List PyData} : S a = some (.lst ds) → ResAll S ds ds' → Res S (hdl a) (.list ds')
  | obj {a : Addr} {c : Str} {fs fs' : List (PyData × PyData)} : S a = some (.obj c fs) → ResFs S fs fs' → Res S (hdl a) (.dict ((.str c, .none) :: fs'))
  | tup {ds ds' : List PyData} : ResAll S ds ds' → Res S (.tuple ds) (.tuple ds')
  | list {ds ds' : List PyData} : ResAll S ds ds' → Res S (.list ds) (.list ds')
  | objF {c : Str} {fs fs' : List (PyData × PyData)} : ResFs S fs fs' → Res S (.dict ((.str c, .none) :: fs)) (.dict ((.str c, .none) :: fs'))
  | dct {a : Addr} {kd kd' : List (L2.Key × PyData)} : S a = some (.dct kd) → ResKs S kd kd' → Res S (hdl a) (dctD kd')
  | dctL {a : Addr} {od : PySem.Obj} {kv : List (L2.Key × V)} {kd kd' : List (L2.Key × PyData)} : S a = some (.dctL od kv kd) → ResKs S kd kd' → Res S (hdl a) (dctD kd')
inductive ResKs (S : Sto) : List (L2.Key × PyData) → List (L2.Key × PyData) → Prop
  | nil : ResKs S [] []
  | cons {k : L2.Key} {d d' : PyData} {ds ds' : List (L2.Key × PyData)} : Res S d d' → ResKs S ds ds' → ResKs S ((k, d) :: ds) ((k, d') :: ds')
inductive ResAll (S : Sto) : List PyData → List PyData → Prop
  | nil : ResAll S [] []
  | cons {d d' : PyData} {ds ds' : List PyData} : Res S d d' → ResAll S ds ds' → ResAll S (d :: ds) (d' :: ds')
inductive ResFs (S : Sto) : List (PyData × PyData) → List (PyData × PyData) → Prop
  | nil : ResFs S [] []
  | cons {f : Str} {d d' : PyData} {ds ds' : List (PyData × PyData)} : Res S d d' → ResFs S ds ds' → ResFs S ((.str f, d) :: ds) ((.str f, d') :: ds')
end
theorem ResAll.refl {S : Sto} : ∀ ds : List PyData, ResAll S ds ds
  | [] => .nil
  | d :: r => .cons (.refl d) (ResAll.refl r)
inductive ResSl (S : Sto) : Sl → Sl → Prop
  | fz {d d' : PyData} : Res S d d' → ResSl S (.fz d) (.fz d')
  | own {ds ds' : List PyData} : ResAll S ds ds' → ResSl S (.own ds) (.fz (.list ds'))
  | no : ResSl S .no .no
  | fgt {d : PyData} : ResSl S (.fz d) .no
  | fgo {ds : List PyData} : ResSl S (.own ds) .no
/-- what is seen of the slots while nothing changes -/
inductive ResEn (S : Sto) : En → En → Prop
  | nil : ResEn S [.st S] []
  | cons {s s' : Sl} {ρ ρ' : En} : ResSl S s s' → ResEn S ρ ρ' → ResEn S (s :: ρ) (s' :: ρ')
section
variable {K : PySem.W.Frag} {n : Nat} {J : Jv n}
section
variable {S : Sto} {G G' : Hp} {H : Hp}
theorem Dq.hdl_of {v : V} {a : Addr} (h : Dq K G v (DL.hdl a)) : v = .ref a := by
  unfold DL.hdl at h
  generalize e : PyData.dict [(PyData.none, PyData.int ↑a)] = d at h
  cases h <;> first | (cases e; done) | skip
  rename_i b
  unfold DL.hdl at e
  injection e with e
  injection e with e _
  injection e with _ e
  injection e with e
  rw [Int.ofNat.inj e]
mutual
theorem Res.dq (st : StoR K G H S) (s : Same G G') (k : ∀ a, S a ≠ none → G' a = H a) : ∀ {d d' : PyData} {v : V}, Res S d d' → Dq K G v d → Dq K G' v d'
  | _, _, _, .refl _, q => q.mono s
  | _, _, _, .lst e r, q => by
    rw [q.hdl_of]
    obtain ⟨u, e1, q1⟩ := st _ _ e
    cases q1 with
    | lst q1 => exact .lst (SqL.of (by rw [k _ (by rw [e]; exact Option.some_ne_none _)]; exact e1)) (ResAll.dq st s k r q1)
  | _, _, _, .obj e r, q => by
    rw [q.hdl_of]
    obtain ⟨u, e1, q1⟩ := st _ _ e
    cases q1 with
    | obj h q1 => exact .obj h (by rw [k _ (by rw [e]; exact Option.some_ne_none _)]; exact e1) (ResFs.dq st s k r q1)
  | _, _, _, .tup r, .tup h q => .tup (SqT.mono s h) (ResAll.dq st s k r q)
  | _, _, _, .list r, .lst h q => .lst (SqL.mono s h) (ResAll.dq st s k r q)
  | _, _, _, .objF r, q => by
    cases q with
    | obj h e q => exact .obj h (s _ _ e) (ResFs.dq st s k r q)
  | _, _, _, .dct e r, q => by
    rw [q.hdl_of]
    obtain ⟨u, e1, q1⟩ := st _ _ e
    cases q1 with
    | dct q1 => exact .dct (.inl (by rw [k _ (by rw [e]; exact Option.some_ne_none _)]; exact e1)) (ResKs.dq st s k r q1)
  | _, _, _, .dctL e r, q => by
    rw [q.hdl_of]
    obtain ⟨u, e1, q1⟩ := st _ _ e
    cases q1 with
    | dctL q1 => exact .dct (.inr ⟨_, by rw [k _ (by rw [e]; exact Option.some_ne_none _)]; exact e1⟩) (ResKs.dq st s k r q1)
theorem ResKs.dq (st : StoR K G H S) (s : Same G G') (k : ∀ a, S a ≠ none → G' a = H a) : ∀ {d d' : List (L2.Key × PyData)} {v : List (L2.Key × V)}, ResKs S d d' → DqKs K G v d → DqKs K G' v d'
  | _, _, _, .nil, .nil => .nil
  | _, _, _, .cons a r, .cons b q => .cons (Res.dq st s k a b) (ResKs.dq st s k r q)
theorem ResAll.dq (st : StoR K G H S) (s : Same G G') (k : ∀ a, S a ≠ none → G' a = H a) : ∀ {d d' : List PyData} {v : List V}, ResAll S d d' → DqAll K G v d → DqAll K G' v d'
  | _, _, _, .nil, .nil => .nil
  | _, _, _, .cons a r, .cons b q => .cons (Res.dq st s k a b) (ResAll.dq st s k r q)
theorem ResFs.dq (st : StoR K G H S) (s : Same G G') (k : ∀ a, S a ≠ none → G' a = H a) : ∀ {d d' : List (PyData × PyData)} {v : List (Str × V)}, ResFs S d d' → DqFs K G v d → DqFs K G' v d'
  | _, _, _, .nil, .nil => .nil
  | _, _, _, .cons a r, .cons b q => .cons (Res.dq st s k a b) (ResFs.dq st s k r q)
end
end
def frz : Sl → Sl
  | .own ds => .fz (.list ds)
  | s => s
def noA : As := fun _ => none
theorem own_no {a : Addr} {as : As} {H : Hs} (h : Own noA H a) : Own as H a := by
  rcases h with ⟨_, _, h, _⟩ | h
  · cases h
  · exact .inr h
theorem EnR.vis {O : Addr → Prop} {as : As} {H : Hs} {ρ : En} {σ : L2.St} (E : EnR K J O as H ρ σ) : ∀ i r b, as i = some r → Rgn H r b → ¬ Hid O noA H b := fun i r b h q w => by
  rcases w with w | ⟨_, _, w, _⟩ | w
  · exact E.out i r b h q w
  · cases w
  · exact E.tab.nod (E.nod h q) w
theorem EnR.visS {O : Addr → Prop} {as : As} {H : Hs} {ρ : En} {σ : L2.St} (_E : EnR K J O as H ρ σ) : Same (hq O as H) (hq O noA H) := hp_less fun a h => by
  rcases h with h | h
  · exact .inl h
  · exact .inr (own_no h)
/-- .. and the store -/
theorem ResEn.at_ {S : Sto} {i : Nat} {s' : Sl} : ∀ {ρ ρ' : En}, ResEn S ρ ρ' → ρ'[i]? = some s' → ∃ s, ρ[i]? = some s ∧ ResSl S s s' := fun {ρ ρ'} h => by
  induction h generalizing i with
  | nil => intro z; cases z
  | cons a r ih =>
    intro z
    cases i with
    | zero => cases z; exact ⟨_, rfl, a⟩
    | succ i => exact ih z
theorem ResEn.last {S : Sto} {ρ ρ' : En} (h : ResEn S ρ ρ') : ρ[ρ'.length]? = some (.st S) ∧ ρ.length = ρ'.length + 1 := by
  induction h with
  | nil => exact ⟨rfl, rfl⟩
  | cons a r ih => exact ⟨ih.1, by rw [List.length_cons, List.length_cons, ih.2]⟩
theorem EnR.viewS {O : Addr → Prop} {as : As} {H : Hs} {ρ ρ' : En} {σ : L2.St} {S : Sto} (E : EnR K J O as H ρ σ) (r : ResEn S ρ ρ') : EnR K (J0 : Jv n) O noA H ρ' σ := by
  obtain ⟨h1, h2⟩ := r.last
  obtain ⟨a1, e, st⟩ := E.st_at h1
  have hl : ρ'.length = σ.length := (E.sto _ a1).1
  have k : ∀ a, S a ≠ none → hq O noA H a = H.hp a := fun a h => hp_of (E.vis _ .sto a a1 (by show H.st a ≠ none; rw [← e]; exact h))
  refine ⟨by omega, fun i sl h1 h2 => ?_, fun i sl o h1 h2 => ?_, fun i h => (by cases h), fun i j _ _ _ h1 => (by cases h1), fun i _ _ h => (by cases h), fun i a h => (by cases h), E.occ, trivial, trivial, E.tab⟩
  · have := (List.getElem?_eq_some_iff.mp h1).1
    omega
  · obtain ⟨s, e1, rs⟩ := r.at_ h1
    have q := E.at_ i s o e1 h2
    show SlR K _ _ none _ _
    have no := E.vis i
    generalize as i = z at q no
    cases rs with
    | fz r =>
      cases q with
      | fz q => exact .fz (r.dq st E.visS k q)
    | own r =>
      cases q with
      | own q z => exact .fz (.lst (SqL.of (hp_mk (no _ _ rfl .here) q)) (r.dq st E.visS k z))
    | no => exact .no
    | fgt => exact .no
    | fgo => exact .no
/-- but for tables nothing is changed -/
theorem EnR.still {O : Addr → Prop} {as : As} {H H' : Hs} {ρ : En} {σ : L2.St} (E : EnR K J O as H ρ σ) (f : Fr noA H H') (t : TabsOk H'.hp) : EnR K J O as H' ρ σ ∧ Fr as H H' := by
  have st : Stay as H H' := ⟨fun i r b h q => by
    have nd := E.nod h q
    obtain ⟨o, e, _⟩ := id nd
    rw [e]
    refine f.fr _ _ (fun z => ?_) e
    rcases z with ⟨_, _, z, _⟩ | z
    · cases z
    · exact E.tab.nod nd z, f.nst fun _ z => by cases z⟩
  have f' : Fr as H H' := ⟨f.fr.up fun a h => own_no h, fun a h => .inl (st.own.mp h), f.liv, fun _ => st.st⟩
  exact ⟨E.keepS st f' t, f'⟩
def noSt (ρ : En) : Bool := ρ.all fun s => match s with
  | .st _ => false
  | _ => true
def fBorT (f : FT) : FT := fun ρ P => noSt ρ = true ∧ f (ρ.map frz) fun b _ => P b ρ
mutual
/-- data that never changes, whatever does -/
def immD : PyData → Bool
  | .none => true
  | .bool _ => true
  | .int _ => true
  | .str _ => true
  | .tuple ds => immAll ds
  | .dict [(.bool false, .tuple ds)] => immAll ds
  | _ => false
def immAll : List PyData → Bool
  | [] => true
  | d :: r => immD d && immAll r
end
structure TupK (K : PySem.W.Frag) (G G' : Hp) : Prop where
  sq : ∀ a xs, SqT K G a xs → SqT K G' a xs
  fz : ∀ a o xs, G a = some (.frz o (.tup xs)) → G' a = some (.frz o (.tup xs))
mutual
theorem Dq.imm {G G' : Hp} (k : TupK K G G') : ∀ {v : V} {d : PyData}, immD d = true → Dq K G v d → Dq K G' v d
  | _, _, _, .non => .non
  | _, _, _, .bl b => .bl b
  | _, _, _, .int i => .int i
  | _, _, _, .str x => .str x
  | _, _, h, .tup s q => .tup (k.sq _ _ s) (DqAll.imm k (by rw [immD] at h; exact h) q)
  | _, _, h, .lst _ _ => by cases h
  | _, _, h, .obj _ _ _ => by simp [immD] at h
  | _, _, h, .exc _ _ _ _ => by simp [immD] at h
  | _, _, h, .fnc _ => by simp [immD] at h
  | _, _, h, .hdl => by simp [DL.hdl, immD] at h
  | _, _, h, .tn e n q => .tn (k.fz _ _ _ e) n (DqAll.imm k (by unfold tnD at h; rw [immD] at h; exact h) q)
  | _, _, h, .dct _ _ => by simp [dctD, immD] at h
theorem DqAll.imm {G G' : Hp} (k : TupK K G G') : ∀ {v : List V} {d : List PyData}, immAll d = true → DqAll K G v d → DqAll K G' v d
  | _, _, _, .nil => .nil
  | _, _, h, .cons a r => by
    rw [immAll, Bool.and_eq_true] at h
    exact .cons (Dq.imm k h.1 a) (DqAll.imm k h.2 r)
end
theorem EnR.noTup {O : Addr → Prop} {as : As} {H : Hs} {ρ : En} {σ : L2.St} (E : EnR K J O as H ρ σ) {a : Addr} {xs : List V} {u : HO} (h : H a = some u) (hu : u = .tup xs ∨ ∃ o, u = .frz o (.tup xs)) : ¬ Own as H a := fun q => by
  rcases q with ⟨i, r, e, q⟩ | q
  · rcases E.is_reg e with ⟨b, ds, ys, rfl, _, _, h3, _⟩ | ⟨rfl, _, _, st⟩
    · rw [q.lf_of, h3] at h
      cases h
      rcases hu with z | ⟨_, z⟩ <;> cases z
    · obtain ⟨o, e⟩ := Option.ne_none_iff_exists'.mp (show H.st a ≠ none from q)
      obtain ⟨u, e1, q1⟩ := st a o e
      rw [e1] at h
      cases h
      rcases hu with z | ⟨_, z⟩ <;> (subst z; cases q1)
  · obtain ⟨p, hp, z⟩ := q
    obtain ⟨ps, h1, _⟩ := E.tab p hp
    rw [z, h] at h1
    cases h1
    rcases hu with z | ⟨_, z⟩ <;> cases z
theorem EnR.tupS {O : Addr → Prop} {as : As} {H : Hs} {ρ : En} {σ : L2.St} (E : EnR K J O as H ρ σ) : TupK K (hq O noA H) (hq O as H) := by
  refine ⟨fun a xs h => ?_, fun a o xs h => ?_⟩
  · rcases h with (h | ⟨o, h⟩) | h
    · obtain ⟨n, e⟩ := hp_some h
      refine .inl (.inl (hp_mk (fun z => ?_) e))
      rcases z with z | z
      · exact n (.inl z)
      · exact E.noTup e (.inl rfl) z
    · obtain ⟨n, e⟩ := hp_some h
      refine .inl (.inr ⟨o, hp_mk (fun z => ?_) e⟩)
      rcases z with z | z
      · exact n (.inl z)
      · exact E.noTup e (.inr ⟨o, rfl⟩) z
    · exact .inr h
  · obtain ⟨n, e⟩ := hp_some h
    refine hp_mk (fun z => ?_) e
    rcases z with z | z
    · exact n (.inl z)
    · exact E.noTup e (.inr ⟨o, rfl⟩) z
def plainD (d : PyData) : Bool := immD d
def fBorE (f : FE) : FE := fun ρ P => noSt ρ = true ∧ f (ρ.map frz) fun d _ => immD d = true ∧ P d ρ
/-- seen with the store laid open -/
def fOpnT (f : FT) : FT := fun ρ P => ∃ S ρ', ResEn S ρ ρ' ∧ f ρ' fun b _ => P b ρ
theorem rt_opn {t : TT} {f : FT} (h : RT K (J0 : Jv n) t f) : RT K J t (fOpnT f) := by
  intro O as σ H Q ρ P E q k
  obtain ⟨S, ρ', r, q⟩ := q
  refine h O noA σ H _ _ _ (E.viewS r) q fun b ρ' H' p fr E' => ?_
  exact k b ρ H' p (E.still fr E'.tab).2 (E.still fr E'.tab).1
def fOpnE (f : FE) : FE := fun ρ P => ∃ S ρ', ResEn S ρ ρ' ∧ f ρ' fun d _ => immD d = true ∧ P d ρ
theorem re_opn {t : TE} {f : FE} (h : RE K (J0 : Jv n) t f) : RE K J t (fOpnE f) := by
  intro O as σ H Q ρ P E q k
  obtain ⟨S, ρ', r, q⟩ := q
  refine h O noA σ H _ _ _ (E.viewS r) q fun d ρ' v H' p fr E' dv => ?_
  obtain ⟨E2, f2⟩ := E.still fr E'.tab
  exact k d ρ v H' p.2 f2 E2 (dv.imm E2.tupS p.1)
end
end DL
/-! a part of an own list replaced -/
namespace DL
open PySem L2 Z PySem.Spec PyProof.Rows
variable [Tbs]
section
variable {K : PySem.W.Frag} {n : Nat} {J : Jv n}
def fSetSl (i : Nat) (lo hi : FE) (f : FA) : FS := fun E ρ => f ρ fun es ρ1 => ownF ρ1 i fun _ => lo ρ1 fun x ρ2 => intF x fun a => hi ρ2 fun y ρ3 => intF y fun c => ownF ρ3 i fun ds => 0 ≤ a ∧ a ≤ c ∧ c ≤ ds.length ∧ ds.length + es.length ≤ sizeLine ∧ E.nx (ρ3.set i (.own (ds.take a.toNat ++ es ++ ds.drop c.toNat)))
end
end DL
/-! the end of a law whose def runs while no repr is under way, with one table of code objects -/
namespace Z
open PySem L2 PySem.Spec PyProof.Rows
end Z
namespace DL
open PySem
theorem numD_int (i : Int) : numD (.int i) = some i := rfl
theorem numD_bool (b : Bool) : numD (.bool b) = some (if b then 1 else 0) := rfl
end DL
/-! set(xs) of a list, sorted(set(xs)) -/
namespace DL
open PySem L2 Z PySem.Spec PyProof.Rows
abbrev set0 (w : World) : Obj := { cls := .type "set", dict := none, data := .set #[] 0 (.fresh 0 0 (!w.params.followText "set-order")) }
section
variable {P : Program} {w : World} {A : Around} {E : Value → Shared → Prop} {s : Shared}
set_option maxRecDepth 100000 in
set_option maxHeartbeats 3200000 in
/-- set(xs): what is asked of the loop that lays the items -/
theorem set_of_list {l : Addr} {its : Array Value} {Q : Value → Shared → Prop} (Z : Heap → Prop) (hh : A.handled = none) (hl : s.heap.IsList l its)
    (go : ∀ (I : Addr) (s1 : Shared) (St : Nat → Shared → Prop) (R : Result → Shared → Prop), WalksS P w A.in1.in1.in1 I [I, l] [I] (fun a b => b = a) its.size (fun i v => its[i]? = some v) St → s.heap.objs.size ∉ [I, l] → St 0 s1 → s1.heap.get? s.heap.objs.size = some (set0 w) →
      (∀ s2, Moved (s.heap.objs.size :: [I]) (fun a b => b = a) s1 s2 → Z s2.heap → R (.ok (.ret .none)) s2) → codeAny (model P w) A.in1.in1 (.builtin "set.update.loop" ⟨[.ref s.heap.objs.size, .ref I], []⟩) R s1)
    (k : ∀ (h2 : Heap) (tk : Nat), Z h2 → (∀ b o, s.heap.get? b = some o → h2.get? b = some o) → Q (.ref s.heap.objs.size) { s with heap := h2, toks := tk }) :
    wpAny (model P w) A (call (.type "set") [.ref l]) Q E s := by
  obtain ⟨c0, tl0, mro⟩ := F.called_set.mro
  have mad := F.called_set.made
  have sb := F.called_set.sub
  refine wpAny_call (codeAny_of_tree ?_)
  show wpAny _ _ (callAny (.type "set") _) _ _ _
  refine wpAny_pure ⟨Code.quiet_builtin _ (by decide +kernel), codeAny_builtin F.entry_type_call ?_⟩
  rw [Around.under_plain (weight_type_call_type "set" [.ref l] []) rfl]
  have nt := F.called_set.notType
  have cc := F.called_set.canCreate
  have tc := F.typeCall_set_1 (.ref l)
  repeat (any_goals (first | assumption | wp_step))
  refine codeAny_mono (code_set_led1 (.ref l) (E := E) (Q₁ := fun ob t1 => ob = .ref s.heap.objs.size ∧ t1 = { s with heap := s.heap.push (set0 w) }) ⟨rfl, rfl⟩) fun r t1 hr => ?_
  cases r with
  | error e => exact hr
  | ok fl =>
    cases fl with
    | ret ob =>
      obtain ⟨rfl, rfl⟩ := hr
      have gS : (s.heap.push (set0 w)).get? s.heap.objs.size = some (set0 w) := Heap.get?_push_size _ rfl
      have tS : Shared.TypeIs { s with heap := s.heap.push (set0 w) } (.ref s.heap.objs.size) "set" := ⟨_, gS, rfl⟩
      have li := F.called_set.init.lookup
      have bi := F.called_set.init.bind (.ref s.heap.objs.size)
      repeat (any_goals (first | assumption | wp_step))
      refine codeAny_mono (codeAny_call_builtin (R := wants (fun r t2 => r = .none ∧ ∃ h2 tk, t2 = { s with heap := h2, toks := tk } ∧ Z h2 ∧ ∀ b o, s.heap.get? b = some o → h2.get? b = some o) E)
        F.called_set.init.plain F.entry_set_init (check_set_init_1 tS ?_)) fun r2 t2 hr2 => ?_
      · obtain ⟨ol, eo, ec, nl, ed⟩ := hl
        obtain ⟨oc, od, ot, os⟩ := ol
        simp only at ec ed
        subst ec; subst ed
        have eo' : (s.heap.push (set0 w)).get? l = some { cls := .type "list", dict := od, data := .seq its nl, slots := os } := Heap.get?_push_of_some _ eo
        have sls := F.sub_list_set
        have slf := F.sub_list_frozenset
        have nd : (Value.type "list" == Value.type "dict") = false := by decide
        have il : (s.heap.push (set0 w)).IsList l its := ⟨_, eo', rfl, nl, rfl⟩
        unfold Builtin.«set.__init__» noKeywords Builtin.Frozenset.updateFrom
        generalize eP : pyIter = PI
        wp_walk
        subst eP
        refine wpAny_pyIter_list il ?_
        refine wpAny_bind (wpAny_runValue ?_)
        have lS : l < s.heap.objs.size := Heap.lt_size eo
        have h3 : A.in1.in1.in1.handled = none := by simp [hh]
        have nI : l ≠ (s.heap.push (set0 w)).objs.size := by rw [Heap.size_push]; exact Nat.ne_of_lt (Nat.lt_succ_of_lt lS)
        have nS : s.heap.objs.size ∉ [(s.heap.push (set0 w)).objs.size, l] := by
          rw [Heap.size_push]
          simp only [List.mem_cons, List.not_mem_nil, or_false, not_or]
          exact ⟨Nat.ne_of_lt (Nat.lt_succ_self _), Nat.ne_of_gt lS⟩
        refine go _ _ _ _ ((Walks.list h3 _ l nI its).toS) nS ⟨⟨_, Heap.get?_push_size _ rfl, rfl, rfl⟩, il.push _⟩ (Heap.get?_push_of_some _ gS) fun s2 mv z => ?_
        obtain ⟨h2, g2, d2, t2, o2⟩ := s2
        have eg : g2 = s.gens := mv.gens
        have ed : d2 = s.drawn := mv.drawn
        have eo2 : o2 = s.os := mv.os
        subst eg; subst ed; subst eo2
        show wpAny _ _ _ _ _ _
        refine wpAny_pure ?_
        show wpAny _ _ (ret Value.none) _ _ _
        refine wpAny_pure ⟨rfl, h2, t2, rfl, z, fun b o e => ?_⟩
        have b0 := Heap.lt_size e
        refine mv.heap b o ?_ (Heap.get?_push_of_some _ (Heap.get?_push_of_some _ e))
        rw [Heap.size_push]
        simp only [List.mem_cons, List.not_mem_nil, or_false, not_or]
        exact ⟨Nat.ne_of_lt b0, Nat.ne_of_lt (Nat.lt_succ_of_lt b0)⟩
      · cases r2 with
        | error e => exact hr2
        | ok f2 =>
          cases f2 with
          | ret r =>
            obtain ⟨rfl, h2, tk, rfl, z, kp⟩ := hr2
            repeat (any_goals (first | assumption | wp_step))
            exact k _ _ z kp
          | _ => exact hr2.elim
    | _ => exact hr.elim
end
section
variable {X : Cx}
end
end DL
/-! things of the store: made, read, changed -/
namespace DL
open PySem L2 Z PySem.Spec PyProof.Rows
variable [Tbs]
def sset (S : Sto) (p : Addr) (o : SO) : Sto := fun a => if a = p then some o else S a
theorem sset_same {S : Sto} {p : Addr} {o : SO} : sset S p o p = some o := if_pos rfl
theorem sset_ne {S : Sto} {p a : Addr} {o : SO} (h : a ≠ p) : sset S p o a = S a := if_neg h
theorem sset_some {S : Sto} {p a : Addr} {o : SO} (h : sset S p o a ≠ none) : a = p ∨ S a ≠ none := by
  by_cases e : a = p
  · exact .inl e
  · rw [sset_ne e] at h; exact .inr h
/-- the store in its slot -/
def stF (ρ : En) (sx : Nat) (k : Sto → Prop) : Prop := match ρ[sx]? with
  | some (.st S) => k S
  | _ => False
theorem stF_of {ρ : En} {sx : Nat} {k : Sto → Prop} (h : stF ρ sx k) : ∃ S, ρ[sx]? = some (.st S) ∧ k S := by
  unfold stF at h
  split at h
  · next S e => exact ⟨S, e, h⟩
  · exact h.elim
section
variable {K : PySem.W.Frag} {n : Nat} {J : Jv n} {O : Addr → Prop} {as : As} {H : Hs} {ρ : En} {σ : L2.St} {S : Sto} {sx : Nat} {p : Addr}
theorem SoR.tab {H : Hp} {G : Hp} {u : HO} {o : SO} (t : TabsOk H) (h : H p = some u) (q : SoR K G u o) (v : HO) : TabsOk (upd H p v) := fun z hz => by
  obtain ⟨ps, t1, t2, t3⟩ := t z hz
  have ne : ∀ b w, H b = some w → w ≠ u → b ≠ p := fun b w e n' z' => n' (Option.some.inj (e.symm.trans (by rw [z']; exact h)))
  refine ⟨ps, by rw [upd_ne (ne _ _ t1 (fun z => q.ntb ps z.symm))]; exact t1, t2, fun po cv hcv => ?_⟩
  obtain ⟨cc, u1, u2⟩ := t3 po cv hcv
  exact ⟨cc, u1, by rw [upd_ne (ne _ _ u2 (fun z => by unfold LamX.CodeO at z; subst z; cases q))]; exact u2⟩
/-- what stands at a place of the store -/
theorem EnR.getS (E : EnR K J O as H ρ σ) (hs : ρ[sx]? = some (.st S)) {o : SO} (e : S p = some o) : ∃ u, H p = some u ∧ SoR K (hq O as H) u o := (E.st_at hs).2.2 p o e
/-- a thing of the store changed -/
theorem EnR.setS (E : EnR K J O as H ρ σ) (hs : ρ[sx]? = some (.st S)) {o : SO} (e : S p = some o) {u' : HO} {o' : SO} (q : SoR K (hq O as H) u' o') :
    EnR K J O as ⟨upd H p u', sset S p o'⟩ (ρ.set sx (.st (sset S p o'))) σ ∧ Fr as H ⟨upd H p u', sset S p o'⟩ := by
  obtain ⟨u, e1, q1⟩ := E.getS hs e
  obtain ⟨a1, e2, st⟩ := E.st_at hs
  have sp : S p ≠ none := by rw [e]; exact Option.some_ne_none _
  refine E.putS hs (fun a o ha ho => by rw [upd_ne (fun z => sp (by rw [← z]; exact ha))]; exact ho) (fun a ha => ?_) (q1.tab E.tab e1 u') (liv_upd _) fun F => ?_
  · rcases sset_some ha with z | z
    · rw [z]; exact .inl sp
    · exact .inl z
  · intro a w hw
    by_cases z : a = p
    · subst z
      rw [sset_same] at hw
      cases hw
      exact ⟨_, upd_same, q.mono F.same⟩
    · rw [sset_ne z] at hw
      obtain ⟨v, h1, h2⟩ := st a w hw
      exact ⟨v, by rw [upd_ne z]; exact h1, h2.mono F.same⟩
/-- a new thing in the store -/
theorem EnR.addS (E : EnR K J O as H ρ σ) (hs : ρ[sx]? = some (.st S)) (hp : H p = none) {u' : HO} {o' : SO} (q : SoR K (hq O as H) u' o') :
    S p = none ∧ EnR K J O as ⟨upd H p u', sset S p o'⟩ (ρ.set sx (.st (sset S p o'))) σ ∧ Fr as H ⟨upd H p u', sset S p o'⟩ := by
  obtain ⟨a1, e2, st⟩ := E.st_at hs
  have sp : S p = none := by
    cases e : S p with
    | none => rfl
    | some o =>
      obtain ⟨u, e1, _⟩ := st p o e
      rw [hp] at e1; cases e1
  refine ⟨sp, E.putS hs (fun a o ha ho => by rw [upd_ne (ne_of_none ho hp)]; exact ho) (fun a ha => ?_) (E.tab.ext (Same.new hp)) (liv_upd _) fun F => ?_⟩
  · rcases sset_some ha with z | z
    · rw [z]; exact .inr hp
    · exact .inl z
  · intro a w hw
    by_cases z : a = p
    · subst z
      rw [sset_same] at hw
      cases hw
      exact ⟨_, upd_same, q.mono F.same⟩
    · rw [sset_ne z] at hw
      obtain ⟨v, h1, h2⟩ := st a w hw
      exact ⟨v, by rw [upd_ne z]; exact h1, h2.mono F.same⟩
/-- a held list is laid into the store -/
theorem EnR.shelve {H0 : Hs} {xs : List V} {ds : List PyData} (E : EnR K J (plus O p) as H ρ σ) (hQ : J.Q O) (hJ : J.P as H0) (hs : ρ[sx]? = some (.st S)) (f : Fr as H0 H) (hn : NewO as H0 p) (np : ¬ O p) (hp : H p = some (.lst xs)) (d : DqAll K (hq (plus O p) as H) xs ds) :
    S p = none ∧ EnR K J O as ⟨H.hp, sset S p (.lst ds)⟩ (ρ.set sx (.st (sset S p (.lst ds)))) σ ∧ Fr as H0 ⟨H.hp, sset S p (.lst ds)⟩ := by
  obtain ⟨a1, e2, st⟩ := E.st_at hs
  have sp : S p = none := by
    cases e : S p with
    | none => rfl
    | some o => exact absurd (.inr rfl) (E.out sx .sto p a1 (by show H.st p ≠ none; rw [← e2, e]; exact Option.some_ne_none _))
  have rg : ∀ r b, Rgn ⟨H.hp, sset S p (.lst ds)⟩ r b → Rgn H r b ∨ (r = .sto ∧ b = p) := fun r b q => by
    cases r with
    | lf a => exact .inl q
    | sto =>
      rcases sset_some q with z | z
      · exact .inr ⟨rfl, z⟩
      · exact .inl (by show H.st b ≠ none; rw [← e2]; exact z)
  have ow : ∀ b, Own as ⟨H.hp, sset S p (.lst ds)⟩ b → Own as H b ∨ b = p := fun b q => by
    rcases q with ⟨i, r, h, q⟩ | q
    · rcases rg r b q with z | z
      · exact .inl (.inl ⟨i, r, h, z⟩)
      · exact .inr z.2
    · exact .inl (.inr q)
  have hS : Same (hq (plus O p) as H) (hq O as ⟨H.hp, sset S p (.lst ds)⟩) := hp_less fun a h => by
    rcases h with h | h
    · exact .inl (.inl h)
    · rcases ow a h with z | z
      · exact .inr z
      · exact .inl (.inr z)
  have F : Fr as H0 ⟨H.hp, sset S p (.lst ds)⟩ := ⟨f.fr, fun a h => by
    rcases ow a h with z | z
    · exact f.new a z
    · rw [z]; exact hn.symm, f.liv, fun h => absurd a1 (h sx)⟩
  have hi : sx < ρ.length := (List.getElem?_eq_some_iff.mp hs).1
  have hl := (E.sto sx a1).1
  refine ⟨sp, ⟨by rw [List.length_set]; exact E.len, fun j sl h1 h2 => ?_, fun j sl o h1 h2 => ?_, fun j h => ?_, fun i j r r' b h1 h2 q1 q2 => ?_, fun j r b h q => ?_, fun j r h => by rw [List.length_set]; exact E.bnd j r h, fun a h => E.occ a (.inl h), J.fr hJ F, hQ, E.tab⟩, F⟩
  · have hj : j < ρ.length := by rw [← List.length_set (as := ρ) (i := sx) (a := Sl.st (sset S p (.lst ds)))]; exact (List.getElem?_eq_some_iff.mp h1).1
    exact E.tl j _ (List.getElem?_eq_getElem hj) h2
  · have : j < σ.length := (List.getElem?_eq_some_iff.mp h2).1
    rw [List.getElem?_set_ne (by omega)] at h1
    exact (E.at_ j sl o h1 h2).mono hS fun _ _ => rfl
  · have ej := (E.sto j h).1
    have : j = sx := by omega
    subst this
    refine ⟨ej, by rw [List.getElem?_set_self hi], fun a o e => ?_⟩
    by_cases z : a = p
    · subst z
      have e : sset S a (.lst ds) a = some o := e
      rw [sset_same] at e
      cases e
      exact ⟨_, hp, .lst (d.mono hS)⟩
    · have e : sset S p (.lst ds) a = some o := e
      rw [sset_ne z] at e
      obtain ⟨u, h1, h2⟩ := st a o e
      exact ⟨u, h1, h2.mono hS⟩
  · rcases rg r b q1 with z1 | ⟨z1, w1⟩
    · rcases rg r' b q2 with z2 | ⟨z2, w2⟩
      · exact E.inj i j r r' b h1 h2 z1 z2
      · exact absurd (.inr w2) (E.out i r b h1 z1)
    · rcases rg r' b q2 with z2 | ⟨z2, w2⟩
      · exact absurd (.inr w1) (E.out j r' b h2 z2)
      · subst z1; subst z2
        have := (E.sto i h1).1
        have := (E.sto j h2).1
        omega
  · rcases rg r b q with z | ⟨_, z⟩
    · exact fun w => E.out j r b h z (.inl w)
    · rw [z]; exact np
end
section
variable {K : PySem.W.Frag} {n : Nat} {J : Jv n} {sx : Nat}
/-- a new list, laid into the store -/
def fNewL (sx : Nat) (f : FA) : FE := fun ρ P => f ρ fun ds ρ1 => stF ρ1 sx fun S => ∀ p, S p = none → P (hdl p) (ρ1.set sx (.st (sset S p (.lst ds))))
theorem re_newL {t : TE} {f : FA} (h : RN K J t f) : RE K J t (fNewL sx f) := by
  intro O as σ H Q ρ P E q k
  refine h O as σ H _ ρ _ E q fun ds ρ1 p xs H1 q1 f1 hn E1 hp d1 => ?_
  obtain ⟨S, hs, q1⟩ := stF_of q1
  obtain ⟨sp, E2, f2⟩ := E1.shelve E.inq E.inv hs f1 hn (E.notO E1 hn hp) hp d1
  exact k _ _ _ ⟨H1.hp, sset S p (.lst ds)⟩ (q1 p sp) f2 E2 .hdl
/-! objects -/
/-- the object at a place of the store -/
def ObjAt (S : Sto) (d : PyData) (c : Str) (fs : List (PyData × PyData)) : Prop := ∃ p, d = hdl p ∧ S p = some (.obj c fs)
/-- an object, of the store or one that stays -/
def ObjU (S : Sto) (d : PyData) (c : Str) (fs : List (PyData × PyData)) : Prop := ObjAt S d c fs ∨ d = .dict ((.str c, .none) :: fs)
def fFldU (sx : Nat) (c f : Str) (a : FE) : FE := fun ρ P => a ρ fun d ρ1 => stF ρ1 sx fun S => ∃ fs v, ObjU S d c fs ∧ fldD f fs = some v ∧ P v ρ1
/-- a field's value put -/
def putD (f : Str) (v : PyData) : List (PyData × PyData) → List (PyData × PyData)
  | [] => [(.str f, v)]
  | (.str g, d) :: r => if g = f then (.str g, v) :: r else (.str g, d) :: putD f v r
  | z :: r => z :: putD f v r
theorem DqFs.put {G : Hp} {f : Str} {v : V} {d : PyData} (q : Dq K G v d) : ∀ {fv : List (Str × V)} {fs : List (PyData × PyData)}, DqFs K G fv fs → DqFs K G (putF f v fv) (putD f d fs)
  | _, _, .nil => .cons q .nil
  | _, _, .cons (f := g) a r => by
    unfold putF putD
    by_cases e : g = f
    · rw [if_pos e, if_pos e]; exact .cons q r
    · rw [if_neg e, if_neg e]; exact .cons a (DqFs.put q r)
theorem DqFs.len {G : Hp} : ∀ {fv : List (Str × V)} {fs : List (PyData × PyData)}, DqFs K G fv fs → fv.length = fs.length
  | _, _, .nil => rfl
  | _, _, .cons _ r => by rw [List.length_cons, List.length_cons, DqFs.len r]
/-- o.f = e -/
def fSetF (sx : Nat) (c f : Str) (a b : FE) : FS := fun E ρ => b ρ fun v ρ1 => a ρ1 fun d ρ2 => stF ρ2 sx fun S => ∃ p fs, d = hdl p ∧ S p = some (.obj c fs) ∧ fs.length < 1000 ∧ E.nx (ρ2.set sx (.st (sset S p (.obj c (putD f v fs)))))
/-- o.f += e (numbers) -/
def fAugF (sx : Nat) (c f : Str) (a b : FE) (h : Int → Int → Int) : FS := fun E ρ => a ρ fun d ρ1 => stF ρ1 sx fun S1 => ∃ p fs i, d = hdl p ∧ S1 p = some (.obj c fs) ∧ fldD f fs = some (.int i) ∧ b ρ1 fun y ρ2 => intF y fun j => stF ρ2 sx fun S => ∃ fs', S p = some (.obj c fs') ∧ fs'.length < 1000 ∧ E.nx (ρ2.set sx (.st (sset S p (.obj c (putD f (.int (h i j)) fs')))))
end
end DL
/-! constructors and methods of things of the store -/
namespace DL
open PySem L2 Z PySem.Spec PyProof.Rows
variable [Tbs]
section
variable {K : PySem.W.Frag} {n : Nat} {J : Jv n} {sx : Nat}
/-- a new instance in the store -/
theorem EnR.newS {O : Addr → Prop} {as : As} {H : Hs} {ρ : En} {σ : L2.St} {S : Sto} {C x dx : Addr} {c : Str} (E : EnR K J O as H ρ σ) (hs : ρ[sx]? = some (.st S)) (hc : PySem.W.nsIn K mainGlobals c = some (some (.ref C))) (hx : H x = none) (hd : H dx = none) (ne : dx ≠ x) :
    S x = none ∧ EnR K J O as ⟨upd (upd H dx (.own x)) x (.ins C dx []), sset S x (.obj c [])⟩ (ρ.set sx (.st (sset S x (.obj c [])))) σ ∧ Fr as H ⟨upd (upd H dx (.own x)) x (.ins C dx []), sset S x (.obj c [])⟩ := by
  have E1 := E.grow (Same.new (o := .own x) hd)
  have f1 := E.frS (Same.new (o := .own x) hd)
  obtain ⟨sp, E2, f2⟩ := E1.addS (p := x) hs (by show upd H dx _ x = none; rw [upd_ne (Ne.symm ne)]; exact hx) (u' := .ins C dx []) (o' := .obj c []) (.obj hc .nil)
  exact ⟨sp, E2, f1.trans f2⟩
/-- C(..), its instance in the store -/
def fMkS (sx : Nat) (c : Str) (m : Nat) (F : FN) (dv : List PyData) (f : FA) : FE := fun ρ P => f ρ fun ds ρ1 => (ds ++ dv).length + 1 = m ∧ stF ρ1 sx fun S => ∀ x, S x = none → F (.fz (hdl x) :: ((ds ++ dv).map .fz ++ [.st (sset S x (.obj c []))])) fun d out => d = .none ∧ P (hdl x) (ρ1.set sx ((out.drop m).headD .no))
def fMkNS (sx : Nat) (c : Str) (l : Nat) (F : FN) (n m : Nat) (gD : List PyData → List PyData → List PyData) (f fk : FA) : FE := fun ρ P => f ρ fun ds ρ1 => fk ρ1 fun es ρ2 => ds.length = n ∧ es.length = m ∧ (gD ds es).length + 1 = l ∧ stF ρ2 sx fun S => ∀ x, S x = none → F (.fz (hdl x) :: ((gD ds es).map .fz ++ [.st (sset S x (.obj c []))])) fun d out => d = .none ∧ P (hdl x) (ρ2.set sx ((out.drop l).headD .no))
/-- the store of a constructor alone -/
def sto1 (x : Addr) (c : Str) : Sto := sset noS x (.obj c [])
/-- C(..), an instance that stays -/
def fMkZ (c : Str) (m : Nat) (F : FN) (dv : List PyData) (f : FA) : FE := fun ρ P => f ρ fun ds ρ1 => (ds ++ dv).length + 1 = m ∧ ∀ x, F (.fz (hdl x) :: ((ds ++ dv).map .fz ++ [.st (sto1 x c)])) fun d out => d = .none ∧ ∃ S' o, out[m]? = some (.st S') ∧ Res S' (hdl x) o ∧ P o ρ1
def fMkNZ (c : Str) (l : Nat) (F : FN) (n m : Nat) (gD : List PyData → List PyData → List PyData) (f fk : FA) : FE := fun ρ P => f ρ fun ds ρ1 => fk ρ1 fun es ρ2 => ds.length = n ∧ es.length = m ∧ (gD ds es).length + 1 = l ∧ ∀ x, F (.fz (hdl x) :: ((gD ds es).map .fz ++ [.st (sto1 x c)])) fun d out => d = .none ∧ ∃ S' o, out[l]? = some (.st S') ∧ Res S' (hdl x) o ∧ P o ρ2
/-! methods -/
/-- o.m(..) of an object that stays -/
def fMeth (c x : Str) (m : Nat) (F : FN) (dv : List PyData) (a : FE) (b : FC) : FE := fun ρ P => a ρ fun d ρ1 => objF c d fun fs => fldD x fs = none ∧ b ρ1 fun xs ρ2 => xs.length + dv.length + 1 = m ∧ (ownIx xs).Nodup ∧ argF ρ2 xs fun r => F (.fz d :: (r ++ dv.map .fz)) fun e out => P e (wb ρ2 xs out.tail)
def fMethW (c x : Str) (m : Nat) (F : FM) (dv : List PyData) (a : FE) (b : FC) : FA := fun ρ P => a ρ fun d ρ1 => objF c d fun fs => fldD x fs = none ∧ b ρ1 fun xs ρ2 => xs.length + dv.length + 1 = m ∧ (ownIx xs).Nodup ∧ argF ρ2 xs fun r => F (.fz d :: (r ++ dv.map .fz)) fun e out => P e (wb ρ2 xs out.tail)
/-- o.m(..) that is handed the store -/
def fMethS (sx : Nat) (c x : Str) (m : Nat) (F : FN) (dv : List PyData) (a : FE) (b : FC) : FE := fun ρ P => a ρ fun d ρ1 => stF ρ1 sx fun S1 => ∃ fs, ObjU S1 d c fs ∧ fldD x fs = none ∧ b ρ1 fun xs ρ2 => xs.length + dv.length + 1 = m ∧ (ownIx xs ++ [sx]).Nodup ∧ argF ρ2 xs fun r => stF ρ2 sx fun S => F (.fz d :: (r ++ dv.map .fz ++ [.st S])) fun e out => P e ((wb ρ2 xs out.tail).set sx ((out.drop m).headD .no))
def fMethWS (sx : Nat) (c x : Str) (m : Nat) (F : FM) (dv : List PyData) (a : FE) (b : FC) : FA := fun ρ P => a ρ fun d ρ1 => stF ρ1 sx fun S1 => ∃ fs, ObjU S1 d c fs ∧ fldD x fs = none ∧ b ρ1 fun xs ρ2 => xs.length + dv.length + 1 = m ∧ (ownIx xs ++ [sx]).Nodup ∧ argF ρ2 xs fun r => stF ρ2 sx fun S => F (.fz d :: (r ++ dv.map .fz ++ [.st S])) fun e out => P e ((wb ρ2 xs out.tail).set sx ((out.drop m).headD .no))
end
end DL
/-! augmented operators; sorted(set(numbers)); defs that hand back data or a new list -/
namespace DL
open PySem L2 Z PySem.Spec PyProof.Rows
variable [Tbs]
section
variable {K : PySem.W.Frag} {n : Nat} {J : Jv n}
/-! augmented operators -/
def fAugR (i : Nat) (g : G2) (a : FE) : FS := fun E ρ => match ρ[i]? with
  | some (.fz x) => a ρ fun y ρ1 => g x y fun d => gN i d ρ1 E.nx
  | _ => False
def oShlW : G2 := o2c CShl fun i j => .int (i * 2 ^ j.toNat)
/-! sorted(set(numbers)) -/
def nSortSet (ds : List PyData) (P : List PyData → Prop) : Prop := one ds fun d => listF d fun es => intsF es fun ns => ns.length < 64 ∧ ∀ ms : List Int, ms.Pairwise (· < ·) → (∀ k, k ∈ ms ↔ k ∈ ns) → P (ms.map .int)
/-! defs that hand back data, or a new list -/
abbrev FU := List Sl → (PyData → List Sl → Prop) → (List PyData → List Sl → Prop) → Prop
abbrev FV' := En → (PyData → En → Prop) → (List PyData → En → Prop) → Prop
def RV (K : PySem.W.Frag) {n : Nat} (J : Jv n) (t : TE) (f : FV') : Prop := ∀ (O : Addr → Prop) (as : As) (σ : L2.St) (H : Hs) (Q : VK) (ρ : En) (P : PyData → En → Prop) (P2 : List PyData → En → Prop), EnR K J O as H ρ σ → f ρ P P2 →
  (∀ d ρ' v H', P d ρ' → Fr as H H' → EnR K J O as H' ρ' σ → Dq K (hq O as H') v d → Q v H') →
  (∀ ds ρ' p xs H', P2 ds ρ' → Fr as H H' → NewO as H p → EnR K J (plus O p) as H' ρ' σ → H' p = some (.lst xs) → DqAll K (hq (plus O p) as H') xs ds → Q (.ref p) H') → t σ H Q
def fnU (n m : Nat) (b : FS) : FU := fun sls P P2 => b { nx := fun ρ' => P .none (ρ'.take n), rt := fun d ρ' => P d (ρ'.take n), ro := fun ds ρ' => P2 ds (ρ'.take n) } (sls ++ List.replicate (m - n) .no)
def fnUS (n m : Nat) (b : FS) : FU := fun sls P P2 => b { nx := fun ρ' => P .none (ρ'.take n ++ ρ'.drop m), rt := fun d ρ' => P d (ρ'.take n ++ ρ'.drop m), ro := fun ds ρ' => P2 ds (ρ'.take n ++ ρ'.drop m) } (sls.take n ++ List.replicate (m - n) .no ++ sls.drop n)
section
variable {P : Program} {w : World} {mg : Str → Option Value} {base : Heap} {k : Nat} {f : Addr} {fd : FuncData} {ps : List Str} {x qual : Str} {st : Stmt} {N : List Str} {b : FS}
end
def fCallU (m : Nat) (F : FU) (dv : List PyData) (a : FC) : FV' := fun ρ P P2 => a ρ fun xs ρ1 => xs.length + dv.length = m ∧ (ownIx xs).Nodup ∧ argF ρ1 xs fun r => F (r ++ dv.map .fz) (fun d out => P d (wb ρ1 xs out)) fun d out => P2 d (wb ρ1 xs out)
/-- what is handed back is stored: data, or a list of its own -/
def fOwnV (i : Nat) (a : FV') : FS := fun E ρ => a ρ (fun d ρ1 => slotF ρ1 i = true ∧ E.nx (ρ1.set i (.fz d))) fun ds ρ1 => slotL ρ1 i = true ∧ E.nx (ρ1.set i (.own ds))
end
end DL
namespace DL
open PySem L2 Z PySem.Spec PyProof.Rows
variable [Tbs]
section
variable {K : PySem.W.Frag} {n : Nat} {J : Jv n}
def fIfN (c : FT) (a b : FA) : FA := fun ρ P => c ρ fun k ρ1 => if k = true then a ρ1 P else b ρ1 P
end
end DL
/-! i, j, l = e, [..], e' by way of the tuple -/
namespace DL
open PySem L2 Z PySem.Spec PyProof.Rows
variable [Tbs]
section
variable {K : PySem.W.Frag} {n : Nat} {J : Jv n}
def fPar3O2 (i j l : Nat) (a : FE) (b : FA) (c : FE) : FS := fun E ρ => a ρ fun d ρ1 => b ρ1 fun ds ρ2 => c ρ2 fun d' ρ3 => gN i d ρ3 fun ρ4 => slotL ρ4 j = true ∧ gN l d' (ρ4.set j (.own ds)) E.nx
/-- a name that holds data, or a list of its own, is handed back -/
def fRetV (i : Nat) : FS := fun E ρ => match ρ[i]? with
  | some (.own _) => fRetO i E ρ
  | _ => fRet (fV i) E ρ
end
end DL
/-! lists of the store: changed by way of a handle -/
namespace DL
open PySem L2 Z PySem.Spec PyProof.Rows
variable [Tbs]
section
variable {K : PySem.W.Frag} {n : Nat} {J : Jv n} {sx : Nat}
theorem EnR.lstS {O : Addr → Prop} {as : As} {H : Hs} {ρ : En} {σ : L2.St} {S : Sto} {p : Addr} {ds : List PyData} (E : EnR K J O as H ρ σ) (hs : ρ[sx]? = some (.st S)) (e : S p = some (.lst ds)) : ∃ xs, H p = some (.lst xs) ∧ DqAll K (hq O as H) xs ds := by
  obtain ⟨u, e1, r⟩ := E.getS hs e
  cases r with
  | lst q => exact ⟨_, e1, q⟩
/-- h[k] = e -/
def gSubH (sx : Nat) (a b : FE) : FG := fun d ρ P => a ρ fun x ρ1 => b ρ1 fun k ρ2 => intF k fun k => stF ρ2 sx fun S => ∃ p ds j, x = hdl p ∧ S p = some (.lst ds) ∧ ixN ds.length k = some j ∧ P (ρ2.set sx (.st (sset S p (.lst (ds.set j d)))))
/-- h[k] += e -/
def fAugH (sx : Nat) (a b e : FE) (h : Int → Int → Int) : FS := fun E ρ => a ρ fun x ρ1 => b ρ1 fun k ρ2 => intF k fun k => stF ρ2 sx fun S => ∃ p ds c, x = hdl p ∧ S p = some (.lst ds) ∧ atI ds k = some (.int c) ∧ e ρ2 fun y ρ3 => intF y fun y => stF ρ3 sx fun S' => ∃ es j, S' p = some (.lst es) ∧ ixN es.length k = some j ∧ E.nx (ρ3.set sx (.st (sset S' p (.lst (es.set j (.int (h c y)))))))
/-- h.append(e) -/
def fAppH (sx : Nat) (a e : FE) : FS := fun E ρ => a ρ fun x ρ1 => stF ρ1 sx fun S => ∃ p ds, x = hdl p ∧ S p = some (.lst ds) ∧ e ρ1 fun d ρ2 => stF ρ2 sx fun S' => ∃ es, S' p = some (.lst es) ∧ es.length < sizeLine ∧ E.nx (ρ2.set sx (.st (sset S' p (.lst (es ++ [d])))))
theorem rs_appH {ta te : TE} {a e : FE} (ha : RE K J ta a) (he : RE K J te e) : RS K J (tDrop (tBM K "list" rAppend ta (tCons te tNil))) (fAppH sx a e) := by
  intro O as σ H D ρ E R f C
  refine ha O as σ H _ ρ _ R f fun x ρ1 w H1 q1 f1 E1 d1 => ?_
  obtain ⟨S, hs, p, ds, rfl, e0, q1⟩ := stF_of q1
  obtain ⟨xs, e1, qx⟩ := E1.lstS hs e0
  rw [d1.hdl_of]
  refine ⟨.inl ⟨rfl, _, SqL.of e1⟩, ?_⟩
  refine he O as σ H1 _ ρ1 _ E1 q1 fun d ρ2 v H2 q2 f2 E2 d2 => ?_
  obtain ⟨S', hs', es, e', l, q2⟩ := stF_of q2
  obtain ⟨ys, e1', qy⟩ := E2.lstS hs' e'
  refine ⟨p, ys, v, rfl, rfl, e1', by rw [qy.length]; exact l, ?_⟩
  obtain ⟨E3, f3⟩ := E2.setS hs' e' (u' := .lst (ys ++ [v])) (o' := .lst (es ++ [d])) (.lst (qy.append (.cons d2 .nil)))
  exact C.nx _ _ _ _ q2 (.of ((f1.trans f2).trans f3)) E3
/-- a handle's list read as a value: h[k] -/
def fIxH (sx : Nat) (a b : FE) : FE := fun ρ P => a ρ fun x ρ1 => b ρ1 fun k ρ2 => intF k fun k => stF ρ2 sx fun S => ∃ p ds d, x = hdl p ∧ S p = some (.lst ds) ∧ atI ds k = some d ∧ P d ρ2
theorem re_ixH {ta ti : TE} {a b : FE} (ha : RE K J ta a) (hb : RE K J ti b) : RE K J (tOp (rIxL K) ta ti) (fIxH sx a b) := by
  intro O as σ H Q ρ P E f k
  refine ha O as σ H _ ρ _ E f fun x ρ1 w H1 q1 f1 E1 d1 => ?_
  refine hb O as σ H1 _ ρ1 _ E1 q1 fun y ρ2 w2 H2 q2 f2 E2 d2 => ?_
  unfold intF at q2
  split at q2
  · next z =>
    cases d2
    obtain ⟨S, hs, p, ds, c, rfl, e0, hc, q2⟩ := stF_of q2
    obtain ⟨xs, e1, qx⟩ := E2.lstS hs e0
    rw [d1.hdl_of]
    obtain ⟨u, hu, du⟩ := qx.atI hc
    exact ⟨p, xs, z, _, rfl, rfl, SqL.of e1, hu, k _ _ _ _ q2 (f1.trans f2) E2 du⟩
  · exact q2.elim
/-- len(h) -/
def fLenH (sx : Nat) (a : FE) : FE := fun ρ P => a ρ fun x ρ1 => stF ρ1 sx fun S => ∃ p ds, x = hdl p ∧ S p = some (.lst ds) ∧ P (.int ds.length) ρ1
/-- a statement that is never reached -/
def fNo : FS := fun _ _ => False
end
end DL
/-! sets of texts: set(xs), sorted(set(xs)) -/
namespace DL
open PySem L2 Z PySem.Spec PyProof.Rows
/-- the text of a member -/
def txtOf : Int × Value → Str
  | (_, .str z _) => z
  | _ => Str.ofString ""
def TxtE (w : World) (m : Int × Value) : Prop := ∃ z u, m = (hashStr w z, Value.str z u)
structure SetTOk (w : World) (ms : Array (Int × Value)) (tb : SetTable) (S : Str → Bool) (n : Nat) : Prop where
  good : ∀ m ∈ ms.toList, TxtE w m
  nd : (ms.toList.map txtOf).Nodup
  mem : ∀ z, S z = true ↔ z ∈ ms.toList.map txtOf
  small : ms.size < scanBound
  fits : tb.fits ms.size = true
  len : ms.size = n
  ris : Ris tb.place.toList
  led : w.params.followText "set-order" = true ∨ tb.led = true
def SetT (w : World) (h : Heap) (a : Addr) (S : Str → Bool) (n : Nat) : Prop := ∃ o ms ep tb, h.get? a = some o ∧ o.ExactSet ∧ o.data = .set ms ep tb ∧ SetTOk w ms tb S n
section
variable {P : Program} {w : World} {h h' : Heap} {a : Addr} {S : Str → Bool} {n : Nat}
theorem SetT.keep (R : SetT w h a S n) (k : ∀ o, h.get? a = some o → h'.get? a = some o) : SetT w h' a S n := R.imp fun o r => r.imp fun _ r => r.imp fun _ r => r.imp fun _ r => ⟨k o r.1, r.2⟩
theorem SetT.eqv {S' : Str → Bool} (R : SetT w h a S n) (e : ∀ z, S' z = S z) : SetT w h a S' n := by rw [show S' = S from funext e]; exact R
end
section
variable {P : Program} {w : World} {A : Around} {E : Value → Shared → Prop} {s : Shared} {a : Addr} {S : Str → Bool} {n : Nat}
end
end DL
/-! set(xs) of texts, sorted(set(xs)) -/
namespace DL
open PySem L2 Z PySem.Spec PyProof.Rows
variable [Tbs]
section
variable {P : Program} {w : World} {A : Around} {E : Value → Shared → Prop} {s : Shared}
theorem strs_of : ∀ l : List Value, (∀ v ∈ l, ∃ z u, v = Value.str z u) → ∃ zs : List Str, StrsAre l zs ∧ ∀ (f : Value → Str), (∀ z u, f (.str z u) = z) → zs = l.map f
  | [], _ => ⟨[], .nil, fun _ _ => rfl⟩
  | v :: l, h => by
    obtain ⟨z, u, rfl⟩ := h v List.mem_cons_self
    obtain ⟨zs, h1, h2⟩ := strs_of l fun x hx => h x (List.mem_cons_of_mem _ hx)
    exact ⟨z :: zs, .cons z u h1, fun f hf => by rw [List.map_cons, hf, h2 f hf]⟩
end
section
variable {X : Cx}
end
/-! over data -/
section
variable {K : PySem.W.Frag} {n : Nat} {J : Jv n}
def nSortSetT (ds : List PyData) (P : List PyData → Prop) : Prop := one ds fun d => listF d fun es => strsF es fun zs => zs.length < 64 ∧ ∀ ms : List Str, sortedS ms = true → ms.Nodup → (∀ z, z ∈ ms ↔ z ∈ zs) → P (ms.map .str)
end
end DL
/-! marked tuples (no dict of their own): tuple(xs), t.count(x), t.index(x) -/
namespace DL
open PySem L2 Z PySem.Spec PyProof.Rows
variable [Tbs]
section
variable {X : Cx}
variable {o e : Expr} {es : List Expr} {to : TE} {t : TA} {name : Str} {apos cpos : Pos} {id : String} {r : V → List V → Hp → VK → Prop}
end
end DL
/-! marked tuples over data -/
namespace DL
open PySem L2 Z PySem.Spec PyProof.Rows
variable [Tbs]
section
variable {X : Cx}
end
section
variable {K : PySem.W.Frag} {n : Nat} {J : Jv n}
/-- the mark taken off -/
def unT : PyData → PyData
  | .dict [(.bool false, .tuple ds)] => .tuple ds
  | d => d
def tnF (d : PyData) (k : List PyData → Prop) : Prop := match d with
  | .dict [(.bool false, .tuple ds)] => k ds
  | _ => False
theorem Dq.tn_of {G : Hp} {v : V} {ds : List PyData} (q : Dq K G v (tnD ds)) : ∃ a o xs, v = .ref a ∧ G a = some (.frz o (.tup xs)) ∧ o.dict = none ∧ DqAll K G xs ds := by
  unfold tnD at q
  generalize e : PyData.dict [(PyData.bool false, PyData.tuple ds)] = d at q
  cases q <;> first | (cases e; done) | skip
  next a o xs ds' h n r =>
    unfold tnD at e
    cases e
    exact ⟨a, o, xs, rfl, h, n, r⟩
theorem SqT.frz {G : Hp} {a : Addr} {o : PySem.Obj} {xs : List V} (h : G a = some (.frz o (.tup xs))) : SqT K G a xs := .inl (.inr ⟨o, h⟩)
theorem Dq.un {G : Hp} {v : V} {d : PyData} (q : Dq K G v d) : Dq K G v (unT d) := by
  unfold unT
  split
  · next ds =>
    obtain ⟨a, o, xs, rfl, h, _, r⟩ := Dq.tn_of (ds := ds) q
    exact .tup (SqT.frz h) r
  · exact q
def fUnT (a : FE) : FE := fun ρ P => a ρ fun d ρ1 => P (unT d) ρ1
/-- tuple(xs), marked -/
def fTupN (a : FE) : FE := fun ρ P => a ρ fun d ρ1 => match d with
  | .list es => P (tnD es) ρ1
  | .dict [(.bool false, .tuple es)] => P (tnD es) ρ1
  | _ => False
/-- t.count(x) -/
def fCntT (a b : FE) : FE := fun ρ P => a ρ fun x ρ1 => tnF x fun ds => b ρ1 fun d ρ2 => SeqAt.shaped (.tuple ds) = true ∧ SeqAt.shaped d = true ∧ d.depth < 63 ∧ P (.int (ds.countP fun z => PyData.eqv z d : Nat)) ρ2
/-- t.index(x) -/
def fIdxT (a b : FE) : FE := fun ρ P => a ρ fun x ρ1 => tnF x fun ds => b ρ1 fun d ρ2 => SeqAt.shaped (.tuple ds) = true ∧ SeqAt.shaped d = true ∧ d.depth < 63 ∧ ∃ (j : Nat) (z : PyData), ds[j]? = some z ∧ PyData.eqv z d = true ∧ (∀ (m : Nat) (z' : PyData), m < j → ds[m]? = some z' → PyData.eqv z' d = false) ∧ P (.int (j : Nat)) ρ2
end
end DL
/-! marks taken off, however deep -/
namespace DL
open PySem L2 Z PySem.Spec PyProof.Rows
variable [Tbs]
mutual
def unD : PyData → PyData
  | .list ds => .list (unAll ds)
  | .tuple ds => .tuple (unAll ds)
  | .dict [(.bool false, .tuple ds)] => .tuple (unAll ds)
  | d => d
def unAll : List PyData → List PyData
  | [] => []
  | d :: r => unD d :: unAll r
end
section
variable {K : PySem.W.Frag} {n : Nat} {J : Jv n} {G : Hp}
mutual
theorem Dq.deep : ∀ {v : V} {d : PyData}, Dq K G v d → Dq K G v (unD d)
  | _, _, .non => by rw [unD] <;> first | exact .non | (intros; contradiction)
  | _, _, .bl b => by rw [unD] <;> first | exact .bl b | (intros; contradiction)
  | _, _, .int i => by rw [unD] <;> first | exact .int i | (intros; contradiction)
  | _, _, .str x => by rw [unD] <;> first | exact .str x | (intros; contradiction)
  | _, _, .lst h r => by rw [unD]; exact .lst h (DqAll.deep r)
  | _, _, .tup h r => by rw [unD]; exact .tup h (DqAll.deep r)
  | _, _, .obj c h r => by rw [unD] <;> first | exact .obj c h r | (intros; simp_all)
  | _, _, .exc c h g r => by rw [unD] <;> first | exact .exc c h g r | (intros; simp_all)
  | _, _, .fnc h => by rw [unD] <;> first | exact .fnc h | (intros; simp_all)
  | _, _, .hdl => by unfold hdl; rw [unD] <;> first | exact .hdl | (intros; simp_all)
  | _, _, .tn h _ r => by unfold tnD; rw [unD]; exact .tup (SqT.frz h) (DqAll.deep r)
  | _, _, .dct h r => by unfold dctD; rw [unD] <;> first | exact .dct h r | (intros; simp_all)
theorem DqAll.deep : ∀ {v : List V} {d : List PyData}, DqAll K G v d → DqAll K G v (unAll d)
  | _, _, .nil => by rw [unAll]; exact .nil
  | _, _, .cons a r => by rw [unAll]; exact .cons (Dq.deep a) (DqAll.deep r)
end
def fUnD (a : FE) : FE := fun ρ P => a ρ fun d ρ1 => P (unD d) ρ1
end
end DL
/-! own == e, own != e, marks taken off -/
namespace DL
open PySem L2 Z PySem.Spec PyProof.Rows
variable [Tbs]
section
variable {K : PySem.W.Frag} {n : Nat} {J : Jv n}
def fEqOU (h : Bool → Bool) (i : Nat) (b : FE) : FE := fun ρ P => ownF ρ i fun _ => b ρ fun y ρ1 => ownF ρ1 i fun ds => SeqAt.shaped (.list (unAll ds)) = true ∧ SeqAt.shaped y = true ∧ P (.bool (h (PyData.eqv (.list (unAll ds)) y))) ρ1
end
end DL
/-! enumerate of a list or a tuple -/
namespace EM
open PySem PySem.Spec PyProof.Rows L2 ZM
set_option maxHeartbeats 1000000 in
theorem meets_enum1 {v : Value} {o : Obj} {Z : Heap → Prop} (B : Begins v o Z) :
    Meets (Builtin.«enumerate.__new__» ⟨[.type "enumerate", v], []⟩) (fun _ R s => Z s.heap ∧
      R (.ok (.ret (.ref (s.heap.push o).objs.size))) { s with heap := (s.heap.push o).push { cls := .type "enumerate", data := .fields #[.none, .bool false, .ref s.heap.objs.size, rawInt 0, .none, .none] } }) :=
  .of_wp fun prog w A R s h => by
    obtain ⟨hp, g, d, tk, os⟩ := s; obtain ⟨h1, h⟩ := h
    have hsub := sub_enumerate
    have q1 : ∀ {A' : Around} {E : Value → Shared → Prop} {Q : Value → Shared → Prop}, Q (.ref hp.objs.size) ⟨hp.push o, g, d, tk, os⟩ → wpAny (model prog w) A' (pyIter v) Q E ⟨hp, g, d, tk, os⟩ :=
      fun q => B.iter prog w _ _ ⟨hp, g, d, tk, os⟩ _ h1 q
    wp_walk using q1
    refine wpAny_stack_any fun st => wpAny_pure ?_
    split
    · rename_i c _ _ _ _ _
      cases (c == Value.type "enumerate")
      · wp_walk using q1
        exact ⟨_, rfl, h⟩
      · wp_walk using q1
        exact ⟨_, rfl, h⟩
    · wp_walk using q1
      exact ⟨_, rfl, h⟩
end EM
/-! enumerate of a list or a tuple: the call -/
namespace EM
open PySem PySem.Spec PyProof.Rows L2 ZM
section
variable {prog : Program} {w : World} {A : Around} {E : Value → Shared → Prop} {s : Shared}
end
end EM
/-! enumerate of a list or a tuple: its turns -/
namespace EM
open PySem PySem.Spec PyProof.Rows L2 ZM
end EM
namespace DL
open PySem L2 Z PySem.Spec PyProof.Rows
variable [Tbs]
section
variable {K : PySem.W.Frag} {n : Nat} {J : Jv n}
def iEM (f : FA) : FA := fun ρ P => f ρ fun ds ρ1 => match ds with
  | [x] => seqF x fun es => P (enumD es) ρ1
  | _ => False
end
end DL
/-! dicts of the store, by handles -/
namespace DL
open PySem L2 Z PySem.Spec PyProof.Rows
variable [Tbs]
/-- a key, by data -/
def keyF (d : PyData) (k : L2.Key → Prop) : Prop := match d with
  | .int i => k (.inl i)
  | .str x => k (.inr x)
  | _ => False
abbrev Kvs := List (L2.Key × PyData)
def valD (kd : Kvs) (k : L2.Key) : Option PyData := (kd.find? fun kv => decide (kv.1 = k)).map (·.2)
/-- in its place, or at the end -/
def putE (kd : Kvs) (k : L2.Key) (d : PyData) : Kvs := if (valD kd k).isSome = true then kd.map (fun kv => if kv.1 = k then (kv.1, d) else kv) else kd ++ [(k, d)]
def dropE (kd : Kvs) (k : L2.Key) : Kvs := kd.filter fun kv => decide (kv.1 ≠ k)
theorem valD_pos {p : L2.Key × PyData} {r : Kvs} {k : L2.Key} (e : p.1 = k) : valD (p :: r) k = some p.2 := by simp [valD, List.find?_cons, e]
theorem valD_neg {p : L2.Key × PyData} {r : Kvs} {k : L2.Key} (e : ¬ p.1 = k) : valD (p :: r) k = valD r k := by simp [valD, List.find?_cons, e]
section
variable {K : PySem.W.Frag} {n : Nat} {J : Jv n} {sx : Nat} {G : Hp}
theorem keyF_of {v : V} {d : PyData} {k : L2.Key → Prop} (q : Dq K G v d) (h : keyF d k) : ∃ y, v = L2.kV y ∧ k y := by
  unfold keyF at h
  split at h
  · cases q; exact ⟨.inl _, rfl, h⟩
  · cases q; exact ⟨.inr _, rfl, h⟩
  · exact h.elim
theorem DqKs.val : ∀ {kv : List (L2.Key × V)} {kd : Kvs}, DqKs K G kv kd → ∀ k, (∃ v d, L2.valV kv k = some v ∧ valD kd k = some d ∧ Dq K G v d) ∨ (L2.valV kv k = none ∧ valD kd k = none)
  | _, _, .nil, k => .inr ⟨rfl, rfl⟩
  | _, _, .cons (k := j) a r, k => by
    by_cases e : j = k
    · exact .inl ⟨_, _, valV_pos e, valD_pos e, a⟩
    · rw [valV_neg e, valD_neg e]
      exact DqKs.val r k
theorem DqKs.len : ∀ {kv : List (L2.Key × V)} {kd : Kvs}, DqKs K G kv kd → kv.length = kd.length
  | _, _, .nil => rfl
  | _, _, .cons _ r => by rw [List.length_cons, List.length_cons, DqKs.len r]
theorem DqKs.app : ∀ {kv : List (L2.Key × V)} {kd : Kvs} {kw : List (L2.Key × V)} {ke : Kvs}, DqKs K G kv kd → DqKs K G kw ke → DqKs K G (kv ++ kw) (kd ++ ke)
  | _, _, _, _, .nil, h => h
  | _, _, _, _, .cons a r, h => .cons a (DqKs.app r h)
theorem DqKs.mapPut {k : L2.Key} {v : V} {d : PyData} (q : Dq K G v d) : ∀ {kv : List (L2.Key × V)} {kd : Kvs}, DqKs K G kv kd → DqKs K G (kv.map fun z => if z.1 = k then (z.1, v) else z) (kd.map fun z => if z.1 = k then (z.1, d) else z)
  | _, _, .nil => .nil
  | _, _, .cons (k := j) a r => by
    rw [List.map_cons, List.map_cons]
    by_cases e : j = k
    · rw [if_pos e, if_pos e]; exact .cons q (DqKs.mapPut q r)
    · rw [if_neg e, if_neg e]; exact .cons a (DqKs.mapPut q r)
theorem DqKs.put {k : L2.Key} {v : V} {d : PyData} {kv : List (L2.Key × V)} {kd : Kvs} (h : DqKs K G kv kd) (q : Dq K G v d) : DqKs K G (L2.putK kv k v) (putE kd k d) := by
  unfold L2.putK putE
  rw [L2.valV_any]
  rcases h.val k with ⟨w, c, e1, e2, _⟩ | ⟨e1, e2⟩
  · rw [e1, e2]
    exact h.mapPut q
  · rw [e1, e2]
    exact h.app (.cons q .nil)
theorem DqKs.drop {k : L2.Key} : ∀ {kv : List (L2.Key × V)} {kd : Kvs}, DqKs K G kv kd → DqKs K G (L2.dropK kv k) (dropE kd k)
  | _, _, .nil => .nil
  | _, _, .cons (k := j) (v := v) (d := d) (kv := kv) (kd := kd) a r => by
    show DqKs K G (((j, v) :: kv).filter _) (((j, d) :: kd).filter _)
    rw [List.filter_cons, List.filter_cons]
    split
    · exact .cons a (DqKs.drop r)
    · exact DqKs.drop r
theorem EnR.dctS {O : Addr → Prop} {as : As} {H : Hs} {ρ : En} {σ : L2.St} {S : Sto} {p : Addr} {kd : Kvs} (E : EnR K J O as H ρ σ) (hs : ρ[sx]? = some (.st S)) (e : S p = some (.dct kd)) : ∃ kv, H p = some (.dK kv) ∧ DqKs K (hq O as H) kv kd := by
  obtain ⟨u, e1, r⟩ := E.getS hs e
  cases r with
  | dct q => exact ⟨_, e1, q⟩
/-- {} -/
def fDNew (sx : Nat) : FE := fun ρ P => stF ρ sx fun S => ∀ p, S p = none → P (hdl p) (ρ.set sx (.st (sset S p (.dct []))))
theorem re_dnew : RE K J tDNewK (fDNew sx) := by
  intro O as σ H Q ρ P E q k p hp
  obtain ⟨S, hs, q⟩ := stF_of q
  obtain ⟨sp, E2, f2⟩ := E.addS hs hp (u' := .dK []) (o' := .dct []) (.dct .nil)
  exact k _ _ _ ⟨upd H p (.dK []), _⟩ (q p sp) f2 E2 .hdl
/-- d[k] -/
def fDGet (sx : Nat) (a b : FE) : FE := fun ρ P => a ρ fun x ρ1 => b ρ1 fun y ρ2 => keyF y fun k => stF ρ2 sx fun S => ∃ p kd d, x = hdl p ∧ S p = some (.dct kd) ∧ valD kd k = some d ∧ P d ρ2
/-- k in d, k not in d -/
def fDIn (neg : Bool) (sx : Nat) (b a : FE) : FE := fun ρ P => b ρ fun y ρ1 => a ρ1 fun x ρ2 => keyF y fun k => stF ρ2 sx fun S => ∃ p kd, x = hdl p ∧ S p = some (.dct kd) ∧ P (.bool (if neg then !(valD kd k).isSome else (valD kd k).isSome)) ρ2
/-- d[k] = e -/
def fDPut (sx : Nat) (a b c : FE) : FS := fun E ρ => c ρ fun d ρ1 => a ρ1 fun x ρ2 => b ρ2 fun y ρ3 => keyF y fun k => stF ρ3 sx fun S => ∃ p kd, x = hdl p ∧ S p = some (.dct kd) ∧ kd.length < sizeLine ∧ E.nx (ρ3.set sx (.st (sset S p (.dct (putE kd k d)))))
/-- d[k] += e (numbers) -/
def fDAug (sx : Nat) (a b c : FE) (h : Int → Int → Int) : FS := fun E ρ => a ρ fun x ρ1 => b ρ1 fun y ρ2 => keyF y fun k => stF ρ2 sx fun S => ∃ p kd i, x = hdl p ∧ S p = some (.dct kd) ∧ valD kd k = some (.int i) ∧ c ρ2 fun d ρ3 => intF d fun j => stF ρ3 sx fun S' => ∃ kd', S' p = some (.dct kd') ∧ kd'.length < sizeLine ∧ E.nx (ρ3.set sx (.st (sset S' p (.dct (putE kd' k (.int (h i j)))))))
/-- d.get(k), d.get(k, x) -/
def fDGet1 (sx : Nat) (a b : FE) : FE := fun ρ P => a ρ fun x ρ1 => stF ρ1 sx fun S1 => ∃ p kd1, x = hdl p ∧ S1 p = some (.dct kd1) ∧ b ρ1 fun y ρ2 => keyF y fun k => stF ρ2 sx fun S => ∃ kd, S p = some (.dct kd) ∧ P ((valD kd k).getD .none) ρ2
def fDGet2 (sx : Nat) (a b c : FE) : FE := fun ρ P => a ρ fun x ρ1 => stF ρ1 sx fun S1 => ∃ p kd1, x = hdl p ∧ S1 p = some (.dct kd1) ∧ b ρ1 fun y ρ2 => keyF y fun k => c ρ2 fun d ρ3 => stF ρ3 sx fun S => ∃ kd, S p = some (.dct kd) ∧ P ((valD kd k).getD d) ρ3
/-- len(d) -/
def fDLen (sx : Nat) (a : FE) : FE := fun ρ P => a ρ fun x ρ1 => stF ρ1 sx fun S => ∃ p kd, x = hdl p ∧ S p = some (.dct kd) ∧ P (.int (kd.length : Nat)) ρ1
end
end DL
/-! methods by keywords; len(o) by an own __len__; len(range(e)) -/
namespace DL
open PySem L2 Z PySem.Spec PyProof.Rows
variable [Tbs]
section
variable {X : Cx} {CX : CXT} {k n : Nat} {f C : Addr} {fd : FuncData} {ps ks : List Str} {sp : Sp} {E : XK} {m : Str} {pos apos : Pos} {o e : Expr} {es : List Expr} {kws : List Keyword} {ta : TE} {t tk : TA} {g : List Value → List Value → List Value} {gV : List V → List V → List V}
/-! len(o) -/
end
/-! len(range(e)) -/
section
variable {X : Cx}
end
section
variable {K : PySem.W.Frag} {n : Nat} {J : Jv n} {sx : Nat}
def fLenRng (a : FE) : FE := fun ρ P => a ρ fun d ρ1 => intF d fun j => 0 ≤ j ∧ j < 9223372036854775808 ∧ P (.int j) ρ1
/-- len(o), o that stays -/
def fLenX (c : Str) (F : FN) (a : FE) : FE := fun ρ P => a ρ fun d ρ1 => objF c d fun _ => F [.fz d] fun e _ => intF e fun i => 0 ≤ i ∧ i < 9223372036854775808 ∧ P (.int i) ρ1
/-- o.m(.., k = v, ..), o that stays -/
def fMethN (c x : Str) (l : Nat) (F : FN) (nn mm : Nat) (gD : List PyData → List PyData → List PyData) (a : FE) (f fk : FA) : FE := fun ρ P => a ρ fun d ρ1 => objF c d fun fs => fldD x fs = none ∧ f ρ1 fun ds ρ2 => fk ρ2 fun es ρ3 => ds.length = nn ∧ es.length = mm ∧ (gD ds es).length + 1 = l ∧ F (.fz d :: (gD ds es).map .fz) fun e _ => P e ρ3
/-- o.m(.., k = v, ..) that is handed the store -/
def fMethNS (sx : Nat) (c x : Str) (l : Nat) (F : FN) (nn mm : Nat) (gD : List PyData → List PyData → List PyData) (a : FE) (f fk : FA) : FE := fun ρ P => a ρ fun d ρ1 => stF ρ1 sx fun S1 => ∃ fs, ObjU S1 d c fs ∧ fldD x fs = none ∧ f ρ1 fun ds ρ2 => fk ρ2 fun es ρ3 => ds.length = nn ∧ es.length = mm ∧ (gD ds es).length + 1 = l ∧ stF ρ3 sx fun S => F (.fz d :: ((gD ds es).map .fz ++ [.st S])) fun e out => P e (ρ3.set sx ((out.drop l).headD .no))
end
end DL
/-! a call with a store of its own -/
namespace DL
open PySem L2 Z PySem.Spec PyProof.Rows
variable [Tbs]
section
variable {K : PySem.W.Frag} {n : Nat} {J : Jv n}
/-- f(..), f handed a store of its own -/
def fCallZ (m : Nat) (F : FN) (dv : List PyData) (f : FA) : FE := fun ρ P => f ρ fun ds ρ1 => (ds ++ dv).length = m ∧ F ((ds ++ dv).map .fz ++ [.st noS]) fun d out => ∃ S' o, out[m]? = some (.st S') ∧ Res S' d o ∧ P o ρ1
end
end DL
/-! a dict of the store walked by a comprehension, locked meanwhile -/
namespace DL
open PySem L2 Z PySem.Spec PyProof.Rows
variable [Tbs]
section
variable {K : PySem.W.Frag} {n : Nat} {J : Jv n} {sx : Nat}
theorem DqAll.by {G G' : Hp} (T : ∀ v d, Dq K G v d → Dq K G' v d) : ∀ {v : List V} {d : List PyData}, DqAll K G v d → DqAll K G' v d
  | _, _, .nil => .nil
  | _, _, .cons a b => .cons (T _ _ a) (DqAll.by T b)
def sdel (S : Sto) (p : Addr) : Sto := fun a => if a = p then none else S a
/-- the keys of the dict in slot i -/
def iKs (i : Nat) (p : Addr) (ks : List PyData) : FA := fun ρ P => ρ[i]? = some (.fz (hdl p)) ∧ P ks ρ
/-- [.. for k in d], the dict in slot i -/
def fLckLc (sx i : Nat) (g : FG) (ft : FT) (fe : FE) (vs : List Nat) : FA := fun ρ P => ∃ p S kd, ρ[i]? = some (.fz (hdl p)) ∧ ρ[sx]? = some (.st S) ∧ S p = some (.dct kd) ∧
  fLc (iKs i p (kd.map fun z => keyD z.1)) g ft fe vs (ρ.set sx (.st (sdel S p))) fun ds ρ' => stF ρ' sx fun S' => P ds (ρ'.set sx (.st (sset S' p (.dct kd))))
end
end DL
/-! list(range(e)) -/
namespace DL
open PySem L2 Z PySem.Spec PyProof.Rows
variable [Tbs]
section
variable {X : Cx}
end
section
variable {K : PySem.W.Frag} {n : Nat} {J : Jv n}
def fLstRng (a : FE) : FA := fun ρ P => a ρ fun d ρ1 => intF d fun j => 0 ≤ j ∧ j ≤ 16777216 ∧ P (rangeD 0 j.toNat) ρ1
end
end DL
/-! str of any data -/
namespace DL
open PySem L2 Z PySem.Spec PyProof.Rows
variable [Tbs]
section
variable {X : Cx}
end
section
variable {K : PySem.W.Frag}
def gOr (g1 g2 : List PyData → (PyData → Prop) → Prop) : List PyData → (PyData → Prop) → Prop := fun ds P => g1 ds P ∨ g2 ds P
end
end DL
/-! own.extend(e), e being any list that is data -/
namespace DL
open PySem L2 Z PySem.Spec PyProof.Rows
variable [Tbs]
section
variable {X : Cx}
end
section
variable {K : PySem.W.Frag} {n : Nat} {J : Jv n}
/-- own.extend(e) -/
def fExtD (i : Nat) (a : FE) : FS := fun E ρ => ownF ρ i fun _ => a ρ fun d ρ1 => listF d fun es => ownF ρ1 i fun ds => ds.length + es.length ≤ sizeLine ∧ E.nx (ρ1.set i (.own (ds ++ es)))
end
end DL
/-! {k: e}, a dict of the store with one pair -/
namespace DL
open PySem L2 Z PySem.Spec PyProof.Rows
variable [Tbs]
section
variable {K : PySem.W.Frag} {n : Nat} {J : Jv n} {sx : Nat}
/-- the dict stands empty while key and thing are made -/
def fDisp1 (sx : Nat) (a b : FE) : FE := fun ρ P => stF ρ sx fun S => ∀ p, S p = none → a (ρ.set sx (.st (sset S p (.dct [])))) fun x ρ1 => keyF x fun k => b ρ1 fun d ρ2 => stF ρ2 sx fun S2 => S2 p = some (.dct []) ∧ P (hdl p) (ρ2.set sx (.st (sset S2 p (.dct [(k, d)]))))
end
end DL
/-! [.. for k, v in d.items()], d in a slot, locked meanwhile -/
namespace DL
open PySem L2 Z PySem.Spec PyProof.Rows
variable [Tbs]
section
variable {K : PySem.W.Frag} {n : Nat} {J : Jv n} {sx : Nat}
def itemsD (kd : Kvs) : List PyData := kd.map fun z => .tuple [keyD z.1, z.2]
/-- [.. for k, v in d.items()], the dict in slot i -/
def fLckIt (sx i : Nat) (g : FG) (ft : FT) (fe : FE) (vs : List Nat) : FA := fun ρ P => ∃ p S kd, ρ[i]? = some (.fz (hdl p)) ∧ ρ[sx]? = some (.st S) ∧ S p = some (.dct kd) ∧
  fLc (iKs i p (itemsD kd)) g ft fe vs (ρ.set sx (.st (sdel S p))) fun ds ρ' => stF ρ' sx fun S' => P ds (ρ'.set sx (.st (sset S' p (.dct kd))))
end
end DL
/-! dict(e), e being a list of pairs -/
namespace DL
open PySem L2 Z PySem.Spec PyProof.Rows
variable [Tbs]
section
variable {K : PySem.W.Frag} {n : Nat} {J : Jv n} {sx : Nat}
def mergeE (kd more : Kvs) : Kvs := more.foldl (fun acc kv => putE acc kv.1 kv.2) kd
theorem DqKs.merge {G : Hp} {mv : List (L2.Key × V)} {md : Kvs} (r : DqKs K G mv md) : ∀ {kv : List (L2.Key × V)} {kd : Kvs}, DqKs K G kv kd → DqKs K G (L2.mergeK kv mv) (mergeE kd md) := by
  refine DqKs.ind (M := fun mv md => ∀ {kv : List (L2.Key × V)} {kd : Kvs}, DqKs K G kv kd → DqKs K G (L2.mergeK kv mv) (mergeE kd md)) ?_ ?_ r
  · intro kv kd h; exact h
  · intro _ _ _ _ _ a r ih kv kd h; exact ih (h.put a)
def pairsF : List PyData → (Kvs → Prop) → Prop
  | [], k => k []
  | .tuple [x, d] :: r, k => keyF x fun y => pairsF r fun kd => k ((y, d) :: kd)
  | _ :: _, _ => False
def fDictP (sx : Nat) (f : FE) : FE := fun ρ P => f ρ fun x ρ1 => listF x fun es => pairsF es fun kd => stF ρ1 sx fun S => ∀ p, S p = none → P (hdl p) (ρ1.set sx (.st (sset S p (.dct (mergeE [] kd)))))
end
end DL
/-! list(d), the keys of a dict of the store as a new list -/
namespace DL
open PySem L2 Z PySem.Spec PyProof.Rows
variable [Tbs]
section
variable {K : PySem.W.Frag} {n : Nat} {J : Jv n} {sx : Nat}
def fListD (sx : Nat) (a : FE) : FA := fun ρ P => a ρ fun x ρ1 => stF ρ1 sx fun S => ∃ p kd, x = hdl p ∧ S p = some (.dct kd) ∧ P (kd.map fun z => keyD z.1) ρ1
end
end DL
/-! len(set(numbers)); x in xs, items of any depth -/
namespace DL
open PySem L2 Z PySem.Spec PyProof.Rows
variable [Tbs]
section
variable {X : Cx}
end
section
variable {X : Cx}
/-- set(xs), its count that of its members -/
def rSetJ (K : PySem.W.Frag) (w : World) : List V → Hp → VK → Prop := fun vs H Q => ∃ (l : Addr) (ns : List Int), vs = [.ref l] ∧ SqL K H l (ns.map V.int) ∧ ns.length < 4000 ∧
  ∀ (p : Addr) (ms : List Int), H p = none → ms.Nodup → (∀ k, k ∈ ms ↔ k ∈ ns) → Q (.ref p) (upd H p (SetO w p (fun j => decide (j ∈ ns)) ms.length))
theorem cr_setJ (hc : X.calm = true) : CallR X (.type "set") (rSetJ X.K X.w) := by
  intro pins s σ H vs us Q I r h
  obtain ⟨l, ns, rfl, hs, hn, q⟩ := h
  obtain ⟨its, rv, pl, hz⟩ := I.list hs
  rw [Vals.ref1 r]
  have hi : IntsAre its ns := by simpa using rv.ints
  have hlen : its.toArray.size = ns.length := by rw [List.size_toArray, ← rv.length, List.length_map]
  refine set_of_list (fun h => ∃ c, c ≤ ns.length ∧ SetR X.w h s.heap.objs.size (fun j => decide (j ∈ ns)) c) (I.ok.hd hc) pl.isList (fun J s1 St R W nS st gS kR => ?_) fun h2 tk z kp => ?_
  · have val : ∀ (i : Nat) (v : Value), its.toArray[i]? = some v → ∃ k t, ns[i]? = some k ∧ v = .int k t := fun i v hv => by
      have hi' : i < ns.length := by rw [← hlen]; exact (Array.getElem?_eq_some_iff.mp hv).1
      obtain ⟨t, e⟩ := hi.int_at i v (by simpa using hv)
      refine ⟨ns[i], t, List.getElem?_eq_getElem hi', ?_⟩
      rw [e, List.getD_eq_getElem?_getD, List.getElem?_eq_getElem hi'] <;> rfl
    refine set_update_ints W s.heap.objs.size nS ns hlen (by unfold scanBound; omega) val (its.toArray.size - 0) 0 s1 (by omega) (Nat.zero_le _) st ⟨0, Nat.le_refl 0, setR_new_at gS⟩ fun s2 c mv hc' hS => ?_
    exact kR s2 mv ⟨c, by omega, hS⟩
  · obtain ⟨c, hc', hS⟩ := z
    obtain ⟨o, es, ep, t, ho, hex, hd, g, nd, mem, small, hf, hn', _⟩ := id hS
    have e : (es.toList.map keyOf).length = c := by rw [List.length_map, Array.length_toList, hn']
    refine ⟨.ref s.heap.objs.size, _, I.call (ch := []) (Un.laid kp (Nat.le_refl _) (I.hok.fresh (Nat.le_refl _))) (I.hok.laid kp (Nat.le_refl _) (setO_new hS)) I.bare (fun _ z => nomatch z), rfl, ?_⟩
    have := q _ (es.toList.map keyOf) (I.hok.fresh (Nat.le_refl _)) nd fun k => by rw [← mem k]; exact decide_eq_true_iff
    rw [e] at this
    exact this
end
section
variable {K : PySem.W.Frag} {n : Nat} {J : Jv n}
/-- len(set(numbers)) -/
def fLenSet (f : FE) : FE := fun ρ P => f ρ fun d ρ1 => listF d fun es => intsF es fun ns => ns.length < 4000 ∧ ∀ ms : List Int, ms.Nodup → (∀ k, k ∈ ms ↔ k ∈ ns) → P (.int (ms.length : Nat)) ρ1
/-- x in a list of data of any depth -/
def oInX (neg : Bool) : G2 := fun a b P => listF b fun ds => SeqAt.shaped a = true ∧ SeqAt.shaped (.list ds) = true ∧ P (.bool (if neg then !inD a ds else inD a ds))
end
section
variable {K : PySem.W.Frag} {n : Nat} {J : Jv n}
/-- sorted(set(numbers)), fewer than 64 unlike ones -/
def nSortSetJ (ds : List PyData) (P : List PyData → Prop) : Prop := one ds fun d => listF d fun es => intsF es fun ns => ns.length < 4000 ∧ (∀ ms : List Int, ms.Nodup → (∀ k, k ∈ ms ↔ k ∈ ns) → ms.length < 64) ∧ ∀ ms : List Int, ms.Pairwise (· < ·) → (∀ k, k ∈ ms ↔ k ∈ ns) → P (ms.map .int)
theorem rn_sortSetJ {w : World} {t : TA} {f : FA} (ha : RA K J t f) : RN K J (tCB (rSortedSet w) (tCons (tCB (rSetJ K w) t) tNil)) (fCBN nSortSetJ f) := by
  intro O as σ H Q ρ P E q k
  refine ha O as σ H _ ρ _ E q fun ds ρ1 vs H1 q1 f1 E1 d1 => ?_
  obtain ⟨v, d, rfl, dq, g⟩ := one_of d1 q1
  unfold listF at g
  split at g
  · obtain ⟨ns, e, l, few, g'⟩ := intsF_of g
    subst e
    obtain ⟨a, ys, rfl, s, r⟩ := dq.list_of
    cases r.ints_of
    refine ⟨a, ns, rfl, SqL.mono hp_same s, l, fun p us hp1 hnd hmem => ?_⟩
    refine ⟨p, _, us.length, rfl, upd_same, few us hnd hmem, fun ms p2 pw hm hl hp2 => ?_⟩
    have s2 := Same.new (o := SetO w p (fun j => decide (j ∈ ns)) us.length) hp1
    exact new_step (f1.trans (E1.frS s2)) (E1.grow s2) (g' ms pw fun k => by rw [hm k]; simp) hp2 (DqAll.ints _) k
  · exact g.elim
end
end DL
/-! lists of the store met by handles: walked while other things change, turned round, counted -/
namespace DL
open PySem L2 Z PySem.Spec PyProof.Rows
variable [Tbs]
/-- data that tells just one value -/
def fixD : PyData → Bool
  | .none => true
  | .bool _ => true
  | .int _ => true
  | .str _ => true
  | .dict [(.none, .int _)] => true
  | _ => false
section
variable {K : PySem.W.Frag} {n : Nat} {J : Jv n} {sx : Nat}
theorem fix_one {G G' : Hp} {v w : V} {d : PyData} (h : fixD d = true) (q : Dq K G v d) (q' : Dq K G' w d) : v = w := by
  cases q with
  | non => cases q'; rfl
  | bl b => cases q'; rfl
  | int i => cases q'; rfl
  | str x => cases q'; rfl
  | hdl => rw [Dq.hdl_of q']
  | _ => cases h
theorem fix_any {G G' : Hp} {v : V} {d : PyData} (h : fixD d = true) (q : Dq K G v d) : Dq K G' v d := by
  cases q with
  | non => exact .non
  | bl b => exact .bl b
  | int i => exact .int i
  | str x => exact .str x
  | hdl => exact .hdl
  | _ => cases h
theorem fix_all {G G' : Hp} : ∀ {ds : List PyData} {xs ys : List V}, ds.all fixD = true → DqAll K G xs ds → DqAll K G' ys ds → xs = ys
  | [], _, _, _, .nil, .nil => rfl
  | d :: r, _, _, h, .cons a b, .cons a' b' => by
    have h' := Bool.and_eq_true_iff.mp h
    rw [fix_one h'.1 a a', fix_all h'.2 b b']
theorem fix_get {G : Hp} {ds : List PyData} {xs : List V} (h : ds.all fixD = true) (q : DqAll K G xs ds) {i : Nat} {x : V} (e : xs[i]? = some x) {G' : Hp} : ∃ d, ds[i]? = some d ∧ Dq K G' x d := by
  obtain ⟨d, e', r⟩ := q.get e
  exact ⟨d, e', fix_any (List.all_eq_true.mp h d (List.mem_of_getElem? e')) r⟩
/-- a loop over what stands in the list at p, which stays as it is -/
def forH (us : List Nat) (sx : Nat) (p : Addr) (ds its : List PyData) (g : FG) (b : FS) (E : FEnds) (ρ : En) : Prop := ∃ W : Nat → En → Prop, W 0 (fgt ρ us) ∧ (∀ i ρ2, W i ρ2 → ∃ S, ρ2[sx]? = some (.st S) ∧ S p = some (.lst ds)) ∧
  (∀ i d ρ2, its[i]? = some d → W i ρ2 → g d ρ2 fun ρ3 => b { E with nx := fun ρ4 => W (i + 1) (fgt ρ4 us), ct := fun ρ4 => W (i + 1) (fgt ρ4 us), bk := E.nx } ρ3) ∧ ∀ ρ2, W its.length ρ2 → E.nx ρ2
/-- for i, x in enumerate(h) -/
def fForE (us : List Nat) (sx : Nat) (a : FE) (g : FG) (b : FS) : FS := fun E ρ => a ρ fun x ρ1 => stF ρ1 sx fun S => ∃ p ds, x = hdl p ∧ S p = some (.lst ds) ∧ ds.all fixD = true ∧ forH us sx p ds (enumD ds) g b E ρ1
/-- for x in h -/
def fForL (us : List Nat) (sx : Nat) (a : FE) (g : FG) (b : FS) : FS := fun E ρ => a ρ fun x ρ1 => stF ρ1 sx fun S => ∃ p ds, x = hdl p ∧ S p = some (.lst ds) ∧ ds.all fixD = true ∧ forH us sx p ds ds g b E ρ1
/-- h.reverse() -/
def fRevH (sx : Nat) (a : FE) : FS := fun E ρ => a ρ fun x ρ1 => stF ρ1 sx fun S => ∃ p ds, x = hdl p ∧ S p = some (.lst ds) ∧ E.nx (ρ1.set sx (.st (sset S p (.lst ds.reverse))))
theorem re_lenH {ta : TE} {a : FE} (ha : RE K J ta a) : RE K J (tCB (rLenK K) (tCons ta tNil)) (fLenH sx a) := by
  intro O as σ H Q ρ P E q k
  refine ha O as σ H _ ρ _ E q fun x ρ1 v H1 q1 f1 E1 d1 => ?_
  obtain ⟨S, hs, p, ds, rfl, e0, q1⟩ := stF_of q1
  obtain ⟨xs, e1, qx⟩ := E1.lstS hs e0
  rw [d1.hdl_of]
  refine ⟨p, xs, rfl, .inl (SqL.of e1), ?_⟩
  rw [qx.length]
  exact k _ _ _ _ q1 f1 E1 (.int _)
theorem re_lenH' {ta : TE} {a : FE} (ha : RE K J ta a) : RE K J (tCB (fun xs H Q => ∃ p ys, xs = [V.ref p] ∧ (SqL K H p ys ∨ SqT K H p ys) ∧ Q (.int ys.length) H) (tCons ta tNil)) (fLenH sx a) := re_lenH ha
end
end DL
/-! methods handed a store of their own; loops over zip of lists, some of the store -/
namespace DL
open PySem L2 Z PySem.Spec PyProof.Rows
variable [Tbs]
section
variable {K : PySem.W.Frag} {n : Nat} {J : Jv n} {sx : Nat}
/-- o.m(..) of an object that stays, the method handed a store of its own -/
def fMethZ (c x : Str) (m : Nat) (F : FN) (dv : List PyData) (a : FE) (f : FA) : FE := fun ρ P => a ρ fun d ρ1 => objF c d fun fs => fldD x fs = none ∧ f ρ1 fun ds ρ2 => (ds ++ dv).length + 1 = m ∧ F (.fz d :: ((ds ++ dv).map .fz ++ [.st noS])) fun e out => ∃ S' o, out[m]? = some (.st S') ∧ Res S' e o ∧ P o ρ2
/-- a list or tuple: data, or a list of the store -/
def seqU (S : Sto) (x : PyData) (ds : List PyData) (p : Option Addr) : Prop := (p = none ∧ (x = .list ds ∨ x = .tuple ds)) ∨ ∃ a, p = some a ∧ x = hdl a ∧ S a = some (.lst ds) ∧ ds.all fixD = true
/-- for x, y in zip(..), of lists of the store such as stay -/
def fForZH (us : List Nat) (sx : Nat) (f : FA) (g : FG) (b : FS) : FS := fun E ρ => f ρ fun xs ρ1 => stF ρ1 sx fun S => ∃ x y ds es p q, xs = [x, y] ∧ seqU S x ds p ∧ seqU S y es q ∧ ∃ W : Nat → En → Prop, W 0 (fgt ρ1 us) ∧
  (∀ i ρ2, W i ρ2 → ∃ S, ρ2[sx]? = some (.st S) ∧ (∀ a, p = some a → S a = some (.lst ds)) ∧ ∀ a, q = some a → S a = some (.lst es)) ∧
  (∀ i d ρ2, (zipD ds es)[i]? = some d → W i ρ2 → g d ρ2 fun ρ3 => b { E with nx := fun ρ4 => W (i + 1) (fgt ρ4 us), ct := fun ρ4 => W (i + 1) (fgt ρ4 us), bk := E.nx } ρ3) ∧ ∀ ρ2, W (zipD ds es).length ρ2 → E.nx ρ2
end
end DL
/-! zip of three lists or tuples in any mix, some of the store -/
namespace ZM
open PySem PySem.Spec PyProof.Rows L2
def ItzT (K : PySem.W.Frag) (k1 k2 k3 : Bool) (a b c : Addr) : It :=
  ⟨fun i H => ∃ (xs ys zs : List V) (x y z : V), SqK K H k1 a xs ∧ SqK K H k2 b ys ∧ SqK K H k3 c zs ∧ xs[i]? = some x ∧ ys[i]? = some y ∧ zs[i]? = some z,
    fun i H v H' => ∃ T x y z, v = .ref T ∧ H T = none ∧ H' = upd H T (.tup [x, y, z]) ∧ (∀ xs, SqK K H k1 a xs → xs[i]? = some x) ∧ (∀ ys, SqK K H k2 b ys → ys[i]? = some y) ∧ ∀ zs, SqK K H k3 c zs → zs[i]? = some z,
    fun i H => ∃ xs ys zs : List V, SqK K H k1 a xs ∧ SqK K H k2 b ys ∧ SqK K H k3 c zs ∧ i ≤ xs.length ∧ i ≤ ys.length ∧ i ≤ zs.length ∧ (i = xs.length ∨ i = ys.length ∨ i = zs.length)⟩
def YTriple (f g h : Nat → Option V) : Nat → Hp → V → Hp → Prop := fun i H v H' => ∃ T x y z, v = .ref T ∧ H T = none ∧ H' = upd H T (.tup [x, y, z]) ∧ f i = some x ∧ g i = some y ∧ h i = some z
theorem walk_zipT {K : PySem.W.Frag} {k1 k2 k3 : Bool} {a b c : Addr} {xs ys zs : List V} {n : Nat} (hn : n = min xs.length (min ys.length zs.length)) :
    Walk (ItzT K k1 k2 k3 a b c) n (fun H => SqK K H k1 a xs ∧ SqK K H k2 b ys ∧ SqK K H k3 c zs) (YTriple (fun i => xs[i]?) (fun i => ys[i]?) fun i => zs[i]?) := by
  refine ⟨fun i H hi q => ?_, fun H q => ⟨xs, ys, zs, q.1, q.2.1, q.2.2, by omega, by omega, by omega, by omega⟩, fun i H v H' hi q y => ?_⟩
  · exact ⟨xs, ys, zs, xs[i]'(by omega), ys[i]'(by omega), zs[i]'(by omega), q.1, q.2.1, q.2.2, List.getElem?_eq_getElem (by omega), List.getElem?_eq_getElem (by omega), List.getElem?_eq_getElem (by omega)⟩
  · obtain ⟨t, x, y', z, e1, e2, e3, e4, e5, e6⟩ := y
    exact ⟨t, x, y', z, e1, e2, e3, e4 xs q.1, e5 ys q.2.1, e6 zs q.2.2⟩
end ZM
namespace DL
open PySem L2 Z PySem.Spec PyProof.Rows
variable [Tbs]
section
variable {K : PySem.W.Frag} {n : Nat} {J : Jv n} {sx : Nat}
def zipD3 (ds es fs : List PyData) : List PyData := (ds.zip (es.zip fs)).map fun z => .tuple [z.1, z.2.1, z.2.2]
/-- for x, y, z in zip(..), of lists of the store such as stay -/
def fForT (us : List Nat) (sx : Nat) (f : FA) (g : FG) (b : FS) : FS := fun E ρ => f ρ fun xs ρ1 => stF ρ1 sx fun S => ∃ x y z ds es fs p q r, xs = [x, y, z] ∧ seqU S x ds p ∧ seqU S y es q ∧ seqU S z fs r ∧ ∃ W : Nat → En → Prop, W 0 (fgt ρ1 us) ∧
  (∀ i ρ2, W i ρ2 → ∃ S, ρ2[sx]? = some (.st S) ∧ (∀ a, p = some a → S a = some (.lst ds)) ∧ (∀ a, q = some a → S a = some (.lst es)) ∧ ∀ a, r = some a → S a = some (.lst fs)) ∧
  (∀ i d ρ2, (zipD3 ds es fs)[i]? = some d → W i ρ2 → g d ρ2 fun ρ3 => b { E with nx := fun ρ4 => W (i + 1) (fgt ρ4 us), ct := fun ρ4 => W (i + 1) (fgt ρ4 us), bk := E.nx } ρ3) ∧ ∀ ρ2, W (zipD3 ds es fs).length ρ2 → E.nx ρ2
/-- h.insert(k, e) -/
def fInsH (sx : Nat) (a b e : FE) : FS := fun E ρ => a ρ fun x ρ1 => stF ρ1 sx fun S => ∃ p ds, x = hdl p ∧ S p = some (.lst ds) ∧ b ρ1 fun k ρ2 => intF k fun k => e ρ2 fun d ρ3 => stF ρ3 sx fun S' => ∃ es, S' p = some (.lst es) ∧ es.length < sizeLine ∧ 0 ≤ k ∧ k < 2 ^ 63 ∧ E.nx (ρ3.set sx (.st (sset S' p (.lst (es.take k.toNat ++ [d] ++ es.drop k.toNat)))))
end
end DL
/-! dicts as data, read; {k: e, ..} with any number of pairs -/
namespace DL
open PySem L2 Z PySem.Spec PyProof.Rows
variable [Tbs]
section
variable {K : PySem.W.Frag} {n : Nat} {J : Jv n} {sx : Nat} {G : Hp}
theorem DqKs.key_eq {kv kv' : List (L2.Key × PyData)} : dctD kv = dctD kv' → kv = kv' := by
  intro h
  unfold dctD at h
  injection h with h
  injection h with _ h
  induction kv generalizing kv' with
  | nil => cases kv' with
    | nil => rfl
    | cons _ _ => cases h
  | cons a r ih =>
    cases kv' with
    | nil => cases h
    | cons b s =>
      injection h with h1 h2
      injection h1 with h1 h3
      obtain ⟨a1, a2⟩ := a
      obtain ⟨b1, b2⟩ := b
      have : a1 = b1 := by
        cases a1 <;> cases b1 <;> first | (injection h1 with h1; rw [h1]; done) | cases h1
      simp only at h3
      rw [this, h3, ih h2]
theorem Dq.dct_of {v : V} {kd : List (L2.Key × PyData)} (h : Dq K G v (dctD kd)) : ∃ a kv, v = .ref a ∧ L2.Rd G a (.dK kv) ∧ DqKs K G kv kd := by
  generalize e : dctD kd = d at h
  cases h <;> first | (unfold dctD at e; cases e; done) | skip
  next kv kd' h1 h2 =>
    rw [DqKs.key_eq e]
    exact ⟨_, _, rfl, h1, h2⟩
theorem rd_hp {A : Addr → Prop} {H : Hp} {a : Addr} {u : HO} (h : L2.Rd (hp A H) a u) : L2.Rd H a u := h.imp (fun e => (hp_some e).2) fun ⟨o, e⟩ => ⟨o, (hp_some e).2⟩
/-- d[k], d as data -/
def fDGetD (a b : FE) : FE := fun ρ P => a ρ fun x ρ1 => b ρ1 fun y ρ2 => keyF y fun k => ∃ kd d, x = dctD kd ∧ valD kd k = some d ∧ P d ρ2
/-- pairs of a display -/
def fPairs : List (FE × FE) → En → (Kvs → En → Prop) → Prop
  | [], ρ, P => P [] ρ
  | z :: r, ρ, P => z.1 ρ fun x ρ1 => keyF x fun k => z.2 ρ1 fun d ρ2 => fPairs r ρ2 fun kd ρ3 => P ((k, d) :: kd) ρ3
inductive RPs (K : PySem.W.Frag) {n : Nat} (J : Jv n) : List (TE × TE) → List (FE × FE) → Prop
  | nil : RPs K J [] []
  | cons {ta tb : TE} {a b : FE} {l : List (TE × TE)} {f : List (FE × FE)} : RE K J ta a → RE K J tb b → RPs K J l f → RPs K J ((ta, tb) :: l) ((a, b) :: f)
theorem RPs.run {l : List (TE × TE)} {f : List (FE × FE)} (r : RPs K J l f) : ∀ (O : Addr → Prop) (as : As) (σ : L2.St) (H : Hs) (Q : List (V × V) → Hp → Prop) (ρ : En) (P : Kvs → En → Prop), EnR K J O as H ρ σ → fPairs f ρ P →
    (∀ kd ρ' kv H', P kd ρ' → Fr as H H' → EnR K J O as H' ρ' σ → DqKs K (hq O as H') kv kd → Q (kv.map fun z => (L2.kV z.1, z.2)) H') → tPairs l σ H Q := by
  induction r with
  | nil => intro O as σ H Q ρ P E q k; exact k [] ρ [] H q (.refl) E .nil
  | cons ha hb r ih =>
    intro O as σ H Q ρ P E q k
    refine ha O as σ H _ ρ _ E q fun x ρ1 v H1 q1 f1 E1 d1 => ?_
    obtain ⟨z, rfl, q1⟩ := keyF_of d1 q1
    refine hb O as σ H1 _ ρ1 _ E1 q1 fun d ρ2 w H2 q2 f2 E2 d2 => ?_
    refine ih O as σ H2 _ ρ2 _ E2 q2 fun kd ρ3 kv H3 q3 f3 E3 d3 => ?_
    exact k _ ρ3 ((z, w) :: kv) H3 q3 ((f1.trans f2).trans f3) E3 (.cons (d2.fr f3) d3)
/-- {k: e, ..} -/
def fDispN (sx : Nat) (l : List (FE × FE)) : FE := fun ρ P => stF ρ sx fun S => ∀ p, S p = none → fPairs l (ρ.set sx (.st (sset S p (.dct [])))) fun kd ρ2 => kd.length ≤ 15 ∧ stF ρ2 sx fun S2 => S2 p = some (.dct []) ∧ P (hdl p) (ρ2.set sx (.st (sset S2 p (.dct (mergeE [] kd)))))
theorem re_dispN {l : List (TE × TE)} {f : List (FE × FE)} (r : RPs K J l f) : RE K J (tDisp l) (fDispN sx f) := by
  intro O as σ H Q ρ P E q k p hp
  obtain ⟨S, hs, q⟩ := stF_of q
  obtain ⟨sp, E2, f2⟩ := E.addS hs hp (u' := .dK []) (o' := .dct []) (.dct .nil)
  refine r.run O as σ ⟨upd H p (.dK []), _⟩ _ _ _ E2 (q p sp) fun kd ρ1 kv H1 q1 f1 E1 d1 => ?_
  obtain ⟨l15, q1⟩ := q1
  obtain ⟨S2, hs2, e2, q2⟩ := stF_of q1
  obtain ⟨kv0, e1, r0⟩ := E1.dctS hs2 e2
  cases r0
  obtain ⟨E4, f4⟩ := E1.setS hs2 e2 (u' := .dK (L2.mergeK [] kv)) (o' := .dct (mergeE [] kd)) (.dct (d1.merge .nil))
  exact ⟨e1, kv, rfl, by rw [d1.len]; exact l15, k _ _ _ ⟨_, _⟩ q2 ((f2.trans f1).trans f4) E4 .hdl⟩
end
end DL
/-! slices of marked tuples are marked -/
namespace DL
open PySem L2 Z PySem.Spec PyProof.Rows
variable [Tbs]
section
variable {X : Cx}
end
section
variable {K : PySem.W.Frag} {n : Nat} {J : Jv n}
/-- t[lo:hi], t marked -/
def sN : PyData → Option Int → Option Int → (PyData → Prop) → Prop := fun a lo hi P => tnF a fun ds => P (tnD (cutD ds lo hi))
end
end DL
/-! calls without the store, what is handed in being laid open by it -/
namespace DL
open PySem L2 Z PySem.Spec PyProof.Rows
variable [Tbs]
section
variable {K : PySem.W.Frag} {n : Nat} {J : Jv n} {sx : Nat}
theorem EnR.laid {O : Addr → Prop} {as : As} {H : Hs} {ρ : En} {σ : L2.St} {S : Sto} {vs : List V} {ds ds' : List PyData} (E : EnR K J O as H ρ σ) (hs : ρ[sx]? = some (.st S)) (dv : DqAll K (hq O as H) vs ds) (r : ResAll S ds ds') : EnR K (J0 : Jv 0) O noA H (ds'.map .fz) (vs.map some) := by
  obtain ⟨a1, e, st⟩ := E.st_at hs
  have k : ∀ a, S a ≠ none → hq O noA H a = H.hp a := fun a h => hp_of (E.vis _ .sto a a1 (by show H.st a ≠ none; rw [← e]; exact h))
  have dv' := r.dq st E.visS k dv
  have hl := dv'.length
  refine ⟨by rw [List.length_map, List.length_map]; omega, fun i sl h1 h2 => ?_, fun i sl o h1 h2 => ?_, fun i h => (by cases h), fun i j _ _ _ h1 => (by cases h1), fun i _ _ h => (by cases h), fun i a h => (by cases h), E.occ, trivial, trivial, E.tab⟩
  · have := (List.getElem?_eq_some_iff.mp h1).1
    rw [List.length_map] at this h2
    omega
  · rw [List.getElem?_map] at h1 h2
    cases e1 : ds'[i]? with
    | none => rw [e1] at h1; cases h1
    | some d =>
      rw [e1] at h1
      cases h1
      obtain ⟨v, ev, q⟩ := dv'.got e1
      rw [ev] at h2
      cases h2
      exact .fz q
/-- f(..), what is handed in laid open -/
def fCallR (sx m : Nat) (F : FN) (dv : List PyData) (f : FA) : FE := fun ρ P => f ρ fun ds ρ1 => stF ρ1 sx fun S => ∃ ds', ResAll S (ds ++ dv) ds' ∧ ds'.length = m ∧ F (ds'.map .fz) fun d _ => immD d = true ∧ P d ρ1
def fCallRW (sx m : Nat) (F : FM) (dv : List PyData) (f : FA) : FA := fun ρ P => f ρ fun ds ρ1 => stF ρ1 sx fun S => ∃ ds', ResAll S (ds ++ dv) ds' ∧ ds'.length = m ∧ F (ds'.map .fz) fun es _ => immAll es = true ∧ P es ρ1
/-- o.m(..), o and what is handed in laid open -/
def fMethR (sx : Nat) (c x : Str) (m : Nat) (F : FN) (dv : List PyData) (a : FE) (f : FA) : FE := fun ρ P => a ρ fun d ρ1 => stF ρ1 sx fun S1 => ∃ fs, ObjU S1 d c fs ∧ fldD x fs = none ∧ f ρ1 fun ds ρ2 => stF ρ2 sx fun S => ∃ ds', ResAll S (d :: (ds ++ dv)) ds' ∧ ds'.length = m ∧ F (ds'.map .fz) fun d _ => immD d = true ∧ P d ρ2
def fMethRW (sx : Nat) (c x : Str) (m : Nat) (F : FM) (dv : List PyData) (a : FE) (f : FA) : FA := fun ρ P => a ρ fun d ρ1 => stF ρ1 sx fun S1 => ∃ fs, ObjU S1 d c fs ∧ fldD x fs = none ∧ f ρ1 fun ds ρ2 => stF ρ2 sx fun S => ∃ ds', ResAll S (d :: (ds ++ dv)) ds' ∧ ds'.length = m ∧ F (ds'.map .fz) fun es _ => immAll es = true ∧ P es ρ2
end
end DL
/-! raising calls with what is handed in laid open; raising methods -/
namespace DL
open PySem L2 Z PySem.Spec PyProof.Rows
variable [Tbs]
section
variable {K : PySem.W.Frag} {n : Nat} {J : Jv n} {sx : Nat}
theorem EnR.noXd {O : Addr → Prop} {as : As} {H : Hs} {ρ : En} {σ : L2.St} (E : EnR K J O as H ρ σ) {a : Addr} {fv : List (Str × V)} (h : H a = some (.xd fv)) : ¬ Own as H a := fun q => by
  rcases q with ⟨i, r, e, q⟩ | q
  · rcases E.is_reg e with ⟨b, ds, ys, rfl, _, _, h3, _⟩ | ⟨rfl, _, _, st⟩
    · rw [q.lf_of, h3] at h
      cases h
    · obtain ⟨o, e⟩ := Option.ne_none_iff_exists'.mp (show H.st a ≠ none from q)
      obtain ⟨u, e1, q1⟩ := st a o e
      rw [e1] at h
      cases h
      cases q1
  · obtain ⟨p, hp, z⟩ := q
    obtain ⟨ps, h1, _⟩ := E.tab p hp
    rw [z, h] at h1
    cases h1
/-- an exception that bears a plain thing -/
def excI (d : PyData) : Prop := ∃ c w, d = excD c w ∧ immD w = true
theorem XcAt.imm {O : Addr → Prop} {as : As} {H : Hs} {ρ : En} {σ : L2.St} {cls : Value} {dd : Option Addr} {d : PyData} (E : EnR K J O as H ρ σ) (i : excI d) (x : XcAt K (hq O noA H) cls dd d) : XcAt K (hq O as H) cls dd d := by
  obtain ⟨c0, w, rfl, hi⟩ := i
  obtain ⟨c, C, dx, fv, fs, e1, e2, e3, e4, e5, r⟩ := x
  unfold excD at e1
  cases e1
  refine ⟨c0, C, dx, fv, _, rfl, e2, e3, e4, ?_, ?_⟩
  · obtain ⟨n, e⟩ := hp_some e5
    refine hp_mk (fun z => ?_) e
    rcases z with z | z
    · exact n (.inl z)
    · exact E.noXd e z
  · cases r with
    | cons q r => cases r with
      | nil => exact .cons (q.imm E.tupS hi) .nil
/-- f(..) that may raise, what is handed in laid open -/
def fCallRX (sx m : Nat) (F : FX) (dv : List PyData) (X : PyData → En → Prop) (f : FA) : FE := fun ρ P => f ρ fun ds ρ1 => stF ρ1 sx fun S => ∃ ds', ResAll S (ds ++ dv) ds' ∧ ds'.length = m ∧ F (ds'.map .fz) (fun d _ => immD d = true ∧ P d ρ1) fun d _ => excI d ∧ X d ρ1
def fCallRXW (sx m : Nat) (F : FXM) (dv : List PyData) (X : PyData → En → Prop) (f : FA) : FA := fun ρ P => f ρ fun ds ρ1 => stF ρ1 sx fun S => ∃ ds', ResAll S (ds ++ dv) ds' ∧ ds'.length = m ∧ F (ds'.map .fz) (fun es _ => immAll es = true ∧ P es ρ1) fun d _ => excI d ∧ X d ρ1
end
/-! methods where what is raised is wished for at the caller's slots -/
section
variable {X : Cx} {CX : CXT} {k : Nat} {f C : Addr} {fd : FuncData} {ps : List Str} {sp : Sp} {dvs : List V} {ds : List Value} {E : L2.St → XK} {m : Str} {pos apos : Pos} {o e : Expr} {es : List Expr} {ta : TE} {t : TA}
end
section
variable {K : PySem.W.Frag} {n : Nat} {J : Jv n} {sx : Nat}
/-- o.m(..) that may raise -/
def fMethX (c x : Str) (m : Nat) (F : FX) (dv : List PyData) (X : PyData → En → Prop) (a : FE) (b : FC) : FE := fun ρ P => a ρ fun d ρ1 => objF c d fun fs => fldD x fs = none ∧ b ρ1 fun xs ρ2 => xs.length + dv.length + 1 = m ∧ (ownIx xs).Nodup ∧ argF ρ2 xs fun r => F (.fz d :: (r ++ dv.map .fz)) (fun e out => P e (wb ρ2 xs out.tail)) fun e out => X e (wb ρ2 xs out.tail)
/-- the same, handed the store -/
def fMethXS (sx : Nat) (c x : Str) (m : Nat) (F : FX) (dv : List PyData) (X : PyData → En → Prop) (a : FE) (b : FC) : FE := fun ρ P => a ρ fun d ρ1 => stF ρ1 sx fun S1 => ∃ fs, ObjU S1 d c fs ∧ fldD x fs = none ∧ b ρ1 fun xs ρ2 => xs.length + dv.length + 1 = m ∧ (ownIx xs ++ [sx]).Nodup ∧ argF ρ2 xs fun r => stF ρ2 sx fun S => F (.fz d :: (r ++ dv.map .fz ++ [.st S])) (fun e out => P e ((wb ρ2 xs out.tail).set sx ((out.drop m).headD .no))) fun e out => X e ((wb ρ2 xs out.tail).set sx ((out.drop m).headD .no))
/-- o.m(..) that may raise, o and what is handed in laid open -/
def fMethRX (sx : Nat) (c x : Str) (m : Nat) (F : FX) (dv : List PyData) (X : PyData → En → Prop) (a : FE) (f : FA) : FE := fun ρ P => a ρ fun d ρ1 => stF ρ1 sx fun S1 => ∃ fs, ObjU S1 d c fs ∧ fldD x fs = none ∧ f ρ1 fun ds ρ2 => stF ρ2 sx fun S => ∃ ds', ResAll S (d :: (ds ++ dv)) ds' ∧ ds'.length = m ∧ F (ds'.map .fz) (fun d _ => immD d = true ∧ P d ρ2) fun d _ => excI d ∧ X d ρ2
end
end DL
/-! tuple * number -/
namespace DL
open PySem L2 Z PySem.Spec PyProof.Rows
variable [Tbs]
section
variable {X : Cx}
end
section
variable {K : PySem.W.Frag}
def oRepT : G2 := fun a b P => match a, b with
  | .tuple xs, .int k => xs ≠ [] ∧ 1 ≤ k ∧ k ≤ 1000 ∧ xs.length ≤ 1000 ∧ P (.tuple (List.replicate k.toNat xs).flatten)
  | _, _ => False
end
end DL
/-! comprehensions over zip of three -/
namespace DL
open PySem L2 Z PySem.Spec PyProof.Rows
variable [Tbs]
section
variable {K : PySem.W.Frag} {n : Nat} {J : Jv n}
def iZT (f : FA) : FA := fun ρ P => f ρ fun ds ρ1 => match ds with
  | [x, y, z] => seqF x fun es => seqF y fun gs => seqF z fun hs => P (zipD3 es gs hs) ρ1
  | _ => False
end
end DL
/-! list(own) -/
namespace DL
open PySem L2 Z PySem.Spec PyProof.Rows
variable [Tbs]
section
variable {K : PySem.W.Frag} {n : Nat} {J : Jv n}
end
end DL
/-! d.update(e), sorted(d) by whole numbers, dict(d) -/
namespace L2
open PySem PySem.Spec PyProof.Rows
section
variable {X : Cx} {o e f : Expr} {apos cpos : Pos} {td ty tx : TE}
end
end L2
namespace DL
open PySem L2 Z PySem.Spec PyProof.Rows
variable [Tbs]
section
variable {K : PySem.W.Frag} {n : Nat} {J : Jv n} {sx : Nat}
end
end DL
/-! list.count of numbers -/
namespace DL
open PySem L2 Z PySem.Spec PyProof.Rows
variable [Tbs]
section
variable {K : PySem.W.Frag} {n : Nat} {J : Jv n}
end
end DL
/-! str(o), repr(o), bool(o), o == x by own methods -/
namespace PySem.W
open PySem PySem.Spec PySem.Calls PyProof.Rows
section
variable {prog : Program} {w : World} {A : Around} {E : Value → Shared → Prop} {s : Shared} {K : Frag} {x C f : Addr} {ox : Obj} {od : Option Obj}
end
end PySem.W
namespace DL
open PySem L2 Z PySem.Spec PyProof.Rows
variable [Tbs]
section
variable {X : Cx} {CX : CXT} {k n : Nat} {f C : Addr} {fd : FuncData} {ps ks : List Str} {sp : Sp} {E : XK}
end
section
variable {K : PySem.W.Frag} {n : Nat} {J : Jv n} {sx : Nat}
/-- str(o), repr(o) by an own method without the store -/
def fStrX (c : Str) (F : FN) (a : FE) : FE := fun ρ P => a ρ fun d ρ1 => objF c d fun _ => F [.fz d] fun e _ => strF e fun z => P (.str z) ρ1
def fStrR (sx : Nat) (c : Str) (F : FN) (a : FE) : FE := fun ρ P => a ρ fun d ρ1 => stF ρ1 sx fun S => ∃ fs d', ObjU S d c fs ∧ Res S d d' ∧ F [.fz d'] fun e _ => immD e = true ∧ strF e fun z => P (.str z) ρ1
/-- bool(o) by an own __len__ -/
def fBoolX (c : Str) (F : FN) (a : FE) : FE := fun ρ P => a ρ fun d ρ1 => objF c d fun _ => F [.fz d] fun e _ => intF e fun i => 0 ≤ i ∧ i < 9223372036854775808 ∧ P (.bool (i != 0)) ρ1
def fBoolR (sx : Nat) (c : Str) (F : FN) (a : FE) : FE := fun ρ P => a ρ fun d ρ1 => stF ρ1 sx fun S => ∃ fs d', ObjU S d c fs ∧ Res S d d' ∧ F [.fz d'] fun e _ => immD e = true ∧ intF e fun i => 0 ≤ i ∧ i < 9223372036854775808 ∧ P (.bool (i != 0)) ρ1
/-- len(o) by an own __len__, o of the store -/
def fLenR (sx : Nat) (c : Str) (F : FN) (a : FE) : FE := fun ρ P => a ρ fun d ρ1 => stF ρ1 sx fun S => ∃ fs d', ObjU S d c fs ∧ Res S d d' ∧ F [.fz d'] fun e _ => immD e = true ∧ intF e fun i => 0 ≤ i ∧ i < 9223372036854775808 ∧ P (.int i) ρ1
/-- o == x, both of the class -/
def fEqX (c : Str) (F : FN) (a b : FE) : FE := fun ρ P => a ρ fun d ρ1 => b ρ1 fun e ρ2 => objF c d fun _ => objF c e fun _ => F [.fz d, .fz e] fun r _ => boolF r fun b => P (.bool b) ρ2
def fEqR (sx : Nat) (c : Str) (F : FN) (a b : FE) : FE := fun ρ P => a ρ fun d ρ1 => b ρ1 fun e ρ2 => stF ρ2 sx fun S => ∃ fs gs d' e', ObjU S d c fs ∧ ObjU S e c gs ∧ Res S d d' ∧ Res S e e' ∧ F [.fz d', .fz e'] fun r _ => immD r = true ∧ boolF r fun b => P (.bool b) ρ2
/-- isinstance(o, C), C an own class -/
structure OwnC (K : PySem.W.Frag) (C : Addr) : Prop where
  cl : Cls K C
  ga : PySem.W.findIn K (.ref C) "__class__" = some (some (.builtin "object.__class__"))
  gt : PySem.W.specialIn K (.builtin "object.__class__") "__get__" = some (some (.builtin "getset_descriptor.__get__"))
  tk : PySem.W.takesIn K (.builtin "object.__class__") = some true
  ob : PySem.W.mroIn K C (.type "object") = some true
  no : ∀ T ∈ ["NoneType", "bool", "int", "str", "list", "tuple"], PySem.W.kitOne K (.type T) (.ref C) = some false
def isoD (c : Str) : PyData → Option Bool
  | .dict ((.str c', .none) :: _) => if c' = c then some true else none
  | .dict _ => none
  | _ => some false
def fIsiO (c : Str) (a : FE) : FE := fun ρ P => a ρ fun d ρ1 => ∃ b, isoD c d = some b ∧ P (.bool b) ρ1
/-- isinstance(o, C), o of the store -/
def fIsiR (sx : Nat) (c : Str) (a : FE) : FE := fun ρ P => a ρ fun d ρ1 => stF ρ1 sx fun S => ∃ fs, ObjU S d c fs ∧ P (.bool true) ρ1
end
end DL
/-! f-strings of texts and numbers -/
namespace DL
open PySem L2 Z PySem.Spec PyProof.Rows
variable [Tbs]
section
variable {K : PySem.W.Frag} {n : Nat} {J : Jv n} {sx : Nat}
def fmtF (d : PyData) (k : Str → Prop) : Prop := match d with
  | .str y => y.length ≤ sizeLine ∧ k y
  | .int i => i.natAbs.log2 < 1920 ∧ k (toString i)
  | _ => False
def fFmt (a : FE) : FE := fun ρ P => a ρ fun d ρ1 => fmtF d fun z => P (.str z) ρ1
def fJs : List FE → Str → En → (Str → En → Prop) → Prop
  | [], acc, ρ, P => P acc ρ
  | t :: ts, acc, ρ, P => t ρ fun d ρ1 => strF d fun y => (acc ++ y).length ≤ sizeLine ∧ fJs ts (acc ++ y) ρ1 P
def fJoin (fs : List FE) : FE := fun ρ P => fJs fs Str.empty ρ fun z ρ1 => P (.str z) ρ1
inductive RJ (K : PySem.W.Frag) {n : Nat} (J : Jv n) : List TE → List FE → Prop
  | nil : RJ K J [] []
  | cons {t : TE} {f : FE} {ts : List TE} {fs : List FE} : RE K J t f → RJ K J ts fs → RJ K J (t :: ts) (f :: fs)
end
end DL
/-! a comprehension over a list of the store, met by a handle, which stays as it is meanwhile -/
namespace DL
open PySem L2 Z PySem.Spec PyProof.Rows
variable [Tbs]
section
variable {K : PySem.W.Frag} {n : Nat} {J : Jv n} {sx : Nat}
def lcWH (sx : Nat) (p : Addr) (ds its : List PyData) (g : FG) (ft : FT) (fe : FE) (vs : List Nat) (ρ : En) (P : List PyData → En → Prop) : Prop := vs.all (slotF ρ) = true ∧ ∃ W : Nat → List PyData → En → Prop, W 0 [] (wipeF ρ vs) ∧
  (∀ i acc ρ2, W i acc (wipeF ρ2 vs) → ∃ S, (wipeF ρ2 vs)[sx]? = some (.st S) ∧ S p = some (.lst ds)) ∧
  (∀ i d acc ρ2, its[i]? = some d → W i acc ρ2 → g d ρ2 fun ρ3 => ft ρ3 fun b ρ4 => if b = true then fe ρ4 fun y ρ5 => acc.length < sizeLine ∧ vs.all (slotF ρ5) = true ∧ W (i + 1) (acc ++ [y]) (wipeF ρ5 vs) else vs.all (slotF ρ4) = true ∧ W (i + 1) acc (wipeF ρ4 vs)) ∧
  ∀ acc ρ2, W its.length acc (wipeF ρ2 vs) → P acc (wipeF ρ2 vs)
def fLcH (sx : Nat) (a : FE) (g : FG) (ft : FT) (fe : FE) (vs : List Nat) : FA := fun ρ P => a ρ fun x ρ1 => stF ρ1 sx fun S => ∃ p ds, x = hdl p ∧ S p = some (.lst ds) ∧ ds.all fixD = true ∧ lcWH sx p ds ds g ft fe vs ρ1 P
theorem rn_lcH {ws vs : List Nat} {ta : TE} {g : TG} {tt : TT} {te : TE} {a : FE} {fg : FG} {ft : FT} {fe : FE} (hw : ∀ j ∈ ws, j ∈ vs) (hi : RE K J ta a) (hg : ∀ J' : Jv n, J'.le J → RG K J' ws g fg) (ht : ∀ J' : Jv n, J'.le J → RT K J' tt ft) (he : ∀ J' : Jv n, J'.le J → RE K J' te fe) : RN K J (tLc (iList K ta) g tt te vs) (fLcH sx a fg ft fe vs) := by
  intro O as σ H Q ρ P E q k
  refine hi O as σ H _ ρ _ E q fun x ρ1 v H1 q1 f1 E1 d1 => ?_
  obtain ⟨S, hs, p, ds, rfl, e0, fx, q1⟩ := stF_of q1
  obtain ⟨ys, e1, qx⟩ := E1.lstS hs e0
  rw [d1.hdl_of]
  refine ⟨p, rfl, ⟨ys, SqL.of e1⟩, ?_⟩
  obtain ⟨hv, W, w0, wst, ws', we⟩ := q1
  intro D hD
  have hvn : ∀ j, j ∈ vs → as j = none := fun j hj => E1.none_of (List.all_eq_true.mp hv j hj)
  have hD0 : H D = none := by
    cases e : H D with
    | none => rfl
    | some o => exact absurd hD (f1.liv D (by rw [e]; exact Option.some_ne_none _))
  rw [← qx.length] at we
  refine lc_it (walk_list (xs := ys)) (fun i H2 => ∃ S2 acc ρ2 xs, Fr as H1 ⟨H2, S2⟩ ∧ EnR K (J.hide D) (plus O D) as ⟨H2, S2⟩ (wipeF ρ2 vs) (wipe σ vs) ∧ H2 D = some (.lst xs) ∧ DqAll K (hq (plus O D) as ⟨H2, S2⟩) xs acc ∧ W i acc (wipeF ρ2 vs)) ?_ (fun i H2 _ ⟨S2, acc, ρ2, xs, f2, E2, _, _, w⟩ => ?_) ?_ ?_
  · exact ⟨_, [], ρ1, [], E1.frS (Same.new hD), (((E1.addO (o := .lst []) hD).1.reJ (Jv.hide_new E1.inv hD (E1.frS (Same.new hD))) (J.up _ _ (fun _ z => .inl z) E1.inq)).wipes vs hv).1, upd_same, .nil, w0⟩
  · obtain ⟨S', hs', e'⟩ := wst _ _ _ w
    obtain ⟨zs, e2, qz⟩ := E2.lstS hs' e'
    rw [fix_all fx qx qz]
    exact SqL.of e2
  · rintro i x H2' H3 hi' ⟨S2, acc, ρ2, xs, f2, E2, hx, dx, w⟩ y
    obtain ⟨H2, hH2⟩ : ∃ H2 : Hs, H2 = ⟨H2', S2⟩ := ⟨_, rfl⟩
    rw [← hH2] at f2 E2 dx
    rw [show H2' = H2.hp from by rw [hH2]] at y hx
    obtain ⟨rfl, g2⟩ := y
    obtain ⟨d', e', q'⟩ := fix_get fx qx g2 (G' := hq (plus O D) as H2)
    refine hg _ Jv.hide_le (plus O D) as _ H2 _ _ _ x _ E2 q' (ws' i _ acc _ e' w) fun ρ4 σ4 H4 p4 f4 E4 z4 => ?_
    have len4 : σ4.length = σ.length := by rw [z4.1, wipe_length]
    have z4' : ∀ j, j ∉ vs → σ4[j]? = σ[j]? := fun j hj => by
      rw [z4.2 j (fun z => hj (hw j z)), wipe_at, if_neg (fun w => hj w.1)]
    refine ⟨wipe_eq len4 z4', ?_⟩
    refine ht _ Jv.hide_le (plus O D) as σ4 H4 _ ρ4 _ E4 p4 fun b ρ5 H5 q5 f5 E5 => ?_
    cases b
    · obtain ⟨v5, w5⟩ := q5
      have E6 := ((E5.wipes vs v5).1)
      rw [wipe_eq len4 z4'] at E6
      have f35 := f4.trans f5
      exact ⟨H5.st, acc, ρ5, xs, f2.trans f35, E6, f35.fr _ _ (E2.newp hx) hx, dx.fr f35, w5⟩
    · refine he _ Jv.hide_le (plus O D) as σ4 H5 _ ρ5 _ E5 q5 fun d ρ6 v H6 q6 f6 E6 d6 => ?_
      obtain ⟨l6, v6, w6⟩ := q6
      have f36 := (f4.trans f5).trans f6
      have hx6 := f36.fr _ _ (E2.newp hx) hx
      have dx6 := dx.fr f36
      obtain ⟨E7, s7⟩ := E6.putO (p := D) (ys := xs ++ [v]) (.inr rfl) hx6 (Jv.hide_put E6.inv (E6.stayO (.inr rfl)))
      have E8 := ((E7.wipes vs v6).1)
      rw [wipe_eq len4 z4'] at E8
      refine ⟨xs, hx6, by rw [dx.length]; exact l6, H6.st, acc ++ [d], ρ6, xs ++ [v], (f2.trans f36).putN hD (E6.stayO (.inr rfl)), E8, upd_same, (dx6.mono s7).append (.cons (d6.mono s7) .nil), w6⟩
  · rintro H2 ⟨S2, acc, ρ2, xs, f2, E2, hx, dx, w⟩
    have E3 := (E2.unwipe hvn (σ' := σ) rfl fun j hj => rfl).reJ (Jv.hide_le.1 _ _ E2.inv) (Jv.hide_le.2 _ E2.inq)
    exact k _ _ _ _ _ (we acc ρ2 w) (f1.trans f2) (.inl hD0) E3 hx dx
end
end DL
/-! methods by keywords that may raise -/
namespace DL
open PySem L2 Z PySem.Spec PyProof.Rows
variable [Tbs]
section
variable {X : Cx} {CX : CXT} {k n : Nat} {f C : Addr} {fd : FuncData} {ps ks : List Str} {sp : Sp} {E : L2.St → XK} {m : Str} {pos apos : Pos} {o e : Expr} {es : List Expr} {kws : List Keyword} {ta : TE} {t tk : TA} {g : List Value → List Value → List Value} {gV : List V → List V → List V}
end
section
variable {K : PySem.W.Frag} {n : Nat} {J : Jv n} {sx : Nat}
/-- o.m(.., k = v, ..) that may raise and is handed the store -/
def fMethNXS (sx : Nat) (c x : Str) (l : Nat) (F : FX) (nn mm : Nat) (gD : List PyData → List PyData → List PyData) (X : PyData → En → Prop) (a : FE) (f fk : FA) : FE := fun ρ P => a ρ fun d ρ1 => stF ρ1 sx fun S1 => ∃ fs, ObjU S1 d c fs ∧ fldD x fs = none ∧ f ρ1 fun ds ρ2 => fk ρ2 fun es ρ3 => ds.length = nn ∧ es.length = mm ∧ (gD ds es).length + 1 = l ∧ stF ρ3 sx fun S => F (.fz d :: ((gD ds es).map .fz ++ [.st S])) (fun e out => P e (ρ3.set sx ((out.drop l).headD .no))) fun e out => X e (ρ3.set sx ((out.drop l).headD .no))
end
end DL
/-! t > u of tuples of numbers -/
namespace L2
open PySem PySem.Spec PyProof.Rows
end L2
namespace DL
open PySem L2 Z PySem.Spec PyProof.Rows
variable [Tbs]
end DL
/-! a def that hands back data or a new list, called with what is handed in laid open; read as data -/
namespace DL
open PySem L2 Z PySem.Spec PyProof.Rows
variable [Tbs]
section
variable {K : PySem.W.Frag} {n : Nat} {J : Jv n} {sx : Nat}
def fCallUR (sx m : Nat) (F : FU) (dv : List PyData) (f : FA) : FV' := fun ρ P P2 => f ρ fun ds ρ1 => stF ρ1 sx fun S => ∃ ds', ResAll S (ds ++ dv) ds' ∧ ds'.length = m ∧ F (ds'.map .fz) (fun d _ => immD d = true ∧ P d ρ1) fun es _ => immAll es = true ∧ P2 es ρ1
/-- read as data -/
def fNewV (f : FV') : FE := fun ρ P => f ρ P fun ds ρ1 => P (.list ds) ρ1
theorem RV.re {t : TE} {f : FV'} (h : RV K J t f) : RE K J t (fNewV f) := by
  intro O as σ H Q ρ P E q k
  refine h O as σ H _ ρ _ _ E q (fun d ρ1 v H1 q1 f1 E1 d1 => k _ _ _ _ q1 f1 E1 d1) fun ds ρ1 p xs H2 q1 f1 hp1 E1 hp2 d1 => ?_
  exact k _ _ _ _ q1 f1 (E1.lessO E.inq) (.lst (SqL.of (hp_mk (fun z => z.elim (fun w => E.notO E1 hp1 hp2 w) (E1.newp hp2)) hp2)) (d1.mono (hp_less fun _ => hid_plus)))
end
end DL
/-! sorted(d), a dict by whole numbers, of any number of keys -/
namespace L2
open PySem PySem.Spec PyProof.Rows
section
variable {X : Cx}
end
end L2
namespace DL
open PySem L2 Z PySem.Spec PyProof.Rows
variable [Tbs]
section
variable {K : PySem.W.Frag} {n : Nat} {J : Jv n} {sx : Nat}
def fSortDL (sx : Nat) (a : FE) : FA := fun ρ P => a ρ fun x ρ1 => stF ρ1 sx fun S => ∃ p kd ks, x = hdl p ∧ S p = some (.dct kd) ∧ kd.map (·.1) = ks.map Sum.inl ∧ ∀ ys : List Int, ys.Perm ks → ys.Pairwise (· ≤ ·) → P (ys.map .int) ρ1
end
end DL
/-! return a if c else b, each handed back in its own way -/
namespace DL
open PySem L2 Z PySem.Spec PyProof.Rows
variable [Tbs]
section
variable {K : PySem.W.Frag} {n : Nat} {J : Jv n}
def fRetIf (c : FT) (a b : FS) : FS := fun E ρ => c ρ fun k ρ1 => if k = true then a E ρ1 else b E ρ1
end
end DL
/-! try: body except C: suite, without a name -/
namespace DL
open PySem L2 Z PySem.Spec PyProof.Rows
variable [Tbs]
section
variable {K : PySem.W.Frag} {n : Nat} {J : Jv n}
def fTry1 (tab : Str → Option Bool) (X : PyData → En → Prop) (b : (PyData → En → Prop) → FS) (su : FS) : FS := fun E ρ => b (fun d ρ' => excF d fun c _ => ∃ k, tab c = some k ∧ if k = true then su E ρ' else X d ρ') E ρ
end
end DL
/-! h.index(x), a list of the store, flat things -/
namespace DL
open PySem L2 Z PySem.Spec PyProof.Rows
variable [Tbs]
section
variable {K : PySem.W.Frag} {n : Nat} {J : Jv n} {sx : Nat}
def fIdxH (sx : Nat) (a b : FE) : FE := fun ρ P => a ρ fun x ρ1 => stF ρ1 sx fun S1 => ∃ p ds1, x = hdl p ∧ S1 p = some (.lst ds1) ∧ b ρ1 fun d ρ2 => stF ρ2 sx fun S => ∃ ds j z, S p = some (.lst ds) ∧ flatD d = true ∧ ds.all flatD = true ∧ ds[j]? = some z ∧ PyData.eqv z d = true ∧ (∀ (m : Nat) (z' : PyData), m < j → ds[m]? = some z' → PyData.eqv z' d = false) ∧ P (.int (j : Nat)) ρ2
end
end DL
/-! dicts, of the store (locked too) or as data, read; comprehensions over a dict of the store, locked meanwhile -/
namespace DL
open PySem L2 Z PySem.Spec PyProof.Rows
variable [Tbs]
/-- a dict at a place of the store, locked or not -/
def DctAt (S : Sto) (p : Addr) (kd : Kvs) : Prop := S p = some (.dct kd) ∨ ∃ od kv, S p = some (.dctL od kv kd)
def DctU (S : Sto) (x : PyData) (kd : Kvs) : Prop := (∃ p, x = hdl p ∧ DctAt S p kd) ∨ x = dctD kd
/-- a dict: with the store in slot sx, or as data -/
def dicF (m : Option Nat) (ρ : En) (x : PyData) (k : Kvs → Prop) : Prop := match m with
  | none => ∃ kd, x = dctD kd ∧ k kd
  | some sx => stF ρ sx fun S => ∃ kd, DctU S x kd ∧ k kd
section
variable {K : PySem.W.Frag} {n : Nat} {J : Jv n} {O : Addr → Prop} {as : As} {H : Hs} {ρ : En} {σ : L2.St} {S : Sto} {sx : Nat} {p : Addr} {m : Option Nat}
theorem EnR.dctR (E : EnR K J O as H ρ σ) (hs : ρ[sx]? = some (.st S)) {kd : Kvs} (e : DctAt S p kd) : ∃ kv, L2.Rd H.hp p (.dK kv) ∧ DqKs K (hq O as H) kv kd := by
  rcases e with e | ⟨od, kv, e⟩
  · obtain ⟨kv, e1, r⟩ := E.dctS hs e
    exact ⟨kv, .inl e1, r⟩
  · obtain ⟨u, e1, r⟩ := E.getS hs e
    cases r with
    | dctL r => exact ⟨kv, .inr ⟨od, e1⟩, r⟩
theorem EnR.dicF_of (E : EnR K J O as H ρ σ) {v : V} {x : PyData} {k : Kvs → Prop} (q : Dq K (hq O as H) v x) (h : dicF m ρ x k) : ∃ a kv kd, v = .ref a ∧ L2.Rd H.hp a (.dK kv) ∧ DqKs K (hq O as H) kv kd ∧ k kd := by
  cases m with
  | none =>
    obtain ⟨kd, rfl, h⟩ := h
    obtain ⟨a, kv, rfl, e, r⟩ := q.dct_of
    exact ⟨a, kv, kd, rfl, rd_hp e, r, h⟩
  | some sx =>
    obtain ⟨S, hs, kd, u, hk⟩ := stF_of h
    rcases u with ⟨p, rfl, e⟩ | rfl
    · obtain ⟨kv, e1, r⟩ := E.dctR hs e
      exact ⟨p, kv, kd, q.hdl_of, e1, r, hk⟩
    · obtain ⟨a, kv, rfl, e, r⟩ := q.dct_of
      exact ⟨a, kv, kd, rfl, rd_hp e, r, hk⟩
theorem DGet.r {H : Hp} {a : Addr} {kvs : List (L2.Key × V)} {k : L2.Key} (e : L2.Rd H a (.dK kvs)) : DGet H a (L2.kV k) (L2.valV kvs k) := .inl ⟨kvs, k, e, rfl, rfl⟩
end
section
variable {K : PySem.W.Frag} {n : Nat} {J : Jv n} {sx : Nat} {m : Option Nat}
/-- d[k] -/
def fGet (m : Option Nat) (a b : FE) : FE := fun ρ P => a ρ fun x ρ1 => b ρ1 fun y ρ2 => keyF y fun k => dicF m ρ2 x fun kd => ∃ d, valD kd k = some d ∧ P d ρ2
theorem re_get {ta tb : TE} {a b : FE} (ha : RE K J ta a) (hb : RE K J tb b) : RE K J (tDGet ta tb) (fGet m a b) := by
  intro O as σ H Q ρ P E q k
  refine ha O as σ H _ ρ _ E q fun x ρ1 v H1 q1 f1 E1 d1 => ?_
  refine hb O as σ H1 _ ρ1 _ E1 q1 fun y ρ2 w H2 q2 f2 E2 d2 => ?_
  obtain ⟨z, rfl, q2⟩ := keyF_of d2 q2
  obtain ⟨p, kv, kd, rfl, e1, r, d, hv, q2⟩ := E2.dicF_of (d1.fr f2) q2
  rcases r.val z with ⟨u, c, h1, h2, dq⟩ | ⟨_, h2⟩
  · rw [hv] at h2
    cases h2
    exact ⟨p, u, rfl, by rw [← h1]; exact DGet.r e1, k _ _ _ _ q2 (f1.trans f2) E2 dq⟩
  · rw [hv] at h2; cases h2
/-- k in d, k not in d -/
def fIn (m : Option Nat) (neg : Bool) (b a : FE) : FE := fun ρ P => b ρ fun y ρ1 => a ρ1 fun x ρ2 => keyF y fun k => dicF m ρ2 x fun kd => P (.bool (if neg then !(valD kd k).isSome else (valD kd k).isSome)) ρ2
theorem re_in {ta tb : TE} {a b : FE} (hb : RE K J tb b) (ha : RE K J ta a) : RE K J (tDIn tb ta) (fIn m false b a) := by
  intro O as σ H Q ρ P E q k
  refine hb O as σ H _ ρ _ E q fun y ρ1 v H1 q1 f1 E1 d1 => ?_
  refine ha O as σ H1 _ ρ1 _ E1 q1 fun x ρ2 w H2 q2 f2 E2 d2 => ?_
  obtain ⟨z, rfl, q2⟩ := keyF_of (d1.fr f2) q2
  obtain ⟨p, kv, kd, rfl, e1, r, q2⟩ := E2.dicF_of d2 q2
  refine ⟨p, _, rfl, DGet.r e1, ?_⟩
  refine k _ _ _ _ q2 (f1.trans f2) E2 ?_
  rcases r.val z with ⟨u, c, h1, h2, dq⟩ | ⟨h1, h2⟩ <;> rw [h1, h2] <;> exact .bl _
/-- d.get(k), d.get(k, x) -/
def fGet1 (m : Option Nat) (a b : FE) : FE := fun ρ P => a ρ fun x ρ1 => dicF m ρ1 x fun _ => b ρ1 fun y ρ2 => keyF y fun k => dicF m ρ2 x fun kd => P ((valD kd k).getD .none) ρ2
def fGet2 (m : Option Nat) (a b c : FE) : FE := fun ρ P => a ρ fun x ρ1 => dicF m ρ1 x fun _ => b ρ1 fun y ρ2 => keyF y fun k => c ρ2 fun d ρ3 => dicF m ρ3 x fun kd => P ((valD kd k).getD d) ρ3
theorem re_get2 {ta tb tc : TE} {a b c : FE} (ha : RE K J ta a) (hb : RE K J tb b) (hc : RE K J tc c) : RE K J (tDGet2 ta tb tc) (fGet2 m a b c) := by
  intro O as σ H Q ρ P E q k
  refine ha O as σ H _ ρ _ E q fun x ρ1 v H1 q1 f1 E1 d1 => ?_
  obtain ⟨p, kv1, kd1, rfl, g1, _, q1⟩ := E1.dicF_of d1 q1
  refine ⟨p, rfl, .inl ⟨kv1, g1⟩, ?_⟩
  refine hb O as σ H1 _ ρ1 _ E1 q1 fun y ρ2 w H2 q2 f2 E2 d2 => ?_
  obtain ⟨z, rfl, q2⟩ := keyF_of d2 q2
  refine hc O as σ H2 _ ρ2 _ E2 q2 fun d ρ3 u3 H3 q3 f3 E3 d3 => ?_
  obtain ⟨p2, kv, kd, e2, e1, r, q3⟩ := E3.dicF_of ((d1.fr f2).fr f3) q3
  cases e2
  refine ⟨_, DGet.r e1, k _ _ _ _ q3 ((f1.trans f2).trans f3) E3 ?_⟩
  rcases r.val z with ⟨u, c, h1, h2, dq⟩ | ⟨h1, h2⟩ <;> rw [h1, h2]
  · exact dq
  · exact d3
/-- sorted(d), whole numbers for keys -/
def fSortI (m : Option Nat) (a : FE) : FA := fun ρ P => a ρ fun x ρ1 => dicF m ρ1 x fun kd => ∃ ks, kd.map (·.1) = ks.map Sum.inl ∧ ∀ ys : List Int, ys.Perm ks → ys.Pairwise (· ≤ ·) → P (ys.map .int) ρ1
/-- what a walk over a dict gives: keys, things, pairs -/
def walkD (kind : Nat) (kd : Kvs) : List PyData := match kind with
  | 0 => kd.map fun z => keyD z.1
  | 1 => kd.map (·.2)
  | _ => itemsD kd
section
variable {ta : TE} {a : FE} {g : TG} {tt : TT} {te : TE} {fg : FG} {ft : FT} {fe : FE} {ws vs : List Nat}
end
end
end DL
/-! list(d.values()) -/
namespace L2
open PySem PySem.Spec PyProof.Rows
section
variable {X : Cx} {e : Expr} {te : TE} {p apos cpos pos : Pos}
end
end L2
namespace DL
open PySem L2 Z PySem.Spec PyProof.Rows
variable [Tbs]
section
variable {K : PySem.W.Frag} {n : Nat} {J : Jv n} {m : Option Nat}
/-- list(d.values()) -/
def fValsL (m : Option Nat) (a : FE) : FA := fun ρ P => a ρ fun x ρ1 => dicF m ρ1 x fun kd => P (kd.map (·.2)) ρ1
end
end DL
/-! t < u of tuples of numbers; d.setdefault(k, x); x or y of texts -/
namespace DL
open PySem L2 Z PySem.Spec PyProof.Rows
variable [Tbs]
def oLtT : G2 := fun a b P => tupleF a fun ds => tupleF b fun es => intsF ds fun ns => intsF es fun ms => P (.bool (HT.lexLt ns ms))
section
variable {K : PySem.W.Frag} {n : Nat} {J : Jv n} {sx : Nat}
/-- d.setdefault(k, x) -/
def fSetd (sx : Nat) (a b c : FE) : FE := fun ρ P => a ρ fun x ρ1 => stF ρ1 sx fun S1 => ∃ p kd1, x = hdl p ∧ S1 p = some (.dct kd1) ∧ b ρ1 fun y ρ2 => keyF y fun k => c ρ2 fun d ρ3 => stF ρ3 sx fun S => ∃ kd, S p = some (.dct kd) ∧ kd.length < sizeLine ∧
  match valD kd k with
  | some e => P e ρ3
  | none => P d (ρ3.set sx (.st (sset S p (.dct (putE kd k d)))))
theorem re_setd {ta tb tc : TE} {a b c : FE} (ha : RE K J ta a) (hb : RE K J tb b) (hc : RE K J tc c) : RE K J (tDSetd ta tb tc) (fSetd sx a b c) := by
  intro O as σ H Q ρ P E q k
  refine ha O as σ H _ ρ _ E q fun x ρ1 v H1 q1 f1 E1 d1 => ?_
  obtain ⟨S1, hs1, p, kd1, rfl, e1, q1⟩ := stF_of q1
  obtain ⟨kv1, g1, _⟩ := E1.dctS hs1 e1
  rw [d1.hdl_of]
  refine ⟨p, rfl, .inl ⟨kv1, .inl g1⟩, ?_⟩
  refine hb O as σ H1 _ ρ1 _ E1 q1 fun y ρ2 w H2 q2 f2 E2 d2 => ?_
  obtain ⟨z, rfl, q2⟩ := keyF_of d2 q2
  refine hc O as σ H2 _ ρ2 _ E2 q2 fun d ρ3 u3 H3 q3 f3 E3 d3 => ?_
  obtain ⟨S, hs, kd, e, l, q3⟩ := stF_of q3
  obtain ⟨kv, e3, r⟩ := E3.dctS hs e
  refine ⟨kv, z, e3, rfl, by rw [r.len]; exact l, fun v hv => ?_, fun hn => ?_⟩
  · rcases r.val z with ⟨u, c, h1, h2, dq⟩ | ⟨h1, h2⟩
    · rw [h2] at q3
      rw [hv] at h1
      cases h1
      exact k _ _ _ _ q3 ((f1.trans f2).trans f3) E3 dq
    · rw [hv] at h1; cases h1
  · rcases r.val z with ⟨u, c, h1, h2, dq⟩ | ⟨h1, h2⟩
    · rw [hn] at h1; cases h1
    · rw [h2] at q3
      obtain ⟨E4, f4⟩ := E3.setS hs e (u' := .dK (L2.putK kv z u3)) (o' := .dct (putE kd z d)) (.dct (r.put d3))
      exact k _ _ _ ⟨_, _⟩ q3 (((f1.trans f2).trans f3).trans f4) E4 (d3.fr f4)
end
end DL
namespace DL
open PySem L2 Z PySem.Spec PyProof.Rows
variable [Tbs]
section
variable {K : PySem.W.Frag} {n : Nat} {J : Jv n} {sx : Nat}
/-- x or y, by truth -/
def fOrT (a b : FE) : FE := fun ρ P => a ρ fun d ρ1 => truF d fun c => if c = true then P d ρ1 else b ρ1 P
end
end DL
/-! sorted(rows, key=lambda row: row[:2]), rows of which the first two are whole numbers -/
namespace DL
open PySem L2 Z PySem.Spec PyProof.Rows
section
variable {X : Cx} {pins : List (Addr × Obj)} {σ : L2.St} {H : Hp} {s : Shared}
/-- what a lambda of one name that takes nothing from around asks -/
structure Lam0 (scope : Scope) (x : Str) : Prop where
  kind : scope.kind = .function
  co : scope.isCoroutine = false
  gen : scope.isGenerator = false
  nocell : ∀ y ∈ scope.names, y.2 ≠ .cell
  nofree : ∀ y ∈ scope.names, y.2 ≠ .free
  here : scope.names.lookup x = some .local
/-- rows by their first two -/
def le2 {β : Type} (k : β → Int × Int) (p q : β) : Bool := decide ((k p).1 < (k q).1 ∨ ((k p).1 = (k q).1 ∧ (k p).2 ≤ (k q).2))
end
end DL
namespace DL
open PySem L2 Z PySem.Spec PyProof.Rows
variable [Tbs]
section
variable {K : PySem.W.Frag} {n : Nat} {J : Jv n}
end
end DL
/-! dicts of the module with texts for keys; a local name that holds a def (plain, or handed the store), called -/
namespace DL
open PySem L2 Z PySem.Spec PyProof.Rows
/-- a dict of the module: at its place, and what it gives as data -/
structure KTb (K : PySem.W.Frag) (w : World) (a : Addr) (tb : List (Str × PyData)) : Prop where
  ex : ∃ es n, KDict K w a es n
  get : ∀ z : Str, (tb.lookup z = none ∧ PySem.W.nsIn K a z = some none) ∨ ∃ v u d, tb.lookup z = some d ∧ PySem.W.nsIn K a z = some (some u) ∧ RelV v u ∧ ∀ G, Dq K G v d
section
variable {X : Cx} {a : Addr} {tb : List (Str × PyData)}
/-- d.get(k, x), d of the module -/
def tKGet2 (K : PySem.W.Frag) (a : Addr) (ty tx : TE) : TE := fun σ H Q => ty σ H fun y H2 => tx σ H2 fun z H3 => ∃ (k : Str) (r : Option Value), y = .str k ∧ PySem.W.nsIn K a k = some r ∧ (r = none → Q z H3) ∧ ∀ u, r = some u → ∃ v, RelV v u ∧ Q v H3
theorem pe_kget2 {o e f : Expr} {ty tx : TE} {apos cpos : Pos} {es : Array DictEntry} {n : Nat} (D : KDict X.K X.w a es n) (ho : PE X o (tC (.ref a))) (he : PE X e ty) (hf : PE X f tx) (m : M2 X o "get" apos e f cpos) : PE X (.Call (.Attribute o "get" apos) [e, f] [] cpos) (tKGet2 X.K a ty tx) := by
  refine ⟨fun pins s σ H Q I h => ?_⟩
  refine wpAny_Call_method m.base m.few m.line PySem.F.plainAttrs_dict PySem.F.slot_dict_get PySem.F.type_dict_get (thn (ho.run pins s σ H (fun x H1 => x = .ref a ∧ H1 = H) I ⟨rfl, rfl⟩) fun u s1 ⟨x, H1, I1, rx, ex, e1⟩ => ?_)
  subst ex e1
  obtain rfl : u = Value.ref a := rx
  refine ⟨kd_type D I1, (PySem.W.mapOf_K (prog := X.prog) (w := X.w) I1.kIn D.at_ D.lit).noDict, ?_⟩
  rw [m.trees]
  refine Calls.callWith_builtin rfl (Calls.evalArgs_plain (Calls.spliced_cons (thn (he.run pins s1 σ H1 _ I1 h) fun iv s2 ⟨y, H2, I2, ry, q2⟩ =>
    Calls.spliced_cons (thn (hf.run pins s2 σ H2 _ I2 q2) fun fv s3 ⟨z, H3, I3, rz, k, r, ey, hn, q3, q4⟩ => Calls.spliced_nil ?_))))
  subst ey
  obtain ⟨t, rfl⟩ := ry
  refine call_meetsIn PySem.F.slot_dict_get (kd_type D I3) PySem.F.entry_dict_get (PySem.F.args_dict_get_3 _ _ _) (meets_dict_get_default (PySem.strKind X.prog X.w) a (PySem.strKind_is X.prog X.w k t) D.low fv) ⟨_, PySem.W.mapOf_K (prog := X.prog) (w := X.w) I3.kIn D.at_ D.lit, ?_⟩
  rw [PySem.W.find_K D.at_ hn]
  cases r with
  | none => exact ⟨z, H3, I3.tok _, rz, q3 rfl⟩
  | some u =>
    obtain ⟨v, rv, q⟩ := q4 u rfl
    exact ⟨v, H3, I3.tok _, rv, q⟩
end
variable [Tbs]
section
variable {K : PySem.W.Frag} {n : Nat} {J : Jv n} {a : Addr} {tb : List (Str × PyData)} {w : World}
def strK (y : PyData) (k : Str → Prop) : Prop := match y with
  | .str z => k z
  | _ => False
theorem strK_of {G : Hp} {v : V} {d : PyData} {k : Str → Prop} (q : Dq K G v d) (h : strK d k) : ∃ z, v = .str z ∧ k z := by
  unfold strK at h
  split at h
  · cases q; exact ⟨_, rfl, h⟩
  · exact h.elim
/-- k in d, k not in d -/
def fKIn (neg : Bool) (tb : List (Str × PyData)) (b : FE) : FE := fun ρ P => b ρ fun y ρ1 => strK y fun z => P (.bool (if neg then !(tb.lookup z).isSome else (tb.lookup z).isSome)) ρ1
theorem re_knin {tx : TE} {b : FE} (kt : KTb K w a tb) (hb : RE K J tx b) : RE K J (tOp (fun x y H Q => ∃ (z : Str) (r : Option Value), x = .str z ∧ y = .ref a ∧ PySem.W.nsIn K a z = some r ∧ Q (.bl (!r.isSome)) H) tx (tC (.ref a))) (fKIn true tb b) := by
  intro O as σ H Q ρ P E q k
  refine hb O as σ H _ ρ _ E q fun y ρ1 v H1 q1 f1 E1 d1 => ?_
  obtain ⟨z, rfl, q1⟩ := strK_of d1 q1
  rcases kt.get z with ⟨h1, h2⟩ | ⟨v, u, d, h1, h2, _⟩
  · rw [h1] at q1; exact ⟨z, none, rfl, rfl, h2, k _ _ _ _ q1 f1 E1 (.bl _)⟩
  · rw [h1] at q1; exact ⟨z, some u, rfl, rfl, h2, k _ _ _ _ q1 f1 E1 (.bl _)⟩
/-- d[k] -/
def fKGet (tb : List (Str × PyData)) (b : FE) : FE := fun ρ P => b ρ fun y ρ1 => strK y fun z => ∃ d, tb.lookup z = some d ∧ P d ρ1
theorem re_kget {tx : TE} {b : FE} (kt : KTb K w a tb) (hb : RE K J tx b) : RE K J (tOp (rIxD K w) (tC (.ref a)) tx) (fKGet tb b) := by
  intro O as σ H Q ρ P E q k
  refine hb O as σ H _ ρ _ E q fun y ρ1 v H1 q1 f1 E1 d1 => ?_
  obtain ⟨z, rfl, d, hd, q1⟩ := strK_of d1 q1
  rcases kt.get z with ⟨h1, h2⟩ | ⟨v, u, d', h1, h2, h3, h4⟩
  · rw [hd] at h1; cases h1
  · rw [hd] at h1
    cases h1
    obtain ⟨es, n, D⟩ := kt.ex
    exact ⟨a, z, v, rfl, rfl, ⟨es, n, u, D.at_, D.lit, h2, h3⟩, k _ _ _ _ q1 f1 E1 (h4 _)⟩
/-- d.get(k, x) -/
def fKGet2 (tb : List (Str × PyData)) (b c : FE) : FE := fun ρ P => b ρ fun y ρ1 => strK y fun z => c ρ1 fun x ρ2 => P ((tb.lookup z).getD x) ρ2
theorem re_kget2 {tx ty : TE} {b c : FE} (kt : KTb K w a tb) (hb : RE K J tx b) (hc : RE K J ty c) : RE K J (tKGet2 K a tx ty) (fKGet2 tb b c) := by
  intro O as σ H Q ρ P E q k
  refine hb O as σ H _ ρ _ E q fun y ρ1 v H1 q1 f1 E1 d1 => ?_
  obtain ⟨z, rfl, q1⟩ := strK_of d1 q1
  refine hc O as σ H1 _ ρ1 _ E1 q1 fun x ρ2 v2 H2 q2 f2 E2 d2 => ?_
  rcases kt.get z with ⟨h1, h2⟩ | ⟨v, u, d', h1, h2, h3, h4⟩
  · rw [h1] at q2
    exact ⟨z, none, rfl, h2, fun _ => k _ _ _ _ q2 (f1.trans f2) E2 d2, (fun _ e => by cases e)⟩
  · rw [h1] at q2
    refine ⟨z, some u, rfl, h2, (fun e => by cases e), fun u' e => ?_⟩
    cases e
    exact ⟨v, h3, k _ _ _ _ q2 (f1.trans f2) E2 (h4 _)⟩
end
/-! a local name that holds a def that doesn't raise -/
structure Held0 (P : Program) (w : World) (K : PySem.W.Frag) (mg : Str → Option Value) (base : Heap) (k : Nat) (f : Addr) (sp : Sp) : Prop where
  ex : ∃ (fd : FuncData) (ps : List Str), FnOk P w K mg base CX0 k f fd ps sp ∧ PySem.W.keepIn K (.ref f) = true ∧ Binds K fd ps []
def tCallV0 (i : Nat) (S : Addr → Sp → Prop) (E : XK) (t : TA) : TE := fun σ H Q => ∃ f sp, σ[i]? = some (some (.ref f)) ∧ S f sp ∧ t σ H fun vs H1 => sp vs H1 Q E
section
variable {X : Cx} {k i : Nat} {E : XK} {x : Str} {p pos : Pos} {e : Expr} {es : List Expr} {t : TA}
theorem pe_callV0 {S : Addr → Sp → Prop} (A : ∀ f sp, S f sp → Held0 X.prog X.w X.K X.mg X.base k f sp) (hr : Room k X.A) (hN : X.N[i]? = some x) (hv : Vis X.env.scope x) (hx : Passes CX0 X E) (ha : PA X (e :: es) t)
    (hdb : (x == ("__debug__" : Str)) = false := by decide) (hcd : (x == ("__classdict__" : Str)) = false := by decide)
    (he : starEach (e :: es) X.env = (false, eval e X.env) :: starEach es X.env := by rfl) (hpl : (backTo pos (starEach es X.env)).any (·.1) = false := by rfl) : PE X (.Call (.Name x p) (e :: es) [] pos) (tCallV0 i S E t) := by
  refine ⟨fun pins s σ H Q I h => ?_⟩
  obtain ⟨f, sp, hs, hS, ht⟩ := h
  obtain ⟨fd, ps, F, hk, hb⟩ := (A f sp hS).ex
  refine wpAny_Call_Name_kw (thn ((pe_var (pos := p) hN hv hdb hcd).run pins s σ H (fun v H1 => v = .ref f ∧ H1 = H) I ⟨.ref f, hs, rfl, rfl⟩) fun u s1 ⟨v, H1, I1, r1, q1⟩ => ?_)
  obtain ⟨rfl, rfl⟩ := q1
  cases r1
  refine PySem.W.callWith_K (h₀ := X.base) I.ok.mod.kin hk (thn (ha.run pos pins s1 σ _ _ I1 ht) fun us s2 ⟨vs, H2, I2, r, q⟩ => ⟨I2.kIn, ?_⟩) he hpl
  exact run_fn F hr hb .nil hx I2 r (by rw [List.append_nil]; exact q)
end
section
variable {K : PySem.W.Frag} {n : Nat} {J : Jv n}
def tabN : List (Str × Nat × FN) → Str → (Nat → FN → Prop) → Prop
  | [], _, _ => False
  | (y, m, F) :: l, x, k => if y = x then k m F else tabN l x k
theorem tabN_of {x : Str} {k : Nat → FN → Prop} : ∀ {l : List (Str × Nat × FN)}, tabN l x k → ∃ m F, (x, m, F) ∈ l ∧ k m F
  | [], h => h.elim
  | (y, m, F) :: l, h => by
    unfold tabN at h
    split at h
    · next e => subst e; exact ⟨m, F, List.mem_cons_self, h⟩
    · obtain ⟨m', F', hm, hk⟩ := tabN_of h
      exact ⟨m', F', List.mem_cons_of_mem _ hm, hk⟩
theorem heldF_cons {S : Addr → Sp → Prop} {x0 : Str} {m0 : Nat} {F0 : FN} {a0 : Addr} {l : List (Str × Nat × FN)} (q : PySem.W.nsIn K mainGlobals x0 = some (some (.ref a0))) (h : S a0 (spF K m0 F0)) (r : ∀ x m F a, (x, m, F) ∈ l → PySem.W.nsIn K mainGlobals x = some (some (.ref a)) → S a (spF K m F)) :
    ∀ x m F a, (x, m, F) ∈ (x0, m0, F0) :: l → PySem.W.nsIn K mainGlobals x = some (some (.ref a)) → S a (spF K m F) := fun x m F a hm hn => by
  rcases List.mem_cons.mp hm with e | e
  · cases e
    rw [q] at hn
    cases hn
    exact h
  · exact r x m F a e hn
theorem callV0_of {sp : Sp} {E : XK} {t : TA} {σ : L2.St} {H : Hp} {Q : VK} (h : tCall sp [] E t σ H Q) : t σ H fun vs H1 => sp vs H1 Q E := by
  unfold tCall at h
  simp only [List.append_nil] at h
  exact h
/-- the def that a slot holds, called -/
def fCallV0 (i : Nat) (tab : List (Str × Nat × FN)) (a : FC) : FE := fun ρ P => funF ρ i fun x => tabN tab x fun m F => fCall m F [] a ρ P
theorem re_callV0 {i : Nat} {S : Addr → Sp → Prop} {tab : List (Str × Nat × FN)} {E0 : XK} {t : TA} {f : FC} (hS : ∀ x m F a, (x, m, F) ∈ tab → PySem.W.nsIn K mainGlobals x = some (some (.ref a)) → S a (spF K m F)) (ha : RC K J t f) : RE K J (tCallV0 i S E0 t) (fCallV0 i tab f) := by
  intro O as σ H Q ρ P E q k
  obtain ⟨x, hx, q⟩ := funF_of q
  obtain ⟨m, F, hm, q⟩ := tabN_of q
  obtain ⟨v, e1, _, d0⟩ := E.fz_at hx
  obtain ⟨a, rfl, hn⟩ := Dq.fn_of d0
  exact ⟨a, _, e1, hS x m F a hm hn, callV0_of (re_call (dvs := []) (dv := []) (fun _ => .nil) ha O as σ H Q ρ P E q k)⟩
/-- .. which is handed the store -/
def fCallV0S (sx i : Nat) (tab : List (Str × Nat × FN)) (a : FC) : FE := fun ρ P => funF ρ i fun x => tabN tab x fun m F => fCallS sx m F [] a ρ P
end
end DL
namespace DL
open PySem L2 Z PySem.Spec PyProof.Rows
section
variable {X : Cx} {a : Addr} {tb : List (Str × PyData)}
theorem op_notIn_kt (kt : KTb X.K X.w a tb) : OpR X (compareOp .NotIn) (fun x y H Q => ∃ (z : Str) (r : Option Value), x = .str z ∧ y = .ref a ∧ PySem.W.nsIn X.K a z = some r ∧ Q (.bl (!r.isSome)) H) := let ⟨_, _, D⟩ := kt.ex; op_notIn_kd D
theorem pe_kget2t {o e f : Expr} {ty tx : TE} {apos cpos : Pos} (kt : KTb X.K X.w a tb) (ho : PE X o (tC (.ref a))) (he : PE X e ty) (hf : PE X f tx) (m : M2 X o "get" apos e f cpos) : PE X (.Call (.Attribute o "get" apos) [e, f] [] cpos) (tKGet2 X.K a ty tx) := let ⟨_, _, D⟩ := kt.ex; pe_kget2 D ho he hf m
end
end DL
/-! d[k] of a dict of the store as a target; h.pop() -/
namespace DL
open PySem L2 Z PySem.Spec PyProof.Rows
variable [Tbs]
section
variable {K : PySem.W.Frag} {n : Nat} {J : Jv n} {sx : Nat}
def gSubD (sx : Nat) (a b : FE) : FG := fun d ρ P => a ρ fun x ρ1 => b ρ1 fun y ρ2 => keyF y fun k => stF ρ2 sx fun S => ∃ p kd, x = hdl p ∧ S p = some (.dct kd) ∧ kd.length < sizeLine ∧ P (ρ2.set sx (.st (sset S p (.dct (putE kd k d)))))
/-- h.pop(), h.pop() as a statement's value -/
def fPopH (sx : Nat) (a : FE) : FE := fun ρ P => a ρ fun x ρ1 => stF ρ1 sx fun S => ∃ p ds d, x = hdl p ∧ S p = some (.lst ds) ∧ ds[ds.length - 1]? = some d ∧ P d (ρ1.set sx (.st (sset S p (.lst ds.dropLast))))
/-- own.remove(e), whole numbers, one of them -/
def fRemO (i : Nat) (a : FE) : FS := fun E ρ => ownF ρ i fun _ => a ρ fun x ρ1 => intF x fun k => ownF ρ1 i fun ds => ∃ ns : List Int, ds = ns.map .int ∧ k ∈ ns ∧ E.nx (ρ1.set i (.own ((ns.erase k).map .int)))
theorem erase_first {k : Int} : ∀ {ns : List Int}, k ∈ ns → ∃ j, ns[j]? = some k ∧ (∀ m : Nat, m < j → ns[m]? ≠ some k) ∧ ns.eraseIdx j = ns.erase k := fun h => by
  obtain ⟨j, _, h2, h3, h4⟩ := first_at h
  exact ⟨j, h2, h3, h4⟩
end
end DL
/-! < of numbers or of texts; a comprehension over a locked dict, stored; a def with the store whose code is known -/
namespace DL
open PySem L2 Z PySem.Spec PyProof.Rows
section
variable {X : Cx}
def rLtM : R2 := fun x y H Q => (∃ i j : Int, x = .int i ∧ y = .int j ∧ Q (.bl (decide (i < j))) H) ∨ ∃ i j : Str, x = .str i ∧ y = .str j ∧ Q (.bl (decide (i.cps.toList < j.cps.toList))) H
theorem op_ltM : OpR X (compareOp .Lt) rLtM := by
  intro pins s σ H x y v u Q I rx ry h
  rcases h with h | h
  · exact op_lt pins s σ H x y v u Q I rx ry h
  · exact op_lt_str pins s σ H x y v u Q I rx ry h
end
def oLtM : G2 := fun a b P => match a, b with
  | .int i, .int j => P (.bool (decide (i < j)))
  | .str x, .str y => P (.bool (decide (x.cps.toList < y.cps.toList)))
  | _, _ => False
theorem rr_ltM {K : PySem.W.Frag} [Tbs] : RR K rLtM oLtM := by
  intro A H Q x y a b P oc da db g k
  unfold oLtM at g
  split at g
  · cases da; cases db; exact .inl ⟨_, _, rfl, rfl, k _ _ _ g (Same.refl _) (.bl _)⟩
  · cases da; cases db; exact .inr ⟨_, _, rfl, rfl, k _ _ _ g (Same.refl _) (.bl _)⟩
  · exact g.elim
variable [Tbs]
section
variable {P : Program} {w : World} {K : PySem.W.Frag} {mg : Str → Option Value} {base : Heap} {k : Nat} {f : Addr} {fd : FuncData} {ps : List Str} {x qual : Str} {st : Stmt} {N : List Str}
end
end DL
/-! a comprehension over a dict that is data, locked meanwhile -/
namespace DL
open PySem L2 Z PySem.Spec PyProof.Rows
variable [Tbs]
/-- but for the locks of dicts all is the same -/
structure Lks (G G' : Hp) : Prop where
  k : ∀ a o, G a = some o → (∀ kv, o ≠ .dK kv) → (∀ od kv, o ≠ .frz od (.dK kv)) → G' a = some o
  d : ∀ a kv, L2.Rd G a (.dK kv) → L2.Rd G' a (.dK kv)
section
variable {K : PySem.W.Frag} {G G' : Hp}
theorem Lks.sqL (l : Lks G G') {a : Addr} {xs : List V} (h : SqL K G a xs) : SqL K G' a xs :=
  h.imp (Or.imp (fun e => l.k _ _ e (fun _ z => by cases z) fun _ _ z => by cases z) fun ⟨o, e⟩ => ⟨o, l.k _ _ e (fun _ z => by cases z) fun _ _ z => by cases z⟩) id
theorem Lks.sqT (l : Lks G G') {a : Addr} {xs : List V} (h : SqT K G a xs) : SqT K G' a xs :=
  h.imp (Or.imp (fun e => l.k _ _ e (fun _ z => by cases z) fun _ _ z => by cases z) fun ⟨o, e⟩ => ⟨o, l.k _ _ e (fun _ z => by cases z) fun _ _ z => by cases z⟩) id
mutual
theorem Dq.lks (l : Lks G G') : ∀ {v : V} {d : PyData}, Dq K G v d → Dq K G' v d
  | _, _, .non => .non
  | _, _, .bl b => .bl b
  | _, _, .int i => .int i
  | _, _, .str x => .str x
  | _, _, .lst h r => .lst (l.sqL h) (DqAll.lks l r)
  | _, _, .tup h r => .tup (l.sqT h) (DqAll.lks l r)
  | _, _, .obj c h r => .obj c (l.k _ _ h (fun _ z => by cases z) fun _ _ z => by cases z) (DqFs.lks l r)
  | _, _, .exc c h g r => .exc c (l.k _ _ h (fun _ z => by unfold exk at z; cases z) fun _ _ z => by unfold exk at z; cases z) (l.k _ _ g (fun _ z => by cases z) fun _ _ z => by cases z) (DqFs.lks l r)
  | _, _, .fnc h => .fnc h
  | _, _, .hdl => .hdl
  | _, _, .tn h n r => .tn (l.k _ _ h (fun _ z => by cases z) fun _ _ z => by cases z) n (DqAll.lks l r)
  | _, _, .dct h r => .dct (l.d _ _ h) (DqKs.lks l r)
theorem DqKs.lks (l : Lks G G') : ∀ {fv : List (L2.Key × V)} {fs : List (L2.Key × PyData)}, DqKs K G fv fs → DqKs K G' fv fs
  | _, _, .nil => .nil
  | _, _, .cons a b => .cons (Dq.lks l a) (DqKs.lks l b)
theorem DqFs.lks (l : Lks G G') : ∀ {fv : List (Str × V)} {fs : List (PyData × PyData)}, DqFs K G fv fs → DqFs K G' fv fs
  | _, _, .nil => .nil
  | _, _, .cons a b => .cons (Dq.lks l a) (DqFs.lks l b)
theorem DqAll.lks (l : Lks G G') : ∀ {v : List V} {d : List PyData}, DqAll K G v d → DqAll K G' v d
  | _, _, .nil => .nil
  | _, _, .cons a b => .cons (Dq.lks l a) (DqAll.lks l b)
end
theorem SoR.lks (l : Lks G G') {u : HO} {o : SO} (h : SoR K G u o) : SoR K G' u o := by
  cases h with
  | lst q => exact .lst (q.lks l)
  | obj c q => exact .obj c (q.lks l)
  | dct q => exact .dct (q.lks l)
  | dctL q => exact .dctL (q.lks l)
end
section
variable {K : PySem.W.Frag} {n : Nat} {J : Jv n}
end
section
variable {K : PySem.W.Frag} {n : Nat} {J : Jv n}
section
variable {ta : TE} {a : FE} {g : TG} {tt : TT} {te : TE} {fg : FG} {ft : FT} {fe : FE} {ws vs : List Nat}
end
end
end DL
/-! sum(t) of a tuple of numbers -/
namespace L2
open PySem PySem.Spec PyProof.Rows
section
variable {X : Cx}
end
end L2
namespace DL
open PySem L2 Z PySem.Spec PyProof.Rows
variable [Tbs]
def bSumT (ds : List PyData) (P : PyData → Prop) : Prop := one ds fun d => tupleF d fun es => intsF es fun ns => P (.int ns.sum)
end DL
/-! a dict of the module, as the end finds it -/
namespace DL
open PySem L2 Z PySem.Spec PyProof.Rows
/-- an entry: hash, the key's mark, key, value, the value as data -/
structure KEnt where
  h : Int
  t : Tok
  x : Str
  v : Value
  d : PyData
def KEnt.e (k : KEnt) : DictEntry := ⟨k.h, .str k.x k.t, k.v⟩
theorem KEnt.nr : ∀ ks : List KEnt, (ks.map KEnt.e).any (·.refKey) = false
  | [] => rfl
  | k :: r => by rw [List.map_cons, List.any_cons, KEnt.nr r]; rfl
theorem KEnt.look (z : Str) : ∀ ks : List KEnt, ((ks.map fun k => (k.x, k.d)).lookup z = none ∧ (ks.map KEnt.e).find? (·.key.isStr z) = none) ∨ ∃ k ∈ ks, (ks.map fun k => (k.x, k.d)).lookup z = some k.d ∧ (ks.map KEnt.e).find? (·.key.isStr z) = some k.e
  | [] => .inl ⟨rfl, rfl⟩
  | k :: r => by
    rw [List.map_cons, List.lookup_cons, List.map_cons, List.find?_cons]
    by_cases e : k.x = z
    · refine .inr ⟨k, List.mem_cons_self, ?_⟩
      have h1 : (z == (k.x, k.d).1) = true := by simp [e]
      have h2 : k.e.key.isStr z = true := by show (k.x == z) = true; simp [e]
      rw [h1, h2]
      exact ⟨rfl, rfl⟩
    · have h1 : (z == (k.x, k.d).1) = false := by simpa using fun h => e h.symm
      have h2 : k.e.key.isStr z = false := by show (k.x == z) = false; simpa using e
      rw [h1, h2]
      rcases KEnt.look z r with ⟨a, b⟩ | ⟨j, hj, a, b⟩
      · exact .inl ⟨a, b⟩
      · exact .inr ⟨j, List.mem_cons_of_mem _ hj, a, b⟩
theorem KTb.of {K : PySem.W.Frag} {w : World} {a : Addr} {n : Nat} (ks : List KEnt) (hl : K.lookup a = some ⟨.type "dict", none, .dict (ks.map KEnt.e).toArray n, #[]⟩) (lit : PySem.W.KeysLit w.params (ks.map KEnt.e)) (low : (a == sysModules) = false)
    (hv : ∀ k ∈ ks, ∃ v, RelV v k.v ∧ ∀ G, Dq K G v k.d) : KTb K w a (ks.map fun k => (k.x, k.d)) := by
  refine ⟨⟨_, n, hl, lit, low⟩, fun z => ?_⟩
  unfold PySem.W.nsIn
  rw [hl]
  simp only
  rcases KEnt.look z ks with ⟨h1, h2⟩ | ⟨k, hk, h1, h2⟩
  · rw [h2]
    refine .inl ⟨h1, ?_⟩
    simp only [KEnt.nr ks]
    rfl
  · rw [h2]
    obtain ⟨v, q1, q2⟩ := hv k hk
    exact .inr ⟨v, _, _, h1, rfl, q1, q2⟩
theorem KEnt.fn {K : PySem.W.Frag} {x : Str} {a : Addr} (h : PySem.W.nsIn K mainGlobals x = some (some (.ref a))) : ∃ v, RelV v (.ref a) ∧ ∀ G, Dq K G v (fnD x) := ⟨.ref a, rfl, fun _ => .fnc h⟩
theorem KEnt.int {K : PySem.W.Frag} {i : Int} {t : Tok} : ∃ v, RelV v (.int i t) ∧ ∀ G, Dq K G v (.int i) := ⟨.int i, ⟨_, rfl⟩, fun _ => .int i⟩
theorem KEnt.str {K : PySem.W.Frag} {x : Str} {t : Tok} : ∃ v, RelV v (.str x t) ∧ ∀ G, Dq K G v (.str x) := ⟨.str x, ⟨_, rfl⟩, fun _ => .str x⟩
theorem KEnt.nil {p : KEnt → Prop} : ∀ k ∈ ([] : List KEnt), p k := fun _ h => by cases h
theorem KEnt.cons {p : KEnt → Prop} {k : KEnt} {r : List KEnt} (h : p k) (q : ∀ k ∈ r, p k) : ∀ j ∈ k :: r, p j := fun j hj => (List.mem_cons.mp hj).elim (fun e => by rw [e]; exact h) (q j)
end DL
/-! zip(xs, ys, strict=True) of two lists of one length; a store's list.remove(x) -/
namespace ZS
open PySem
open Sem (wp)
/-- the strict zip's own object -/
abbrev zob (f TI TO : Value) : Obj := { cls := .type "zip", dict := none, data := .fields #[f, .bool false, .bool true, TI, TO], slots := #[] }
abbrev two (a b : Value) : Obj := { cls := .type "tuple", data := .seq #[a, b] }
section
variable {z TI TO i1 i2 l1 l2 : Addr} {xs ys : Array Value}
/-- where a strict zip of two lists stands -/
structure At (z TI TO i1 i2 l1 l2 : Addr) (xs ys : Array Value) (h : Heap) (f a b : Value) (k m : Nat) : Prop where
  zz : h.get? z = some (zob f (.ref TI) (.ref TO))
  ti : h.get? TI = some (two (.ref i1) (.ref i2))
  tt : h.get? TO = some (two a b)
  w1 : h.IsListIter i1 l1 k
  w2 : h.IsListIter i2 l2 m
  q1 : h.IsList l1 xs
  q2 : h.IsList l2 ys
variable {h g : Heap} {f f' a b a' b' : Value} {k m : Nat}
/-- all but these four places stays -/
def Rest (z TO i1 i2 : Addr) (h g : Heap) : Prop := ∀ c o, c ≠ z → c ≠ TO → c ≠ i1 → c ≠ i2 → h.get? c = some o → g.get? c = some o
theorem At.moveZ (D : ZipApart z TI TO i1 i2 l1 l2) (A : At z TI TO i1 i2 l1 l2 xs ys h f a b k m) (e : g.get? z = some (zob f' (.ref TI) (.ref TO))) (r : Heap.ExtBut z h g) : At z TI TO i1 i2 l1 l2 xs ys g f' a b k m :=
  ⟨e, r _ _ D.TIz A.ti, r _ _ D.TOz A.tt, A.w1.at fun o => r _ o D.i1z, A.w2.at fun o => r _ o D.i2z, A.q1.at fun o => r _ o D.l1z, A.q2.at fun o => r _ o D.l2z⟩
theorem At.moveT (D : ZipApart z TI TO i1 i2 l1 l2) (A : At z TI TO i1 i2 l1 l2 xs ys h f a b k m) (e : g.get? TO = some (two a' b')) (r : Heap.ExtBut TO h g) : At z TI TO i1 i2 l1 l2 xs ys g f a' b' k m :=
  ⟨r _ _ D.TOz.symm A.zz, r _ _ D.TITO A.ti, e, A.w1.at fun o => r _ o D.TOi1.symm, A.w2.at fun o => r _ o D.TOi2.symm, A.q1.at fun o => r _ o D.l1TO, A.q2.at fun o => r _ o D.l2TO⟩
theorem At.move1 (D : ZipApart z TI TO i1 i2 l1 l2) (A : At z TI TO i1 i2 l1 l2 xs ys h f a b k m) {k' : Nat} (e : g.IsListIter i1 l1 k') (r : Heap.ExtBut i1 h g) : At z TI TO i1 i2 l1 l2 xs ys g f a b k' m :=
  ⟨r _ _ D.i1z.symm A.zz, r _ _ D.TIi1 A.ti, r _ _ D.TOi1 A.tt, e, A.w2.at fun o => r _ o D.i12.symm, A.q1.at fun o => r _ o D.l1i1, A.q2.at fun o => r _ o D.l2i1⟩
theorem At.move2 (D : ZipApart z TI TO i1 i2 l1 l2) (A : At z TI TO i1 i2 l1 l2 xs ys h f a b k m) {m' : Nat} (e : g.IsListIter i2 l2 m') (r : Heap.ExtBut i2 h g) : At z TI TO i1 i2 l1 l2 xs ys g f a b k m' :=
  ⟨r _ _ D.i2z.symm A.zz, r _ _ D.TIi2 A.ti, r _ _ D.TOi2 A.tt, A.w1.at fun o => r _ o D.i12, e, A.q1.at fun o => r _ o D.l1i2, A.q2.at fun o => r _ o D.l2i2⟩
variable {prog : Program} {w : World} {A : Around} {E : Value → Shared → Prop} {s : Shared}
/-- one draw, the end told by none -/
theorem draw {it l : Addr} {i : Nat} {items : Array Value} {Q : Option Value → Shared → Prop} (hh : A.handled = none) (hi : s.heap.IsListIter it l i) (hl : s.heap.IsList l items)
    (some_ : ∀ v g, items[i]? = some v → g.IsListIter it l (i + 1) → Heap.SameBut it s.heap g → Q (some v) { s with heap := g })
    (none_ : ∀ g, items[i]? = none → Heap.ExtBut it s.heap g → Q none { s with heap := g }) : wpAny (model prog w) A (Builtin.SmallTypes.nextOrEnd (.ref it)) Q E s := by
  unfold Builtin.SmallTypes.nextOrEnd
  refine wpAny_bind (wpAny_attempt ?_)
  cases e : items[i]? with
  | some v => exact wpAny_nextOf_list_item hi hl e fun g p r => wpAny_pure (some_ v g e p r)
  | none => exact wpAny_nextOf_list_end hh hi hl e fun g x p r => wpAny_bind (wpAny_isInstance (T := "StopIteration") (b := true) (let ⟨o, ho, hc⟩ := r; ⟨o, ho, hc⟩) isSubtype_stop (wpAny_pure (none_ g e p)))
/-- the next one: a pair of one draw from each, or the end where both are at theirs -/
theorem next {Q : Fin → Shared → Prop} (hh : A.handled = none) (D : ZipApart z TI TO i1 i2 l1 l2) (Z : At z TI TO i1 i2 l1 l2 xs ys s.heap .none a b k m) (both : xs[k]? = none ↔ ys[m]? = none)
    (item : ∀ x y g, xs[k]? = some x → ys[m]? = some y → At z TI TO i1 i2 l1 l2 xs ys g (rawInt s.heap.objs.size) x y (k + 1) (m + 1) → g.get? s.heap.objs.size = some (two x y) → Rest z TO i1 i2 s.heap g → Q (.done (.ret (.ref s.heap.objs.size))) { s with heap := g })
    (stop : ∀ g e, xs[k]? = none → Rest z TO i1 i2 s.heap g → (∃ o, g.get? e = some o ∧ o.cls = .type "StopIteration") → E (.ref e) { s with heap := g }) :
    wpAny (model prog w) A (Builtin.«zip.__next__» ⟨[.ref z], []⟩) Q E s := by
  show wpAny _ _ (field (.ref z) 2 >>= _) _ _ _
  refine wpAny_bind (wpAny_field Z.zz rfl (x := .bool true) rfl (?_ : wpAny _ _ (field (.ref z) 3 >>= _) _ _ _))
  refine wpAny_bind (wpAny_field Z.zz rfl (x := .ref TI) rfl (wpAny_bind (wpAny_seqItems Z.ti rfl ?_)))
  refine wpAny_bind (?_ : wpAny _ _ (Builtin.SmallTypes.ownedTupleIsFree (.ref z)) _ _ _)
  unfold Builtin.SmallTypes.ownedTupleIsFree
  refine wpAny_bind (wpAny_field Z.zz rfl (x := .none) rfl (wpAny_pure ?_))
  rw [if_pos (by rfl)]
  refine wpAny_bind (wpAny_rule (wpAny_bind (wpAny_field Z.zz rfl (x := .ref TO) rfl (wpAny_bind (wpAny_setField_rec Z.zz (by simp) fun g1 e1 r1 => ?_)))))
  have Z1 := Z.moveZ (f' := .ellipsis) D e1 r1.extBut
  refine wpAny_bind ?_
  simp only [List.zipIdx_cons, List.zipIdx_nil, List.forIn_cons, List.forIn_nil]
  refine wpAny_bind (wpAny_bind (wpAny_onRaise (?_ : wpAny _ _ (Builtin.SmallTypes.nextOrEnd (.ref i1)) _ _ _)))
  refine draw hh Z1.w1 Z1.q1 (fun x g2 ex e2 r2 => ?_) fun g2 ex r2 => ?_
  · have Z2 := Z1.move1 D e2 r2.extBut
    refine wpAny_bind (wpAny_seqItems Z2.tt rfl (wpAny_bind (wpAny_updateSeq_pair Z2.tt fun g3 e3 r3 => ?_)))
    have Z3 := Z2.moveT (a' := x) (b' := b) D e3 r3.extBut
    refine wpAny_bind (wpAny_letGo (wpAny_pure (wpAny_bind (wpAny_bind (wpAny_onRaise (?_ : wpAny _ _ (Builtin.SmallTypes.nextOrEnd (.ref i2)) _ _ _))))))
    refine draw hh Z3.w2 Z3.q2 (fun y g4 ey e4 r4 => ?_) fun g4 ey _ => absurd (both.mpr ey) (by rw [ex]; exact fun w => by cases w)
    have Z4 := Z3.move2 D e4 r4.extBut
    refine wpAny_bind (wpAny_seqItems Z4.tt rfl (wpAny_bind (wpAny_updateSeq_pair Z4.tt fun g5 e5 r5 => ?_)))
    have Z5 := Z4.moveT (a' := x) (b' := y) D e5 r5.extBut
    refine wpAny_bind (wpAny_letGo (wpAny_pure (wpAny_pure (wpAny_bind (wpAny_seqItems Z5.tt rfl (wpAny_bind (wpAny_newTuple ?_)))))))
    have size : g5.objs.size = s.heap.objs.size := by rw [r5.1, r4.1, r3.1, r2.1, r1.1]
    refine wpAny_bind (?_ : wpAny _ _ (Builtin.SmallTypes.ownedTupleHandOut (.ref z) (.ref g5.objs.size)) _ _ _)
    unfold Builtin.SmallTypes.ownedTupleHandOut
    have zlt := Heap.lt_size Z5.zz
    have Z6 := Z5.moveZ (g := g5.push (two x y)) D (Heap.get?_push_of_some _ Z5.zz) fun c o _ e => Heap.get?_push_of_some _ e
    refine wpAny_bind (wpAny_setField_rec Z6.zz (by simp) fun g7 e7 r7 => ?_)
    have Z7 := Z6.moveZ (f' := rawInt g5.objs.size) D e7 r7.extBut
    refine wpAny_setField_rec Z7.zz (by simp) fun g8 e8 r8 => wpAny_pure ?_
    have Z8 := Z7.moveZ (f' := rawInt g5.objs.size) D e8 r8.extBut
    have last : g8.get? g5.objs.size = some (two x y) := r8.extBut _ _ (Nat.ne_of_gt zlt) (r7.extBut _ _ (Nat.ne_of_gt zlt) (Heap.get?_push_size _ rfl))
    rw [size] at Z8 last
    show Q (.done (.ret (.ref g5.objs.size))) _
    rw [size]
    exact item x y g8 ex ey Z8 last fun c o n1 n2 n3 n4 e => r8.extBut _ _ n1 (r7.extBut _ _ n1 (Heap.get?_push_of_some _ (r5.extBut _ _ n2 (r4.extBut _ _ n4 (r3.extBut _ _ n2 (r2.extBut _ _ n3 (r1.extBut _ _ n1 e)))))))
  · have zz2 := r2 _ _ D.i1z.symm Z1.zz
    refine wpAny_bind (wpAny_setField_rec zz2 (by simp) fun g3 e3 r3 => wpAny_bind (wpAny_bind ?_))
    have far : ∀ c o, c ≠ z → c ≠ i1 → s.heap.get? c = some o → g3.get? c = some o := fun c o n1 n3 e => r3.extBut _ _ n1 (r2 _ _ n3 (r1.extBut _ _ n1 e))
    simp only [List.drop_succ_cons, List.drop_zero, List.zipIdx_cons, List.zipIdx_nil, List.forIn_cons, List.forIn_nil]
    refine wpAny_bind (wpAny_bind (draw hh (Z.w2.at fun o => far _ o D.i2z D.i12.symm) (Z.q2.at fun o => far _ o D.l2z D.l2i1) (fun y _ ey _ _ => absurd (both.mp ex) (by rw [ey]; exact fun w => by cases w)) fun g4 _ r4 => ?_))
    rw [if_neg (by exact Bool.false_ne_true)]
    refine wpAny_pure (wpAny_pure (wpAny_bind (wpAny_rule (?_ : wpAny _ _ (newExc (.type "StopIteration") [] >>= _) _ _ _))))
    refine wpAny_bind ?_
    simp only [newExc, newTuple, raiseNew]
    refine wpAny_bind (wpAny_newObj_type (wpAny_bind (m := firstArgMember _ _) (wpAny_of_eq (a := Value.none) (by simp only [firstArgMember]; rfl) (wpAny_newObj_type ?_ (by size_fits)))) (by size_fits))
    refine wpAny_bind (wpAny_handled ?_)
    first | rw [hh] | rw [show A.in1.handled = none from hh]
    exact wpAny_bind (wpAny_pure (wpAny_throw (stop _ _ ex (fun c o n1 _ n3 n4 e => Heap.get?_push_of_some _ (Heap.get?_push_of_some _ (r4 _ _ n4 (far c o n1 n3 e)))) ⟨_, Heap.get?_push_size _ rfl, rfl⟩)))
end
/-- the heap behind zip(l1, l2, strict=True) -/
abbrev behind (h : Heap) (l1 l2 : Addr) : Heap := (zipH4 h l1 l2).push (zob .none (.ref (zipH2 h l1 l2).objs.size) (.ref (zipH3 h l1 l2).objs.size))
theorem made (l1 l2 : Addr) (xs ys : Array Value) : Meets (Builtin.«zip.__new__» ⟨[.type "zip", .ref l1, .ref l2], [(Str.ofString "strict", .bool true)]⟩) (fun _ R s => s.heap.IsList l1 xs ∧ s.heap.IsList l2 ys ∧ R (.ok (.ret (.ref (zipH4 s.heap l1 l2).objs.size))) { s with heap := behind s.heap l1 l2 }) :=
  .of_wp fun prog w A R s ⟨q1, q2, r⟩ => by
    obtain ⟨h0, gs, dr, ts, os⟩ := s
    have sub := sub_zip
    have one : Heap.IsList (Shared.heap ⟨h0, gs, dr, ts, os⟩) l1 xs := q1
    have other : Heap.IsList (Shared.heap ⟨h0.push { cls := .type "list_iterator", data := .fields #[.ref l1, .int 0 0] }, gs, dr, ts, os⟩) l2 ys := Heap.IsList.push q2 _
    have word : (Str.ofString "strict" != ("strict" : Str)) = false := by decide +kernel
    wp_walk using wpAny_pyIter_list one, wpAny_pyIter_list other
    exact ⟨_, rfl, r⟩
section
variable {prog : Program} {w : World} {A : Around} {E : Value → Shared → Prop} {s : Shared}
end
open PySem PySem.Spec PyProof.Rows L2
section
variable {P : Program} {w : World} {K : PySem.W.Frag} {elts : List Expr} {kk : Nat} {tpos : Pos} {a b z TI TO i1 i2 : Addr}
end
section
variable {M : Model} {A : Around} {E : Value → Shared → Prop} {s : Shared} {env : Env}
end
end ZS
namespace DL
open PySem L2 Z PySem.Spec PyProof.Rows
variable [Tbs]
section
variable {K : PySem.W.Frag} {n : Nat} {J : Jv n} {a b : Addr} {xs ys : List V} {sx : Nat}
/-- zip(xs, ys, strict=True) of two lists of one length -/
def iZS (f : FA) : FA := fun ρ P => f ρ fun ds ρ1 => match ds with
  | [.list es, .list gs] => es.length = gs.length ∧ P (zipD es gs) ρ1
  | _ => False
/-- h.remove(e), whole numbers, one of them, h a list of the store -/
def fRemH (sx : Nat) (a e : FE) : FS := fun E ρ => a ρ fun x ρ1 => stF ρ1 sx fun S => ∃ p ds, x = hdl p ∧ S p = some (.lst ds) ∧ e ρ1 fun d ρ2 => intF d fun k => stF ρ2 sx fun S' => ∃ ns : List Int, S' p = some (.lst (ns.map .int)) ∧ k ∈ ns ∧ E.nx (ρ2.set sx (.st (sset S' p (.lst ((ns.erase k).map .int)))))
theorem rs_remH {ta te : TE} {a e : FE} (ha : RE K J ta a) (he : RE K J te e) : RS K J (tDrop (tBM K "list" rRemI ta (tCons te tNil))) (fRemH sx a e) := by
  intro O as σ H D ρ E R f C
  refine ha O as σ H _ ρ _ R f fun x ρ1 w H1 q1 f1 E1 d1 => ?_
  obtain ⟨S, hs, p, ds, rfl, e0, q1⟩ := stF_of q1
  obtain ⟨xs, e1, qx⟩ := E1.lstS hs e0
  rw [d1.hdl_of]
  refine ⟨.inl ⟨rfl, _, SqL.of e1⟩, ?_⟩
  refine he O as σ H1 _ ρ1 _ E1 q1 fun d ρ2 v H2 q2 f2 E2 d2 => ?_
  unfold intF at q2
  split at q2
  · cases d2
    obtain ⟨S', hs', ns, e', hk, q2⟩ := stF_of q2
    obtain ⟨ys, e1', qy⟩ := E2.lstS hs' e'
    rw [qy.ints_of] at e1'
    obtain ⟨j, j1, j2, j3⟩ := erase_first hk
    obtain ⟨E3, f3⟩ := E2.setS hs' e' (u' := .lst ((ns.erase _).map V.int)) (o' := .lst ((ns.erase _).map .int)) (.lst (DqAll.ints _))
    exact ⟨p, ns, _, j, rfl, rfl, e1', j1, j2, by rw [j3]; exact C.nx _ _ _ _ q2 (.of ((f1.trans f2).trans f3)) E3⟩
  · exact q2.elim
end
end DL
/-! d == {}, d a dict of the store -/
namespace DL
open PySem L2 Z PySem.Spec PyProof.Rows
variable [Tbs]
section
variable {K : PySem.W.Frag} {n : Nat} {J : Jv n} {sx : Nat}
def fEqE (sx : Nat) (a b : FE) : FE := fun ρ P => a ρ fun x ρ1 => b ρ1 fun y ρ2 => stF ρ2 sx fun S => ∃ p q kd, x = hdl p ∧ y = hdl q ∧ S p = some (.dct kd) ∧ S q = some (.dct []) ∧ P (.bool kd.isEmpty) ρ2
end
end DL
/-! a def with a lambda that hands back a new list -/
namespace DL
open PySem L2 Z PySem.Spec PyProof.Rows
variable [Tbs]
section
variable {P : Program} {w : World} {K : PySem.W.Frag} {mg : Str → Option Value} {base : Heap} {k : Nat} {f : Addr} {fd : FuncData} {ps : List Str} {x qual : Str} {st : Stmt} {N : List Str}
end
end DL
/-! a list unpacked into names -/
namespace DL
open PySem L2 Z PySem.Spec PyProof.Rows
variable [Tbs]
section
variable {K : PySem.W.Frag} {n : Nat} {J : Jv n}
def gU (m : Nat) (b : FGs) : FG := fun d ρ P => match d with
  | .list ds => ds.length = m ∧ b ds ρ P
  | _ => False
end
end DL
/-! a for statement over a dict that is data, locked meanwhile; fields of objects that stay -/
namespace DL
open PySem L2 Z PySem.Spec PyProof.Rows
variable [Tbs]
section
variable {K : PySem.W.Frag}
end
section
variable {K : PySem.W.Frag} {n : Nat} {J : Jv n}
def fForD (kind : Nat) (us : List Nat) (a : FE) (g : FG) (b : FS) : FS := fun E ρ => a ρ fun x ρ1 => ∃ kd, x = dctD kd ∧ forW us (walkD kind kd) g b { nx := E.nx, rt := fun _ _ => False, ro := fun _ _ => False } ρ1
section
variable {ta : TE} {a : FE} {g : TG} {tb : TS} {fg : FG} {b : FS} {us ws : List Nat}
end
end
/-! a call with keywords, what is handed in laid open -/
section
variable {K : PySem.W.Frag} {n : Nat} {J : Jv n} {sx : Nat}
def fCallNR (sx l : Nat) (F : FN) (i m : Nat) (gD : List PyData → List PyData → List PyData) (f fk : FA) : FE := fun ρ P => f ρ fun ds ρ1 => fk ρ1 fun es ρ2 => ds.length = i ∧ es.length = m ∧ stF ρ2 sx fun S => ∃ ds', ResAll S (gD ds es) ds' ∧ ds'.length = l ∧ F (ds'.map .fz) fun d _ => immD d = true ∧ P d ρ2
def fCallNRW (sx l : Nat) (F : FM) (i m : Nat) (gD : List PyData → List PyData → List PyData) (f fk : FA) : FA := fun ρ P => f ρ fun ds ρ1 => fk ρ1 fun es ρ2 => ds.length = i ∧ es.length = m ∧ stF ρ2 sx fun S => ∃ ds', ResAll S (gD ds es) ds' ∧ ds'.length = l ∧ F (ds'.map .fz) fun d _ => immAll d = true ∧ P d ρ2
end
end DL
/-! sorted(e) of a list of any alike data -/
namespace DL
open PySem L2 Z PySem.Spec PyProof.Rows
variable [Tbs]
/-- what can be sorted: all alike, tuples that aren't empty or no tuples at all -/
def srtOk (es : List PyData) : Prop := PyData.hasDictAll es = false ∧ PySem.W.AllAlike es ∧ PySem.W.Sortable es ∧ ∀ d ∈ es, d.depth < 60
abbrev leD : PyData → PyData → Bool := PySem.W.dataLe false id
section
variable {X : Cx}
end
section
variable {K : PySem.W.Frag}
def nSortD (ds : List PyData) (P : List PyData → Prop) : Prop := one ds fun d => listF d fun es => srtOk es ∧ P (es.mergeSort leD)
end
end DL
/-! sorted(d), a dict by texts -/
namespace L2
open PySem PySem.Spec PyProof.Rows
section
variable {X : Cx}
end
end L2
namespace DL
open PySem L2 Z PySem.Spec PyProof.Rows
variable [Tbs]
section
variable {K : PySem.W.Frag} {n : Nat} {J : Jv n} {sx : Nat}
abbrev sortS (ks : List Str) : List Str := ks.mergeSort (PySem.W.dataLe false PyData.str)
def fSortKS (m : Option Nat) (a : FE) : FA := fun ρ P => a ρ fun x ρ1 => dicF m ρ1 x fun kd => ∃ ks : List Str, kd.map (·.1) = ks.map Sum.inr ∧ P ((sortS ks).map .str) ρ1
end
end DL
/-! enumerate(v, start=k) of a list or a tuple -/
namespace EMS
open PySem PySem.Spec PyProof.Rows L2 ZM EM
end EMS
namespace DL
open PySem L2 Z PySem.Spec PyProof.Rows
variable [Tbs]
section
variable {K : PySem.W.Frag} {n : Nat} {J : Jv n}
def enumSD (z : Int) (ds : List PyData) : List PyData := ds.zipIdx.map fun p => .tuple [.int (z + (p.2 : Nat)), p.1]
def iES (z : Int) (f : FA) : FA := fun ρ P => f ρ fun ds ρ1 => match ds with
  | [x] => seqF x fun es => P (enumSD z es) ρ1
  | _ => False
end
end DL
/-! i, j, l = e, [..], e', stored as names are -/
namespace DL
open PySem L2 Z PySem.Spec PyProof.Rows
variable [Tbs]
section
variable {K : PySem.W.Frag} {n : Nat} {J : Jv n}
end
end DL
/-! own == [], own != [], own a list of any things -/
namespace DL
open PySem L2 Z PySem.Spec PyProof.Rows
variable [Tbs]
section
variable {K : PySem.W.Frag} {n : Nat} {J : Jv n}
/-- own == [], own != [] -/
def fEqN (h : Bool → Bool) (i : Nat) (b : FA) : FE := fun ρ P => ownF ρ i fun _ => b ρ fun es ρ1 => ownF ρ1 i fun ds => es = [] ∧ P (.bool (h ds.isEmpty)) ρ1
end
end DL
/-! for x in h, h a list of the store with any things -/
namespace DL
open PySem L2 Z PySem.Spec PyProof.Rows
variable [Tbs]
section
variable {K : PySem.W.Frag} {n : Nat} {J : Jv n} {sx : Nat}
def fForV (us : List Nat) (sx : Nat) (a : FE) (g : FG) (b : FS) : FS := fun E ρ => a ρ fun x ρ1 => stF ρ1 sx fun S => ∃ p ds, x = hdl p ∧ S p = some (.lst ds) ∧ forH us sx p ds ds g b E ρ1
/-- h == [], h != [] -/
def fEqH (h : Bool → Bool) (sx : Nat) (a : FE) (b : FA) : FE := fun ρ P => a ρ fun x ρ1 => b ρ1 fun es ρ2 => stF ρ2 sx fun S => ∃ p ds, x = hdl p ∧ S p = some (.lst ds) ∧ es = [] ∧ P (.bool (h ds.isEmpty)) ρ2
/-- h + [..] -/
def fCatH (sx : Nat) (a b : FE) : FA := fun ρ P => a ρ fun x ρ1 => b ρ1 fun y ρ2 => stF ρ2 sx fun S => ∃ p ds es, x = hdl p ∧ S p = some (.lst ds) ∧ y = .list es ∧ ds.length + es.length ≤ sizeLine ∧ P (ds ++ es) ρ2
end
end DL
/-! o != x by an own __eq__; h.pop(k) of a list of the store -/
namespace DL
open PySem L2 Z PySem.Spec PyProof.Rows PySem.W
section
variable {prog : Program} {w : World} {M : Model} {A : Around} {E : Value → Shared → Prop} {s : Shared} {K : PySem.W.Frag} {x C f L : Addr} {ox : PySem.Obj} {od : Option PySem.Obj} {b tb : Value} {h₀ : Heap} {m : Str → Option Value}
open Builtin in
theorem ne_call {Q : Value → Shared → Prop} (hu : A.in1.units < cLine) (X : K.In s.heap) (I : InstAt s.heap x ox C od) (ho : mroIn K C (.type "object") = some true) (he : findIn K (.ref C) "__eq__" = some (some (.ref f))) (hf : isFn K (.ref f) = true)
    (q : wpAny (model prog w) A.in1 (call (.ref f) [.ref x, b]) (fun v s' => ∃ z, v = .bool z ∧ Q (.bool (!z)) s') E s) : wpAny (model prog w) A (call (.builtin "object.__ne__") [.ref x, b]) Q E s := by
  have ok := check_slot (M := model prog w) (A := A.in1) (E := E) (s := s) (kw := []) (i := "object.__ne__") (owner := "object") (n := "__ne__") (rest := [b]) (Q := fun _ s' => s' = s) (by decide +kernel) (by decide +kernel) (I.type.andThen (looks_mroIn X ho)) (PySem.F.cmpArgs_ne _ _) rfl
  refine wpAny_call (codeAny_call_builtin PySem.F.slot_object_ne.plain PySem.F.cmpEntry_ne (wpAny_mono ok (fun _ s' e => ?_) fun _ _ e => e))
  subst e
  unfold Builtin.«object.__ne__»
  refine wpAny_bind (m := slotArgs "__ne__" 1 _) (wpAny_pure ?_)
  refine wpAny_bind (m := cRoomFor _ _) (wpAny_cRoomFor hu ?_)
  refine wpAny_bind (m := callSpecialIfBound? (.ref x) (Str.ofString "__eq__") _) (ifBound_K X I he hf (wpAny_mono q (fun v s2 hq => ?_) fun _ _ e => e))
  obtain ⟨z, rfl, hq⟩ := hq
  refine wpAny_bind (m := truthy (.bool z)) (wpAny_truthy_bool ?_)
  exact wpAny_pure hq
end
/-- an own class's != is object's -/
structure OwnN (K : PySem.W.Frag) (C : Addr) : Prop where
  ne : PySem.W.findIn K (.ref C) "__ne__" = some (some (.builtin "object.__ne__"))
  ob : PySem.W.mroIn K C (.type "object") = some true
section
variable {X : Cx} {CX : CXT} {k : Nat} {f C : Addr} {fd : FuncData} {ps : List Str} {sp : Sp} {E : XK}
end
variable [Tbs]
section
variable {K : PySem.W.Frag} {n : Nat} {J : Jv n} {sx : Nat}
/-- o != x, both of the class, which has its own == -/
def fNeX (c : Str) (F : FN) (a b : FE) : FE := fun ρ P => a ρ fun d ρ1 => b ρ1 fun e ρ2 => objF c d fun _ => objF c e fun _ => F [.fz d, .fz e] fun r _ => boolF r fun z => P (.bool (!z)) ρ2
/-- h.pop(k), its value -/
def fPopAtH (sx : Nat) (a b : FE) : FE := fun ρ P => a ρ fun x ρ1 => stF ρ1 sx fun S0 => ∃ p ds0, x = hdl p ∧ S0 p = some (.lst ds0) ∧ b ρ1 fun y ρ2 => intF y fun i => stF ρ2 sx fun S => ∃ ds j d, S p = some (.lst ds) ∧ -(2 ^ 63) ≤ i ∧ i < 2 ^ 63 ∧ seqIndex? i ds.length = some j ∧ ds[j]? = some d ∧ P d (ρ2.set sx (.st (sset S p (.lst (ds.eraseIdx j)))))
end
end DL
/-! a comprehension over a list of the store with any things -/
namespace DL
open PySem L2 Z PySem.Spec PyProof.Rows
variable [Tbs]
section
variable {K : PySem.W.Frag} {n : Nat} {J : Jv n} {sx : Nat}
def fLcV (sx : Nat) (a : FE) (g : FG) (ft : FT) (fe : FE) (vs : List Nat) : FA := fun ρ P => a ρ fun x ρ1 => stF ρ1 sx fun S => ∃ p ds, x = hdl p ∧ S p = some (.lst ds) ∧ lcWH sx p ds ds g ft fe vs ρ1 P
end
end DL
/-! a call that may raise, with a store of its own -/
namespace DL
open PySem L2 Z PySem.Spec PyProof.Rows
variable [Tbs]
section
variable {K : PySem.W.Frag} {n : Nat} {J : Jv n}
end
end DL
/-! slices of what is a list or a tuple; tuple(range(i, j)); tuple(text) -/
namespace DL
open PySem L2 Z PySem.Spec PyProof.Rows
variable [Tbs]
section
variable {X : Cx}
def rSlM (K : PySem.W.Frag) : V → Option Int → Option Int → Hp → VK → Prop := fun x lo hi H Q => rSlL K x lo hi H Q ∨ rSlA K x lo hi H Q
theorem sl_mix : L2.SlR X (rSlM X.K) := by
  intro pins s σ H x v vl vu lo hi sl Q I rx hs pl pu h
  exact h.elim (sl_list pins s σ H x v vl vu lo hi sl Q I rx hs pl pu) (sl_tupA pins s σ H x v vl vu lo hi sl Q I rx hs pl pu)
def rRng2 : List V → Hp → VK → Prop := fun vs H Q => ∃ i j, vs = [V.int i, V.int j] ∧ ∀ p, H p = none → Q (.ref p) (upd H p (.rng i j))
theorem cr_rng2 : CallR X (.type "range") rRng2 := cr_range2
def rTupRng : List V → Hp → VK → Prop := fun vs H Q => ∃ (a : Addr) (i j : Int), vs = [V.ref a] ∧ H a = some (.rng i j) ∧ RgOk i j ∧ ∀ p, H p = none → Q (.ref p) (upd H p (.tup (rgV i j)))
theorem cr_tupRng (hc : X.calm = true) : CallR X (.type "tuple") rTupRng := by
  intro pins s σ H vs us Q I r h
  obtain ⟨a, i, j, rfl, ea, ok, q⟩ := h
  obtain ⟨u, rfl, ru⟩ := vals1 r
  obtain rfl : u = Value.ref a := ru
  obtain ⟨t1, t2, t3, ho⟩ := I.hok a _ ea
  obtain ⟨b1, b2, b3, b4, b5⟩ := ok
  refine call_tuple_range (n := (j - i).toNat) (I.ok.hd hc) ho (small_one b1 b2 b3 b4) (rangeSize_nat i j) b5 fun h' tk acc hk hi => ?_
  have I2 : Inv X pins σ H { s with heap := h', toks := tk } := I.kept hk
  refine ⟨.ref h'.objs.size, upd H h'.objs.size (.tup (rgV i j)), I2.laid (t' := tk) (fun c o e => Heap.get?_push_of_some _ e) (Nat.le_refl _) (show ObjOk X.prog X.w _ _ _ (.tup (rgV i j)) from ⟨?_, acc.toList, vals_rg hi, ?_⟩), rfl, q _ (I2.hok.fresh (Nat.le_refl _))⟩
  · rw [rgV_length, sizeLine_eq]; omega
  · rw [Array.toArray_toList]; exact IsTup.new _ _
def sgnV (x : Str) : List V := x.cps.toList.map fun c => V.str ⟨#[c]⟩
def rTupStr : List V → Hp → VK → Prop := fun vs H Q => ∃ x : Str, vs = [V.str x] ∧ x.length ≤ sizeLine ∧ ∀ p, H p = none → Q (.ref p) (upd H p (.tup (sgnV x)))
theorem cr_tupStr (hc : X.calm = true) : CallR X (.type "tuple") rTupStr := by
  intro pins s σ H vs us Q I r h
  obtain ⟨x, rfl, hx, q⟩ := h
  obtain ⟨u, rfl, ru⟩ := vals1 r
  obtain ⟨t, rfl⟩ := ru
  refine call_tuple_str (I.ok.hd hc) x t (fun h' tk acc hk hi => ?_) hx
  have I2 : Inv X pins σ H { s with heap := h', toks := tk } := I.kept hk
  refine ⟨.ref h'.objs.size, upd H h'.objs.size (.tup (sgnV x)), I2.laid (t' := tk) (fun c o e => Heap.get?_push_of_some _ e) (Nat.le_refl _) (show ObjOk X.prog X.w _ _ _ (.tup (sgnV x)) from ⟨?_, acc.toList, ?_, ?_⟩), rfl, q _ (I2.hok.fresh (Nat.le_refl _))⟩
  · unfold sgnV; rw [List.length_map, Array.length_toList]; exact hx
  · refine vals_of_at (by unfold sgnV; rw [List.length_map, Array.length_toList, Array.length_toList, hi.1]) fun j y v h1 h2 => ?_
    obtain ⟨c, tk2, e1, e2⟩ := hi.2 j v (by rw [← h2, Array.getElem?_toList])
    unfold sgnV at h1
    rw [List.getElem?_map, Array.getElem?_toList, e1] at h1
    cases h1
    exact ⟨tk2, e2⟩
  · rw [Array.toArray_toList]; exact IsTup.new _ _
end
section
variable {K : PySem.W.Frag} {n : Nat} {J : Jv n}
def sM : PyData → Option Int → Option Int → (PyData → Prop) → Prop := fun a lo hi P => match a with
  | .list ds => P (.list (cutD ds lo hi))
  | .tuple ds => P (.tuple (cutD ds lo hi))
  | _ => False
theorem rl_mix : RL K (rSlM K) sM := by
  intro A H Q x a lo hi P oc da g k
  cases a with
  | list ds => exact .inl (rl_list A H Q x (.list ds) lo hi P oc da g k)
  | tuple ds => exact .inr (rl_tupA A H Q x (.tuple ds) lo hi P oc da g k)
  | _ => exact g.elim
def fTupRng (a b : FE) : FE := fun ρ P => a ρ fun d ρ1 => intF d fun i => b ρ1 fun e ρ2 => intF e fun j => RgOk i j ∧ P (.tuple (rangeD i (j - i).toNat)) ρ2
theorem re_tupRng {ta tb : TE} {a b : FE} (ha : RE K J ta a) (hb : RE K J tb b) : RE K J (tCB rTupRng (tCons (tCB rRng2 (tCons ta (tCons tb tNil))) tNil)) (fTupRng a b) := by
  intro O as σ H Q ρ P E q k
  refine ha O as σ H _ ρ _ E q fun d ρ1 v H1 q1 f1 E1 d1 => ?_
  unfold intF at q1
  split at q1
  · next i =>
    cases d1
    refine hb O as σ H1 _ ρ1 _ E1 q1 fun e ρ2 u H2 q2 f2 E2 d2 => ?_
    unfold intF at q2
    split at q2
    · next j =>
      cases d2
      obtain ⟨ok, q2⟩ := q2
      refine ⟨i, j, rfl, fun p hp => ?_⟩
      have sm := Same.new (o := .rng i j) hp
      refine ⟨p, i, j, rfl, upd_same, ok, fun l hl => ?_⟩
      have sm2 := Same.new (o := .tup (rgV i j)) hl
      have E3 := E2.grow sm
      refine k _ _ _ ⟨_, _⟩ q2 ((f1.trans f2).trans ((E2.frS sm).trans (E3.frS sm2))) (E3.grow sm2) ?_
      refine .tup (xs := rgV i j) (SqT.of (hp_mk (fun z => (E3.grow sm2).full z |> fun _ => ?_) upd_same)) ?_
      · exact E3.full (by
          rcases z with z | z
          · exact .inl z
          · exact .inr z) hl
      · have e1 : rgV i j = ((List.range (j - i).toNat).map fun k : Nat => i + (k : Int)).map V.int := by unfold rgV; rw [List.map_map]; rfl
        have e2 : rangeD i (j - i).toNat = ((List.range (j - i).toNat).map fun k : Nat => i + (k : Int)).map PyData.int := by unfold rangeD; rw [List.map_map]; rfl
        rw [e1, e2]
        exact DqAll.ints _
    · exact q2.elim
  · exact q1.elim
def bTupS (ds : List PyData) (P : PyData → Prop) : Prop := one ds fun d => strF d fun z => z.length ≤ sizeLine ∧ P (.tuple (z.cps.toList.map fun c => .str ⟨#[c]⟩))
theorem rb_tupS : RB K rTupStr bTupS := by
  intro A H Q xs ds P oc r g k
  obtain ⟨v, d, rfl, q, g⟩ := one_of r g
  unfold strF at g
  split at g
  · next z =>
    cases q
    obtain ⟨hz, g⟩ := g
    refine ⟨z, rfl, hz, fun l hl => ?_⟩
    have sm := Same.new (o := .tup (sgnV z)) hl
    refine k _ _ _ g sm (.tup (SqT.of (hp_mk (fun q => oc _ q hl) upd_same)) ?_)
    have e1 : sgnV z = (z.cps.toList.map fun c => (⟨#[c]⟩ : Str)).map V.str := by unfold sgnV; rw [List.map_map]; rfl
    have e2 : (z.cps.toList.map fun c => PyData.str ⟨#[c]⟩) = (z.cps.toList.map fun c => (⟨#[c]⟩ : Str)).map PyData.str := by rw [List.map_map]; rfl
    rw [e1, e2]
    exact DqAll.strs _
  · exact g.elim
end
end DL
/-! how long data's text may be -/
namespace Z
open PySem L2 TL
mutual
def szD : PyData → Nat
  | .none => 4
  | .bool _ => 5
  | .int i => (Str.ofString (toString i)).length
  | .str x => 10 * x.length + 2
  | .list xs => szAll xs + 2
  | .tuple xs => szAll xs + 3
  | .dict _ => 0
def szAll : List PyData → Nat
  | [] => 0
  | x :: r => szD x + 2 + szAll r
end
theorem slen_append (x y : Str) : (x ++ y).length = x.length + y.length := by rw [len_tl, len_tl x, len_tl y, tl_append, List.length_append]
theorem textFrom_le : ∀ (ts : List Str) (k : Nat) (acc : Str), (textFrom k acc ts).length ≤ acc.length + piled ts
  | [], _, acc => Nat.le_add_right _ _
  | t :: ts, k, acc => by
    have ih := textFrom_le ts (k + 1) (acc ++ Str.ofString (if k > 0 then ", " else "" : String) ++ t)
    rw [slen_append, slen_append] at ih
    have e : (Str.ofString (if k > 0 then ", " else "" : String)).length ≤ 2 := by
      split
      · exact (by decide +kernel : (Str.ofString ", ").length ≤ 2)
      · exact (by decide +kernel : (Str.ofString "").length ≤ 2)
    have p : piled (t :: ts) = t.length + 2 + piled ts := by simp [piled]
    show (textFrom (k + 1) (acc ++ Str.ofString (if k > 0 then ", " else "" : String) ++ t) ts).length ≤ _
    rw [p]
    omega
theorem listText_le (ts : List Str) : (listText ts).length ≤ piled ts + 2 := by
  have h := textFrom_le ts 0 (Str.ofString "[")
  have e1 : (Str.ofString "[").length = 1 := by decide +kernel
  have e2 : (Str.ofString "]").length = 1 := by decide +kernel
  show (textFrom 0 (Str.ofString "[") ts ++ Str.ofString "]").length ≤ _
  rw [slen_append]
  omega
theorem join_le : ∀ ts : List Str, (Str.join (Str.ofString ", ") ts).length ≤ piled ts
  | [] => Nat.zero_le _
  | t :: ts => by
    have h := join_length_add (t :: ts) (by simp)
    have h' : (Str.join (Str.ofString ", ") (t :: ts)).length + 2 = piled (t :: ts) := h
    omega
theorem tupleText_le (ts : List Str) : (tupleText ts).length ≤ piled ts + 3 := by
  have h := join_le ts
  have e1 : (Str.ofString "(").length = 1 := by decide +kernel
  have e2 : (Str.ofString (if (ts.length == 1) = true then ",)" else ")" : String)).length ≤ 2 := by
    split
    · exact (by decide +kernel : (Str.ofString ",)").length ≤ 2)
    · exact (by decide +kernel : (Str.ofString ")").length ≤ 2)
  show (Str.ofString "(" ++ Str.join (Str.ofString ", ") ts ++ Str.ofString (if (ts.length == 1) = true then ",)" else ")" : String)).length ≤ _
  rw [slen_append, slen_append]
  omega
mutual
theorem shown_le : ∀ d : PyData, d.canLay0 = true → d.shown.length ≤ szD d
  | .none, _ => (by decide +kernel : (Str.ofString "None").length ≤ 4)
  | .bool true, _ => (by decide +kernel : (Str.ofString "True").length ≤ 5)
  | .bool false, _ => (by decide +kernel : (Str.ofString "False").length ≤ 5)
  | .int i, _ => Nat.le_refl _
  | .str x, h => by
    refine StrLaws.reprText_len x fun c hc => ?_
    have h' : (x.cps.all (· < 0x110000)) = true := h
    have := (Array.all_eq_true_iff_forall_mem.mp h') c (Array.mem_toList_iff.mp hc)
    have := of_decide_eq_true this
    omega
  | .list xs, h => by
    have ih := shownAll_le xs h
    have := listText_le (PyData.shownAll xs)
    show (listText (PyData.shownAll xs)).length ≤ szAll xs + 2
    omega
  | .tuple xs, h => by
    have ih := shownAll_le xs h
    have := tupleText_le (PyData.shownAll xs)
    show (tupleText (PyData.shownAll xs)).length ≤ szAll xs + 3
    omega
  | .dict _, h => by cases h
theorem shownAll_le : ∀ ds : List PyData, PyData.canLayAll0 ds = true → piled (PyData.shownAll ds) ≤ szAll ds
  | [], _ => Nat.zero_le _
  | x :: r, h => by
    have h' : (x.canLay0 && PyData.canLayAll0 r) = true := h
    rw [Bool.and_eq_true] at h'
    have h1 := shown_le x h'.1
    have h2 := shownAll_le r h'.2
    have e : piled (PyData.shownAll (x :: r)) = x.shown.length + 2 + piled (PyData.shownAll r) := by
      show piled (x.shown :: PyData.shownAll r) = _
      simp [piled]
    rw [e]
    show _ ≤ szD x + 2 + szAll r
    omega
end
end Z
/-! rules: plain -/
namespace Z
open PySem L2
def partAt (r : List (Int × Int)) (age : Int) : Int := r.foldl (fun f p => if p.1 ≤ age then p.2 else f) 100
def priceBy (r : List (Int × Int)) (p age : Int) : Int := if p * partAt r age / 100 > 1 then p * partAt r age / 100 else 1
end Z
/-! tags: plain -/
namespace Z
open PySem L2 TL
/-- a text of one to eight small letters -/
structure NameS (s : Str) : Prop where
  least : 1 ≤ (tl s).length
  most : (tl s).length ≤ 8
  small : ∀ c ∈ tl s, 97 ≤ c ∧ c ≤ 122
def smalls (z : List Nat) : Bool := z.all fun c => decide (97 ≤ c ∧ c ≤ 122)
theorem abc : tl (Str.ofString "abcdefghijklmnopqrstuvwxyz") = List.range' 97 26 := by decide +kernel
theorem small_mem (c : Nat) : decide (c ∈ tl (Str.ofString "abcdefghijklmnopqrstuvwxyz")) = decide (97 ≤ c ∧ c ≤ 122) := by
  rw [abc]
  apply decide_eq_decide.mpr
  rw [List.mem_range'_1]
  omega
theorem abc_at {d : Nat} (h : d < 26) : atI (Str.ofString "abcdefghijklmnopqrstuvwxyz").cps.toList (d : Int) = some (97 + d) := by
  have e : (Str.ofString "abcdefghijklmnopqrstuvwxyz").cps.toList = List.range' 97 26 := abc
  rw [e]
  refine atI_nat ?_
  rw [List.getElem?_range' (by omega)]
  simp
/-- what a tag has -/
structure Five where
  owner : Str
  number : Int
  price : Int
  least : Int
  day : Int
structure Five.Ok (f : Five) : Prop where
  owner : NameS f.owner
  n1 : 1 ≤ f.number
  n2 : f.number ≤ 9999
  p1 : 1 ≤ f.price
  p2 : f.price ≤ 99999
  l1 : 0 ≤ f.least
  l2 : f.least ≤ f.price
  d1 : 0 ≤ f.day
  d2 : f.day ≤ 999
def tagF (f : Five) : List (Str × V) := putF "day" (.int f.day) (putF "least" (.int f.least) (putF "price" (.int f.price) (putF "number" (.int f.number) (putF "owner" (.str f.owner) []))))
/-- at t a tag -/
def TagAt (C : Addr) (H : Hp) (t : Addr) (f : Five) : Prop := ∃ dx, H t = some (.ins C dx (tagF f))
theorem TagAt.keep {C : Addr} {H H' : Hp} {t : Addr} {f : Five} (h : TagAt C H t f) (k : KeepT H H') : TagAt C H' t f := by
  obtain ⟨dx, e⟩ := h
  exact ⟨dx, k _ _ trivial e⟩
end Z
namespace K
open PySem L2 Z TL DL
local macro_rules | `(tactic| walk_at "z1") => `(tactic| first | with_reducible refine iteT ?_ | with_reducible refine iteF ?_ | with_reducible refine iteDS rfl ?_ | with_reducible refine iteNS rfl ?_ | ((with_reducible refine iteDN ?hN ?_); (case hN => (intro h; cases h; done))) | ((with_reducible refine iteNDN ?hN ?_); (case hN => (intro h; cases h; done))) | ((fail_if_success (with_reducible refine iteD (fun _ => ?_) (fun _ => ?_))); (fail_if_success (with_reducible refine iteND (fun _ => ?_) (fun _ => ?_))); first
  | refine ⟨_, rfl, ?_⟩
  | refine ⟨_, _, rfl, rfl, ?_⟩
  | refine ⟨rfl, ?_⟩
  | refine ⟨(by show (0 : Int) < _; first | decide | omega), ?_⟩
  | refine ⟨⟨by decide, by decide⟩, ?_⟩
  | refine ⟨⟨(by show (0 : Int) < _; omega), (by show _ < (1073741824 : Int); omega)⟩, ?_⟩
  | refine ⟨⟨by decide, by decide, by decide⟩, ?_⟩
  | refine ⟨.inl ⟨by omega, by omega⟩, ?_⟩
  | refine ⟨.inr ⟨by omega, by omega⟩, ?_⟩
  | refine .inl ⟨_, rfl, ?_⟩
  | refine .inr ⟨_, rfl, ?_⟩
  | refine ⟨_, _, _, _, rfl, rfl, SqL.of (by assumption), rfl, ?_⟩
  | refine ⟨_, _, _, _, rfl, rfl, SqL.of upd_same, rfl, ?_⟩
  | refine ⟨_, _, _, _, rfl, rfl, (by assumption), rfl, ?_⟩
  | refine ⟨_, _, _, _, rfl, rfl, upd_same, rfl, ?_⟩
  | refine ⟨_, _, rfl, SqT.of upd_same, rfl, ?_⟩
  | refine ⟨_, _, rfl, ?_⟩
  | refine ⟨Nat.le_of_ble_eq_true rfl, ?_⟩
  | refine ⟨_, _, _, _, true, rfl, .ty _, .base (.str _), kit_ty (by decide +kernel), ?_⟩
  | refine ⟨_, _, _, _, false, rfl, .ty _, .base (.str _), kit_ty (by decide +kernel), ?_⟩
  | refine ⟨_, _, _, _, true, rfl, .ty _, .base (.int _), kit_ty (by decide +kernel), ?_⟩
  | refine ⟨_, _, _, _, false, rfl, .ty _, .base (.int _), kit_ty (by decide +kernel), ?_⟩))
local macro_rules | `(tactic| walk_at "z") => `(tactic| repeat walk_at "z1")
instance tbs : Tbs := ⟨[]⟩
/-! ### prices of days -/
def priceOn (r : List (Int × Int)) (f : Five) (day : Int) (leave : Bool) : Int :=
  if leave = true then priceBy r f.price (day - f.day) else (if f.least > priceBy r f.price (day - f.day) then f.least else priceBy r f.price (day - f.day))
def pairD (p : Int × Int) : PyData := .tuple [.int p.1, .int p.2]
/-- pairs whose ages rise and parts fall, within bounds -/
structure RuleW (r : List (Int × Int)) : Prop where
  few : r.length ≤ 6
  age : ∀ p ∈ r, 1 ≤ p.1 ∧ p.1 ≤ 999
  part : ∀ p ∈ r, 1 ≤ p.2 ∧ p.2 ≤ 99
  fall : r.Pairwise fun p q => q.2 < p.2
  rise : r.Pairwise fun p q => p.1 < q.1
structure RuleG (r : List (Int × Int)) (n : Nat) (age part : Int) : Prop where
  few : r.length = n
  age0 : 0 ≤ age
  age1 : age ≤ 160 * n
  part1 : part ≤ 100
  bnd : ∀ p ∈ r, 1 ≤ p.1 ∧ p.1 ≤ age ∧ part ≤ p.2 ∧ p.2 ≤ 99
  fall : r.Pairwise fun p q => q.2 < p.2 ∧ p.1 < q.1 ∧ p.1 ≤ 800
theorem RuleG.next {r : List (Int × Int)} {n : Nat} {age part a b : Int} (g : RuleG r n age part) (ha : 0 ≤ a) (ha2 : a < 160) (hn : n ≤ 5) (hb : 0 ≤ b) : RuleG (r ++ [(age + 1 + a, part - 1 - b)]) (n + 1) (age + 1 + a) (part - 1 - b) := by
  have h1 := g.age0
  have h2 := g.part1
  have h3 := g.age1
  refine ⟨by rw [List.length_append, g.few]; rfl, by omega, by omega, by omega, fun p hp => ?_, ?_⟩
  · rcases List.mem_append.mp hp with hp | hp
    · have := g.bnd p hp
      omega
    · rw [List.mem_singleton.mp hp]
      dsimp only
      omega
  · refine List.pairwise_append.mpr ⟨g.fall, List.pairwise_singleton _ _, fun p hp q hq => ?_⟩
    rw [List.mem_singleton.mp hq]
    have := g.bnd p hp
    dsimp only
    omega
def keepP (p : Int × Int) : Bool := decide (p.1 < 1000) && decide (0 < p.2)
/-- and all but the last one at most 800 old -/
structure RuleV (r : List (Int × Int)) : Prop extends RuleW r where
  early : r.Pairwise fun p _ => p.1 ≤ 800
theorem RuleG.cut {r : List (Int × Int)} {n : Nat} {age part : Int} (g : RuleG r n age part) (hn : n ≤ 6) : RuleV (r.filter keepP) := by
  refine ⟨⟨Nat.le_trans (List.length_filter_le _ _) (by rw [g.few]; exact hn), fun p hp => ?_, fun p hp => ?_, (g.fall.filter _).imp fun h => h.1, (g.fall.filter _).imp fun h => h.2.1⟩, (g.fall.filter _).imp fun h => h.2.2⟩
  · obtain ⟨h1, h2⟩ := List.mem_filter.mp hp
    have := g.bnd p h1
    simp [keepP] at h2
    omega
  · obtain ⟨h1, h2⟩ := List.mem_filter.mp hp
    have := g.bnd p h1
    simp [keepP] at h2
    omega
theorem set_last {α : Type} {r : List α} {p q : α} (h : r[r.length - 1]? = some p) : ∃ s, r = s ++ [p] ∧ r.set (r.length - 1) q = s ++ [q] := by
  have hl : r.length - 1 < r.length := (List.getElem?_eq_some_iff.mp h).1
  have hr : r ≠ [] := fun e => by rw [e] at hl; simp at hl
  refine ⟨r.dropLast, ?_, ?_⟩
  · have := List.dropLast_concat_getLast hr
    rw [List.getLast_eq_getElem] at this
    rw [← (List.getElem?_eq_some_iff.mp h).2]
    exact this.symm
  · have e : r = r.dropLast ++ [r.getLast hr] := (List.dropLast_concat_getLast hr).symm
    have el : r.length - 1 = r.dropLast.length := by rw [List.length_dropLast]
    rw [el]
    conv => lhs; rw [e]
    rw [List.length_dropLast]
    have el2 : (r.dropLast ++ [r.getLast hr]).length - 1 = r.dropLast.length := by simp
    rw [List.set_append_right _ _ (by simp)]
    simp
theorem RuleV.last {r : List (Int × Int)} {a : Int} {p : Int × Int} (g : RuleV r) (hp : r[r.length - 1]? = some p) (h1 : 801 ≤ a) (h2 : a ≤ 999) : RuleW (r.set (r.length - 1) (a, p.2)) := by
  obtain ⟨s, e1, e2⟩ := set_last (q := (a, p.2)) hp
  rw [e2]
  have few := g.few
  have age := g.age
  have part := g.part
  have fall := g.fall
  have rise := g.rise
  have early := g.early
  rw [e1] at few age part fall rise early
  rw [List.pairwise_append] at fall rise early
  refine ⟨by simpa using few, fun q hq => ?_, fun q hq => ?_, ?_, ?_⟩
  · rcases List.mem_append.mp hq with h | h
    · exact age q (List.mem_append_left _ h)
    · rw [List.mem_singleton.mp h]
      dsimp only
      omega
  · rcases List.mem_append.mp hq with h | h
    · exact part q (List.mem_append_left _ h)
    · rw [List.mem_singleton.mp h]
      exact part p (List.mem_append_right _ (List.mem_singleton.mpr rfl))
  · refine List.pairwise_append.mpr ⟨fall.1, List.pairwise_singleton _ _, fun x hx y hy => ?_⟩
    rw [List.mem_singleton.mp hy]
    exact fall.2.2 x hx p (List.mem_singleton.mpr rfl)
  · refine List.pairwise_append.mpr ⟨rise.1, List.pairwise_singleton _ _, fun x hx y hy => ?_⟩
    rw [List.mem_singleton.mp hy]
    have := early.2.2 x hx p (List.mem_singleton.mpr rfl)
    dsimp only
    omega
theorem pairD_eq (p : Int × Int) : pairD p = .tuple [.int p.1, .int p.2] := rfl
/-! ### drawn names -/
theorem nameS_of {s : Str} (h1 : 1 ≤ (tl s).length) (h2 : (tl s).length ≤ 8) (h3 : smalls (tl s) = true) : NameS s := ⟨h1, h2, fun c hc => of_decide_eq_true (List.all_eq_true.mp h3 c hc)⟩
def drawnWords : List Str := [Str.ofString "give", Str.ofString "sell", Str.ofString "heap", Str.ofString "owner", Str.ofString "has", Str.ofString "not", Str.ofString "above", Str.ofString "number", Str.ofString "and", Str.ofString "price", Str.ofString "fetch", Str.ofString "words"]
theorem drawnWords_ok : ∀ s ∈ drawnWords, NameS s := by
  have h : ∀ s ∈ drawnWords, (decide (1 ≤ (tl s).length ∧ (tl s).length ≤ 8) && smalls (tl s)) = true := by decide +kernel
  intro s hs
  have := h s hs
  rw [Bool.and_eq_true, decide_eq_true_eq] at this
  exact nameS_of this.1.1 this.1.2 this.2
theorem name_two {a b : Nat} {s : Str} (ha : 97 ≤ a ∧ a ≤ 122) (hb : 97 ≤ b ∧ b ≤ 122) (hl : (tl s).length ≤ 6) (hs : ∀ c ∈ tl s, 97 ≤ c ∧ c ≤ 122) : NameS (((⟨#[a]⟩ : Str) ++ (⟨#[b]⟩ : Str)) ++ s) := by
  have e : tl (((⟨#[a]⟩ : Str) ++ (⟨#[b]⟩ : Str)) ++ s) = a :: b :: tl s := by rw [tl_append, tl_append]; rfl
  refine ⟨by rw [e]; simp, by rw [e]; simp; omega, fun c hc => ?_⟩
  rw [e] at hc
  rcases List.mem_cons.mp hc with rfl | hc
  · exact ha
  · rcases List.mem_cons.mp hc with rfl | hc
    · exact hb
    · exact hs c hc
theorem joinL_nil : ∀ ls : List (List Nat), joinL [] ls = ls.flatten
  | [] => rfl
  | [x] => by simp [joinL]
  | x :: y :: r => by
    show x ++ ([] ++ joinL [] (y :: r)) = _
    rw [joinL_nil (y :: r), List.nil_append]
    rfl
theorem tl_joinC (cs : List Nat) : tl (Str.join (Str.ofString "") (cs.map fun c => (⟨#[c]⟩ : Str))) = cs := by
  rw [tl_join]
  have e : tl (Str.ofString "") = [] := by decide +kernel
  rw [e, joinL_nil, List.map_map]
  induction cs with
  | nil => rfl
  | cons c r ih =>
    rw [List.map_cons, List.flatten_cons, ih]
    rfl
/-! ### tags as data -/
def tagFs (f : Five) : List (PyData × PyData) := [(.str (Str.ofString "owner"), .str f.owner), (.str (Str.ofString "number"), .int f.number), (.str (Str.ofString "price"), .int f.price), (.str (Str.ofString "least"), .int f.least), (.str (Str.ofString "day"), .int f.day)]
def tagD (f : Five) : PyData := .dict ((.str (Str.ofString "Tag"), .none) :: tagFs f)
/-! ### objects and records by the list of their fields -/
def mkF : List Str → List PyData → List (PyData × PyData)
  | n :: ns, v :: vs => (.str n, v) :: mkF ns vs
  | _, _ => []
def ixF (f : Str) : List Str → Option Nat
  | [] => none
  | n :: ns => if f = n then some 0 else (ixF f ns).map (· + 1)
/-- records: dicts by written words -/
def mkK : List Str → List PyData → Kvs
  | n :: ns, v :: vs => (.inr n, v) :: mkK ns vs
  | _, _ => []
theorem val_mk {f : Str} : ∀ {ns : List Str} {vs : List PyData} {i : Nat} {v : PyData}, ixF f ns = some i → vs[i]? = some v → valD (mkK ns vs) (.inr f) = some v
  | [], _, _, _, h, _ => by cases h
  | n :: ns, [], _, _, _, hv => by cases hv
  | n :: ns, w :: vs, i, v, h, hv => by
    unfold ixF at h
    unfold mkK
    by_cases e : f = n
    · rw [if_pos e] at h
      cases h
      rw [valD_pos (by rw [e])]
      exact hv
    · rw [if_neg e] at h
      rw [valD_neg (fun w => e (Sum.inr.inj w).symm)]
      cases h1 : ixF f ns with
      | none => rw [h1] at h; cases h
      | some j =>
        rw [h1] at h
        cases h
        exact val_mk h1 hv
theorem sset_no {S : Sto} {p a : Addr} {o : SO} (h : sset S p o a = none) : S a = none ∧ a ≠ p := by
  by_cases e : a = p
  · rw [e, sset_same] at h; cases h
  · rw [sset_ne e] at h; exact ⟨h, e⟩
theorem if1 {p : Prop} [Decidable p] {a b : Prop} (h : p) (q : a) : if p then a else b := by rw [if_pos h]; exact q
theorem if0 {p : Prop} [Decidable p] {a b : Prop} (h : ¬ p) (q : b) : if p then a else b := by rw [if_neg h]; exact q
theorem get_at {S : Sto} {p : Addr} {f : Str} {ns : List Str} {vs : List PyData} {v : PyData} {k : PyData → Prop} (h : S p = some (.dct (mkK ns vs))) (i : Nat) (q : k v) (hi : ixF f ns = some i := by decide +kernel) (hv : vs[i]? = some v := by rfl) :
    ∃ kd, ((∃ p', hdl p = hdl p' ∧ DctAt S p' kd) ∨ hdl p = dctD kd) ∧ ∃ d, valD kd (.inr f) = some d ∧ k d := ⟨_, .inl ⟨p, rfl, .inl h⟩, v, val_mk hi hv, q⟩
theorem ResKs.mk {S : Sto} : ∀ {ns : List Str} {vs us : List PyData}, ResAll S vs us → ResKs S (mkK ns vs) (mkK ns us)
  | [], _, _, _ => .nil
  | _ :: _, _, _, .nil => .nil
  | _ :: _, _, _, .cons a r => .cons a (ResKs.mk r)
/-! ### levels: plain part -/
def sumP (l : List (Int × Int)) : Int := (l.map (·.1)).sum
def sumL (l : List (Int × Int)) : Int := (l.map (·.2)).sum
/-- what all get, times B, at the level T / B -/
def atLv (T B : Int) (l : List (Int × Int)) : Int := (l.map fun p => max (p.2 * B) (T * p.1)).sum
theorem sumL_cons (p : Int × Int) (l : List (Int × Int)) : sumL (p :: l) = p.2 + sumL l := by unfold sumL; rw [List.map_cons, List.sum_cons]
theorem atLv_cons (T B : Int) (p : Int × Int) (l : List (Int × Int)) : atLv T B (p :: l) = max (p.2 * B) (T * p.1) + atLv T B l := by unfold atLv; rw [List.map_cons, List.sum_cons]
/-- above the level -/
def isUp (T B : Int) (p : Int × Int) : Bool := decide (p.2 * B < T * p.1)
def ups (T B : Int) (l : List (Int × Int)) : List (Int × Int) := l.filter (isUp T B)
structure AskW (l : List (Int × Int)) : Prop where
  p0 : ∀ p ∈ l, 1 ≤ p.1
  l0 : ∀ p ∈ l, 0 ≤ p.2
theorem AskW.ups {l : List (Int × Int)} (w : AskW l) (T B : Int) : AskW (ups T B l) := ⟨fun p h => w.p0 p (List.mem_filter.mp h).1, fun p h => w.l0 p (List.mem_filter.mp h).1⟩
/-- a level found for l: by it all of l get c more than their leasts; it is no greater than that of all of them above -/
structure LvOk (c T B : Int) (l : List (Int × Int)) : Prop where
  b0 : 0 < B
  t0 : 0 < T
  le : T * sumP l ≤ (c + sumL l) * B
  all : atLv T B l = (c + sumL l) * B
theorem le_of_mul {a b k : Int} (hk : 0 < k) (h : a * k ≤ b * k) : a ≤ b := by
  rcases Int.lt_or_le b a with q | q
  · exact absurd (Int.mul_lt_mul_of_pos_right q hk) (by omega)
  · exact q
/-- in lowest terms -/
theorem atLv_div {T B g : Int} (hg : 0 < g) (l : List (Int × Int)) : atLv (T * g) (B * g) l = atLv T B l * g := by
  induction l with
  | nil => show (0 : Int) = 0 * g; rw [Int.zero_mul]
  | cons p l ih =>
    rw [atLv_cons, atLv_cons, ih, Int.add_mul]
    congr 1
    rw [show p.2 * (B * g) = p.2 * B * g from by rw [Int.mul_assoc], show T * g * p.1 = T * p.1 * g from by rw [Int.mul_assoc, Int.mul_comm g, Int.mul_assoc]]
    generalize p.2 * B = x
    generalize T * p.1 = y
    rcases Int.le_total x y with h | h
    · rw [Int.max_eq_right h, Int.max_eq_right (Int.mul_le_mul_of_nonneg_right h (by omega))]
    · rw [Int.max_eq_left h, Int.max_eq_left (Int.mul_le_mul_of_nonneg_right h (by omega))]
/-! ### heaps parted: plain part -/
/-- the whole pennies -/
def wh (T B : Int) (p : Int × Int) : Int := if isUp T B p then T * p.1 / B else p.2
def rm (T B : Int) (p : Int × Int) : Int := T * p.1 % B
def sumW (T B : Int) (l : List (Int × Int)) : Int := (l.map (wh T B)).sum
def sumR (T B : Int) (l : List (Int × Int)) : Int := ((ups T B l).map (rm T B)).sum
theorem wr_sum {T B : Int} (l : List (Int × Int)) : B * sumW T B l + sumR T B l = atLv T B l := by
  induction l with
  | nil => show B * 0 + 0 = (0 : Int); simp
  | cons p l ih =>
    rw [atLv_cons, ← ih]
    unfold sumW sumR ups
    rw [List.map_cons, List.sum_cons, List.filter_cons]
    unfold wh
    by_cases h : p.2 * B < T * p.1
    · rw [show isUp T B p = true from decide_eq_true h, if_pos rfl, if_pos rfl, List.map_cons, List.sum_cons, Int.max_eq_right (by omega)]
      have := Int.mul_ediv_add_emod (T * p.1) B
      unfold rm
      rw [Int.mul_add]
      unfold wh at *
      omega
    · rw [show isUp T B p = false from decide_eq_false h, if_neg (by decide), if_neg (by decide), Int.max_eq_left (by omega), Int.mul_add, Int.mul_comm B p.2]
      unfold wh at *
      omega
theorem sumR_bd {T B : Int} (hB : 0 < B) (l : List (Int × Int)) : 0 ≤ sumR T B l ∧ sumR T B l ≤ ((ups T B l).length : Int) * (B - 1) := by
  unfold sumR
  generalize ups T B l = u
  induction u with
  | nil => exact ⟨Int.le_refl _, by simp⟩
  | cons p u ih =>
    rw [List.map_cons, List.sum_cons, List.length_cons]
    have h1 := Int.emod_nonneg (T * p.1) (show B ≠ 0 by omega)
    have h2 := Int.emod_lt_of_pos (T * p.1) hB
    have e : ((u.length + 1 : Nat) : Int) * (B - 1) = (u.length : Int) * (B - 1) + (B - 1) := by
      rw [Int.natCast_add, Int.add_mul]; simp
    rw [e]
    unfold rm at ih ⊢
    omega
/-- the pennies that are left are no more than there are places for -/
theorem left_ok {T B m : Int} {l : List (Int × Int)} (hB : 0 < B) (z : atLv T B l = m * B) : 0 ≤ m - sumW T B l ∧ m - sumW T B l ≤ ((ups T B l).length : Int) := by
  have e := wr_sum (T := T) (B := B) l
  obtain ⟨r0, r1⟩ := sumR_bd (T := T) hB l
  have k : (m - sumW T B l) * B = sumR T B l := by
    rw [Int.sub_mul, ← z, ← e, Int.mul_comm (sumW T B l)]
    omega
  constructor
  · exact le_of_mul hB (by rw [k, Int.zero_mul]; exact r0)
  · refine le_of_mul hB ?_
    rw [k]
    have : ((ups T B l).length : Int) * (B - 1) ≤ ((ups T B l).length : Int) * B := Int.mul_le_mul_of_nonneg_left (by omega) (by omega)
    omega
/-- j comes ahead of i -/
def bef (g : Int → Int) (j i : Int) : Bool := decide (g i < g j) || (decide (g j = g i) && decide (j < i))
theorem bef_no {g : Int → Int} {j i : Int} (h : bef g j i = true) : bef g i j = false := by
  unfold bef at *
  simp only [Bool.or_eq_true, Bool.and_eq_true, decide_eq_true_eq, Bool.or_eq_false_iff, Bool.and_eq_false_iff, decide_eq_false_iff_not] at *
  omega
theorem bef_self {g : Int → Int} {i : Int} : bef g i i = false := by
  unfold bef
  simp
theorem mem_take_bef {g : Int → Int} : ∀ {l : List Int}, l.Pairwise (fun x y => bef g x y = true) → ∀ (r : Nat) (i : Int), i ∈ l.take r ↔ i ∈ l ∧ l.countP (bef g · i) < r
  | [], _, r, i => by simp
  | x :: l, h, 0, i => by simp
  | x :: l, h, r + 1, i => by
    obtain ⟨h1, h2⟩ := List.pairwise_cons.mp h
    rw [List.take_succ_cons, List.mem_cons, List.mem_cons]
    by_cases e : i = x
    · subst e
      have z : (i :: l).countP (bef g · i) = 0 := by
        rw [List.countP_eq_zero]
        intro y hy
        rcases List.mem_cons.mp hy with rfl | hy
        · rw [bef_self]; decide
        · rw [bef_no (h1 y hy)]; decide
      rw [z]
      simp
    · rw [mem_take_bef h2 r i, List.countP_cons]
      constructor
      · rintro (q | ⟨q1, q2⟩)
        · exact absurd q e
        · refine ⟨.inr q1, ?_⟩
          split <;> omega
      · rintro ⟨q | q, q2⟩
        · exact absurd q e
        · rw [if_pos (h1 i q)] at q2
          exact .inr ⟨q, by omega⟩
/-- the places above the level -/
def oth (T B : Int) (l : List (Int × Int)) : List Int := (l.zipIdx.filter fun q => isUp T B q.1).map fun q => (q.2 : Int)
def gOf (T B : Int) (l : List (Int × Int)) (n : Int) : Int := rm T B (l.getD n.toNat (0, 0))
/-- what each gets -/
def gives (m T B : Int) (l : List (Int × Int)) : List Int := l.zipIdx.map fun q => wh T B q.1 + if (q.2 : Int) ∈ oth T B l ∧ ((oth T B l).countP (bef (gOf T B l) · (q.2 : Int)) : Int) < m - sumW T B l then 1 else 0
theorem oth_inc (T B : Int) (l : List (Int × Int)) : (oth T B l).Pairwise (· < ·) := by
  unfold oth
  rw [List.pairwise_map]
  refine List.Pairwise.filter _ ?_
  rw [List.pairwise_iff_getElem]
  intro a b ha hb hab
  simp only [List.getElem_zipIdx]
  omega
theorem mem_oth {T B : Int} {l : List (Int × Int)} {i : Int} : i ∈ oth T B l ↔ 0 ≤ i ∧ ∃ p, l[i.toNat]? = some p ∧ isUp T B p = true := by
  unfold oth
  rw [List.mem_map]
  constructor
  · rintro ⟨q, hq, rfl⟩
    obtain ⟨h1, h2⟩ := List.mem_filter.mp hq
    refine ⟨by omega, q.1, ?_, h2⟩
    rw [Int.toNat_natCast]
    exact List.mem_zipIdx_iff_getElem?.mp h1
  · rintro ⟨h0, p, h1, h2⟩
    exact ⟨(p, i.toNat), List.mem_filter.mpr ⟨List.mem_zipIdx_iff_getElem?.mpr h1, h2⟩, by show ((i.toNat : Nat) : Int) = i; omega⟩
theorem oth_len (T B : Int) (l : List (Int × Int)) : (oth T B l).length = (ups T B l).length := by
  unfold oth ups
  rw [List.length_map, ← List.countP_eq_length_filter, ← List.countP_eq_length_filter]
  have : (l.zipIdx.map (·.1)) = l := by simp
  conv => rhs; rw [← this]
  rw [List.countP_map]
  rfl
theorem sum_ind {α : Type} (xs : List α) (f : α → Int) (c : α → Prop) [DecidablePred c] : (xs.map fun x => f x + if c x then 1 else 0).sum = (xs.map f).sum + (xs.countP (fun x => decide (c x)) : Int) := by
  induction xs with
  | nil => rfl
  | cons x xs ih =>
    rw [List.map_cons, List.sum_cons, List.map_cons, List.sum_cons, List.countP_cons, ih]
    by_cases h : c x
    · simp only [h, if_true, decide_true]
      omega
    · simp only [h, if_false, decide_false, Bool.false_eq_true]
      omega
theorem filter_take {s : List Int} (nd : s.Nodup) (r : Nat) : s.filter (fun i => decide (i ∈ s.take r)) = s.take r := by
  conv => lhs; rw [← List.take_append_drop r s]
  rw [List.filter_append, List.take_append_drop]
  have h1 : (s.take r).filter (fun i => decide (i ∈ s.take r)) = s.take r := List.filter_eq_self.mpr fun i hi => decide_eq_true hi
  have h2 : (s.drop r).filter (fun i => decide (i ∈ s.take r)) = [] := by
    rw [List.filter_eq_nil_iff]
    intro i hi h
    have h := of_decide_eq_true h
    rw [← List.take_append_drop r s] at nd
    exact (List.nodup_append.mp nd).2.2 i h i hi rfl
  rw [h1, h2, List.append_nil]
def befE (g : Int → Int) (x y : Int) : Bool := bef g x y || x == y
theorem sel_len {g : Int → Int} {ns : List Int} (inc : ns.Pairwise (· < ·)) {r : Nat} (hr : r ≤ ns.length) : (ns.filter fun i => decide (ns.countP (bef g · i) < r)).length = r := by
  have pm : (ns.mergeSort (befE g)).Perm ns := List.mergeSort_perm _ _
  have nd : (ns.mergeSort (befE g)).Nodup := pm.nodup_iff.mpr (inc.imp fun h => by omega)
  have so : (ns.mergeSort (befE g)).Pairwise (fun x y => befE g x y = true) := List.pairwise_mergeSort (fun a b c h1 h2 => by
    unfold befE bef at *
    simp only [Bool.or_eq_true, Bool.and_eq_true, decide_eq_true_eq, beq_iff_eq] at *
    rcases h1 with h1 | rfl
    · rcases h2 with h2 | rfl
      · exact .inl (by omega)
      · exact .inl h1
    · exact h2) (fun a b => by
    unfold befE bef
    simp only [Bool.or_eq_true, Bool.and_eq_true, decide_eq_true_eq, beq_iff_eq]
    by_cases e : a = b
    · exact .inl (.inr e)
    · omega) ns
  generalize ns.mergeSort (befE g) = s at *
  have tot : s.Pairwise (fun x y => bef g x y = true) := (so.and nd).imp fun {x y} ⟨h1, h2⟩ => by
    unfold befE at h1
    simp only [Bool.or_eq_true, beq_iff_eq] at h1
    exact h1.resolve_right h2
  rw [← (pm.filter _).length_eq]
  have e : s.filter (fun i => decide (ns.countP (bef g · i) < r)) = s.filter (fun i => decide (i ∈ s.take r)) := by
    refine List.filter_congr fun i hi => ?_
    have q := mem_take_bef tot r i
    rw [pm.countP_eq] at q
    rw [decide_eq_decide, q]
    exact ⟨fun h => ⟨hi, h⟩, fun h => h.2⟩
  rw [e, filter_take nd, List.length_take, pm.length_eq]
  omega
theorem gives_len (m T B : Int) (l : List (Int × Int)) : (gives m T B l).length = l.length := by unfold gives; simp
theorem gives_sum {m T B : Int} {l : List (Int × Int)} (hB : 0 < B) (z : atLv T B l = m * B) : (gives m T B l).sum = m := by
  obtain ⟨h0, h1⟩ := left_ok hB z
  obtain ⟨r, hr⟩ := Int.eq_ofNat_of_zero_le h0
  unfold gives
  rw [sum_ind l.zipIdx (fun q => wh T B q.1) fun q => (q.2 : Int) ∈ oth T B l ∧ ((oth T B l).countP (bef (gOf T B l) · (q.2 : Int)) : Int) < m - sumW T B l]
  have e1 : (l.zipIdx.map fun q => wh T B q.1) = l.map (wh T B) := by
    have : (l.zipIdx.map (·.1)) = l := by simp
    conv => rhs; rw [← this]
    rw [List.map_map]
    rfl
  rw [e1, show (l.map (wh T B)).sum = sumW T B l from rfl]
  have e2 : (l.zipIdx.countP fun q => decide ((q.2 : Int) ∈ oth T B l ∧ ((oth T B l).countP (bef (gOf T B l) · (q.2 : Int)) : Int) < m - sumW T B l)) = ((oth T B l).filter fun i => decide ((oth T B l).countP (bef (gOf T B l) · i) < r)).length := by
    rw [← List.countP_eq_length_filter]
    have : ∀ c : Int → Bool, (oth T B l).countP c = l.zipIdx.countP fun q => isUp T B q.1 && c (q.2 : Int) := fun c => by
      unfold oth
      rw [List.countP_map, List.countP_filter]
      refine List.countP_congr fun q _ => ?_
      simp only [Function.comp, Bool.and_eq_true]
      exact And.comm
    rw [this]
    refine List.countP_congr fun q hq => ?_
    have hu : (q.2 : Int) ∈ oth T B l ↔ isUp T B q.1 = true := by
      rw [mem_oth, Int.toNat_natCast, List.mem_zipIdx_iff_getElem?.mp hq]
      exact ⟨fun ⟨_, p, e, u⟩ => by cases e; exact u, fun u => ⟨by omega, _, rfl, u⟩⟩
    rw [decide_eq_true_eq, Bool.and_eq_true, decide_eq_true_eq, hu, hr]
    constructor
    · exact fun h => ⟨h.1, by have := h.2; omega⟩
    · exact fun h => ⟨h.1, by have := h.2; omega⟩
  rw [e2, sel_len (oth_inc T B l) (by rw [oth_len]; omega)]
  omega
/-! two levels -/
theorem atLv_mono {x y D : Int} {l : List (Int × Int)} (w : AskW l) (h : x ≤ y) : atLv x D l ≤ atLv y D l := by
  induction l with
  | nil => exact Int.le_refl _
  | cons p l ih =>
    rw [atLv_cons, atLv_cons]
    have := ih ⟨fun q h => w.p0 q (List.mem_cons_of_mem _ h), fun q h => w.l0 q (List.mem_cons_of_mem _ h)⟩
    have h1 := w.p0 p List.mem_cons_self
    have : x * p.1 ≤ y * p.1 := Int.mul_le_mul_of_nonneg_right h (by omega)
    omega
theorem atLv_lt {x y D : Int} {l : List (Int × Int)} (w : AskW l) (h : x < y) (u : ∃ p ∈ l, p.2 * D < y * p.1) : atLv x D l < atLv y D l := by
  induction l with
  | nil => obtain ⟨p, hp, _⟩ := u; cases hp
  | cons p l ih =>
    have w' : AskW l := ⟨fun q h => w.p0 q (List.mem_cons_of_mem _ h), fun q h => w.l0 q (List.mem_cons_of_mem _ h)⟩
    rw [atLv_cons, atLv_cons]
    have h1 := w.p0 p List.mem_cons_self
    have h2 : x * p.1 < y * p.1 := Int.mul_lt_mul_of_pos_right h (by omega)
    have h3 := atLv_mono (D := D) w' (Int.le_of_lt h)
    obtain ⟨q, hq, hu⟩ := u
    rcases List.mem_cons.mp hq with rfl | hq
    · omega
    · have := ih w' ⟨q, hq, hu⟩
      omega
/-- if none is above, all get their leasts -/
theorem atLv_none {y D : Int} {l : List (Int × Int)} (h : ∀ p ∈ l, ¬ p.2 * D < y * p.1) : atLv y D l = sumL l * D := by
  induction l with
  | nil => show (0 : Int) = 0 * D; rw [Int.zero_mul]
  | cons p l ih =>
    rw [atLv_cons, sumL_cons, ih fun q hq => h q (List.mem_cons_of_mem _ hq), Int.add_mul]
    have := h p List.mem_cons_self
    omega
theorem cross_mul {T B C : Int} {l : List (Int × Int)} {m : Int} (hC : 0 < C) (h : atLv T B l = m * B) : atLv (T * C) (B * C) l = m * (B * C) := by
  rw [atLv_div hC, h, Int.mul_assoc]
theorem lv_one {T B U C m : Int} {l : List (Int × Int)} (w : AskW l) (hm : sumL l < m) (hB : 0 < B) (hC : 0 < C) (h1 : atLv T B l = m * B) (h2 : atLv U C l = m * C) : T * C = U * B := by
  have e1 := cross_mul hC h1
  have e2 := cross_mul hB h2
  rw [Int.mul_comm C B] at e2
  have hD : 0 < B * C := Int.mul_pos hB hC
  have up : ∀ y, atLv y (B * C) l = m * (B * C) → ∃ p ∈ l, p.2 * (B * C) < y * p.1 := fun y e => by
    refine Classical.byContradiction fun n => ?_
    have := atLv_none (y := y) (D := B * C) (l := l) fun p hp q => n ⟨p, hp, q⟩
    rw [e] at this
    have := Int.mul_lt_mul_of_pos_right hm hD
    omega
  rcases Int.lt_trichotomy (T * C) (U * B) with h | h | h
  · have := atLv_lt w h (up _ e2)
    omega
  · exact h
  · have := atLv_lt w h (up _ e1)
    omega
section
variable {T B U C : Int} (hB : 0 < B) (hC : 0 < C) (e : T * C = U * B)
include hB hC e
theorem same_up (p : Int × Int) : isUp T B p = isUp U C p := by
  unfold isUp
  rw [decide_eq_decide]
  have a1 : p.2 * B * C = p.2 * C * B := by rw [Int.mul_assoc, Int.mul_comm B, ← Int.mul_assoc]
  have a2 : T * p.1 * C = U * p.1 * B := by rw [Int.mul_assoc, Int.mul_comm p.1, ← Int.mul_assoc, e, Int.mul_assoc, Int.mul_comm B, ← Int.mul_assoc]
  constructor
  · intro h
    have := Int.mul_lt_mul_of_pos_right h hC
    rw [a1, a2] at this
    exact Int.lt_of_mul_lt_mul_right this (by omega)
  · intro h
    have := Int.mul_lt_mul_of_pos_right h hB
    rw [← a1, ← a2] at this
    exact Int.lt_of_mul_lt_mul_right this (by omega)
theorem same_mul (p : Int × Int) : T * p.1 * C = U * p.1 * B := by rw [Int.mul_assoc, Int.mul_comm p.1, ← Int.mul_assoc, e, Int.mul_assoc, Int.mul_comm B, ← Int.mul_assoc]
theorem same_wh (p : Int × Int) : wh T B p = wh U C p := by
  unfold wh
  rw [same_up hB hC e]
  have : T * p.1 / B = U * p.1 / C := by
    rw [← Int.mul_ediv_mul_of_pos_left (T * p.1) B hC, ← Int.mul_ediv_mul_of_pos_left (U * p.1) C hB, same_mul hB hC e, Int.mul_comm B C]
  rw [this]
theorem same_rm (p : Int × Int) : rm T B p * C = rm U C p * B := by
  unfold rm
  rw [Int.mul_comm _ C, Int.mul_comm _ B, ← Int.mul_emod_mul_of_pos _ _ hC, ← Int.mul_emod_mul_of_pos _ _ hB, Int.mul_comm C (T * p.1), Int.mul_comm B (U * p.1), same_mul hB hC e, Int.mul_comm C B]
theorem same_lt (p q : Int × Int) : rm T B p < rm T B q ↔ rm U C p < rm U C q := by
  have h1 := same_rm hB hC e p
  have h2 := same_rm hB hC e q
  constructor
  · intro h
    have := Int.mul_lt_mul_of_pos_right h hC
    rw [h1, h2] at this
    exact Int.lt_of_mul_lt_mul_right this (by omega)
  · intro h
    have := Int.mul_lt_mul_of_pos_right h hB
    rw [← h1, ← h2] at this
    exact Int.lt_of_mul_lt_mul_right this (by omega)
theorem same_gives (m : Int) (l : List (Int × Int)) : gives m T B l = gives m U C l := by
  have eo : oth T B l = oth U C l := by
    unfold oth
    congr 1
    exact List.filter_congr fun q _ => same_up hB hC e q.1
  have es : sumW T B l = sumW U C l := by
    unfold sumW
    congr 1
    exact List.map_congr_left fun p _ => same_wh hB hC e p
  have eb : ∀ i j, bef (gOf T B l) i j = bef (gOf U C l) i j := fun i j => by
    unfold bef gOf
    have h1 := same_lt hB hC e (l.getD j.toNat (0, 0)) (l.getD i.toNat (0, 0))
    have h2 := same_lt hB hC e (l.getD i.toNat (0, 0)) (l.getD j.toNat (0, 0))
    rw [Bool.eq_iff_iff]
    simp only [Bool.or_eq_true, Bool.and_eq_true, decide_eq_true_eq]
    omega
  unfold gives
  refine List.map_congr_left fun q _ => ?_
  rw [same_wh hB hC e, eo, es, show (fun x => bef (gOf T B l) x (q.2 : Int)) = (fun x => bef (gOf U C l) x (q.2 : Int)) from funext fun x => eb x _]
end
/-- a level of a sum -/
structure LvA (m : Int) (l : List (Int × Int)) (T B : Int) : Prop where
  b0 : 0 < B
  t0 : 0 < T
  all : atLv T B l = m * B
/-- what part_heap gives -/
def HeapOf (m : Int) (l : List (Int × Int)) (vs : List Int) : Prop := (m = sumL l ∧ vs = l.map (·.2)) ∨ (sumL l < m ∧ ∃ T B, LvA m l T B ∧ vs = gives m T B l)
theorem HeapOf.len {m : Int} {l : List (Int × Int)} {vs : List Int} (h : HeapOf m l vs) : vs.length = l.length := by
  rcases h with ⟨_, rfl⟩ | ⟨_, T, B, _, rfl⟩
  · exact List.length_map ..
  · exact gives_len ..
theorem HeapOf.sum {m : Int} {l : List (Int × Int)} {vs : List Int} (h : HeapOf m l vs) : vs.sum = m := by
  rcases h with ⟨e, rfl⟩ | ⟨_, T, B, z, rfl⟩
  · exact e.symm
  · exact gives_sum z.b0 z.all
theorem HeapOf.one {m : Int} {l : List (Int × Int)} {vs us : List Int} (w : AskW l) (h : HeapOf m l vs) (h' : HeapOf m l us) : vs = us := by
  rcases h with ⟨e, rfl⟩ | ⟨e, T, B, z, rfl⟩ <;> rcases h' with ⟨e', rfl⟩ | ⟨e', U, C, z', rfl⟩
  · rfl
  · omega
  · omega
  · exact same_gives z.b0 z'.b0 (lv_one w e z.b0 z'.b0 z.all z'.all) m l
/-! the account of deeds: plain -/
section
variable {α : Type}
def kget (l : List (L2.Key × α)) (k : L2.Key) : Option α := (l.find? fun z => decide (z.1 = k)).map (·.2)
def kput (l : List (L2.Key × α)) (k : L2.Key) (a : α) : List (L2.Key × α) := if (kget l k).isSome = true then l.map (fun z => if z.1 = k then (z.1, a) else z) else l ++ [(k, a)]
def kmap (f : α → PyData) (l : List (L2.Key × α)) : Kvs := l.map fun z => (z.1, f z.2)
def hdK (ad : L2.Key → Addr) (l : List (L2.Key × α)) : Kvs := l.map fun z => (z.1, DL.hdl (ad z.1))
def upA (ad : L2.Key → Addr) (k : L2.Key) (p : Addr) : L2.Key → Addr := fun j => if j = k then p else ad j
theorem kget_nil {k : L2.Key} : kget ([] : List (L2.Key × α)) k = none := rfl
theorem kget_cons {z : L2.Key × α} {l : List (L2.Key × α)} {k : L2.Key} : kget (z :: l) k = if z.1 = k then some z.2 else kget l k := by
  unfold kget
  rw [List.find?_cons]
  by_cases h : z.1 = k
  · rw [if_pos h, decide_eq_true h]; rfl
  · rw [if_neg h, decide_eq_false h]
theorem kget_gen {f : L2.Key → α → PyData} {l : List (L2.Key × α)} {k : L2.Key} : valD (l.map fun z => (z.1, f z.1 z.2)) k = (kget l k).map (f k) := by
  induction l with
  | nil => rfl
  | cons z r ih =>
    rw [List.map_cons, kget_cons]
    by_cases h : z.1 = k
    · rw [valD_pos h, if_pos h, ← h]; rfl
    · rw [valD_neg h, if_neg h]; exact ih
theorem val_kmap {f : α → PyData} {l : List (L2.Key × α)} {k : L2.Key} : valD (kmap f l) k = (kget l k).map f := kget_gen (f := fun _ => f)
theorem put_kmap {f : α → PyData} {l : List (L2.Key × α)} {k : L2.Key} {a : α} : putE (kmap f l) k (f a) = kmap f (kput l k a) := by
  unfold putE kput
  rw [val_kmap]
  cases kget l k with
  | none => show kmap f l ++ [(k, f a)] = kmap f (l ++ [(k, a)]); unfold kmap; rw [List.map_append]; rfl
  | some b =>
    show (kmap f l).map _ = kmap f (l.map _)
    unfold kmap
    rw [List.map_map, List.map_map]
    refine List.map_congr_left fun z _ => ?_
    show (if z.1 = k then (z.1, f a) else (z.1, f z.2)) = ((if z.1 = k then (z.1, a) else z).1, f (if z.1 = k then (z.1, a) else z).2)
    by_cases h : z.1 = k
    · rw [if_pos h, if_pos h]
    · rw [if_neg h, if_neg h]
theorem keys_put {l : List (L2.Key × α)} {k : L2.Key} {a : α} : (kput l k a).map (·.1) = if (kget l k).isSome = true then l.map (·.1) else l.map (·.1) ++ [k] := by
  unfold kput
  split
  · rw [List.map_map]
    refine List.map_congr_left fun z _ => ?_
    show (if z.1 = k then (z.1, a) else z).1 = z.1
    split <;> rfl
  · rw [List.map_append]; rfl
theorem kget_some {l : List (L2.Key × α)} {k : L2.Key} {a : α} (h : kget l k = some a) : (k, a) ∈ l := by
  induction l with
  | nil => cases h
  | cons z r ih =>
    rw [kget_cons] at h
    split at h
    · next e => cases h; rw [← e]; exact List.mem_cons_self
    · exact List.mem_cons_of_mem _ (ih h)
theorem kget_none {l : List (L2.Key × α)} {k : L2.Key} : kget l k = none ↔ k ∉ l.map (·.1) := by
  induction l with
  | nil => simp [kget_nil]
  | cons z r ih =>
    rw [kget_cons, List.map_cons, List.mem_cons, not_or]
    by_cases h : z.1 = k
    · rw [if_pos h]; simp [h]
    · rw [if_neg h, ih]; exact ⟨fun q => ⟨fun w => h w.symm, q⟩, fun q => q.2⟩
theorem kget_app {l r : List (L2.Key × α)} {k : L2.Key} : kget (l ++ r) k = (kget l k).or (kget r k) := by
  induction l with
  | nil => rfl
  | cons z l ih =>
    rw [List.cons_append, kget_cons, kget_cons]
    by_cases h : z.1 = k
    · rw [if_pos h, if_pos h]; rfl
    · rw [if_neg h, if_neg h, ih]
theorem kget_map {l : List (L2.Key × α)} {k j : L2.Key} {a : α} : kget (l.map fun z => if z.1 = k then (z.1, a) else z) j = if j = k then (kget l j).map fun _ => a else kget l j := by
  induction l with
  | nil => simp [kget_nil]
  | cons z r ih =>
    rw [List.map_cons, kget_cons, kget_cons, ih]
    have e1 : (if z.1 = k then (z.1, a) else z).1 = z.1 := by split <;> rfl
    rw [e1]
    by_cases h : z.1 = j
    · rw [if_pos h, if_pos h]
      by_cases hk : j = k
      · rw [if_pos hk, if_pos (h.trans hk)]; rfl
      · rw [if_neg hk, if_neg (fun w => hk (h.symm.trans w))]
    · rw [if_neg h, if_neg h]
theorem kget_put {l : List (L2.Key × α)} {k j : L2.Key} {a : α} : kget (kput l k a) j = if j = k then some a else kget l j := by
  unfold kput
  cases e : kget l k with
  | none =>
    rw [if_neg (by exact Bool.false_ne_true), kget_app, kget_cons, kget_nil]
    by_cases h : j = k
    · rw [if_pos h, if_pos h.symm, h, e]; rfl
    · rw [if_neg h, if_neg (fun w => h w.symm)]; cases kget l j <;> rfl
  | some b =>
    rw [if_pos (by rfl), kget_map]
    by_cases h : j = k
    · rw [if_pos h, if_pos h, h, e]; rfl
    · rw [if_neg h, if_neg h]
theorem kput_len {l : List (L2.Key × α)} {k : L2.Key} {a : α} : (kput l k a).length ≤ l.length + 1 := by
  unfold kput
  split
  · rw [List.length_map]; omega
  · rw [List.length_append]; simp
end
inductive Spot where
  | there | sold | fetched | lost
deriving DecidableEq
def Spot.tx : Spot → Str
  | .there => Str.ofString "there"
  | .sold => Str.ofString "sold"
  | .fetched => Str.ofString "fetched"
  | .lost => Str.ofString "lost"
/-- a thing that was given in -/
structure Th where
  tag : Five
  words : List Str
  entry : Int
  leave : Bool
  spot : Spot
  since : Int
  spotE : Int
  was : Str
  old : Str
  got : Int × Int
structure Acc where
  rule : List (Int × Int)
  share : Int
  keep : Int
  ths : List (L2.Key × Th)
  due : List (L2.Key × Int)
  paid : Int
  lines : List PyData
  words : List (L2.Key × Str)
inductive Deed where
  | give (o : Str) (n p l : Int) (ws : List Str)
  | let_ (n : Int)
  | rule (r : List (Int × Int))
  | share (s : Int)
  | sell (n : Int) (a : Option Int)
  | heap (ns : List Int) (am : Int)
  | back (n : Int)
  | fetch (n : Int)
  | lose (n : Int)
  | find (n : Int)
  | pay (o : Str) (am : Int)
def optI : Option Int → PyData
  | none => .none
  | some i => .int i
def Deed.d : Deed → PyData
  | .give o n p l ws => .tuple [.str (Str.ofString "give"), .str o, .int n, .int p, .int l, .tuple (ws.map .str)]
  | .let_ n => .tuple [.str (Str.ofString "let"), .int n]
  | .rule r => .tuple [.str (Str.ofString "rule"), .tuple (r.map pairD)]
  | .share s => .tuple [.str (Str.ofString "share"), .int s]
  | .sell n a => .tuple [.str (Str.ofString "sell"), .int n, optI a]
  | .heap ns am => .tuple [.str (Str.ofString "heap"), .tuple (ns.map .int), .int am]
  | .back n => .tuple [.str (Str.ofString "back"), .int n]
  | .fetch n => .tuple [.str (Str.ofString "fetch"), .int n]
  | .lose n => .tuple [.str (Str.ofString "lose"), .int n]
  | .find n => .tuple [.str (Str.ofString "find"), .int n]
  | .pay o am => .tuple [.str (Str.ofString "pay"), .str o, .int am]
def Acc.owner (a : Acc) (t : Th) (day : Int) : Str := if day < t.tag.day + a.keep then t.tag.owner else Str.ofString ""
def Acc.free (a : Acc) (t : Th) (day : Int) : Bool := t.leave || decide (a.owner t day = Str.ofString "")
def Acc.price (a : Acc) (t : Th) (day : Int) : Int := priceOn a.rule t.tag day (a.free t day)
def Acc.least (a : Acc) (t : Th) (day : Int) : Int := if a.free t day = true then 0 else t.tag.least
def lineD (o : Str) (day : Int) (w : Str) (n amt due : Int) : PyData := .tuple [.str o, .int day, .str w, .int n, .int amt, .int due]
def Acc.dueOf (a : Acc) (o : Str) : Int := (kget a.due (.inr o)).getD 0
def Acc.credit (a : Acc) (o : Str) (day : Int) (w : Str) (n amt : Int) : Acc := if o = Str.ofString "" then a else
  { a with due := kput a.due (.inr o) (a.dueOf o + amt), lines := a.lines ++ [lineD o day w n amt (a.dueOf o + amt)] }
def Acc.set (a : Acc) (k : L2.Key) (t : Th) : Acc := { a with ths := kput a.ths k t }
def Acc.halves (a : Acc) (t : Th) (day amt : Int) : Int × Int := if a.owner t day ≠ Str.ofString "" then (amt - amt * a.share / 100, amt * a.share / 100) else (0, amt)
def Acc.sellOne (a : Acc) (k : L2.Key) (t : Th) (day entry amt : Int) : Acc :=
  (a.set k { t with spot := .sold, since := day, spotE := entry, was := a.owner t day, old := a.owner t day, got := a.halves t day amt }).credit (a.owner t day) day (Str.ofString "sold") t.tag.number (a.halves t day amt).1
/-- those of some numbers that are known -/
def Acc.known (a : Acc) (ns : List Int) : List Int := ns.filter fun n => (kget a.ths (.inl n)).isSome
def Acc.thereN (a : Acc) (n : Int) : Bool := match kget a.ths (.inl n) with
  | some t => decide (t.spot = .there)
  | none => true
/-- what bars a deed with things that are there -/
def Acc.bar (a : Acc) (ns : List Int) : Str := Str.ofString (if (a.known ns).length < ns.length then "none" else if (a.known ns).all a.thereN = true then "" else "gone")
def Acc.askOf (a : Acc) (day : Int) (n : Int) : Int × Int := match kget a.ths (.inl n) with
  | some t => (a.price t day, a.least t day)
  | none => (0, 0)
def Acc.asks (a : Acc) (day : Int) (ns : List Int) : List (Int × Int) := ns.map (a.askOf day)
def Acc.sellN (a : Acc) (day entry : Int) (p : Int × Int) : Acc := match kget a.ths (.inl p.1) with
  | some t => a.sellOne (.inl p.1) t day entry p.2
  | none => a
def Acc.sellAll (a : Acc) (day entry : Int) (l : List (Int × Int)) : Acc := l.foldl (fun b p => b.sellN day entry p) a
open Classical in
/-- how a heap is parted -/
noncomputable def partH (m : Int) (l : List (Int × Int)) : List Int := if h : ∃ vs, HeapOf m l vs then choose h else []
/-- what a thing is behind it went -/
def Th.put (t : Th) (s : Spot) (day e : Int) (o : Str) (g : Int × Int) : Th := { t with spot := s, since := day, spotE := e, was := o, old := o, got := g }
/-- a thing that went is there again -/
def Th.again (t : Th) (day entry : Int) : Th := { t with spot := .there, since := day, spotE := entry, was := t.tag.owner, got := (0, 0) }
def Acc.again (a : Acc) (k : L2.Key) (t : Th) (day entry : Int) (w : Str) : Acc := (a.credit t.was day w t.tag.number (0 - t.got.1)).set k (t.again day entry)
def Acc.on (a : Acc) (n : Int) (f : Th → Acc × Str) : Acc × Str := match kget a.ths (.inl n) with
  | none => (a, Str.ofString "none")
  | some t => f t
theorem Acc.on0 {a : Acc} {n : Int} {f : Th → Acc × Str} (e : kget a.ths (.inl n) = none) : a.on n f = (a, Str.ofString "none") := by
  unfold Acc.on
  rw [e]
theorem Acc.on1 {a : Acc} {n : Int} {f : Th → Acc × Str} {t : Th} (e : kget a.ths (.inl n) = some t) : a.on n f = f t := by
  unfold Acc.on
  rw [e]
def Acc.lostL (a : Acc) (t : Th) (day : Int) : Int := if a.owner t day = Str.ofString "" then 0 else t.tag.least
/-- one more deed but for its word -/
noncomputable def Acc.step (a : Acc) (day entry : Int) : Deed → Acc × Str
  | .give o n p l ws => match kget a.ths (.inl n) with
    | some _ => (a, Str.ofString "known")
    | none => (a.set (.inl n) ⟨⟨o, n, p, l, day⟩, ws, entry, false, .there, day, entry, o, o, (0, 0)⟩, Str.ofString "done")
  | .let_ n => match kget a.ths (.inl n) with
    | none => (a, Str.ofString "none")
    | some t => (a.set (.inl n) { t with leave := true }, Str.ofString "done")
  | .rule r => ({ a with rule := r }, Str.ofString "done")
  | .share s => ({ a with share := s }, Str.ofString "done")
  | .sell n am => match kget a.ths (.inl n) with
    | none => (a, Str.ofString "none")
    | some t => if t.spot ≠ .there then (a, Str.ofString "gone") else
      if am.getD (a.price t day) < a.least t day then (a, Str.ofString "low") else (a.sellOne (.inl n) t day entry (am.getD (a.price t day)), Str.ofString "done")
  | .heap ns am => if a.bar ns = Str.ofString "" then (if am < sumL (a.asks day ns) then (a, Str.ofString "low") else (a.sellAll day entry (ns.zip (partH am (a.asks day ns))), Str.ofString "done")) else (a, a.bar ns)
  | .back n => a.on n fun t => if t.spot = .sold then (a.again (.inl n) t day entry (Str.ofString "back"), Str.ofString "done") else (a, Str.ofString "unsold")
  | .fetch n => a.on n fun t => if t.spot = .there then (if a.owner t day = Str.ofString "" then (a, Str.ofString "late") else (a.set (.inl n) (t.put .fetched day entry (a.owner t day) (0, 0)), Str.ofString "done")) else (a, Str.ofString "gone")
  | .lose n => a.on n fun t => if t.spot = .there then ((a.set (.inl n) (t.put .lost day entry (a.owner t day) (a.lostL t day, 0 - a.lostL t day))).credit (a.owner t day) day (Str.ofString "lost") t.tag.number (a.lostL t day), Str.ofString "done") else (a, Str.ofString "gone")
  | .find n => a.on n fun t => if t.spot = .lost then (a.again (.inl n) t day entry (Str.ofString "found"), Str.ofString "done") else (a, Str.ofString "found")
  | .pay o am => if a.dueOf o < am then (a, Str.ofString "much") else (({ a with paid := a.paid + am } : Acc).credit o day (Str.ofString "paid") 0 (0 - am), Str.ofString "done")
noncomputable def Acc.go (a : Acc) (day entry : Int) (d : Deed) : Acc := { (a.step day entry d).1 with words := kput (a.step day entry d).1.words (.inl entry) (a.step day entry d).2 }
def Acc.begin (r : List (Int × Int)) (s k : Int) : Acc := ⟨r, s, k, [], [], 0, [], []⟩
section
variable {a : Acc} {day en : Int}
theorem step_give1 {o : Str} {n p l : Int} {ws : List Str} {t : Th} (e : kget a.ths (.inl n) = some t) : a.step day en (.give o n p l ws) = (a, Str.ofString "known") := by
  show (match kget a.ths (.inl n) with | some _ => _ | none => _) = _
  rw [e]
theorem step_give0 {o : Str} {n p l : Int} {ws : List Str} (e : kget a.ths (.inl n) = none) : a.step day en (.give o n p l ws) = (a.set (.inl n) ⟨⟨o, n, p, l, day⟩, ws, en, false, .there, day, en, o, o, (0, 0)⟩, Str.ofString "done") := by
  show (match kget a.ths (.inl n) with | some _ => _ | none => _) = _
  rw [e]
theorem step_let0 {n : Int} (e : kget a.ths (.inl n) = none) : a.step day en (.let_ n) = (a, Str.ofString "none") := by
  show (match kget a.ths (.inl n) with | none => _ | some _ => _) = _
  rw [e]
theorem step_let1 {n : Int} {t : Th} (e : kget a.ths (.inl n) = some t) : a.step day en (.let_ n) = (a.set (.inl n) { t with leave := true }, Str.ofString "done") := by
  show (match kget a.ths (.inl n) with | none => _ | some t => (a.set (.inl n) { t with leave := true }, _)) = _
  rw [e]
theorem step_sell0 {n : Int} {am : Option Int} (e : kget a.ths (.inl n) = none) : a.step day en (.sell n am) = (a, Str.ofString "none") := by
  show (match kget a.ths (.inl n) with | none => _ | some _ => _) = _
  rw [e]
theorem step_sell1 {n : Int} {am : Option Int} {t : Th} (e : kget a.ths (.inl n) = some t) : a.step day en (.sell n am) = if t.spot ≠ .there then (a, Str.ofString "gone") else
      if am.getD (a.price t day) < a.least t day then (a, Str.ofString "low") else (a.sellOne (.inl n) t day en (am.getD (a.price t day)), Str.ofString "done") := by
  simp only [Acc.step, e]
end
section
variable {a : Acc} {day en : Int}
end
/-- what deeds may be -/
def Deed.Ok : Deed → Prop
  | .give o n p l ws => NameS o ∧ 1 ≤ n ∧ n ≤ 9999 ∧ 1 ≤ p ∧ p ≤ 99999 ∧ 0 ≤ l ∧ l ≤ p ∧ ws.length ≤ 6 ∧ (∀ w ∈ ws, NameS w) ∧ ws.Pairwise (fun x y => x.cps.toList < y.cps.toList)
  | .let_ n => 1 ≤ n ∧ n ≤ 9999
  | .rule r => RuleW r
  | .share s => 0 ≤ s ∧ s ≤ 100
  | .sell n a => 1 ≤ n ∧ n ≤ 9999 ∧ ∀ x, a = some x → 0 ≤ x ∧ x ≤ 9999999
  | .heap ns am => 2 ≤ ns.length ∧ ns.length ≤ 12 ∧ (∀ n ∈ ns, 1 ≤ n ∧ n ≤ 9999) ∧ ns.Pairwise (· < ·) ∧ 0 ≤ am ∧ am ≤ 9999999
  | .back n => 1 ≤ n ∧ n ≤ 9999
  | .fetch n => 1 ≤ n ∧ n ≤ 9999
  | .lose n => 1 ≤ n ∧ n ≤ 9999
  | .find n => 1 ≤ n ∧ n ≤ 9999
  | .pay o am => NameS o ∧ 1 ≤ am ∧ am ≤ 9999999
/-- keys are met once -/
def KNd {α : Type} (l : List (L2.Key × α)) : Prop := (l.map (·.1)).Nodup
theorem KNd.get {α : Type} : ∀ {l : List (L2.Key × α)} {z : L2.Key × α}, KNd l → z ∈ l → kget l z.1 = some z.2
  | [], _, _, h => by cases h
  | w :: r, z, nd, h => by
    have nd' := List.nodup_cons.mp nd
    rw [kget_cons]
    rcases List.mem_cons.mp h with e | e
    · rw [if_pos (by rw [e]), e]
    · rw [if_neg (fun q => nd'.1 (by show w.1 ∈ _; rw [q]; exact List.mem_map_of_mem e))]
      exact KNd.get (l := r) nd'.2 e
theorem KNd.put {α : Type} {l : List (L2.Key × α)} {k : L2.Key} {a : α} (h : KNd l) : KNd (kput l k a) := by
  unfold KNd
  rw [keys_put]
  split
  · exact h
  · next hn =>
    have hn : kget l k = none := by cases e : kget l k with
      | none => rfl
      | some c => rw [e] at hn; exact absurd rfl hn
    refine List.nodup_append.mpr ⟨h, List.nodup_cons.mpr ⟨List.not_mem_nil, List.nodup_nil⟩, fun x hx y hy e => ?_⟩
    rcases List.mem_singleton.mp hy with rfl
    exact kget_none.mp hn (e ▸ hx)
/-- what a thing is at the end of some day -/
structure Th.Ok (t : Th) (k : L2.Key) (day : Int) : Prop where
  tag : t.tag.Ok
  day : t.tag.day ≤ day
  key : k = .inl t.tag.number
  words : t.words.length ≤ 6
  name : ∀ w ∈ t.words, NameS w
  none : t.spot = .there → t.got = (0, 0)
  old : t.spot ≠ .there → t.old = t.was
  own : t.was = t.tag.owner ∨ t.was = Str.ofString ""
/-- what an account is at the end of some day, behind so many deeds -/
structure Acc.Ok (a : Acc) (day : Int) (m : Nat) : Prop where
  s0 : 0 ≤ a.share
  s1 : a.share ≤ 100
  th : ∀ k t, kget a.ths k = some t → t.Ok k day
  nd : KNd a.ths
  wd : KNd a.words
  lt : a.ths.length ≤ m
  ld : a.due.length ≤ m
  ll : a.lines.length ≤ m
  lw : a.words.length ≤ m
  rule : RuleW a.rule
  we : ∀ z ∈ a.words, ∃ i, z.1 = .inl i
theorem Acc.Ok.up {a : Acc} {day day' : Int} {m m' : Nat} (h : a.Ok day m) (hd : day ≤ day') (hm : m ≤ m') : a.Ok day' m' := by
  obtain ⟨h1, h2, h3, h4, h5, h6, h7, h8, h9, h10, h11⟩ := h
  exact ⟨h1, h2, fun k t hk => by
    obtain ⟨q1, q2, q3, q4, q5, q6, q7, q8⟩ := h3 k t hk
    exact ⟨q1, by omega, q3, q4, q5, q6, q7, q8⟩, h4, h5, by omega, by omega, by omega, by omega, h10, h11⟩
theorem Acc.Ok.set {a : Acc} {day : Int} {m : Nat} (h : a.Ok day m) {k : L2.Key} {t : Th} (ok : t.Ok k day) : (a.set k t).Ok day (m + 1) := by
  obtain ⟨h1, h2, h3, h4, h5, h6, h7, h8, h9, h10, h11⟩ := h
  have := kput_len (l := a.ths) (k := k) (a := t)
  refine ⟨h1, h2, fun j u hj => ?_, h4.put, h5, by show (kput a.ths k t).length ≤ _; omega, by show a.due.length ≤ _; omega, by show a.lines.length ≤ _; omega, by show a.words.length ≤ _; omega, h10, h11⟩
  have hj : kget (kput a.ths k t) j = some u := hj
  rw [kget_put] at hj
  by_cases c : j = k
  · rw [if_pos c] at hj
    cases hj
    rw [c]; exact ok
  · rw [if_neg c] at hj
    exact h3 j u hj
theorem Acc.Ok.credit {a : Acc} {day : Int} {m : Nat} (h : a.Ok day m) (o : Str) (d : Int) (w : Str) (n amt : Int) : (a.credit o d w n amt).Ok day (m + 1) := by
  unfold Acc.credit
  split
  · exact h.up (Int.le_refl _) (by omega)
  · obtain ⟨h1, h2, h3, h4, h5, h6, h7, h8, h9, h10, h11⟩ := h
    have := kput_len (l := a.due) (k := .inr o) (a := a.dueOf o + amt)
    exact ⟨h1, h2, h3, h4, h5, by show a.ths.length ≤ _; omega, by show (kput a.due (.inr o) (a.dueOf o + amt)).length ≤ _; omega, by show (a.lines ++ [_]).length ≤ _; rw [List.length_append]; show a.lines.length + 1 ≤ _; omega, by show a.words.length ≤ _; omega, h10, h11⟩
theorem owner_or (a : Acc) (t : Th) (day : Int) : a.owner t day = t.tag.owner ∨ a.owner t day = Str.ofString "" := by
  unfold Acc.owner
  split
  · exact .inl rfl
  · exact .inr rfl
theorem Th.Ok.put {t : Th} {k : L2.Key} {day : Int} (q : t.Ok k day) {s : Spot} (hs : s ≠ .there) {e : Int} {o : Str} (ho : o = t.tag.owner ∨ o = Str.ofString "") {g : Int × Int} : (t.put s day e o g).Ok k day := ⟨q.tag, q.day, q.key, q.words, q.name, fun e => absurd e hs, fun _ => rfl, ho⟩
theorem Th.Ok.again {t : Th} {k : L2.Key} {day : Int} (q : t.Ok k day) {e : Int} : (t.again day e).Ok k day := ⟨q.tag, q.day, q.key, q.words, q.name, fun _ => rfl, fun h => absurd rfl h, .inl rfl⟩
theorem Acc.Ok.sellOne {a : Acc} {day : Int} {m : Nat} (h : a.Ok day m) {k : L2.Key} {t : Th} (q : t.Ok k day) (en amt : Int) : (a.sellOne k t day en amt).Ok day (m + 2) :=
  (h.set (k := k) (t := { t with spot := .sold, since := day, spotE := en, was := a.owner t day, old := a.owner t day, got := a.halves t day amt }) ⟨q.tag, q.day, q.key, q.words, q.name, (fun e => by cases e), (fun _ => rfl), owner_or a t day⟩).credit _ _ _ _ _
theorem Acc.Ok.again {a : Acc} {day : Int} {m : Nat} (h : a.Ok day m) {k : L2.Key} {t : Th} (q : t.Ok k day) (en : Int) (w : Str) : (a.again k t day en w).Ok day (m + 2) := (h.credit _ _ _ _ _).set q.again
theorem Acc.Ok.sellN {a : Acc} {day : Int} {m : Nat} (h : a.Ok day m) (en : Int) (p : Int × Int) : (a.sellN day en p).Ok day (m + 2) := by
  unfold Acc.sellN
  cases e : kget a.ths (.inl p.1) with
  | none => exact h.up (Int.le_refl _) (by omega)
  | some t => exact h.sellOne (h.th _ _ e) en p.2
theorem Acc.Ok.sellAll {day : Int} (en : Int) : ∀ {l : List (Int × Int)} {a : Acc} {m : Nat}, a.Ok day m → (a.sellAll day en l).Ok day (m + 2 * l.length)
  | [], a, m, h => h
  | p :: l, a, m, h => by
    have := Acc.Ok.sellAll en (l := l) (h.sellN en p)
    exact this.up (Int.le_refl _) (by rw [List.length_cons]; omega)
theorem Acc.Ok.step {a : Acc} {day : Int} {m : Nat} (h : a.Ok day m) {d : Deed} (hd : d.Ok) (d0 : 0 ≤ day) (d1 : day ≤ 999) (en : Int) : (a.step day en d).1.Ok day (m + 24) := by
  have same : a.Ok day (m + 24) := h.up (Int.le_refl _) (by omega)
  cases d with
  | give o n p l ws =>
    obtain ⟨q1, q2, q3, q4, q5, q6, q7, q8, q9, _⟩ := hd
    cases e : kget a.ths (.inl n) with
    | some t => rw [step_give1 e]; exact same
    | none =>
      rw [step_give0 e]
      have := h.set (k := .inl n) (t := ⟨⟨o, n, p, l, day⟩, ws, en, false, .there, day, en, o, o, (0, 0)⟩) ⟨⟨q1, q2, q3, q4, q5, q6, q7, d0, d1⟩, Int.le_refl _, rfl, q8, q9, fun _ => rfl, fun _ => rfl, .inl rfl⟩
      exact this.up (Int.le_refl _) (by omega)
  | let_ n =>
    cases e : kget a.ths (.inl n) with
    | none => rw [step_let0 e]; exact same
    | some t =>
      rw [step_let1 e]
      have q := h.th _ _ e
      have := h.set (k := .inl n) (t := { t with leave := true }) ⟨q.tag, q.day, q.key, q.words, q.name, q.none, q.old, q.own⟩
      exact this.up (Int.le_refl _) (by omega)
  | rule r =>
    obtain ⟨h1, h2, h3, h4, h5, h6, h7, h8, h9, h10, h11⟩ := same
    exact ⟨h1, h2, h3, h4, h5, h6, h7, h8, h9, hd, h11⟩
  | share s =>
    obtain ⟨h1, h2, h3, h4, h5, h6, h7, h8, h9, h10, h11⟩ := same
    exact ⟨hd.1, hd.2, h3, h4, h5, h6, h7, h8, h9, h10, h11⟩
  | sell n am =>
    cases e : kget a.ths (.inl n) with
    | none => rw [step_sell0 e]; exact same
    | some t =>
      rw [step_sell1 e]
      split
      · exact same
      · split
        · exact same
        · exact (h.sellOne (h.th _ _ e) en _).up (Int.le_refl _) (by omega)
  | heap ns am =>
    show (if a.bar ns = Str.ofString "" then _ else _ : Acc × Str).1.Ok day (m + 24)
    split
    · split
      · exact same
      · refine (h.sellAll en).up (Int.le_refl _) ?_
        have := hd.2.1
        rw [List.length_zip]
        omega
    · exact same
  | back n =>
    show (a.on n _).1.Ok day (m + 24)
    cases e : kget a.ths (.inl n) with
    | none => rw [Acc.on0 e]; exact same
    | some t =>
      rw [Acc.on1 e]
      split
      · exact (h.again (h.th _ _ e) en _).up (Int.le_refl _) (by omega)
      · exact same
  | fetch n =>
    show (a.on n _).1.Ok day (m + 24)
    cases e : kget a.ths (.inl n) with
    | none => rw [Acc.on0 e]; exact same
    | some t =>
      rw [Acc.on1 e]
      split
      · split
        · exact same
        · exact (h.set ((h.th _ _ e).put (fun e => by cases e) (owner_or a t day))).up (Int.le_refl _) (by omega)
      · exact same
  | lose n =>
    show (a.on n _).1.Ok day (m + 24)
    cases e : kget a.ths (.inl n) with
    | none => rw [Acc.on0 e]; exact same
    | some t =>
      rw [Acc.on1 e]
      split
      · exact ((h.set ((h.th _ _ e).put (fun e => by cases e) (owner_or a t day))).credit _ _ _ _ _).up (Int.le_refl _) (by omega)
      · exact same
  | find n =>
    show (a.on n _).1.Ok day (m + 24)
    cases e : kget a.ths (.inl n) with
    | none => rw [Acc.on0 e]; exact same
    | some t =>
      rw [Acc.on1 e]
      split
      · exact (h.again (h.th _ _ e) en _).up (Int.le_refl _) (by omega)
      · exact same
  | pay o am =>
    show (if a.dueOf o < am then _ else _ : Acc × Str).1.Ok day (m + 24)
    split
    · exact same
    · have h' : ({ a with paid := a.paid + am } : Acc).Ok day m := by
        obtain ⟨h1, h2, h3, h4, h5, h6, h7, h8, h9, h10, h11⟩ := h
        exact ⟨h1, h2, h3, h4, h5, h6, h7, h8, h9, h10, h11⟩
      exact (h'.credit _ _ _ _ _).up (Int.le_refl _) (by omega)
theorem Acc.Ok.go {a : Acc} {day : Int} {m : Nat} (h : a.Ok day m) {d : Deed} (hd : d.Ok) (d0 : 0 ≤ day) (d1 : day ≤ 999) (en : Int) : (a.go day en d).Ok day (m + 25) := by
  obtain ⟨h1, h2, h3, h4, h5, h6, h7, h8, h9, h10, h11⟩ := h.step hd d0 d1 en
  have := kput_len (l := (a.step day en d).1.words) (k := .inl en) (a := (a.step day en d).2)
  exact ⟨h1, h2, h3, h4, h5.put, by show (a.step day en d).1.ths.length ≤ _; omega, by show (a.step day en d).1.due.length ≤ _; omega, by show (a.step day en d).1.lines.length ≤ _; omega, by show (kput _ _ _).length ≤ _; omega, h10, fun z hz => by
    have hz : z.1 ∈ (kput (a.step day en d).1.words (.inl en) (a.step day en d).2).map (·.1) := List.mem_map_of_mem hz
    rw [keys_put] at hz
    split at hz
    · obtain ⟨u, hu, e⟩ := List.mem_map.mp hz
      rw [← e]; exact h11 u hu
    · rcases List.mem_append.mp hz with hz | hz
      · obtain ⟨u, hu, e⟩ := List.mem_map.mp hz
        rw [← e]; exact h11 u hu
      · exact ⟨en, List.mem_singleton.mp hz⟩⟩
theorem Acc.Ok.begin {r : List (Int × Int)} {s k : Int} (hr : RuleW r) (s0 : 0 ≤ s) (s1 : s ≤ 100) : (Acc.begin r s k).Ok 0 0 := ⟨s0, s1, (fun k t h => by cases h), List.nodup_nil, List.nodup_nil, Nat.le_refl _, Nat.le_refl _, Nat.le_refl _, Nat.le_refl _, hr, (fun z h => by cases h)⟩
/-! rows gone through: plain -/
abbrev DRow := Int × Int × Deed
def keyR (r : DRow) : Int × Int := (r.1, r.2.1)
abbrev leR : DRow → DRow → Bool := le2 keyR
noncomputable def Acc.upto (c : DRow → Bool) (b : Acc) (l : List DRow) : Acc := l.foldl (fun a r => if c r = true then a.go r.1 r.2.1 r.2.2 else a) b
/-- the account of rows to the end of a day -/
noncomputable def Acc.gone (b : Acc) (rs : List DRow) (day : Int) : Acc := Acc.upto (fun r => decide (r.1 ≤ day)) b (rs.mergeSort leR)
structure DRow.Ok (r : DRow) : Prop where
  d0 : 0 ≤ r.1
  d9 : r.1 ≤ 999
  e : 1 ≤ r.2.1
  deed : r.2.2.Ok
theorem le2_total {β : Type} (k : β → Int × Int) (p q : β) : (le2 k p q || le2 k q p) = true := by
  unfold le2
  rw [Bool.or_eq_true, decide_eq_true_eq, decide_eq_true_eq]
  omega
theorem le2_trans {β : Type} (k : β → Int × Int) (p q r : β) (h1 : le2 k p q = true) (h2 : le2 k q r = true) : le2 k p r = true := by
  unfold le2 at *
  rw [decide_eq_true_eq] at *
  omega
theorem sorted_days (rs : List DRow) : (rs.mergeSort leR).Pairwise fun r s => r.1 ≤ s.1 := (List.pairwise_mergeSort (le := leR) (fun a b c h1 h2 => le2_trans keyR a b c h1 h2) (fun a b => le2_total keyR a b) rs).imp fun {a b} h => by
  have h : le2 keyR a b = true := h
  unfold le2 keyR at h
  rw [decide_eq_true_eq] at h
  omega
theorem upto_ok {c : DRow → Bool} : ∀ {l : List DRow} {b : Acc} {d : Int} {m : Nat}, b.Ok d m → l.Pairwise (fun r s => r.1 ≤ s.1) → (∀ r ∈ l, d ≤ r.1 ∧ r.Ok) → ∀ D, d ≤ D → (∀ r ∈ l, c r = true → r.1 ≤ D) → (Acc.upto c b l).Ok D (m + 25 * l.length)
  | [], b, d, m, h, _, _, D, hD, _ => h.up hD (by simp)
  | r :: l, b, d, m, h, pw, hr, D, hD, hc => by
    have pw' := List.pairwise_cons.mp pw
    have q := hr r List.mem_cons_self
    have hl : ∀ s ∈ l, r.1 ≤ s.1 ∧ s.Ok := fun s hs => ⟨pw'.1 s hs, (hr s (List.mem_cons_of_mem _ hs)).2⟩
    have hl' : ∀ s ∈ l, d ≤ s.1 ∧ s.Ok := fun s hs => hr s (List.mem_cons_of_mem _ hs)
    show (Acc.upto c (if c r = true then b.go r.1 r.2.1 r.2.2 else b) l).Ok D _
    by_cases e : c r = true
    · rw [if_pos e]
      have h1 := (h.up q.1 (Nat.le_refl m)).go q.2.deed q.2.d0 q.2.d9 r.2.1
      have := upto_ok (c := c) h1 pw'.2 hl D (hc r List.mem_cons_self e) fun s hs => hc s (List.mem_cons_of_mem _ hs)
      exact this.up (Int.le_refl _) (by rw [List.length_cons]; omega)
    · rw [if_neg e]
      have := upto_ok (c := c) h pw'.2 hl' D hD fun s hs => hc s (List.mem_cons_of_mem _ hs)
      exact this.up (Int.le_refl _) (by rw [List.length_cons]; omega)
theorem gone_ok {b : Acc} {rs : List DRow} (h : b.Ok 0 0) (hr : ∀ r ∈ rs, r.Ok) {day : Int} (d0 : 0 ≤ day) : (b.gone rs day).Ok day (25 * rs.length) := by
  have hr' : ∀ r ∈ rs.mergeSort leR, (0 : Int) ≤ r.1 ∧ r.Ok := fun r h => by
    have := hr r (List.mem_mergeSort.mp h)
    exact ⟨this.d0, this⟩
  have := upto_ok (c := fun r => decide (r.1 ≤ day)) h (sorted_days rs) hr' day d0 fun r _ h => of_decide_eq_true h
  rw [List.length_mergeSort, Nat.zero_add] at this
  exact this
/-! the numbers of an account, rising: plain -/
/-- of a thing of the account -/
def Acc.q (a : Acc) (f : Th → Bool) (n : Int) : Bool := match kget a.ths (.inl n) with
  | some t => f t
  | none => false
def Acc.one (a : Acc) : Int := (a.ths.map fun z => z.2.got.1).sum
def Acc.other (a : Acc) : Int := (a.ths.map fun z => z.2.got.2).sum
/-! ### data that can be compared -/
structure Lay (d : PyData) (k n : Nat) : Prop where
  can : PyData.canLay0 d = true
  dep : d.depth ≤ k
  nod : nodes d ≤ n
structure LayA (ds : List PyData) (k n : Nat) : Prop where
  can : PyData.canLayAll0 ds = true
  dep : PyData.depthAll ds ≤ k
  nod : nodesAll ds ≤ n
theorem Lay.int (i : Int) : Lay (.int i) 0 1 := ⟨rfl, Nat.le_refl _, Nat.le_refl _⟩
theorem Lay.bool (i : Bool) : Lay (.bool i) 0 1 := ⟨rfl, Nat.le_refl _, Nat.le_refl _⟩
theorem Lay.str {x : Str} (h : (PyData.str x).canLay0 = true) : Lay (.str x) 0 1 := ⟨h, Nat.le_refl _, Nat.le_refl _⟩
theorem Lay.none : Lay .none 0 1 := ⟨rfl, Nat.le_refl _, Nat.le_refl _⟩
theorem Lay.list {ds : List PyData} {k n : Nat} (h : LayA ds k n) : Lay (.list ds) (k + 1) (n + 1) := ⟨h.can, Nat.succ_le_succ h.dep, by show nodesAll ds + 1 ≤ _; exact Nat.succ_le_succ h.nod⟩
theorem Lay.tup {ds : List PyData} {k n : Nat} (h : LayA ds k n) : Lay (.tuple ds) (k + 1) (n + 1) := ⟨h.can, Nat.succ_le_succ h.dep, by show nodesAll ds + 1 ≤ _; exact Nat.succ_le_succ h.nod⟩
theorem LayA.nil : LayA [] 0 0 := ⟨rfl, Nat.le_refl _, Nat.le_refl _⟩
theorem LayA.cons {d : PyData} {ds : List PyData} {k n k' n' : Nat} (h : Lay d k n) (h' : LayA ds k' n') : LayA (d :: ds) (max k k') (n + n') := by
  refine ⟨?_, ?_, ?_⟩
  · show (PyData.canLay0 d && PyData.canLayAll0 ds) = true
    rw [h.can, h'.can]; rfl
  · show max d.depth (PyData.depthAll ds) ≤ _
    have := h.dep
    have := h'.dep
    omega
  · show nodes d + nodesAll ds ≤ _
    have := h.nod
    have := h'.nod
    omega
theorem LayA.all {k n : Nat} : ∀ {ds : List PyData}, (∀ d ∈ ds, Lay d k n) → LayA ds k (ds.length * n)
  | [], _ => ⟨rfl, Nat.zero_le _, Nat.zero_le _⟩
  | d :: r, h => by
    have h1 := LayA.cons (h d List.mem_cons_self) (LayA.all (ds := r) fun x hx => h x (List.mem_cons_of_mem _ hx))
    rw [Nat.max_self] at h1
    exact ⟨h1.can, h1.dep, by have := h1.nod; rw [List.length_cons, Nat.add_mul]; omega⟩
theorem Lay.mono {d : PyData} {k n k' n' : Nat} (h : Lay d k n) (hk : k ≤ k') (hn : n ≤ n') : Lay d k' n' := ⟨h.can, Nat.le_trans h.dep hk, Nat.le_trans h.nod hn⟩
theorem Lay.shaped {d : PyData} {k n : Nat} (h : Lay d k n) (hk : k < 8) : SeqAt.shaped d = true := by
  unfold SeqAt.shaped
  rw [h.can, decide_eq_true (by have := h.dep; omega)]
  rfl
theorem LayA.map {α : Type} {f : α → PyData} {k n : Nat} {l : List α} (h : ∀ x ∈ l, Lay (f x) k n) : LayA (l.map f) k (l.length * n) := by
  have := LayA.all (ds := l.map f) (k := k) (n := n) fun d hd => by
    obtain ⟨x, hx, rfl⟩ := List.mem_map.mp hd
    exact h x hx
  rw [List.length_map] at this
  exact this
theorem LayA.ints (ns : List Int) : LayA (ns.map .int) 0 ns.length := by
  have := LayA.map (f := PyData.int) (l := ns) fun i _ => Lay.int i
  rw [Nat.mul_one] at this
  exact this
theorem name_can {s : Str} (h : NameS s) : (PyData.str s).canLay0 = true := by
  show s.cps.all (· < 0x110000) = true
  refine Array.all_eq_true_iff_forall_mem.mpr fun c hc => ?_
  have := h.small c (Array.mem_toList_iff.mpr hc)
  exact decide_eq_true (by omega)
theorem Lay.name {s : Str} (h : NameS s) : Lay (.str s) 0 1 := .str (name_can h)
/-! things and ledgers as data -/
def wordsD (ws : List Str) : PyData := .tuple (ws.map .str)
def thN : List Str := ["own_tag", "own_words", "gave_entry", "leave_given", "spot", "spot_day", "spot_entry", "owner_then", "halves"].map Str.ofString
def thV (t : Th) : List PyData := [tagD t.tag, wordsD t.words, .int t.entry, .bool t.leave, .str t.spot.tx, .int t.since, .int t.spotE, .str t.was, pairD t.got]
def thF (t : Th) : List (PyData × PyData) := mkF thN (thV t)
def thD (t : Th) : PyData := .dict ((.str (Str.ofString "Thing"), .none) :: thF t)
def lgN : List Str := ["rule_now", "share_now", "keep_days", "things_known", "dues_by", "paid_sum", "lines", "words_by"].map Str.ofString
def lgV (a : Acc) (x y z u : PyData) : List PyData := [.tuple (a.rule.map pairD), .int a.share, .int a.keep, x, y, .int a.paid, z, u]
def lgF (a : Acc) (x y z u : PyData) : List (PyData × PyData) := mkF lgN (lgV a x y z u)
def lgFD (a : Acc) : List (PyData × PyData) := lgF a (dctD (kmap thD a.ths)) (dctD (kmap .int a.due)) (.list a.lines) (dctD (kmap .str a.words))
def lgD (a : Acc) : PyData := .dict ((.str (Str.ofString "Ledger"), .none) :: lgFD a)
/-- the ledger in its store -/
structure LedB (S : Sto) (L d1 d2 l1 d3 : Addr) (ad : L2.Key → Addr) (a : Acc) : Prop where
  ob : S L = some (.obj (Str.ofString "Ledger") (mkF lgN (lgV a (hdl d1) (hdl d2) (hdl l1) (hdl d3))))
  ths : S d1 = some (.dct (hdK ad a.ths))
  th : ∀ k t, kget a.ths k = some t → S (ad k) = some (.obj (Str.ofString "Thing") (mkF thN (thV t)))
  du : S d2 = some (.dct (kmap .int a.due))
  li : S l1 = some (.lst a.lines)
  wo : S d3 = some (.dct (kmap .str a.words))
  inj : ∀ k j t u, kget a.ths k = some t → kget a.ths j = some u → ad k = ad j → k = j
  n12 : d1 ≠ d2
  n13 : d1 ≠ d3
  n23 : d2 ≠ d3
theorem resKs_map {S : Sto} {α : Type} {f g : L2.Key → α → PyData} : ∀ {l : List (L2.Key × α)}, (∀ z ∈ l, Res S (f z.1 z.2) (g z.1 z.2)) → ResKs S (l.map fun z => (z.1, f z.1 z.2)) (l.map fun z => (z.1, g z.1 z.2))
  | [], _ => .nil
  | z :: r, h => .cons (h z List.mem_cons_self) (resKs_map fun w hw => h w (List.mem_cons_of_mem _ hw))
theorem ResKs.refl {S : Sto} : ∀ kd : Kvs, ResKs S kd kd
  | [] => .nil
  | _ :: r => .cons (.refl _) (ResKs.refl r)
theorem ResFs.refl {S : Sto} : ∀ {ns : List Str} {vs : List PyData}, ResFs S (mkF ns vs) (mkF ns vs)
  | [], _ => .nil
  | _ :: _, [] => .nil
  | _ :: ns, _ :: vs => .cons (.refl _) (ResFs.refl (ns := ns) (vs := vs))
theorem ResFs.mk {S : Sto} : ∀ {ns : List Str} {vs us : List PyData}, ResAll S vs us → ResFs S (mkF ns vs) (mkF ns us)
  | [], _, _, _ => .nil
  | _ :: _, _, _, .nil => .nil
  | _ :: _, _, _, .cons a r => .cons a (ResFs.mk r)
theorem LedB.res {S : Sto} {L d1 d2 l1 d3 : Addr} {ad : L2.Key → Addr} {a : Acc} (h : LedB S L d1 d2 l1 d3 ad a) (nd : KNd a.ths) : Res S (hdl L) (lgD a) := by
  refine .obj h.ob (ResFs.mk (.cons (.refl _) (.cons (.refl _) (.cons (.refl _) (.cons (.dct h.ths ?_) (.cons (.dct h.du (ResKs.refl _)) (.cons (.refl _) (.cons (.lst h.li (ResAll.refl _)) (.cons (.dct h.wo (ResKs.refl _)) .nil)))))))))
  exact resKs_map (f := fun k _ => hdl (ad k)) (g := fun _ t => thD t) fun z hz => .obj (h.th _ _ (nd.get hz)) (ResFs.mk (ResAll.refl _))
theorem some_ne {S : Sto} {p a : Addr} {o : SO} (h : S p = some o) (n : S a = none) : p ≠ a := fun e => by rw [e, n] at h; cases h
section
variable {S : Sto} {L d1 d2 l1 d3 : Addr} {ad : L2.Key → Addr} {a : Acc}
end
/-! the law's own account as data, and in its store -/
def ltN : List Str := ["owner", "price", "least", "day", "words", "let", "at", "since", "was", "got"].map Str.ofString
def ltV (t : Th) : List PyData := [.str t.tag.owner, .int t.tag.price, .int t.tag.least, .int t.tag.day, wordsD t.words, .bool t.leave, .str t.spot.tx, .int t.since, .str t.old, pairD t.got]
def ltD (t : Th) : PyData := dctD (mkK ltN (ltV t))
def stN : List Str := ["rule", "share", "keep", "things", "due", "paid", "lines", "words"].map Str.ofString
def stV (a : Acc) (x y z u : PyData) : List PyData := [.tuple (a.rule.map pairD), .int a.share, .int a.keep, x, y, .int a.paid, z, u]
def stD (a : Acc) : PyData := dctD (mkK stN (stV a (dctD (kmap ltD a.ths)) (dctD (kmap .int a.due)) (.list a.lines) (dctD (kmap .str a.words))))
structure LawB (S : Sto) (w d1 d2 l1 d3 : Addr) (ad : L2.Key → Addr) (a : Acc) : Prop where
  ob : S w = some (.dct (mkK stN (stV a (hdl d1) (hdl d2) (hdl l1) (hdl d3))))
  ths : S d1 = some (.dct (hdK ad a.ths))
  th : ∀ k t, kget a.ths k = some t → S (ad k) = some (.dct (mkK ltN (ltV t)))
  du : S d2 = some (.dct (kmap .int a.due))
  li : S l1 = some (.lst a.lines)
  wo : S d3 = some (.dct (kmap .str a.words))
  inj : ∀ k j t u, kget a.ths k = some t → kget a.ths j = some u → ad k = ad j → k = j
  nd : [w, d1, d2, d3].Nodup
  sep : ∀ k t, kget a.ths k = some t → ad k ∉ [w, d1, d2, d3]
section
variable {S : Sto} {w d1 d2 l1 d3 : Addr} {ad : L2.Key → Addr} {a : Acc}
theorem LawB.n12 (h : LawB S w d1 d2 l1 d3 ad a) : d1 ≠ d2 := fun e => (List.nodup_cons.mp (List.nodup_cons.mp h.nd).2).1 (by simp [e])
theorem LawB.n13 (h : LawB S w d1 d2 l1 d3 ad a) : d1 ≠ d3 := fun e => (List.nodup_cons.mp (List.nodup_cons.mp h.nd).2).1 (by simp [e])
theorem LawB.n23 (h : LawB S w d1 d2 l1 d3 ad a) : d2 ≠ d3 := fun e => (List.nodup_cons.mp (List.nodup_cons.mp (List.nodup_cons.mp h.nd).2).2).1 (by simp [e])
theorem LawB.t1 (h : LawB S w d1 d2 l1 d3 ad a) {k : L2.Key} {t : Th} (hk : kget a.ths k = some t) : ad k ≠ d1 := fun e => h.sep k t hk (by simp [e])
theorem LawB.t2 (h : LawB S w d1 d2 l1 d3 ad a) {k : L2.Key} {t : Th} (hk : kget a.ths k = some t) : ad k ≠ d2 := fun e => h.sep k t hk (by simp [e])
theorem LawB.t3 (h : LawB S w d1 d2 l1 d3 ad a) {k : L2.Key} {t : Th} (hk : kget a.ths k = some t) : ad k ≠ d3 := fun e => h.sep k t hk (by simp [e])
theorem LawB.res (h : LawB S w d1 d2 l1 d3 ad a) (nd : KNd a.ths) : Res S (hdl w) (stD a) := by
  refine .dct h.ob (ResKs.mk (.cons (.refl _) (.cons (.refl _) (.cons (.refl _) (.cons (.dct h.ths ?_) (.cons (.dct h.du (ResKs.refl _)) (.cons (.refl _) (.cons (.lst h.li (ResAll.refl _)) (.cons (.dct h.wo (ResKs.refl _)) .nil)))))))))
  exact resKs_map (f := fun k _ => hdl (ad k)) (g := fun _ t => ltD t) fun z hz => .dct (h.th _ _ (nd.get hz)) (ResKs.mk (ResAll.refl _))
end
/-! books as data -/
structure Bk where
  rule : List (Int × Int)
  share : Int
  keep : Int
  told : List (Int × Deed)
  unt : List Int
  steps : List PyData
def Bk.begin (b : Bk) : Acc := Acc.begin b.rule b.share b.keep
/-- all rows told -/
def allRows (told : List (Int × Deed)) : List DRow := told.zipIdx.map fun z => (z.1.1, (z.2 : Int) + 1, z.1.2)
def Bk.rows (b : Bk) : List DRow := (allRows b.told).filter fun r => !decide (r.2.1 ∈ b.unt)
/-- the account at the end of a day -/
noncomputable def Bk.on (b : Bk) (day : Int) : Acc := b.begin.gone b.rows day
structure Bk.Ok (b : Bk) : Prop where
  rule : RuleW b.rule
  s0 : 0 ≤ b.share
  s1 : b.share ≤ 100
  k0 : 1 ≤ b.keep
  k1 : b.keep ≤ 999
  few : b.told.length ≤ 1200
  ufew : b.unt.length ≤ 10000
  told : ∀ t ∈ b.told, 0 ≤ t.1 ∧ t.1 ≤ 999 ∧ t.2.Ok
theorem Bk.Ok.rows {b : Bk} (ok : b.Ok) : ∀ r ∈ b.rows, r.Ok := by
  intro r hr
  have hr := (List.mem_filter.mp hr).1
  unfold allRows at hr
  obtain ⟨z, hz, rfl⟩ := List.mem_map.mp hr
  have h := ok.told z.1 (List.fst_mem_of_mem_zipIdx hz)
  exact ⟨h.1, h.2.1, by show (1 : Int) ≤ (z.2 : Int) + 1; omega, h.2.2⟩
theorem Bk.rows_len (b : Bk) : b.rows.length ≤ b.told.length := by
  have := List.length_filter_le (fun r : DRow => !decide (r.2.1 ∈ b.unt)) (allRows b.told)
  have e : (allRows b.told).length = b.told.length := by unfold allRows; rw [List.length_map, List.length_zipIdx]
  unfold Bk.rows
  omega
theorem Bk.Ok.on {b : Bk} (ok : b.Ok) {day : Int} (d0 : 0 ≤ day) : (b.on day).Ok day 30000 := by
  have := gone_ok (Acc.Ok.begin (k := b.keep) ok.rule ok.s0 ok.s1) ok.rows d0
  have l := b.rows_len
  have f := ok.few
  exact this.up (Int.le_refl _) (by omega)
/-! ### any things: plain data within bounds -/
theorem int_len {i : Int} (h : i.natAbs ≤ 1000000000) : (Str.ofString (toString i)).length ≤ 11 := by
  by_cases h0 : 0 ≤ i
  · exact Nat.le_trans (PyProof.Rows.toString_length_le h0 (k := 10) (by decide) (by omega)) (by decide)
  · rw [PyProof.Rows.len_text_neg (by omega)]
    have := PyProof.Rows.toString_length_le (v := 0 - i) (by omega) (k := 10) (by decide) (by omega)
    omega
theorem ofString_ok (s : String) : (Str.ofString s).cps.all (· < 0x110000) = true := by
  refine Array.all_eq_true_iff_forall_mem.mpr fun c hc => ?_
  rw [Str.ofString_eq_toList] at hc
  have hm : c ∈ s.toList.map Char.toNat := List.mem_toArray.mp hc
  obtain ⟨ch, _, rfl⟩ := List.mem_map.mp hm
  have v := ch.valid
  have e : ch.toNat = ch.val.toNat := rfl
  refine decide_eq_true ?_
  rw [e]
  rcases v with v | v
  · omega
  · exact v.2
mutual
def okD (B : Nat) : PyData → Bool
  | .none => true
  | .bool _ => true
  | .int i => decide (i.natAbs ≤ B)
  | .str z => decide (z.length ≤ 25) && z.cps.all (· < 0x110000)
  | .list xs => okAll B xs
  | .tuple xs => okAll B xs
  | .dict _ => false
def okAll (B : Nat) : List PyData → Bool
  | [] => true
  | x :: r => okD B x && okAll B r
end
theorem okI {B : Nat} {i : Int} (h : i.natAbs ≤ B) : okD B (.int i) = true := by
  unfold okD
  exact decide_eq_true h
theorem okAll_iff {B : Nat} {ds : List PyData} : okAll B ds = true ↔ ∀ d ∈ ds, okD B d = true := by
  induction ds with
  | nil => simp [okAll]
  | cons x r ih => simp [okAll, ih]
mutual
theorem okD.mono {B C : Nat} (h : B ≤ C) : ∀ {d : PyData}, okD B d = true → okD C d = true
  | .none, _ => rfl
  | .bool _, _ => rfl
  | .int i, q => decide_eq_true (Nat.le_trans (of_decide_eq_true q) h)
  | .str z, q => q
  | .list xs, q => okAll.mono h (ds := xs) q
  | .tuple xs, q => okAll.mono h (ds := xs) q
  | .dict _, q => by cases q
theorem okAll.mono {B C : Nat} (h : B ≤ C) : ∀ {ds : List PyData}, okAll B ds = true → okAll C ds = true
  | [], _ => rfl
  | x :: r, q => by
    have q' : (okD B x && okAll B r) = true := q
    rw [Bool.and_eq_true] at q'
    show (okD C x && okAll C r) = true
    rw [okD.mono h q'.1, okAll.mono h q'.2]
    rfl
end
mutual
theorem okD.facts {B : Nat} (hB : B ≤ 1000000000) : ∀ {d : PyData}, okD B d = true → d.canLay0 = true ∧ d.showable = true ∧ d.hasDict = false ∧ szD d + 3 ≤ 300 * nodes d
  | .none, _ => ⟨rfl, rfl, rfl, by show 4 + 3 ≤ 300 * 1; decide⟩
  | .bool _, _ => ⟨rfl, rfl, rfl, by show 5 + 3 ≤ 300 * 1; decide⟩
  | .int i, q => by
    have hi : i.natAbs ≤ B := of_decide_eq_true q
    refine ⟨rfl, decide_eq_true (log2_ok18 (by omega)), rfl, ?_⟩
    show (Str.ofString (toString i)).length + 3 ≤ 300 * 1
    have := int_len (i := i) (by omega)
    omega
  | .str z, q => by
    have q' : (decide (z.length ≤ 25) && z.cps.all (· < 0x110000)) = true := q
    rw [Bool.and_eq_true, decide_eq_true_eq] at q'
    exact ⟨q'.2, rfl, rfl, by show 10 * z.length + 2 + 3 ≤ 300 * 1; omega⟩
  | .list xs, q => by
    obtain ⟨h1, h2, h3, h4⟩ := okAll.facts hB (ds := xs) q
    exact ⟨h1, h2, h3, by show szAll xs + 2 + 3 ≤ 300 * (nodesAll xs + 1); omega⟩
  | .tuple xs, q => by
    obtain ⟨h1, h2, h3, h4⟩ := okAll.facts hB (ds := xs) q
    exact ⟨h1, h2, h3, by show szAll xs + 3 + 3 ≤ 300 * (nodesAll xs + 1); omega⟩
  | .dict _, q => by cases q
theorem okAll.facts {B : Nat} (hB : B ≤ 1000000000) : ∀ {ds : List PyData}, okAll B ds = true → PyData.canLayAll0 ds = true ∧ PyData.showableAll ds = true ∧ PyData.hasDictAll ds = false ∧ szAll ds ≤ 300 * nodesAll ds
  | [], _ => ⟨rfl, rfl, rfl, Nat.zero_le _⟩
  | x :: r, q => by
    have q' : (okD B x && okAll B r) = true := q
    rw [Bool.and_eq_true] at q'
    obtain ⟨a1, a2, a3, a4⟩ := okD.facts hB q'.1
    obtain ⟨b1, b2, b3, b4⟩ := okAll.facts hB q'.2
    have np := nodes_pos x
    refine ⟨?_, ?_, ?_, ?_⟩
    · show (x.canLay0 && PyData.canLayAll0 r) = true
      rw [a1, b1]; rfl
    · show (x.showable && PyData.showableAll r) = true
      rw [a2, b2]; rfl
    · show (x.hasDict || PyData.hasDictAll r) = false
      rw [a3, b3]; rfl
    · show szD x + 2 + szAll r ≤ 300 * (nodes x + nodesAll r)
      omega
end
theorem okAll_app {B : Nat} {xs ys : List PyData} : okAll B (xs ++ ys) = (okAll B xs && okAll B ys) := by
  induction xs with
  | nil => rfl
  | cons x r ih =>
    show (okD B x && okAll B (r ++ ys)) = ((okD B x && okAll B r) && okAll B ys)
    rw [ih, Bool.and_assoc]
theorem nodesAll_app {xs ys : List PyData} : nodesAll (xs ++ ys) = nodesAll xs + nodesAll ys := by
  induction xs with
  | nil => show nodesAll ys = 0 + nodesAll ys; omega
  | cons x r ih =>
    show nodes x + nodesAll (r ++ ys) = nodes x + nodesAll r + nodesAll ys
    rw [ih]; omega
theorem depthAll_app {xs ys : List PyData} : PyData.depthAll (xs ++ ys) = max (PyData.depthAll xs) (PyData.depthAll ys) := by
  induction xs with
  | nil => show PyData.depthAll ys = max 0 (PyData.depthAll ys); omega
  | cons x r ih =>
    show max x.depth (PyData.depthAll (r ++ ys)) = max (max x.depth (PyData.depthAll r)) (PyData.depthAll ys)
    rw [ih]; omega
/-- a list of things within bounds: numbers, depth, how many -/
structure Thy (B D N : Nat) (ds : List PyData) : Prop where
  ok : okAll B ds = true
  dp : PyData.depthAll ds ≤ D
  nd : nodesAll ds ≤ N
theorem Thy.app {B D N M : Nat} {xs ys : List PyData} (a : Thy B D N xs) (b : Thy B D M ys) : Thy B D (N + M) (xs ++ ys) :=
  ⟨by rw [okAll_app, a.ok, b.ok]; rfl, by rw [depthAll_app]; have := a.dp; have := b.dp; omega, by rw [nodesAll_app]; have := a.nd; have := b.nd; omega⟩
theorem Thy.mono {B D N B' D' N' : Nat} {xs : List PyData} (a : Thy B D N xs) (h1 : B ≤ B') (h2 : D ≤ D') (h3 : N ≤ N') : Thy B' D' N' xs := ⟨okAll.mono h1 a.ok, Nat.le_trans a.dp h2, Nat.le_trans a.nd h3⟩
theorem Thy.left {B D N : Nat} {xs ys : List PyData} (a : Thy B D N (xs ++ ys)) : Thy B D N xs := by
  obtain ⟨h1, h2, h3⟩ := a
  rw [okAll_app, Bool.and_eq_true] at h1
  rw [depthAll_app] at h2
  rw [nodesAll_app] at h3
  exact ⟨h1.1, by omega, by omega⟩
theorem Thy.right {B D N : Nat} {xs ys : List PyData} (a : Thy B D N (xs ++ ys)) : Thy B D N ys := by
  obtain ⟨h1, h2, h3⟩ := a
  rw [okAll_app, Bool.and_eq_true] at h1
  rw [depthAll_app] at h2
  rw [nodesAll_app] at h3
  exact ⟨h1.2, by omega, by omega⟩
theorem Thy.take {B D N : Nat} {xs : List PyData} (a : Thy B D N xs) (k : Nat) : Thy B D N (xs.take k) := by
  rw [← List.take_append_drop k xs] at a
  exact a.left
theorem Thy.drop {B D N : Nat} {xs : List PyData} (a : Thy B D N xs) (k : Nat) : Thy B D N (xs.drop k) := by
  rw [← List.take_append_drop k xs] at a
  exact a.right
theorem Thy.cut {B D N : Nat} {xs : List PyData} (a : Thy B D N xs) (lo hi : Option Int) : Thy B D N (DL.cutD xs lo hi) := (a.drop _).take _
theorem Thy.one {B D N : Nat} {d : PyData} (h1 : okD B d = true) (h2 : d.depth ≤ D) (h3 : nodes d ≤ N) : Thy B D N [d] :=
  ⟨by show (okD B d && true) = true; rw [h1]; rfl, by show max d.depth 0 ≤ D; omega, by show nodes d + 0 ≤ N; omega⟩
theorem Thy.get {B D N : Nat} {xs : List PyData} (a : Thy B D N xs) {d : PyData} (h : d ∈ xs) : okD B d = true ∧ d.depth ≤ D ∧ nodes d ≤ N := by
  obtain ⟨l, r, rfl⟩ := List.append_of_mem h
  have b := a.right
  have c : Thy B D N [d] := Thy.left (ys := r) b
  obtain ⟨c1, c2, c3⟩ := c
  have c1' : (okD B d && true) = true := c1
  rw [Bool.and_true] at c1'
  exact ⟨c1', by have : max d.depth 0 ≤ D := c2; omega, by have : nodes d + 0 ≤ N := c3; omega⟩
theorem Thy.rev {B D N : Nat} {xs : List PyData} (a : Thy B D N xs) : Thy B D N xs.reverse := by
  induction xs generalizing N with
  | nil => exact a
  | cons x r ih =>
    obtain ⟨h1, h2, h3⟩ := a
    have h1' : (okD B x && okAll B r) = true := h1
    rw [Bool.and_eq_true] at h1'
    have h2' : max x.depth (PyData.depthAll r) ≤ D := h2
    have h3' : nodes x + nodesAll r ≤ N := h3
    rw [List.reverse_cons]
    exact ((ih (N := nodesAll r) ⟨h1'.2, by omega, Nat.le_refl _⟩).app (Thy.one (N := nodes x) h1'.1 (by omega) (Nat.le_refl _))).mono (Nat.le_refl _) (Nat.le_refl _) (by omega)
theorem cutD_len (xs : List PyData) (lo hi : Option Int) : (DL.cutD xs lo hi).length ≤ xs.length := by
  unfold DL.cutD
  rw [List.length_take, List.length_drop]
  omega
/-! ### any things, great numbers -/
theorem int_lenB {i : Int} (h : i.natAbs ≤ 1000000000000000000000000000000) : (Str.ofString (toString i)).length ≤ 32 := by
  by_cases h0 : 0 ≤ i
  · exact Nat.le_trans (PyProof.Rows.toString_length_le h0 (k := 31) (by decide) (by omega)) (by decide)
  · rw [PyProof.Rows.len_text_neg (by omega)]
    have := PyProof.Rows.toString_length_le (v := 0 - i) (by omega) (k := 31) (by decide) (by omega)
    omega
mutual
theorem okD.factsB {B : Nat} (hB : B ≤ 1000000000000000000000000000000) : ∀ {d : PyData}, okD B d = true → d.canLay0 = true ∧ d.showable = true ∧ d.hasDict = false ∧ szD d + 3 ≤ 300 * nodes d
  | .none, _ => ⟨rfl, rfl, rfl, by show 4 + 3 ≤ 300 * 1; decide⟩
  | .bool _, _ => ⟨rfl, rfl, rfl, by show 5 + 3 ≤ 300 * 1; decide⟩
  | .int i, q => by
    have hi : i.natAbs ≤ B := of_decide_eq_true q
    refine ⟨rfl, decide_eq_true (log2_ok (Nat.lt_of_le_of_lt (Nat.le_trans hi hB) (by decide))), rfl, ?_⟩
    show (Str.ofString (toString i)).length + 3 ≤ 300 * 1
    have := int_lenB (i := i) (by omega)
    omega
  | .str z, q => by
    have q' : (decide (z.length ≤ 25) && z.cps.all (· < 0x110000)) = true := q
    rw [Bool.and_eq_true, decide_eq_true_eq] at q'
    exact ⟨q'.2, rfl, rfl, by show 10 * z.length + 2 + 3 ≤ 300 * 1; omega⟩
  | .list xs, q => by
    obtain ⟨h1, h2, h3, h4⟩ := okAll.factsB hB (ds := xs) q
    exact ⟨h1, h2, h3, by show szAll xs + 2 + 3 ≤ 300 * (nodesAll xs + 1); omega⟩
  | .tuple xs, q => by
    obtain ⟨h1, h2, h3, h4⟩ := okAll.factsB hB (ds := xs) q
    exact ⟨h1, h2, h3, by show szAll xs + 3 + 3 ≤ 300 * (nodesAll xs + 1); omega⟩
  | .dict _, q => by cases q
theorem okAll.factsB {B : Nat} (hB : B ≤ 1000000000000000000000000000000) : ∀ {ds : List PyData}, okAll B ds = true → PyData.canLayAll0 ds = true ∧ PyData.showableAll ds = true ∧ PyData.hasDictAll ds = false ∧ szAll ds ≤ 300 * nodesAll ds
  | [], _ => ⟨rfl, rfl, rfl, Nat.zero_le _⟩
  | x :: r, q => by
    have q' : (okD B x && okAll B r) = true := q
    rw [Bool.and_eq_true] at q'
    obtain ⟨a1, a2, a3, a4⟩ := okD.factsB hB q'.1
    obtain ⟨b1, b2, b3, b4⟩ := okAll.factsB hB q'.2
    have np := nodes_pos x
    refine ⟨?_, ?_, ?_, ?_⟩
    · show (x.canLay0 && PyData.canLayAll0 r) = true
      rw [a1, b1]; rfl
    · show (x.showable && PyData.showableAll r) = true
      rw [a2, b2]; rfl
    · show (x.hasDict || PyData.hasDictAll r) = false
      rw [a3, b3]; rfl
    · show szD x + 2 + szAll r ≤ 300 * (nodes x + nodesAll r)
      omega
end
/-! ### whether any thing is a deed: plain -/
def wholeD (d : PyData) (lo hi : Int) : Bool := match d with
  | .int i => decide (lo ≤ i) && decide (i ≤ hi)
  | _ => false
def toPair : PyData → Option (Int × Int)
  | .tuple [a, b] => if (wholeD a 1 999 && wholeD b 1 99) = true then (match a, b with | .int i, .int j => some (i, j) | _, _ => none) else none
  | _ => none
theorem toPair_some {d : PyData} {p : Int × Int} (h : toPair d = some p) : d = pairD p := by
  unfold toPair at h
  split at h
  · split at h
    · split at h
      · cases h; rfl
      · cases h
    · cases h
  · cases h
def pairsOf : List PyData → Option (List (Int × Int))
  | [] => some []
  | d :: r => match toPair d, pairsOf r with
    | some p, some q => some (p :: q)
    | _, _ => none
theorem pairsOf_some : ∀ {ds : List PyData} {r : List (Int × Int)}, pairsOf ds = some r → ds = r.map pairD
  | [], r, h => by cases h; rfl
  | d :: ds, r, h => by
    unfold pairsOf at h
    split at h
    · next p q h1 h2 =>
      cases h
      rw [toPair_some h1, pairsOf_some h2]
      rfl
    · cases h
theorem pairsOf_all (ds : List PyData) : (ds.map fun d => (toPair d).isSome).all id = (pairsOf ds).isSome := by
  induction ds with
  | nil => rfl
  | cons d r ih =>
    rw [List.map_cons, List.all_cons, ih]
    show (id (toPair d).isSome && (pairsOf r).isSome) = (match toPair d, pairsOf r with | some p, some q => some (p :: q) | _, _ => none).isSome
    generalize toPair d = x
    generalize pairsOf r = y
    cases x <;> cases y <;> rfl
def fallsB (r : List (Int × Int)) : Bool := (r.zip r.tail).all fun z => decide (z.1.1 < z.2.1) && decide (z.2.2 < z.1.2)
def isRuleB : PyData → Bool
  | .tuple ds => decide (ds.length ≤ 6) && (match pairsOf ds with | some r => fallsB r | none => false)
  | _ => false
theorem zipD_pairs (r : List (Int × Int)) : zipD (r.map pairD) (r.tail.map pairD) = (r.zip r.tail).map fun z => .tuple [pairD z.1, pairD z.2] := by
  unfold zipD
  rw [List.zip_map, List.map_map]
  rfl
theorem pairsOf_map {r : List (Int × Int)} (h : ∀ p ∈ r, (1 ≤ p.1 ∧ p.1 ≤ 999) ∧ (1 ≤ p.2 ∧ p.2 ≤ 99)) : pairsOf (r.map pairD) = some r := by
  induction r with
  | nil => rfl
  | cons p r ih =>
    have ih' := ih fun q hq => h q (List.mem_cons_of_mem _ hq)
    obtain ⟨⟨h1, h2⟩, h3, h4⟩ := h p List.mem_cons_self
    have e : toPair (pairD p) = some p := by
      show (if ((decide (1 ≤ p.1) && decide (p.1 ≤ 999)) && (decide (1 ≤ p.2) && decide (p.2 ≤ 99))) = true then some (p.1, p.2) else none) = some p
      rw [decide_eq_true h1, decide_eq_true h2, decide_eq_true h3, decide_eq_true h4]
      rfl
    show (match toPair (pairD p), pairsOf (r.map pairD) with | some p, some q => some (p :: q) | _, _ => none) = some (p :: r)
    rw [e, ih']
theorem falls_of {r : List (Int × Int)} (h1 : r.Pairwise fun p q => q.2 < p.2) (h2 : r.Pairwise fun p q => p.1 < q.1) : fallsB r = true := by
  unfold fallsB
  induction r with
  | nil => rfl
  | cons p r ih =>
    cases r with
    | nil => rfl
    | cons q r =>
      have a1 := List.pairwise_cons.mp h1
      have a2 := List.pairwise_cons.mp h2
      show ((decide (p.1 < q.1) && decide (q.2 < p.2)) && ((q :: r).zip r).all _) = true
      rw [decide_eq_true (a2.1 q List.mem_cons_self), decide_eq_true (a1.1 q List.mem_cons_self)]
      exact ih a1.2 a2.2
theorem rule_ok {r : List (Int × Int)} (g : RuleW r) : isRuleB (.tuple (r.map pairD)) = true := by
  show (decide ((r.map pairD).length ≤ 6) && (match pairsOf (r.map pairD) with | some r => fallsB r | none => false)) = true
  rw [pairsOf_map fun p hp => ⟨g.age p hp, g.part p hp⟩, List.length_map, decide_eq_true g.few]
  exact falls_of g.fall g.rise
/-- ages rise and the parts, the last one first, rise -/
def riseI (l : List Int) : Bool := (l.zip l.tail).all fun z => decide (z.1 < z.2)
theorem riseI_cons {a b : Int} {l : List Int} : riseI (a :: b :: l) = (decide (a < b) && riseI (b :: l)) := rfl
theorem riseI_snoc : ∀ {l : List Int} {a b : Int}, riseI (l ++ [a, b]) = (riseI (l ++ [a]) && decide (a < b))
  | [], a, b => by show (decide (a < b) && true) = (true && decide (a < b)); rw [Bool.and_true, Bool.true_and]
  | [c], a, b => by show (decide (c < a) && (decide (a < b) && true)) = ((decide (c < a) && true) && decide (a < b)); rw [Bool.and_true, Bool.and_true]
  | c :: d :: l, a, b => by
    show (decide (c < d) && riseI ((d :: l) ++ [a, b])) = ((decide (c < d) && riseI ((d :: l) ++ [a])) && decide (a < b))
    rw [riseI_snoc (l := d :: l), Bool.and_assoc]
theorem falls_split : ∀ r : List (Int × Int), fallsB r = (riseI (r.map (·.1)) && riseI (r.map (·.2)).reverse)
  | [] => rfl
  | [_] => rfl
  | p :: q :: r => by
    have ih := falls_split (q :: r)
    show ((decide (p.1 < q.1) && decide (q.2 < p.2)) && fallsB (q :: r)) = (riseI (p.1 :: q.1 :: r.map (·.1)) && riseI ((p.2 :: q.2 :: r.map (·.2)).reverse))
    rw [ih, riseI_cons, List.reverse_cons, List.reverse_cons, List.append_assoc]
    show _ = ((decide (p.1 < q.1) && riseI (q.1 :: r.map (·.1))) && riseI ((r.map (·.2)).reverse ++ [q.2, p.2]))
    rw [riseI_snoc, ← List.reverse_cons]
    show ((decide (p.1 < q.1) && decide (q.2 < p.2)) && (riseI (q.1 :: r.map (·.1)) && riseI (q.2 :: r.map (·.2)).reverse)) = _
    generalize decide (p.1 < q.1) = x1
    generalize decide (q.2 < p.2) = x2
    generalize riseI (q.1 :: r.map (·.1)) = x3
    generalize riseI (q.2 :: r.map (·.2)).reverse = x4
    cases x1 <;> cases x2 <;> cases x3 <;> cases x4 <;> rfl
def nameD : PyData → Bool
  | .str z => decide (1 ≤ z.length) && (decide (z.length ≤ 8) && (tl z).all fun c => decide (97 ≤ c ∧ c ≤ 122))
  | _ => false
def lsD : PyData → PyData → Bool
  | .int a, .int b => decide (a < b)
  | .str a, .str b => decide (a.cps.toList < b.cps.toList)
  | _, _ => false
def riseD (ds : List PyData) : Bool := (ds.zip ds.tail).all fun z => lsD z.1 z.2
def wordsB : PyData → Bool
  | .tuple ds => decide (ds.length ≤ 6) && (ds.all nameD && riseD ds)
  | _ => false
def numsB : PyData → Bool
  | .tuple ds => (decide (2 ≤ ds.length) && decide (ds.length ≤ 12)) && ((ds.all fun d => wholeD d 1 9999) && riseD ds)
  | _ => false
def leastB (l p : PyData) : Bool := match p with
  | .int i => wholeD l 0 i
  | _ => false
def noneD : PyData → Bool
  | .none => true
  | _ => false
def giveB : List PyData → Bool
  | [o, n, p, l, ws] => nameD o && (wholeD n 1 9999 && (wholeD p 1 99999 && (leastB l p && wordsB ws)))
  | _ => false
def heapB : List PyData → Bool
  | [ns, am] => numsB ns && wholeD am 0 9999999
  | _ => false
def sellB : List PyData → Bool
  | [n, a] => wholeD n 1 9999 && (noneD a || wholeD a 0 9999999)
  | _ => false
def payB : List PyData → Bool
  | [o, a] => nameD o && wholeD a 1 9999999
  | _ => false
def ruleB : List PyData → Bool
  | [x] => isRuleB x
  | _ => false
def shareB : List PyData → Bool
  | [x] => wholeD x 0 100
  | _ => false
def thingB : List PyData → Bool
  | [x] => wholeD x 1 9999
  | _ => false
abbrev thingWords : List Str := [Str.ofString "let", Str.ofString "back", Str.ofString "fetch", Str.ofString "lose", Str.ofString "find"]
def deedB (w : Str) (r : List PyData) : Bool :=
  if w = Str.ofString "give" then giveB r
  else if w = Str.ofString "heap" then heapB r
  else if w = Str.ofString "sell" then sellB r
  else if w = Str.ofString "pay" then payB r
  else if w = Str.ofString "rule" then ruleB r
  else if w = Str.ofString "share" then shareB r
  else if w ∈ thingWords then thingB r
  else false
def isDeedB : PyData → Bool
  | .tuple (.str w :: r) => deedB w r
  | _ => false
theorem whole_yes {i lo hi : Int} (h1 : lo ≤ i) (h2 : i ≤ hi) : wholeD (.int i) lo hi = true := by
  show (decide (lo ≤ i) && decide (i ≤ hi)) = true
  rw [decide_eq_true h1, decide_eq_true h2]; rfl
theorem whole_int {d : PyData} {lo hi : Int} (h : wholeD d lo hi = true) : ∃ i, d = .int i ∧ lo ≤ i ∧ i ≤ hi := by
  cases d with
  | int i =>
    have h : (decide (lo ≤ i) && decide (i ≤ hi)) = true := h
    rw [Bool.and_eq_true, decide_eq_true_eq, decide_eq_true_eq] at h
    exact ⟨i, rfl, h.1, h.2⟩
  | _ => cases h
theorem name_yes {s : Str} (h : NameS s) : nameD (.str s) = true := by
  have ln : s.length = (tl s).length := Array.length_toList.symm
  show (decide (1 ≤ s.length) && (decide (s.length ≤ 8) && (tl s).all fun c => decide (97 ≤ c ∧ c ≤ 122))) = true
  rw [decide_eq_true (by have := h.least; omega), decide_eq_true (by have := h.most; omega), List.all_eq_true.mpr fun c hc => decide_eq_true (h.small c hc)]
  rfl
theorem rise_of {α : Type} {f : α → PyData} : ∀ {l : List α}, l.Pairwise (fun a b => lsD (f a) (f b) = true) → riseD (l.map f) = true
  | [], _ => rfl
  | [_], _ => rfl
  | a :: b :: l, h => by
    have h' := List.pairwise_cons.mp h
    show (lsD (f a) (f b) && riseD ((b :: l).map f)) = true
    rw [h'.1 b List.mem_cons_self, rise_of h'.2]; rfl
theorem all_map_of {α : Type} {f : α → PyData} {p : PyData → Bool} {l : List α} (h : ∀ x ∈ l, p (f x) = true) : (l.map f).all p = true := by
  rw [List.all_map]
  exact List.all_eq_true.mpr h
theorem words_yes {ws : List Str} (h1 : ws.length ≤ 6) (h2 : ∀ w ∈ ws, NameS w) (h3 : ws.Pairwise (fun x y => x.cps.toList < y.cps.toList)) : wordsB (.tuple (ws.map .str)) = true := by
  show (decide ((ws.map PyData.str).length ≤ 6) && ((ws.map PyData.str).all nameD && riseD (ws.map .str))) = true
  rw [List.length_map, decide_eq_true h1, all_map_of (fun w hw => name_yes (h2 w hw)), rise_of (h3.imp fun h => decide_eq_true h)]
  rfl
theorem nums_yes {ns : List Int} (h0 : 2 ≤ ns.length) (h1 : ns.length ≤ 12) (h2 : ∀ n ∈ ns, 1 ≤ n ∧ n ≤ 9999) (h3 : ns.Pairwise (· < ·)) : numsB (.tuple (ns.map .int)) = true := by
  show ((decide (2 ≤ (ns.map PyData.int).length) && decide ((ns.map PyData.int).length ≤ 12)) && (((ns.map PyData.int).all fun d => wholeD d 1 9999) && riseD (ns.map .int))) = true
  rw [List.length_map, decide_eq_true h0, decide_eq_true h1, all_map_of (p := fun d => wholeD d 1 9999) (fun n hn => whole_yes (h2 n hn).1 (h2 n hn).2), rise_of (h3.imp fun h => decide_eq_true h)]
  rfl
theorem deed_yes {d : Deed} (ok : d.Ok) : isDeedB d.d = true := by
  cases d with
  | give o n p l ws =>
    obtain ⟨q1, q2, q3, q4, q5, q6, q7, q8, q9, q10⟩ := ok
    show deedB (Str.ofString "give") [.str o, .int n, .int p, .int l, .tuple (ws.map .str)] = true
    unfold deedB
    rw [if_pos rfl]
    show (nameD (.str o) && (wholeD (.int n) 1 9999 && (wholeD (.int p) 1 99999 && (wholeD (.int l) 0 p && wordsB (.tuple (ws.map .str)))))) = true
    rw [name_yes q1, whole_yes q2 q3, whole_yes q4 q5, whole_yes q6 q7, words_yes q8 q9 q10]; rfl
  | let_ n =>
    show deedB (Str.ofString "let") [.int n] = true
    rw [show deedB (Str.ofString "let") [.int n] = thingB [.int n] from rfl]
    exact whole_yes ok.1 ok.2
  | rule r =>
    rw [show isDeedB (Deed.rule r).d = isRuleB (.tuple (r.map pairD)) from rfl]
    exact rule_ok ok
  | share s =>
    rw [show isDeedB (Deed.share s).d = wholeD (.int s) 0 100 from rfl]
    exact whole_yes ok.1 ok.2
  | sell n am =>
    obtain ⟨q1, q2, q3⟩ := ok
    rw [show isDeedB (Deed.sell n am).d = (wholeD (.int n) 1 9999 && (noneD (optI am) || wholeD (optI am) 0 9999999)) from rfl, whole_yes q1 q2]
    cases am with
    | none => rfl
    | some x =>
      show (true && (false || wholeD (.int x) 0 9999999)) = true
      rw [whole_yes (q3 x rfl).1 (q3 x rfl).2]; rfl
  | heap ns am =>
    obtain ⟨q1, q2, q3, q4, q5, q6⟩ := ok
    rw [show isDeedB (Deed.heap ns am).d = (numsB (.tuple (ns.map .int)) && wholeD (.int am) 0 9999999) from rfl, nums_yes q1 q2 q3 q4, whole_yes q5 q6]; rfl
  | back n =>
    rw [show isDeedB (Deed.back n).d = thingB [.int n] from rfl]
    exact whole_yes ok.1 ok.2
  | fetch n =>
    rw [show isDeedB (Deed.fetch n).d = thingB [.int n] from rfl]
    exact whole_yes ok.1 ok.2
  | lose n =>
    rw [show isDeedB (Deed.lose n).d = thingB [.int n] from rfl]
    exact whole_yes ok.1 ok.2
  | find n =>
    rw [show isDeedB (Deed.find n).d = thingB [.int n] from rfl]
    exact whole_yes ok.1 ok.2
  | pay o am =>
    obtain ⟨q1, q2, q3⟩ := ok
    rw [show isDeedB (Deed.pay o am).d = (nameD (.str o) && wholeD (.int am) 1 9999999) from rfl, name_yes q1, whole_yes q2 q3]; rfl

def tb_DEED_SHAPES : List (Str × PyData) := [(Str.ofString "give", (fnD "is_give")), (Str.ofString "let", (fnD "is_of_thing")), (Str.ofString "rule", (fnD "is_told_rule")), (Str.ofString "share", (fnD "is_told_share")), (Str.ofString "sell", (fnD "is_sell")), (Str.ofString "heap", (fnD "is_heap")), (Str.ofString "back", (fnD "is_of_thing")), (Str.ofString "fetch", (fnD "is_of_thing")), (Str.ofString "lose", (fnD "is_of_thing")), (Str.ofString "find", (fnD "is_of_thing")), (Str.ofString "pay", (fnD "is_pay"))]
def tb_DEED_SIZES : List (Str × PyData) := [(Str.ofString "give", .int 6), (Str.ofString "sell", .int 3), (Str.ofString "heap", .int 3), (Str.ofString "pay", .int 3)]
/-! functions over data -/
def F__law_folded_1 : FS := (fFreeze 2 (fRet (fV 2)))
def F__law_folded_2 : FS := (fAsg (fOp oAdd (fIxO 2 (fOp oMod (fV 3) (fV 1))) (fOp oMul (fV 4) (fOp oAdd (fV 3) (fC (.int 2))))) (gSubO 2 (fOp oMod (fV 3) (fV 1))))
def F__law_folded : FN := fnF 2 5 (fSeq (fOwn 2 (fCBN nList (fCons (fSl sL (fV 0) pNo (pSo (fV 1))) fNil)))
    (fSeq (fFor [3, 4] (iE (fCons (fSl sL (fV 0) (pSo (fV 1)) (pSo (fC (.int 63)))) fNil)) (gT 2 (gsCons (gN 3) (gsCons (gN 4) gsNil))) F__law_folded_2)
    F__law_folded_1))
def F__law_box_1 : FS := (fRetW (fLst (fCons (fOp oMul (fCB bAbs (fCons (fV 2) fNil)) (fCB bInt (fCons (fOp oGe (fCB bAbs (fCons (fV 2) fNil)) (fOp oPow (fC (.int 10)) (fC (.int 18)))) fNil))) (fCons (fOp oMod (fOp oMul (fOp oAdd (fOp oAdd (fOp oMod (fV 2) (fC (.int 2147483629))) (fOp oMul (fC (.int 15485863)) (fV 1))) (fC (.int 43))) (fC (.int 48271))) (fC (.int 2147483647))) (fCons (fC (.int 0)) fNil)))))
def F__law_box : FM := fnM 2 3 (fSeq (fAsg (fIf (fB (fOp oLt (fV 1) (fCB bLen (fCons (fV 0) fNil)))) (fOp oIxL (fV 0) (fV 1)) (fC (.int 0))) (gN 2))
    F__law_box_1)
def F__law_names_1 : FS := (fFreeze 3 (fRet (fV 3)))
def F__law_names_2 : FS := (fAppend 3 (fV 11))
def F__law_names_3 : FS := (fSeq (fIfS (fB (fInO false 3 (fV 11))) (fAsg (fOp oAddS (fOp oAddS (fOp oIxS (fV 2) (fOp oDiv (fV 8) (fC (.int 26)))) (fOp oIxS (fV 2) (fOp oMod (fV 8) (fC (.int 26))))) (fC (.str (Str.ofString "qxz")))) (gN 11)) fNext)
    F__law_names_2)
def F__law_names_4 : FE := (fOp oIxS (fV 2) (fCall 2 F__law_take [] (cOwn 0 (cDat (fC (.int 26)) cNil))))
def F__law_names_5 : FS := (fSeq (fAsg (fOp oMod (fOp oAdd (fV 4) (fOp oMul (fV 5) (fV 7))) (fC (.int 676))) (gN 8))
    (fSeq (fAsg (fBM mJoin (fC (.str (Str.ofString ""))) (fCons (fNew (fLc (iR1 (fCons (fOp oAdd (fC (.int 1)) (fCall 2 F__law_take [] (cOwn 0 (cDat (fC (.int 6)) cNil)))) fNil)) (gN 10) fYes F__law_names_4 [10])) fNil)) (gN 9))
    (fSeq (fAsg (fOp oAddS (fOp oAddS (fOp oIxS (fV 2) (fOp oDiv (fV 8) (fC (.int 26)))) (fOp oIxS (fV 2) (fOp oMod (fV 8) (fC (.int 26))))) (fV 9)) (gN 11))
    (fSeq (fIfS (fAnd (fB (fOp oLt (fV 1) (fC (.int 13)))) (fB (fOp oEq (fCall 2 F__law_take [] (cOwn 0 (cDat (fC (.int 4)) cNil))) (fC (.int 0))))) (fAsg (fOp oIxL (fV 6) (fV 7)) (gN 11)) fNext)
    F__law_names_3))))
def F__law_names : FN := fnF 2 12 (fSeq (fParO2 2 3 (fC (.str (Str.ofString "abcdefghijklmnopqrstuvwxyz"))) (fLst fNil))
    (fSeq (fPar 4 5 (fCons (fCall 2 F__law_take [] (cOwn 0 (cDat (fC (.int 676)) cNil))) (fCons (fOp oIxL (fNew (fLst (fCons (fC (.int 1)) (fCons (fC (.int 3)) (fCons (fC (.int 5)) (fCons (fC (.int 7)) (fCons (fC (.int 27)) (fCons (fC (.int 101)) fNil)))))))) (fCall 2 F__law_take [] (cOwn 0 (cDat (fC (.int 6)) cNil)))) fNil)))
    (fSeq (fAsg (fNew (fLst (fCons (fC (.str (Str.ofString "give"))) (fCons (fC (.str (Str.ofString "sell"))) (fCons (fC (.str (Str.ofString "heap"))) (fCons (fC (.str (Str.ofString "owner"))) (fCons (fC (.str (Str.ofString "has"))) (fCons (fC (.str (Str.ofString "not"))) (fCons (fC (.str (Str.ofString "above"))) (fCons (fC (.str (Str.ofString "number"))) (fCons (fC (.str (Str.ofString "and"))) (fCons (fC (.str (Str.ofString "price"))) (fCons (fC (.str (Str.ofString "fetch"))) (fCons (fC (.str (Str.ofString "words"))) fNil)))))))))))))) (gN 6))
    (fSeq (fFor [7, 8, 9, 10, 11] (iR1 (fCons (fV 1) fNil)) (gN 7) F__law_names_5)
    F__law_names_1))))
def F__law_numbers_1 : FE := (fOp oAdd (fC (.int 1)) (fOp oMod (fOp oAdd (fV 2) (fOp oMul (fV 3) (fV 4))) (fC (.int 9999))))
def F__law_numbers : FN := fnF 2 5 (fSeq (fAsg (fTup (fCons (fCall 2 F__law_take [] (cOwn 0 (cDat (fC (.int 9999)) cNil))) (fCons (fOp oIxL (fNew (fLst (fCons (fC (.int 1)) (fCons (fC (.int 2)) (fCons (fC (.int 5)) (fCons (fC (.int 7)) (fCons (fC (.int 1000)) (fCons (fC (.int 4001)) fNil)))))))) (fCall 2 F__law_take [] (cOwn 0 (cDat (fC (.int 6)) cNil)))) fNil))) (gT 2 (gsCons (gN 2) (gsCons (gN 3) gsNil))))
    (fRet (fNew (fLc (iR1 (fCons (fV 1) fNil)) (gN 4) fYes F__law_numbers_1 [4]))))
def F__law_world : FN := fnS 2 4 (fSeq (fAsg (fCall 2 F__law_names [] (cOwn 0 (cDat (fC (.int 10)) cNil))) (gN 2))
    (fSeq (fAsg (fOp oIxL (fNew (fLst (fCons (fC (.int 0)) (fCons (fCall 2 F__law_take [] (cOwn 0 (cDat (fC (.int 901)) cNil))) fNil)))) (fCall 2 F__law_take [] (cOwn 0 (cDat (fC (.int 2)) cNil)))) (gN 3))
    (fRet (fDispN 4 [((fC (.str (Str.ofString "owners"))), (fSl sL (fV 2) pNo (pSo (fOp oAdd (fC (.int 1)) (fCall 2 F__law_take [] (cOwn 0 (cDat (fC (.int 4)) cNil))))))), ((fC (.str (Str.ofString "pool"))), (fSl sL (fV 2) (pSo (fC (.int 4))) pNo)), ((fC (.str (Str.ofString "numbers"))), (fCall 2 F__law_numbers [] (cOwn 0 (cDat (fV 1) cNil)))), ((fC (.str (Str.ofString "first"))), (fV 3)), ((fC (.str (Str.ofString "far"))), (fOp oIxL (fNew (fLst (fCons (fC (.int 3)) (fCons (fC (.int 20)) (fCons (fC (.int 99)) fNil))))) (fCall 2 F__law_take [] (cOwn 0 (cDat (fC (.int 3)) cNil))))), ((fC (.str (Str.ofString "prices"))), (fDNew 4))]))))
def F__law_price : FN := fnF 1 1 (fRet (fOp oIxL (fNew (fLst (fCons (fOp oAdd (fC (.int 1)) (fCall 2 F__law_take [] (cOwn 0 (cDat (fC (.int 9)) cNil)))) (fCons (fOp oAdd (fC (.int 1)) (fCall 2 F__law_take [] (cOwn 0 (cDat (fC (.int 400)) cNil)))) (fCons (fOp oMul (fC (.int 100)) (fOp oAdd (fC (.int 1)) (fCall 2 F__law_take [] (cOwn 0 (cDat (fC (.int 40)) cNil))))) (fCons (fOp oAdd (fC (.int 1)) (fCall 2 F__law_take [] (cOwn 0 (cDat (fC (.int 99999)) cNil)))) fNil)))))) (fCall 2 F__law_take [] (cOwn 0 (cDat (fC (.int 4)) cNil)))))
def F__law_some_words_1 : FS := (fFreeze 4 (fRet (fCB bTuple (fCons (fNew (fCBN nSortS (fCons (fV 4) fNil))) fNil))))
def F__law_some_words_2 : FS := (fAppend 4 (fPopAt 3 (fCall 2 F__law_take [] (cOwn 0 (cDat (fLenO 3) cNil)))))
def F__law_some_words : FN := fnF 3 6 (fSeq (fParOO 3 4 (fCBN nList (fCons (fV 1) fNil)) (fLst fNil))
    (fSeq (fFor [5] (iR1 (fCons (fCall 2 F__law_take [] (cOwn 0 (cDat (fOp oAdd (fCB bMin (fCons (fV 2) (fCons (fCB bLen (fCons (fV 1) fNil)) fNil))) (fC (.int 1))) cNil))) fNil)) (gN 5) F__law_some_words_2)
    F__law_some_words_1))
def F__law_give : FN := fnS 2 6 (fSeq (fPar 2 3 (fCons (fCall 1 F__law_price [] (cOwn 0 cNil)) (fCons (fOp oIxL (fGet (some 6) (fV 1) (fC (.str (Str.ofString "numbers")))) (fCall 2 F__law_take [] (cOwn 0 (cDat (fCB bLen (fCons (fGet (some 6) (fV 1) (fC (.str (Str.ofString "numbers")))) fNil)) cNil)))) fNil)))
    (fSeq (fAsg (fOp oIxL (fNew (fLst (fCons (fC (.int 0)) (fCons (fV 2) (fCons (fCall 2 F__law_take [] (cOwn 0 (cDat (fOp oAdd (fV 2) (fC (.int 1))) cNil))) (fCons (fOp oDiv (fV 2) (fC (.int 2))) fNil)))))) (fCall 2 F__law_take [] (cOwn 0 (cDat (fC (.int 4)) cNil)))) (gN 4))
    (fSeq (fDrop (fSetd 6 (fGet (some 6) (fV 1) (fC (.str (Str.ofString "prices")))) (fV 3) (fTup (fCons (fV 2) (fCons (fV 4) fNil)))))
    (fSeq (fAsg (fOp oIxL (fGet (some 6) (fV 1) (fC (.str (Str.ofString "owners")))) (fCall 2 F__law_take [] (cOwn 0 (cDat (fCB bLen (fCons (fGet (some 6) (fV 1) (fC (.str (Str.ofString "owners")))) fNil)) cNil)))) (gN 5))
    (fRet (fTup (fCons (fC (.str (Str.ofString "give"))) (fCons (fV 5) (fCons (fV 3) (fCons (fV 2) (fCons (fV 4) (fCons (fCall 3 F__law_some_words [] (cOwn 0 (cDat (fGet (some 6) (fV 1) (fC (.str (Str.ofString "pool")))) (cDat (fC (.int 6)) cNil)))) fNil))))))))))))
def F__law_heap_1 : FE := (fGet2 (some 14) (fGet (some 14) (fV 1) (fC (.str (Str.ofString "prices")))) (fV 7) (fTup (fCons (fC (.int 50)) (fCons (fC (.int 20)) fNil))))
def F__law_heap_2 : FS := (fSeq (fAsg (fNew (fLcH 14 (fV 4) (gN 7) fYes F__law_heap_1 [7])) (gN 9))
    (fSeq (fPar 10 11 (fCons (fCB bSum (fCons (fNew (fLc (iL (fV 9)) (gT 2 (gsCons (gN 12) (gsCons (gN 13) gsNil))) fYes (fV 13) [12, 13])) fNil)) (fCons (fCB bSum (fCons (fNew (fLc (iL (fV 9)) (gT 2 (gsCons (gN 12) (gsCons (gN 13) gsNil))) fYes (fV 12) [12, 13])) fNil)) fNil)))
    (fSeq (fAsg (fNewL 14 (fLst (fCons (fV 10) (fCons (fCB bMax (fCons (fC (.int 0)) (fCons (fOp oSub (fV 10) (fC (.int 1))) fNil))) (fCons (fV 11) (fCons (fOp oAdd (fV 10) (fCall 2 F__law_take [] (cOwn 0 (cDat (fOp oAdd (fV 11) (fC (.int 1))) cNil)))) (fCons (fCall 2 F__law_take [] (cOwn 0 (cDat (fOp oPow (fC (.int 10)) (fC (.int 7))) cNil))) (fCons (fOp oAdd (fV 10) (fC (.int 1))) fNil)))))))) (gN 8))
    (fRet (fTup (fCons (fC (.str (Str.ofString "heap"))) (fCons (fOpnE (fCB bTuple (fCons (fNew (fCBN nSortI (fCons (fV 4) fNil))) fNil))) (fCons (fCB bMin (fCons (fC (.int 9999999)) (fCons (fIxH 14 (fV 8) (fCall 2 F__law_take [] (cOwn 0 (cDat (fC (.int 6)) cNil)))) fNil))) fNil))))))))
def F__law_heap_3 : FS := (fSeq (fAppH 14 (fV 4) (fIxH 14 (fV 8) (fCall 2 F__law_take [] (cOwn 0 (cDat (fLenH 14 (fV 8)) cNil)))))
    (fRemH 14 (fV 3) (fIxH 14 (fV 4) (fUn uNeg (fC (.int 1))))))
def F__law_heap_4 : FT := (fB (fIn (some 14) false (fV 7) (fGet (some 14) (fV 1) (fC (.str (Str.ofString "prices"))))))
def F__law_heap_5 : FS := (fSeq (fAsg (fNewL 14 (fLcH 14 (fV 3) (gN 7) F__law_heap_4 (fV 7) [7])) (gN 6))
    (fSeq (fAsg (fIf (fAnd (fOpnT (fB (fOp oNeD (fV 6) (fNew (fLst fNil))))) (fB (fOp oGt (fCall 2 F__law_take [] (cOwn 0 (cDat (fC (.int 16)) cNil))) (fC (.int 0))))) (fV 6) (fV 3)) (gN 8))
    F__law_heap_3))
def F__law_heap : FN := fnS 3 14 (fSeq (fPar 3 4 (fCons (fNewL 14 (fCBN nSortSetJ (fCons (fGet (some 14) (fV 1) (fC (.str (Str.ofString "numbers")))) fNil))) (fCons (fNewL 14 (fLst fNil)) fNil)))
    (fSeq (fFor [5, 6, 7] (iR1 (fCons (fOp oAdd (fC (.int 2)) (fCall 2 F__law_take [] (cOwn 0 (cDat (fOp oSub (fCB bMin (fCons (fV 2) (fCons (fLenH 14 (fV 3)) fNil))) (fC (.int 1))) cNil)))) fNil)) (gN 5) F__law_heap_5)
    F__law_heap_2))
def F__law_rule_1 : FT := (fAnd (fB (fOp oLt (fOp oIxT (fV 5) (fC (.int 0))) (fC (.int 1000)))) (fB (fOp oGt (fOp oIxT (fV 5) (fC (.int 1))) (fC (.int 0)))))
def F__law_rule_2 : FS := (fFreeze 3 (fRet (fCB bTuple (fCons (fNew (fLc (iL (fV 3)) (gN 5) F__law_rule_1 (fV 5) [5])) fNil))))
def F__law_rule_3 : FS := (fSeq (fPar 1 2 (fCons (fOp oAdd (fOp oAdd (fV 1) (fC (.int 1))) (fCall 2 F__law_take [] (cOwn 0 (cDat (fOp oIxL (fNew (fLst (fCons (fC (.int 3)) (fCons (fC (.int 30)) (fCons (fC (.int 160)) fNil))))) (fCall 2 F__law_take [] (cOwn 0 (cDat (fC (.int 3)) cNil)))) cNil)))) (fCons (fOp oSub (fOp oSub (fV 2) (fC (.int 1))) (fCall 2 F__law_take [] (cOwn 0 (cDat (fC (.int 14)) cNil)))) fNil)))
    (fAppend 3 (fTup (fCons (fV 1) (fCons (fV 2) fNil)))))
def F__law_rule : FN := fnF 1 6 (fSeq (fPar3O3 1 2 3 (fC (.int 0)) (fC (.int 100)) (fLst fNil))
    (fSeq (fFor [4] (iR1 (fCons (fCall 2 F__law_take [] (cOwn 0 (cDat (fC (.int 7)) cNil))) fNil)) (gN 4) F__law_rule_3)
    F__law_rule_2))
def F__law_rights_1 : FS := (fSeq (fFreeze 5 (fOwn 5 (fOpN nCat (fV 5) (fNew (fLst (fCons (fTup (fCons (fC (.str (Str.ofString "sell"))) (fCons (fV 2) (fCons (fC .none) fNil)))) (fCons (fTup (fCons (fC (.str (Str.ofString "sell"))) (fCons (fV 2) (fCons (fV 3) fNil)))) (fCons (fTup (fCons (fC (.str (Str.ofString "pay"))) (fCons (fC (.str (Str.ofString "z"))) (fCons (fOp oAdd (fC (.int 1)) (fOp oMod (fV 3) (fC (.int 9999999)))) fNil)))) fNil))))))))
    (fFreeze 5 (fRet (fOp oCatL (fV 5) (fNew (fLst (fCons (fTup (fCons (fC (.str (Str.ofString "heap"))) (fCons (fTup (fCons (fC (.int 1)) (fCons (fC (.int 2)) fNil))) (fCons (fV 3) fNil)))) (fCons (fTup (fCons (fC (.str (Str.ofString "heap"))) (fCons (fTupRng (fC (.int 9988)) (fC (.int 10000))) (fCons (fC (.int 0)) fNil)))) (fCons (fCallS 7 3 F__law_heap [] (cOwn 0 (cDat (fV 1) (cDat (fC (.int 12)) cNil)))) fNil)))))))))
def F__law_rights_2 : FS := (fSeq (fFreeze 5 (fOwn 5 (fOpN nCat (fV 5) (fNew (fLst (fCons (fTup (fCons (fC (.str (Str.ofString "share"))) (fCons (fC (.int 100)) fNil))) (fCons (fTup (fCons (fC (.str (Str.ofString "rule"))) (fCons (fTup (fCons (fTup (fCons (fC (.int 1)) (fCons (fC (.int 99)) fNil))) (fCons (fTup (fCons (fC (.int 2)) (fCons (fC (.int 98)) fNil))) (fCons (fTup (fCons (fC (.int 3)) (fCons (fC (.int 7)) fNil))) (fCons (fTup (fCons (fC (.int 4)) (fCons (fC (.int 6)) fNil))) (fCons (fTup (fCons (fC (.int 5)) (fCons (fC (.int 5)) fNil))) (fCons (fTup (fCons (fC (.int 6)) (fCons (fC (.int 4)) fNil))) fNil))))))) fNil))) fNil)))))))
    F__law_rights_1)
def F__law_rights_3 : FS := (fSeq (fFreeze 5 (fOwn 5 (fOpN nCat (fV 5) (fNew (fLst (fCons (fTup (fCons (fC (.str (Str.ofString "rule"))) (fCons (fTup fNil) fNil))) (fCons (fTup (fCons (fC (.str (Str.ofString "rule"))) (fCons (fTup (fCons (fTup (fCons (fC (.int 1)) (fCons (fC (.int 99)) fNil))) (fCons (fTup (fCons (fC (.int 999)) (fCons (fC (.int 1)) fNil))) fNil))) fNil))) (fCons (fTup (fCons (fC (.str (Str.ofString "rule"))) (fCons (fCall 1 F__law_rule [] (cOwn 0 cNil)) fNil))) (fCons (fTup (fCons (fC (.str (Str.ofString "share"))) (fCons (fC (.int 0)) fNil))) fNil)))))))))
    F__law_rights_2)
def F__law_rights_4 : FE := (fTup (fCons (fV 6) (fCons (fV 2) fNil)))
def F__law_rights_5 : FS := (fSeq (fFreeze 5 (fOwn 5 (fOpN nCat (fV 5) (fNew (fLc (iT (fTup (fCons (fC (.str (Str.ofString "let"))) (fCons (fC (.str (Str.ofString "back"))) (fCons (fC (.str (Str.ofString "fetch"))) (fCons (fC (.str (Str.ofString "lose"))) (fCons (fC (.str (Str.ofString "find"))) fNil))))))) (gN 6) fYes F__law_rights_4 [6])))))
    F__law_rights_3)
def F__law_rights : FN := fnS 1 7 (fSeq (fAsg (fCallS 7 2 F__law_world [] (cOwn 0 (cDat (fC (.int 14)) cNil))) (gN 1))
    (fSeq (fAsg (fOp oIxL (fNew (fLst (fCons (fC (.int 1)) (fCons (fC (.int 9999)) (fCons (fOp oAdd (fC (.int 1)) (fCall 2 F__law_take [] (cOwn 0 (cDat (fC (.int 9999)) cNil)))) fNil))))) (fCall 2 F__law_take [] (cOwn 0 (cDat (fC (.int 3)) cNil)))) (gN 2))
    (fSeq (fAsg (fOp oIxL (fNew (fLst (fCons (fC (.int 0)) (fCons (fC (.int 1)) (fCons (fC (.int 9999999)) (fCons (fCall 2 F__law_take [] (cOwn 0 (cDat (fOp oPow (fC (.int 10)) (fC (.int 7))) cNil))) fNil)))))) (fCall 2 F__law_take [] (cOwn 0 (cDat (fC (.int 4)) cNil)))) (gN 3))
    (fSeq (fAsg (fOp oIxL (fNew (fLst (fCons (fC (.int 1)) (fCons (fC (.int 99999)) (fCons (fOp oAdd (fC (.int 1)) (fCall 2 F__law_take [] (cOwn 0 (cDat (fC (.int 99999)) cNil)))) fNil))))) (fCall 2 F__law_take [] (cOwn 0 (cDat (fC (.int 3)) cNil)))) (gN 4))
    (fSeq (fOwn 5 (fLst (fCons (fTup (fCons (fC (.str (Str.ofString "give"))) (fCons (fC (.str (Str.ofString "abcdefgh"))) (fCons (fV 2) (fCons (fV 4) (fCons (fOp oIxL (fNew (fLst (fCons (fC (.int 0)) (fCons (fV 4) fNil)))) (fCall 2 F__law_take [] (cOwn 0 (cDat (fC (.int 2)) cNil)))) (fCons (fTup fNil) fNil))))))) (fCons (fCallS 7 2 F__law_give [] (cOwn 0 (cDat (fV 1) cNil))) fNil))))
    (fSeq (fAppend 5 (fTup (fCons (fC (.str (Str.ofString "give"))) (fCons (fC (.str (Str.ofString "a"))) (fCons (fV 2) (fCons (fC (.int 5)) (fCons (fC (.int 5)) (fCons (fTup (fCons (fC (.str (Str.ofString "a"))) (fCons (fC (.str (Str.ofString "aa"))) (fCons (fC (.str (Str.ofString "b"))) (fCons (fC (.str (Str.ofString "c"))) (fCons (fC (.str (Str.ofString "d"))) (fCons (fC (.str (Str.ofString "zzzzzzzz"))) fNil))))))) fNil))))))))
    F__law_rights_5))))))
def F__law_odds_1 : FE := (fTup (fCons (fV 2) (fCons (fOp oSub (fC (.int 90)) (fV 2)) fNil)))
def F__law_odds : FN := fnF 1 3 (fSeq (fAsg (fNew (fLst (fCons (fC .none) (fCons (fC (.bool true)) (fCons (fC (.bool false)) (fCons (fC (.int 0)) (fCons (fUn uNeg (fC (.int 1))) (fCons (fC (.int 1)) (fCons (fC (.int 2)) (fCons (fC (.int 100)) (fCons (fC (.int 101)) (fCons (fC (.int 999)) (fCons (fC (.int 1000)) (fCons (fC (.int 9999)) (fCons (fC (.int 10000)) (fCons (fC (.int 99999)) (fCons (fC (.int 100000)) (fCons (fC (.int 9999999)) (fCons (fOp oPow (fC (.int 10)) (fC (.int 7))) (fCons (fOp oPow (fC (.int 10)) (fC (.int 20))) fNil)))))))))))))))))))) (gN 1))
    (fSeq (fAsg (fOp oCatL (fV 1) (fNew (fLst (fCons (fC (.str (Str.ofString ""))) (fCons (fC (.str (Str.ofString "a"))) (fCons (fC (.str (Str.ofString "abcdefgh"))) (fCons (fC (.str (Str.ofString "abcdefghi"))) (fCons (fC (.str (Str.ofString "A"))) (fCons (fC (.str (Str.ofString "a b"))) (fCons (fC (.str (Str.ofString "a1"))) (fCons (fC (.str (Str.ofString "a\n"))) (fCons (fC (.str (Str.ofString "5"))) (fCons (fTup fNil) (fCons (fTup (fCons (fC (.int 1)) fNil)) (fCons (fTup (fCons (fC (.int 1)) (fCons (fC (.int 2)) fNil))) (fCons (fNew (fLst (fCons (fC (.int 1)) (fCons (fC (.int 2)) fNil)))) (fCons (fTup (fCons (fC (.int 2)) (fCons (fC (.int 1)) fNil))) fNil))))))))))))))))) (gN 1))
    (fSeq (fAsg (fOp oCatL (fV 1) (fNew (fLst (fCons (fTup (fCons (fC (.int 1)) (fCons (fC (.int 1)) fNil))) (fCons (fTup (fCons (fC (.int 1)) (fCons (fC (.bool true)) fNil))) (fCons (fTup (fCons (fC (.int 1)) (fCons (fC (.int 10000)) fNil))) (fCons (fTup (fCons (fC (.int 0)) (fCons (fC (.int 1)) fNil))) (fCons (fTupRng (fC (.int 1)) (fC (.int 13))) (fCons (fTupRng (fC (.int 1)) (fC (.int 14))) (fCons (fTup (fCons (fC (.str (Str.ofString "a"))) (fCons (fC (.str (Str.ofString "b"))) fNil))) fNil)))))))))) (gN 1))
    (fSeq (fAsg (fOp oCatL (fV 1) (fNew (fLst (fCons (fTup (fCons (fC (.str (Str.ofString "b"))) (fCons (fC (.str (Str.ofString "a"))) fNil))) (fCons (fNew (fLst (fCons (fC (.str (Str.ofString "a"))) fNil))) (fCons (fTup (fCons (fC (.str (Str.ofString "a"))) (fCons (fC (.str (Str.ofString "a"))) fNil))) (fCons (fTup (fCons (fC (.str (Str.ofString "a"))) (fCons (fC (.str (Str.ofString ""))) fNil))) (fCons (fTup (fCons (fTup (fCons (fC (.int 1)) (fCons (fC (.int 99)) fNil))) fNil)) (fCons (fTup (fCons (fTup (fCons (fC (.int 1)) (fCons (fC (.int 99)) fNil))) (fCons (fTup (fCons (fC (.int 2)) (fCons (fC (.int 99)) fNil))) fNil))) (fCons (fTup (fCons (fTup (fCons (fC (.int 2)) (fCons (fC (.int 9)) fNil))) (fCons (fTup (fCons (fC (.int 1)) (fCons (fC (.int 8)) fNil))) fNil))) fNil)))))))))) (gN 1))
    (fSeq (fAsg (fOp oCatL (fV 1) (fNew (fLst (fCons (fTup (fCons (fTup (fCons (fC (.int 1)) (fCons (fC (.int 100)) fNil))) fNil)) (fCons (fTup (fCons (fTup (fCons (fC (.int 0)) (fCons (fC (.int 5)) fNil))) fNil)) fNil))))) (gN 1))
    (fSeq (fAsg (fOp oCatL (fV 1) (fNew (fLst (fCons (fNew (fLst (fCons (fTup (fCons (fC (.int 1)) (fCons (fC (.int 9)) fNil))) fNil))) (fCons (fTup (fCons (fNew (fLst (fCons (fC (.int 1)) (fCons (fC (.int 9)) fNil)))) fNil)) (fCons (fTup (fCons (fTup (fCons (fC (.int 1)) (fCons (fC (.int 9)) (fCons (fC (.int 1)) fNil)))) fNil)) (fCons (fTup (fCons (fTup (fCons (fC (.int 1000)) (fCons (fC (.int 9)) fNil))) fNil)) (fCons (fTup (fCons (fTup (fCons (fC (.int 1)) (fCons (fC (.int 0)) fNil))) fNil)) (fCons (fTup (fCons (fTup (fCons (fC (.bool true)) (fCons (fC (.int 9)) fNil))) fNil)) (fCons (fBM mSplit (fC (.str (Str.ofString "abcdefg"))) (fCons (fC (.str (Str.ofString "d"))) fNil)) fNil)))))))))) (gN 1))
    (fSeq (fAsg (fOp oCatL (fV 1) (fNew (fLst (fCons (fCB bTuple (fCons (fNew (fLc (iR2 (fCons (fC (.int 1)) (fCons (fC (.int 8)) fNil))) (gN 2) fYes F__law_odds_1 [2])) fNil)) (fCons (fCB bTupS (fCons (fC (.str (Str.ofString "abcdef"))) fNil)) (fCons (fCB bTupS (fCons (fC (.str (Str.ofString "abcdefg"))) fNil)) fNil)))))) (gN 1))
    (fRet (fOp oIxL (fV 1) (fCall 2 F__law_take [] (cOwn 0 (cDat (fCB bLen (fCons (fV 1) fNil)) cNil))))))))))))
def F__law_bent_1 : FS := (fSeq (fAsg (fNew (fLst (fCons (fC (.str (Str.ofString ""))) (fCons (fC (.str (Str.ofString "Give"))) (fCons (fC (.str (Str.ofString "sold"))) (fCons (fC (.str (Str.ofString "gives"))) (fCons (fC (.str (Str.ofString "give"))) (fCons (fC (.str (Str.ofString "sell"))) (fCons (fC (.str (Str.ofString "heap"))) (fCons (fC (.str (Str.ofString "pay"))) (fCons (fC (.str (Str.ofString "rule"))) (fCons (fC (.str (Str.ofString "share"))) (fCons (fC (.str (Str.ofString "let"))) (fCons (fC .none) (fCons (fC (.int 1)) (fCons (fTup (fCons (fC (.str (Str.ofString "let"))) fNil)) fNil)))))))))))))))) (gN 4))
    (fSeq (fAsg (fNew (fLst (fCons (fSl sT (fV 1) pNo (pSo (fUn uNeg (fC (.int 1))))) (fCons (fOp oCatT (fV 1) (fTup (fCons (fC (.int 1)) fNil))) (fCons (fCB bList (fCons (fV 1) fNil)) (fCons (fOp oCatT (fTup (fCons (fOp oIxL (fV 4) (fCall 2 F__law_take [] (cOwn 0 (cDat (fCB bLen (fCons (fV 4) fNil)) cNil)))) fNil)) (fSl sT (fV 1) (pSo (fC (.int 1))) pNo)) fNil)))))) (gN 5))
    (fRet (fOp oIxL (fV 5) (fOp oSub (fV 2) (fC (.int 6)))))))
def F__law_bent : FN := fnF 2 6 (fSeq (fPar 2 3 (fCons (fCall 2 F__law_take [] (cOwn 0 (cDat (fC (.int 10)) cNil))) (fCons (fOp oAdd (fC (.int 1)) (fCall 2 F__law_take [] (cOwn 0 (cDat (fOp oSub (fCB bLen (fCons (fV 1) fNil)) (fC (.int 1))) cNil)))) fNil)))
    (fSeq (fIfS (fB (fOp oLt (fV 2) (fC (.int 6)))) (fRet (fOp oCatT (fOp oCatT (fSl sT (fV 1) pNo (pSo (fV 3))) (fTup (fCons (fCall 1 F__law_odds [] (cOwn 0 cNil)) fNil))) (fSl sT (fV 1) (pSo (fOp oAdd (fV 3) (fC (.int 1)))) pNo))) fNext)
    F__law_bent_1))
def F_is_whole : FN := fnF 3 3 (fRet (fAndV (fIsi "int" (fV 0)) (fAndV (fNotV (fIsi "bool" (fV 0))) (fChain oLe oLe (fV 1) (fV 0) (fV 2)))))
def F_are_rising_1 : FE := (fOp oLtM (fV 1) (fV 2))
def F_are_rising : FN := fnF 1 3 (fRet (fCB bAll (fCons (fNew (fLc (iZ (fCons (fV 0) (fCons (fSl sT (fV 0) (pSo (fC (.int 1))) pNo) fNil))) (gT 2 (gsCons (gN 1) (gsCons (gN 2) gsNil))) fYes F_are_rising_1 [1, 2])) fNil)))
def F_is_name_1 : FE := (fOp oInS (fV 1) (fC (.str (Str.ofString "abcdefghijklmnopqrstuvwxyz"))))
def F_is_name_2 : FS := (fRet (fCB bAll (fCons (fNew (fLc (iS (fV 0)) (gN 1) fYes F_is_name_1 [1])) fNil)))
def F_is_name : FN := fnF 1 2 (fSeq (fIfS (fOr (fNot (fB (fIsi "str" (fV 0)))) (fNot (fB (fChain oLe oLe (fC (.int 1)) (fCB bLenS (fCons (fV 0) fNil)) (fC (.int 8)))))) (fRet (fC (.bool false))) fNext)
    F_is_name_2)
def F_are_words_1 : FS := (fRet (fCall 1 F_are_rising [] (cDat (fV 0) cNil)))
def F_are_words_2 : FE := (fCall 1 F_is_name [] (cDat (fV 1) cNil))
def F_are_words : FN := fnF 1 2 (fSeq (fIfS (fOr (fNot (fB (fIsi "tuple" (fV 0)))) (fOr (fB (fOp oGt (fCB bLen (fCons (fV 0) fNil)) (fC (.int 6)))) (fNot (fB (fCB bAll (fCons (fNew (fLc (iT (fV 0)) (gN 1) fYes F_are_words_2 [1])) fNil)))))) (fRet (fC (.bool false))) fNext)
    F_are_words_1)
def F_is_number : FN := fnF 1 1 (fRet (fCall 3 F_is_whole [] (cDat (fV 0) (cDat (fC (.int 1)) (cDat (fC (.int 9999)) cNil)))))
def F_is_give_1 : FS := (fRet (fAndV (fCall 3 F_is_whole [] (cDat (fV 5) (cDat (fC (.int 0)) (cDat (fV 4) cNil)))) (fCall 1 F_are_words [] (cDat (fV 6) cNil))))
def F_is_give : FN := fnF 1 7 (fSeq (fAsg (fV 0) (gT 6 (gsCons (gN 1) (gsCons (gN 2) (gsCons (gN 3) (gsCons (gN 4) (gsCons (gN 5) (gsCons (gN 6) gsNil))))))))
    (fSeq (fIfS (fOr (fNot (fB (fCall 1 F_is_name [] (cDat (fV 2) cNil)))) (fOr (fNot (fB (fCall 1 F_is_number [] (cDat (fV 3) cNil)))) (fNot (fB (fCall 3 F_is_whole [] (cDat (fV 4) (cDat (fC (.int 1)) (cDat (fC (.int 99999)) cNil)))))))) (fRet (fC (.bool false))) fNext)
    F_is_give_1))
def F_are_numbers_1 : FE := (fCall 1 F_is_number [] (cDat (fV 1) cNil))
def F_are_numbers_2 : FS := (fRet (fAndV (fCB bAll (fCons (fNew (fLc (iT (fV 0)) (gN 1) fYes F_are_numbers_1 [1])) fNil)) (fCall 1 F_are_rising [] (cDat (fV 0) cNil))))
def F_are_numbers : FN := fnF 1 2 (fSeq (fIfS (fOr (fNot (fB (fIsi "tuple" (fV 0)))) (fNot (fB (fChain oLe oLe (fC (.int 2)) (fCB bLen (fCons (fV 0) fNil)) (fC (.int 12)))))) (fRet (fC (.bool false))) fNext)
    F_are_numbers_2)
def F_is_amount : FN := fnF 1 1 (fRet (fCall 3 F_is_whole [] (cDat (fV 0) (cDat (fC (.int 0)) (cDat (fC (.int 9999999)) cNil)))))
def F_is_heap : FN := fnF 1 1 (fRet (fAndV (fCall 1 F_are_numbers [] (cDat (fOp oIxT (fV 0) (fC (.int 1))) cNil)) (fCall 1 F_is_amount [] (cDat (fOp oIxT (fV 0) (fC (.int 2))) cNil))))
def F_is_of_thing : FN := fnF 1 1 (fRet (fCall 1 F_is_number [] (cDat (fOp oIxT (fV 0) (fC (.int 1))) cNil)))
def F_is_pay : FN := fnF 1 1 (fRet (fAndV (fCall 1 F_is_name [] (cDat (fOp oIxT (fV 0) (fC (.int 1))) cNil)) (fCall 3 F_is_whole [] (cDat (fOp oIxT (fV 0) (fC (.int 2))) (cDat (fC (.int 1)) (cDat (fC (.int 9999999)) cNil))))))
def F_is_sell : FN := fnF 1 1 (fRet (fAndV (fCall 1 F_is_number [] (cDat (fOp oIxT (fV 0) (fC (.int 1))) cNil)) (fOrV (fOp oIs (fOp oIxT (fV 0) (fC (.int 2))) (fC .none)) (fCall 1 F_is_amount [] (cDat (fOp oIxT (fV 0) (fC (.int 2))) cNil)))))
def F_is_rule_pair_1 : FS := (fRet (fAndV (fCall 3 F_is_whole [] (cDat (fOp oIxT (fV 0) (fC (.int 0))) (cDat (fC (.int 1)) (cDat (fC (.int 999)) cNil)))) (fCall 3 F_is_whole [] (cDat (fOp oIxT (fV 0) (fC (.int 1))) (cDat (fC (.int 1)) (cDat (fC (.int 99)) cNil))))))
def F_is_rule_pair : FN := fnF 1 1 (fSeq (fIfS (fOr (fNot (fB (fIsi "tuple" (fV 0)))) (fB (fOp oNe (fCB bLen (fCons (fV 0) fNil)) (fC (.int 2))))) (fRet (fC (.bool false))) fNext)
    F_is_rule_pair_1)
def F_is_rule_1 : FE := (fAndV (fOp oLt (fOp oIx (fV 2) (fC (.int 0))) (fOp oIx (fV 3) (fC (.int 0)))) (fOp oGt (fOp oIx (fV 2) (fC (.int 1))) (fOp oIx (fV 3) (fC (.int 1)))))
def F_is_rule_2 : FS := (fRet (fCB bAll (fCons (fNew (fLc (iZ (fCons (fV 0) (fCons (fSl sT (fV 0) (pSo (fC (.int 1))) pNo) fNil))) (gT 2 (gsCons (gN 2) (gsCons (gN 3) gsNil))) fYes F_is_rule_1 [2, 3])) fNil)))
def F_is_rule_3 : FE := (fCall 1 F_is_rule_pair [] (cDat (fV 1) cNil))
def F_is_rule : FN := fnF 1 4 (fSeq (fIfS (fOr (fNot (fB (fIsi "tuple" (fV 0)))) (fOr (fB (fOp oGt (fCB bLen (fCons (fV 0) fNil)) (fC (.int 6)))) (fNot (fB (fCB bAll (fCons (fNew (fLc (iT (fV 0)) (gN 1) fYes F_is_rule_3 [1])) fNil)))))) (fRet (fC (.bool false))) fNext)
    F_is_rule_2)
def F_is_told_rule : FN := fnF 1 1 (fRet (fCall 1 F_is_rule [] (cDat (fOp oIxT (fV 0) (fC (.int 1))) cNil)))
def F_is_told_share : FN := fnF 1 1 (fRet (fCall 3 F_is_whole [] (cDat (fOp oIxT (fV 0) (fC (.int 1))) (cDat (fC (.int 0)) (cDat (fC (.int 100)) cNil)))))
def F_is_deed_1 : FS := (fSeq (fAsg (fKGet tb_DEED_SHAPES (fOp oIxT (fV 0) (fC (.int 0)))) (gN 1))
    (fRet (fCallV0 1 [("is_give", 1, F_is_give), ("is_heap", 1, F_is_heap), ("is_of_thing", 1, F_is_of_thing), ("is_pay", 1, F_is_pay), ("is_sell", 1, F_is_sell), ("is_told_rule", 1, F_is_told_rule), ("is_told_share", 1, F_is_told_share)] (cDat (fV 0) cNil))))
def F_is_deed_2 : FS := (fSeq (fIfS (fOr (fB (fKIn true tb_DEED_SHAPES (fOp oIxT (fV 0) (fC (.int 0))))) (fB (fOp oNe (fCB bLen (fCons (fV 0) fNil)) (fKGet2 tb_DEED_SIZES (fOp oIxT (fV 0) (fC (.int 0))) (fC (.int 2)))))) (fRet (fC (.bool false))) fNext)
    F_is_deed_1)
def F_is_deed : FN := fnF 1 2 (fSeq (fIfS (fOr (fNot (fB (fIsi "tuple" (fV 0)))) (fOr (fB (fOp oEq (fCB bLen (fCons (fV 0) fNil)) (fC (.int 0)))) (fNot (fB (fIsi "str" (fOp oIxT (fV 0) (fC (.int 0)))))))) (fRet (fC (.bool false))) fNext)
    F_is_deed_2)
def F__law_is_whole : FN := fnF 3 3 (fRet (fAndV (fIsi "int" (fV 0)) (fAndV (fNotV (fIsi "bool" (fV 0))) (fChain oLe oLe (fV 1) (fV 0) (fV 2)))))
def F__law_rise_1 : FE := (fOp oLtM (fV 1) (fV 2))
def F__law_rise : FN := fnF 1 3 (fRet (fCB bAll (fCons (fNew (fLc (iZM (fCons (fV 0) (fCons (fSl sM (fV 0) (pSo (fC (.int 1))) pNo) fNil))) (gT 2 (gsCons (gN 1) (gsCons (gN 2) gsNil))) fYes F__law_rise_1 [1, 2])) fNil)))
def F__law_is_name_1 : FE := (fOp oInS (fV 1) (fC (.str (Str.ofString "abcdefghijklmnopqrstuvwxyz"))))
def F__law_is_name_2 : FS := (fRet (fCB bAll (fCons (fNew (fLc (iS (fV 0)) (gN 1) fYes F__law_is_name_1 [1])) fNil)))
def F__law_is_name : FN := fnF 1 2 (fSeq (fIfS (fOr (fNot (fB (fIsi "str" (fV 0)))) (fNot (fB (fChain oLt oLt (fC (.int 0)) (fCB bLenS (fCons (fV 0) fNil)) (fC (.int 9)))))) (fRet (fC (.bool false))) fNext)
    F__law_is_name_2)
def F__law_is_given_1 : FE := (fCall 1 F__law_is_name [] (cDat (fV 6) cNil))
def F__law_is_given_2 : FS := (fRet (fAndV (fCB bAll (fCons (fNew (fLc (iA (fV 5)) (gN 6) fYes F__law_is_given_1 [6])) fNil)) (fCall 1 F__law_rise [] (cDat (fV 5) cNil))))
def F__law_is_given_3 : FS := (fSeq (fIfS (fOr (fNot (fB (fCall 3 F__law_is_whole [] (cDat (fV 4) (cDat (fC (.int 0)) (cDat (fV 3) cNil)))))) (fOr (fNot (fB (fIsi "tuple" (fV 5)))) (fB (fOp oGt (fCB bLen (fCons (fV 5) fNil)) (fC (.int 6)))))) (fRet (fC (.bool false))) fNext)
    F__law_is_given_2)
def F__law_is_given : FN := fnF 1 7 (fSeq (fAsg (fV 0) (gT 5 (gsCons (gN 1) (gsCons (gN 2) (gsCons (gN 3) (gsCons (gN 4) (gsCons (gN 5) gsNil)))))))
    (fSeq (fIfS (fOr (fNot (fB (fCall 1 F__law_is_name [] (cDat (fV 1) cNil)))) (fOr (fNot (fB (fCall 3 F__law_is_whole [] (cDat (fV 2) (cDat (fC (.int 1)) (cDat (fC (.int 9999)) cNil)))))) (fNot (fB (fCall 3 F__law_is_whole [] (cDat (fV 3) (cDat (fC (.int 1)) (cDat (fC (.int 99999)) cNil)))))))) (fRet (fC (.bool false))) fNext)
    F__law_is_given_3))
def F__law_is_heap_1 : FE := (fCall 3 F__law_is_whole [] (cDat (fV 3) (cDat (fC (.int 1)) (cDat (fC (.int 9999)) cNil))))
def F__law_is_heap_2 : FS := (fRet (fAndV (fCB bAll (fCons (fNew (fLc (iA (fV 1)) (gN 3) fYes F__law_is_heap_1 [3])) fNil)) (fCall 1 F__law_rise [] (cDat (fV 1) cNil))))
def F__law_is_heap : FN := fnF 1 4 (fSeq (fAsg (fV 0) (gT 2 (gsCons (gN 1) (gsCons (gN 2) gsNil))))
    (fSeq (fIfS (fOr (fNot (fB (fIsi "tuple" (fV 1)))) (fOr (fNot (fB (fChain oLe oLe (fC (.int 2)) (fCB bLen (fCons (fV 1) fNil)) (fC (.int 12))))) (fNot (fB (fCall 3 F__law_is_whole [] (cDat (fV 2) (cDat (fC (.int 0)) (cDat (fC (.int 9999999)) cNil)))))))) (fRet (fC (.bool false))) fNext)
    F__law_is_heap_2))
def F__law_is_rule_1 : FE := (fOp oIx (fV 1) (fC (.int 1)))
def F__law_is_rule_2 : FE := (fOp oIx (fV 1) (fC (.int 0)))
def F__law_is_rule_3 : FS := (fRet (fAndV (fCall 1 F__law_rise [] (cDat (fNew (fLc (iT (fV 0)) (gN 1) fYes F__law_is_rule_2 [1])) cNil)) (fCall 1 F__law_rise [] (cDat (fNew (fLc (iT (fRevT (fV 0))) (gN 1) fYes F__law_is_rule_1 [1])) cNil))))
def F__law_is_rule_4 : FS := (fIfS (fOr (fNot (fB (fCall 3 F__law_is_whole [] (cDat (fOp oIx (fV 1) (fC (.int 0))) (cDat (fC (.int 1)) (cDat (fC (.int 999)) cNil)))))) (fNot (fB (fCall 3 F__law_is_whole [] (cDat (fOp oIx (fV 1) (fC (.int 1))) (cDat (fC (.int 1)) (cDat (fC (.int 99)) cNil))))))) (fRet (fC (.bool false))) fNext)
def F__law_is_rule_5 : FS := (fSeq (fIfS (fOr (fNot (fB (fIsi "tuple" (fV 1)))) (fB (fOp oNe (fCB bLen (fCons (fV 1) fNil)) (fC (.int 2))))) (fRet (fC (.bool false))) fNext)
    F__law_is_rule_4)
def F__law_is_rule_6 : FS := (fSeq (fFor [1] (iT (fV 0)) (gN 1) F__law_is_rule_5)
    F__law_is_rule_3)
def F__law_is_rule : FN := fnF 1 2 (fSeq (fIfS (fOr (fNot (fB (fIsi "tuple" (fV 0)))) (fB (fOp oGt (fCB bLen (fCons (fV 0) fNil)) (fC (.int 6))))) (fRet (fC (.bool false))) fNext)
    F__law_is_rule_6)
def F__law_due_1 : FS := (fSeq (fAsg (fNew (fLst (fCons (fC (.str (Str.ofString "let"))) (fCons (fC (.str (Str.ofString "back"))) (fCons (fC (.str (Str.ofString "fetch"))) (fCons (fC (.str (Str.ofString "lose"))) (fCons (fC (.str (Str.ofString "find"))) fNil))))))) (gN 3))
    (fRet (fAndV (fOp (oIn false) (fV 1) (fV 3)) (fAndV (fOp oEq (fCB bLen (fCons (fV 2) fNil)) (fC (.int 1))) (fCall 3 F__law_is_whole [] (cDat (fOp oIxT (fV 2) (fC (.int 0))) (cDat (fC (.int 1)) (cDat (fC (.int 9999)) cNil))))))))
def F__law_due_2 : FS := (fSeq (fIfS (fB (fOp oEq (fV 1) (fC (.str (Str.ofString "share"))))) (fRet (fAndV (fOp oEq (fCB bLen (fCons (fV 2) fNil)) (fC (.int 1))) (fCall 3 F__law_is_whole [] (cDat (fOp oIxT (fV 2) (fC (.int 0))) (cDat (fC (.int 0)) (cDat (fC (.int 100)) cNil)))))) fNext)
    F__law_due_1)
def F__law_due_3 : FS := (fSeq (fIfS (fB (fOp oEq (fV 1) (fC (.str (Str.ofString "rule"))))) (fRet (fAndV (fOp oEq (fCB bLen (fCons (fV 2) fNil)) (fC (.int 1))) (fCall 1 F__law_is_rule [] (cDat (fOp oIxT (fV 2) (fC (.int 0))) cNil)))) fNext)
    F__law_due_2)
def F__law_due_4 : FS := (fSeq (fIfS (fB (fOp oEq (fV 1) (fC (.str (Str.ofString "pay"))))) (fRet (fAndV (fOp oEq (fCB bLen (fCons (fV 2) fNil)) (fC (.int 2))) (fAndV (fCall 1 F__law_is_name [] (cDat (fOp oIxT (fV 2) (fC (.int 0))) cNil)) (fCall 3 F__law_is_whole [] (cDat (fOp oIxT (fV 2) (fC (.int 1))) (cDat (fC (.int 1)) (cDat (fC (.int 9999999)) cNil))))))) fNext)
    F__law_due_3)
def F__law_due_5 : FS := (fRet (fOrV (fOp oIs (fOp oIxT (fV 2) (fC (.int 1))) (fC .none)) (fCall 3 F__law_is_whole [] (cDat (fOp oIxT (fV 2) (fC (.int 1))) (cDat (fC (.int 0)) (cDat (fC (.int 9999999)) cNil))))))
def F__law_due_6 : FS := (fSeq (fIfS (fB (fOp oEq (fV 1) (fC (.str (Str.ofString "sell"))))) (fSeq (fIfS (fOr (fB (fOp oNe (fCB bLen (fCons (fV 2) fNil)) (fC (.int 2)))) (fNot (fB (fCall 3 F__law_is_whole [] (cDat (fOp oIxT (fV 2) (fC (.int 0))) (cDat (fC (.int 1)) (cDat (fC (.int 9999)) cNil))))))) (fRet (fC (.bool false))) fNext)
    F__law_due_5) fNext)
    F__law_due_4)
def F__law_due_7 : FS := (fSeq (fIfS (fB (fOp oEq (fV 1) (fC (.str (Str.ofString "heap"))))) (fRet (fAndV (fOp oEq (fCB bLen (fCons (fV 2) fNil)) (fC (.int 2))) (fCall 1 F__law_is_heap [] (cDat (fV 2) cNil)))) fNext)
    F__law_due_6)
def F__law_due_8 : FS := (fSeq (fPar 1 2 (fCons (fOp oIxT (fV 0) (fC (.int 0))) (fCons (fSl sT (fV 0) (pSo (fC (.int 1))) pNo) fNil)))
    (fSeq (fIfS (fB (fOp oEq (fV 1) (fC (.str (Str.ofString "give"))))) (fRet (fAndV (fOp oEq (fCB bLen (fCons (fV 2) fNil)) (fC (.int 5))) (fCall 1 F__law_is_given [] (cDat (fV 2) cNil)))) fNext)
    F__law_due_7))
def F__law_due : FN := fnF 1 4 (fSeq (fIfS (fOr (fNot (fB (fIsi "tuple" (fV 0)))) (fOr (fB (fOp oEqD (fV 0) (fTup fNil))) (fNot (fB (fIsi "str" (fOp oIxT (fV 0) (fC (.int 0)))))))) (fRet (fC (.bool false))) fNext)
    F__law_due_8)
def F_law_1 : FS := (fRet (fC (.bool true)))
def F_law_2 : FE := (fOp oIsntT (fCall 1 F_is_deed [] (cDat (fV 6) cNil)) (fC (.bool false)))
def F_law_3 : FS := (fSeq (fAsg (fTup (fCons (fC .none) (fCons (fC (.bool true)) (fCons (fC (.int 0)) (fCons (fC (.str (Str.ofString "let"))) (fCons (fTup fNil) (fCons (fNew (fLst fNil)) (fCons (fTup (fCons (fC (.str (Str.ofString "let"))) fNil)) (fCons (fTup (fCons (fC (.str (Str.ofString "let"))) (fCons (fC (.int 1)) (fCons (fC (.int 1)) fNil)))) (fCons (fTup (fCons (fTup fNil) fNil)) fNil)))))))))) (gN 9))
    (fIfS (fB (fCB bAny (fCons (fNew (fLc (iT (fV 9)) (gN 6) fYes F_law_2 [6])) fNil))) (fRet (fC (.bool false))) fNext))
def F_law_4 : FS := (fSeq (fAsg (fCall 2 F__law_bent [] (cOwn 3 (cDat (fV 4) cNil))) (gN 6))
    (fSeq (fPar 7 8 (fCons (fCB bRepr (fCons (fV 6) fNil)) (fCons (fCall 1 F_is_deed [] (cDat (fV 6) cNil)) fNil)))
    (fIfS (fOr (fNot (fB (fIsi "bool" (fV 8)))) (fOr (fB (fOp oNe (fV 8) (fCall 1 F__law_due [] (cDat (fV 6) cNil)))) (fB (fOp oNe (fCB bRepr (fCons (fV 6) fNil)) (fV 7))))) (fRet (fC (.bool false))) fNext)))
def F_law_5 : FS := (fFor [5, 6, 7, 8] (iR1 (fCons (fC (.int 6)) fNil)) (gN 5) F_law_4)
def F_law_6 : FS := (fSeq (fIfS (fOr (fB (fOp oIsntT (fCall 1 F_is_deed [] (cDat (fV 4) cNil)) (fC (.bool true)))) (fNot (fB (fCall 1 F__law_due [] (cDat (fV 4) cNil))))) (fRet (fC (.bool false))) fNext)
    F_law_5)
def F_law_7 : FS := (fSeq (fOwn 3 (fCallW 2 F__law_box [] (cDat (fV 1) (cDat (fV 2) cNil))))
    (fSeq (fFor [4, 5, 6, 7, 8] (iL (fCallS 10 1 F__law_rights [] (cOwn 3 cNil))) (gN 4) F_law_6)
    F_law_3))
def F_law : FN := fnS 1 10 (fSeq (fAsg (fCall 2 F__law_folded [] (cDat (fV 0) (cDat (fC (.int 2)) cNil))) (gN 1))
    (fSeq (fFor [2, 3, 4, 5, 6, 7, 8, 9] (iR1 (fCons (fCB bMax (fCons (fC (.int 1)) (fCons (fCB bLen (fCons (fV 1) fNil)) fNil))) fNil)) (gN 2) F_law_7)
    F_law_1))
local macro_rules | `(tactic| walk_at "f") => `(tactic| simp only [fnF, fSeq, fNext, fRet, fRetN, fAsg, fDrop, fIfS, fAnd, fOr, fNot, fAndV, fOrV, fNotV, fB, fTru, truF, boolF, fOp, fUn, fV, fC, fCons, fNil, fCB, fBM, fCall, cNil, cDat, cOwn, argF, wb, ownIx, fTup, fNew, fLst, fIf, fChain, o2, o2c, oStr, oEqB, oEqD, oNeD, oIsB, isNone, oInSB, oIn, seqF, oIxL, oIxT, oIxS, oIx, fSl, pNo, pSo, sL, sT, sS, listF, tupleF, strF, intF, ownF, fIxO, fLenO, fInO, fAppend, gSubO, gN, gT, gsCons, gsNil, fPar, fPar3, fAug, fFreeze, fOwn, slotF, sz0, sz1, sz2, sz3, sz4, sz5, sz6, sz7, sz8, sz9, sz10, sz11, sz12, sz13, sz14, sz15, sz16, sz17, sz18, sz19, sz20, Nat.reduceLT, Nat.reduceLeDiff, isObjD, fParO1, fParO2, fPar3O3, fAugO, fEqO, fFld, fMk, fMkN, fCallN, List.drop_zero, List.drop_succ_cons, Int.reduceToNat, Int.reducePow, Int.reduceNeg, Int.reduceLE, Int.reduceLT, Int.cast_ofNat_Int, F__law_take, fgt, List.tail_cons, List.headD_cons, at0, at1, at2, at3, at4, Int.zero_add, Int.not_lt, Int.not_le, Nat.not_lt, Nat.not_le, ite_not, fYes, fIsi, oCatL, oCatT, fRep, uNeg, bLenS, bLen, bAbs, bMin, bMax, bDivmod, bAll, bAny, bSum, bInt, bBool, bList, bTuple, one, two, iL, iT, iS, iR1, iR2, iR3, iE, iZ, fBreak, fCont, fNever, fnM, fRetO, fRetW, fCallW, fCallNW, fCBN, nList, nSortI, nSortS, fOpN, nCat, fSlN, fRev, fPopAt, fPop, fInsert, fExtend, fReverse, fIsiLT, bMax3, F__law_same, fParOO, fnX, fCallX, fCallNX, fRaise, fTryK, fIsX, fWhat, excF, excD, tabL, fldD, noX, oIsT, isBool, fCallV, funF, tabF, fSortLam, fSumO, fnD, iA, fRevS, fRevT, oNumD, numD_int, numD_bool, bStrV, strD, iZM, oIsntT, fCallT, fCallXW, nSortP, fnXM, fSetSl, fBorT, fBorE, frz, plainD,
  List.getElem?_cons_zero, List.getElem?_cons_succ, List.getElem?_nil, List.cons_append, List.nil_append, List.append_nil, List.set_cons_zero, List.set_cons_succ, List.map_cons, List.map_nil, List.length_cons, List.length_nil, List.nodup_nil, List.nodup_cons, List.not_mem_nil, not_false_eq_true, and_self, and_true, true_and, List.replicate_succ, List.replicate_zero, List.take_succ_cons, List.take_zero, Nat.reduceSub, Nat.reduceAdd, Nat.zero_add, decide_eq_true_eq, Bool.not_eq_true', decide_eq_false_iff_not, if_true, if_false, Bool.not_true, Bool.not_false, Bool.false_eq_true, reduceIte, id, not_true_eq_false, reduceCtorEq, fFor, fLc, fWhile, wipeF, kit_none_int, kit_none_bool, kit_none_str, kit_none_list, kit_none_tuple, kit_bool_int, kit_bool_bool, kit_bool_str, kit_bool_list, kit_bool_tuple, kit_int_int, kit_int_bool, kit_int_str, kit_int_list, kit_int_tuple, kit_str_int, kit_str_bool, kit_str_str, kit_str_list, kit_str_tuple, kit_list_int, kit_list_bool, kit_list_str, kit_list_list, kit_list_tuple, kit_tuple_int, kit_tuple_bool, kit_tuple_str, kit_tuple_list, kit_tuple_tuple, Option.some.injEq, exists_eq_left', exists_eq_left, List.all_cons, List.all_nil, Bool.and_true, Bool.and_self, List.cons.injEq, Nat.reduceMul , sM, fTupRng, bTupS, fLcV, fNeX, fPopAtH, gU, fForV, fEqH, fCatH, fEqN, slotL, stF, fnS, fnMS, fnXS, fnXMS, fnU, fnUS, fCallS, fCallWS, fCallXS, fCallTS, fCallNS, fCallNXS, fCallU, fOwnV, fAugR, fPar3O2, fRetV, fRetO, fMeth, fMethW, fMethS, fMethWS, fMkZ, fMkNZ, fMkS, fMkNS, fNewL, fFldU, fSetF, fAugF, fBorT, fBorE, noSt, frz, oShlW, nSortSet, fIfN, putD, nSortSetT, fUnT, unT, fUnD, fEqOU, fTupN, fCntT, fIdxT, tnF, tnD, gSubH, fAugH, fAppH, fIxH, fNo, iEM, fDNew, fDGet, fDIn, fDPut, fDAug, fDGet1, fDGet2, fDLen, keyF, fLenRng, fLenX, fCallZ, gOr, fLstRng, fLckLc, iKs, keyD, fMethN, fMethNS, List.drop_nil, List.tail_cons, List.drop_succ_cons, List.drop_zero, List.headD_cons, immD, immAll, fLenSet, oInX, nSortSetJ, fDisp1, fListD, fDictP, fLckIt, fExtD, fForE, fForL, fRevH, fLenH, fixD, fMethZ, fForZH, fForT, fInsH, fDGetD, fDispN, fPairs, sN, tnF, fCallR, fCallRW, fMethR, fMethRW, fCallRX, fCallRXW, fMethX, fMethXS, fMethRX, oRepT, iZT, fStrX, fStrR, fBoolX, fBoolR, fLenR, fEqX, fEqR, fIsiO, fIsiR, fmtF, fFmt, fJs, fJoin, fLcH, fMethNXS, fRetIf, fNewV, fCallUR, fSortDL, fTry1, fIdxH, dicF, DctU, fGet, fIn, fGet1, fGet2, fSortI, fValsL, oLtT, fSetd, fOrT, fKIn, strK, fKGet, fKGet2, tabN, fCallV0, fCallV0S, gSubD, fPopH, fRemO, oLtM, bSumT, iZS, fRemH, fEqE, fForD, fCallNR, fCallNRW, nSortD, fSortKS, iES, pairD_eq])

local macro_rules | `(tactic| walk_at "w") => `(tactic| try walk_at "f")
/-! ### how a law begins, over data -/
theorem one_or (p : Prop) [Decidable p] : (if p then (1 : Int) else 0) = 0 ∨ (if p then (1 : Int) else 0) = 1 := by
  by_cases h : p
  · exact .inr (if_pos h)
  · exact .inl (if_neg h)
theorem f_box {ns : List Int} {k : Nat} (hk : k < 1000) {P : List PyData → List Sl → Prop} (h : ∀ ds sl, BoxD ds 0 → P ds sl) : F__law_box [.fz (.list (ns.map .int)), .fz (.int k)] P := by
  have fin : ∀ c : Int, F__law_box_1 { nx := fun _ => False, rt := fun _ _ => False, ro := fun ds ρ' => P ds (ρ'.take 2) } [.fz (.list (ns.map .int)), .fz (.int k), .fz (.int c)] := by
    intro c
    unfold F__law_box_1
    walk_at "f"
    refine ⟨⟨by decide, by decide, by decide⟩, ?_⟩
    have hz : ∀ z : Int, (z = 0 ∨ z = 1) → (CMul (if c < 0 then -c else c) z) ∧ 0 ≤ (if c < 0 then -c else c) * z := by
      intro z hz
      refine ⟨.inr (by rcases hz with rfl | rfl <;> decide), ?_⟩
      rcases hz with rfl | rfl
      · rw [Int.mul_zero]; exact Int.le_refl _
      · rw [Int.mul_one]; split <;> omega
    have hz' := hz (if 1000000000000000000 ≤ (if c < 0 then -c else c) then 1 else 0) (one_or _)
    have m0 : 0 ≤ c % 2147483629 := Int.emod_nonneg _ (by decide)
    have m1 : c % 2147483629 < 2147483629 := Int.emod_lt_of_pos _ (by decide)
    exact ⟨hz'.1, .inl ⟨by decide, by decide⟩, .inr ⟨by decide, by decide⟩, h _ _ ⟨_, _, _, rfl, hz'.2, Int.emod_nonneg _ (by decide), Int.emod_lt_of_pos _ (by decide), by decide, by decide⟩⟩
  unfold F__law_box
  walk_at "f"
  rw [List.length_map]
  by_cases hl : (k : Int) < ns.length
  · rw [if_pos hl]
    have hkn : k < ns.length := by omega
    refine ⟨.int ns[k], by rw [atI_map, atI_nat' (List.getElem?_eq_getElem hkn)]; rfl, ?_⟩
    exact fin _
  · rw [if_neg hl]
    exact fin _
theorem cutD_map (ns : List Int) (lo hi : Option Int) : cutD (ns.map PyData.int) lo hi = (((ns.drop (HT.sIx ns.length 0 lo)).take (HT.sIx ns.length ns.length hi - HT.sIx ns.length 0 lo))).map PyData.int := by
  unfold cutD
  rw [List.length_map, ← List.map_drop, ← List.map_take]
theorem enumD_map (ns : List Int) : enumD (ns.map PyData.int) = ns.zipIdx.map fun z => .tuple [.int (z.2 : Nat), .int z.1] := by
  unfold enumD
  rw [List.zipIdx_map, List.map_map]
  rfl
theorem f_folded {ns : List Int} {m : Nat} (hm0 : 0 < m) (hm : m ≤ 63) (hn : ns.length ≤ 63) {P : PyData → List Sl → Prop} (h : ∀ ms : List Int, ms.length ≤ m → ∀ sl, P (.list (ms.map .int)) sl) : F__law_folded [.fz (.list (ns.map .int)), .fz (.int m)] P := by
  have hm3 : ((m : Int) % 4611686018427387904) = m := Int.emod_eq_of_lt (by omega) (by omega)
  unfold F__law_folded
  walk_at "f"
  rw [cutD_take, cutD_map, enumD_map]
  generalize hz : (List.take (HT.sIx ns.length ns.length (some 63) - HT.sIx ns.length 0 (some ↑m)) (List.drop (HT.sIx ns.length 0 (some ↑m)) ns)) = zs
  have lz : zs.length ≤ ns.length - m := by
    rw [← hz, List.length_take, List.length_drop, HT.sIx_nat]
    omega
  refine for_map zs.zipIdx (fun z => .tuple [.int (z.2 : Nat), .int z.1]) (fun _ ρ => ∃ ms : List Int, ms.length = min m ns.length ∧ ρ = [.fz (.list (ns.map .int)), .fz (.int m), .own (ms.map .int), .no, .no]) rfl ⟨ns.take m, List.length_take, rfl⟩ ?_ ?_
  · rintro i z ρ hi hl ⟨ms, lm, rfl⟩
    rw [List.length_zipIdx] at hl
    have ez : z.2 = i := by
      rw [List.getElem?_zipIdx] at hi
      cases hq : zs[i]? with
      | none => rw [hq] at hi; cases hi
      | some q => rw [hq] at hi; cases hi; simp
    have hlen : ms.length = m := by omega
    have hk : i % m < ms.length := by rw [hlen]; exact Nat.mod_lt _ hm0
    have ek : ((z.2 : Int) % (m : Int)) = ((i % m : Nat) : Int) := by rw [ez]; omega
    unfold F__law_folded_2
    walk_at "f"
    refine ⟨by omega, .int ms[i % m], by rw [ek, atI_map, atI_nat' (List.getElem?_eq_getElem hk)]; rfl, ?_⟩
    refine ⟨.inr ⟨by omega, by omega⟩, ?_⟩
    refine ⟨by omega, i % m, by rw [ek, List.length_map]; exact ixN_nat hk, ms.set (i % m) (ms[i % m] + z.1 * ((z.2 : Int) + 2)), by rw [List.length_set]; exact lm, ?_⟩
    rw [List.map_set]
  · rintro ρ ⟨ms, lm, rfl⟩
    unfold F__law_folded_1
    walk_at "f"
    exact h ms (by omega) _
theorem f_price {ds : List PyData} {n : Nat} (hb : BoxD ds n) (hn : n < 100000000) {P : PyData → List Sl → Prop} (h : ∀ r ds', 1 ≤ r → r ≤ 99999 → BoxD ds' (n + 5) → P (.int r) [.own ds']) : F__law_price [.own ds] P := by
  unfold F__law_price
  walk_at "f"
  refine take_step hb (by decide) (by decide) (by omega) fun r1 d1 _ _ b1 => ?_
  refine take_step b1 (by decide) (by decide) (by omega) fun r2 d2 _ _ b2 => ?_
  refine take_step b2 (by decide) (by decide) (by omega) fun r3 d3 _ _ b3 => ⟨.inl ⟨by decide, by decide⟩, ?_⟩
  refine take_step b3 (by decide) (by decide) (by omega) fun r4 d4 _ _ b4 => ?_
  refine take_step b4 (by decide) (by decide) (by omega) fun r5 d5 a5 c5 b5 => ?_
  obtain ⟨v, e, m⟩ := at_mem (xs := [PyData.int (1 + r1), PyData.int (1 + r2), PyData.int (100 * (1 + r3)), PyData.int (1 + r4)]) a5 c5
  obtain ⟨a, rfl, a0, a1⟩ : ∃ a, v = .int a ∧ 1 ≤ a ∧ a ≤ 99999 := by
    simp only [List.mem_cons, List.not_mem_nil, or_false] at m
    rcases m with rfl | rfl | rfl | rfl <;> exact ⟨_, rfl, by omega, by omega⟩
  exact ⟨_, e, h a d5 a0 a1 b5⟩
/-! names drawn -/
theorem abc_sign {d : Int} (h0 : 0 ≤ d) (h1 : d < 26) : ∃ c, atI (Str.ofString "abcdefghijklmnopqrstuvwxyz").cps.toList d = some c ∧ 97 ≤ c ∧ c ≤ 122 := by
  obtain ⟨k, rfl⟩ := Int.eq_ofNat_of_zero_le h0
  exact ⟨97 + k, abc_at (by omega), by omega, by omega⟩
/-! ### rules and tags over data -/
/-! ### whether any thing is a deed, over data -/
theorem f_wholeA {B : Nat} {d : PyData} {lo hi : Int} (h : okD B d = true) {P : PyData → List Sl → Prop} (q : ∀ sl, P (.bool (wholeD d lo hi)) sl) : F_is_whole [.fz d, .fz (.int lo), .fz (.int hi)] P := by
  unfold F_is_whole
  cases d with
  | dict _ => cases h
  | int i =>
    walk_at "w"
    have q : ∀ sl, P (.bool (decide (lo ≤ i) && decide (i ≤ hi))) sl := q
    by_cases c : lo ≤ i
    · rw [decide_eq_true c, Bool.true_and] at q
      rw [if_pos c]
      exact q _
    · rw [decide_eq_false c, Bool.false_and] at q
      rw [if_neg c]
      exact q _
  | bool b =>
    walk_at "w"
    exact q _
  | none => walk_at "w"; exact q _
  | str _ => walk_at "w"; exact q _
  | list _ => walk_at "w"; exact q _
  | tuple _ => walk_at "w"; exact q _
theorem f_pairA {B : Nat} {d : PyData} (h : okD B d = true) {P : PyData → List Sl → Prop} (q : ∀ sl, P (.bool (toPair d).isSome) sl) : F_is_rule_pair [.fz d] P := by
  unfold F_is_rule_pair
  cases d with
  | dict _ => cases h
  | tuple ds =>
    match ds, h, q with
    | [], h, q => walk_at "w"; exact q _
    | [a], h, q => walk_at "w"; exact q _
    | [a, b], h, q =>
      have h' : (okD B a && (okD B b && true)) = true := h
      rw [Bool.and_true, Bool.and_eq_true] at h'
      walk_at "w"
      unfold F_is_rule_pair_1
      walk_at "w"
      refine f_wholeA h'.1 fun _ => ?_
      walk_at "w"
      have e : (toPair (.tuple [a, b])).isSome = (wholeD a 1 999 && wholeD b 1 99) := by
        cases a <;> cases b <;> simp [toPair, wholeD]
        split <;> simp_all
      rw [e] at q
      cases hw : wholeD a 1 999 with
      | false =>
        rw [hw, Bool.false_and] at q
        exact q _
      | true =>
        rw [hw, Bool.true_and] at q
        exact f_wholeA h'.2 fun _ => q _
    | a :: b :: c :: r, h, q =>
      walk_at "w"
      rw [if_neg (by omega)]
      exact q _
  | int _ => walk_at "w"; exact q _
  | bool _ => walk_at "w"; exact q _
  | none => walk_at "w"; exact q _
  | str _ => walk_at "w"; exact q _
  | list _ => walk_at "w"; exact q _
theorem f_ruleA {B : Nat} {d : PyData} (h : okD B d = true) (hl : nodes d ≤ 1000000) {P : PyData → List Sl → Prop} (q : ∀ sl, P (.bool (isRuleB d)) sl) : F_is_rule [.fz d] P := by
  have lin : sizeLine = 16777216 := by decide +kernel
  unfold F_is_rule
  cases d with
  | dict _ => cases h
  | tuple ds =>
    have hl' : nodesAll ds + 1 ≤ 1000000 := hl
    have ln := len_nodes ds
    have hd := okAll_iff.mp (show okAll B ds = true from h)
    walk_at "w"
    have e0 : isRuleB (.tuple ds) = (decide (ds.length ≤ 6) && (match pairsOf ds with | some r => fallsB r | none => false)) := rfl
    rw [e0] at q
    by_cases c1 : 6 < ds.length
    · rw [decide_eq_false (by omega), Bool.false_and] at q
      rw [if_pos (by omega)]
      exact q _
    rw [decide_eq_true (by omega), Bool.true_and] at q
    rw [if_neg (by omega)]
    refine lc_map ds id (fun d => some (.bool (toPair d).isSome)) (by simp) rfl (by omega) (fun d R acc hm hacc hR => ?_) ?_
    · unfold F_is_rule_3
      walk_at "w"
      exact f_pairA (hd d hm) fun _ => ⟨hacc, hR⟩
    rw [filterMap_some, show (ds.map fun d => PyData.bool (toPair d).isSome) = (ds.map fun d => (toPair d).isSome).map PyData.bool from by rw [List.map_map]; rfl]
    refine boolsF_map ?_
    rw [pairsOf_all]
    cases hp : pairsOf ds with
    | none =>
      rw [hp] at q
      exact q _
    | some r =>
      rw [hp] at q
      have er := pairsOf_some hp
      subst er
      rw [List.length_map] at ln c1
      refine ite2 (fun z => by cases z) fun _ => ?_
      unfold F_is_rule_2
      walk_at "w"
      rw [cutD_tail, zipD_pairs]
      refine lc_map (r.zip r.tail) (fun z => .tuple [pairD z.1, pairD z.2]) (fun z => some (.bool (decide (z.1.1 < z.2.1) && decide (z.2.2 < z.1.2)))) rfl rfl (by rw [List.length_zip]; omega) (fun z R acc hm hacc hR => ?_) ?_
      · unfold F_is_rule_1 pairD
        walk_at "w"
        by_cases c : z.1.1 < z.2.1
        · rw [if_pos c]
          rw [decide_eq_true c, Bool.true_and] at hR
          exact ⟨hacc, hR⟩
        · rw [if_neg c]
          rw [decide_eq_false c, Bool.false_and] at hR
          exact ⟨hacc, hR⟩
      rw [filterMap_some, show ((r.zip r.tail).map fun z => PyData.bool (decide (z.1.1 < z.2.1) && decide (z.2.2 < z.1.2))) = ((r.zip r.tail).map fun z => decide (z.1.1 < z.2.1) && decide (z.2.2 < z.1.2)).map PyData.bool from by rw [List.map_map]; rfl]
      refine boolsF_map ?_
      rw [List.all_map]
      exact q _
  | int _ => walk_at "w"; exact q _
  | bool _ => walk_at "w"; exact q _
  | none => walk_at "w"; exact q _
  | str _ => walk_at "w"; exact q _
  | list _ => walk_at "w"; exact q _
theorem f_nameA {B : Nat} {d : PyData} (h : okD B d = true) {P : PyData → List Sl → Prop} (q : ∀ sl, P (.bool (nameD d)) sl) : F_is_name [.fz d] P := by
  have lin : sizeLine = 16777216 := by decide +kernel
  unfold F_is_name
  cases d with
  | dict _ => cases h
  | str s =>
    have ln : s.length = (tl s).length := Array.length_toList.symm
    have hs : (decide (s.length ≤ 25) && s.cps.all (· < 0x110000)) = true := h
    rw [Bool.and_eq_true, decide_eq_true_eq] at hs
    have e0 : nameD (.str s) = (decide (1 ≤ s.length) && (decide (s.length ≤ 8) && (tl s).all fun c => decide (97 ≤ c ∧ c ≤ 122))) := rfl
    rw [e0] at q
    walk_at "w"
    refine ⟨by omega, ?_⟩
    by_cases c1 : 1 ≤ s.length
    · rw [decide_eq_true c1, Bool.true_and] at q
      by_cases c2 : s.length ≤ 8
      · rw [decide_eq_true c2, Bool.true_and] at q
        refine if1 (by omega) (if0 (by omega) ?_)
        unfold F_is_name_2
        walk_at "w"
        refine lc_map (tl s) (fun c => .str ⟨#[c]⟩) (fun c => some (.bool (decide (97 ≤ c ∧ c ≤ 122)))) rfl rfl (by omega) (fun c R acc hc hacc hR => ?_) ?_
        · unfold F_is_name_1
          walk_at "w"
          refine ⟨c, rfl, ?_⟩
          rw [show (Str.ofString "abcdefghijklmnopqrstuvwxyz").cps.toList = tl (Str.ofString "abcdefghijklmnopqrstuvwxyz") from rfl, small_mem]
          exact ⟨hacc, hR⟩
        · rw [filterMap_some, show ((tl s).map fun c => PyData.bool (decide (97 ≤ c ∧ c ≤ 122))) = ((tl s).map fun c => decide (97 ≤ c ∧ c ≤ 122)).map PyData.bool from by rw [List.map_map]; rfl]
          refine boolsF_map ?_
          rw [List.all_map]
          exact q _
      · rw [decide_eq_false c2, Bool.false_and] at q
        refine if1 (by omega) (if1 (by omega) ?_)
        exact q _
    · rw [decide_eq_false c1, Bool.false_and] at q
      refine if0 (by omega) ?_
      exact q _
  | int _ => walk_at "w"; exact q _
  | bool _ => walk_at "w"; exact q _
  | none => walk_at "w"; exact q _
  | tuple _ => walk_at "w"; exact q _
  | list _ => walk_at "w"; exact q _
/-- things that can be compared -/
def CmpD (ds : List PyData) : Prop := (∀ d ∈ ds, ∃ i, d = .int i) ∨ (∀ d ∈ ds, ∃ s, d = .str s)
theorem cmp_zip {ds : List PyData} (h : CmpD ds) : ∀ z ∈ ds.zip ds.tail, (∃ i j, z = (.int i, .int j)) ∨ (∃ s t, z = (.str s, .str t)) := by
  rintro ⟨a, b⟩ hz
  obtain ⟨h1, h2⟩ := List.of_mem_zip hz
  have h2 := List.mem_of_mem_tail h2
  rcases h with h | h
  · obtain ⟨i, rfl⟩ := h a h1
    obtain ⟨j, rfl⟩ := h b h2
    exact .inl ⟨i, j, rfl⟩
  · obtain ⟨i, rfl⟩ := h a h1
    obtain ⟨j, rfl⟩ := h b h2
    exact .inr ⟨i, j, rfl⟩
theorem cut_tail (ds : List PyData) : cutD ds (some 1) none = ds.tail := by
  have h := cutD_tail ds (id : PyData → PyData)
  simpa using h
theorem zipD_all (ds es : List PyData) : zipD ds es = (ds.zip es).map fun z => .tuple [z.1, z.2] := rfl
theorem f_risingA {ds : List PyData} (h : CmpD ds) (hl : ds.length ≤ 1000000) {P : PyData → List Sl → Prop} (q : ∀ sl, P (.bool (riseD ds)) sl) : F_are_rising [.fz (.tuple ds)] P := by
  have lin : sizeLine = 16777216 := by decide +kernel
  unfold F_are_rising
  walk_at "w"
  rw [cut_tail, zipD_all]
  refine lc_map (ds.zip ds.tail) (fun z => .tuple [z.1, z.2]) (fun z => some (.bool (lsD z.1 z.2))) rfl rfl (by rw [List.length_zip]; omega) (fun z R acc hz hacc hR => ?_) ?_
  · unfold F_are_rising_1
    walk_at "w"
    rcases cmp_zip h z hz with ⟨i, j, rfl⟩ | ⟨s, t, rfl⟩
    · walk_at "w"
      exact ⟨hacc, hR⟩
    · walk_at "w"
      exact ⟨hacc, hR⟩
  · rw [filterMap_some, show ((ds.zip ds.tail).map fun z => PyData.bool (lsD z.1 z.2)) = ((ds.zip ds.tail).map fun z => lsD z.1 z.2).map PyData.bool from by rw [List.map_map]; rfl]
    refine boolsF_map ?_
    rw [List.all_map]
    exact q _
theorem f_lriseA {ds : List PyData} {l : Bool} (h : CmpD ds) (hl : ds.length ≤ 1000000) {P : PyData → List Sl → Prop} (q : ∀ sl, P (.bool (riseD ds)) sl) : F__law_rise [.fz (if l = true then .list ds else .tuple ds)] P := by
  have lin : sizeLine = 16777216 := by decide +kernel
  unfold F__law_rise
  cases l with
  | true =>
    rw [if_pos rfl]
    walk_at "w"
    rw [cut_tail, zipD_all]
    refine lc_map (ds.zip ds.tail) (fun z => .tuple [z.1, z.2]) (fun z => some (.bool (lsD z.1 z.2))) rfl rfl (by rw [List.length_zip]; omega) (fun z R acc hz hacc hR => ?_) ?_
    · unfold F__law_rise_1
      walk_at "w"
      rcases cmp_zip h z hz with ⟨i, j, rfl⟩ | ⟨s, t, rfl⟩
      · walk_at "w"
        exact ⟨hacc, hR⟩
      · walk_at "w"
        exact ⟨hacc, hR⟩
    · rw [filterMap_some, show ((ds.zip ds.tail).map fun z => PyData.bool (lsD z.1 z.2)) = ((ds.zip ds.tail).map fun z => lsD z.1 z.2).map PyData.bool from by rw [List.map_map]; rfl]
      refine boolsF_map ?_
      rw [List.all_map]
      exact q _
  | false =>
    rw [if_neg Bool.false_ne_true]
    walk_at "w"
    rw [cut_tail, zipD_all]
    refine lc_map (ds.zip ds.tail) (fun z => .tuple [z.1, z.2]) (fun z => some (.bool (lsD z.1 z.2))) rfl rfl (by rw [List.length_zip]; omega) (fun z R acc hz hacc hR => ?_) ?_
    · unfold F__law_rise_1
      walk_at "w"
      rcases cmp_zip h z hz with ⟨i, j, rfl⟩ | ⟨s, t, rfl⟩
      · walk_at "w"
        exact ⟨hacc, hR⟩
      · walk_at "w"
        exact ⟨hacc, hR⟩
    · rw [filterMap_some, show ((ds.zip ds.tail).map fun z => PyData.bool (lsD z.1 z.2)) = ((ds.zip ds.tail).map fun z => lsD z.1 z.2).map PyData.bool from by rw [List.map_map]; rfl]
      refine boolsF_map ?_
      rw [List.all_map]
      exact q _
theorem names_cmp {ds : List PyData} (h : ds.all nameD = true) : CmpD ds := .inr fun d hd => by
  have := List.all_eq_true.mp h d hd
  cases d with
  | str s => exact ⟨s, rfl⟩
  | _ => cases this
theorem wholes_cmp {ds : List PyData} {lo hi : Int} (h : (ds.all fun d => wholeD d lo hi) = true) : CmpD ds := .inl fun d hd => by
  obtain ⟨i, e, _⟩ := whole_int (List.all_eq_true.mp h d hd)
  exact ⟨i, e⟩
theorem f_wordsA {B : Nat} {d : PyData} (h : okD B d = true) (hl : nodes d ≤ 1000000) {P : PyData → List Sl → Prop} (q : ∀ sl, P (.bool (wordsB d)) sl) : F_are_words [.fz d] P := by
  have lin : sizeLine = 16777216 := by decide +kernel
  unfold F_are_words
  cases d with
  | dict _ => cases h
  | tuple ds =>
    have hl' : nodesAll ds + 1 ≤ 1000000 := hl
    have ln := len_nodes ds
    have hd := okAll_iff.mp (show okAll B ds = true from h)
    have e0 : wordsB (.tuple ds) = (decide (ds.length ≤ 6) && (ds.all nameD && riseD ds)) := rfl
    rw [e0] at q
    walk_at "w"
    by_cases c1 : ds.length ≤ 6
    · rw [decide_eq_true c1, Bool.true_and] at q
      refine if0 (by omega) ?_
      refine lc_map ds id (fun d => some (.bool (nameD d))) (by simp) rfl (by omega) (fun d R acc hm hacc hR => ?_) ?_
      · unfold F_are_words_2
        walk_at "w"
        exact f_nameA (hd d hm) fun _ => ⟨hacc, hR⟩
      rw [filterMap_some, show (ds.map fun d => PyData.bool (nameD d)) = (ds.map fun d => nameD d).map PyData.bool from by rw [List.map_map]; rfl]
      refine boolsF_map ?_
      rw [show (ds.map fun d => nameD d).all id = ds.all nameD from by rw [List.all_map]; rfl]
      cases c2 : ds.all nameD with
      | true =>
        rw [c2, Bool.true_and] at q
        walk_at "w"
        unfold F_are_words_1
        walk_at "w"
        exact f_risingA (names_cmp c2) (by omega) fun _ => q _
      | false =>
        rw [c2, Bool.false_and] at q
        walk_at "w"
        exact q _
    · rw [decide_eq_false c1, Bool.false_and] at q
      refine if1 (by omega) ?_
      exact q _
  | int _ => walk_at "w"; exact q _
  | bool _ => walk_at "w"; exact q _
  | none => walk_at "w"; exact q _
  | str _ => walk_at "w"; exact q _
  | list _ => walk_at "w"; exact q _
theorem f_numberA {B : Nat} {d : PyData} (h : okD B d = true) {P : PyData → List Sl → Prop} (q : ∀ sl, P (.bool (wholeD d 1 9999)) sl) : F_is_number [.fz d] P := by
  unfold F_is_number
  walk_at "w"
  exact f_wholeA h fun _ => q _
theorem f_amountA {B : Nat} {d : PyData} (h : okD B d = true) {P : PyData → List Sl → Prop} (q : ∀ sl, P (.bool (wholeD d 0 9999999)) sl) : F_is_amount [.fz d] P := by
  unfold F_is_amount
  walk_at "w"
  exact f_wholeA h fun _ => q _
theorem f_numsA {B : Nat} {d : PyData} (h : okD B d = true) (hl : nodes d ≤ 1000000) {P : PyData → List Sl → Prop} (q : ∀ sl, P (.bool (numsB d)) sl) : F_are_numbers [.fz d] P := by
  have lin : sizeLine = 16777216 := by decide +kernel
  unfold F_are_numbers
  cases d with
  | dict _ => cases h
  | tuple ds =>
    have hl' : nodesAll ds + 1 ≤ 1000000 := hl
    have ln := len_nodes ds
    have hd := okAll_iff.mp (show okAll B ds = true from h)
    have e0 : numsB (.tuple ds) = ((decide (2 ≤ ds.length) && decide (ds.length ≤ 12)) && ((ds.all fun d => wholeD d 1 9999) && riseD ds)) := rfl
    rw [e0] at q
    walk_at "w"
    by_cases c0 : 2 ≤ ds.length
    · rw [decide_eq_true c0, Bool.true_and] at q
      by_cases c1 : ds.length ≤ 12
      · rw [decide_eq_true c1, Bool.true_and] at q
        refine if1 (by omega) (if0 (by omega) ?_)
        unfold F_are_numbers_2
        walk_at "w"
        refine lc_map ds id (fun d => some (.bool (wholeD d 1 9999))) (by simp) rfl (by omega) (fun d R acc hm hacc hR => ?_) ?_
        · unfold F_are_numbers_1
          walk_at "w"
          exact f_numberA (hd d hm) fun _ => ⟨hacc, hR⟩
        rw [filterMap_some, show (ds.map fun d => PyData.bool (wholeD d 1 9999)) = (ds.map fun d => wholeD d 1 9999).map PyData.bool from by rw [List.map_map]; rfl]
        refine boolsF_map ?_
        rw [show (ds.map fun d => wholeD d 1 9999).all id = ds.all (fun d => wholeD d 1 9999) from by rw [List.all_map]; rfl]
        cases c2 : ds.all (fun d => wholeD d 1 9999) with
        | true =>
          rw [c2, Bool.true_and] at q
          walk_at "w"
          exact f_risingA (wholes_cmp c2) (by omega) fun _ => q _
        | false =>
          rw [c2, Bool.false_and] at q
          walk_at "w"
          exact q _
      · rw [decide_eq_false c1, Bool.false_and] at q
        refine if1 (by omega) (if1 (by omega) ?_)
        exact q _
    · rw [decide_eq_false c0, Bool.false_and, Bool.false_and] at q
      refine if0 (by omega) ?_
      exact q _
  | int _ => walk_at "w"; exact q _
  | bool _ => walk_at "w"; exact q _
  | none => walk_at "w"; exact q _
  | str _ => walk_at "w"; exact q _
  | list _ => walk_at "w"; exact q _
theorem f_giveA {B : Nat} {w o n p l ws : PyData} (h1 : okD B o = true) (h2 : okD B n = true) (h3 : okD B p = true) (h4 : okD B l = true) (h5 : okD B ws = true) (hl : nodes ws ≤ 1000000) {P : PyData → List Sl → Prop} (q : ∀ sl, P (.bool (giveB [o, n, p, l, ws])) sl) : F_is_give [.fz (.tuple [w, o, n, p, l, ws])] P := by
  have e0 : giveB [o, n, p, l, ws] = (nameD o && (wholeD n 1 9999 && (wholeD p 1 99999 && (leastB l p && wordsB ws)))) := rfl
  rw [e0] at q
  unfold F_is_give
  walk_at "w"
  refine f_nameA h1 fun _ => ?_
  cases c1 : nameD o with
  | false =>
    rw [c1, Bool.false_and] at q
    walk_at "w"
    exact q _
  | true =>
    rw [c1, Bool.true_and] at q
    walk_at "w"
    refine f_numberA h2 fun _ => ?_
    cases c2 : wholeD n 1 9999 with
    | false =>
      rw [c2, Bool.false_and] at q
      walk_at "w"
      exact q _
    | true =>
      rw [c2, Bool.true_and] at q
      walk_at "w"
      refine f_wholeA h3 fun _ => ?_
      cases c3 : wholeD p 1 99999 with
      | false =>
        rw [c3, Bool.false_and] at q
        walk_at "w"
        exact q _
      | true =>
        rw [c3, Bool.true_and] at q
        obtain ⟨i, rfl, i0, i1⟩ := whole_int c3
        walk_at "w"
        unfold F_is_give_1
        walk_at "w"
        refine f_wholeA h4 fun _ => ?_
        have q : ∀ sl, P (.bool (wholeD l 0 i && wordsB ws)) sl := q
        cases c4 : wholeD l 0 i with
        | false =>
          rw [c4, Bool.false_and] at q
          walk_at "w"
          exact q _
        | true =>
          rw [c4, Bool.true_and] at q
          walk_at "w"
          exact f_wordsA h5 hl fun _ => q _
theorem f_thingA {B : Nat} {w x : PyData} (h : okD B x = true) {P : PyData → List Sl → Prop} (q : ∀ sl, P (.bool (wholeD x 1 9999)) sl) : F_is_of_thing [.fz (.tuple [w, x])] P := by
  unfold F_is_of_thing
  walk_at "w"
  exact f_numberA h fun _ => q _
theorem f_tellRuleA {B : Nat} {w x : PyData} (h : okD B x = true) (hl : nodes x ≤ 1000000) {P : PyData → List Sl → Prop} (q : ∀ sl, P (.bool (isRuleB x)) sl) : F_is_told_rule [.fz (.tuple [w, x])] P := by
  unfold F_is_told_rule
  walk_at "w"
  exact f_ruleA h hl fun _ => q _
theorem f_tellShareA {B : Nat} {w x : PyData} (h : okD B x = true) {P : PyData → List Sl → Prop} (q : ∀ sl, P (.bool (wholeD x 0 100)) sl) : F_is_told_share [.fz (.tuple [w, x])] P := by
  unfold F_is_told_share
  walk_at "w"
  exact f_wholeA h fun _ => q _
theorem f_sellA {B : Nat} {w n a : PyData} (h1 : okD B n = true) (h2 : okD B a = true) {P : PyData → List Sl → Prop} (q : ∀ sl, P (.bool (sellB [n, a])) sl) : F_is_sell [.fz (.tuple [w, n, a])] P := by
  have q : ∀ sl, P (.bool (wholeD n 1 9999 && (noneD a || wholeD a 0 9999999))) sl := q
  unfold F_is_sell
  walk_at "w"
  refine f_numberA h1 fun _ => ?_
  cases c1 : wholeD n 1 9999 with
  | false =>
    rw [c1, Bool.false_and] at q
    walk_at "w"
    exact q _
  | true =>
    rw [c1, Bool.true_and] at q
    have gen : noneD a = false → (∀ sl, P (.bool (wholeD a 0 9999999)) sl) := fun e sl => by
      have := q sl
      rw [e, Bool.false_or] at this
      exact this
    cases a with
    | none => walk_at "w"; exact q _
    | dict _ => cases h2
    | int i => walk_at "w"; exact f_amountA h2 fun _ => gen rfl _
    | bool i => walk_at "w"; exact f_amountA h2 fun _ => gen rfl _
    | str i => walk_at "w"; exact f_amountA h2 fun _ => gen rfl _
    | list i => walk_at "w"; exact f_amountA h2 fun _ => gen rfl _
    | tuple i => walk_at "w"; exact f_amountA h2 fun _ => gen rfl _
theorem f_heapA {B : Nat} {w n a : PyData} (h1 : okD B n = true) (hl : nodes n ≤ 1000000) (h2 : okD B a = true) {P : PyData → List Sl → Prop} (q : ∀ sl, P (.bool (heapB [n, a])) sl) : F_is_heap [.fz (.tuple [w, n, a])] P := by
  have q : ∀ sl, P (.bool (numsB n && wholeD a 0 9999999)) sl := q
  unfold F_is_heap
  walk_at "w"
  refine f_numsA h1 hl fun _ => ?_
  cases c1 : numsB n with
  | false =>
    rw [c1, Bool.false_and] at q
    walk_at "w"
    exact q _
  | true =>
    rw [c1, Bool.true_and] at q
    walk_at "w"
    exact f_amountA h2 fun _ => q _
theorem f_payA {B : Nat} {w n a : PyData} (h1 : okD B n = true) (h2 : okD B a = true) {P : PyData → List Sl → Prop} (q : ∀ sl, P (.bool (payB [n, a])) sl) : F_is_pay [.fz (.tuple [w, n, a])] P := by
  have q : ∀ sl, P (.bool (nameD n && wholeD a 1 9999999)) sl := q
  unfold F_is_pay
  walk_at "w"
  refine f_nameA h1 fun _ => ?_
  cases c1 : nameD n with
  | false =>
    rw [c1, Bool.false_and] at q
    walk_at "w"
    exact q _
  | true =>
    rw [c1, Bool.true_and] at q
    walk_at "w"
    exact f_wholeA h2 fun _ => q _
theorem tx_ne {s z : Str} (h : decide (s = z) = false) : ¬ s = z := of_decide_eq_false h
theorem f_deed2 {w : Str} {r : List PyData} {k : Nat} {P : PyData → List Sl → Prop} (h1 : (List.lookup w tb_DEED_SHAPES).isSome = true) (h2 : (List.lookup w tb_DEED_SIZES).getD (.int 2) = .int k) (bad : r.length + 1 ≠ k → ∀ sl, P (.bool false) sl)
    (good : r.length + 1 = k → F_is_deed_1 { nx := fun ρ' => P .none (List.take 1 ρ'), rt := fun d ρ' => P d (List.take 1 ρ') } [.fz (.tuple (.str w :: r)), .no]) :
    F_is_deed_2 { nx := fun ρ' => P .none (List.take 1 ρ'), rt := fun d ρ' => P d (List.take 1 ρ') } [.fz (.tuple (.str w :: r)), .no] := by
  unfold F_is_deed_2
  walk_at "w"
  refine if0 (by rw [h1]; decide) ?_
  rw [h2]
  show oNe (.int ((r.length + 1 : Nat) : Int)) (.int (k : Int)) _
  walk_at "w"
  by_cases c : r.length + 1 = k
  · exact if1 (by omega) (good c)
  · exact if0 (by omega) (bad c _)
theorem f_deed1 {B : Nat} {w : Str} {r : List PyData} {P : PyData → List Sl → Prop} (hw : w = Str.ofString "let" ∨ w = Str.ofString "back" ∨ w = Str.ofString "fetch" ∨ w = Str.ofString "lose" ∨ w = Str.ofString "find") (hr : ∀ d ∈ r, okD B d = true) (q : ∀ sl, P (.bool (thingB r)) sl) :
    F_is_deed_2 { nx := fun ρ' => P .none (List.take 1 ρ'), rt := fun d ρ' => P d (List.take 1 ρ') } [.fz (.tuple (.str w :: r)), .no] := by
  have bad : r.length + 1 ≠ 2 → ∀ sl, P (.bool false) sl := fun hb sl => by
    match r, hb, q with
    | [], _, q => exact q _
    | [_], hb, _ => exact absurd rfl hb
    | _ :: _ :: _, _, q => exact q _
  have main : ∀ z : Str, List.lookup z tb_DEED_SHAPES = some (fnD "is_of_thing") → (r.length + 1 = 2 → F_is_deed_1 { nx := fun ρ' => P .none (List.take 1 ρ'), rt := fun d ρ' => P d (List.take 1 ρ') } [.fz (.tuple (.str z :: r)), .no]) := by
    intro z hz hl
    unfold F_is_deed_1
    walk_at "w"
    refine ⟨_, hz, ?_⟩
    refine if0 (tx_ne (by decide +kernel)) (if0 (tx_ne (by decide +kernel)) (if1 rfl ?_))
    match r, hl, q, hr with
    | [x], _, q, hr => exact f_thingA (hr x List.mem_cons_self) fun _ => q _
  rcases hw with rfl | rfl | rfl | rfl | rfl
  all_goals exact f_deed2 (k := 2) (by decide +kernel) rfl bad (main _ rfl)
theorem f_is_deedA {B : Nat} {d : PyData} (h : okD B d = true) (hl : nodes d ≤ 1000000) {P : PyData → List Sl → Prop} (q : ∀ sl, P (.bool (isDeedB d)) sl) : F_is_deed [.fz d] P := by
  have lin : sizeLine = 16777216 := by decide +kernel
  unfold F_is_deed
  cases d with
  | dict _ => cases h
  | tuple ds =>
    have hl' : nodesAll ds + 1 ≤ 1000000 := hl
    have ln := len_nodes ds
    cases ds with
    | nil => walk_at "w"; exact q _
    | cons x r =>
      have h' : (okD B x && okAll B r) = true := h
      rw [Bool.and_eq_true] at h'
      have hr := okAll_iff.mp h'.2
      walk_at "w"
      refine if0 (by omega) ?_
      cases x with
      | dict _ => cases h'.1
      | str w =>
        have e0 : isDeedB (.tuple (.str w :: r)) = deedB w r := rfl
        rw [e0] at q
        walk_at "w"
        have nx : ∀ x ∈ r, nodes x ≤ 1000000 := fun x hx => by
          obtain ⟨l1, l2, rfl⟩ := List.append_of_mem hx
          have h1 : nodes (PyData.str w) + nodesAll (l1 ++ x :: l2) + 1 ≤ 1000000 := hl'
          rw [nodesAll_app] at h1
          have h2 : nodesAll (x :: l2) = nodes x + nodesAll l2 := rfl
          omega
        unfold deedB at q
        by_cases c1 : w = Str.ofString "give"
        · subst c1
          rw [if_pos rfl] at q
          refine f_deed2 (k := 6) (by decide +kernel) rfl (fun hb sl => ?_) fun hb => ?_
          · match r, hb, q with
            | [], _, q => exact q _
            | [_], _, q => exact q _
            | [_, _], _, q => exact q _
            | [_, _, _], _, q => exact q _
            | [_, _, _, _], _, q => exact q _
            | [_, _, _, _, _], hb, _ => exact absurd rfl hb
            | _ :: _ :: _ :: _ :: _ :: _ :: _, _, q => exact q _
          · unfold F_is_deed_1
            walk_at "w"
            refine ⟨_, rfl, if1 rfl ?_⟩
            match r, hb, q, hr, nx with
            | [a1, a2, a3, a4, a5], _, q, hr, nx => exact f_giveA (hr a1 (by simp)) (hr a2 (by simp)) (hr a3 (by simp)) (hr a4 (by simp)) (hr a5 (by simp)) (nx a5 (by simp)) fun _ => q _
        rw [if_neg c1] at q
        by_cases c2 : w = Str.ofString "heap"
        · subst c2
          rw [if_pos rfl] at q
          refine f_deed2 (k := 3) (by decide +kernel) rfl (fun hb sl => ?_) fun hb => ?_
          · match r, hb, q with
            | [], _, q => exact q _
            | [_], _, q => exact q _
            | [_, _], hb, _ => exact absurd rfl hb
            | _ :: _ :: _ :: _, _, q => exact q _
          · unfold F_is_deed_1
            walk_at "w"
            refine ⟨_, rfl, if0 (tx_ne (by decide +kernel)) (if1 rfl ?_)⟩
            match r, hb, q, hr, nx with
            | [a1, a2], _, q, hr, nx => exact f_heapA (hr a1 (by simp)) (nx a1 (by simp)) (hr a2 (by simp)) fun _ => q _
        rw [if_neg c2] at q
        by_cases c3 : w = Str.ofString "sell"
        · subst c3
          rw [if_pos rfl] at q
          refine f_deed2 (k := 3) (by decide +kernel) rfl (fun hb sl => ?_) fun hb => ?_
          · match r, hb, q with
            | [], _, q => exact q _
            | [_], _, q => exact q _
            | [_, _], hb, _ => exact absurd rfl hb
            | _ :: _ :: _ :: _, _, q => exact q _
          · unfold F_is_deed_1
            walk_at "w"
            refine ⟨_, rfl, if0 (tx_ne (by decide +kernel)) (if0 (tx_ne (by decide +kernel)) (if0 (tx_ne (by decide +kernel)) (if0 (tx_ne (by decide +kernel)) (if1 rfl ?_))))⟩
            match r, hb, q, hr, nx with
            | [a1, a2], _, q, hr, nx => exact f_sellA (hr a1 (by simp)) (hr a2 (by simp)) fun _ => q _
        rw [if_neg c3] at q
        by_cases c4 : w = Str.ofString "pay"
        · subst c4
          rw [if_pos rfl] at q
          refine f_deed2 (k := 3) (by decide +kernel) rfl (fun hb sl => ?_) fun hb => ?_
          · match r, hb, q with
            | [], _, q => exact q _
            | [_], _, q => exact q _
            | [_, _], hb, _ => exact absurd rfl hb
            | _ :: _ :: _ :: _, _, q => exact q _
          · unfold F_is_deed_1
            walk_at "w"
            refine ⟨_, rfl, if0 (tx_ne (by decide +kernel)) (if0 (tx_ne (by decide +kernel)) (if0 (tx_ne (by decide +kernel)) (if1 rfl ?_)))⟩
            match r, hb, q, hr, nx with
            | [a1, a2], _, q, hr, nx => exact f_payA (hr a1 (by simp)) (hr a2 (by simp)) fun _ => q _
        rw [if_neg c4] at q
        by_cases c5 : w = Str.ofString "rule"
        · subst c5
          rw [if_pos rfl] at q
          refine f_deed2 (k := 2) (by decide +kernel) rfl (fun hb sl => ?_) fun hb => ?_
          · match r, hb, q with
            | [], _, q => exact q _
            | [_], hb, _ => exact absurd rfl hb
            | _ :: _ :: _, _, q => exact q _
          · unfold F_is_deed_1
            walk_at "w"
            refine ⟨_, rfl, if0 (tx_ne (by decide +kernel)) (if0 (tx_ne (by decide +kernel)) (if0 (tx_ne (by decide +kernel)) (if0 (tx_ne (by decide +kernel)) (if0 (tx_ne (by decide +kernel)) (if1 rfl ?_)))))⟩
            match r, hb, q, hr, nx with
            | [a1], _, q, hr, nx => exact f_tellRuleA (hr a1 (by simp)) (nx a1 (by simp)) fun _ => q _
        rw [if_neg c5] at q
        by_cases c6 : w = Str.ofString "share"
        · subst c6
          rw [if_pos rfl] at q
          refine f_deed2 (k := 2) (by decide +kernel) rfl (fun hb sl => ?_) fun hb => ?_
          · match r, hb, q with
            | [], _, q => exact q _
            | [_], hb, _ => exact absurd rfl hb
            | _ :: _ :: _, _, q => exact q _
          · unfold F_is_deed_1
            walk_at "w"
            refine ⟨_, rfl, if0 (tx_ne (by decide +kernel)) (if0 (tx_ne (by decide +kernel)) (if0 (tx_ne (by decide +kernel)) (if0 (tx_ne (by decide +kernel)) (if0 (tx_ne (by decide +kernel)) (if0 (tx_ne (by decide +kernel)) (if1 rfl ?_))))))⟩
            match r, hb, q, hr, nx with
            | [a1], _, q, hr, nx => exact f_tellShareA (hr a1 (by simp)) fun _ => q _
        rw [if_neg c6] at q
        by_cases c7 : w ∈ thingWords
        · rw [if_pos c7] at q
          refine f_deed1 (B := B) ?_ hr q
          simpa [thingWords] using c7
        · rw [if_neg c7] at q
          have c8 : w ≠ Str.ofString "let" ∧ w ≠ Str.ofString "back" ∧ w ≠ Str.ofString "fetch" ∧ w ≠ Str.ofString "lose" ∧ w ≠ Str.ofString "find" := by simpa [thingWords] using c7
          obtain ⟨d1, d2, d3, d4, d5⟩ := c8
          have no : List.lookup w tb_DEED_SHAPES = none := by
            unfold tb_DEED_SHAPES
            simp only [List.lookup_cons, List.lookup_nil, beq_false_of_ne c1, beq_false_of_ne c2, beq_false_of_ne c3, beq_false_of_ne c4, beq_false_of_ne c5, beq_false_of_ne c6, beq_false_of_ne d1, beq_false_of_ne d2, beq_false_of_ne d3, beq_false_of_ne d4, beq_false_of_ne d5]
          unfold F_is_deed_2
          walk_at "w"
          refine if1 (by rw [no]; rfl) (q _)
      | int _ => walk_at "w"; exact q _
      | bool _ => walk_at "w"; exact q _
      | none => walk_at "w"; exact q _
      | tuple _ => walk_at "w"; exact q _
      | list _ => walk_at "w"; exact q _
  | int _ => walk_at "w"; exact q _
  | bool _ => walk_at "w"; exact q _
  | none => walk_at "w"; exact q _
  | str _ => walk_at "w"; exact q _
  | list _ => walk_at "w"; exact q _
/-! ### the law's own clauses -/
theorem fm_int {α : Type} (xs : List α) (h : α → Int) : xs.filterMap (fun x => some (PyData.int (h x))) = (xs.map h).map PyData.int := by
  rw [filterMap_some, List.map_map]
  rfl
theorem lwhole_eq : F__law_is_whole = F_is_whole := rfl
theorem f_lwholeA {B : Nat} {d : PyData} {lo hi : Int} (h : okD B d = true) {P : PyData → List Sl → Prop} (q : ∀ sl, P (.bool (wholeD d lo hi)) sl) : F__law_is_whole [.fz d, .fz (.int lo), .fz (.int hi)] P := by
  rw [lwhole_eq]
  exact f_wholeA h q
theorem f_lnameA {B : Nat} {d : PyData} (h : okD B d = true) {P : PyData → List Sl → Prop} (q : ∀ sl, P (.bool (nameD d)) sl) : F__law_is_name [.fz d] P := by
  have lin : sizeLine = 16777216 := by decide +kernel
  unfold F__law_is_name
  cases d with
  | dict _ => cases h
  | str s =>
    have ln : s.length = (tl s).length := Array.length_toList.symm
    have hs : (decide (s.length ≤ 25) && s.cps.all (· < 0x110000)) = true := h
    rw [Bool.and_eq_true, decide_eq_true_eq] at hs
    have e0 : nameD (.str s) = (decide (1 ≤ s.length) && (decide (s.length ≤ 8) && (tl s).all fun c => decide (97 ≤ c ∧ c ≤ 122))) := rfl
    rw [e0] at q
    walk_at "w"
    refine ⟨by omega, ?_⟩
    by_cases c1 : 1 ≤ s.length
    · rw [decide_eq_true c1, Bool.true_and] at q
      by_cases c2 : s.length ≤ 8
      · rw [decide_eq_true c2, Bool.true_and] at q
        refine if1 (by omega) (if0 (by omega) ?_)
        unfold F__law_is_name_2
        walk_at "w"
        refine lc_map (tl s) (fun c => .str ⟨#[c]⟩) (fun c => some (.bool (decide (97 ≤ c ∧ c ≤ 122)))) rfl rfl (by omega) (fun c R acc hc hacc hR => ?_) ?_
        · unfold F__law_is_name_1
          walk_at "w"
          refine ⟨c, rfl, ?_⟩
          rw [show (Str.ofString "abcdefghijklmnopqrstuvwxyz").cps.toList = tl (Str.ofString "abcdefghijklmnopqrstuvwxyz") from rfl, small_mem]
          exact ⟨hacc, hR⟩
        · rw [filterMap_some, show ((tl s).map fun c => PyData.bool (decide (97 ≤ c ∧ c ≤ 122))) = ((tl s).map fun c => decide (97 ≤ c ∧ c ≤ 122)).map PyData.bool from by rw [List.map_map]; rfl]
          refine boolsF_map ?_
          rw [List.all_map]
          exact q _
      · rw [decide_eq_false c2, Bool.false_and] at q
        refine if1 (by omega) (if1 (by omega) ?_)
        exact q _
    · rw [decide_eq_false c1, Bool.false_and] at q
      refine if0 (by omega) ?_
      exact q _
  | int _ => walk_at "w"; exact q _
  | bool _ => walk_at "w"; exact q _
  | none => walk_at "w"; exact q _
  | tuple _ => walk_at "w"; exact q _
  | list _ => walk_at "w"; exact q _
theorem riseD_ints (l : List Int) : riseD (l.map .int) = riseI l := by
  unfold riseD riseI
  rw [← List.map_tail, List.zip_map, List.all_map]
  rfl
theorem f_lrule5 {B : Nat} {d t : PyData} {E : FEnds} (h : okD B d = true) (yes : (toPair d).isSome = true → E.nx [.fz t, .fz d]) (no : (toPair d).isSome = false → E.rt (.bool false) [.fz t, .fz d]) : F__law_is_rule_5 E [.fz t, .fz d] := by
  unfold F__law_is_rule_5
  cases d with
  | dict _ => cases h
  | tuple ds =>
    match ds, h, yes, no with
    | [], h, yes, no => walk_at "w"; exact no rfl
    | [a], h, yes, no => walk_at "w"; exact no rfl
    | [a, b], h, yes, no =>
      have h' : (okD B a && (okD B b && true)) = true := h
      rw [Bool.and_true, Bool.and_eq_true] at h'
      have e : (toPair (.tuple [a, b])).isSome = (wholeD a 1 999 && wholeD b 1 99) := by
        cases a <;> cases b <;> simp [toPair, wholeD]
        split <;> simp_all
      rw [e] at yes no
      walk_at "w"
      unfold F__law_is_rule_4
      walk_at "w"
      refine f_lwholeA h'.1 fun _ => ?_
      cases hw : wholeD a 1 999 with
      | false =>
        walk_at "w"
        exact no (by rw [hw]; rfl)
      | true =>
        walk_at "w"
        refine f_lwholeA h'.2 fun _ => ?_
        cases hv : wholeD b 1 99 with
        | false =>
          walk_at "w"
          exact no (by rw [hw, hv]; rfl)
        | true =>
          walk_at "w"
          exact yes (by rw [hw, hv]; rfl)
    | a :: b :: c :: r, h, yes, no =>
      walk_at "w"
      refine if0 (by omega) ?_
      exact no rfl
  | int _ => walk_at "w"; exact no rfl
  | bool _ => walk_at "w"; exact no rfl
  | none => walk_at "w"; exact no rfl
  | str _ => walk_at "w"; exact no rfl
  | list _ => walk_at "w"; exact no rfl
theorem pairsOf_none : ∀ {ds : List PyData} {d : PyData}, d ∈ ds → (toPair d).isSome = false → pairsOf ds = none
  | [], _, h, _ => by cases h
  | x :: r, d, h, n => by
    unfold pairsOf
    rcases List.mem_cons.mp h with rfl | h
    · cases e : toPair d with
      | none => rfl
      | some p => rw [e] at n; cases n
    · rw [pairsOf_none h n]
      cases toPair x <;> rfl
theorem pairsOf_yes {ds : List PyData} (h : ∀ d ∈ ds, (toPair d).isSome = true) : ∃ r, pairsOf ds = some r := by
  have e := pairsOf_all ds
  rw [List.all_map] at e
  have : ds.all (id ∘ fun d => (toPair d).isSome) = true := List.all_eq_true.mpr fun d hd => h d hd
  rw [this] at e
  exact Option.isSome_iff_exists.mp e.symm
theorem f_lruleA {B : Nat} {d : PyData} (h : okD B d = true) (hl : nodes d ≤ 1000000) {P : PyData → List Sl → Prop} (q : ∀ sl, P (.bool (isRuleB d)) sl) : F__law_is_rule [.fz d] P := by
  have lin : sizeLine = 16777216 := by decide +kernel
  unfold F__law_is_rule
  cases d with
  | dict _ => cases h
  | tuple ds =>
    have hl' : nodesAll ds + 1 ≤ 1000000 := hl
    have ln := len_nodes ds
    have hd := okAll_iff.mp (show okAll B ds = true from h)
    have e0 : isRuleB (.tuple ds) = (decide (ds.length ≤ 6) && (match pairsOf ds with | some r => fallsB r | none => false)) := rfl
    rw [e0] at q
    walk_at "w"
    by_cases c1 : 6 < ds.length
    · rw [decide_eq_false (by omega), Bool.false_and] at q
      refine if1 (by omega) (q _)
    rw [decide_eq_true (by omega), Bool.true_and] at q
    refine if0 (by omega) ?_
    unfold F__law_is_rule_6
    walk_at "w"
    refine for_map ds id (fun i ρ => ρ = [.fz (.tuple ds), .no] ∧ ∀ d ∈ ds.take i, (toPair d).isSome = true) (by simp) ⟨rfl, by simp⟩ ?_ ?_
    · rintro i d ρ hx hi ⟨rfl, ha⟩
      have hm := List.mem_of_getElem? hx
      walk_at "w"
      refine f_lrule5 (hd d hm) (fun y => ?_) fun n => ?_
      · refine ⟨rfl, fun e he => ?_⟩
        rw [List.take_add_one, hx] at he
        rcases List.mem_append.mp he with he | he
        · exact ha e he
        · rw [List.mem_singleton.mp he]; exact y
      · rw [pairsOf_none hm n] at q
        exact q _
    · rintro ρ ⟨rfl, ha⟩
      rw [List.take_length] at ha
      obtain ⟨r, er⟩ := pairsOf_yes ha
      rw [er] at q
      have es := pairsOf_some er
      subst es
      rw [List.length_map] at ln c1
      have q : ∀ sl, P (.bool (fallsB r)) sl := q
      rw [falls_split] at q
      unfold F__law_is_rule_3
      walk_at "w"
      refine lc_map r pairD (fun p => some (.int p.1)) rfl rfl (by omega) (fun p R acc hm hacc hR => ?_) ?_
      · unfold F__law_is_rule_2 pairD
        walk_at "w"
        exact ⟨hacc, hR⟩
      rw [fm_int]
      refine f_lriseA (l := true) (.inl fun d hd => ?_) (by rw [List.length_map]; rw [List.length_map]; omega) fun _ => ?_
      · obtain ⟨i, _, rfl⟩ := List.mem_map.mp hd
        exact ⟨i, rfl⟩
      rw [riseD_ints]
      cases c2 : riseI (r.map (·.1)) with
      | false =>
        rw [c2, Bool.false_and] at q
        walk_at "w"
        exact q _
      | true =>
        rw [c2, Bool.true_and] at q
        walk_at "w"
        refine lc_map r.reverse pairD (fun p => some (.int p.2)) (by rw [List.map_reverse]) rfl (by rw [List.length_reverse]; omega) (fun p R acc hm hacc hR => ?_) ?_
        · unfold F__law_is_rule_1 pairD
          walk_at "w"
          exact ⟨hacc, hR⟩
        rw [fm_int]
        refine f_lriseA (l := true) (.inl fun d hd => ?_) (by rw [List.length_map, List.length_map, List.length_reverse]; omega) fun _ => ?_
        · obtain ⟨i, _, rfl⟩ := List.mem_map.mp hd
          exact ⟨i, rfl⟩
        rw [riseD_ints, List.map_reverse]
        exact q _
  | int _ => walk_at "w"; exact q _
  | bool _ => walk_at "w"; exact q _
  | none => walk_at "w"; exact q _
  | str _ => walk_at "w"; exact q _
  | list _ => walk_at "w"; exact q _
theorem f_lwords2 {B : Nat} {ds : List PyData} {E : FEnds} {a0 a1 a2 a3 a4 : Sl} (hd : ∀ d ∈ ds, okD B d = true) (hl : ds.length ≤ 1000) (q : ∀ s6, E.rt (.bool (ds.all nameD && riseD ds)) [a0, a1, a2, a3, a4, .fz (.tuple ds), s6]) (f0 : ∃ d, a0 = .fz d) (f1 : ∃ d, a1 = .fz d) (f2 : ∃ d, a2 = .fz d) (f3 : ∃ d, a3 = .fz d) (f4 : ∃ d, a4 = .fz d) : F__law_is_given_2 E [a0, a1, a2, a3, a4, .fz (.tuple ds), .no] := by
  have lin : sizeLine = 16777216 := by decide +kernel
  obtain ⟨x0, rfl⟩ := f0
  obtain ⟨x1, rfl⟩ := f1
  obtain ⟨x2, rfl⟩ := f2
  obtain ⟨x3, rfl⟩ := f3
  obtain ⟨x4, rfl⟩ := f4
  unfold F__law_is_given_2
  walk_at "w"
  refine lc_map ds id (fun d => some (.bool (nameD d))) (by simp) rfl (by omega) (fun d R acc hm hacc hR => ?_) ?_
  · unfold F__law_is_given_1
    walk_at "w"
    exact f_lnameA (hd d hm) fun _ => ⟨hacc, hR⟩
  rw [filterMap_some, show (ds.map fun d => PyData.bool (nameD d)) = (ds.map fun d => nameD d).map PyData.bool from by rw [List.map_map]; rfl]
  refine boolsF_map ?_
  rw [show (ds.map fun d => nameD d).all id = ds.all nameD from by rw [List.all_map]; rfl]
  cases c2 : ds.all nameD with
  | true =>
    rw [c2, Bool.true_and] at q
    walk_at "w"
    exact f_lriseA (l := false) (names_cmp c2) (by omega) fun _ => q _
  | false =>
    rw [c2, Bool.false_and] at q
    walk_at "w"
    exact q _
theorem f_lgivenA {B : Nat} {o n p l ws : PyData} (h1 : okD B o = true) (h2 : okD B n = true) (h3 : okD B p = true) (h4 : okD B l = true) (h5 : okD B ws = true) (hl : nodes ws ≤ 1000000) {P : PyData → List Sl → Prop} (q : ∀ sl, P (.bool (giveB [o, n, p, l, ws])) sl) : F__law_is_given [.fz (.tuple [o, n, p, l, ws])] P := by
  have lin : sizeLine = 16777216 := by decide +kernel
  have e0 : giveB [o, n, p, l, ws] = (nameD o && (wholeD n 1 9999 && (wholeD p 1 99999 && (leastB l p && wordsB ws)))) := rfl
  rw [e0] at q
  unfold F__law_is_given
  walk_at "w"
  refine f_lnameA h1 fun _ => ?_
  cases c1 : nameD o with
  | false =>
    rw [c1, Bool.false_and] at q
    walk_at "w"
    exact q _
  | true =>
    rw [c1, Bool.true_and] at q
    walk_at "w"
    refine f_lwholeA h2 fun _ => ?_
    cases c2 : wholeD n 1 9999 with
    | false =>
      rw [c2, Bool.false_and] at q
      walk_at "w"
      exact q _
    | true =>
      rw [c2, Bool.true_and] at q
      walk_at "w"
      refine f_lwholeA h3 fun _ => ?_
      cases c3 : wholeD p 1 99999 with
      | false =>
        rw [c3, Bool.false_and] at q
        walk_at "w"
        exact q _
      | true =>
        rw [c3, Bool.true_and] at q
        obtain ⟨i, rfl, i0, i1⟩ := whole_int c3
        walk_at "w"
        unfold F__law_is_given_3
        walk_at "w"
        refine f_lwholeA h4 fun _ => ?_
        have q : ∀ sl, P (.bool (wholeD l 0 i && wordsB ws)) sl := q
        cases c4 : wholeD l 0 i with
        | false =>
          rw [c4, Bool.false_and] at q
          walk_at "w"
          exact q _
        | true =>
          rw [c4, Bool.true_and] at q
          cases ws with
          | dict _ => cases h5
          | tuple ds =>
            have hl' : nodesAll ds + 1 ≤ 1000000 := hl
            have ln := len_nodes ds
            have e1 : wordsB (.tuple ds) = (decide (ds.length ≤ 6) && (ds.all nameD && riseD ds)) := rfl
            rw [e1] at q
            walk_at "w"
            by_cases c1 : ds.length ≤ 6
            · rw [decide_eq_true c1, Bool.true_and] at q
              refine if0 (by omega) ?_
              exact f_lwords2 (okAll_iff.mp (show okAll B ds = true from h5)) (by omega) (fun _ => q _) ⟨_, rfl⟩ ⟨_, rfl⟩ ⟨_, rfl⟩ ⟨_, rfl⟩ ⟨_, rfl⟩
            · rw [decide_eq_false c1, Bool.false_and] at q
              exact if1 (by omega) (q _)
          | int _ => walk_at "w"; exact q _
          | bool _ => walk_at "w"; exact q _
          | none => walk_at "w"; exact q _
          | str _ => walk_at "w"; exact q _
          | list _ => walk_at "w"; exact q _
theorem f_lheapA {B : Nat} {n a : PyData} (h1 : okD B n = true) (hl : nodes n ≤ 1000000) (h2 : okD B a = true) {P : PyData → List Sl → Prop} (q : ∀ sl, P (.bool (heapB [n, a])) sl) : F__law_is_heap [.fz (.tuple [n, a])] P := by
  have lin : sizeLine = 16777216 := by decide +kernel
  have q : ∀ sl, P (.bool (numsB n && wholeD a 0 9999999)) sl := q
  unfold F__law_is_heap
  walk_at "w"
  cases n with
  | dict _ => cases h1
  | tuple ds =>
    have hl' : nodesAll ds + 1 ≤ 1000000 := hl
    have ln := len_nodes ds
    have hd := okAll_iff.mp (show okAll B ds = true from h1)
    have e0 : numsB (.tuple ds) = ((decide (2 ≤ ds.length) && decide (ds.length ≤ 12)) && ((ds.all fun d => wholeD d 1 9999) && riseD ds)) := rfl
    rw [e0] at q
    walk_at "w"
    by_cases c0 : 2 ≤ ds.length
    · rw [decide_eq_true c0, Bool.true_and] at q
      by_cases c1 : ds.length ≤ 12
      · rw [decide_eq_true c1, Bool.true_and] at q
        refine if1 (by omega) (if0 (by omega) ?_)
        refine f_lwholeA h2 fun _ => ?_
        cases c2 : wholeD a 0 9999999 with
        | false =>
          rw [c2, Bool.and_false] at q
          walk_at "w"
          exact q _
        | true =>
          rw [c2, Bool.and_true] at q
          walk_at "w"
          unfold F__law_is_heap_2
          walk_at "w"
          refine lc_map ds id (fun d => some (.bool (wholeD d 1 9999))) (by simp) rfl (by omega) (fun d R acc hm hacc hR => ?_) ?_
          · unfold F__law_is_heap_1
            walk_at "w"
            exact f_lwholeA (hd d hm) fun _ => ⟨hacc, hR⟩
          rw [filterMap_some, show (ds.map fun d => PyData.bool (wholeD d 1 9999)) = (ds.map fun d => wholeD d 1 9999).map PyData.bool from by rw [List.map_map]; rfl]
          refine boolsF_map ?_
          rw [show (ds.map fun d => wholeD d 1 9999).all id = ds.all (fun d => wholeD d 1 9999) from by rw [List.all_map]; rfl]
          cases c3 : ds.all (fun d => wholeD d 1 9999) with
          | true =>
            rw [c3, Bool.true_and] at q
            walk_at "w"
            exact f_lriseA (l := false) (wholes_cmp c3) (by omega) fun _ => q _
          | false =>
            rw [c3, Bool.false_and] at q
            walk_at "w"
            exact q _
      · rw [decide_eq_false c1, Bool.false_and, Bool.false_and] at q
        exact if1 (by omega) (if1 (by omega) (q _))
    · rw [decide_eq_false c0, Bool.false_and, Bool.false_and, Bool.false_and] at q
      exact if0 (by omega) (q _)
  | int _ => walk_at "w"; exact q _
  | bool _ => walk_at "w"; exact q _
  | none => walk_at "w"; exact q _
  | str _ => walk_at "w"; exact q _
  | list _ => walk_at "w"; exact q _
theorem inD_strU (w : Str) (ws : List Str) : inD (.str w) (ws.map .str) = decide (w ∈ ws) := by
  unfold inD
  rw [List.any_map]
  induction ws with
  | nil => rfl
  | cons x r ih =>
    rw [List.any_cons, ih]
    show ((x == w) || decide (w ∈ r)) = decide (w ∈ x :: r)
    by_cases h : x = w
    · subst h; simp
    · have h1 : (x == w) = false := by simpa using h
      have h2 : ¬ w = x := fun z => h z.symm
      rw [h1, Bool.false_or]
      simp [h2]
theorem shaped_th {B : Nat} (hB : B ≤ 1000000000000000000000000000000) {d : PyData} (h : okD B d = true) (hd : d.depth ≤ 60) : SeqAt.shaped d = true := by
  obtain ⟨h1, _, _, _⟩ := okD.factsB hB h
  show (d.canLay0 && decide (d.depth ≤ 64)) = true
  rw [h1, decide_eq_true (by omega)]; rfl
theorem f_ldueA {B : Nat} (hB : B ≤ 1000000000000000000000000000000) {d : PyData} (h : okD B d = true) (hl : nodes d ≤ 1000000) (hdp : d.depth ≤ 60) {P : PyData → List Sl → Prop} (q : ∀ sl, P (.bool (isDeedB d)) sl) : F__law_due [.fz d] P := by
  have lin : sizeLine = 16777216 := by decide +kernel
  have sh := shaped_th hB h hdp
  unfold F__law_due
  cases d with
  | dict _ => cases h
  | tuple ds =>
    have hl' : nodesAll ds + 1 ≤ 1000000 := hl
    have ln := len_nodes ds
    walk_at "w"
    refine ⟨sh, rfl, ?_⟩
    cases ds with
    | nil => walk_at "w"; exact q _
    | cons x r =>
      have h' : (okD B x && okAll B r) = true := h
      rw [Bool.and_eq_true] at h'
      have hr := okAll_iff.mp h'.2
      walk_at "w"
      cases x with
      | dict _ => cases h'.1
      | str w =>
        have e0 : isDeedB (.tuple (.str w :: r)) = deedB w r := rfl
        rw [e0] at q
        walk_at "w"
        have nx : ∀ x ∈ r, nodes x ≤ 1000000 := fun x hx => by
          obtain ⟨l1, l2, rfl⟩ := List.append_of_mem hx
          have h1 : nodes (PyData.str w) + nodesAll (l1 ++ x :: l2) + 1 ≤ 1000000 := hl'
          rw [nodesAll_app] at h1
          have h2 : nodesAll (x :: l2) = nodes x + nodesAll l2 := rfl
          omega
        unfold F__law_due_8
        walk_at "w"
        refine if0 (show ¬ (false = true) from Bool.false_ne_true) ?_
        rw [show cutD (PyData.str w :: r) (some 1) none = r from cut_tail _]
        unfold deedB at q
        refine ite2 (fun c1 => ?_) fun c1 => ?_
        · rw [if_pos c1] at q
          match r, q, hr, nx with
          | [], q, _, _ => exact q _
          | [_], q, _, _ => exact q _
          | [_, _], q, _, _ => exact q _
          | [_, _, _], q, _, _ => exact q _
          | [_, _, _, _], q, _, _ => exact q _
          | [a1, a2, a3, a4, a5], q, hr, nx => exact if1 rfl (f_lgivenA (hr a1 (by simp)) (hr a2 (by simp)) (hr a3 (by simp)) (hr a4 (by simp)) (hr a5 (by simp)) (nx a5 (by simp)) fun _ => q _)
          | _ :: _ :: _ :: _ :: _ :: _ :: _, q, _, _ => exact if0 (by simp only [List.length_cons]; omega) (q _)
        rw [if_neg c1] at q
        unfold F__law_due_7
        walk_at "w"
        refine ite2 (fun c2 => ?_) fun c2 => ?_
        · rw [if_pos c2] at q
          match r, q, hr, nx with
          | [], q, _, _ => exact q _
          | [_], q, _, _ => exact q _
          | [a1, a2], q, hr, nx => exact if1 rfl (f_lheapA (hr a1 (by simp)) (nx a1 (by simp)) (hr a2 (by simp)) fun _ => q _)
          | _ :: _ :: _ :: _, q, _, _ => exact if0 (by simp only [List.length_cons]; omega) (q _)
        rw [if_neg c2] at q
        unfold F__law_due_6
        walk_at "w"
        refine ite2 (fun c3 => ?_) fun c3 => ?_
        · rw [if_pos c3] at q
          match r, q, hr, nx with
          | [], q, _, _ => exact q _
          | [_], q, _, _ => exact q _
          | [n, a], q, hr, nx =>
            have q : ∀ sl, P (.bool (wholeD n 1 9999 && (noneD a || wholeD a 0 9999999))) sl := q
            have h2 := hr a (by simp)
            walk_at "w"
            refine f_lwholeA (hr n (by simp)) fun _ => ?_
            cases c1 : wholeD n 1 9999 with
            | false =>
              rw [c1, Bool.false_and] at q
              walk_at "w"
              exact q _
            | true =>
              rw [c1, Bool.true_and] at q
              have gen : noneD a = false → (∀ sl, P (.bool (wholeD a 0 9999999)) sl) := fun e sl => by
                have := q sl
                rw [e, Bool.false_or] at this
                exact this
              walk_at "w"
              unfold F__law_due_5
              cases a with
              | none => walk_at "w"; exact q _
              | dict _ => cases h2
              | int i => walk_at "w"; exact f_lwholeA h2 fun _ => gen rfl _
              | bool i => walk_at "w"; exact f_lwholeA h2 fun _ => gen rfl _
              | str i => walk_at "w"; exact f_lwholeA h2 fun _ => gen rfl _
              | list i => walk_at "w"; exact f_lwholeA h2 fun _ => gen rfl _
              | tuple i => walk_at "w"; exact f_lwholeA h2 fun _ => gen rfl _
          | _ :: _ :: _ :: _, q, _, _ => exact if0 (by simp only [List.length_cons]; omega) (q _)
        rw [if_neg c3] at q
        unfold F__law_due_4
        walk_at "w"
        refine ite2 (fun c4 => ?_) fun c4 => ?_
        · rw [if_pos c4] at q
          match r, q, hr, nx with
          | [], q, _, _ => exact q _
          | [_], q, _, _ => exact q _
          | [n, a], q, hr, nx =>
            have q : ∀ sl, P (.bool (nameD n && wholeD a 1 9999999)) sl := q
            walk_at "w"
            refine f_lnameA (hr n (by simp)) fun _ => ?_
            cases c1 : nameD n with
            | false =>
              rw [c1, Bool.false_and] at q
              walk_at "w"
              exact q _
            | true =>
              rw [c1, Bool.true_and] at q
              walk_at "w"
              exact f_lwholeA (hr a (by simp)) fun _ => q _
          | _ :: _ :: _ :: _, q, _, _ => exact if0 (by simp only [List.length_cons]; omega) (q _)
        rw [if_neg c4] at q
        unfold F__law_due_3
        walk_at "w"
        refine ite2 (fun c5 => ?_) fun c5 => ?_
        · rw [if_pos c5] at q
          match r, q, hr, nx with
          | [], q, _, _ => exact q _
          | [a1], q, hr, nx => exact if1 rfl ⟨a1, rfl, f_lruleA (hr a1 (by simp)) (nx a1 (by simp)) fun _ => q _⟩
          | _ :: _ :: _, q, _, _ => exact if0 (by simp only [List.length_cons]; omega) (q _)
        rw [if_neg c5] at q
        unfold F__law_due_2
        walk_at "w"
        refine ite2 (fun c6 => ?_) fun c6 => ?_
        · rw [if_pos c6] at q
          match r, q, hr, nx with
          | [], q, _, _ => exact q _
          | [a1], q, hr, nx => exact if1 rfl ⟨a1, rfl, f_lwholeA (hr a1 (by simp)) fun _ => q _⟩
          | _ :: _ :: _, q, _, _ => exact if0 (by simp only [List.length_cons]; omega) (q _)
        rw [if_neg c6] at q
        unfold F__law_due_1
        walk_at "w"
        refine ⟨rfl, rfl, ?_⟩
        rw [show inD (PyData.str w) [PyData.str (Str.ofString "let"), PyData.str (Str.ofString "back"), PyData.str (Str.ofString "fetch"), PyData.str (Str.ofString "lose"), PyData.str (Str.ofString "find")] = decide (w ∈ thingWords) from inD_strU w thingWords]
        refine ite2 (fun c7 => ?_) fun c7 => ?_
        · rw [if_pos (of_decide_eq_true c7)] at q
          match r, q, hr, nx with
          | [], q, _, _ => exact q _
          | [a1], q, hr, nx => exact if1 rfl ⟨a1, rfl, f_lwholeA (hr a1 (by simp)) fun _ => q _⟩
          | _ :: _ :: _, q, _, _ => exact if0 (by simp only [List.length_cons]; omega) (q _)
        · rw [if_neg (fun z => c7 (decide_eq_true z))] at q
          exact q _
      | int _ => walk_at "w"; exact q _
      | bool _ => walk_at "w"; exact q _
      | none => walk_at "w"; exact q _
      | tuple _ => walk_at "w"; exact q _
      | list _ => walk_at "w"; exact q _
  | int _ => walk_at "w"; exact q _
  | bool _ => walk_at "w"; exact q _
  | none => walk_at "w"; exact q _
  | str _ => walk_at "w"; exact q _
  | list _ => walk_at "w"; exact q _
abbrev asksD (l : List (Int × Int)) : List PyData := l.map fun p => .tuple [.int p.1, .int p.2]
theorem atI_last {xs : List PyData} (h : xs ≠ []) : atI xs (-1) = xs.getLast? := by
  have hl : 0 < xs.length := List.length_pos_iff.mpr h
  unfold atI
  rw [ixN_last hl, List.getLast?_eq_getElem?]; rfl
theorem immAll_ints : ∀ ns : List Int, immAll (ns.map .int) = true
  | [] => rfl
  | _ :: r => immAll_ints r
/-! ### dicts displayed -/
theorem valD_none {kd : Kvs} {k : L2.Key} (h : k ∉ kd.map (·.1)) : valD kd k = none := by
  induction kd with
  | nil => rfl
  | cons z r ih =>
    rw [List.map_cons, List.mem_cons, not_or] at h
    rw [valD_neg (fun e => h.1 e.symm)]
    exact ih h.2
theorem merge_new : ∀ {more kd : Kvs}, (more.map (·.1)).Nodup → (∀ k ∈ more.map (·.1), k ∉ kd.map (·.1)) → mergeE kd more = kd ++ more
  | [], kd, _, _ => (List.append_nil kd).symm
  | z :: r, kd, nd, h => by
    have nd' := List.nodup_cons.mp nd
    show mergeE (putE kd z.1 z.2) r = _
    have e : putE kd z.1 z.2 = kd ++ [z] := by
      unfold putE
      rw [valD_none (h _ List.mem_cons_self)]
      rfl
    rw [e, merge_new nd'.2, List.append_assoc]
    · rfl
    · intro k hk hm
      rw [List.map_append, List.mem_append] at hm
      rcases hm with hm | hm
      · exact h k (List.mem_cons_of_mem _ hk) hm
      · rcases List.mem_singleton.mp hm with rfl
        exact nd'.1 hk
theorem mkK_keys : ∀ {ns : List Str} {vs : List PyData}, ∀ k ∈ (mkK ns vs).map (·.1), ∃ n ∈ ns, k = Sum.inr n
  | [], _, k, h => by cases h
  | _ :: _, [], k, h => by cases h
  | n :: ns, v :: vs, k, h => by
    rcases List.mem_cons.mp h with e | e
    · exact ⟨n, List.mem_cons_self, e⟩
    · obtain ⟨m, hm, e⟩ := mkK_keys k e
      exact ⟨m, List.mem_cons_of_mem _ hm, e⟩
theorem mkK_nodup : ∀ {ns : List Str} {vs : List PyData}, ns.Nodup → ((mkK ns vs).map (·.1)).Nodup
  | [], _, _ => List.nodup_nil
  | _ :: _, [], _ => List.nodup_nil
  | n :: ns, v :: vs, nd => by
    have nd' := List.nodup_cons.mp nd
    refine List.nodup_cons.mpr ⟨fun h => ?_, mkK_nodup nd'.2⟩
    obtain ⟨m, hm, e⟩ := mkK_keys _ h
    exact nd'.1 (by rw [Sum.inr.inj e]; exact hm)
theorem merge_mk {ns : List Str} {vs : List PyData} (nd : ns.Nodup) : mergeE [] (mkK ns vs) = mkK ns vs := merge_new (mkK_nodup nd) (fun _ _ h => by cases h)
/-! the world as data -/
def woN : List Str := ["owners", "pool", "numbers", "first", "far", "prices"].map Str.ofString
structure Wo where
  owners : List Str
  pool : List Str
  numbers : List Int
  first : Int
  far : Int
  prices : List (L2.Key × (Int × Int))
def woV (o : Wo) (x : PyData) : List PyData := [.list (o.owners.map .str), .list (o.pool.map .str), .list (o.numbers.map .int), .int o.first, .int o.far, x]
def woD (o : Wo) : PyData := dctD (mkK woN (woV o (dctD (kmap pairD o.prices))))
theorem nodup_len : ∀ {ms ns : List Int}, ms.Nodup → (∀ x ∈ ms, x ∈ ns) → ms.length ≤ ns.length
  | [], _, _, _ => Nat.zero_le _
  | x :: ms, ns, nd, h => by
    have nd' := List.nodup_cons.mp nd
    have hx := h x List.mem_cons_self
    have := nodup_len (ms := ms) (ns := ns.erase x) nd'.2 fun y hy => (List.mem_erase_of_ne (fun e : y = x => nd'.1 (by rw [← e]; exact hy))).mpr (h y (List.mem_cons_of_mem _ hy))
    rw [List.length_erase_of_mem hx] at this
    have := List.length_pos_of_mem hx
    rw [List.length_cons]; omega
/-! ### rules drawn, and how a book begins -/
theorem f_rule {ds : List PyData} {n : Nat} (hb : BoxD ds n) (hn : n < 100000000) {P : PyData → List Sl → Prop} (h : ∀ r ds', RuleW r → BoxD ds' (n + 30) → P (.tuple (r.map pairD)) [.own ds']) : F__law_rule [.own ds] P := by
  have lin : sizeLine = 16777216 := by decide +kernel
  unfold F__law_rule
  walk_at "f"
  refine take_step hb (by decide) (by decide) (by omega) fun r1 d1 a1 c1 b1 => ⟨by omega, by omega, ?_⟩
  refine for_range (fun i ρ => ∃ r age part ds', RuleG r i age part ∧ BoxD ds' (n + 1 + 3 * i) ∧ ρ = [.own ds', .fz (.int age), .fz (.int part), .own (r.map pairD), .no, .no]) ?_ ?_ ?_
  · exact ⟨[], 0, 100, d1, ⟨rfl, by decide, by decide, by decide, by simp, .nil⟩, b1, rfl⟩
  · rintro i ρ hi ⟨r, age, part, d2, g, b2, rfl⟩
    have few := g.few
    unfold F__law_rule_3
    walk_at "f"
    refine take_step b2 (by decide) (by decide) (by omega) fun r2 d3 a2 c2 b3 => ?_
    obtain ⟨v, e, m⟩ := at_mem (xs := [PyData.int 3, PyData.int 30, PyData.int 160]) a2 c2
    obtain ⟨s, rfl, s0, s1⟩ : ∃ a, v = .int a ∧ 1 ≤ a ∧ a ≤ 160 := by
      simp only [List.mem_cons, List.not_mem_nil, or_false] at m
      rcases m with rfl | rfl | rfl <;> exact ⟨_, rfl, by omega, by omega⟩
    refine ⟨_, e, ?_⟩
    walk_at "f"
    refine take_step b3 (by omega) (by omega) (by omega) fun r3 d4 a3 c3 b4 => ?_
    refine take_step b4 (by decide) (by decide) (by omega) fun r4 d5 a4 c4 b5 => ⟨by rw [List.length_map]; omega, ?_⟩
    exact ⟨r ++ [(age + 1 + r3, part - 1 - r4)], _, _, d5, g.next a3 (by omega) (by omega) a4, b5.mono (by omega), rfl, rfl, rfl, by rw [List.map_append]; rfl⟩
  · rintro ρ ⟨r, age, part, d2, g, b2, rfl⟩
    have few := g.few
    unfold F__law_rule_2
    walk_at "f"
    refine lc_map r pairD (fun p => if keepP p = true then some (pairD p) else none) rfl rfl (by omega) (fun p R acc _ hacc hR => ?_) ?_
    · unfold F__law_rule_1
      walk_at "f"
      have hR' : R (acc ++ (if keepP p = true then some (pairD p) else none).toList) [.own d2, .fz (.int age), .fz (.int part), .fz (.list (r.map pairD)), .no, .no] := hR
      unfold keepP at hR'
      by_cases h1 : p.1 < 1000
      · rw [if_pos h1]
        rw [decide_eq_true h1, Bool.true_and] at hR'
        by_cases h2 : 0 < p.2
        · rw [if_pos h2]
          rw [decide_eq_true h2, if_pos rfl] at hR'
          exact ⟨hacc, hR'⟩
        · rw [if_neg h2]
          rw [decide_eq_false h2, if_neg (by decide)] at hR'
          simpa using hR'
      · rw [if_neg h1]
        rw [decide_eq_false h1, Bool.false_and, if_neg (by decide)] at hR'
        simpa using hR'
    · rw [filterMap_if]
      have gv := g.cut (by omega)
      generalize r.filter keepP = q at gv
      have q6 := gv.few
      walk_at "f"
      exact h q d2 gv.toRuleW (b2.mono (by omega))
theorem f_numbers {ds : List PyData} {n m : Nat} (hb : BoxD ds n) (hn : n < 100000000) (hm : m ≤ 60) {P : PyData → List Sl → Prop} (h : ∀ (ns : List Int) ds' sl, ns.length = m → (∀ x ∈ ns, (1 : Int) ≤ x ∧ x ≤ 9999) → ns.Nodup → BoxD ds' (n + 2) → P (.list (ns.map .int)) (.own ds' :: sl)) : F__law_numbers [.own ds, .fz (.int (m : Int))] P := by
  have lin : sizeLine = 16777216 := by decide +kernel
  unfold F__law_numbers
  walk_at "w"
  refine take_step hb (by decide) (by decide) (by omega) fun r1 d1 a1 c1 b1 => ?_
  refine take_step b1 (by decide) (by decide) (by omega) fun r2 d2 a2 c2 b2 => ?_
  obtain ⟨v, e, mm⟩ := at_mem (xs := [PyData.int 1, PyData.int 2, PyData.int 5, PyData.int 7, PyData.int 1000, PyData.int 4001]) a2 c2
  obtain ⟨s, rfl, s0, s1, sn⟩ : ∃ a : Int, v = .int a ∧ 1 ≤ a ∧ a ≤ 4001 ∧ ∀ d z : Int, 0 < d → d < 60 → a * d ≠ 9999 * z := by
    simp only [List.mem_cons, List.not_mem_nil, or_false] at mm
    rcases mm with rfl | rfl | rfl | rfl | rfl | rfl <;> exact ⟨_, rfl, by omega, by omega, fun d z h0 h1 => by omega⟩
  refine ⟨_, e, ?_⟩
  walk_at "w"
  refine ⟨by omega, by omega, ?_⟩
  rw [Int.toNat_natCast]
  refine lc_map (List.range m) (fun k : Nat => .int (0 + (k : Int))) (fun k => some (.int (1 + (r1 + s * (k : Int)) % 9999))) rfl rfl (by rw [List.length_range]; omega) (fun k R acc hk hacc hR => ?_) ?_
  · have hk := List.mem_range.mp hk
    unfold F__law_numbers_1
    walk_at "w"
    refine ⟨.inl ⟨by omega, by omega⟩, ?_⟩
    exact ⟨hacc, hR⟩
  · rw [filterMap_some]
    have := h ((List.range m).map fun k : Nat => 1 + (r1 + s * (k : Int)) % 9999) d2
    rw [List.map_map] at this
    refine this _ (by rw [List.length_map, List.length_range]) (fun x hx => ?_) ?_ b2
    rotate_left
    · refine List.pairwise_map.mpr (List.Pairwise.imp_of_mem (R := fun a b : Nat => a < b) (fun {a b} ha hb lt e => ?_) List.pairwise_lt_range)
      have ha := List.mem_range.mp ha
      have hb := List.mem_range.mp hb
      refine sn ((b : Int) - a) ((r1 + s * (b : Int)) / 9999 - (r1 + s * (a : Int)) / 9999) (by omega) (by omega) ?_
      rw [Int.mul_sub]
      generalize s * (a : Int) = x at *
      generalize s * (b : Int) = y at *
      omega
    obtain ⟨k, _, rfl⟩ := List.mem_map.mp hx
    have h0 : 0 ≤ (r1 + s * (k : Int)) % 9999 := Int.emod_nonneg _ (by decide)
    have h1 : (r1 + s * (k : Int)) % 9999 < 9999 := Int.emod_lt_of_pos _ (by decide)
    omega
/-! ### names drawn, unlike -/
def preN (own : Int) : List Nat := [97 + (own / 26).toNat, 97 + (own % 26).toNat]
theorem preN_inj {a b : Int} (a0 : 0 ≤ a) (b0 : 0 ≤ b) (h : preN a = preN b) : a = b := by
  unfold preN at h
  have h1 := (List.cons.inj h).1
  have h2 := (List.cons.inj (List.cons.inj h).2).1
  omega
theorem abc_signN {d : Int} (h0 : 0 ≤ d) (h1 : d < 26) : atI (Str.ofString "abcdefghijklmnopqrstuvwxyz").cps.toList d = some (97 + d.toNat) := by
  obtain ⟨k, rfl⟩ := Int.eq_ofNat_of_zero_le h0
  exact abc_at (by omega)
theorem tl_two (a b : Nat) (s : Str) : tl (((⟨#[a]⟩ : Str) ++ (⟨#[b]⟩ : Str)) ++ s) = a :: b :: tl s := by rw [tl_append, tl_append]; rfl
theorem drawn_qxz : ∀ w ∈ drawnWords, (tl w).drop 2 ≠ tl (Str.ofString "qxz") := by decide +kernel
/-- a name's kind: one of the words, or by its own number -/
def NmK (own : Int) (s : Str) : Prop := s ∈ drawnWords ∨ (tl s).take 2 = preN own
theorem f_namesU_3 {E : FEnds} {d6 : List PyData} {ss : List Str} {nm : Str} {a1 a4 a5 a6 a7 a9 a10 : Sl} {own : Int} (own0 : 0 ≤ own) (own1 : own < 676) (ls : ss.length ≤ 1000) (hnm : NameS nm) (km : NmK own nm) (old : ∀ x ∈ ss, x ∈ drawnWords ∨ (tl x).take 2 ≠ preN own)
    (h : ∀ s, NameS s → NmK own s → s ∉ ss → E.nx [.own d6, a1, .fz (.str (Str.ofString "abcdefghijklmnopqrstuvwxyz")), .own ((ss ++ [s]).map .str), a4, a5, a6, a7, .fz (.int own), a9, a10, .fz (.str s)]) :
    F__law_names_3 E [.own d6, a1, .fz (.str (Str.ofString "abcdefghijklmnopqrstuvwxyz")), .own (ss.map .str), a4, a5, a6, a7, .fz (.int own), a9, a10, .fz (.str nm)] := by
  have lin : sizeLine = 16777216 := by decide +kernel
  have la : (Str.ofString "abcdefghijklmnopqrstuvwxyz").length ≤ sizeLine := by decide +kernel
  have ex := abc_signN (d := own / 26) (by omega) (by omega)
  have ey := abc_signN (d := own % 26) (by omega) (by omega)
  unfold F__law_names_3
  walk_at "f"
  refine ⟨rfl, by rw [List.all_map]; exact List.all_eq_true.mpr fun _ _ => rfl, ?_⟩
  have fin : ∀ s, NameS s → NmK own s → s ∉ ss → F__law_names_2 E [.own d6, a1, .fz (.str (Str.ofString "abcdefghijklmnopqrstuvwxyz")), .own (ss.map .str), a4, a5, a6, a7, .fz (.int own), a9, a10, .fz (.str s)] := by
    intro s hs hk hno
    unfold F__law_names_2
    walk_at "f"
    refine ⟨by rw [List.length_map]; omega, ?_⟩
    have := h s hs hk hno
    rw [List.map_append] at this
    exact this
  rw [inD_strU]
  by_cases c : nm ∈ ss
  · rw [decide_eq_true c, if_pos rfl]
    refine ⟨⟨by decide, by decide⟩, la, _, ex, la, _, ey, by show 1 + 1 ≤ sizeLine; decide, by show 2 + 3 ≤ sizeLine; decide, ?_⟩
    have e := tl_two (97 + (own / 26).toNat) (97 + (own % 26).toNat) (Str.ofString "qxz")
    refine fin _ (name_two ⟨by omega, by omega⟩ ⟨by omega, by omega⟩ (by decide +kernel) (by decide +kernel)) (.inr (by rw [e]; rfl)) fun hin => ?_
    rcases old _ hin with hw | hw
    · exact drawn_qxz _ hw (by rw [e]; rfl)
    · exact hw (by rw [e]; rfl)
  · rw [decide_eq_false c, if_neg Bool.false_ne_true]
    exact fin nm hnm km c
theorem f_namesU {ds : List PyData} {n m : Nat} (hb : BoxD ds n) (hn : n < 10000000) (hm : m ≤ 14) {P : PyData → List Sl → Prop} (h : ∀ (ss : List Str) ds' sl, ss.length = m → (∀ s ∈ ss, NameS s) → ss.Nodup → BoxD ds' (n + 2000) → P (.list (ss.map .str)) (.own ds' :: sl)) : F__law_names [.own ds, .fz (.int (m : Int))] P := by
  have lin : sizeLine = 16777216 := by decide +kernel
  have la : (Str.ofString "abcdefghijklmnopqrstuvwxyz").length ≤ sizeLine := by decide +kernel
  unfold F__law_names
  walk_at "f"
  refine take_step hb (by decide) (by decide) (by omega) fun r1 d1 a1 c1 b1 => ?_
  refine take_step b1 (by decide) (by decide) (by omega) fun r2 d2 a2 c2 b2 => ?_
  obtain ⟨v, e, mm⟩ := at_mem (xs := [PyData.int 1, PyData.int 3, PyData.int 5, PyData.int 7, PyData.int 27, PyData.int 101]) a2 c2
  obtain ⟨s, rfl, s0, s1, far⟩ : ∃ a, v = .int a ∧ 1 ≤ a ∧ a ≤ 101 ∧ ∀ i j : Nat, j < i → i < 14 → (r1 + a * (j : Int)) % 676 ≠ (r1 + a * (i : Int)) % 676 := by
    simp only [List.mem_cons, List.not_mem_nil, or_false] at mm
    rcases mm with rfl | rfl | rfl | rfl | rfl | rfl <;> exact ⟨_, rfl, by omega, by omega, fun i j h1 h2 => by omega⟩
  refine ⟨_, e, by omega, by omega, ?_⟩
  rw [Int.toNat_natCast]
  refine for_range (fun i ρ => ∃ (ss : List Str) (ds' : List PyData), ss.length = i ∧ (∀ s ∈ ss, NameS s) ∧ ss.Nodup ∧ (∀ x ∈ ss, x ∈ drawnWords ∨ ∃ j : Nat, j < i ∧ (tl x).take 2 = preN ((r1 + s * (j : Int)) % 676)) ∧ BoxD ds' (n + 2 + 8 * i) ∧ ρ = [.own ds', .fz (.int m), .fz (.str (Str.ofString "abcdefghijklmnopqrstuvwxyz")), .own (ss.map .str), .fz (.int r1), .fz (.int s), .fz (.list (drawnWords.map .str)), .no, .no, .no, .no, .no]) ?_ ?_ ?_
  · exact ⟨[], d2, rfl, by simp, List.nodup_nil, by simp, b2, rfl⟩
  · rintro i ρ hi ⟨ss, d3, ls, hss, nd, knd, b3, rfl⟩
    unfold F__law_names_5
    walk_at "f"
    refine ⟨.inl ⟨by omega, by omega⟩, ?_⟩
    refine take_step b3 (by decide) (by decide) (by omega) fun r4 d4 a4 c4 b4 => ⟨by omega, by omega, ?_⟩
    have own0 : 0 ≤ (r1 + s * (i : Int)) % 676 := Int.emod_nonneg _ (by decide)
    have own1 : (r1 + s * (i : Int)) % 676 < 676 := Int.emod_lt_of_pos _ (by decide)
    have old : ∀ x ∈ ss, x ∈ drawnWords ∨ (tl x).take 2 ≠ preN ((r1 + s * (i : Int)) % 676) := fun x hx => by
      rcases knd x hx with h | ⟨j, hj, e⟩
      · exact .inl h
      · refine .inr fun e2 => far i j hj (by omega) (preN_inj (Int.emod_nonneg _ (by decide)) own0 (by rw [← e, e2]))
    have newK : ∀ y, NmK ((r1 + s * (i : Int)) % 676) y → ∀ x ∈ ss ++ [y], x ∈ drawnWords ∨ ∃ j : Nat, j < i + 1 ∧ (tl x).take 2 = preN ((r1 + s * (j : Int)) % 676) := fun y hy x hx => by
      rcases List.mem_append.mp hx with h | h
      · rcases knd x h with h | ⟨j, hj, e⟩
        · exact .inl h
        · exact .inr ⟨j, by omega, e⟩
      · rw [List.mem_singleton.mp h]
        rcases hy with h | h
        · exact .inl h
        · exact .inr ⟨i, Nat.lt_succ_self _, h⟩
    have newN : ∀ y, y ∉ ss → (ss ++ [y]).Nodup := fun y hy => List.nodup_append.mpr ⟨nd, List.nodup_cons.mpr ⟨List.not_mem_nil, List.nodup_nil⟩, fun a ha b hb e => hy (by rw [List.mem_singleton.mp hb] at e; rw [← e]; exact ha)⟩
    generalize (r1 + s * (i : Int)) % 676 = own at own0 own1 old newK
    refine lc_inv (List.range (1 + r4).toNat) (fun k : Nat => .int (0 + (k : Int))) (fun j acc ρ => ∃ (cs : List Nat) (d5 : List PyData), cs.length = j ∧ (∀ c ∈ cs, 97 ≤ c ∧ c ≤ 122) ∧ BoxD d5 (n + 2 + 8 * i + 1 + j) ∧ acc = cs.map (fun c => PyData.str ⟨#[c]⟩) ∧
      ρ = [.own d5, .fz (.int m), .fz (.str (Str.ofString "abcdefghijklmnopqrstuvwxyz")), .own (ss.map .str), .fz (.int r1), .fz (.int s), .fz (.list (drawnWords.map .str)), .fz (.int i), .fz (.int own), .no, .no, .no]) rfl rfl ?_ ?_ ?_
    · exact ⟨[], d4, rfl, by simp, b4, rfl, rfl⟩
    · rintro j x acc ρ hx hj ⟨cs, d5, lc, hcs, b5, rfl, rfl⟩
      rw [List.length_range] at hj
      unfold F__law_names_4
      walk_at "f"
      refine take_step b5 (by decide) (by decide) (by omega) fun r6 d6 a6 c6 b6 => ⟨la, ?_⟩
      obtain ⟨c, ec, c97, c122⟩ := abc_sign a6 c6
      refine ⟨c, ec, by rw [List.length_map]; omega, cs ++ [c], d6, by rw [List.length_append, lc]; rfl, fun x hx => ?_, b6.mono (by omega), by rw [List.map_append]; rfl, rfl⟩
      rcases List.mem_append.mp hx with h | h
      · exact hcs x h
      · rw [List.mem_singleton.mp h]; exact ⟨c97, c122⟩
    · rintro acc ρ ⟨cs, d5, lc, hcs, b5, rfl, eρ⟩
      rw [List.length_range] at lc b5
      rw [eρ]
      have jc := tl_joinC cs
      have jl : (tl (Str.join (Str.ofString "") (cs.map fun c => (⟨#[c]⟩ : Str)))).length ≤ 6 := by rw [jc, lc]; omega
      have js : ∀ c ∈ tl (Str.join (Str.ofString "") (cs.map fun c => (⟨#[c]⟩ : Str))), 97 ≤ c ∧ c ≤ 122 := by rw [jc]; exact hcs
      have e1 : ((cs.map fun c => (⟨#[c]⟩ : Str)).map (·.length)).sum = cs.length := by
        rw [List.map_map]
        clear jc jl js hcs lc
        induction cs with
        | nil => rfl
        | cons c r ih =>
          rw [List.map_cons, List.sum_cons, ih]
          show 1 + r.length = r.length + 1
          omega
      have e2 : (Str.ofString "").length = 0 := by decide +kernel
      unfold mJoin
      walk_at "f"
      refine strsF_f ⟨?_, ?_⟩
      · rw [e1, e2]
        omega
      rw [show Txt.join (Str.ofString "") (cs.map fun c => (⟨#[c]⟩ : Str)) = Str.join (Str.ofString "") (cs.map fun c => (⟨#[c]⟩ : Str)) from join_eq _ _]
      generalize Str.join (Str.ofString "") (cs.map fun c => (⟨#[c]⟩ : Str)) = tail at jl js
      have ex := abc_signN (d := own / 26) (by omega) (by omega)
      have ey := abc_signN (d := own % 26) (by omega) (by omega)
      have n0 : NameS (((⟨#[97 + (own / 26).toNat]⟩ : Str) ++ (⟨#[97 + (own % 26).toNat]⟩ : Str)) ++ tail) := name_two ⟨by omega, by omega⟩ ⟨by omega, by omega⟩ jl js
      have k0 : NmK own (((⟨#[97 + (own / 26).toNat]⟩ : Str) ++ (⟨#[97 + (own % 26).toNat]⟩ : Str)) ++ tail) := .inr (by rw [tl_two]; rfl)
      have add : ∀ s', NameS s' → ∀ s'' ∈ ss ++ [s'], NameS s'' := fun s' hs' y hy => by
        rcases List.mem_append.mp hy with h | h
        · exact hss y h
        · rw [List.mem_singleton.mp h]; exact hs'
      refine ⟨⟨by decide, by decide⟩, la, _, ex, la, _, ey, by show 1 + 1 ≤ sizeLine; decide, by rw [len_tl tail, lin]; show 2 + _ ≤ _; omega, ?_⟩
      by_cases h13 : (m : Int) < 13
      · rw [if_pos h13]
        refine take_step b5 (by decide) (by decide) (by omega) fun r6 d6 a6 c6 b6 => ?_
        by_cases h6 : r6 = 0
        · rw [if_pos h6]
          have hi13 : i < drawnWords.length := by show i < 12; omega
          have wok := drawnWords_ok _ (List.getElem_mem hi13)
          refine ⟨.str drawnWords[i], by rw [atI_map]; unfold atI; rw [ixN_nat hi13]; show (drawnWords[i]?).map _ = _; rw [List.getElem?_eq_getElem hi13]; rfl, ?_⟩
          exact f_namesU_3 own0 own1 (by omega) wok (.inl (List.getElem_mem hi13)) old fun s' hs' hk' hn' => ⟨ss ++ [s'], d6, by rw [List.length_append, ls]; rfl, add s' hs', newN s' hn', newK s' hk', b6.mono (by omega), rfl⟩
        · rw [if_neg h6]
          exact f_namesU_3 own0 own1 (by omega) n0 k0 old fun s' hs' hk' hn' => ⟨ss ++ [s'], d6, by rw [List.length_append, ls]; rfl, add s' hs', newN s' hn', newK s' hk', b6.mono (by omega), rfl⟩
      · rw [if_neg h13]
        exact f_namesU_3 own0 own1 (by omega) n0 k0 old fun s' hs' hk' hn' => ⟨ss ++ [s'], d5, by rw [List.length_append, ls]; rfl, add s' hs', newN s' hn', newK s' hk', b5.mono (by omega), rfl⟩
  · rintro ρ ⟨ss, d3, ls, hss, nd, knd, b3, rfl⟩
    unfold F__law_names_1
    walk_at "f"
    exact h ss d3 _ ls hss nd (b3.mono (by omega))
/-! ### words drawn, strictly rising -/
section
open PySem.Spec (ltCps)
open PyProof.Rows (risingS sortedS)
theorem ltc_tri : ∀ a b : List Nat, ltCps a b = false → a ≠ b → ltCps b a = true
  | [], [], _, h => absurd rfl h
  | [], _ :: _, h, _ => by cases h
  | _ :: _, [], _, _ => rfl
  | a :: r, b :: t, h, n => by
    simp only [ltCps, Bool.or_eq_false_iff, decide_eq_false_iff_not, Bool.and_eq_false_iff, beq_eq_false_iff_ne] at h
    simp only [ltCps, Bool.or_eq_true, decide_eq_true_eq, Bool.and_eq_true, beq_iff_eq]
    by_cases e : a = b
    · subst e
      rcases h.2 with h2 | h2
      · exact absurd rfl h2
      · exact .inr ⟨rfl, ltc_tri r t h2 fun e => n (by rw [e])⟩
    · exact .inl (by omega)
theorem ltc_trans : ∀ a b c : List Nat, ltCps a b = true → ltCps b c = true → ltCps a c = true
  | [], [], _, h, _ => by cases h
  | _ :: _, [], _, h, _ => by cases h
  | [], _ :: _, [], _, h => by cases h
  | [], _ :: _, _ :: _, _, _ => rfl
  | _ :: _, _ :: _, [], _, h => by cases h
  | a :: r, b :: t, c :: u, h1, h2 => by
    simp only [ltCps, Bool.or_eq_true, decide_eq_true_eq, Bool.and_eq_true, beq_iff_eq] at h1 h2 ⊢
    rcases h1 with h1 | ⟨e1, h1⟩ <;> rcases h2 with h2 | ⟨e2, h2⟩
    · exact .inl (by omega)
    · exact .inl (by omega)
    · exact .inl (by omega)
    · exact .inr ⟨by omega, ltc_trans r t u h1 h2⟩
theorem ltc_lt : ∀ a b : List Nat, ltCps a b = true → a < b
  | [], [], h => by cases h
  | [], _ :: _, _ => List.Lex.nil
  | _ :: _, [], h => by cases h
  | a :: r, b :: t, h => by
    simp only [ltCps, Bool.or_eq_true, decide_eq_true_eq, Bool.and_eq_true, beq_iff_eq] at h
    rcases h with h | ⟨rfl, h⟩
    · exact List.Lex.rel h
    · exact List.Lex.cons (ltc_lt r t h)
theorem rising_ltc : ∀ (p : Str) (l : List Str), risingS p l = true → (p :: l).Nodup → (p :: l).Pairwise fun x y => ltCps x.cps.toList y.cps.toList = true
  | p, [], _, _ => List.pairwise_singleton _ _
  | p, x :: r, h, nd => by
    have nd' := List.nodup_cons.mp nd
    have h : (!ltCps x.cps.toList p.cps.toList && risingS x r) = true := h
    rw [Bool.and_eq_true, Bool.not_eq_true'] at h
    have ih := rising_ltc x r h.2 nd'.2
    have px : ltCps p.cps.toList x.cps.toList = true := ltc_tri _ _ h.1 fun e => nd'.1 (by
      have : x = p := by
        cases x; cases p
        exact congrArg _ (Array.toList_inj.mp e)
      rw [this]; exact List.mem_cons_self)
    refine List.pairwise_cons.mpr ⟨fun y hy => ?_, ih⟩
    rcases List.mem_cons.mp hy with rfl | hy
    · exact px
    · exact ltc_trans _ _ _ px ((List.pairwise_cons.mp ih).1 y hy)
theorem sorted_pw {l : List Str} (h : sortedS l = true) (nd : l.Nodup) : l.Pairwise fun x y => x.cps.toList < y.cps.toList := by
  cases l with
  | nil => exact .nil
  | cons p r => exact (rising_ltc p r h nd).imp fun h => ltc_lt _ _ h
end
theorem erase_map {α β : Type} (f : α → β) : ∀ (xs : List α) (k : Nat), (xs.map f).eraseIdx k = (xs.eraseIdx k).map f
  | [], _ => rfl
  | _ :: _, 0 => rfl
  | x :: r, k + 1 => by
    show f x :: (r.map f).eraseIdx k = f x :: (r.eraseIdx k).map f
    rw [erase_map f r k]
theorem perm_erase {α : Type} : ∀ (l : List α) (k : Nat) (h : k < l.length), (l[k] :: l.eraseIdx k).Perm l
  | x :: r, 0, _ => .refl _
  | x :: r, k + 1, h => (List.Perm.swap x (r[k]'(Nat.lt_of_succ_lt_succ h)) (r.eraseIdx k)).trans ((perm_erase r k (Nat.lt_of_succ_lt_succ h)).cons x)
theorem f_some_words {ds : List PyData} {n m : Nat} {ss : List Str} (hb : BoxD ds n) (hn : n < 100000000) (hm : m ≤ 20) (l1 : ss.length ≤ 200) (nd : ss.Nodup) {P : PyData → List Sl → Prop}
    (h : ∀ (ws : List Str) ds' sl, ws.length ≤ m → (∀ s ∈ ws, s ∈ ss) → ws.Pairwise (fun x y => x.cps.toList < y.cps.toList) → BoxD ds' (n + 21) → P (wordsD ws) (.own ds' :: sl)) : F__law_some_words [.own ds, .fz (.list (ss.map .str)), .fz (.int (m : Int))] P := by
  have lin : sizeLine = 16777216 := by decide +kernel
  unfold F__law_some_words
  walk_at "w"
  rw [List.length_map]
  refine take_step hb (by split <;> omega) (by split <;> omega) (by omega) fun r1 d1 a1 c1 b1 => ⟨by omega, by split at c1 <;> omega, ?_⟩
  obtain ⟨k1, rfl⟩ := Int.eq_ofNat_of_zero_le a1
  have hk : k1 ≤ ss.length ∧ k1 ≤ m := by split at c1 <;> omega
  rw [Int.toNat_natCast]
  refine for_range (fun i ρ => ∃ (l f : List Str) (d2 : List PyData), (f ++ l).Perm ss ∧ f.length = i ∧ BoxD d2 (n + 1 + i) ∧ ρ = [.own d2, .fz (.list (ss.map .str)), .fz (.int (m : Int)), .own (l.map .str), .own (f.map .str), .no]) ⟨ss, [], d1, .refl _, rfl, b1, rfl⟩ ?_ ?_
  · rintro i ρ hi ⟨l, f, d2, q1, q2, q5, rfl⟩
    have ql := q1.length_eq
    rw [List.length_append] at ql
    unfold F__law_some_words_2
    walk_at "w"
    rw [List.length_map]
    refine take_step q5 (by omega) (by omega) (by omega) fun r2 d3 a2 c2 b2 => ⟨by omega, by omega, ?_⟩
    obtain ⟨k2, rfl⟩ := Int.eq_ofNat_of_zero_le a2
    have hk2 : k2 < l.length := by omega
    refine ⟨k2, .str l[k2], ?_, by rw [List.getElem?_map, List.getElem?_eq_getElem hk2]; rfl, by rw [List.length_map]; omega, l.eraseIdx k2, f ++ [l[k2]], d3, ?_, by rw [List.length_append, q2]; rfl, b2.mono (by omega), rfl, ?_, by rw [List.map_append]; rfl⟩
    · exact PySem.seqIndex_of (by omega) (by omega)
    · refine List.Perm.trans ?_ q1
      rw [List.append_assoc]
      exact List.Perm.append_left f (perm_erase l k2 hk2)
    · rw [erase_map]
  · rintro ρ ⟨l, f, d2, q1, q2, q5, rfl⟩
    have ql := q1.length_eq
    rw [List.length_append] at ql
    have nf : f.Nodup := (List.nodup_append.mp (q1.nodup_iff.mpr nd)).1
    unfold F__law_some_words_1
    walk_at "w"
    refine strsF_map ⟨by omega, fun ms pm so => ?_⟩
    exact h ms d2 _ (by rw [pm.length_eq]; omega) (fun s hs => q1.mem_iff.mp (List.mem_append.mpr (.inl (pm.mem_iff.mp hs)))) (sorted_pw so (pm.nodup_iff.mpr nf)) (q5.mono (by omega))
/-! comprehensions over lists of the store, by their state -/
theorem lcH_inv {α : Type} {sx : Nat} {p : Addr} {g : FG} {ft : FT} {fe : FE} {vs : List Nat} {ρ : En} {P : List PyData → En → Prop} {ds : List PyData} (xs : List α) (e : α → PyData) (W : Nat → List PyData → En → Prop) (hd : ds = xs.map e) (hv : vs.all (slotF ρ) = true) (h0 : W 0 [] (wipeF ρ vs))
    (stay : ∀ i acc ρ2, W i acc (wipeF ρ2 vs) → ∃ S, (wipeF ρ2 vs)[sx]? = some (.st S) ∧ S p = some (.lst ds))
    (st : ∀ (i : Nat) (x : α) (acc : List PyData) (ρ2 : En), xs[i]? = some x → i < xs.length → W i acc ρ2 →
      g (e x) ρ2 fun ρ3 => ft ρ3 fun b ρ4 => if b = true then fe ρ4 fun y ρ5 => acc.length < sizeLine ∧ vs.all (slotF ρ5) = true ∧ W (i + 1) (acc ++ [y]) (wipeF ρ5 vs) else vs.all (slotF ρ4) = true ∧ W (i + 1) acc (wipeF ρ4 vs))
    (q : ∀ acc ρ2, W xs.length acc (wipeF ρ2 vs) → P acc (wipeF ρ2 vs)) : DL.lcWH sx p ds ds g ft fe vs ρ P := by
  subst hd
  refine ⟨hv, W, h0, stay, ?_, by rw [List.length_map]; exact q⟩
  intro i d acc ρ2 hd w
  rw [List.getElem?_map] at hd
  cases ex : xs[i]? with
  | none => rw [ex] at hd; cases hd
  | some x =>
    rw [ex] at hd
    cases hd
    exact st i x acc ρ2 ex (List.getElem?_eq_some_iff.mp ex).1 w
/-! ### the world in the store -/
structure WoAt (S : Sto) (w pd : Addr) (o : Wo) : Prop where
  ob : S w = some (.dct (mkK woN (woV o (hdl pd))))
  pr : S pd = some (.dct (kmap pairD o.prices))
  ne : w ≠ pd
theorem WoAt.res {S : Sto} {w pd : Addr} {o : Wo} (h : WoAt S w pd o) : Res S (hdl w) (woD o) :=
  .dct h.ob (ResKs.mk (.cons (.refl _) (.cons (.refl _) (.cons (.refl _) (.cons (.refl _) (.cons (.refl _) (.cons (.dct h.pr (ResKs.refl _)) .nil)))))))
theorem WoAt.keep {S S' : Sto} {w pd : Addr} {o : Wo} (h : WoAt S w pd o) (k : ∀ a, a = w ∨ a = pd → S' a = S a) : WoAt S' w pd o := ⟨(k w (.inl rfl)).trans h.ob, (k pd (.inr rfl)).trans h.pr, h.ne⟩
structure Wo.Ok (o : Wo) (m : Nat) : Prop where
  o0 : 0 < o.owners.length
  o1 : o.owners.length ≤ 8
  on : ∀ s ∈ o.owners, NameS s
  p1 : o.pool.length ≤ 10
  pn : ∀ s ∈ o.pool, NameS s
  pd : o.pool.Nodup
  n0 : 0 < o.numbers.length
  n2 : 2 ≤ o.numbers.length
  n1 : o.numbers.length ≤ 60
  nn : ∀ x ∈ o.numbers, 1 ≤ x ∧ x ≤ 9999
  nu : o.numbers.Nodup
  f0 : 0 ≤ o.first
  g0 : 0 ≤ o.far
  f1 : o.first + o.far ≤ 999
  pv : ∀ z ∈ o.prices, 1 ≤ z.2.1 ∧ z.2.1 ≤ 99999 ∧ 0 ≤ z.2.2 ∧ z.2.2 ≤ z.2.1
  pk : ∀ z ∈ o.prices, ∃ n, z.1 = .inl n ∧ 1 ≤ n ∧ n ≤ 9999
  pl : o.prices.length ≤ m
theorem Wo.Ok.mono {o : Wo} {m m' : Nat} (h : o.Ok m) (l : m ≤ m') : o.Ok m' := by
  obtain ⟨h1, h2, h3, h4, h5, h6, h7, h7', h8, h9, h9', h10, h11, h12, h13, h14, h15⟩ := h
  exact ⟨h1, h2, h3, h4, h5, h6, h7, h7', h8, h9, h9', h10, h11, h12, h13, h14, Nat.le_trans h15 l⟩
section
variable {S : Sto} {w pd : Addr} {o : Wo}
end
section
variable {S : Sto} {w pd : Addr} {o : Wo}
theorem f_giveG (h : WoAt S w pd o) {m : Nat} (ok : o.Ok m) (hm : m ≤ 1000) {ds : List PyData} {n : Nat} (hb : BoxD ds n) (hn : n < 80000000) {P : PyData → List Sl → Prop}
    (q : ∀ ow x p l ws ds' s1 S' o', Deed.Ok (.give ow x p l ws) → BoxD ds' (n + 40) → WoAt S' w pd o' → o'.Ok (m + 1) → (∀ a, a ≠ pd → S' a = S a) → P (Deed.give ow x p l ws).d [.own ds', s1, .st S']) : F__law_give [.own ds, .fz (hdl w), .st S] P := by
  have lin : sizeLine = 16777216 := by decide +kernel
  have n0 := ok.n0
  have n1 := ok.n1
  have o0 := ok.o0
  have o1 := ok.o1
  have pl := ok.pl
  unfold F__law_give
  walk_at "w"
  refine f_price hb (by omega) fun p d1 p0 p1 b1 => ?_
  walk_at "w"
  refine get_at h.ob 2 (get_at h.ob 2 ?_)
  walk_at "w"
  rw [List.length_map]
  refine take_step b1 (by omega) (by omega) (by omega) fun r2 d2 a2 c2 b2 => ?_
  obtain ⟨x, e, mx⟩ := at_mem (xs := o.numbers) a2 c2
  have hx := ok.nn x mx
  refine ⟨.int x, by rw [atI_map, e]; rfl, ?_⟩
  walk_at "w"
  refine take_step b2 (by omega) (by omega) (by omega) fun r3 d3 a3 c3 b3 => ⟨⟨by decide, by decide⟩, ?_⟩
  refine take_step b3 (by decide) (by decide) (by omega) fun r4 d4 a4 c4 b4 => ?_
  obtain ⟨v, e, mm⟩ := at_mem (xs := [PyData.int 0, PyData.int p, PyData.int r3, PyData.int (p / 2)]) a4 c4
  obtain ⟨l, rfl, l0, l1⟩ : ∃ a, v = .int a ∧ 0 ≤ a ∧ a ≤ p := by
    simp only [List.mem_cons, List.not_mem_nil, or_false] at mm
    rcases mm with rfl | rfl | rfl | rfl <;> exact ⟨_, rfl, by omega, by omega⟩
  refine ⟨_, e, ?_⟩
  walk_at "w"
  refine get_at h.ob 5 ⟨pd, _, rfl, h.pr, _, h.pr, by unfold kmap; rw [List.length_map]; omega, ?_⟩
  rw [val_kmap]
  cases ek : kget o.prices (.inl x) with
  | some v =>
    show ∃ kd, _
    refine get_at h.ob 0 (get_at h.ob 0 ?_)
    walk_at "w"
    rw [List.length_map]
    refine take_step b4 (by omega) (by omega) (by omega) fun r5 d5 a5 c5 b5 => ?_
    obtain ⟨ow, eo, mo⟩ := at_mem (xs := o.owners) a5 c5
    refine ⟨.str ow, by rw [atI_map, eo]; rfl, ?_⟩
    refine get_at h.ob 1 ?_
    refine f_some_words (m := 6) b5 (by omega) (by decide) (by have := ok.p1; omega) ok.pd fun ws d6 _ wl wm wp b6 => ?_
    exact q ow x p l ws d6 _ _ _ ⟨ok.on ow mo, hx.1, hx.2, p0, p1, l0, l1, wl, fun y hy => ok.pn y (wm y hy), wp⟩ (b6.mono (by omega)) h (ok.mono (by omega)) (fun a _ => rfl)
  | none =>
    show ∃ kd, _
    rw [show PyData.tuple [PyData.int p, PyData.int l] = pairD (p, l) from rfl, put_kmap]
    have h1 : WoAt (sset S pd (.dct (kmap pairD (kput o.prices (.inl x) (p, l))))) w pd { o with prices := kput o.prices (.inl x) (p, l) } := ⟨(sset_ne h.ne).trans h.ob, sset_same, h.ne⟩
    have hp : kput o.prices (.inl x) (p, l) = o.prices ++ [(.inl x, (p, l))] := by unfold kput; rw [ek]; rfl
    have ok1 : Wo.Ok { o with prices := kput o.prices (.inl x) (p, l) } (m + 1) := by
      obtain ⟨z1, z2, z3, z4, z5, z6, z7, z7', z8, z9, z9', z10, z11, z12, z13, z14, z15⟩ := ok
      refine ⟨z1, z2, z3, z4, z5, z6, z7, z7', z8, z9, z9', z10, z11, z12, fun z hz => ?_, fun z hz => ?_, ?_⟩
      · have hz : z ∈ kput o.prices (.inl x) (p, l) := hz
        rw [hp] at hz
        rcases List.mem_append.mp hz with hz | hz
        · exact z13 z hz
        · rw [List.mem_singleton.mp hz]; exact ⟨p0, p1, l0, l1⟩
      · have hz : z ∈ kput o.prices (.inl x) (p, l) := hz
        rw [hp] at hz
        rcases List.mem_append.mp hz with hz | hz
        · exact z14 z hz
        · rw [List.mem_singleton.mp hz]; exact ⟨x, rfl, hx.1, hx.2⟩
      · show (kput o.prices (.inl x) (p, l)).length ≤ _
        rw [hp, List.length_append]
        show o.prices.length + 1 ≤ _
        omega
    refine get_at h1.ob 0 (get_at h1.ob 0 ?_)
    walk_at "w"
    rw [List.length_map]
    refine take_step b4 (by omega) (by omega) (by omega) fun r5 d5 a5 c5 b5 => ?_
    obtain ⟨ow, eo, mo⟩ := at_mem (xs := o.owners) a5 c5
    refine ⟨.str ow, by rw [atI_map, eo]; rfl, ?_⟩
    refine get_at h1.ob 1 ?_
    refine f_some_words (m := 6) b5 (by omega) (by decide) (by have := ok.p1; omega) ok.pd fun ws d6 _ wl wm wp b6 => ?_
    exact q ow x p l ws d6 _ _ _ ⟨ok.on ow mo, hx.1, hx.2, p0, p1, l0, l1, wl, fun y hy => ok.pn y (wm y hy), wp⟩ (b6.mono (by omega)) h1 ok1 (fun a ha => sset_ne ha)
theorem f_give (h : WoAt S w pd o) {m : Nat} (ok : o.Ok m) (hm : m ≤ 1000) {ds : List PyData} {n : Nat} (hb : BoxD ds n) (hn : n < 80000000) {P : PyData → List Sl → Prop}
    (q : ∀ d ds' s1 S' o', Deed.Ok d → BoxD ds' (n + 40) → WoAt S' w pd o' → o'.Ok (m + 1) → (∀ a, a ≠ pd → S' a = S a) → P d.d [.own ds', s1, .st S']) : F__law_give [.own ds, .fz (hdl w), .st S] P :=
  f_giveG h ok hm hb hn fun ow x p l ws ds' s1 S' o' hd b h' ok' k => q (.give ow x p l ws) ds' s1 S' o' hd b h' ok' k
end
theorem fix_ints (l : List Int) : (l.map PyData.int).all fixD = true := List.all_eq_true.mpr fun d hd => by
  obtain ⟨i, _, rfl⟩ := List.mem_map.mp hd
  rfl
def FzN (s : Sl) : Prop := s = .no ∨ ∃ d, s = .fz d
theorem f_heap3 {E : FEnds} {l f zs : List Int} {d2 : List PyData} {s6 : Sl} {S2 : Sto} {w p1 p2 ps : Addr} {mo i : PyData} (e1 : S2 p1 = some (.lst (l.map .int))) (e2 : S2 p2 = some (.lst (f.map .int))) (es : S2 ps = some (.lst (zs.map .int))) (n12 : p1 ≠ p2) (z0 : 0 < zs.length) (z1 : zs.length ≤ 60) (zl : ∀ x ∈ zs, x ∈ l) (lf : f.length ≤ 60) {k : Nat} (hb : BoxD d2 k) (hk : k < 90000000)
    (q : ∀ x, x ∈ l → ∀ d3, BoxD d3 (k + 1) → E.nx [.own d3, .fz (hdl w), .fz mo, .fz (hdl p1), .fz (hdl p2), .fz i, s6, .no, .fz (hdl ps), .no, .no, .no, .no, .no, .st (sset (sset S2 p2 (.lst ((f ++ [x]).map .int))) p1 (.lst ((l.erase x).map .int)))]) :
    F__law_heap_3 E [.own d2, .fz (hdl w), .fz mo, .fz (hdl p1), .fz (hdl p2), .fz i, s6, .no, .fz (hdl ps), .no, .no, .no, .no, .no, .st S2] := by
  have lin : sizeLine = 16777216 := by decide +kernel
  unfold F__law_heap_3
  walk_at "w"
  refine ⟨p2, _, rfl, e2, ps, _, rfl, es, ?_⟩
  rw [List.length_map]
  refine take_step hb (by omega) (by omega) (by omega) fun r1 d3 a1 c1 b1 => ?_
  obtain ⟨x, ex, mx⟩ := at_mem (xs := zs) a1 c1
  refine ⟨ps, _, .int x, rfl, es, by rw [atI_map, ex]; rfl, _, e2, by rw [List.length_map]; omega, ?_⟩
  have ef : f.map PyData.int ++ [.int x] = (f ++ [x]).map .int := by rw [List.map_append]; rfl
  rw [ef]
  refine ⟨p1, _, rfl, (sset_ne n12).trans e1, p2, _, .int x, rfl, sset_same, ?_, ?_⟩
  · rw [atI_last (by simp), List.map_append, List.getLast?_append]; rfl
  · exact ⟨l, (sset_ne n12).trans e1, zl x mx, q x (zl x mx) d3 b1⟩
theorem f_heap5 {E : FEnds} {l f : List Int} {d2 : List PyData} {s8 : Sl} {S2 : Sto} {w pd p1 p2 : Addr} {o : Wo} {m : Nat} {mo i : PyData} (ho : WoAt S2 w pd o) (ok : o.Ok m) (e1 : S2 p1 = some (.lst (l.map .int))) (e2 : S2 p2 = some (.lst (f.map .int))) (n12 : p1 ≠ p2) (w1 : w ≠ p1) (w2 : w ≠ p2) (v1 : pd ≠ p1) (v2 : pd ≠ p2) (l0 : 0 < l.length) (l1 : l.length ≤ 60) (lf : f.length ≤ 60) (h8 : FzN s8) {k : Nat} (hb : BoxD d2 k) (hk : k < 85000000)
    (q : ∀ x, x ∈ l → ∀ d3 s6 s8 S3, BoxD d3 (k + 2) → S3 p1 = some (.lst ((l.erase x).map .int)) → S3 p2 = some (.lst ((f ++ [x]).map .int)) → WoAt S3 w pd o → (∀ a, S2 a ≠ none → a ≠ p1 → a ≠ p2 → S3 a = S2 a) → FzN s6 → FzN s8 → E.nx [.own d3, .fz (hdl w), .fz mo, .fz (hdl p1), .fz (hdl p2), .fz i, s6, .no, s8, .no, .no, .no, .no, .no, .st S3]) :
    F__law_heap_5 E [.own d2, .fz (hdl w), .fz mo, .fz (hdl p1), .fz (hdl p2), .fz i, .no, .no, s8, .no, .no, .no, .no, .no, .st S2] := by
  have lin : sizeLine = 16777216 := by decide +kernel
  unfold F__law_heap_5
  have rest : ∀ (kn : List Int), (∀ x ∈ kn, x ∈ l) → kn.length ≤ l.length → ∀ p3, S2 p3 = none → ∀ (ps : Addr) (zs : List Int) d3, (ps = p3 ∧ zs = kn ∨ ps = p1 ∧ zs = l) → 0 < zs.length → BoxD d3 (k + 1) →
      F__law_heap_3 E [.own d3, .fz (hdl w), .fz mo, .fz (hdl p1), .fz (hdl p2), .fz i, .fz (hdl p3), .no, .fz (hdl ps), .no, .no, .no, .no, .no, .st (sset S2 p3 (.lst (kn.map .int)))] := by
    intro kn hkn lk p3 h3 ps zs d3 hz z0 b3
    have n13 : p1 ≠ p3 := some_ne e1 h3
    have n23 : p2 ≠ p3 := some_ne e2 h3
    have es : sset S2 p3 (.lst (kn.map .int)) ps = some (.lst (zs.map .int)) := by
      rcases hz with ⟨rfl, rfl⟩ | ⟨rfl, rfl⟩
      · exact sset_same
      · exact (sset_ne n13).trans e1
    have zl : ∀ x ∈ zs, x ∈ l := by
      rcases hz with ⟨_, rfl⟩ | ⟨_, rfl⟩
      · exact hkn
      · exact fun x h => h
    have z1 : zs.length ≤ 60 := by
      rcases hz with ⟨_, rfl⟩ | ⟨_, rfl⟩ <;> omega
    refine f_heap3 ((sset_ne n13).trans e1) ((sset_ne n23).trans e2) es n12 z0 z1 zl lf b3 (by omega) fun x hx d4 b4 => ?_
    refine q x hx d4 _ _ _ (b4.mono (by omega)) sset_same ((sset_ne (Ne.symm n12)).trans sset_same) (ho.keep fun a ha => ?_) (fun a ha m1 m2 => ?_) (.inr ⟨_, rfl⟩) (.inr ⟨_, rfl⟩)
    · rcases ha with rfl | rfl
      · rw [sset_ne w1, sset_ne w2, sset_ne (some_ne ho.ob h3)]
      · rw [sset_ne v1, sset_ne v2, sset_ne (some_ne ho.pr h3)]
    · rw [sset_ne m1, sset_ne m2, sset_ne (fun e => ha (by rw [e]; exact h3))]
  rcases h8 with rfl | ⟨d8, rfl⟩
  all_goals
    walk_at "w"
    refine ⟨p1, _, rfl, e1, fix_ints _, ?_⟩
    refine lcH_inv l .int (fun j acc ρ => ∃ kn : List Int, acc = kn.map .int ∧ (∀ x ∈ kn, x ∈ l) ∧ kn.length ≤ j ∧ ρ = wipeF [.own d2, .fz (hdl w), .fz mo, .fz (hdl p1), .fz (hdl p2), .fz i, .no, .no, _, .no, .no, .no, .no, .no, .st S2] [7]) rfl rfl ⟨[], rfl, (fun x h => by cases h), Nat.le_refl _, rfl⟩ ?_ ?_ ?_
    · rintro j acc ρ2 ⟨kn, rfl, hkn, lk, eρ⟩
      exact ⟨S2, by rw [eρ]; rfl, e1⟩
    · rintro j x acc ρ2 hx hj ⟨kn, rfl, hkn, lk, rfl⟩
      unfold F__law_heap_4
      walk_at "w"
      refine get_at ho.ob 5 ⟨_, .inl ⟨pd, rfl, .inl ho.pr⟩, ?_⟩
      rw [val_kmap]
      cases ek : kget o.prices (.inl x) with
      | none =>
        walk_at "w"
        exact ⟨kn, rfl, hkn, by omega⟩
      | some v =>
        walk_at "w"
        exact ⟨(by rw [List.length_map]; omega), kn ++ [x], (by rw [List.map_append]; rfl), (fun y hy => (List.mem_append.mp hy).elim (hkn y) fun z => by rw [List.mem_singleton.mp z]; exact List.mem_of_getElem? hx), (by rw [List.length_append]; show kn.length + 1 ≤ _; omega)⟩
    · rintro acc ρ2 ⟨kn, rfl, hkn, lk, eρ⟩
      rw [eρ]
      walk_at "w"
      intro p3 h3
      refine ⟨sset S2 p3 (.lst (kn.map .int)), [.no, .no, .no, .no, .no, .no, .fz (.list (kn.map .int)), .no, .no, .no, .no, .no, .no, .no], .cons .fgo (.cons .fgt (.cons .fgt (.cons .fgt (.cons .fgt (.cons .fgt (.cons (.fz (.lst sset_same (ResAll.refl _))) (.cons .no (.cons (by first | exact .no | exact .fgt) (.cons .no (.cons .no (.cons .no (.cons .no (.cons .no .nil))))))))))))), ?_⟩
      walk_at "w"
      refine ⟨(Lay.list (LayA.ints kn)).shaped (by decide), rfl, ?_⟩
      cases kn with
      | nil => exact if0 (by decide +kernel) (rest [] hkn lk p3 h3 p1 l d2 (.inr ⟨rfl, rfl⟩) l0 (hb.mono (by omega)))
      | cons y r =>
        refine if1 rfl ?_
        refine take_step hb (by decide) (by decide) (by omega) fun r1 d3 a1 c1 b1 => ?_
        by_cases c : 0 < r1
        · rw [if_pos c]
          exact rest (y :: r) hkn lk p3 h3 p3 (y :: r) d3 (.inl ⟨rfl, rfl⟩) (Nat.zero_lt_succ _) b1
        · rw [if_neg c]
          exact rest (y :: r) hkn lk p3 h3 p1 l d3 (.inr ⟨rfl, rfl⟩) l0 b1
theorem f_heap2 {f : List Int} {d2 : List PyData} {s8 : Sl} {S2 : Sto} {w pd p1 p2 : Addr} {o : Wo} {m mo : Nat} (ho : WoAt S2 w pd o) (ok : o.Ok m) (e2 : S2 p2 = some (.lst (f.map .int))) (f2 : 2 ≤ f.length) (f12 : f.length ≤ 12) (fn : ∀ x ∈ f, 1 ≤ x ∧ x ≤ 9999) (fd : f.Nodup) (h8 : FzN s8) {k : Nat} (hb : BoxD d2 k) (hk : k < 85000000) {P : PyData → List Sl → Prop}
    (q : ∀ d ds' s1 s2 S', Deed.Ok d → BoxD ds' (k + 5) → (∀ a, S2 a ≠ none → S' a = S2 a) → P d.d [.own ds', s1, s2, .st S']) :
    F__law_heap_2 { nx := fun ρ' => P .none (ρ'.take 3 ++ ρ'.drop 14), rt := fun d ρ' => P d (ρ'.take 3 ++ ρ'.drop 14) } [.own d2, .fz (hdl w), .fz (.int (mo : Int)), .fz (hdl p1), .fz (hdl p2), .no, .no, .no, s8, .no, .no, .no, .no, .no, .st S2] := by
  have lin : sizeLine = 16777216 := by decide +kernel
  unfold F__law_heap_2
  rcases h8 with rfl | ⟨d8, rfl⟩
  all_goals
    walk_at "w"
    refine ⟨p2, _, rfl, e2, fix_ints _, ?_⟩
    refine lcH_inv f .int (fun j acc ρ => ∃ pr : List (Int × Int), acc = asksD pr ∧ pr.length = j ∧ (∀ p ∈ pr, 1 ≤ p.1 ∧ p.1 ≤ 99999 ∧ 0 ≤ p.2 ∧ p.2 ≤ p.1) ∧ ρ = wipeF [.own d2, .fz (hdl w), .fz (.int (mo : Int)), .fz (hdl p1), .fz (hdl p2), .no, .no, .no, _, .no, .no, .no, .no, .no, .st S2] [7]) rfl rfl ⟨[], rfl, rfl, (fun x h => by cases h), rfl⟩ ?_ ?_ ?_
    · rintro j acc ρ2 ⟨pr, rfl, lp, hp, eρ⟩
      exact ⟨S2, by rw [eρ]; rfl, e2⟩
    · rintro j x acc ρ2 hx hj ⟨pr, rfl, lp, hp, rfl⟩
      unfold F__law_heap_1
      walk_at "w"
      refine get_at ho.ob 5 ⟨_, .inl ⟨pd, rfl, .inl ho.pr⟩, _, .inl ⟨pd, rfl, .inl ho.pr⟩, ?_⟩
      obtain ⟨p, e, q1, q2, q3, q4⟩ : ∃ p : Int × Int, (valD (kmap pairD o.prices) (.inl x)).getD (.tuple [.int 50, .int 20]) = pairD p ∧ 1 ≤ p.1 ∧ p.1 ≤ 99999 ∧ 0 ≤ p.2 ∧ p.2 ≤ p.1 := by
        rw [val_kmap]
        cases ek : kget o.prices (.inl x) with
        | none => exact ⟨(50, 20), rfl, by decide, by decide, by decide, by decide⟩
        | some v =>
          have := ok.pv _ (kget_some ek)
          exact ⟨v, rfl, this.1, this.2.1, this.2.2.1, this.2.2.2⟩
      rw [e]
      walk_at "w"
      refine ⟨(by unfold asksD; rw [List.length_map]; omega), pr ++ [p], (by unfold asksD; rw [List.map_append]; rfl), (by rw [List.length_append, lp]; rfl), (fun y hy => ?_)⟩
      rcases List.mem_append.mp hy with h | h
      · exact hp y h
      · rw [List.mem_singleton.mp h]; exact ⟨q1, q2, q3, q4⟩
    · rintro acc ρ2 ⟨pr, rfl, lp, hp, eρ⟩
      rw [eρ]
      walk_at "w"
      refine lc_map pr (fun p => .tuple [.int p.1, .int p.2]) (fun p => some (.int p.2)) rfl rfl (by omega) (fun p R acc _ hacc hR => ?_) ?_
      · walk_at "w"
        exact ⟨hacc, hR⟩
      rw [fm_int]
      refine intsF_map ?_
      walk_at "w"
      refine lc_map pr (fun p => .tuple [.int p.1, .int p.2]) (fun p => some (.int p.1)) rfl rfl (by omega) (fun p R acc _ hacc hR => ?_) ?_
      · walk_at "w"
        exact ⟨hacc, hR⟩
      rw [fm_int]
      refine intsF_map ?_
      have s0 : 0 ≤ (pr.map fun p => p.2).sum := by
        have : ∀ l : List (Int × Int), (∀ p ∈ l, 0 ≤ p.2) → 0 ≤ (l.map fun p => p.2).sum := fun l => by
          induction l with
          | nil => exact fun _ => Int.le_refl _
          | cons z r ih =>
            intro h
            rw [List.map_cons, List.sum_cons]
            have := ih fun p hp => h p (List.mem_cons_of_mem _ hp)
            have := h z List.mem_cons_self
            omega
        exact this pr fun p h => (hp p h).2.2.1
      have t0 : 0 ≤ (pr.map fun p => p.1).sum ∧ (pr.map fun p => p.1).sum ≤ 100000 * pr.length := by
        have : ∀ l : List (Int × Int), (∀ p ∈ l, 1 ≤ p.1 ∧ p.1 ≤ 99999) → 0 ≤ (l.map fun p => p.1).sum ∧ (l.map fun p => p.1).sum ≤ 100000 * l.length := fun l => by
          induction l with
          | nil => exact fun _ => ⟨Int.le_refl _, Int.le_refl _⟩
          | cons z r ih =>
            intro h
            rw [List.map_cons, List.sum_cons, List.length_cons]
            have := ih fun p hp => h p (List.mem_cons_of_mem _ hp)
            have := h z List.mem_cons_self
            omega
        exact this pr fun p h => ⟨(hp p h).1, (hp p h).2.1⟩
      generalize (pr.map fun p => p.2).sum = low at *
      generalize (pr.map fun p => p.1).sum = high at *
      walk_at "w"
      refine take_step hb (by omega) (by omega) (by omega) fun r1 d3 a1 c1 b1 => ⟨⟨by decide, by decide, by decide⟩, ?_⟩
      refine take_step b1 (by decide) (by decide) (by omega) fun r2 d4 a2 c2 b2 => ?_
      intro p4 h4
      refine ⟨_, [.no, .no, .no, .no, .fz (.list (f.map .int)), .no, .no, .no, .no, .no, .no, .no, .no, .no], .cons .fgo (.cons .fgt (.cons .fgt (.cons .fgt (.cons (.fz (.lst ((sset_ne (some_ne e2 h4)).trans e2) (ResAll.refl _))) (.cons .no (.cons .no (.cons .no (.cons .fgt (.cons .fgt (.cons .fgt (.cons .fgt (.cons .no (.cons .no .nil))))))))))))), ?_⟩
      walk_at "w"
      refine intsF_map (bs := f) fun ms pms so => ⟨immAll_ints ms, ?_⟩
      refine take_step b2 (by decide) (by decide) (by omega) fun r3 d5 a3 c3 b3 => ?_
      obtain ⟨v, e3, mm⟩ := at_mem (xs := [PyData.int low, PyData.int (if low - 1 > 0 then low - 1 else 0), PyData.int high, PyData.int (low + r1), PyData.int r2, PyData.int (low + 1)]) a3 c3
      obtain ⟨am, rfl, ha⟩ : ∃ am : Int, v = .int am ∧ 0 ≤ am := by
        simp only [List.mem_cons, List.not_mem_nil, or_false] at mm
        rcases mm with rfl | rfl | rfl | rfl | rfl | rfl
        · exact ⟨_, rfl, s0⟩
        · exact ⟨_, rfl, by split <;> omega⟩
        · exact ⟨_, rfl, t0.1⟩
        · exact ⟨_, rfl, by omega⟩
        · exact ⟨_, rfl, by omega⟩
        · exact ⟨_, rfl, by omega⟩
      refine ⟨p4, _, _, rfl, sset_same, e3, ?_⟩
      have lm := pms.length_eq
      have pw : ms.Pairwise (· < ·) := List.Pairwise.imp₂ (fun a b h n => by omega) so (pms.nodup_iff.mpr fd)
      exact q (.heap ms (if am < 9999999 then am else 9999999)) d5 _ _ _ ⟨by omega, by omega, fun x hx => fn x (pms.mem_iff.mp hx), pw, by split <;> omega, by split <;> omega⟩ (b3.mono (by omega)) fun a ha => sset_ne fun e => ha (by rw [e]; exact h4)
section
variable {S : Sto} {w pd : Addr} {o : Wo}
theorem f_heap (h : WoAt S w pd o) {m : Nat} (ok : o.Ok m) (hm : m ≤ 1000) (two : 2 ≤ o.numbers.length) {mo : Nat} (mo2 : 2 ≤ mo) (mo12 : mo ≤ 12) {ds : List PyData} {n : Nat} (hb : BoxD ds n) (hn : n < 80000000) {P : PyData → List Sl → Prop}
    (q : ∀ d ds' s1 s2 S', Deed.Ok d → BoxD ds' (n + 40) → (∀ a, S a ≠ none → S' a = S a) → P d.d [.own ds', s1, s2, .st S']) : F__law_heap [.own ds, .fz (hdl w), .fz (.int (mo : Int)), .st S] P := by
  have lin : sizeLine = 16777216 := by decide +kernel
  have n1 := ok.n1
  unfold F__law_heap
  walk_at "w"
  refine get_at h.ob 2 ?_
  refine intsF_map (bs := o.numbers) ?_
  refine ⟨by omega, fun ms nd hm => ?_, fun ys pw hy => ?_⟩
  · have := nodup_len nd fun k hk => (hm k).mp hk
    omega
  have ynd : ys.Nodup := pw.imp fun h e => by omega
  have yp : ys.Perm o.numbers := (List.perm_ext_iff_of_nodup ynd ok.nu).mpr hy
  have ly := yp.length_eq
  walk_at "w"
  intro p1 hp1 p2 hp2
  have n21 := (sset_no hp2).2
  have s2 := (sset_no hp2).1
  refine ⟨p1, _, rfl, (sset_ne (Ne.symm n21)).trans sset_same, ?_⟩
  rw [List.length_map]
  refine take_step hb (by split <;> omega) (by split <;> omega) (by omega) fun r1 d1 a1 c1 b1 => ⟨by omega, by split at c1 <;> omega, ?_⟩
  obtain ⟨c, ec, c2, cm, cy⟩ : ∃ c : Nat, (2 + r1).toNat = c ∧ 2 ≤ c ∧ c ≤ mo ∧ c ≤ ys.length := ⟨_, rfl, by omega, by split at c1 <;> omega, by split at c1 <;> omega⟩
  rw [ec]
  refine for_range (fun i ρ => ∃ (l f : List Int) (d2 : List PyData) (s8 : Sl) (S2 : Sto), (f ++ l).Perm ys ∧ f.length = i ∧ BoxD d2 (n + 1 + 2 * i) ∧ S2 p1 = some (.lst (l.map .int)) ∧ S2 p2 = some (.lst (f.map .int)) ∧ WoAt S2 w pd o ∧ (∀ a, S a ≠ none → S2 a = S a) ∧ FzN s8 ∧ ρ = [.own d2, .fz (hdl w), .fz (.int (mo : Int)), .fz (hdl p1), .fz (hdl p2), .no, .no, .no, s8, .no, .no, .no, .no, .no, .st S2]) ?_ ?_ ?_
  · refine ⟨ys, [], d1, .no, _, .refl _, rfl, b1, (sset_ne (Ne.symm n21)).trans sset_same, sset_same, h.keep fun a ha => ?_, fun a ha => ?_, .inl rfl, rfl⟩
    · have : S a ≠ none := by
        rcases ha with rfl | rfl
        · rw [h.ob]; exact Option.some_ne_none _
        · rw [h.pr]; exact Option.some_ne_none _
      rw [sset_ne (fun e => this (by rw [e]; exact s2)), sset_ne (fun e => this (by rw [e]; exact hp1))]
    · rw [sset_ne (fun e => ha (by rw [e]; exact s2)), sset_ne (fun e => ha (by rw [e]; exact hp1))]
  · rintro i ρ hi ⟨l, f, d2, s8, S2, pm, lf, b2, e1, e2, ho, kp, h8, rfl⟩
    have ll := pm.length_eq
    rw [List.length_append] at ll
    have ne : ∀ {a b : Addr} {o : SO}, S a = some o → S b = none → a ≠ b := fun h h' => some_ne h h'
    refine ⟨rfl, ?_⟩
    refine f_heap5 ho ok e1 e2 (Ne.symm n21) (ne h.ob hp1) (ne h.ob s2) (ne h.pr hp1) (ne h.pr s2) (by omega) (by omega) (by omega) h8 b2 (by omega) fun x hx d3 s6 s8' S3 b3 g1 g2 ho3 k3 h6 h8' => ?_
    rcases h6 with rfl | ⟨d6, rfl⟩
    all_goals
      refine ⟨l.erase x, f ++ [x], d3, s8', S3, ?_, by rw [List.length_append, lf]; rfl, b3.mono (by omega), g1, g2, ho3, fun a ha => ?_, h8', rfl⟩
      · refine List.Perm.trans ?_ pm
        rw [List.append_assoc]
        exact List.Perm.append_left f (List.perm_cons_erase hx).symm
      · rw [k3 a (by rw [kp a ha]; exact ha) (fun e => ha (by rw [e]; exact hp1)) (fun e => ha (by rw [e]; exact s2)), kp a ha]
  · rintro ρ ⟨l, f, d2, s8, S2, pm, lf, b2, e1, e2, ho, kp, h8, rfl⟩
    have ll := pm.length_eq
    rw [List.length_append] at ll
    refine f_heap2 ho ok e2 (by omega) (by omega) (fun x hx => ?_) (List.nodup_append.mp (pm.nodup_iff.mpr ynd)).1 h8 b2 (by omega) fun d ds' s1 s2 S' hd b' k' => ?_
    · exact ok.nn x ((yp.mem_iff).mp (pm.mem_iff.mp (List.mem_append.mpr (.inl hx))))
    · exact q d ds' s1 s2 S' hd (b'.mono (by omega)) fun a ha => by rw [k' a (by rw [kp a ha]; exact ha), kp a ha]
end
theorem f_world4 {S : Sto} {m : Nat} (m0 : 2 ≤ m) (m1 : m ≤ 60) {ds : List PyData} {n : Nat} (hb : BoxD ds n) (hn : n < 8000000) {P : PyData → List Sl → Prop}
    (q : ∀ w pd o ds' s1 S', S w = none → S pd = none → WoAt S' w pd o → o.Ok 0 → o.owners.length ≤ 4 → o.numbers.length = m → (∀ a, S a ≠ none → S' a = S a) → BoxD ds' (n + 2100) → P (hdl w) [.own ds', s1, .st S']) : F__law_world [.own ds, .fz (.int (m : Int)), .st S] P := by
  have lin : sizeLine = 16777216 := by decide +kernel
  unfold F__law_world
  walk_at "w"
  refine f_namesU (m := 10) hb (by omega) (by decide) fun ss d1 _ l10 hss nd b1 => ?_
  walk_at "w"
  refine take_step b1 (by decide) (by decide) (by omega) fun r1 d2 a1 c1 b2 => ?_
  refine take_step b2 (by decide) (by decide) (by omega) fun r2 d3 a2 c2 b3 => ?_
  obtain ⟨v, e, mm⟩ := at_mem (xs := [PyData.int 0, PyData.int r1]) a2 c2
  obtain ⟨f, rfl, f0, f1⟩ : ∃ a, v = .int a ∧ 0 ≤ a ∧ a ≤ 900 := by
    simp only [List.mem_cons, List.not_mem_nil, or_false] at mm
    rcases mm with rfl | rfl <;> exact ⟨_, rfl, by omega, by omega⟩
  refine ⟨_, e, ?_⟩
  walk_at "w"
  intro w hw
  refine take_step b3 (by decide) (by decide) (by omega) fun r3 d4 a3 c3 b4 => ?_
  refine f_numbers (m := m) b4 (by omega) m1 fun ns d5 _ ln hns nun b5 => ?_
  walk_at "w"
  refine take_step b5 (by decide) (by decide) (by omega) fun r4 d6 a4 c4 b6 => ?_
  obtain ⟨v, e, mm⟩ := at_mem (xs := [PyData.int 3, PyData.int 20, PyData.int 99]) a4 c4
  obtain ⟨g, rfl, g0, g1⟩ : ∃ a, v = .int a ∧ 0 ≤ a ∧ a ≤ 99 := by
    simp only [List.mem_cons, List.not_mem_nil, or_false] at mm
    rcases mm with rfl | rfl | rfl <;> exact ⟨_, rfl, by omega, by omega⟩
  refine ⟨_, e, ?_⟩
  walk_at "w"
  intro pd hpd
  have cut : ∀ lo hi, cutD (ss.map PyData.str) lo hi = ((ss.drop (HT.sIx 10 0 lo)).take (HT.sIx 10 10 hi - HT.sIx 10 0 lo)).map .str := fun lo hi => by
    unfold cutD
    rw [List.length_map, l10, ← List.map_drop, ← List.map_take]
  rw [cut, cut]
  have nw := (sset_no hpd).2
  have e4 : HT.sIx 10 0 (some 4) = 4 := by decide
  have e10 : HT.sIx 10 10 none = 10 := by decide
  have e0 : HT.sIx 10 0 none = 0 := by decide
  have eo : ((ss.drop (HT.sIx 10 0 none)).take (HT.sIx 10 10 (some (1 + r3)) - HT.sIx 10 0 none)).length ≤ 4 ∧ 0 < ((ss.drop (HT.sIx 10 0 none)).take (HT.sIx 10 10 (some (1 + r3)) - HT.sIx 10 0 none)).length := by
    rw [List.length_take, List.length_drop, l10, e0]
    have : r3 = 0 ∨ r3 = 1 ∨ r3 = 2 ∨ r3 = 3 := by omega
    rcases this with rfl | rfl | rfl | rfl <;> decide
  generalize howners : (ss.drop (HT.sIx 10 0 none)).take (HT.sIx 10 10 (some (1 + r3)) - HT.sIx 10 0 none) = owners at *
  generalize hpool : (ss.drop (HT.sIx 10 0 (some 4))).take (HT.sIx 10 10 none - HT.sIx 10 0 (some 4)) = pool at *
  have so : ∀ x ∈ owners, x ∈ ss := fun x hx => by rw [← howners] at hx; exact List.mem_of_mem_drop (List.mem_of_mem_take hx)
  have sp : pool.Sublist ss := by rw [← hpool]; exact (List.take_sublist _ _).trans (List.drop_sublist _ _)
  have ok : Wo.Ok ⟨owners, pool, ns, f, g, []⟩ 0 := ⟨eo.2, Nat.le_trans eo.1 (by decide), fun x hx => hss x (so x hx), by have := sp.length_le; show pool.length ≤ _; omega, fun x hx => hss x (sp.subset hx), nd.sublist sp, by show 0 < ns.length; omega, by show 2 ≤ ns.length; omega, by show ns.length ≤ _; omega, hns, nun, f0, g0, by show f + g ≤ 999; omega, (fun z h => by cases h), (fun z h => by cases h), Nat.le_refl _⟩
  refine ⟨(sset_ne (Ne.symm nw)).trans sset_same, ?_⟩
  refine q w pd ⟨owners, pool, ns, f, g, []⟩ d6 _ _ hw (sset_no hpd).1 ⟨?_, (sset_ne nw).trans sset_same, Ne.symm nw⟩ ok eo.1 ln (fun a ha => ?_) (b6.mono (by omega))
  · exact sset_same.trans (congrArg (fun z => some (SO.dct z)) (merge_mk (ns := woN) (vs := woV ⟨owners, pool, ns, f, g, []⟩ (hdl pd)) (by decide +kernel)))
  · have aw : a ≠ w := fun e => ha (by rw [e]; exact hw)
    have ap : a ≠ pd := fun e => ha (by rw [e]; exact (sset_no hpd).1)
    rw [sset_ne aw, sset_ne ap, sset_ne aw]
theorem f_world {S : Sto} {m : Nat} (m0 : 2 ≤ m) (m1 : m ≤ 60) {ds : List PyData} {n : Nat} (hb : BoxD ds n) (hn : n < 8000000) {P : PyData → List Sl → Prop}
    (q : ∀ w pd o ds' s1 S', S w = none → S pd = none → WoAt S' w pd o → o.Ok 0 → (∀ a, S a ≠ none → S' a = S a) → BoxD ds' (n + 2100) → P (hdl w) [.own ds', s1, .st S']) : F__law_world [.own ds, .fz (.int (m : Int)), .st S] P :=
  f_world4 m0 m1 hb hn fun w pd o ds' s1 S' h1 h2 h3 h4 _ _ h5 h6 => q w pd o ds' s1 S' h1 h2 h3 h4 h5 h6
/-! ### right deeds, and things in the place of a part -/
/-- a right deed as data: a tuple within bounds -/
def RightD (d : PyData) : Prop := ∃ es, d = .tuple es ∧ Thy 10000000 3 60 es ∧ 2 ≤ es.length ∧ es.length ≤ 6 ∧ isDeedB d = true
theorem name_ok {B : Nat} {s : Str} (h : NameS s) : okD B (.str s) = true := by
  have ln : s.length = (tl s).length := Array.length_toList.symm
  show (decide (s.length ≤ 25) && s.cps.all (· < 0x110000)) = true
  rw [decide_eq_true (by have := h.most; omega), Bool.true_and]
  refine Array.all_eq_true_iff_forall_mem.mpr fun c hc => decide_eq_true ?_
  have := h.small c (Array.mem_toList_iff.mpr hc)
  omega
theorem th_map {α : Type} {B D N : Nat} {f : α → PyData} : ∀ {l : List α}, (∀ x ∈ l, okD B (f x) = true ∧ (f x).depth ≤ D ∧ nodes (f x) ≤ N) → Thy B D (N * l.length) (l.map f)
  | [], _ => ⟨rfl, Nat.zero_le _, Nat.zero_le _⟩
  | x :: l, h => by
    have h1 := h x List.mem_cons_self
    have h2 := th_map (l := l) fun y hy => h y (List.mem_cons_of_mem _ hy)
    have h3 := (Thy.one h1.1 h1.2.1 h1.2.2).app h2
    rw [List.length_cons]
    exact h3.mono (Nat.le_refl _) (Nat.le_refl _) (by rw [Nat.mul_succ]; omega)
theorem th_cons {B D N M : Nat} {d : PyData} {r : List PyData} (h1 : okD B d = true) (h2 : d.depth ≤ D) (h3 : nodes d ≤ N) (h : Thy B D M r) : Thy B D (N + M) (d :: r) := (Thy.one h1 h2 h3).app h
theorem th_nil {B D : Nat} : Thy B D 0 [] := ⟨rfl, Nat.zero_le _, Nat.le_refl _⟩
theorem tup_ok {B D N : Nat} {es : List PyData} (t : Thy B D N es) : okD B (.tuple es) = true ∧ (PyData.tuple es).depth ≤ D + 1 ∧ nodes (.tuple es) ≤ N + 1 := ⟨t.ok, Nat.succ_le_succ t.dp, Nat.succ_le_succ t.nd⟩
theorem words_ok {ws : List Str} (h1 : ws.length ≤ 6) (h2 : ∀ w ∈ ws, NameS w) {B : Nat} : okD B (.tuple (ws.map .str)) = true ∧ (PyData.tuple (ws.map .str)).depth ≤ 1 ∧ nodes (.tuple (ws.map .str)) ≤ 7 := by
  have t : Thy B 0 (1 * ws.length) (ws.map .str) := th_map fun w hw => ⟨name_ok (h2 w hw), Nat.le_refl _, Nat.le_refl _⟩
  obtain ⟨a, b, c⟩ := tup_ok t
  exact ⟨a, b, by omega⟩
theorem nums_ok {ns : List Int} (h1 : ns.length ≤ 12) (h2 : ∀ n ∈ ns, 1 ≤ n ∧ n ≤ 9999) : okD 10000000 (.tuple (ns.map .int)) = true ∧ (PyData.tuple (ns.map .int)).depth ≤ 1 ∧ nodes (.tuple (ns.map .int)) ≤ 13 := by
  have t : Thy 10000000 0 (1 * ns.length) (ns.map .int) := th_map fun n hn => ⟨okI (by have := h2 n hn; omega), Nat.le_refl _, Nat.le_refl _⟩
  obtain ⟨a, b, c⟩ := tup_ok t
  exact ⟨a, b, by omega⟩
theorem rule_okD {r : List (Int × Int)} (g : RuleW r) : okD 10000000 (.tuple (r.map pairD)) = true ∧ (PyData.tuple (r.map pairD)).depth ≤ 2 ∧ nodes (.tuple (r.map pairD)) ≤ 19 := by
  have t : Thy 10000000 1 (3 * r.length) (r.map pairD) := th_map fun p hp => by
    have h1 := g.age p hp
    have h2 := g.part p hp
    refine ⟨?_, Nat.le_refl _, Nat.le_refl _⟩
    show (okD 10000000 (.int p.1) && (okD 10000000 (.int p.2) && true)) = true
    rw [okI (by omega), okI (by omega)]; rfl
  obtain ⟨a, b, c⟩ := tup_ok t
  have := g.few
  exact ⟨a, b, by omega⟩
theorem str_ok {B : Nat} {z : String} (h : decide ((Str.ofString z).length ≤ 25) = true := by decide +kernel) : okD B (.str (Str.ofString z)) = true := by
  show (decide ((Str.ofString z).length ≤ 25) && (Str.ofString z).cps.all (· < 0x110000)) = true
  rw [h, ofString_ok]; rfl
theorem deed_right {d : Deed} (ok : d.Ok) : RightD d.d := by
  have yes := deed_yes ok
  have I : ∀ {i : Int}, i.natAbs ≤ 10000000 → okD 10000000 (.int i) = true := fun h => okI h
  cases d with
  | give o n p l ws =>
    obtain ⟨q1, q2, q3, q4, q5, q6, q7, q8, q9, q10⟩ := ok
    obtain ⟨w1, w2, w3⟩ := words_ok q8 q9 (B := 10000000)
    exact ⟨_, rfl, (th_cons (N := 1) str_ok (Nat.zero_le _) (Nat.le_refl _) (th_cons (N := 1) (name_ok q1) (Nat.zero_le _) (Nat.le_refl _) (th_cons (N := 1) (I (by omega)) (Nat.zero_le _) (Nat.le_refl _) (th_cons (N := 1) (I (by omega)) (Nat.zero_le _) (Nat.le_refl _) (th_cons (N := 1) (I (by omega)) (Nat.zero_le _) (Nat.le_refl _) (th_cons w1 (Nat.le_trans w2 (by decide)) w3 th_nil)))))).mono (Nat.le_refl _) (Nat.le_refl _) (by decide), by show 2 ≤ 6; decide, by show 6 ≤ 6; decide, yes⟩
  | let_ n =>
    obtain ⟨q1, q2⟩ : 1 ≤ n ∧ n ≤ 9999 := ok
    exact ⟨_, rfl, (th_cons (N := 1) str_ok (Nat.zero_le _) (Nat.le_refl _) (th_cons (N := 1) (I (by omega)) (Nat.zero_le _) (Nat.le_refl _) th_nil)).mono (Nat.le_refl _) (Nat.le_refl _) (by decide), by show 2 ≤ 2; decide, by show 2 ≤ 6; decide, yes⟩
  | rule r =>
    obtain ⟨w1, w2, w3⟩ := rule_okD ok
    exact ⟨_, rfl, (th_cons (N := 1) str_ok (Nat.zero_le _) (Nat.le_refl _) (th_cons w1 (Nat.le_trans w2 (by decide)) w3 th_nil)).mono (Nat.le_refl _) (Nat.le_refl _) (by decide), by show 2 ≤ 2; decide, by show 2 ≤ 6; decide, yes⟩
  | share s =>
    obtain ⟨q1, q2⟩ : 0 ≤ s ∧ s ≤ 100 := ok
    exact ⟨_, rfl, (th_cons (N := 1) str_ok (Nat.zero_le _) (Nat.le_refl _) (th_cons (N := 1) (I (by omega)) (Nat.zero_le _) (Nat.le_refl _) th_nil)).mono (Nat.le_refl _) (Nat.le_refl _) (by decide), by show 2 ≤ 2; decide, by show 2 ≤ 6; decide, yes⟩
  | sell n am =>
    obtain ⟨q1, q2, q3⟩ := ok
    have a1 : okD 10000000 (optI am) = true ∧ (optI am).depth ≤ 0 ∧ nodes (optI am) ≤ 1 := by
      cases am with
      | none => exact ⟨rfl, Nat.le_refl _, Nat.le_refl _⟩
      | some x => exact ⟨I (by have := q3 x rfl; omega), Nat.le_refl _, Nat.le_refl _⟩
    exact ⟨_, rfl, (th_cons (N := 1) str_ok (Nat.zero_le _) (Nat.le_refl _) (th_cons (N := 1) (I (by omega)) (Nat.zero_le _) (Nat.le_refl _) (th_cons a1.1 (Nat.le_trans a1.2.1 (by decide)) a1.2.2 th_nil))).mono (Nat.le_refl _) (Nat.le_refl _) (by decide), by show 2 ≤ 3; decide, by show 3 ≤ 6; decide, yes⟩
  | heap ns am =>
    obtain ⟨q1, q2, q3, q4, q5, q6⟩ := ok
    obtain ⟨w1, w2, w3⟩ := nums_ok q2 q3
    exact ⟨_, rfl, (th_cons (N := 1) str_ok (Nat.zero_le _) (Nat.le_refl _) (th_cons w1 (Nat.le_trans w2 (by decide)) w3 (th_cons (N := 1) (I (by omega)) (Nat.zero_le _) (Nat.le_refl _) th_nil))).mono (Nat.le_refl _) (Nat.le_refl _) (by decide), by show 2 ≤ 3; decide, by show 3 ≤ 6; decide, yes⟩
  | back n =>
    obtain ⟨q1, q2⟩ : 1 ≤ n ∧ n ≤ 9999 := ok
    exact ⟨_, rfl, (th_cons (N := 1) str_ok (Nat.zero_le _) (Nat.le_refl _) (th_cons (N := 1) (I (by omega)) (Nat.zero_le _) (Nat.le_refl _) th_nil)).mono (Nat.le_refl _) (Nat.le_refl _) (by decide), by show 2 ≤ 2; decide, by show 2 ≤ 6; decide, yes⟩
  | fetch n =>
    obtain ⟨q1, q2⟩ : 1 ≤ n ∧ n ≤ 9999 := ok
    exact ⟨_, rfl, (th_cons (N := 1) str_ok (Nat.zero_le _) (Nat.le_refl _) (th_cons (N := 1) (I (by omega)) (Nat.zero_le _) (Nat.le_refl _) th_nil)).mono (Nat.le_refl _) (Nat.le_refl _) (by decide), by show 2 ≤ 2; decide, by show 2 ≤ 6; decide, yes⟩
  | lose n =>
    obtain ⟨q1, q2⟩ : 1 ≤ n ∧ n ≤ 9999 := ok
    exact ⟨_, rfl, (th_cons (N := 1) str_ok (Nat.zero_le _) (Nat.le_refl _) (th_cons (N := 1) (I (by omega)) (Nat.zero_le _) (Nat.le_refl _) th_nil)).mono (Nat.le_refl _) (Nat.le_refl _) (by decide), by show 2 ≤ 2; decide, by show 2 ≤ 6; decide, yes⟩
  | find n =>
    obtain ⟨q1, q2⟩ : 1 ≤ n ∧ n ≤ 9999 := ok
    exact ⟨_, rfl, (th_cons (N := 1) str_ok (Nat.zero_le _) (Nat.le_refl _) (th_cons (N := 1) (I (by omega)) (Nat.zero_le _) (Nat.le_refl _) th_nil)).mono (Nat.le_refl _) (Nat.le_refl _) (by decide), by show 2 ≤ 2; decide, by show 2 ≤ 6; decide, yes⟩
  | pay o am =>
    obtain ⟨q1, q2, q3⟩ := ok
    exact ⟨_, rfl, (th_cons (N := 1) str_ok (Nat.zero_le _) (Nat.le_refl _) (th_cons (N := 1) (name_ok q1) (Nat.zero_le _) (Nat.le_refl _) (th_cons (N := 1) (I (by omega)) (Nat.zero_le _) (Nat.le_refl _) th_nil))).mono (Nat.le_refl _) (Nat.le_refl _) (by decide), by show 2 ≤ 3; decide, by show 3 ≤ 6; decide, yes⟩
theorem nameS_lit {z : String} (h : (decide (1 ≤ (tl (Str.ofString z)).length ∧ (tl (Str.ofString z)).length ≤ 8) && smalls (tl (Str.ofString z))) = true := by decide +kernel) : NameS (Str.ofString z) := by
  rw [Bool.and_eq_true, decide_eq_true_eq] at h
  exact nameS_of h.1.1 h.1.2 h.2
theorem rights_app {xs ys : List PyData} (h1 : ∀ x ∈ xs, RightD x) (h2 : ∀ x ∈ ys, RightD x) : ∀ x ∈ xs ++ ys, RightD x := fun x hx => (List.mem_append.mp hx).elim (h1 x) (h2 x)
theorem f_rights1 {S : Sto} {w pd : Addr} {o : Wo} {m : Nat} (hw : WoAt S w pd o) (ok : o.Ok m) (hm : m ≤ 1000) {nu am p : Int} (n0 : 1 ≤ nu) (n1 : nu ≤ 9999) (m0 : 0 ≤ am) (m1 : am ≤ 9999999) {xs : List PyData} (hx : ∀ x ∈ xs, RightD x) (lx : xs.length ≤ 80) {ds : List PyData} {n : Nat} (hb : BoxD ds n) (hn : n < 8000000) {E : FEnds}
    (q : ∀ ys ds' s5 S', (∀ x ∈ ys, RightD x) → ys.length ≤ 100 → (∀ a, S a ≠ none → S' a = S a) → BoxD ds' (n + 50) → E.rt (.list ys) [.own ds', .fz (hdl w), .fz (.int nu), .fz (.int am), .fz (.int p), s5, .no, .st S']) :
    F__law_rights_1 E [.own ds, .fz (hdl w), .fz (.int nu), .fz (.int am), .fz (.int p), .own xs, .no, .st S] := by
  have lin : sizeLine = 16777216 := by decide +kernel
  have r1 : RightD (Deed.sell nu none).d := deed_right ⟨n0, n1, fun x h => by cases h⟩
  have r2 : RightD (Deed.sell nu (some am)).d := deed_right ⟨n0, n1, fun x h => by cases h; exact ⟨m0, m1⟩⟩
  have r3 : RightD (Deed.pay (Str.ofString "z") (1 + am % 9999999)).d := deed_right ⟨nameS_lit, by omega, by omega⟩
  have r4 : RightD (Deed.heap [1, 2] am).d := deed_right ⟨by decide, by decide, by decide, by decide, m0, m1⟩
  have r5 : RightD (Deed.heap ((List.range 12).map fun k : Nat => 9988 + (k : Int)) 0).d := deed_right ⟨by decide, by decide, by decide, by decide, by decide, by decide⟩
  unfold F__law_rights_1
  walk_at "w"
  refine ⟨by omega, RgOk.of_le (by decide) (by decide) (by decide) (by decide), by decide, ?_⟩
  refine f_heap hw ok hm ok.n2 (mo := 12) (by decide) (by decide) hb (by omega) fun d d1 _ _ S1 hd b1 k1 => ?_
  refine ⟨by rw [List.length_append]; show xs.length + 3 + 3 ≤ _; omega, ?_⟩
  walk_at "w"
  refine q _ d1 _ S1 (rights_app (rights_app hx fun x h => ?_) fun x h => ?_) (by rw [List.length_append, List.length_append]; show xs.length + 3 + 3 ≤ _; omega) k1 (b1.mono (by omega))
  · simp only [List.mem_cons, List.not_mem_nil, or_false] at h
    rcases h with rfl | rfl | rfl
    · exact r1
    · exact r2
    · exact r3
  · simp only [List.mem_cons, List.not_mem_nil, or_false] at h
    rcases h with rfl | rfl | rfl
    · exact r4
    · exact r5
    · exact deed_right hd
def NxR (E : FEnds) (S : Sto) (w : Addr) (nu am p : Int) (n : Nat) : Prop := ∀ ys ds' s5 S', (∀ x ∈ ys, RightD x) → ys.length ≤ 100 → (∀ a, S a ≠ none → S' a = S a) → BoxD ds' (n + 200) → E.rt (.list ys) [.own ds', .fz (hdl w), .fz (.int nu), .fz (.int am), .fz (.int p), s5, .no, .st S']
theorem f_rights2 {S : Sto} {w pd : Addr} {o : Wo} {m : Nat} (hw : WoAt S w pd o) (ok : o.Ok m) (hm : m ≤ 1000) {nu am p : Int} (n0 : 1 ≤ nu) (n1 : nu ≤ 9999) (m0 : 0 ≤ am) (m1 : am ≤ 9999999) {xs : List PyData} (hx : ∀ x ∈ xs, RightD x) (lx : xs.length ≤ 70) {ds : List PyData} {n : Nat} (hb : BoxD ds n) (hn : n < 8000000) {E : FEnds}
    (q : NxR E S w nu am p n) :
    F__law_rights_2 E [.own ds, .fz (hdl w), .fz (.int nu), .fz (.int am), .fz (.int p), .own xs, .no, .st S] := by
  have lin : sizeLine = 16777216 := by decide +kernel
  have r1 : RightD (Deed.share 100).d := deed_right ⟨by decide, by decide⟩
  have r2 : RightD (Deed.rule [(1, 99), (2, 98), (3, 7), (4, 6), (5, 5), (6, 4)]).d := deed_right ⟨by decide, by decide, by decide, by decide, by decide⟩
  unfold F__law_rights_2
  walk_at "w"
  refine ⟨by omega, ?_⟩
  refine f_rights1 hw ok hm n0 n1 m0 m1 (rights_app hx fun x h => ?_) (by rw [List.length_append]; show xs.length + 2 ≤ _; omega) hb hn fun ys ds' s5 S' h1 h2 h3 h4 => q ys ds' s5 S' h1 h2 h3 (h4.mono (by omega))
  simp only [List.mem_cons, List.not_mem_nil, or_false] at h
  rcases h with rfl | rfl
  · exact r1
  · exact r2
theorem f_rights3 {S : Sto} {w pd : Addr} {o : Wo} {m : Nat} (hw : WoAt S w pd o) (ok : o.Ok m) (hm : m ≤ 1000) {nu am p : Int} (n0 : 1 ≤ nu) (n1 : nu ≤ 9999) (m0 : 0 ≤ am) (m1 : am ≤ 9999999) {xs : List PyData} (hx : ∀ x ∈ xs, RightD x) (lx : xs.length ≤ 60) {ds : List PyData} {n : Nat} (hb : BoxD ds n) (hn : n < 7000000) {E : FEnds}
    (q : NxR E S w nu am p (n + 40)) :
    F__law_rights_3 E [.own ds, .fz (hdl w), .fz (.int nu), .fz (.int am), .fz (.int p), .own xs, .no, .st S] := by
  have lin : sizeLine = 16777216 := by decide +kernel
  have r1 : RightD (Deed.rule []).d := deed_right ⟨by decide, by decide, by decide, by decide, by decide⟩
  have r2 : RightD (Deed.rule [(1, 99), (999, 1)]).d := deed_right ⟨by decide, by decide, by decide, by decide, by decide⟩
  have r4 : RightD (Deed.share 0).d := deed_right ⟨by decide, by decide⟩
  unfold F__law_rights_3
  walk_at "w"
  refine f_rule hb (by omega) fun r d1 g b1 => ?_
  have r3 : RightD (Deed.rule r).d := deed_right g
  walk_at "w"
  refine ⟨by omega, ?_⟩
  refine f_rights2 hw ok hm n0 n1 m0 m1 (rights_app hx fun x h => ?_) (by rw [List.length_append]; show xs.length + 4 ≤ _; omega) (b1.mono (by omega : n + 30 ≤ n + 40)) (by omega) q
  simp only [List.mem_cons, List.not_mem_nil, or_false] at h
  rcases h with rfl | rfl | rfl | rfl
  · exact r1
  · exact r2
  · exact r3
  · exact r4
theorem f_rights5 {S : Sto} {w pd : Addr} {o : Wo} {m : Nat} (hw : WoAt S w pd o) (ok : o.Ok m) (hm : m ≤ 1000) {nu am p : Int} (n0 : 1 ≤ nu) (n1 : nu ≤ 9999) (m0 : 0 ≤ am) (m1 : am ≤ 9999999) {xs : List PyData} (hx : ∀ x ∈ xs, RightD x) (lx : xs.length ≤ 50) {ds : List PyData} {n : Nat} (hb : BoxD ds n) (hn : n < 7000000) {E : FEnds}
    (q : NxR E S w nu am p (n + 40)) :
    F__law_rights_5 E [.own ds, .fz (hdl w), .fz (.int nu), .fz (.int am), .fz (.int p), .own xs, .no, .st S] := by
  have lin : sizeLine = 16777216 := by decide +kernel
  unfold F__law_rights_5
  walk_at "w"
  refine lc_map (["let", "back", "fetch", "lose", "find"].map Str.ofString) .str (fun w => some (.tuple [.str w, .int nu])) rfl rfl (by decide) (fun w R acc hm hacc hR => ?_) ?_
  · unfold F__law_rights_4
    walk_at "w"
    exact ⟨hacc, hR⟩
  walk_at "w"
  refine ⟨by show xs.length + 5 ≤ _; omega, ?_⟩
  refine f_rights3 hw ok hm n0 n1 m0 m1 (rights_app hx fun x h => ?_) (by rw [List.length_append]; show xs.length + 5 ≤ _; omega) hb hn q
  have r1 : RightD (Deed.let_ nu).d := deed_right ⟨n0, n1⟩
  have r2 : RightD (Deed.back nu).d := deed_right ⟨n0, n1⟩
  have r3 : RightD (Deed.fetch nu).d := deed_right ⟨n0, n1⟩
  have r4 : RightD (Deed.lose nu).d := deed_right ⟨n0, n1⟩
  have r5 : RightD (Deed.find nu).d := deed_right ⟨n0, n1⟩
  have h : x ∈ [(Deed.let_ nu).d, (Deed.back nu).d, (Deed.fetch nu).d, (Deed.lose nu).d, (Deed.find nu).d] := h
  simp only [List.mem_cons, List.not_mem_nil, or_false] at h
  rcases h with rfl | rfl | rfl | rfl | rfl
  · exact r1
  · exact r2
  · exact r3
  · exact r4
  · exact r5
theorem f_rights {S : Sto} {ds : List PyData} {n : Nat} (hb : BoxD ds n) (hn : n < 6900000) {P : PyData → List Sl → Prop} (q : ∀ xs ds' S', (∀ x ∈ xs, RightD x) → xs.length ≤ 100 → (∀ a, S a ≠ none → S' a = S a) → BoxD ds' (n + 3000) → P (.list xs) [.own ds', .st S']) : F__law_rights [.own ds, .st S] P := by
  have lin : sizeLine = 16777216 := by decide +kernel
  unfold F__law_rights
  walk_at "w"
  refine ⟨by decide, f_world (m := 14) (by decide) (by decide) hb (by omega) fun w pd o d1 _ S1 sw sp hw ok k1 b1 => ?_⟩
  walk_at "w"
  refine take_step b1 (by decide) (by decide) (by omega) fun r1 d2 a1 c1 b2 => ?_
  refine take_step b2 (by decide) (by decide) (by omega) fun r2 d3 a2 c2 b3 => ?_
  obtain ⟨v, e, mm⟩ := at_mem (xs := [PyData.int 1, PyData.int 9999, PyData.int (1 + r1)]) a2 c2
  obtain ⟨nu, rfl, n0, n1⟩ : ∃ a, v = .int a ∧ 1 ≤ a ∧ a ≤ 9999 := by
    simp only [List.mem_cons, List.not_mem_nil, or_false] at mm
    rcases mm with rfl | rfl | rfl <;> exact ⟨_, rfl, by omega, by omega⟩
  refine ⟨_, e, ⟨by decide, by decide⟩, ?_⟩
  refine take_step b3 (by decide) (by decide) (by omega) fun r3 d4 a3 c3 b4 => ?_
  refine take_step b4 (by decide) (by decide) (by omega) fun r4 d5 a4 c4 b5 => ?_
  obtain ⟨v, e, mm⟩ := at_mem (xs := [PyData.int 0, PyData.int 1, PyData.int 9999999, PyData.int r3]) a4 c4
  obtain ⟨am, rfl, m0, m1⟩ : ∃ a, v = .int a ∧ 0 ≤ a ∧ a ≤ 9999999 := by
    simp only [List.mem_cons, List.not_mem_nil, or_false] at mm
    rcases mm with rfl | rfl | rfl | rfl <;> exact ⟨_, rfl, by omega, by omega⟩
  refine ⟨_, e, ?_⟩
  refine take_step b5 (by decide) (by decide) (by omega) fun r5 d6 a5 c5 b6 => ?_
  refine take_step b6 (by decide) (by decide) (by omega) fun r6 d7 a6 c6 b7 => ?_
  obtain ⟨v, e, mm⟩ := at_mem (xs := [PyData.int 1, PyData.int 99999, PyData.int (1 + r5)]) a6 c6
  obtain ⟨p, rfl, p0, p1⟩ : ∃ a, v = .int a ∧ 1 ≤ a ∧ a ≤ 99999 := by
    simp only [List.mem_cons, List.not_mem_nil, or_false] at mm
    rcases mm with rfl | rfl | rfl <;> exact ⟨_, rfl, by omega, by omega⟩
  refine ⟨_, e, ?_⟩
  refine take_step b7 (by decide) (by decide) (by omega) fun r7 d8 a7 c7 b8 => ?_
  obtain ⟨v, e, mm⟩ := at_mem (xs := [PyData.int 0, PyData.int p]) a7 c7
  obtain ⟨l, rfl, l0, l1⟩ : ∃ a, v = .int a ∧ 0 ≤ a ∧ a ≤ p := by
    simp only [List.mem_cons, List.not_mem_nil, or_false] at mm
    rcases mm with rfl | rfl <;> exact ⟨_, rfl, by omega, by omega⟩
  refine ⟨_, e, by decide, ?_⟩
  have r0 : RightD (Deed.give (Str.ofString "abcdefgh") nu p l []).d := deed_right ⟨nameS_lit, n0, n1, p0, p1, l0, l1, by decide, by simp, .nil⟩
  have r2 : RightD (Deed.give (Str.ofString "a") nu 5 5 (["a", "aa", "b", "c", "d", "zzzzzzzz"].map Str.ofString)).d := deed_right ⟨nameS_lit, n0, n1, by decide, by decide, by decide, by decide, by decide, fun w hw => by
      simp only [List.map_cons, List.map_nil, List.mem_cons, List.not_mem_nil, or_false] at hw
      rcases hw with rfl | rfl | rfl | rfl | rfl | rfl <;> exact nameS_lit, by decide +kernel⟩
  refine f_give hw ok (by decide) b8 (by omega) fun d1' d9 _ S2 o' hd1 b9 hw' ok' k2 => ?_
  walk_at "w"
  refine ⟨by decide, ?_⟩
  refine f_rights5 hw' ok' (by decide) n0 n1 m0 m1 (xs := [_, _, _]) (fun x h => ?_) (by show 3 ≤ 50; decide) b9 (by omega) fun ys ds' s5 S' h1 h2 h3 h4 => ?_
  · simp only [List.mem_cons, List.not_mem_nil, or_false] at h
    rcases h with rfl | rfl | rfl
    · exact r0
    · exact deed_right hd1
    · exact r2
  · walk_at "w"
    refine q ys ds' S' h1 h2 (fun a ha => ?_) (h4.mono (by omega))
    have e1 := k1 a ha
    have e2 := k2 a (fun e => ha (by rw [e]; exact sp))
    rw [h3 a (by rw [e2, e1]; exact ha), e2, e1]
def chkD (v : PyData) : Bool := okD 100000000000000000000 v && (decide (v.depth ≤ 3) && decide (nodes v ≤ 30))
theorem pick_all {L : List PyData} {c : PyData → Bool} {r : Int} {N : Nat} (h0 : 0 ≤ r) (hN : r < (N : Int)) (h1 : L.length = N) (ok : L.all c = true) {Q : PyData → Prop} (k : ∀ v, c v = true → Q v) : ∃ d, atI L r = some d ∧ Q d := by
  obtain ⟨v, e, m⟩ := at_mem (xs := L) h0 (by omega)
  exact ⟨v, e, k v (List.all_eq_true.mp ok v m)⟩
theorem f_odds {ds : List PyData} {n : Nat} (hb : BoxD ds n) (hn : n < 9000000) {P : PyData → List Sl → Prop} (q : ∀ v ds' sl, okD 100000000000000000000 v = true → v.depth ≤ 3 → nodes v ≤ 30 → BoxD ds' (n + 1) → P v (.own ds' :: sl)) : F__law_odds [.own ds] P := by
  have lin : sizeLine = 16777216 := by decide +kernel
  unfold F__law_odds
  walk_at "w"
  refine ⟨⟨by decide, by decide⟩, ⟨by decide, by decide⟩, by omega, RgOk.of_le (by decide) (by decide) (by decide) (by decide), RgOk.of_le (by decide) (by decide) (by decide) (by decide), by omega, by omega, by omega, ⟨by decide +kernel, by decide +kernel⟩, by omega, ?_⟩
  refine lc_map (List.range 7) (fun k : Nat => .int (1 + (k : Int))) (fun k => some (.tuple [.int (1 + (k : Int)), .int (90 - (1 + (k : Int)))])) rfl rfl (by decide) (fun k R acc _ hacc hR => ?_) ?_
  · unfold F__law_odds_1
    walk_at "w"
    exact ⟨hacc, hR⟩
  rw [filterMap_some]
  walk_at "w"
  refine ⟨by decide +kernel, by decide +kernel, by omega, ?_⟩
  refine take_step hb (by decide) (by decide) (by omega) fun r1 d1 a1 c1 b1 => ?_
  refine pick_all (c := chkD) (N := 58) a1 c1 rfl (by decide +kernel) fun v hv => ?_
  unfold chkD at hv
  rw [Bool.and_eq_true, Bool.and_eq_true, decide_eq_true_eq, decide_eq_true_eq] at hv
  exact q v _ _ hv.1 hv.2.1 hv.2.2 b1
def OkV (v : PyData) : Prop := okD 100000000000000000000 v = true ∧ v.depth ≤ 6 ∧ nodes v ≤ 300 ∧ ∃ r, v = .tuple r ∨ v = .list r
theorem OkV.tup {D N : Nat} {r : List PyData} (t : Thy 100000000000000000000 D N r) (hD : D ≤ 5) (hN : N ≤ 299) : OkV (.tuple r) := by
  obtain ⟨a, b, c⟩ := tup_ok t
  exact ⟨a, by omega, by omega, r, .inl rfl⟩
theorem OkV.lst {D N : Nat} {r : List PyData} (t : Thy 100000000000000000000 D N r) (hD : D ≤ 5) (hN : N ≤ 299) : OkV (.list r) := by
  obtain ⟨h1, h2, h3⟩ := t
  exact ⟨h1, by show PyData.depthAll r + 1 ≤ 6; omega, by show nodesAll r + 1 ≤ 300; omega, r, .inr rfl⟩
theorem f_bent {ds : List PyData} {n : Nat} (hb : BoxD ds n) (hn : n < 8900000) {es : List PyData} (t : Thy 10000000 3 60 es) (l2 : 2 ≤ es.length) (l6 : es.length ≤ 6) {P : PyData → List Sl → Prop} (q : ∀ v ds' sl, OkV v → BoxD ds' (n + 4) → P v (.own ds' :: sl)) : F__law_bent [.own ds, .fz (.tuple es)] P := by
  have lin : sizeLine = 16777216 := by decide +kernel
  have t : Thy 100000000000000000000 3 60 es := t.mono (by decide) (Nat.le_refl _) (Nat.le_refl _)
  unfold F__law_bent
  walk_at "w"
  refine take_step hb (by decide) (by decide) (by omega) fun r1 d1 a1 c1 b1 => ?_
  refine take_step b1 (by omega) (by omega) (by omega) fun r2 d2 a2 c2 b2 => ?_
  refine ite2 (fun h6 => ?_) fun h6 => ?_
  · refine f_odds b2 (by omega) fun v d3 _ v1 v2 v3 b3 => ?_
    walk_at "w"
    have l1 := cutD_len es none (some (1 + r2))
    have l3 := cutD_len es (some (1 + r2 + 1)) none
    refine ⟨by omega, by rw [List.length_append]; show _ + 1 + _ ≤ _; omega, ?_⟩
    exact q _ _ _ (OkV.tup (((t.cut _ _).app (Thy.one v1 v2 v3)).app (t.cut _ _)) (by decide) (by decide)) (b3.mono (by omega))
  · unfold F__law_bent_1
    walk_at "w"
    have l3 := cutD_len es (some 1) none
    refine ⟨by omega, ?_⟩
    refine take_step b2 (by decide) (by decide) (by omega) fun r3 d3 a3 c3 b3 => ?_
    refine pick_all (c := chkD) (N := 14) a3 c3 rfl (by decide +kernel) fun v hv => ?_
    unfold chkD at hv
    rw [Bool.and_eq_true, Bool.and_eq_true, decide_eq_true_eq, decide_eq_true_eq] at hv
    refine ⟨by omega, ?_⟩
    obtain ⟨x, ex, mx⟩ := at_mem (xs := [PyData.tuple (cutD es none (some (-1))), PyData.tuple (es ++ [PyData.int 1]), PyData.list es, PyData.tuple (v :: cutD es (some 1) none)]) (r := r1 - 6) (by omega) (by show r1 - 6 < 4; omega)
    refine ⟨x, ex, q x d3 _ ?_ (b3.mono (by omega))⟩
    simp only [List.mem_cons, List.not_mem_nil, or_false] at mx
    rcases mx with rfl | rfl | rfl | rfl
    · exact OkV.tup (t.cut _ _) (by decide) (by decide)
    · exact OkV.tup (t.app (Thy.one (N := 1) rfl (Nat.zero_le _) (Nat.le_refl _))) (by decide) (by decide)
    · exact OkV.lst t (by decide) (by decide)
    · exact OkV.tup (th_cons hv.1 hv.2.1 hv.2.2 (t.cut _ _)) (by decide) (by decide)
theorem repr_okV {v : PyData} (h : OkV v) {P : PyData → Prop} (q : P (.str v.shown)) : DL.bRepr [v] P := by
  obtain ⟨h1, h2, h3, r, e⟩ := h
  have lin : sizeLine = 16777216 := by decide +kernel
  obtain ⟨g1, g2, g3, g4⟩ := okD.factsB (by decide) h1
  rcases e with rfl | rfl
  · exact ⟨g3, g2, by omega, Nat.le_trans (shown_le _ g1) (by omega), q⟩
  · exact ⟨g3, g2, by omega, Nat.le_trans (shown_le _ g1) (by omega), q⟩
theorem f_law_4 {E : FEnds} {s0 s1 s2 : PyData} {es d : List PyData} {i : Int} {S : Sto} {n : Nat} (hb : BoxD d n) (hn : n < 8000000) (t : Thy 10000000 3 60 es) (l2 : 2 ≤ es.length) (l6 : es.length ≤ 6)
    (h : ∀ d' a b c, BoxD d' (n + 4) → E.nx [.fz s0, .fz s1, .fz s2, .own d', .fz (.tuple es), .fz (.int i), .fz a, .fz b, .fz c, .no, .st S]) : F_law_4 E [.fz s0, .fz s1, .fz s2, .own d, .fz (.tuple es), .fz (.int i), .no, .no, .no, .no, .st S] := by
  unfold F_law_4
  walk_at "w"
  refine f_bent hb (by omega) t l2 l6 fun v d1 _ hv b1 => ?_
  obtain ⟨h1, h2, h3, _⟩ := id hv
  walk_at "w"
  refine repr_okV hv ?_
  walk_at "w"
  refine f_is_deedA h1 (by omega) fun _ => ?_
  walk_at "w"
  refine f_ldueA (by decide) h1 (by omega) (by omega) fun _ => ?_
  walk_at "w"
  refine repr_okV hv ?_
  walk_at "w"
  exact h _ _ _ _ b1
theorem f_law_5 {E : FEnds} {s0 s1 s2 : PyData} {es d : List PyData} {S : Sto} {n : Nat} (hb : BoxD d n) (hn : n < 7900000) (t : Thy 10000000 3 60 es) (l2 : 2 ≤ es.length) (l6 : es.length ≤ 6)
    (h : ∀ d', BoxD d' (n + 24) → E.nx [.fz s0, .fz s1, .fz s2, .own d', .fz (.tuple es), .no, .no, .no, .no, .no, .st S]) : F_law_5 E [.fz s0, .fz s1, .fz s2, .own d, .fz (.tuple es), .no, .no, .no, .no, .no, .st S] := by
  have lin : sizeLine = 16777216 := by decide +kernel
  unfold F_law_5
  walk_at "w"
  refine for_range (fun i ρ => ∃ d', BoxD d' (n + 4 * i) ∧ ρ = [.fz s0, .fz s1, .fz s2, .own d', .fz (.tuple es), .no, .no, .no, .no, .no, .st S]) ⟨d, hb, rfl⟩ ?_ ?_
  · rintro i ρ hi ⟨d1, b1, rfl⟩
    walk_at "w"
    exact f_law_4 b1 (by omega) t l2 l6 fun d2 a b c b2 => ⟨d2, b2, rfl⟩
  · rintro ρ ⟨d1, b1, rfl⟩
    exact h d1 b1
theorem f_law_6 {E : FEnds} {s0 s1 s2 x : PyData} {d : List PyData} {S : Sto} {n : Nat} (hb : BoxD d n) (hn : n < 7900000) (hx : RightD x)
    (h : ∀ d', BoxD d' (n + 24) → E.nx [.fz s0, .fz s1, .fz s2, .own d', .fz x, .no, .no, .no, .no, .no, .st S]) : F_law_6 E [.fz s0, .fz s1, .fz s2, .own d, .fz x, .no, .no, .no, .no, .no, .st S] := by
  obtain ⟨es, rfl, t, l2, l6, yes⟩ := hx
  obtain ⟨a1, a2, a3⟩ := tup_ok t
  unfold F_law_6
  walk_at "w"
  refine f_is_deedA a1 (by omega) fun _ => ?_
  rw [yes]
  walk_at "w"
  refine f_ldueA (by decide) a1 (by omega) (by omega) fun _ => ?_
  rw [yes]
  walk_at "w"
  exact f_law_5 hb hn t l2 l6 h
def othersL : List PyData := [.none, .bool true, .int 0, .str (Str.ofString "let"), .tuple [], .list [], .tuple [.str (Str.ofString "let")], .tuple [.str (Str.ofString "let"), .int 1, .int 1], .tuple [.tuple []]]
theorem f_law_3 {E : FEnds} {s0 s1 s2 : PyData} {d : List PyData} {S : Sto}
    (h : ∀ d9, E.nx [.fz s0, .fz s1, .fz s2, .own d, .no, .no, .no, .no, .no, .fz d9, .st S]) : F_law_3 E [.fz s0, .fz s1, .fz s2, .own d, .no, .no, .no, .no, .no, .no, .st S] := by
  have lin : sizeLine = 16777216 := by decide +kernel
  have chk : ∀ x ∈ othersL, (chkD x && !isDeedB x) = true := by decide +kernel
  unfold F_law_3
  walk_at "w"
  refine lc_map othersL id (fun _ => some (.bool false)) rfl rfl (by decide) (fun x R acc hm hacc hR => ?_) ?_
  · have c := chk x hm
    unfold chkD at c
    rw [Bool.and_eq_true, Bool.and_eq_true, Bool.and_eq_true, decide_eq_true_eq, decide_eq_true_eq, Bool.not_eq_true'] at c
    unfold F_law_2
    walk_at "w"
    refine f_is_deedA c.1.1 (by omega) fun _ => ?_
    rw [c.2]
    walk_at "w"
    exact ⟨hacc, hR⟩
  walk_at "w"
  exact h _
theorem f_law_7 {E : FEnds} {ns ms : List Int} {k : Nat} {S : Sto} (hk : k < 64) (h : ∀ d d9 S', E.nx [.fz (.list (ns.map .int)), .fz (.list (ms.map .int)), .fz (.int (k : Int)), .own d, .no, .no, .no, .no, .no, .fz d9, .st S']) : F_law_7 E [.fz (.list (ns.map .int)), .fz (.list (ms.map .int)), .fz (.int (k : Int)), .no, .no, .no, .no, .no, .no, .no, .st S] := by
  have lin : sizeLine = 16777216 := by decide +kernel
  unfold F_law_7
  walk_at "w"
  refine f_box (by omega) fun d sl hb => ?_
  walk_at "w"
  refine ⟨by decide, f_rights hb (by decide) fun xs d1 S1 hx lx _ b1 => ?_⟩
  walk_at "w"
  refine for_map xs id (fun i ρ => ∃ d', BoxD d' (3000 + 24 * i) ∧ ρ = [.fz (.list (ns.map .int)), .fz (.list (ms.map .int)), .fz (.int (k : Int)), .own d', .no, .no, .no, .no, .no, .no, .st S1]) (by simp) ⟨d1, b1.mono (by omega), rfl⟩ ?_ ?_
  · rintro i x ρ ex hi ⟨d2, b2, rfl⟩
    walk_at "w"
    exact f_law_6 b2 (by omega) (hx x (List.mem_of_getElem? ex)) fun d3 b3 => ⟨d3, b3, rfl⟩
  · rintro ρ ⟨d2, b2, rfl⟩
    walk_at "w"
    exact f_law_3 fun s9 => h _ _ _
theorem f_law {ns : List Int} (hl : ns.length ≤ 63) : F_law [.fz (.list (ns.map .int)), .st noS] fun d _ => d = .bool true := by
  have lin : sizeLine = 16777216 := by decide +kernel
  unfold F_law
  walk_at "w"
  refine f_folded (m := 2) (by decide) (by decide) hl fun ms hm sl => ?_
  walk_at "w"
  obtain ⟨z, hz, hz4⟩ : ∃ z : Nat, (if ((ms.map PyData.int).length : Int) > 1 then ((ms.map PyData.int).length : Int) else 1) = (z : Int) ∧ z ≤ 4 := by
    rw [List.length_map]
    split
    · exact ⟨ms.length, rfl, by omega⟩
    · exact ⟨1, rfl, by decide⟩
  rw [hz, Int.toNat_natCast]
  refine ⟨by omega, by omega, ?_⟩
  refine for_range (fun k ρ => ∃ S, ρ = [.fz (.list (ns.map .int)), .fz (.list (ms.map .int)), .no, .no, .no, .no, .no, .no, .no, .no, .st S]) ⟨noS, rfl⟩ ?_ ?_
  · rintro k ρ hk ⟨S, rfl⟩
    have hk' : k < 64 := by omega
    rw [Int.zero_add]
    walk_at "w"
    exact f_law_7 hk' fun d s9 S' => ⟨S', rfl⟩
  · rintro ρ ⟨S, rfl⟩
    unfold F_law_1
    walk_at "w"
def top (i : Nat) : Stmt := PySem.Challenge.pw_stallshares_k51_deeds_told_apart.main.body.getD i (.Pass ⟨0, 0, 0, 0⟩)
abbrev s__law_folded : Stmt := top 37
abbrev N__law_folded : List Str := ["_law_script", "_law_size", "_law_cells", "_law_k", "_law_cell"]
theorem sc__law_folded : FnScope N__law_folded ["_law_script", "_law_size"] (defScope s__law_folded) := ⟨rfl, rfl, rfl, by decide +kernel, rfl, by decide +kernel, by decide +kernel⟩
abbrev s__law_box : Stmt := top 35
abbrev N__law_box : List Str := ["_law_script", "_law_k", "_law_cell"]
theorem sc__law_box : FnScope N__law_box ["_law_script", "_law_k"] (defScope s__law_box) := ⟨rfl, rfl, rfl, by decide +kernel, rfl, by decide +kernel, by decide +kernel⟩
abbrev s__law_take : Stmt := top 36
abbrev N__law_take : List Str := ["_law_box_here", "_law_size", "_law_found", "_law_step", "_law_once", "_law_twice"]
theorem sc__law_take : FnScope N__law_take ["_law_box_here", "_law_size"] (defScope s__law_take) := ⟨rfl, rfl, rfl, by decide +kernel, rfl, by decide +kernel, by decide +kernel⟩
abbrev s__law_names : Stmt := top 38
abbrev N__law_names : List Str := ["_law_box_here", "_law_many", "_law_letters", "_law_found", "_law_first", "_law_step", "_law_words", "_law_k", "_law_own", "_law_tail", "_law_turn", "_law_name"]
theorem sc__law_names : FnScope N__law_names ["_law_box_here", "_law_many"] (defScope s__law_names) := ⟨rfl, rfl, rfl, by decide +kernel, rfl, by decide +kernel, by decide +kernel⟩
abbrev s__law_numbers : Stmt := top 42
abbrev N__law_numbers : List Str := ["_law_box_here", "_law_many", "_law_first", "_law_step", "_law_k"]
theorem sc__law_numbers : FnScope N__law_numbers ["_law_box_here", "_law_many"] (defScope s__law_numbers) := ⟨rfl, rfl, rfl, by decide +kernel, rfl, by decide +kernel, by decide +kernel⟩
abbrev s__law_world : Stmt := top 43
abbrev N__law_world : List Str := ["_law_box_here", "_law_many", "_law_names_here", "_law_first"]
theorem sc__law_world : FnScope N__law_world ["_law_box_here", "_law_many"] (defScope s__law_world) := ⟨rfl, rfl, rfl, by decide +kernel, rfl, by decide +kernel, by decide +kernel⟩
abbrev s__law_price : Stmt := top 40
abbrev N__law_price : List Str := ["_law_box_here"]
theorem sc__law_price : FnScope N__law_price ["_law_box_here"] (defScope s__law_price) := ⟨rfl, rfl, rfl, by decide +kernel, rfl, by decide +kernel, by decide +kernel⟩
abbrev s__law_some_words : Stmt := top 39
abbrev N__law_some_words : List Str := ["_law_box_here", "_law_pool", "_law_most", "_law_left", "_law_found", "_law_turn"]
theorem sc__law_some_words : FnScope N__law_some_words ["_law_box_here", "_law_pool", "_law_most"] (defScope s__law_some_words) := ⟨rfl, rfl, rfl, by decide +kernel, rfl, by decide +kernel, by decide +kernel⟩
abbrev s__law_give : Stmt := top 44
abbrev N__law_give : List Str := ["_law_box_here", "_law_world_here", "_law_price_here", "_law_number", "_law_least", "_law_owner"]
theorem sc__law_give : FnScope N__law_give ["_law_box_here", "_law_world_here"] (defScope s__law_give) := ⟨rfl, rfl, rfl, by decide +kernel, rfl, by decide +kernel, by decide +kernel⟩
abbrev s__law_heap : Stmt := top 45
abbrev N__law_heap : List Str := ["_law_box_here", "_law_world_here", "_law_most", "_law_left", "_law_numbers_here", "_law_turn", "_law_known", "_law_number", "_law_some", "_law_pairs", "_law_low", "_law_high", "_law_price_here", "_law_least"]
theorem sc__law_heap : FnScope N__law_heap ["_law_box_here", "_law_world_here", "_law_most"] (defScope s__law_heap) := ⟨rfl, rfl, rfl, by decide +kernel, rfl, by decide +kernel, by decide +kernel⟩
abbrev s__law_rule : Stmt := top 41
abbrev N__law_rule : List Str := ["_law_box_here", "_law_age", "_law_part", "_law_found", "_law_turn", "_law_pair"]
theorem sc__law_rule : FnScope N__law_rule ["_law_box_here"] (defScope s__law_rule) := ⟨rfl, rfl, rfl, by decide +kernel, rfl, by decide +kernel, by decide +kernel⟩
abbrev s__law_rights : Stmt := top 53
abbrev N__law_rights : List Str := ["_law_box_here", "_law_world_here", "_law_number", "_law_amount", "_law_price_here", "_law_found", "_law_word"]
theorem sc__law_rights : FnScope N__law_rights ["_law_box_here"] (defScope s__law_rights) := ⟨rfl, rfl, rfl, by decide +kernel, rfl, by decide +kernel, by decide +kernel⟩
abbrev s__law_odds : Stmt := top 54
abbrev N__law_odds : List Str := ["_law_box_here", "_law_some", "_law_k"]
theorem sc__law_odds : FnScope N__law_odds ["_law_box_here"] (defScope s__law_odds) := ⟨rfl, rfl, rfl, by decide +kernel, rfl, by decide +kernel, by decide +kernel⟩
abbrev s__law_bent : Stmt := top 55
abbrev N__law_bent : List Str := ["_law_box_here", "_law_deed", "_law_way", "_law_at", "_law_words", "_law_some"]
theorem sc__law_bent : FnScope N__law_bent ["_law_box_here", "_law_deed"] (defScope s__law_bent) := ⟨rfl, rfl, rfl, by decide +kernel, rfl, by decide +kernel, by decide +kernel⟩
abbrev s_is_whole : Stmt := top 6
abbrev N_is_whole : List Str := ["thing", "least", "most"]
theorem sc_is_whole : FnScope N_is_whole ["thing", "least", "most"] (defScope s_is_whole) := ⟨rfl, rfl, rfl, by decide +kernel, rfl, by decide +kernel, by decide +kernel⟩
abbrev s_are_rising : Stmt := top 21
abbrev N_are_rising : List Str := ["things", "one", "other"]
theorem sc_are_rising : FnScope N_are_rising ["things"] (defScope s_are_rising) := ⟨rfl, rfl, rfl, by decide +kernel, rfl, by decide +kernel, by decide +kernel⟩
abbrev s_is_name : Stmt := top 5
abbrev N_is_name : List Str := ["thing", "sign"]
theorem sc_is_name : FnScope N_is_name ["thing"] (defScope s_is_name) := ⟨rfl, rfl, rfl, by decide +kernel, rfl, by decide +kernel, by decide +kernel⟩
abbrev s_are_words : Stmt := top 22
abbrev N_are_words : List Str := ["thing", "word"]
theorem sc_are_words : FnScope N_are_words ["thing"] (defScope s_are_words) := ⟨rfl, rfl, rfl, by decide +kernel, rfl, by decide +kernel, by decide +kernel⟩
abbrev s_is_number : Stmt := top 19
abbrev N_is_number : List Str := ["thing"]
theorem sc_is_number : FnScope N_is_number ["thing"] (defScope s_is_number) := ⟨rfl, rfl, rfl, by decide +kernel, rfl, by decide +kernel, by decide +kernel⟩
abbrev s_is_give : Stmt := top 24
abbrev N_is_give : List Str := ["deed", "word", "owner", "number", "price", "least", "words"]
theorem sc_is_give : FnScope N_is_give ["deed"] (defScope s_is_give) := ⟨rfl, rfl, rfl, by decide +kernel, rfl, by decide +kernel, by decide +kernel⟩
abbrev s_are_numbers : Stmt := top 23
abbrev N_are_numbers : List Str := ["thing", "one"]
theorem sc_are_numbers : FnScope N_are_numbers ["thing"] (defScope s_are_numbers) := ⟨rfl, rfl, rfl, by decide +kernel, rfl, by decide +kernel, by decide +kernel⟩
abbrev s_is_amount : Stmt := top 20
abbrev N_is_amount : List Str := ["thing"]
theorem sc_is_amount : FnScope N_is_amount ["thing"] (defScope s_is_amount) := ⟨rfl, rfl, rfl, by decide +kernel, rfl, by decide +kernel, by decide +kernel⟩
abbrev s_is_heap : Stmt := top 29
abbrev N_is_heap : List Str := ["deed"]
theorem sc_is_heap : FnScope N_is_heap ["deed"] (defScope s_is_heap) := ⟨rfl, rfl, rfl, by decide +kernel, rfl, by decide +kernel, by decide +kernel⟩
abbrev s_is_of_thing : Stmt := top 25
abbrev N_is_of_thing : List Str := ["deed"]
theorem sc_is_of_thing : FnScope N_is_of_thing ["deed"] (defScope s_is_of_thing) := ⟨rfl, rfl, rfl, by decide +kernel, rfl, by decide +kernel, by decide +kernel⟩
abbrev s_is_pay : Stmt := top 30
abbrev N_is_pay : List Str := ["deed"]
theorem sc_is_pay : FnScope N_is_pay ["deed"] (defScope s_is_pay) := ⟨rfl, rfl, rfl, by decide +kernel, rfl, by decide +kernel, by decide +kernel⟩
abbrev s_is_sell : Stmt := top 28
abbrev N_is_sell : List Str := ["deed"]
theorem sc_is_sell : FnScope N_is_sell ["deed"] (defScope s_is_sell) := ⟨rfl, rfl, rfl, by decide +kernel, rfl, by decide +kernel, by decide +kernel⟩
abbrev s_is_rule_pair : Stmt := top 11
abbrev N_is_rule_pair : List Str := ["thing"]
theorem sc_is_rule_pair : FnScope N_is_rule_pair ["thing"] (defScope s_is_rule_pair) := ⟨rfl, rfl, rfl, by decide +kernel, rfl, by decide +kernel, by decide +kernel⟩
abbrev s_is_rule : Stmt := top 12
abbrev N_is_rule : List Str := ["thing", "pair", "one", "other"]
theorem sc_is_rule : FnScope N_is_rule ["thing"] (defScope s_is_rule) := ⟨rfl, rfl, rfl, by decide +kernel, rfl, by decide +kernel, by decide +kernel⟩
abbrev s_is_told_rule : Stmt := top 26
abbrev N_is_told_rule : List Str := ["deed"]
theorem sc_is_told_rule : FnScope N_is_told_rule ["deed"] (defScope s_is_told_rule) := ⟨rfl, rfl, rfl, by decide +kernel, rfl, by decide +kernel, by decide +kernel⟩
abbrev s_is_told_share : Stmt := top 27
abbrev N_is_told_share : List Str := ["deed"]
theorem sc_is_told_share : FnScope N_is_told_share ["deed"] (defScope s_is_told_share) := ⟨rfl, rfl, rfl, by decide +kernel, rfl, by decide +kernel, by decide +kernel⟩
abbrev s_is_deed : Stmt := top 33
abbrev N_is_deed : List Str := ["thing", "shape"]
theorem sc_is_deed : FnScope N_is_deed ["thing"] (defScope s_is_deed) := ⟨rfl, rfl, rfl, by decide +kernel, rfl, by decide +kernel, by decide +kernel⟩
abbrev s__law_is_whole : Stmt := top 47
abbrev N__law_is_whole : List Str := ["_law_thing", "_law_least", "_law_most"]
theorem sc__law_is_whole : FnScope N__law_is_whole ["_law_thing", "_law_least", "_law_most"] (defScope s__law_is_whole) := ⟨rfl, rfl, rfl, by decide +kernel, rfl, by decide +kernel, by decide +kernel⟩
abbrev s__law_rise : Stmt := top 48
abbrev N__law_rise : List Str := ["_law_things", "_law_one", "_law_other"]
theorem sc__law_rise : FnScope N__law_rise ["_law_things"] (defScope s__law_rise) := ⟨rfl, rfl, rfl, by decide +kernel, rfl, by decide +kernel, by decide +kernel⟩
abbrev s__law_is_name : Stmt := top 46
abbrev N__law_is_name : List Str := ["_law_thing", "_law_sign"]
theorem sc__law_is_name : FnScope N__law_is_name ["_law_thing"] (defScope s__law_is_name) := ⟨rfl, rfl, rfl, by decide +kernel, rfl, by decide +kernel, by decide +kernel⟩
abbrev s__law_is_given : Stmt := top 50
abbrev N__law_is_given : List Str := ["_law_rest", "_law_owner", "_law_number", "_law_price_here", "_law_least", "_law_words", "_law_word"]
theorem sc__law_is_given : FnScope N__law_is_given ["_law_rest"] (defScope s__law_is_given) := ⟨rfl, rfl, rfl, by decide +kernel, rfl, by decide +kernel, by decide +kernel⟩
abbrev s__law_is_heap : Stmt := top 51
abbrev N__law_is_heap : List Str := ["_law_rest", "_law_numbers_here", "_law_amount", "_law_number"]
theorem sc__law_is_heap : FnScope N__law_is_heap ["_law_rest"] (defScope s__law_is_heap) := ⟨rfl, rfl, rfl, by decide +kernel, rfl, by decide +kernel, by decide +kernel⟩
abbrev s__law_is_rule : Stmt := top 49
abbrev N__law_is_rule : List Str := ["_law_thing", "_law_pair"]
theorem sc__law_is_rule : FnScope N__law_is_rule ["_law_thing"] (defScope s__law_is_rule) := ⟨rfl, rfl, rfl, by decide +kernel, rfl, by decide +kernel, by decide +kernel⟩
abbrev s__law_due : Stmt := top 52
abbrev N__law_due : List Str := ["_law_thing", "_law_word", "_law_rest", "_law_words"]
theorem sc__law_due : FnScope N__law_due ["_law_thing"] (defScope s__law_due) := ⟨rfl, rfl, rfl, by decide +kernel, rfl, by decide +kernel, by decide +kernel⟩
abbrev s_law : Stmt := top 56
abbrev N_law : List Str := ["_law_script", "_law_cells", "_law_k", "_law_box_here", "_law_deed", "_law_turn", "_law_thing", "_law_kept", "_law_found", "_law_others"]
theorem sc_law : FnScope N_law ["_law_script"] (defScope s_law) := ⟨rfl, rfl, rfl, by decide +kernel, rfl, by decide +kernel, by decide +kernel⟩
structure Ad where
  D_DEED_SHAPES : Addr
  D_DEED_SIZES : Addr
  f__law_folded : Addr
  d__law_folded : FuncData
  f__law_box : Addr
  d__law_box : FuncData
  f__law_take : Addr
  d__law_take : FuncData
  f__law_names : Addr
  d__law_names : FuncData
  f__law_numbers : Addr
  d__law_numbers : FuncData
  f__law_world : Addr
  d__law_world : FuncData
  f__law_price : Addr
  d__law_price : FuncData
  f__law_some_words : Addr
  d__law_some_words : FuncData
  f__law_give : Addr
  d__law_give : FuncData
  f__law_heap : Addr
  d__law_heap : FuncData
  f__law_rule : Addr
  d__law_rule : FuncData
  f__law_rights : Addr
  d__law_rights : FuncData
  f__law_odds : Addr
  d__law_odds : FuncData
  f__law_bent : Addr
  d__law_bent : FuncData
  f_is_whole : Addr
  d_is_whole : FuncData
  f_are_rising : Addr
  d_are_rising : FuncData
  f_is_name : Addr
  d_is_name : FuncData
  f_are_words : Addr
  d_are_words : FuncData
  f_is_number : Addr
  d_is_number : FuncData
  f_is_give : Addr
  d_is_give : FuncData
  f_are_numbers : Addr
  d_are_numbers : FuncData
  f_is_amount : Addr
  d_is_amount : FuncData
  f_is_heap : Addr
  d_is_heap : FuncData
  f_is_of_thing : Addr
  d_is_of_thing : FuncData
  f_is_pay : Addr
  d_is_pay : FuncData
  f_is_sell : Addr
  d_is_sell : FuncData
  f_is_rule_pair : Addr
  d_is_rule_pair : FuncData
  f_is_rule : Addr
  d_is_rule : FuncData
  f_is_told_rule : Addr
  d_is_told_rule : FuncData
  f_is_told_share : Addr
  d_is_told_share : FuncData
  f_is_deed : Addr
  d_is_deed : FuncData
  f__law_is_whole : Addr
  d__law_is_whole : FuncData
  f__law_rise : Addr
  d__law_rise : FuncData
  f__law_is_name : Addr
  d__law_is_name : FuncData
  f__law_is_given : Addr
  d__law_is_given : FuncData
  f__law_is_heap : Addr
  d__law_is_heap : FuncData
  f__law_is_rule : Addr
  d__law_is_rule : FuncData
  f__law_due : Addr
  d__law_due : FuncData
  f_law : Addr
  d_law : FuncData
structure Txt (w : World) (K : PySem.W.Frag) (mg : Str → Option Value) (a : Ad) : Prop where
  g_DEED_SHAPES : mg "DEED_SHAPES" = some (.ref a.D_DEED_SHAPES)
  kt_DEED_SHAPES : KTb K w a.D_DEED_SHAPES tb_DEED_SHAPES
  g_DEED_SIZES : mg "DEED_SIZES" = some (.ref a.D_DEED_SIZES)
  kt_DEED_SIZES : KTb K w a.D_DEED_SIZES tb_DEED_SIZES
  n_list : mg "list" = none
  n_enumerate : mg "enumerate" = none
  n_len : mg "len" = none
  n_abs : mg "abs" = none
  n_int : mg "int" = none
  n_divmod : mg "divmod" = none
  n_range : mg "range" = none
  n_tuple : mg "tuple" = none
  n_sorted : mg "sorted" = none
  n_min : mg "min" = none
  n_sum : mg "sum" = none
  n_max : mg "max" = none
  n_set : mg "set" = none
  n_isinstance : mg "isinstance" = none
  n_bool : mg "bool" = none
  n_all : mg "all" = none
  n_zip : mg "zip" = none
  n_str : mg "str" = none
  n_any : mg "any" = none
  n_repr : mg "repr" = none
  c_SMALL_SIGNS : ∃ u, mg "SMALL_SIGNS" = some u ∧ RelV (.str "abcdefghijklmnopqrstuvwxyz") u
  c_MOST_SIGNS : ∃ u, mg "MOST_SIGNS" = some u ∧ RelV (.int 8) u
  c_MOST_NUMBER : ∃ u, mg "MOST_NUMBER" = some u ∧ RelV (.int 9999) u
  c_MOST_PRICE : ∃ u, mg "MOST_PRICE" = some u ∧ RelV (.int 99999) u
  c_MOST_PAIRS : ∃ u, mg "MOST_PAIRS" = some u ∧ RelV (.int 6) u
  c_MOST_AGE : ∃ u, mg "MOST_AGE" = some u ∧ RelV (.int 999) u
  c_MOST_PART : ∃ u, mg "MOST_PART" = some u ∧ RelV (.int 99) u
  c_MOST_AMOUNT : ∃ u, mg "MOST_AMOUNT" = some u ∧ RelV (.int 9999999) u
  c_MOST_SHARE : ∃ u, mg "MOST_SHARE" = some u ∧ RelV (.int 100) u
  c_MOST_WORDS : ∃ u, mg "MOST_WORDS" = some u ∧ RelV (.int 6) u
  c_LEAST_HEAP : ∃ u, mg "LEAST_HEAP" = some u ∧ RelV (.int 2) u
  c_MOST_HEAP : ∃ u, mg "MOST_HEAP" = some u ∧ RelV (.int 12) u
  F__law_folded : Fun K "_law_folded" "_law_folded" s__law_folded a.f__law_folded a.d__law_folded
  g__law_folded : mg "_law_folded" = some (.ref a.f__law_folded)
  b__law_folded : Binds K a.d__law_folded ["_law_script", "_law_size"] []
  F__law_box : Fun K "_law_box" "_law_box" s__law_box a.f__law_box a.d__law_box
  g__law_box : mg "_law_box" = some (.ref a.f__law_box)
  b__law_box : Binds K a.d__law_box ["_law_script", "_law_k"] []
  F__law_take : Fun K "_law_take" "_law_take" s__law_take a.f__law_take a.d__law_take
  g__law_take : mg "_law_take" = some (.ref a.f__law_take)
  b__law_take : Binds K a.d__law_take ["_law_box_here", "_law_size"] []
  F__law_names : Fun K "_law_names" "_law_names" s__law_names a.f__law_names a.d__law_names
  g__law_names : mg "_law_names" = some (.ref a.f__law_names)
  b__law_names : Binds K a.d__law_names ["_law_box_here", "_law_many"] []
  F__law_numbers : Fun K "_law_numbers" "_law_numbers" s__law_numbers a.f__law_numbers a.d__law_numbers
  g__law_numbers : mg "_law_numbers" = some (.ref a.f__law_numbers)
  b__law_numbers : Binds K a.d__law_numbers ["_law_box_here", "_law_many"] []
  F__law_world : Fun K "_law_world" "_law_world" s__law_world a.f__law_world a.d__law_world
  g__law_world : mg "_law_world" = some (.ref a.f__law_world)
  b__law_world : Binds K a.d__law_world ["_law_box_here", "_law_many"] []
  F__law_price : Fun K "_law_price" "_law_price" s__law_price a.f__law_price a.d__law_price
  g__law_price : mg "_law_price" = some (.ref a.f__law_price)
  b__law_price : Binds K a.d__law_price ["_law_box_here"] []
  F__law_some_words : Fun K "_law_some_words" "_law_some_words" s__law_some_words a.f__law_some_words a.d__law_some_words
  g__law_some_words : mg "_law_some_words" = some (.ref a.f__law_some_words)
  b__law_some_words : Binds K a.d__law_some_words ["_law_box_here", "_law_pool", "_law_most"] []
  F__law_give : Fun K "_law_give" "_law_give" s__law_give a.f__law_give a.d__law_give
  g__law_give : mg "_law_give" = some (.ref a.f__law_give)
  b__law_give : Binds K a.d__law_give ["_law_box_here", "_law_world_here"] []
  F__law_heap : Fun K "_law_heap" "_law_heap" s__law_heap a.f__law_heap a.d__law_heap
  g__law_heap : mg "_law_heap" = some (.ref a.f__law_heap)
  b__law_heap : Binds K a.d__law_heap ["_law_box_here", "_law_world_here", "_law_most"] []
  F__law_rule : Fun K "_law_rule" "_law_rule" s__law_rule a.f__law_rule a.d__law_rule
  g__law_rule : mg "_law_rule" = some (.ref a.f__law_rule)
  b__law_rule : Binds K a.d__law_rule ["_law_box_here"] []
  F__law_rights : Fun K "_law_rights" "_law_rights" s__law_rights a.f__law_rights a.d__law_rights
  g__law_rights : mg "_law_rights" = some (.ref a.f__law_rights)
  b__law_rights : Binds K a.d__law_rights ["_law_box_here"] []
  F__law_odds : Fun K "_law_odds" "_law_odds" s__law_odds a.f__law_odds a.d__law_odds
  g__law_odds : mg "_law_odds" = some (.ref a.f__law_odds)
  b__law_odds : Binds K a.d__law_odds ["_law_box_here"] []
  F__law_bent : Fun K "_law_bent" "_law_bent" s__law_bent a.f__law_bent a.d__law_bent
  g__law_bent : mg "_law_bent" = some (.ref a.f__law_bent)
  b__law_bent : Binds K a.d__law_bent ["_law_box_here", "_law_deed"] []
  F_is_whole : Fun K "is_whole" "is_whole" s_is_whole a.f_is_whole a.d_is_whole
  g_is_whole : mg "is_whole" = some (.ref a.f_is_whole)
  b_is_whole : Binds K a.d_is_whole ["thing", "least", "most"] []
  F_are_rising : Fun K "are_rising" "are_rising" s_are_rising a.f_are_rising a.d_are_rising
  g_are_rising : mg "are_rising" = some (.ref a.f_are_rising)
  b_are_rising : Binds K a.d_are_rising ["things"] []
  F_is_name : Fun K "is_name" "is_name" s_is_name a.f_is_name a.d_is_name
  g_is_name : mg "is_name" = some (.ref a.f_is_name)
  b_is_name : Binds K a.d_is_name ["thing"] []
  F_are_words : Fun K "are_words" "are_words" s_are_words a.f_are_words a.d_are_words
  g_are_words : mg "are_words" = some (.ref a.f_are_words)
  b_are_words : Binds K a.d_are_words ["thing"] []
  F_is_number : Fun K "is_number" "is_number" s_is_number a.f_is_number a.d_is_number
  g_is_number : mg "is_number" = some (.ref a.f_is_number)
  b_is_number : Binds K a.d_is_number ["thing"] []
  F_is_give : Fun K "is_give" "is_give" s_is_give a.f_is_give a.d_is_give
  g_is_give : mg "is_give" = some (.ref a.f_is_give)
  b_is_give : Binds K a.d_is_give ["deed"] []
  F_are_numbers : Fun K "are_numbers" "are_numbers" s_are_numbers a.f_are_numbers a.d_are_numbers
  g_are_numbers : mg "are_numbers" = some (.ref a.f_are_numbers)
  b_are_numbers : Binds K a.d_are_numbers ["thing"] []
  F_is_amount : Fun K "is_amount" "is_amount" s_is_amount a.f_is_amount a.d_is_amount
  g_is_amount : mg "is_amount" = some (.ref a.f_is_amount)
  b_is_amount : Binds K a.d_is_amount ["thing"] []
  F_is_heap : Fun K "is_heap" "is_heap" s_is_heap a.f_is_heap a.d_is_heap
  g_is_heap : mg "is_heap" = some (.ref a.f_is_heap)
  b_is_heap : Binds K a.d_is_heap ["deed"] []
  F_is_of_thing : Fun K "is_of_thing" "is_of_thing" s_is_of_thing a.f_is_of_thing a.d_is_of_thing
  g_is_of_thing : mg "is_of_thing" = some (.ref a.f_is_of_thing)
  b_is_of_thing : Binds K a.d_is_of_thing ["deed"] []
  F_is_pay : Fun K "is_pay" "is_pay" s_is_pay a.f_is_pay a.d_is_pay
  g_is_pay : mg "is_pay" = some (.ref a.f_is_pay)
  b_is_pay : Binds K a.d_is_pay ["deed"] []
  F_is_sell : Fun K "is_sell" "is_sell" s_is_sell a.f_is_sell a.d_is_sell
  g_is_sell : mg "is_sell" = some (.ref a.f_is_sell)
  b_is_sell : Binds K a.d_is_sell ["deed"] []
  F_is_rule_pair : Fun K "is_rule_pair" "is_rule_pair" s_is_rule_pair a.f_is_rule_pair a.d_is_rule_pair
  g_is_rule_pair : mg "is_rule_pair" = some (.ref a.f_is_rule_pair)
  b_is_rule_pair : Binds K a.d_is_rule_pair ["thing"] []
  F_is_rule : Fun K "is_rule" "is_rule" s_is_rule a.f_is_rule a.d_is_rule
  g_is_rule : mg "is_rule" = some (.ref a.f_is_rule)
  b_is_rule : Binds K a.d_is_rule ["thing"] []
  F_is_told_rule : Fun K "is_told_rule" "is_told_rule" s_is_told_rule a.f_is_told_rule a.d_is_told_rule
  g_is_told_rule : mg "is_told_rule" = some (.ref a.f_is_told_rule)
  b_is_told_rule : Binds K a.d_is_told_rule ["deed"] []
  F_is_told_share : Fun K "is_told_share" "is_told_share" s_is_told_share a.f_is_told_share a.d_is_told_share
  g_is_told_share : mg "is_told_share" = some (.ref a.f_is_told_share)
  b_is_told_share : Binds K a.d_is_told_share ["deed"] []
  F_is_deed : Fun K "is_deed" "is_deed" s_is_deed a.f_is_deed a.d_is_deed
  g_is_deed : mg "is_deed" = some (.ref a.f_is_deed)
  b_is_deed : Binds K a.d_is_deed ["thing"] []
  F__law_is_whole : Fun K "_law_is_whole" "_law_is_whole" s__law_is_whole a.f__law_is_whole a.d__law_is_whole
  g__law_is_whole : mg "_law_is_whole" = some (.ref a.f__law_is_whole)
  b__law_is_whole : Binds K a.d__law_is_whole ["_law_thing", "_law_least", "_law_most"] []
  F__law_rise : Fun K "_law_rise" "_law_rise" s__law_rise a.f__law_rise a.d__law_rise
  g__law_rise : mg "_law_rise" = some (.ref a.f__law_rise)
  b__law_rise : Binds K a.d__law_rise ["_law_things"] []
  F__law_is_name : Fun K "_law_is_name" "_law_is_name" s__law_is_name a.f__law_is_name a.d__law_is_name
  g__law_is_name : mg "_law_is_name" = some (.ref a.f__law_is_name)
  b__law_is_name : Binds K a.d__law_is_name ["_law_thing"] []
  F__law_is_given : Fun K "_law_is_given" "_law_is_given" s__law_is_given a.f__law_is_given a.d__law_is_given
  g__law_is_given : mg "_law_is_given" = some (.ref a.f__law_is_given)
  b__law_is_given : Binds K a.d__law_is_given ["_law_rest"] []
  F__law_is_heap : Fun K "_law_is_heap" "_law_is_heap" s__law_is_heap a.f__law_is_heap a.d__law_is_heap
  g__law_is_heap : mg "_law_is_heap" = some (.ref a.f__law_is_heap)
  b__law_is_heap : Binds K a.d__law_is_heap ["_law_rest"] []
  F__law_is_rule : Fun K "_law_is_rule" "_law_is_rule" s__law_is_rule a.f__law_is_rule a.d__law_is_rule
  g__law_is_rule : mg "_law_is_rule" = some (.ref a.f__law_is_rule)
  b__law_is_rule : Binds K a.d__law_is_rule ["_law_thing"] []
  F__law_due : Fun K "_law_due" "_law_due" s__law_due a.f__law_due a.d__law_due
  g__law_due : mg "_law_due" = some (.ref a.f__law_due)
  b__law_due : Binds K a.d__law_due ["_law_thing"] []
  F_law : Fun K "law" "law" s_law a.f_law a.d_law
  q_is_give : PySem.W.nsIn K mainGlobals "is_give" = some (some (.ref a.f_is_give))
  q_is_of_thing : PySem.W.nsIn K mainGlobals "is_of_thing" = some (some (.ref a.f_is_of_thing))
  q_is_told_rule : PySem.W.nsIn K mainGlobals "is_told_rule" = some (some (.ref a.f_is_told_rule))
  q_is_told_share : PySem.W.nsIn K mainGlobals "is_told_share" = some (some (.ref a.f_is_told_share))
  q_is_sell : PySem.W.nsIn K mainGlobals "is_sell" = some (some (.ref a.f_is_sell))
  q_is_heap : PySem.W.nsIn K mainGlobals "is_heap" = some (some (.ref a.f_is_heap))
  q_is_pay : PySem.W.nsIn K mainGlobals "is_pay" = some (some (.ref a.f_is_pay))
/-! ### the draw -/
def sp__law_take : Sp := fun vs H Q _ => ∃ (B : Addr) (m : Int) (n : Nat), vs = [.ref B, .int m] ∧ Box H B n ∧ 0 < m ∧ m < 1073741824 ∧ n < 1000000000 ∧
  ∀ r H', 0 ≤ r → r < m → Fr [B] H H' → Box H' B (n + 1) → Q (.int r) H'
theorem ok__law_take {P : Program} {w : World} {K : PySem.W.Frag} {mg : Str → Option Value} {base : Heap} {ad : Ad} (T : Txt w K mg ad) : FnOk P w K mg base CX0 1 ad.f__law_take ad.d__law_take ["_law_box_here", "_law_size"] sp__law_take := by
  refine T.F__law_take.ok sc__law_take (fun vs H Q E h => ?_) (fun cdv A outer s H vs Q E hr h => ?_)
  · obtain ⟨a, ns, k, rfl, _⟩ := h
    rfl
  · obtain ⟨B, m, n, rfl, ⟨b0, b1, b2, hB, h0, h1, h2, h3, h4⟩, m0, m1, hn, q⟩ := h
    refine ⟨_, (pss_cons (ps_if (pt_cmpR op_gt (pe_ix ix_list (pv 0) pe_int (fun _ _ => rfl)) pe_int (nomark _)) (pss_cons (ps_asg (pe_callB call_divmod (by rfl) T.n_divmod (by decide +kernel) (pa_cons (pe_ix ix_list (pv 0) pe_int (fun _ _ => rfl)) (pa_cons (pv 1) pa_nil))) (pg_tup (by rfl) (pgs_cons (pg_sub (pv 0) pe_int set_list) (pgs_cons (pg_name (i := 2) sc__law_take.nd rfl (Or.inl rfl)) pgs_nil))))
    (pss_one (ps_ret (pv 2)))) pss_nil)
    (pss_cons (ps_asg (pe_op op_add (pe_ix ix_list (pv 0) pe_int (fun _ _ => rfl)) pe_int) (pg_sub (pv 0) pe_int set_list))
    (pss_cons (ps_set (i := 3) sc__law_take.nd rfl (Or.inl rfl) (pe_op op_add pe_int (pe_op op_mul (pe_ix ix_list (pv 0) pe_int (fun _ _ => rfl)) (pe_ix ix_list (pv 0) pe_int (fun _ _ => rfl)))))
    (pss_cons (ps_set (i := 4) sc__law_take.nd rfl (Or.inl rfl) (pe_op op_mod (pe_op op_mul (pe_op op_add (pe_ix ix_list (pv 0) pe_int (fun _ _ => rfl)) (pe_op op_mul pe_int (pe_ix ix_list (pv 0) pe_int (fun _ _ => rfl)))) (pv 3)) pe_int))
    (pss_cons (ps_set (i := 5) sc__law_take.nd rfl (Or.inl rfl) (pe_op op_mod (pe_op op_add (pe_op op_mul (pv 4) (pe_op op_add (pe_op op_mod (pv 4) pe_int) pe_int)) (pe_ix ix_list (pv 0) pe_int (fun _ _ => rfl))) pe_int))
    (pss_one (ps_ret (pe_op op_mod (pe_op op_fdiv (pe_op op_mod (pe_op op_mul (pv 5) (pe_op op_add (pe_op op_mod (pv 5) pe_int) pe_int)) pe_int) pe_int) (pv 1))))))))), ?_⟩
    walk_at "z"
    refine ite2 (fun h => ?_) (fun h => ?_)
    · walk_at "z"
      refine fun p hp => ?_
      have hBp : B ≠ p := ne_of_none hB hp
      have hB' : upd H p (.tup [.int (b0 / m), .int (b0 % m)]) B = some (.lst [.int b0, .int b1, .int b2]) := by rw [upd_ne hBp]; exact hB
      walk_at "z"
      refine q _ _ (Int.emod_nonneg _ (by omega)) (Int.emod_lt_of_pos _ m0) ?_ ?_
      · exact (Fr.new hp).put (by simp)
      · exact ⟨_, _, _, upd_same, Int.ediv_nonneg h0 (by omega), h1, h2, h3, by omega⟩
    · walk_at "z"
      refine q _ _ (Int.emod_nonneg _ (by omega)) (Int.emod_lt_of_pos _ m0) ((Fr.refl _ _).put (by simp)) ⟨_, _, _, upd_same, h0, h1, h2, by omega, by omega⟩

theorem okD__law_take {P : Program} {w : World} {K : PySem.W.Frag} {mg : Str → Option Value} {base : Heap} {ad : Ad} (T : Txt w K mg ad) : FnOk P w K mg base CX0 1 ad.f__law_take ad.d__law_take ["_law_box_here", "_law_size"] (spF K 2 F__law_take) :=
  (ok__law_take T).imp fun _ _ _ _ h => take_of h

theorem okD__law_folded {P : Program} {w : World} {K : PySem.W.Frag} {mg : Str → Option Value} {base : Heap} {ad : Ad} (T : Txt w K mg ad) : FnOk P w K mg base CX0 1 ad.f__law_folded ad.d__law_folded ["_law_script", "_law_size"] (spF K 2 F__law_folded) := by
  refine okF0 T.F__law_folded sc__law_folded fun cdv A outer s H E hr => ⟨_, (pss_cons (ps_set (i := 2) sc__law_folded.nd rfl (Or.inl rfl) (pe_callTy call_list_of (by rfl) T.n_list (by decide +kernel) (pa_cons (pe_slice sl_list (pv 0) po_none (po_some (pv 1))) pa_nil)))
    (pss_cons (ps_for PassesOwn.never rfl (pi_enum (by rfl) T.n_enumerate (pa_cons (pe_slice sl_list (pv 0) (po_some (pv 1)) (po_some pe_int)) pa_nil)) (pg_tup (by rfl) (pgs_cons (pg_name (i := 3) sc__law_folded.nd rfl (Or.inl rfl)) (pgs_cons (pg_name (i := 4) sc__law_folded.nd rfl (Or.inl rfl)) pgs_nil))) (pss_one (ps_asg (pe_op op_add (pe_ix ix_list (pv 2) (pe_op op_mod (pv 3) (pv 1)) (fun _ _ => rfl)) (pe_op op_mul (pv 4) (pe_op op_add (pv 3) pe_int))) (pg_sub (pv 2) (pe_op op_mod (pv 3) (pv 1)) set_list))))
    (pss_one (ps_ret (pv 2))))), ?_⟩
  intro J
  exact (rs_seq (rs_own (by decide) (rn_cb rbn_list (ra_cons (re_sl rl_list re_v ro_no (ro_so re_v)) ra_nil)))
    (rs_seq (rs_for (by decide) (ri_enum (ra_cons (re_sl rl_list re_v (ro_so re_v) (ro_so (re_c fun _ => .int _))) ra_nil)) (rg_tup (rgs_cons rg_name (rgs_cons rg_name rgs_nil))) (rs_asg (re_op rr_add (re_ixO (re_op rr_mod re_v re_v)) (re_op rr_mul re_v (re_op rr_add re_v (re_c fun _ => .int _)))) (rg_subO (re_op rr_mod re_v re_v))))
    (rs_freeze (by decide) (rs_ret re_v))))
theorem okD__law_box {P : Program} {w : World} {K : PySem.W.Frag} {mg : Str → Option Value} {base : Heap} {ad : Ad} (T : Txt w K mg ad) : FnOk P w K mg base CX0 1 ad.f__law_box ad.d__law_box ["_law_script", "_law_k"] (spN K 2 F__law_box) := by
  refine okN0 T.F__law_box sc__law_box fun cdv A outer s H E hr => ⟨_, (pss_cons (ps_set (i := 2) sc__law_box.nd rfl (Or.inl rfl) (pe_ifExp (pt_cmpR op_lt (pv 1) (pe_callB call_len_seq (by rfl) T.n_len PySem.boot_len (pa_cons (pv 0) pa_nil)) (nomark _)) (pe_ix ix_list (pv 0) (pv 1) (fun _ _ => rfl)) pe_int))
    (pss_one (ps_ret (pe_lst (pa_cons (pe_op op_mul (pe_callB call_abs (by rfl) T.n_abs (by decide +kernel) (pa_cons (pv 2) pa_nil)) (pe_callTy call_int1 (by rfl) T.n_int (by decide +kernel) (pa_cons (pe_cmpR op_ge (pe_callB call_abs (by rfl) T.n_abs (by decide +kernel) (pa_cons (pv 2) pa_nil)) (pe_op op_pow pe_int pe_int) (nomark _)) pa_nil))) (pa_cons (pe_op op_mod (pe_op op_mul (pe_op op_add (pe_op op_add (pe_op op_mod (pv 2) pe_int) (pe_op op_mul pe_int (pv 1))) pe_int) pe_int) pe_int) (pa_cons pe_int pa_nil))))))), ?_⟩
  intro J
  exact (rs_seq (rs_asg (re_if (rt_test (re_op rr_lt re_v (re_cb rb_len (ra_cons re_v ra_nil)))) (re_op rr_ixL re_v re_v) (re_c fun _ => .int _)) rg_name)
    (rs_retW (rn_lst (ra_cons (re_op rr_mul (re_cb rb_abs (ra_cons re_v ra_nil)) (re_cb rb_int (ra_cons (re_op rr_ge (re_cb rb_abs (ra_cons re_v ra_nil)) (re_op rr_pow (re_c fun _ => .int _) (re_c fun _ => .int _))) ra_nil))) (ra_cons (re_op rr_mod (re_op rr_mul (re_op rr_add (re_op rr_add (re_op rr_mod re_v (re_c fun _ => .int _)) (re_op rr_mul (re_c fun _ => .int _) re_v)) (re_c fun _ => .int _)) (re_c fun _ => .int _)) (re_c fun _ => .int _)) (ra_cons (re_c fun _ => .int _) ra_nil))))))
theorem okD__law_names {P : Program} {w : World} {K : PySem.W.Frag} {mg : Str → Option Value} {base : Heap} {ad : Ad} (T : Txt w K mg ad) : FnOk P w K mg base CX0 2 ad.f__law_names ad.d__law_names ["_law_box_here", "_law_many"] (spF K 2 F__law_names) := by
  have G__law_take := okD__law_take (P := P) (w := w) (base := base) T
  refine okF0 T.F__law_names sc__law_names fun cdv A outer s H E hr => ⟨_, (pss_cons (ps_asg (pe_tup (pa_cons pe_str (pa_cons (pe_lst pa_nil) pa_nil))) (pg_tup (by rfl) (pgs_cons (pg_name (i := 2) sc__law_names.nd rfl (Or.inr rfl)) (pgs_cons (pg_name (i := 3) sc__law_names.nd rfl (Or.inl rfl)) pgs_nil))))
    (pss_cons (ps_par (i := 4) (j := 5) (by rfl) sc__law_names.nd rfl rfl (by decide) rfl rfl (pa_cons (pe_call G__law_take (hr.mono (by decide)) rfl T.g__law_take T.F__law_take.kp T.b__law_take .nil pass0 (pa_cons (pv 0) (pa_cons pe_int pa_nil))) (pa_cons (pe_ix ix_list (pe_lst (pa_cons pe_int (pa_cons pe_int (pa_cons pe_int (pa_cons pe_int (pa_cons pe_int (pa_cons pe_int pa_nil))))))) (pe_call G__law_take (hr.mono (by decide)) rfl T.g__law_take T.F__law_take.kp T.b__law_take .nil pass0 (pa_cons (pv 0) (pa_cons pe_int pa_nil))) (fun _ _ => rfl)) pa_nil)) (by rfl))
    (pss_cons (ps_set (i := 6) sc__law_names.nd rfl (Or.inl rfl) (pe_lst (pa_cons pe_str (pa_cons pe_str (pa_cons pe_str (pa_cons pe_str (pa_cons pe_str (pa_cons pe_str (pa_cons pe_str (pa_cons pe_str (pa_cons pe_str (pa_cons pe_str (pa_cons pe_str (pa_cons pe_str pa_nil))))))))))))))
    (pss_cons (ps_for PassesOwn.never rfl (pi_range1 rfl T.n_range (pa_cons (pv 1) pa_nil)) (pg_name (i := 7) sc__law_names.nd rfl (Or.inl rfl)) (pss_cons (ps_set (i := 8) sc__law_names.nd rfl (Or.inl rfl) (pe_op op_mod (pe_op op_add (pv 4) (pe_op op_mul (pv 5) (pv 7))) pe_int))
    (pss_cons (ps_set (i := 9) sc__law_names.nd rfl (Or.inl rfl) (pe_bm PySem.F.plainAttrs_str PySem.F.slot_str_join PySem.F.type_str_join mt_join pe_str (pa_cons (pe_lc (own := [("_law_turn", 10)]) (g := gName 10) (by rfl) sc__law_names.nd (pi_range1 rfl T.n_range (pa_cons (pe_op op_add pe_int (pe_call G__law_take (hr.mono (by decide)) rfl T.g__law_take T.F__law_take.kp T.b__law_take .nil pass0 (pa_cons (pv 0) (pa_cons pe_int pa_nil)))) pa_nil)) (blkOk_by (own := [("_law_turn", 10)]) (N := N__law_names) (sc := defScope s__law_names) (by decide +kernel)) (fun _ _ _ _ _ => (pg_name (i := 10) sc__law_names.nd rfl (Or.inl rfl))) (fun _ _ _ _ _ => pts_nil) (fun _ _ _ _ _ => (pe_ix ix_str (pv 2) (pe_call G__law_take (hr.mono (by decide)) rfl T.g__law_take T.F__law_take.kp T.b__law_take .nil pass0 (pa_cons (pv 0) (pa_cons pe_int pa_nil))) (fun _ _ => rfl)))) pa_nil)))
    (pss_cons (ps_set (i := 11) sc__law_names.nd rfl (Or.inl rfl) (pe_op op_add_str (pe_op op_add_str (pe_ix ix_str (pv 2) (pe_op op_fdiv (pv 8) pe_int) (fun _ _ => rfl)) (pe_ix ix_str (pv 2) (pe_op op_mod (pv 8) pe_int) (fun _ _ => rfl))) (pv 9)))
    (pss_cons (ps_if (PW.pt (pw_and (pt_cmpR op_lt (pv 1) pe_int (nomark _)) (pw_and1 (pt_cmpR op_eq (pe_call G__law_take (hr.mono (by decide)) rfl T.g__law_take T.F__law_take.kp T.b__law_take .nil pass0 (pa_cons (pv 0) (pa_cons pe_int pa_nil))) pe_int (nomark _))))) (pss_one (ps_set (i := 11) sc__law_names.nd rfl (Or.inl rfl) (pe_ix ix_list (pv 6) (pv 7) (fun _ _ => rfl)))) pss_nil)
    (pss_cons (ps_if (pt_cmpR op_in_seq (pv 11) (pv 3) rfl) (pss_one (ps_set (i := 11) sc__law_names.nd rfl (Or.inl rfl) (pe_op op_add_str (pe_op op_add_str (pe_ix ix_str (pv 2) (pe_op op_fdiv (pv 8) pe_int) (fun _ _ => rfl)) (pe_ix ix_str (pv 2) (pe_op op_mod (pv 8) pe_int) (fun _ _ => rfl))) pe_str))) pss_nil)
    (pss_one (ps_expr (pe_bm PySem.F.plainAttrs_list PySem.F.slot_list_append PySem.F.type_list_append mt_append (pv 3) (pa_cons (pv 11) pa_nil))))))))))
    (pss_one (ps_ret (pv 3))))))), ?_⟩
  intro J
  exact (rs_seq (rs_asgO2 (by decide) (re_c fun _ => .str _) (rn_lst ra_nil))
    (rs_seq (rs_par (ra_cons (re_call (fun _ => .nil) (rc_own (rc_dat (re_c fun _ => .int _) rc_nil))) (ra_cons (re_op rr_ixL (RN.re (rn_lst (ra_cons (re_c fun _ => .int _) (ra_cons (re_c fun _ => .int _) (ra_cons (re_c fun _ => .int _) (ra_cons (re_c fun _ => .int _) (ra_cons (re_c fun _ => .int _) (ra_cons (re_c fun _ => .int _) ra_nil)))))))) (re_call (fun _ => .nil) (rc_own (rc_dat (re_c fun _ => .int _) rc_nil)))) ra_nil)))
    (rs_seq (rs_asg (RN.re (rn_lst (ra_cons (re_c fun _ => .str _) (ra_cons (re_c fun _ => .str _) (ra_cons (re_c fun _ => .str _) (ra_cons (re_c fun _ => .str _) (ra_cons (re_c fun _ => .str _) (ra_cons (re_c fun _ => .str _) (ra_cons (re_c fun _ => .str _) (ra_cons (re_c fun _ => .str _) (ra_cons (re_c fun _ => .str _) (ra_cons (re_c fun _ => .str _) (ra_cons (re_c fun _ => .str _) (ra_cons (re_c fun _ => .str _) ra_nil)))))))))))))) rg_name)
    (rs_seq (rs_for (by decide) (ri_rng1 (ra_cons re_v ra_nil)) rg_name (rs_seq (rs_asg (re_op rr_mod (re_op rr_add re_v (re_op rr_mul re_v re_v)) (re_c fun _ => .int _)) rg_name)
    (rs_seq (rs_asg (re_bm rm_join (re_c fun _ => .str _) (ra_cons (RN.re (rn_lc (by decide) (ri_rng1 (ra_cons (re_op rr_add (re_c fun _ => .int _) (re_call (fun _ => .nil) (rc_own (rc_dat (re_c fun _ => .int _) rc_nil)))) ra_nil)) (fun _ le => rg_name) (fun _ le => rt_yes) (fun _ le => (re_op rr_ixS re_v (re_call (fun _ => .nil) (rc_own (rc_dat (re_c fun _ => .int _) rc_nil))))))) ra_nil)) rg_name)
    (rs_seq (rs_asg (re_op rr_add_str (re_op rr_add_str (re_op rr_ixS re_v (re_op rr_fdiv re_v (re_c fun _ => .int _))) (re_op rr_ixS re_v (re_op rr_mod re_v (re_c fun _ => .int _)))) re_v) rg_name)
    (rs_seq (rs_if (rt_and (rt_test (re_op rr_lt re_v (re_c fun _ => .int _))) (rt_test (re_op rr_eq (re_call (fun _ => .nil) (rc_own (rc_dat (re_c fun _ => .int _) rc_nil))) (re_c fun _ => .int _)))) (rs_asg (re_op rr_ixL re_v re_v) rg_name) rs_next)
    (rs_seq (rs_if (rt_test (re_inO re_v)) (rs_asg (re_op rr_add_str (re_op rr_add_str (re_op rr_ixS re_v (re_op rr_fdiv re_v (re_c fun _ => .int _))) (re_op rr_ixS re_v (re_op rr_mod re_v (re_c fun _ => .int _)))) (re_c fun _ => .str _)) rg_name) rs_next)
    (rs_append re_v)))))))
    (rs_freeze (by decide) (rs_ret re_v))))))
theorem okD__law_numbers {P : Program} {w : World} {K : PySem.W.Frag} {mg : Str → Option Value} {base : Heap} {ad : Ad} (T : Txt w K mg ad) : FnOk P w K mg base CX0 2 ad.f__law_numbers ad.d__law_numbers ["_law_box_here", "_law_many"] (spF K 2 F__law_numbers) := by
  have G__law_take := okD__law_take (P := P) (w := w) (base := base) T
  refine okF0 T.F__law_numbers sc__law_numbers fun cdv A outer s H E hr => ⟨_, (pss_cons (ps_asg (pe_tup (pa_cons (pe_call G__law_take (hr.mono (by decide)) rfl T.g__law_take T.F__law_take.kp T.b__law_take .nil pass0 (pa_cons (pv 0) (pa_cons pe_int pa_nil))) (pa_cons (pe_ix ix_list (pe_lst (pa_cons pe_int (pa_cons pe_int (pa_cons pe_int (pa_cons pe_int (pa_cons pe_int (pa_cons pe_int pa_nil))))))) (pe_call G__law_take (hr.mono (by decide)) rfl T.g__law_take T.F__law_take.kp T.b__law_take .nil pass0 (pa_cons (pv 0) (pa_cons pe_int pa_nil))) (fun _ _ => rfl)) pa_nil))) (pg_tup (by rfl) (pgs_cons (pg_name (i := 2) sc__law_numbers.nd rfl (Or.inr rfl)) (pgs_cons (pg_name (i := 3) sc__law_numbers.nd rfl (Or.inr rfl)) pgs_nil))))
    (pss_one (ps_ret (pe_lc (own := [("_law_k", 4)]) (g := gName 4) (by rfl) sc__law_numbers.nd (pi_range1 rfl T.n_range (pa_cons (pv 1) pa_nil)) (blkOk_by (own := [("_law_k", 4)]) (N := N__law_numbers) (sc := defScope s__law_numbers) (by decide +kernel)) (fun _ _ _ _ _ => (pg_name (i := 4) sc__law_numbers.nd rfl (Or.inl rfl))) (fun _ _ _ _ _ => pts_nil) (fun _ _ _ _ _ => (pe_op op_add pe_int (pe_op op_mod (pe_op op_add (pv 2) (pe_op op_mul (pv 3) (pv 4))) pe_int))))))), ?_⟩
  intro J
  exact (rs_seq (rs_asg (re_tup (ra_cons (re_call (fun _ => .nil) (rc_own (rc_dat (re_c fun _ => .int _) rc_nil))) (ra_cons (re_op rr_ixL (RN.re (rn_lst (ra_cons (re_c fun _ => .int _) (ra_cons (re_c fun _ => .int _) (ra_cons (re_c fun _ => .int _) (ra_cons (re_c fun _ => .int _) (ra_cons (re_c fun _ => .int _) (ra_cons (re_c fun _ => .int _) ra_nil)))))))) (re_call (fun _ => .nil) (rc_own (rc_dat (re_c fun _ => .int _) rc_nil)))) ra_nil))) (rg_tup (rgs_cons rg_name (rgs_cons rg_name rgs_nil))))
    (rs_ret (RN.re (rn_lc (by decide) (ri_rng1 (ra_cons re_v ra_nil)) (fun _ le => rg_name) (fun _ le => rt_yes) (fun _ le => (re_op rr_add (re_c fun _ => .int _) (re_op rr_mod (re_op rr_add re_v (re_op rr_mul re_v re_v)) (re_c fun _ => .int _))))))))
theorem okD__law_world {P : Program} {w : World} {K : PySem.W.Frag} {mg : Str → Option Value} {base : Heap} {ad : Ad} (T : Txt w K mg ad) : FnOk P w K mg base CX0 3 ad.f__law_world ad.d__law_world ["_law_box_here", "_law_many"] (spS K 2 F__law_world) := by
  have G__law_names := okD__law_names (P := P) (w := w) (base := base) T
  have G__law_take := okD__law_take (P := P) (w := w) (base := base) T
  have G__law_numbers := okD__law_numbers (P := P) (w := w) (base := base) T
  refine okS0 T.F__law_world sc__law_world fun cdv A outer s H E hr => ⟨_, (pss_cons (ps_set (i := 2) sc__law_world.nd rfl (Or.inl rfl) (pe_call G__law_names (hr.mono (by decide)) rfl T.g__law_names T.F__law_names.kp T.b__law_names .nil pass0 (pa_cons (pv 0) (pa_cons pe_int pa_nil))))
    (pss_cons (ps_set (i := 3) sc__law_world.nd rfl (Or.inl rfl) (pe_ix ix_list (pe_lst (pa_cons pe_int (pa_cons (pe_call G__law_take (hr.mono (by decide)) rfl T.g__law_take T.F__law_take.kp T.b__law_take .nil pass0 (pa_cons (pv 0) (pa_cons pe_int pa_nil))) pa_nil))) (pe_call G__law_take (hr.mono (by decide)) rfl T.g__law_take T.F__law_take.kp T.b__law_take .nil pass0 (pa_cons (pv 0) (pa_cons pe_int pa_nil))) (fun _ _ => rfl)))
    (pss_one (ps_ret (pe_disp (pps_cons pe_str (pe_slice sl_list (pv 2) po_none (po_some (pe_op op_add pe_int (pe_call G__law_take (hr.mono (by decide)) rfl T.g__law_take T.F__law_take.kp T.b__law_take .nil pass0 (pa_cons (pv 0) (pa_cons pe_int pa_nil)))))) (pps_cons pe_str (pe_slice sl_list (pv 2) (po_some pe_int) po_none) (pps_cons pe_str (pe_call G__law_numbers (hr.mono (by decide)) rfl T.g__law_numbers T.F__law_numbers.kp T.b__law_numbers .nil pass0 (pa_cons (pv 0) (pa_cons (pv 1) pa_nil))) (pps_cons pe_str (pv 3) (pps_cons pe_str (pe_ix ix_list (pe_lst (pa_cons pe_int (pa_cons pe_int (pa_cons pe_int pa_nil)))) (pe_call G__law_take (hr.mono (by decide)) rfl T.g__law_take T.F__law_take.kp T.b__law_take .nil pass0 (pa_cons (pv 0) (pa_cons pe_int pa_nil))) (fun _ _ => rfl)) (pps_cons pe_str pe_dnewK pps_nil)))))) rfl rfl (List.cons_ne_nil _ _) (by decide)))))), ?_⟩
  intro J
  exact (rs_seq (rs_asg (re_call (fun _ => .nil) (rc_own (rc_dat (re_c fun _ => .int _) rc_nil))) rg_name)
    (rs_seq (rs_asg (re_op rr_ixL (RN.re (rn_lst (ra_cons (re_c fun _ => .int _) (ra_cons (re_call (fun _ => .nil) (rc_own (rc_dat (re_c fun _ => .int _) rc_nil))) ra_nil)))) (re_call (fun _ => .nil) (rc_own (rc_dat (re_c fun _ => .int _) rc_nil)))) rg_name)
    (rs_ret (re_dispN (.cons (re_c fun _ => .str _) (re_sl rl_list re_v ro_no (ro_so (re_op rr_add (re_c fun _ => .int _) (re_call (fun _ => .nil) (rc_own (rc_dat (re_c fun _ => .int _) rc_nil)))))) (.cons (re_c fun _ => .str _) (re_sl rl_list re_v (ro_so (re_c fun _ => .int _)) ro_no) (.cons (re_c fun _ => .str _) (re_call (fun _ => .nil) (rc_own (rc_dat re_v rc_nil))) (.cons (re_c fun _ => .str _) re_v (.cons (re_c fun _ => .str _) (re_op rr_ixL (RN.re (rn_lst (ra_cons (re_c fun _ => .int _) (ra_cons (re_c fun _ => .int _) (ra_cons (re_c fun _ => .int _) ra_nil))))) (re_call (fun _ => .nil) (rc_own (rc_dat (re_c fun _ => .int _) rc_nil)))) (.cons (re_c fun _ => .str _) re_dnew .nil))))))))))
theorem okD__law_price {P : Program} {w : World} {K : PySem.W.Frag} {mg : Str → Option Value} {base : Heap} {ad : Ad} (T : Txt w K mg ad) : FnOk P w K mg base CX0 2 ad.f__law_price ad.d__law_price ["_law_box_here"] (spF K 1 F__law_price) := by
  have G__law_take := okD__law_take (P := P) (w := w) (base := base) T
  refine okF0 T.F__law_price sc__law_price fun cdv A outer s H E hr => ⟨_, (pss_one (ps_ret (pe_ix ix_list (pe_lst (pa_cons (pe_op op_add pe_int (pe_call G__law_take (hr.mono (by decide)) rfl T.g__law_take T.F__law_take.kp T.b__law_take .nil pass0 (pa_cons (pv 0) (pa_cons pe_int pa_nil)))) (pa_cons (pe_op op_add pe_int (pe_call G__law_take (hr.mono (by decide)) rfl T.g__law_take T.F__law_take.kp T.b__law_take .nil pass0 (pa_cons (pv 0) (pa_cons pe_int pa_nil)))) (pa_cons (pe_op op_mul pe_int (pe_op op_add pe_int (pe_call G__law_take (hr.mono (by decide)) rfl T.g__law_take T.F__law_take.kp T.b__law_take .nil pass0 (pa_cons (pv 0) (pa_cons pe_int pa_nil))))) (pa_cons (pe_op op_add pe_int (pe_call G__law_take (hr.mono (by decide)) rfl T.g__law_take T.F__law_take.kp T.b__law_take .nil pass0 (pa_cons (pv 0) (pa_cons pe_int pa_nil)))) pa_nil))))) (pe_call G__law_take (hr.mono (by decide)) rfl T.g__law_take T.F__law_take.kp T.b__law_take .nil pass0 (pa_cons (pv 0) (pa_cons pe_int pa_nil))) (fun _ _ => rfl)))), ?_⟩
  intro J
  exact (rs_ret (re_op rr_ixL (RN.re (rn_lst (ra_cons (re_op rr_add (re_c fun _ => .int _) (re_call (fun _ => .nil) (rc_own (rc_dat (re_c fun _ => .int _) rc_nil)))) (ra_cons (re_op rr_add (re_c fun _ => .int _) (re_call (fun _ => .nil) (rc_own (rc_dat (re_c fun _ => .int _) rc_nil)))) (ra_cons (re_op rr_mul (re_c fun _ => .int _) (re_op rr_add (re_c fun _ => .int _) (re_call (fun _ => .nil) (rc_own (rc_dat (re_c fun _ => .int _) rc_nil))))) (ra_cons (re_op rr_add (re_c fun _ => .int _) (re_call (fun _ => .nil) (rc_own (rc_dat (re_c fun _ => .int _) rc_nil)))) ra_nil)))))) (re_call (fun _ => .nil) (rc_own (rc_dat (re_c fun _ => .int _) rc_nil)))))
theorem okD__law_some_words {P : Program} {w : World} {K : PySem.W.Frag} {mg : Str → Option Value} {base : Heap} {ad : Ad} (T : Txt w K mg ad) : FnOk P w K mg base CX0 2 ad.f__law_some_words ad.d__law_some_words ["_law_box_here", "_law_pool", "_law_most"] (spF K 3 F__law_some_words) := by
  have G__law_take := okD__law_take (P := P) (w := w) (base := base) T
  refine okF0 T.F__law_some_words sc__law_some_words fun cdv A outer s H E hr => ⟨_, (pss_cons (ps_par (i := 3) (j := 4) (by rfl) sc__law_some_words.nd rfl rfl (by decide) rfl rfl (pa_cons (pe_callTy call_list_of (by rfl) T.n_list (by decide +kernel) (pa_cons (pv 1) pa_nil)) (pa_cons (pe_lst pa_nil) pa_nil)) (by rfl))
    (pss_cons (ps_for PassesOwn.never rfl (pi_range1 rfl T.n_range (pa_cons (pe_call G__law_take (hr.mono (by decide)) rfl T.g__law_take T.F__law_take.kp T.b__law_take .nil pass0 (pa_cons (pv 0) (pa_cons (pe_op op_add (pe_callB (call_min2 rfl) (by rfl) T.n_min (by decide +kernel) (pa_cons (pv 2) (pa_cons (pe_callB call_len_seq (by rfl) T.n_len PySem.boot_len (pa_cons (pv 1) pa_nil)) pa_nil))) pe_int) pa_nil))) pa_nil)) (pg_name (i := 5) sc__law_some_words.nd rfl (Or.inl rfl)) (pss_one (ps_expr (pe_bm PySem.F.plainAttrs_list PySem.F.slot_list_append PySem.F.type_list_append mt_append (pv 4) (pa_cons (pe_bm PySem.F.plainAttrs_list PySem.F.slot_list_pop PySem.F.type_list_pop mt_popAt (pv 3) (pa_cons (pe_call G__law_take (hr.mono (by decide)) rfl T.g__law_take T.F__law_take.kp T.b__law_take .nil pass0 (pa_cons (pv 0) (pa_cons (pe_callB call_len_seq (by rfl) T.n_len PySem.boot_len (pa_cons (pv 3) pa_nil)) pa_nil))) pa_nil)) pa_nil)))))
    (pss_one (ps_ret (pe_callTy call_tuple_of (by rfl) T.n_tuple (by decide +kernel) (pa_cons (pe_callB cr_sortedS (by rfl) T.n_sorted (by decide +kernel) (pa_cons (pv 4) pa_nil)) pa_nil)))))), ?_⟩
  intro J
  exact (rs_seq (rs_parOO (by decide) (by decide) (by decide) (rn_cb rbn_list (ra_cons re_v ra_nil)) (rn_lst ra_nil))
    (rs_seq (rs_for (by decide) (ri_rng1 (ra_cons (re_call (fun _ => .nil) (rc_own (rc_dat (re_op rr_add (re_cb rb_min2 (ra_cons re_v (ra_cons (re_cb rb_len (ra_cons re_v ra_nil)) ra_nil))) (re_c fun _ => .int _)) rc_nil))) ra_nil)) rg_name (rs_append (re_popAt (re_call (fun _ => .nil) (rc_own (rc_dat re_lenO rc_nil))))))
    (rs_freeze (by decide) (rs_ret (re_cb rb_tuple (ra_cons (RN.re (rn_cb rbn_sortS (ra_cons re_v ra_nil))) ra_nil))))))
theorem okD__law_give {P : Program} {w : World} {K : PySem.W.Frag} {mg : Str → Option Value} {base : Heap} {ad : Ad} (T : Txt w K mg ad) : FnOk P w K mg base CX0 3 ad.f__law_give ad.d__law_give ["_law_box_here", "_law_world_here"] (spS K 2 F__law_give) := by
  have G__law_price := okD__law_price (P := P) (w := w) (base := base) T
  have G__law_take := okD__law_take (P := P) (w := w) (base := base) T
  have G__law_some_words := okD__law_some_words (P := P) (w := w) (base := base) T
  refine okS0 T.F__law_give sc__law_give fun cdv A outer s H E hr => ⟨_, (pss_cons (ps_par (i := 2) (j := 3) (by rfl) sc__law_give.nd rfl rfl (by decide) rfl rfl (pa_cons (pe_call G__law_price (hr.mono (by decide)) rfl T.g__law_price T.F__law_price.kp T.b__law_price .nil pass0 (pa_cons (pv 0) pa_nil)) (pa_cons (pe_ix ix_list (pe_dget (hu_of hr) (pv 1) pe_str (fun _ _ => rfl)) (pe_call G__law_take (hr.mono (by decide)) rfl T.g__law_take T.F__law_take.kp T.b__law_take .nil pass0 (pa_cons (pv 0) (pa_cons (pe_callB call_len_seq (by rfl) T.n_len PySem.boot_len (pa_cons (pe_dget (hu_of hr) (pv 1) pe_str (fun _ _ => rfl)) pa_nil)) pa_nil))) (fun _ _ => rfl)) pa_nil)) (by rfl))
    (pss_cons (ps_set (i := 4) sc__law_give.nd rfl (Or.inl rfl) (pe_ix ix_list (pe_lst (pa_cons pe_int (pa_cons (pv 2) (pa_cons (pe_call G__law_take (hr.mono (by decide)) rfl T.g__law_take T.F__law_take.kp T.b__law_take .nil pass0 (pa_cons (pv 0) (pa_cons (pe_op op_add (pv 2) pe_int) pa_nil))) (pa_cons (pe_op op_fdiv (pv 2) pe_int) pa_nil))))) (pe_call G__law_take (hr.mono (by decide)) rfl T.g__law_take T.F__law_take.kp T.b__law_take .nil pass0 (pa_cons (pv 0) (pa_cons pe_int pa_nil))) (fun _ _ => rfl)))
    (pss_cons (ps_expr (pe_dsetd (pe_dget (hu_of hr) (pv 1) pe_str (fun _ _ => rfl)) (pv 3) (pe_tup (pa_cons (pv 2) (pa_cons (pv 4) pa_nil))) ⟨by rfl, by rfl, by rfl, by rfl⟩))
    (pss_cons (ps_set (i := 5) sc__law_give.nd rfl (Or.inl rfl) (pe_ix ix_list (pe_dget (hu_of hr) (pv 1) pe_str (fun _ _ => rfl)) (pe_call G__law_take (hr.mono (by decide)) rfl T.g__law_take T.F__law_take.kp T.b__law_take .nil pass0 (pa_cons (pv 0) (pa_cons (pe_callB call_len_seq (by rfl) T.n_len PySem.boot_len (pa_cons (pe_dget (hu_of hr) (pv 1) pe_str (fun _ _ => rfl)) pa_nil)) pa_nil))) (fun _ _ => rfl)))
    (pss_one (ps_ret (pe_tup (pa_cons pe_str (pa_cons (pv 5) (pa_cons (pv 3) (pa_cons (pv 2) (pa_cons (pv 4) (pa_cons (pe_call G__law_some_words (hr.mono (by decide)) rfl T.g__law_some_words T.F__law_some_words.kp T.b__law_some_words .nil pass0 (pa_cons (pv 0) (pa_cons (pe_dget (hu_of hr) (pv 1) pe_str (fun _ _ => rfl)) (pa_cons pe_int pa_nil)))) pa_nil))))))))))))), ?_⟩
  intro J
  exact (rs_seq (rs_par (ra_cons (re_call (fun _ => .nil) (rc_own rc_nil)) (ra_cons (re_op rr_ixL (re_get re_v (re_c fun _ => .str _)) (re_call (fun _ => .nil) (rc_own (rc_dat (re_cb rb_len (ra_cons (re_get re_v (re_c fun _ => .str _)) ra_nil)) rc_nil)))) ra_nil)))
    (rs_seq (rs_asg (re_op rr_ixL (RN.re (rn_lst (ra_cons (re_c fun _ => .int _) (ra_cons re_v (ra_cons (re_call (fun _ => .nil) (rc_own (rc_dat (re_op rr_add re_v (re_c fun _ => .int _)) rc_nil))) (ra_cons (re_op rr_fdiv re_v (re_c fun _ => .int _)) ra_nil)))))) (re_call (fun _ => .nil) (rc_own (rc_dat (re_c fun _ => .int _) rc_nil)))) rg_name)
    (rs_seq (rs_drop (re_setd (re_get re_v (re_c fun _ => .str _)) re_v (re_tup (ra_cons re_v (ra_cons re_v ra_nil)))))
    (rs_seq (rs_asg (re_op rr_ixL (re_get re_v (re_c fun _ => .str _)) (re_call (fun _ => .nil) (rc_own (rc_dat (re_cb rb_len (ra_cons (re_get re_v (re_c fun _ => .str _)) ra_nil)) rc_nil)))) rg_name)
    (rs_ret (re_tup (ra_cons (re_c fun _ => .str _) (ra_cons re_v (ra_cons re_v (ra_cons re_v (ra_cons re_v (ra_cons (re_call (fun _ => .nil) (rc_own (rc_dat (re_get re_v (re_c fun _ => .str _)) (rc_dat (re_c fun _ => .int _) rc_nil)))) ra_nil))))))))))))
theorem okD__law_heap {P : Program} {w : World} {K : PySem.W.Frag} {mg : Str → Option Value} {base : Heap} {ad : Ad} (T : Txt w K mg ad) : FnOk P w K mg base CX0 2 ad.f__law_heap ad.d__law_heap ["_law_box_here", "_law_world_here", "_law_most"] (spS K 3 F__law_heap) := by
  have G__law_take := okD__law_take (P := P) (w := w) (base := base) T
  refine okS0 T.F__law_heap sc__law_heap fun cdv A outer s H E hr => ⟨_, (pss_cons (ps_par (i := 3) (j := 4) (by rfl) sc__law_heap.nd rfl rfl (by decide) rfl rfl (pa_cons (pe_callB (cr_sortedSet rfl) (by rfl) T.n_sorted (by decide +kernel) (pa_cons (pe_callTy (cr_setJ rfl) (by rfl) T.n_set (by decide +kernel) (pa_cons (pe_dget (hu_of hr) (pv 1) pe_str (fun _ _ => rfl)) pa_nil)) pa_nil)) (pa_cons (pe_lst pa_nil) pa_nil)) (by rfl))
    (pss_cons (ps_for PassesOwn.never rfl (pi_range1 rfl T.n_range (pa_cons (pe_op op_add pe_int (pe_call G__law_take (hr.mono (by decide)) rfl T.g__law_take T.F__law_take.kp T.b__law_take .nil pass0 (pa_cons (pv 0) (pa_cons (pe_op op_sub (pe_callB (call_min2 rfl) (by rfl) T.n_min (by decide +kernel) (pa_cons (pv 2) (pa_cons (pe_callB call_len_seq (by rfl) T.n_len PySem.boot_len (pa_cons (pv 3) pa_nil)) pa_nil))) pe_int) pa_nil)))) pa_nil)) (pg_name (i := 5) sc__law_heap.nd rfl (Or.inl rfl)) (pss_cons (ps_setLc (i := 6) (own := [("_law_number", 7)]) (g := gName 7) (by rfl) sc__law_heap.nd rfl rfl (sw_true rfl rfl rfl (by decide +kernel)) (pi_list (pv 3)) (blkOk_by (own := [("_law_number", 7)]) (N := N__law_heap) (sc := defScope s__law_heap) (by decide +kernel)) (fun _ _ _ _ _ => (pg_name (i := 7) sc__law_heap.nd rfl (Or.inl rfl))) (fun _ _ _ _ _ => (pts_one (pt_cmp (pc_din (hu_of hr) (pv 7) (pe_dget (hu_of hr) (pv 1) pe_str (fun _ _ => rfl)))))) (fun _ _ _ _ _ => (pv 7)))
    (pss_cons (ps_set (i := 8) sc__law_heap.nd rfl (Or.inl rfl) (pe_ifExp (PW.pt (pw_and (pt_cmpR (op_neD hr.units) (pv 6) (pe_lst pa_nil) (nomark _)) (pw_and1 (pt_cmpR op_gt (pe_call G__law_take (hr.mono (by decide)) rfl T.g__law_take T.F__law_take.kp T.b__law_take .nil pass0 (pa_cons (pv 0) (pa_cons pe_int pa_nil))) pe_int (nomark _))))) (pv 6) (pv 3)))
    (pss_cons (ps_expr (pe_bm PySem.F.plainAttrs_list PySem.F.slot_list_append PySem.F.type_list_append mt_append (pv 4) (pa_cons (pe_ix ix_list (pv 8) (pe_call G__law_take (hr.mono (by decide)) rfl T.g__law_take T.F__law_take.kp T.b__law_take .nil pass0 (pa_cons (pv 0) (pa_cons (pe_callB call_len_seq (by rfl) T.n_len PySem.boot_len (pa_cons (pv 8) pa_nil)) pa_nil))) (fun _ _ => rfl)) pa_nil)))
    (pss_one (ps_expr (pe_bm PySem.F.plainAttrs_list PySem.F.slot_list_remove PySem.F.type_list_remove mt_remove (pv 3) (pa_cons (pe_ix ix_list (pv 4) (pe_un un_neg pe_int) (fun _ _ => rfl)) pa_nil))))))))
    (pss_cons (ps_setLc (i := 9) (own := [("_law_number", 7)]) (g := gName 7) (by rfl) sc__law_heap.nd rfl rfl (sw_true rfl rfl rfl (by decide +kernel)) (pi_list (pv 4)) (blkOk_by (own := [("_law_number", 7)]) (N := N__law_heap) (sc := defScope s__law_heap) (by decide +kernel)) (fun _ _ _ _ _ => (pg_name (i := 7) sc__law_heap.nd rfl (Or.inl rfl))) (fun _ _ _ _ _ => pts_nil) (fun _ _ _ _ _ => (pe_dget2 (hu_of hr) (pe_dget (hu_of hr) (pv 1) pe_str (fun _ _ => rfl)) (pv 7) (pe_tup (pa_cons pe_int (pa_cons pe_int pa_nil))) ⟨by rfl, by rfl, by rfl, by rfl⟩)))
    (pss_cons (ps_par (i := 10) (j := 11) (by rfl) sc__law_heap.nd rfl rfl (by decide) rfl rfl (pa_cons (pe_callB (cr_sum rfl) (by rfl) T.n_sum (by decide +kernel) (pa_cons (pe_lc (own := [("_law_price_here", 12), ("_law_least", 13)]) (g := gTup K 2 (gCons (gName 12) (gCons (gName 13) gNil))) (by rfl) sc__law_heap.nd (pi_list (pv 9)) (blkOk_by (own := [("_law_price_here", 12), ("_law_least", 13)]) (N := N__law_heap) (sc := defScope s__law_heap) (by decide +kernel)) (fun _ _ _ _ _ => (pg_tup (by rfl) (pgs_cons (pg_name (i := 12) sc__law_heap.nd rfl (Or.inl rfl)) (pgs_cons (pg_name (i := 13) sc__law_heap.nd rfl (Or.inl rfl)) pgs_nil)))) (fun _ _ _ _ _ => pts_nil) (fun _ _ _ _ _ => (pv 13))) pa_nil)) (pa_cons (pe_callB (cr_sum rfl) (by rfl) T.n_sum (by decide +kernel) (pa_cons (pe_lc (own := [("_law_price_here", 12), ("_law_least", 13)]) (g := gTup K 2 (gCons (gName 12) (gCons (gName 13) gNil))) (by rfl) sc__law_heap.nd (pi_list (pv 9)) (blkOk_by (own := [("_law_price_here", 12), ("_law_least", 13)]) (N := N__law_heap) (sc := defScope s__law_heap) (by decide +kernel)) (fun _ _ _ _ _ => (pg_tup (by rfl) (pgs_cons (pg_name (i := 12) sc__law_heap.nd rfl (Or.inl rfl)) (pgs_cons (pg_name (i := 13) sc__law_heap.nd rfl (Or.inl rfl)) pgs_nil)))) (fun _ _ _ _ _ => pts_nil) (fun _ _ _ _ _ => (pv 12))) pa_nil)) pa_nil)) (by rfl))
    (pss_cons (ps_set (i := 8) sc__law_heap.nd rfl (Or.inl rfl) (pe_lst (pa_cons (pv 10) (pa_cons (pe_callB (call_max2 rfl) (by rfl) T.n_max (by decide +kernel) (pa_cons pe_int (pa_cons (pe_op op_sub (pv 10) pe_int) pa_nil))) (pa_cons (pv 11) (pa_cons (pe_op op_add (pv 10) (pe_call G__law_take (hr.mono (by decide)) rfl T.g__law_take T.F__law_take.kp T.b__law_take .nil pass0 (pa_cons (pv 0) (pa_cons (pe_op op_add (pv 11) pe_int) pa_nil)))) (pa_cons (pe_call G__law_take (hr.mono (by decide)) rfl T.g__law_take T.F__law_take.kp T.b__law_take .nil pass0 (pa_cons (pv 0) (pa_cons (pe_op op_pow pe_int pe_int) pa_nil))) (pa_cons (pe_op op_add (pv 10) pe_int) pa_nil))))))))
    (pss_one (ps_ret (pe_tup (pa_cons pe_str (pa_cons (pe_callTy call_tuple_of (by rfl) T.n_tuple (by decide +kernel) (pa_cons (pe_callB cr_sortedI (by rfl) T.n_sorted (by decide +kernel) (pa_cons (pv 4) pa_nil)) pa_nil)) (pa_cons (pe_callB (call_min2 rfl) (by rfl) T.n_min (by decide +kernel) (pa_cons pe_int (pa_cons (pe_ix ix_list (pv 8) (pe_call G__law_take (hr.mono (by decide)) rfl T.g__law_take T.F__law_take.kp T.b__law_take .nil pass0 (pa_cons (pv 0) (pa_cons pe_int pa_nil))) (fun _ _ => rfl)) pa_nil))) pa_nil))))))))))), ?_⟩
  intro J
  exact (rs_seq (rs_par (ra_cons (re_newL (rn_sortSetJ (ra_cons (re_get re_v (re_c fun _ => .str _)) ra_nil))) (ra_cons (re_newL (rn_lst ra_nil)) ra_nil)))
    (rs_seq (rs_for (by decide) (ri_rng1 (ra_cons (re_op rr_add (re_c fun _ => .int _) (re_call (fun _ => .nil) (rc_own (rc_dat (re_op rr_sub (re_cb rb_min2 (ra_cons re_v (ra_cons (re_lenH' re_v) ra_nil))) (re_c fun _ => .int _)) rc_nil)))) ra_nil)) rg_name (rs_seq (rs_asg (re_newL (rn_lcH (by decide) re_v (fun _ le => rg_name) (fun _ le => (rt_b (re_in re_v (re_get re_v (re_c fun _ => .str _))))) (fun _ le => re_v))) rg_name)
    (rs_seq (rs_asg (re_if (rt_and (rt_opn (rt_test (re_op rr_neD re_v (RN.re (rn_lst ra_nil))))) (rt_test (re_op rr_gt (re_call (fun _ => .nil) (rc_own (rc_dat (re_c fun _ => .int _) rc_nil))) (re_c fun _ => .int _)))) re_v re_v) rg_name)
    (rs_seq (rs_appH re_v (re_ixH re_v (re_call (fun _ => .nil) (rc_own (rc_dat (re_lenH' re_v) rc_nil)))))
    (rs_remH re_v (re_ixH re_v (re_un ru_neg (re_c fun _ => .int _))))))))
    (rs_seq (rs_asg (RN.re (rn_lcH (by decide) re_v (fun _ le => rg_name) (fun _ le => rt_yes) (fun _ le => (re_get2 (re_get re_v (re_c fun _ => .str _)) re_v (re_tup (ra_cons (re_c fun _ => .int _) (ra_cons (re_c fun _ => .int _) ra_nil))))))) rg_name)
    (rs_seq (rs_par (ra_cons (re_cb rb_sum (ra_cons (RN.re (rn_lc (by decide) (ri_list re_v) (fun _ le => (rg_tup (rgs_cons rg_name (rgs_cons rg_name rgs_nil)))) (fun _ le => rt_yes) (fun _ le => re_v))) ra_nil)) (ra_cons (re_cb rb_sum (ra_cons (RN.re (rn_lc (by decide) (ri_list re_v) (fun _ le => (rg_tup (rgs_cons rg_name (rgs_cons rg_name rgs_nil)))) (fun _ le => rt_yes) (fun _ le => re_v))) ra_nil)) ra_nil)))
    (rs_seq (rs_asg (re_newL (rn_lst (ra_cons re_v (ra_cons (re_cb rb_max2 (ra_cons (re_c fun _ => .int _) (ra_cons (re_op rr_sub re_v (re_c fun _ => .int _)) ra_nil))) (ra_cons re_v (ra_cons (re_op rr_add re_v (re_call (fun _ => .nil) (rc_own (rc_dat (re_op rr_add re_v (re_c fun _ => .int _)) rc_nil)))) (ra_cons (re_call (fun _ => .nil) (rc_own (rc_dat (re_op rr_pow (re_c fun _ => .int _) (re_c fun _ => .int _)) rc_nil))) (ra_cons (re_op rr_add re_v (re_c fun _ => .int _)) ra_nil)))))))) rg_name)
    (rs_ret (re_tup (ra_cons (re_c fun _ => .str _) (ra_cons (re_opn (re_cb rb_tuple (ra_cons (RN.re (rn_cb rbn_sortI (ra_cons re_v ra_nil))) ra_nil))) (ra_cons (re_cb rb_min2 (ra_cons (re_c fun _ => .int _) (ra_cons (re_ixH re_v (re_call (fun _ => .nil) (rc_own (rc_dat (re_c fun _ => .int _) rc_nil)))) ra_nil))) ra_nil))))))))))
theorem okD__law_rule {P : Program} {w : World} {K : PySem.W.Frag} {mg : Str → Option Value} {base : Heap} {ad : Ad} (T : Txt w K mg ad) : FnOk P w K mg base CX0 2 ad.f__law_rule ad.d__law_rule ["_law_box_here"] (spF K 1 F__law_rule) := by
  have G__law_take := okD__law_take (P := P) (w := w) (base := base) T
  refine okF0 T.F__law_rule sc__law_rule fun cdv A outer s H E hr => ⟨_, (pss_cons (ps_par3 (i := 1) (j := 2) (l := 3) (by rfl) sc__law_rule.nd rfl rfl rfl (by decide) (by decide) (by decide) rfl rfl rfl (pa_cons pe_int (pa_cons pe_int (pa_cons (pe_lst pa_nil) pa_nil))) (by rfl))
    (pss_cons (ps_for PassesOwn.never rfl (pi_range1 rfl T.n_range (pa_cons (pe_call G__law_take (hr.mono (by decide)) rfl T.g__law_take T.F__law_take.kp T.b__law_take .nil pass0 (pa_cons (pv 0) (pa_cons pe_int pa_nil))) pa_nil)) (pg_name (i := 4) sc__law_rule.nd rfl (Or.inl rfl)) (pss_cons (ps_par (i := 1) (j := 2) (by rfl) sc__law_rule.nd rfl rfl (by decide) rfl rfl (pa_cons (pe_op op_add (pe_op op_add (pv 1) pe_int) (pe_call G__law_take (hr.mono (by decide)) rfl T.g__law_take T.F__law_take.kp T.b__law_take .nil pass0 (pa_cons (pv 0) (pa_cons (pe_ix ix_list (pe_lst (pa_cons pe_int (pa_cons pe_int (pa_cons pe_int pa_nil)))) (pe_call G__law_take (hr.mono (by decide)) rfl T.g__law_take T.F__law_take.kp T.b__law_take .nil pass0 (pa_cons (pv 0) (pa_cons pe_int pa_nil))) (fun _ _ => rfl)) pa_nil)))) (pa_cons (pe_op op_sub (pe_op op_sub (pv 2) pe_int) (pe_call G__law_take (hr.mono (by decide)) rfl T.g__law_take T.F__law_take.kp T.b__law_take .nil pass0 (pa_cons (pv 0) (pa_cons pe_int pa_nil)))) pa_nil)) (by rfl))
    (pss_one (ps_expr (pe_bm PySem.F.plainAttrs_list PySem.F.slot_list_append PySem.F.type_list_append mt_append (pv 3) (pa_cons (pe_tup (pa_cons (pv 1) (pa_cons (pv 2) pa_nil))) pa_nil))))))
    (pss_one (ps_ret (pe_callTy call_tuple_of (by rfl) T.n_tuple (by decide +kernel) (pa_cons (pe_lc (own := [("_law_pair", 5)]) (g := gName 5) (by rfl) sc__law_rule.nd (pi_list (pv 3)) (blkOk_by (own := [("_law_pair", 5)]) (N := N__law_rule) (sc := defScope s__law_rule) (by decide +kernel)) (fun _ _ _ _ _ => (pg_name (i := 5) sc__law_rule.nd rfl (Or.inl rfl))) (fun _ _ _ _ _ => (pts_one (PW.pt (pw_and (pt_cmpR op_lt (pe_ix (r := rIxT K) ix_tup (pv 5) pe_int (fun _ _ => rfl)) pe_int (nomark _)) (pw_and1 (pt_cmpR op_gt (pe_ix (r := rIxT K) ix_tup (pv 5) pe_int (fun _ _ => rfl)) pe_int (nomark _))))))) (fun _ _ _ _ _ => (pv 5))) pa_nil)))))), ?_⟩
  intro J
  exact (rs_seq (rs_par3O3 (by decide) (re_c fun _ => .int _) (re_c fun _ => .int _) (rn_lst ra_nil))
    (rs_seq (rs_for (by decide) (ri_rng1 (ra_cons (re_call (fun _ => .nil) (rc_own (rc_dat (re_c fun _ => .int _) rc_nil))) ra_nil)) rg_name (rs_seq (rs_par (ra_cons (re_op rr_add (re_op rr_add re_v (re_c fun _ => .int _)) (re_call (fun _ => .nil) (rc_own (rc_dat (re_op rr_ixL (RN.re (rn_lst (ra_cons (re_c fun _ => .int _) (ra_cons (re_c fun _ => .int _) (ra_cons (re_c fun _ => .int _) ra_nil))))) (re_call (fun _ => .nil) (rc_own (rc_dat (re_c fun _ => .int _) rc_nil)))) rc_nil)))) (ra_cons (re_op rr_sub (re_op rr_sub re_v (re_c fun _ => .int _)) (re_call (fun _ => .nil) (rc_own (rc_dat (re_c fun _ => .int _) rc_nil)))) ra_nil)))
    (rs_append (re_tup (ra_cons re_v (ra_cons re_v ra_nil))))))
    (rs_freeze (by decide) (rs_ret (re_cb rb_tuple (ra_cons (RN.re (rn_lc (by decide) (ri_list re_v) (fun _ le => rg_name) (fun _ le => (rt_and (rt_test (re_op rr_lt (re_op rr_ixT re_v (re_c fun _ => .int _)) (re_c fun _ => .int _))) (rt_test (re_op rr_gt (re_op rr_ixT re_v (re_c fun _ => .int _)) (re_c fun _ => .int _))))) (fun _ le => re_v))) ra_nil))))))
theorem okD__law_rights {P : Program} {w : World} {K : PySem.W.Frag} {mg : Str → Option Value} {base : Heap} {ad : Ad} (T : Txt w K mg ad) : FnOk P w K mg base CX0 4 ad.f__law_rights ad.d__law_rights ["_law_box_here"] (spS K 1 F__law_rights) := by
  have G__law_world := okD__law_world (P := P) (w := w) (base := base) T
  have G__law_take := okD__law_take (P := P) (w := w) (base := base) T
  have G__law_give := okD__law_give (P := P) (w := w) (base := base) T
  have G__law_heap := okD__law_heap (P := P) (w := w) (base := base) T
  have G__law_rule := okD__law_rule (P := P) (w := w) (base := base) T
  refine okS0 T.F__law_rights sc__law_rights fun cdv A outer s H E hr => ⟨_, (pss_cons (ps_set (i := 1) sc__law_rights.nd rfl (Or.inl rfl) (pe_call G__law_world (hr.mono (by decide)) rfl T.g__law_world T.F__law_world.kp T.b__law_world .nil pass0 (pa_cons (pv 0) (pa_cons pe_int pa_nil))))
    (pss_cons (ps_set (i := 2) sc__law_rights.nd rfl (Or.inr rfl) (pe_ix ix_list (pe_lst (pa_cons pe_int (pa_cons pe_int (pa_cons (pe_op op_add pe_int (pe_call G__law_take (hr.mono (by decide)) rfl T.g__law_take T.F__law_take.kp T.b__law_take .nil pass0 (pa_cons (pv 0) (pa_cons pe_int pa_nil)))) pa_nil)))) (pe_call G__law_take (hr.mono (by decide)) rfl T.g__law_take T.F__law_take.kp T.b__law_take .nil pass0 (pa_cons (pv 0) (pa_cons pe_int pa_nil))) (fun _ _ => rfl)))
    (pss_cons (ps_set (i := 3) sc__law_rights.nd rfl (Or.inl rfl) (pe_ix ix_list (pe_lst (pa_cons pe_int (pa_cons pe_int (pa_cons pe_int (pa_cons (pe_call G__law_take (hr.mono (by decide)) rfl T.g__law_take T.F__law_take.kp T.b__law_take .nil pass0 (pa_cons (pv 0) (pa_cons (pe_op op_pow pe_int pe_int) pa_nil))) pa_nil))))) (pe_call G__law_take (hr.mono (by decide)) rfl T.g__law_take T.F__law_take.kp T.b__law_take .nil pass0 (pa_cons (pv 0) (pa_cons pe_int pa_nil))) (fun _ _ => rfl)))
    (pss_cons (ps_set (i := 4) sc__law_rights.nd rfl (Or.inl rfl) (pe_ix ix_list (pe_lst (pa_cons pe_int (pa_cons pe_int (pa_cons (pe_op op_add pe_int (pe_call G__law_take (hr.mono (by decide)) rfl T.g__law_take T.F__law_take.kp T.b__law_take .nil pass0 (pa_cons (pv 0) (pa_cons pe_int pa_nil)))) pa_nil)))) (pe_call G__law_take (hr.mono (by decide)) rfl T.g__law_take T.F__law_take.kp T.b__law_take .nil pass0 (pa_cons (pv 0) (pa_cons pe_int pa_nil))) (fun _ _ => rfl)))
    (pss_cons (ps_set (i := 5) sc__law_rights.nd rfl (Or.inl rfl) (pe_lst (pa_cons (pe_tup (pa_cons pe_str (pa_cons pe_str (pa_cons (pv 2) (pa_cons (pv 4) (pa_cons (pe_ix ix_list (pe_lst (pa_cons pe_int (pa_cons (pv 4) pa_nil))) (pe_call G__law_take (hr.mono (by decide)) rfl T.g__law_take T.F__law_take.kp T.b__law_take .nil pass0 (pa_cons (pv 0) (pa_cons pe_int pa_nil))) (fun _ _ => rfl)) (pa_cons (pe_tup pa_nil) pa_nil))))))) (pa_cons (pe_call G__law_give (hr.mono (by decide)) rfl T.g__law_give T.F__law_give.kp T.b__law_give .nil pass0 (pa_cons (pv 0) (pa_cons (pv 1) pa_nil))) pa_nil))))
    (pss_cons (ps_expr (pe_bm PySem.F.plainAttrs_list PySem.F.slot_list_append PySem.F.type_list_append mt_append (pv 5) (pa_cons (pe_tup (pa_cons pe_str (pa_cons pe_str (pa_cons (pv 2) (pa_cons pe_int (pa_cons pe_int (pa_cons (pe_tup (pa_cons pe_str (pa_cons pe_str (pa_cons pe_str (pa_cons pe_str (pa_cons pe_str (pa_cons pe_str pa_nil))))))) pa_nil))))))) pa_nil)))
    (pss_cons (ps_set (i := 5) sc__law_rights.nd rfl (Or.inl rfl) (pe_op op_catK (pv 5) (pe_lc (own := [("_law_word", 6)]) (g := gName 6) (by rfl) sc__law_rights.nd (pi_tup (pe_tup (pa_cons pe_str (pa_cons pe_str (pa_cons pe_str (pa_cons pe_str (pa_cons pe_str pa_nil))))))) (blkOk_by (own := [("_law_word", 6)]) (N := N__law_rights) (sc := defScope s__law_rights) (by decide +kernel)) (fun _ _ _ _ _ => (pg_name (i := 6) sc__law_rights.nd rfl (Or.inl rfl))) (fun _ _ _ _ _ => pts_nil) (fun _ _ _ _ _ => (pe_tup (pa_cons (pv 6) (pa_cons (pv 2) pa_nil)))))))
    (pss_cons (ps_set (i := 5) sc__law_rights.nd rfl (Or.inl rfl) (pe_op op_catK (pv 5) (pe_lst (pa_cons (pe_tup (pa_cons pe_str (pa_cons (pe_tup pa_nil) pa_nil))) (pa_cons (pe_tup (pa_cons pe_str (pa_cons (pe_tup (pa_cons (pe_tup (pa_cons pe_int (pa_cons pe_int pa_nil))) (pa_cons (pe_tup (pa_cons pe_int (pa_cons pe_int pa_nil))) pa_nil))) pa_nil))) (pa_cons (pe_tup (pa_cons pe_str (pa_cons (pe_call G__law_rule (hr.mono (by decide)) rfl T.g__law_rule T.F__law_rule.kp T.b__law_rule .nil pass0 (pa_cons (pv 0) pa_nil)) pa_nil))) (pa_cons (pe_tup (pa_cons pe_str (pa_cons pe_int pa_nil))) pa_nil)))))))
    (pss_cons (ps_set (i := 5) sc__law_rights.nd rfl (Or.inl rfl) (pe_op op_catK (pv 5) (pe_lst (pa_cons (pe_tup (pa_cons pe_str (pa_cons pe_int pa_nil))) (pa_cons (pe_tup (pa_cons pe_str (pa_cons (pe_tup (pa_cons (pe_tup (pa_cons pe_int (pa_cons pe_int pa_nil))) (pa_cons (pe_tup (pa_cons pe_int (pa_cons pe_int pa_nil))) (pa_cons (pe_tup (pa_cons pe_int (pa_cons pe_int pa_nil))) (pa_cons (pe_tup (pa_cons pe_int (pa_cons pe_int pa_nil))) (pa_cons (pe_tup (pa_cons pe_int (pa_cons pe_int pa_nil))) (pa_cons (pe_tup (pa_cons pe_int (pa_cons pe_int pa_nil))) pa_nil))))))) pa_nil))) pa_nil)))))
    (pss_cons (ps_set (i := 5) sc__law_rights.nd rfl (Or.inl rfl) (pe_op op_catK (pv 5) (pe_lst (pa_cons (pe_tup (pa_cons pe_str (pa_cons (pv 2) (pa_cons pe_non pa_nil)))) (pa_cons (pe_tup (pa_cons pe_str (pa_cons (pv 2) (pa_cons (pv 3) pa_nil)))) (pa_cons (pe_tup (pa_cons pe_str (pa_cons pe_str (pa_cons (pe_op op_add pe_int (pe_op op_mod (pv 3) pe_int)) pa_nil)))) pa_nil))))))
    (pss_one (ps_ret (pe_op op_catK (pv 5) (pe_lst (pa_cons (pe_tup (pa_cons pe_str (pa_cons (pe_tup (pa_cons pe_int (pa_cons pe_int pa_nil))) (pa_cons (pv 3) pa_nil)))) (pa_cons (pe_tup (pa_cons pe_str (pa_cons (pe_callTy (cr_tupRng rfl) (by rfl) T.n_tuple (by decide +kernel) (pa_cons (pe_callTy cr_rng2 (by rfl) T.n_range (by decide +kernel) (pa_cons pe_int (pa_cons pe_int pa_nil))) pa_nil)) (pa_cons pe_int pa_nil)))) (pa_cons (pe_call G__law_heap (hr.mono (by decide)) rfl T.g__law_heap T.F__law_heap.kp T.b__law_heap .nil pass0 (pa_cons (pv 0) (pa_cons (pv 1) (pa_cons pe_int pa_nil)))) pa_nil))))))))))))))))), ?_⟩
  intro J
  exact (rs_seq (rs_asg (re_callS (fun _ => .nil) (rc_own (rc_dat (re_c fun _ => .int _) rc_nil))) rg_name)
    (rs_seq (rs_asg (re_op rr_ixL (RN.re (rn_lst (ra_cons (re_c fun _ => .int _) (ra_cons (re_c fun _ => .int _) (ra_cons (re_op rr_add (re_c fun _ => .int _) (re_call (fun _ => .nil) (rc_own (rc_dat (re_c fun _ => .int _) rc_nil)))) ra_nil))))) (re_call (fun _ => .nil) (rc_own (rc_dat (re_c fun _ => .int _) rc_nil)))) rg_name)
    (rs_seq (rs_asg (re_op rr_ixL (RN.re (rn_lst (ra_cons (re_c fun _ => .int _) (ra_cons (re_c fun _ => .int _) (ra_cons (re_c fun _ => .int _) (ra_cons (re_call (fun _ => .nil) (rc_own (rc_dat (re_op rr_pow (re_c fun _ => .int _) (re_c fun _ => .int _)) rc_nil))) ra_nil)))))) (re_call (fun _ => .nil) (rc_own (rc_dat (re_c fun _ => .int _) rc_nil)))) rg_name)
    (rs_seq (rs_asg (re_op rr_ixL (RN.re (rn_lst (ra_cons (re_c fun _ => .int _) (ra_cons (re_c fun _ => .int _) (ra_cons (re_op rr_add (re_c fun _ => .int _) (re_call (fun _ => .nil) (rc_own (rc_dat (re_c fun _ => .int _) rc_nil)))) ra_nil))))) (re_call (fun _ => .nil) (rc_own (rc_dat (re_c fun _ => .int _) rc_nil)))) rg_name)
    (rs_seq (rs_own (by decide) (rn_lst (ra_cons (re_tup (ra_cons (re_c fun _ => .str _) (ra_cons (re_c fun _ => .str _) (ra_cons re_v (ra_cons re_v (ra_cons (re_op rr_ixL (RN.re (rn_lst (ra_cons (re_c fun _ => .int _) (ra_cons re_v ra_nil)))) (re_call (fun _ => .nil) (rc_own (rc_dat (re_c fun _ => .int _) rc_nil)))) (ra_cons (re_tup ra_nil) ra_nil))))))) (ra_cons (re_callS (fun _ => .nil) (rc_own (rc_dat re_v rc_nil))) ra_nil))))
    (rs_seq (rs_append (re_tup (ra_cons (re_c fun _ => .str _) (ra_cons (re_c fun _ => .str _) (ra_cons re_v (ra_cons (re_c fun _ => .int _) (ra_cons (re_c fun _ => .int _) (ra_cons (re_tup (ra_cons (re_c fun _ => .str _) (ra_cons (re_c fun _ => .str _) (ra_cons (re_c fun _ => .str _) (ra_cons (re_c fun _ => .str _) (ra_cons (re_c fun _ => .str _) (ra_cons (re_c fun _ => .str _) ra_nil))))))) ra_nil))))))))
    (rs_seq (rs_freeze (by decide) (rs_own (by decide) (rn_op rrn_cat re_v (RN.re (rn_lc (by decide) (ri_tup (re_tup (ra_cons (re_c fun _ => .str _) (ra_cons (re_c fun _ => .str _) (ra_cons (re_c fun _ => .str _) (ra_cons (re_c fun _ => .str _) (ra_cons (re_c fun _ => .str _) ra_nil))))))) (fun _ le => rg_name) (fun _ le => rt_yes) (fun _ le => (re_tup (ra_cons re_v (ra_cons re_v ra_nil)))))))))
    (rs_seq (rs_freeze (by decide) (rs_own (by decide) (rn_op rrn_cat re_v (RN.re (rn_lst (ra_cons (re_tup (ra_cons (re_c fun _ => .str _) (ra_cons (re_tup ra_nil) ra_nil))) (ra_cons (re_tup (ra_cons (re_c fun _ => .str _) (ra_cons (re_tup (ra_cons (re_tup (ra_cons (re_c fun _ => .int _) (ra_cons (re_c fun _ => .int _) ra_nil))) (ra_cons (re_tup (ra_cons (re_c fun _ => .int _) (ra_cons (re_c fun _ => .int _) ra_nil))) ra_nil))) ra_nil))) (ra_cons (re_tup (ra_cons (re_c fun _ => .str _) (ra_cons (re_call (fun _ => .nil) (rc_own rc_nil)) ra_nil))) (ra_cons (re_tup (ra_cons (re_c fun _ => .str _) (ra_cons (re_c fun _ => .int _) ra_nil))) ra_nil)))))))))
    (rs_seq (rs_freeze (by decide) (rs_own (by decide) (rn_op rrn_cat re_v (RN.re (rn_lst (ra_cons (re_tup (ra_cons (re_c fun _ => .str _) (ra_cons (re_c fun _ => .int _) ra_nil))) (ra_cons (re_tup (ra_cons (re_c fun _ => .str _) (ra_cons (re_tup (ra_cons (re_tup (ra_cons (re_c fun _ => .int _) (ra_cons (re_c fun _ => .int _) ra_nil))) (ra_cons (re_tup (ra_cons (re_c fun _ => .int _) (ra_cons (re_c fun _ => .int _) ra_nil))) (ra_cons (re_tup (ra_cons (re_c fun _ => .int _) (ra_cons (re_c fun _ => .int _) ra_nil))) (ra_cons (re_tup (ra_cons (re_c fun _ => .int _) (ra_cons (re_c fun _ => .int _) ra_nil))) (ra_cons (re_tup (ra_cons (re_c fun _ => .int _) (ra_cons (re_c fun _ => .int _) ra_nil))) (ra_cons (re_tup (ra_cons (re_c fun _ => .int _) (ra_cons (re_c fun _ => .int _) ra_nil))) ra_nil))))))) ra_nil))) ra_nil)))))))
    (rs_seq (rs_freeze (by decide) (rs_own (by decide) (rn_op rrn_cat re_v (RN.re (rn_lst (ra_cons (re_tup (ra_cons (re_c fun _ => .str _) (ra_cons re_v (ra_cons (re_c fun _ => .non) ra_nil)))) (ra_cons (re_tup (ra_cons (re_c fun _ => .str _) (ra_cons re_v (ra_cons re_v ra_nil)))) (ra_cons (re_tup (ra_cons (re_c fun _ => .str _) (ra_cons (re_c fun _ => .str _) (ra_cons (re_op rr_add (re_c fun _ => .int _) (re_op rr_mod re_v (re_c fun _ => .int _))) ra_nil)))) ra_nil))))))))
    (rs_freeze (by decide) (rs_ret (re_op rr_cat re_v (RN.re (rn_lst (ra_cons (re_tup (ra_cons (re_c fun _ => .str _) (ra_cons (re_tup (ra_cons (re_c fun _ => .int _) (ra_cons (re_c fun _ => .int _) ra_nil))) (ra_cons re_v ra_nil)))) (ra_cons (re_tup (ra_cons (re_c fun _ => .str _) (ra_cons (re_tupRng (re_c fun _ => .int _) (re_c fun _ => .int _)) (ra_cons (re_c fun _ => .int _) ra_nil)))) (ra_cons (re_callS (fun _ => .nil) (rc_own (rc_dat re_v (rc_dat (re_c fun _ => .int _) rc_nil)))) ra_nil))))))))))))))))))
theorem okD__law_odds {P : Program} {w : World} {K : PySem.W.Frag} {mg : Str → Option Value} {base : Heap} {ad : Ad} (T : Txt w K mg ad) : FnOk P w K mg base CX0 2 ad.f__law_odds ad.d__law_odds ["_law_box_here"] (spF K 1 F__law_odds) := by
  have G__law_take := okD__law_take (P := P) (w := w) (base := base) T
  refine okF0 T.F__law_odds sc__law_odds fun cdv A outer s H E hr => ⟨_, (pss_cons (ps_set (i := 1) sc__law_odds.nd rfl (Or.inl rfl) (pe_lst (pa_cons pe_non (pa_cons pe_bl (pa_cons pe_bl (pa_cons pe_int (pa_cons (pe_un un_neg pe_int) (pa_cons pe_int (pa_cons pe_int (pa_cons pe_int (pa_cons pe_int (pa_cons pe_int (pa_cons pe_int (pa_cons pe_int (pa_cons pe_int (pa_cons pe_int (pa_cons pe_int (pa_cons pe_int (pa_cons (pe_op op_pow pe_int pe_int) (pa_cons (pe_op op_pow pe_int pe_int) pa_nil))))))))))))))))))))
    (pss_cons (ps_set (i := 1) sc__law_odds.nd rfl (Or.inl rfl) (pe_op op_catK (pv 1) (pe_lst (pa_cons pe_str (pa_cons pe_str (pa_cons pe_str (pa_cons pe_str (pa_cons pe_str (pa_cons pe_str (pa_cons pe_str (pa_cons pe_str (pa_cons pe_str (pa_cons (pe_tup pa_nil) (pa_cons (pe_tup (pa_cons pe_int pa_nil)) (pa_cons (pe_tup (pa_cons pe_int (pa_cons pe_int pa_nil))) (pa_cons (pe_lst (pa_cons pe_int (pa_cons pe_int pa_nil))) (pa_cons (pe_tup (pa_cons pe_int (pa_cons pe_int pa_nil))) pa_nil)))))))))))))))))
    (pss_cons (ps_set (i := 1) sc__law_odds.nd rfl (Or.inl rfl) (pe_op op_catK (pv 1) (pe_lst (pa_cons (pe_tup (pa_cons pe_int (pa_cons pe_int pa_nil))) (pa_cons (pe_tup (pa_cons pe_int (pa_cons pe_bl pa_nil))) (pa_cons (pe_tup (pa_cons pe_int (pa_cons pe_int pa_nil))) (pa_cons (pe_tup (pa_cons pe_int (pa_cons pe_int pa_nil))) (pa_cons (pe_callTy (cr_tupRng rfl) (by rfl) T.n_tuple (by decide +kernel) (pa_cons (pe_callTy cr_rng2 (by rfl) T.n_range (by decide +kernel) (pa_cons pe_int (pa_cons pe_int pa_nil))) pa_nil)) (pa_cons (pe_callTy (cr_tupRng rfl) (by rfl) T.n_tuple (by decide +kernel) (pa_cons (pe_callTy cr_rng2 (by rfl) T.n_range (by decide +kernel) (pa_cons pe_int (pa_cons pe_int pa_nil))) pa_nil)) (pa_cons (pe_tup (pa_cons pe_str (pa_cons pe_str pa_nil))) pa_nil))))))))))
    (pss_cons (ps_set (i := 1) sc__law_odds.nd rfl (Or.inl rfl) (pe_op op_catK (pv 1) (pe_lst (pa_cons (pe_tup (pa_cons pe_str (pa_cons pe_str pa_nil))) (pa_cons (pe_lst (pa_cons pe_str pa_nil)) (pa_cons (pe_tup (pa_cons pe_str (pa_cons pe_str pa_nil))) (pa_cons (pe_tup (pa_cons pe_str (pa_cons pe_str pa_nil))) (pa_cons (pe_tup (pa_cons (pe_tup (pa_cons pe_int (pa_cons pe_int pa_nil))) pa_nil)) (pa_cons (pe_tup (pa_cons (pe_tup (pa_cons pe_int (pa_cons pe_int pa_nil))) (pa_cons (pe_tup (pa_cons pe_int (pa_cons pe_int pa_nil))) pa_nil))) (pa_cons (pe_tup (pa_cons (pe_tup (pa_cons pe_int (pa_cons pe_int pa_nil))) (pa_cons (pe_tup (pa_cons pe_int (pa_cons pe_int pa_nil))) pa_nil))) pa_nil))))))))))
    (pss_cons (ps_set (i := 1) sc__law_odds.nd rfl (Or.inl rfl) (pe_op op_catK (pv 1) (pe_lst (pa_cons (pe_tup (pa_cons (pe_tup (pa_cons pe_int (pa_cons pe_int pa_nil))) pa_nil)) (pa_cons (pe_tup (pa_cons (pe_tup (pa_cons pe_int (pa_cons pe_int pa_nil))) pa_nil)) pa_nil)))))
    (pss_cons (ps_set (i := 1) sc__law_odds.nd rfl (Or.inl rfl) (pe_op op_catK (pv 1) (pe_lst (pa_cons (pe_lst (pa_cons (pe_tup (pa_cons pe_int (pa_cons pe_int pa_nil))) pa_nil)) (pa_cons (pe_tup (pa_cons (pe_lst (pa_cons pe_int (pa_cons pe_int pa_nil))) pa_nil)) (pa_cons (pe_tup (pa_cons (pe_tup (pa_cons pe_int (pa_cons pe_int (pa_cons pe_int pa_nil)))) pa_nil)) (pa_cons (pe_tup (pa_cons (pe_tup (pa_cons pe_int (pa_cons pe_int pa_nil))) pa_nil)) (pa_cons (pe_tup (pa_cons (pe_tup (pa_cons pe_int (pa_cons pe_int pa_nil))) pa_nil)) (pa_cons (pe_tup (pa_cons (pe_tup (pa_cons pe_bl (pa_cons pe_int pa_nil))) pa_nil)) (pa_cons (pe_bm PySem.F.plainAttrs_str PySem.F.slot_str_split PySem.F.type_str_split mt_split pe_str (pa_cons pe_str pa_nil)) pa_nil))))))))))
    (pss_cons (ps_set (i := 1) sc__law_odds.nd rfl (Or.inl rfl) (pe_op op_catK (pv 1) (pe_lst (pa_cons (pe_callTy call_tuple_of (by rfl) T.n_tuple (by decide +kernel) (pa_cons (pe_lc (own := [("_law_k", 2)]) (g := gName 2) (by rfl) sc__law_odds.nd (pi_range2 rfl T.n_range (pa_cons pe_int (pa_cons pe_int pa_nil))) (blkOk_by (own := [("_law_k", 2)]) (N := N__law_odds) (sc := defScope s__law_odds) (by decide +kernel)) (fun _ _ _ _ _ => (pg_name (i := 2) sc__law_odds.nd rfl (Or.inl rfl))) (fun _ _ _ _ _ => pts_nil) (fun _ _ _ _ _ => (pe_tup (pa_cons (pv 2) (pa_cons (pe_op op_sub pe_int (pv 2)) pa_nil))))) pa_nil)) (pa_cons (pe_callTy (cr_tupStr rfl) (by rfl) T.n_tuple (by decide +kernel) (pa_cons pe_str pa_nil)) (pa_cons (pe_callTy (cr_tupStr rfl) (by rfl) T.n_tuple (by decide +kernel) (pa_cons pe_str pa_nil)) pa_nil))))))
    (pss_one (ps_ret (pe_ix ix_list (pv 1) (pe_call G__law_take (hr.mono (by decide)) rfl T.g__law_take T.F__law_take.kp T.b__law_take .nil pass0 (pa_cons (pv 0) (pa_cons (pe_callB call_len_seq (by rfl) T.n_len PySem.boot_len (pa_cons (pv 1) pa_nil)) pa_nil))) (fun _ _ => rfl))))))))))), ?_⟩
  intro J
  exact (rs_seq (rs_asg (RN.re (rn_lst (ra_cons (re_c fun _ => .non) (ra_cons (re_c fun _ => .bl _) (ra_cons (re_c fun _ => .bl _) (ra_cons (re_c fun _ => .int _) (ra_cons (re_un ru_neg (re_c fun _ => .int _)) (ra_cons (re_c fun _ => .int _) (ra_cons (re_c fun _ => .int _) (ra_cons (re_c fun _ => .int _) (ra_cons (re_c fun _ => .int _) (ra_cons (re_c fun _ => .int _) (ra_cons (re_c fun _ => .int _) (ra_cons (re_c fun _ => .int _) (ra_cons (re_c fun _ => .int _) (ra_cons (re_c fun _ => .int _) (ra_cons (re_c fun _ => .int _) (ra_cons (re_c fun _ => .int _) (ra_cons (re_op rr_pow (re_c fun _ => .int _) (re_c fun _ => .int _)) (ra_cons (re_op rr_pow (re_c fun _ => .int _) (re_c fun _ => .int _)) ra_nil)))))))))))))))))))) rg_name)
    (rs_seq (rs_asg (re_op rr_cat re_v (RN.re (rn_lst (ra_cons (re_c fun _ => .str _) (ra_cons (re_c fun _ => .str _) (ra_cons (re_c fun _ => .str _) (ra_cons (re_c fun _ => .str _) (ra_cons (re_c fun _ => .str _) (ra_cons (re_c fun _ => .str _) (ra_cons (re_c fun _ => .str _) (ra_cons (re_c fun _ => .str _) (ra_cons (re_c fun _ => .str _) (ra_cons (re_tup ra_nil) (ra_cons (re_tup (ra_cons (re_c fun _ => .int _) ra_nil)) (ra_cons (re_tup (ra_cons (re_c fun _ => .int _) (ra_cons (re_c fun _ => .int _) ra_nil))) (ra_cons (RN.re (rn_lst (ra_cons (re_c fun _ => .int _) (ra_cons (re_c fun _ => .int _) ra_nil)))) (ra_cons (re_tup (ra_cons (re_c fun _ => .int _) (ra_cons (re_c fun _ => .int _) ra_nil))) ra_nil))))))))))))))))) rg_name)
    (rs_seq (rs_asg (re_op rr_cat re_v (RN.re (rn_lst (ra_cons (re_tup (ra_cons (re_c fun _ => .int _) (ra_cons (re_c fun _ => .int _) ra_nil))) (ra_cons (re_tup (ra_cons (re_c fun _ => .int _) (ra_cons (re_c fun _ => .bl _) ra_nil))) (ra_cons (re_tup (ra_cons (re_c fun _ => .int _) (ra_cons (re_c fun _ => .int _) ra_nil))) (ra_cons (re_tup (ra_cons (re_c fun _ => .int _) (ra_cons (re_c fun _ => .int _) ra_nil))) (ra_cons (re_tupRng (re_c fun _ => .int _) (re_c fun _ => .int _)) (ra_cons (re_tupRng (re_c fun _ => .int _) (re_c fun _ => .int _)) (ra_cons (re_tup (ra_cons (re_c fun _ => .str _) (ra_cons (re_c fun _ => .str _) ra_nil))) ra_nil)))))))))) rg_name)
    (rs_seq (rs_asg (re_op rr_cat re_v (RN.re (rn_lst (ra_cons (re_tup (ra_cons (re_c fun _ => .str _) (ra_cons (re_c fun _ => .str _) ra_nil))) (ra_cons (RN.re (rn_lst (ra_cons (re_c fun _ => .str _) ra_nil))) (ra_cons (re_tup (ra_cons (re_c fun _ => .str _) (ra_cons (re_c fun _ => .str _) ra_nil))) (ra_cons (re_tup (ra_cons (re_c fun _ => .str _) (ra_cons (re_c fun _ => .str _) ra_nil))) (ra_cons (re_tup (ra_cons (re_tup (ra_cons (re_c fun _ => .int _) (ra_cons (re_c fun _ => .int _) ra_nil))) ra_nil)) (ra_cons (re_tup (ra_cons (re_tup (ra_cons (re_c fun _ => .int _) (ra_cons (re_c fun _ => .int _) ra_nil))) (ra_cons (re_tup (ra_cons (re_c fun _ => .int _) (ra_cons (re_c fun _ => .int _) ra_nil))) ra_nil))) (ra_cons (re_tup (ra_cons (re_tup (ra_cons (re_c fun _ => .int _) (ra_cons (re_c fun _ => .int _) ra_nil))) (ra_cons (re_tup (ra_cons (re_c fun _ => .int _) (ra_cons (re_c fun _ => .int _) ra_nil))) ra_nil))) ra_nil)))))))))) rg_name)
    (rs_seq (rs_asg (re_op rr_cat re_v (RN.re (rn_lst (ra_cons (re_tup (ra_cons (re_tup (ra_cons (re_c fun _ => .int _) (ra_cons (re_c fun _ => .int _) ra_nil))) ra_nil)) (ra_cons (re_tup (ra_cons (re_tup (ra_cons (re_c fun _ => .int _) (ra_cons (re_c fun _ => .int _) ra_nil))) ra_nil)) ra_nil))))) rg_name)
    (rs_seq (rs_asg (re_op rr_cat re_v (RN.re (rn_lst (ra_cons (RN.re (rn_lst (ra_cons (re_tup (ra_cons (re_c fun _ => .int _) (ra_cons (re_c fun _ => .int _) ra_nil))) ra_nil))) (ra_cons (re_tup (ra_cons (RN.re (rn_lst (ra_cons (re_c fun _ => .int _) (ra_cons (re_c fun _ => .int _) ra_nil)))) ra_nil)) (ra_cons (re_tup (ra_cons (re_tup (ra_cons (re_c fun _ => .int _) (ra_cons (re_c fun _ => .int _) (ra_cons (re_c fun _ => .int _) ra_nil)))) ra_nil)) (ra_cons (re_tup (ra_cons (re_tup (ra_cons (re_c fun _ => .int _) (ra_cons (re_c fun _ => .int _) ra_nil))) ra_nil)) (ra_cons (re_tup (ra_cons (re_tup (ra_cons (re_c fun _ => .int _) (ra_cons (re_c fun _ => .int _) ra_nil))) ra_nil)) (ra_cons (re_tup (ra_cons (re_tup (ra_cons (re_c fun _ => .bl _) (ra_cons (re_c fun _ => .int _) ra_nil))) ra_nil)) (ra_cons (re_bm rm_split (re_c fun _ => .str _) (ra_cons (re_c fun _ => .str _) ra_nil)) ra_nil)))))))))) rg_name)
    (rs_seq (rs_asg (re_op rr_cat re_v (RN.re (rn_lst (ra_cons (re_cb rb_tuple (ra_cons (RN.re (rn_lc (by decide) (ri_rng2 (ra_cons (re_c fun _ => .int _) (ra_cons (re_c fun _ => .int _) ra_nil))) (fun _ le => rg_name) (fun _ le => rt_yes) (fun _ le => (re_tup (ra_cons re_v (ra_cons (re_op rr_sub (re_c fun _ => .int _) re_v) ra_nil)))))) ra_nil)) (ra_cons (re_cb rb_tupS (ra_cons (re_c fun _ => .str _) ra_nil)) (ra_cons (re_cb rb_tupS (ra_cons (re_c fun _ => .str _) ra_nil)) ra_nil)))))) rg_name)
    (rs_ret (re_op rr_ixL re_v (re_call (fun _ => .nil) (rc_own (rc_dat (re_cb rb_len (ra_cons re_v ra_nil)) rc_nil))))))))))))
theorem okD__law_bent {P : Program} {w : World} {K : PySem.W.Frag} {mg : Str → Option Value} {base : Heap} {ad : Ad} (T : Txt w K mg ad) : FnOk P w K mg base CX0 3 ad.f__law_bent ad.d__law_bent ["_law_box_here", "_law_deed"] (spF K 2 F__law_bent) := by
  have G__law_take := okD__law_take (P := P) (w := w) (base := base) T
  have G__law_odds := okD__law_odds (P := P) (w := w) (base := base) T
  refine okF0 T.F__law_bent sc__law_bent fun cdv A outer s H E hr => ⟨_, (pss_cons (ps_par (i := 2) (j := 3) (by rfl) sc__law_bent.nd rfl rfl (by decide) rfl rfl (pa_cons (pe_call G__law_take (hr.mono (by decide)) rfl T.g__law_take T.F__law_take.kp T.b__law_take .nil pass0 (pa_cons (pv 0) (pa_cons pe_int pa_nil))) (pa_cons (pe_op op_add pe_int (pe_call G__law_take (hr.mono (by decide)) rfl T.g__law_take T.F__law_take.kp T.b__law_take .nil pass0 (pa_cons (pv 0) (pa_cons (pe_op op_sub (pe_callB call_len_seq (by rfl) T.n_len PySem.boot_len (pa_cons (pv 1) pa_nil)) pe_int) pa_nil)))) pa_nil)) (by rfl))
    (pss_cons (ps_if (pt_cmpR op_lt (pv 2) pe_int (nomark _)) (pss_one (ps_ret (pe_op op_catA (pe_op op_catA (pe_slice sl_tupA (pv 1) po_none (po_some (pv 3))) (pe_tup (pa_cons (pe_call G__law_odds (hr.mono (by decide)) rfl T.g__law_odds T.F__law_odds.kp T.b__law_odds .nil pass0 (pa_cons (pv 0) pa_nil)) pa_nil))) (pe_slice sl_tupA (pv 1) (po_some (pe_op op_add (pv 3) pe_int)) po_none)))) pss_nil)
    (pss_cons (ps_set (i := 4) sc__law_bent.nd rfl (Or.inl rfl) (pe_lst (pa_cons pe_str (pa_cons pe_str (pa_cons pe_str (pa_cons pe_str (pa_cons pe_str (pa_cons pe_str (pa_cons pe_str (pa_cons pe_str (pa_cons pe_str (pa_cons pe_str (pa_cons pe_str (pa_cons pe_non (pa_cons pe_int (pa_cons (pe_tup (pa_cons pe_str pa_nil)) pa_nil))))))))))))))))
    (pss_cons (ps_set (i := 5) sc__law_bent.nd rfl (Or.inl rfl) (pe_lst (pa_cons (pe_slice sl_tupA (pv 1) po_none (po_some (pe_un un_neg pe_int))) (pa_cons (pe_op op_catA (pv 1) (pe_tup (pa_cons pe_int pa_nil))) (pa_cons (pe_callTy call_list_of (by rfl) T.n_list (by decide +kernel) (pa_cons (pv 1) pa_nil)) (pa_cons (pe_op op_catA (pe_tup (pa_cons (pe_ix ix_list (pv 4) (pe_call G__law_take (hr.mono (by decide)) rfl T.g__law_take T.F__law_take.kp T.b__law_take .nil pass0 (pa_cons (pv 0) (pa_cons (pe_callB call_len_seq (by rfl) T.n_len PySem.boot_len (pa_cons (pv 4) pa_nil)) pa_nil))) (fun _ _ => rfl)) pa_nil)) (pe_slice sl_tupA (pv 1) (po_some pe_int) po_none)) pa_nil))))))
    (pss_one (ps_ret (pe_ix ix_list (pv 5) (pe_op op_sub (pv 2) pe_int) (fun _ _ => rfl)))))))), ?_⟩
  intro J
  exact (rs_seq (rs_par (ra_cons (re_call (fun _ => .nil) (rc_own (rc_dat (re_c fun _ => .int _) rc_nil))) (ra_cons (re_op rr_add (re_c fun _ => .int _) (re_call (fun _ => .nil) (rc_own (rc_dat (re_op rr_sub (re_cb rb_len (ra_cons re_v ra_nil)) (re_c fun _ => .int _)) rc_nil)))) ra_nil)))
    (rs_seq (rs_if (rt_test (re_op rr_lt re_v (re_c fun _ => .int _))) (rs_ret (re_op rr_catA (re_op rr_catA (re_sl rl_tupA re_v ro_no (ro_so re_v)) (re_tup (ra_cons (re_call (fun _ => .nil) (rc_own rc_nil)) ra_nil))) (re_sl rl_tupA re_v (ro_so (re_op rr_add re_v (re_c fun _ => .int _))) ro_no))) rs_next)
    (rs_seq (rs_asg (RN.re (rn_lst (ra_cons (re_c fun _ => .str _) (ra_cons (re_c fun _ => .str _) (ra_cons (re_c fun _ => .str _) (ra_cons (re_c fun _ => .str _) (ra_cons (re_c fun _ => .str _) (ra_cons (re_c fun _ => .str _) (ra_cons (re_c fun _ => .str _) (ra_cons (re_c fun _ => .str _) (ra_cons (re_c fun _ => .str _) (ra_cons (re_c fun _ => .str _) (ra_cons (re_c fun _ => .str _) (ra_cons (re_c fun _ => .non) (ra_cons (re_c fun _ => .int _) (ra_cons (re_tup (ra_cons (re_c fun _ => .str _) ra_nil)) ra_nil)))))))))))))))) rg_name)
    (rs_seq (rs_asg (RN.re (rn_lst (ra_cons (re_sl rl_tupA re_v ro_no (ro_so (re_un ru_neg (re_c fun _ => .int _)))) (ra_cons (re_op rr_catA re_v (re_tup (ra_cons (re_c fun _ => .int _) ra_nil))) (ra_cons (re_cb rb_list (ra_cons re_v ra_nil)) (ra_cons (re_op rr_catA (re_tup (ra_cons (re_op rr_ixL re_v (re_call (fun _ => .nil) (rc_own (rc_dat (re_cb rb_len (ra_cons re_v ra_nil)) rc_nil)))) ra_nil)) (re_sl rl_tupA re_v (ro_so (re_c fun _ => .int _)) ro_no)) ra_nil)))))) rg_name)
    (rs_ret (re_op rr_ixL re_v (re_op rr_sub re_v (re_c fun _ => .int _))))))))
theorem okD_is_whole {P : Program} {w : World} {K : PySem.W.Frag} {mg : Str → Option Value} {base : Heap} {ad : Ad} (T : Txt w K mg ad) : FnOk P w K mg base CX0 1 ad.f_is_whole ad.d_is_whole ["thing", "least", "most"] (spF K 3 F_is_whole) := by
  refine okF0 T.F_is_whole sc_is_whole fun cdv A outer s H E hr => ⟨_, (pss_one (ps_ret (pe_and (pe_callB call_isi (by rfl) T.n_isinstance (by decide +kernel) (pa_cons (pv 0) (pa_cons (pe_bltn (v := .ty "int") (by rfl) T.n_int (by decide +kernel) rfl) pa_nil))) (pe_and (pe_not (pe_callB call_isi (by rfl) T.n_isinstance (by decide +kernel) (pa_cons (pv 0) (pa_cons (pe_bltn (v := .ty "bool") (by rfl) T.n_bool (by decide +kernel) rfl) pa_nil)))) (pe_one (pe_chain op_le op_le (pv 1) (pv 0) (pv 2))))))), ?_⟩
  intro J
  exact (rs_ret (re_and (re_isi re_v) (re_and (re_not (re_isi re_v)) (re_chain rr_le rr_le re_v re_v re_v))))
theorem okD_are_rising {P : Program} {w : World} {K : PySem.W.Frag} {mg : Str → Option Value} {base : Heap} {ad : Ad} (T : Txt w K mg ad) : FnOk P w K mg base CX0 1 ad.f_are_rising ad.d_are_rising ["things"] (spF K 1 F_are_rising) := by
  refine okF0 T.F_are_rising sc_are_rising fun cdv A outer s H E hr => ⟨_, (pss_one (ps_ret (pe_callB (cr_all rfl) (by rfl) T.n_all (by decide +kernel) (pa_cons (pe_lc (own := [("one", 1), ("other", 2)]) (g := gTup K 2 (gCons (gName 1) (gCons (gName 2) gNil))) (by rfl) sc_are_rising.nd (RZ.pi_zipA (by rfl) T.n_zip (pa_cons (pv 0) (pa_cons (pe_slice sl_tupA (pv 0) (po_some pe_int) po_none) pa_nil))) (blkOk_by (own := [("one", 1), ("other", 2)]) (N := N_are_rising) (sc := defScope s_are_rising) (by decide +kernel)) (fun _ _ _ _ _ => (pg_tup (by rfl) (pgs_cons (pg_name (i := 1) sc_are_rising.nd rfl (Or.inl rfl)) (pgs_cons (pg_name (i := 2) sc_are_rising.nd rfl (Or.inl rfl)) pgs_nil)))) (fun _ _ _ _ _ => pts_nil) (fun _ _ _ _ _ => (pe_cmpR op_ltM (pv 1) (pv 2) (nomark _)))) pa_nil)))), ?_⟩
  intro J
  exact (rs_ret (re_cb rb_all (ra_cons (RN.re (rn_lc (by decide) (ri_zip (ra_cons re_v (ra_cons (re_sl rl_tupA re_v (ro_so (re_c fun _ => .int _)) ro_no) ra_nil))) (fun _ le => (rg_tup (rgs_cons rg_name (rgs_cons rg_name rgs_nil)))) (fun _ le => rt_yes) (fun _ le => (re_op rr_ltM re_v re_v)))) ra_nil)))
theorem okD_is_name {P : Program} {w : World} {K : PySem.W.Frag} {mg : Str → Option Value} {base : Heap} {ad : Ad} (T : Txt w K mg ad) : FnOk P w K mg base CX0 1 ad.f_is_name ad.d_is_name ["thing"] (spF K 1 F_is_name) := by
  refine okF0 T.F_is_name sc_is_name fun cdv A outer s H E hr => ⟨_, (pss_cons (ps_if (PW.pt (pw_or (pt_not (pt_val (pe_callB call_isi (by rfl) T.n_isinstance (by decide +kernel) (pa_cons (pv 0) (pa_cons (pe_bltn (v := .ty "str") (by rfl) T.n_str (by decide +kernel) rfl) pa_nil))))) (pw_or1 (pt_not (pt_chain op_le op_le pe_int (pe_callB call_len_str (by rfl) T.n_len PySem.boot_len (pa_cons (pv 0) pa_nil)) (pe_globE rfl T.c_MOST_SIGNS)))))) (pss_one (ps_ret pe_bl)) pss_nil)
    (pss_one (ps_ret (pe_callB (cr_all rfl) (by rfl) T.n_all (by decide +kernel) (pa_cons (pe_lc (own := [("sign", 1)]) (g := gName 1) (by rfl) sc_is_name.nd (pi_str (pv 0)) (blkOk_by (own := [("sign", 1)]) (N := N_is_name) (sc := defScope s_is_name) (by decide +kernel)) (fun _ _ _ _ _ => (pg_name (i := 1) sc_is_name.nd rfl (Or.inl rfl))) (fun _ _ _ _ _ => pts_nil) (fun _ _ _ _ _ => (pe_cmpR op_in_sign (pv 1) (pe_globE rfl T.c_SMALL_SIGNS) rfl))) pa_nil))))), ?_⟩
  intro J
  exact (rs_seq (rs_if (rt_or (rt_not (rt_b (re_isi re_v))) (rt_not (rt_test (re_chain rr_le rr_le (re_c fun _ => .int _) (re_cb rb_len_str (ra_cons re_v ra_nil)) (re_c fun _ => .int _))))) (rs_ret (re_c fun _ => .bl _)) rs_next)
    (rs_ret (re_cb rb_all (ra_cons (RN.re (rn_lc (by decide) (ri_str re_v) (fun _ le => rg_name) (fun _ le => rt_yes) (fun _ le => (re_op rr_in_sign re_v (re_c fun _ => .str _))))) ra_nil))))
theorem okD_are_words {P : Program} {w : World} {K : PySem.W.Frag} {mg : Str → Option Value} {base : Heap} {ad : Ad} (T : Txt w K mg ad) : FnOk P w K mg base CX0 2 ad.f_are_words ad.d_are_words ["thing"] (spF K 1 F_are_words) := by
  have G_are_rising := okD_are_rising (P := P) (w := w) (base := base) T
  have G_is_name := okD_is_name (P := P) (w := w) (base := base) T
  refine okF0 T.F_are_words sc_are_words fun cdv A outer s H E hr => ⟨_, (pss_cons (ps_if (PW.pt (pw_or (pt_not (pt_val (pe_callB call_isi (by rfl) T.n_isinstance (by decide +kernel) (pa_cons (pv 0) (pa_cons (pe_bltn (v := .ty "tuple") (by rfl) T.n_tuple (by decide +kernel) rfl) pa_nil))))) (pw_or (pt_cmpR op_gt (pe_callB call_len_seq (by rfl) T.n_len PySem.boot_len (pa_cons (pv 0) pa_nil)) (pe_globE rfl T.c_MOST_WORDS) (nomark _)) (pw_or1 (pt_not (pt_val (pe_callB (cr_all rfl) (by rfl) T.n_all (by decide +kernel) (pa_cons (pe_lc (own := [("word", 1)]) (g := gName 1) (by rfl) sc_are_words.nd (pi_tup (pv 0)) (blkOk_by (own := [("word", 1)]) (N := N_are_words) (sc := defScope s_are_words) (by decide +kernel)) (fun _ _ _ _ _ => (pg_name (i := 1) sc_are_words.nd rfl (Or.inl rfl))) (fun _ _ _ _ _ => pts_nil) (fun _ _ _ _ _ => (pe_call G_is_name (hr.mono (by decide)) rfl T.g_is_name T.F_is_name.kp T.b_is_name .nil pass0 (pa_cons (pv 1) pa_nil)))) pa_nil)))))))) (pss_one (ps_ret pe_bl)) pss_nil)
    (pss_one (ps_ret (pe_call G_are_rising (hr.mono (by decide)) rfl T.g_are_rising T.F_are_rising.kp T.b_are_rising .nil pass0 (pa_cons (pv 0) pa_nil))))), ?_⟩
  intro J
  exact (rs_seq (rs_if (rt_or (rt_not (rt_b (re_isi re_v))) (rt_or (rt_test (re_op rr_gt (re_cb rb_len (ra_cons re_v ra_nil)) (re_c fun _ => .int _))) (rt_not (rt_b (re_cb rb_all (ra_cons (RN.re (rn_lc (by decide) (ri_tup re_v) (fun _ le => rg_name) (fun _ le => rt_yes) (fun _ le => (re_call (fun _ => .nil) (rc_dat re_v rc_nil))))) ra_nil)))))) (rs_ret (re_c fun _ => .bl _)) rs_next)
    (rs_ret (re_call (fun _ => .nil) (rc_dat re_v rc_nil))))
theorem okD_is_number {P : Program} {w : World} {K : PySem.W.Frag} {mg : Str → Option Value} {base : Heap} {ad : Ad} (T : Txt w K mg ad) : FnOk P w K mg base CX0 2 ad.f_is_number ad.d_is_number ["thing"] (spF K 1 F_is_number) := by
  have G_is_whole := okD_is_whole (P := P) (w := w) (base := base) T
  refine okF0 T.F_is_number sc_is_number fun cdv A outer s H E hr => ⟨_, (pss_one (ps_ret (pe_call G_is_whole (hr.mono (by decide)) rfl T.g_is_whole T.F_is_whole.kp T.b_is_whole .nil pass0 (pa_cons (pv 0) (pa_cons pe_int (pa_cons (pe_globE rfl T.c_MOST_NUMBER) pa_nil)))))), ?_⟩
  intro J
  exact (rs_ret (re_call (fun _ => .nil) (rc_dat re_v (rc_dat (re_c fun _ => .int _) (rc_dat (re_c fun _ => .int _) rc_nil)))))
theorem okD_is_give {P : Program} {w : World} {K : PySem.W.Frag} {mg : Str → Option Value} {base : Heap} {ad : Ad} (T : Txt w K mg ad) : FnOk P w K mg base CX0 3 ad.f_is_give ad.d_is_give ["deed"] (spF K 1 F_is_give) := by
  have G_is_whole := okD_is_whole (P := P) (w := w) (base := base) T
  have G_are_words := okD_are_words (P := P) (w := w) (base := base) T
  have G_is_name := okD_is_name (P := P) (w := w) (base := base) T
  have G_is_number := okD_is_number (P := P) (w := w) (base := base) T
  refine okF0 T.F_is_give sc_is_give fun cdv A outer s H E hr => ⟨_, (pss_cons (ps_asg (pv 0) (pg_tup (by rfl) (pgs_cons (pg_name (i := 1) sc_is_give.nd rfl (Or.inl rfl)) (pgs_cons (pg_name (i := 2) sc_is_give.nd rfl (Or.inl rfl)) (pgs_cons (pg_name (i := 3) sc_is_give.nd rfl (Or.inl rfl)) (pgs_cons (pg_name (i := 4) sc_is_give.nd rfl (Or.inl rfl)) (pgs_cons (pg_name (i := 5) sc_is_give.nd rfl (Or.inl rfl)) (pgs_cons (pg_name (i := 6) sc_is_give.nd rfl (Or.inl rfl)) pgs_nil))))))))
    (pss_cons (ps_if (PW.pt (pw_or (pt_not (pt_val (pe_call G_is_name (hr.mono (by decide)) rfl T.g_is_name T.F_is_name.kp T.b_is_name .nil pass0 (pa_cons (pv 2) pa_nil)))) (pw_or (pt_not (pt_val (pe_call G_is_number (hr.mono (by decide)) rfl T.g_is_number T.F_is_number.kp T.b_is_number .nil pass0 (pa_cons (pv 3) pa_nil)))) (pw_or1 (pt_not (pt_val (pe_call G_is_whole (hr.mono (by decide)) rfl T.g_is_whole T.F_is_whole.kp T.b_is_whole .nil pass0 (pa_cons (pv 4) (pa_cons pe_int (pa_cons (pe_globE rfl T.c_MOST_PRICE) pa_nil)))))))))) (pss_one (ps_ret pe_bl)) pss_nil)
    (pss_one (ps_ret (pe_and (pe_call G_is_whole (hr.mono (by decide)) rfl T.g_is_whole T.F_is_whole.kp T.b_is_whole .nil pass0 (pa_cons (pv 5) (pa_cons pe_int (pa_cons (pv 4) pa_nil)))) (pe_one (pe_call G_are_words (hr.mono (by decide)) rfl T.g_are_words T.F_are_words.kp T.b_are_words .nil pass0 (pa_cons (pv 6) pa_nil)))))))), ?_⟩
  intro J
  exact (rs_seq (rs_asg re_v (rg_tup (rgs_cons rg_name (rgs_cons rg_name (rgs_cons rg_name (rgs_cons rg_name (rgs_cons rg_name (rgs_cons rg_name rgs_nil))))))))
    (rs_seq (rs_if (rt_or (rt_not (rt_b (re_call (fun _ => .nil) (rc_dat re_v rc_nil)))) (rt_or (rt_not (rt_b (re_call (fun _ => .nil) (rc_dat re_v rc_nil)))) (rt_not (rt_b (re_call (fun _ => .nil) (rc_dat re_v (rc_dat (re_c fun _ => .int _) (rc_dat (re_c fun _ => .int _) rc_nil)))))))) (rs_ret (re_c fun _ => .bl _)) rs_next)
    (rs_ret (re_and (re_call (fun _ => .nil) (rc_dat re_v (rc_dat (re_c fun _ => .int _) (rc_dat re_v rc_nil)))) (re_call (fun _ => .nil) (rc_dat re_v rc_nil))))))
theorem okD_are_numbers {P : Program} {w : World} {K : PySem.W.Frag} {mg : Str → Option Value} {base : Heap} {ad : Ad} (T : Txt w K mg ad) : FnOk P w K mg base CX0 3 ad.f_are_numbers ad.d_are_numbers ["thing"] (spF K 1 F_are_numbers) := by
  have G_are_rising := okD_are_rising (P := P) (w := w) (base := base) T
  have G_is_number := okD_is_number (P := P) (w := w) (base := base) T
  refine okF0 T.F_are_numbers sc_are_numbers fun cdv A outer s H E hr => ⟨_, (pss_cons (ps_if (PW.pt (pw_or (pt_not (pt_val (pe_callB call_isi (by rfl) T.n_isinstance (by decide +kernel) (pa_cons (pv 0) (pa_cons (pe_bltn (v := .ty "tuple") (by rfl) T.n_tuple (by decide +kernel) rfl) pa_nil))))) (pw_or1 (pt_not (pt_chain op_le op_le (pe_globE rfl T.c_LEAST_HEAP) (pe_callB call_len_seq (by rfl) T.n_len PySem.boot_len (pa_cons (pv 0) pa_nil)) (pe_globE rfl T.c_MOST_HEAP)))))) (pss_one (ps_ret pe_bl)) pss_nil)
    (pss_one (ps_ret (pe_and (pe_callB (cr_all rfl) (by rfl) T.n_all (by decide +kernel) (pa_cons (pe_lc (own := [("one", 1)]) (g := gName 1) (by rfl) sc_are_numbers.nd (pi_tup (pv 0)) (blkOk_by (own := [("one", 1)]) (N := N_are_numbers) (sc := defScope s_are_numbers) (by decide +kernel)) (fun _ _ _ _ _ => (pg_name (i := 1) sc_are_numbers.nd rfl (Or.inl rfl))) (fun _ _ _ _ _ => pts_nil) (fun _ _ _ _ _ => (pe_call G_is_number (hr.mono (by decide)) rfl T.g_is_number T.F_is_number.kp T.b_is_number .nil pass0 (pa_cons (pv 1) pa_nil)))) pa_nil)) (pe_one (pe_call G_are_rising (hr.mono (by decide)) rfl T.g_are_rising T.F_are_rising.kp T.b_are_rising .nil pass0 (pa_cons (pv 0) pa_nil))))))), ?_⟩
  intro J
  exact (rs_seq (rs_if (rt_or (rt_not (rt_b (re_isi re_v))) (rt_not (rt_test (re_chain rr_le rr_le (re_c fun _ => .int _) (re_cb rb_len (ra_cons re_v ra_nil)) (re_c fun _ => .int _))))) (rs_ret (re_c fun _ => .bl _)) rs_next)
    (rs_ret (re_and (re_cb rb_all (ra_cons (RN.re (rn_lc (by decide) (ri_tup re_v) (fun _ le => rg_name) (fun _ le => rt_yes) (fun _ le => (re_call (fun _ => .nil) (rc_dat re_v rc_nil))))) ra_nil)) (re_call (fun _ => .nil) (rc_dat re_v rc_nil)))))
theorem okD_is_amount {P : Program} {w : World} {K : PySem.W.Frag} {mg : Str → Option Value} {base : Heap} {ad : Ad} (T : Txt w K mg ad) : FnOk P w K mg base CX0 2 ad.f_is_amount ad.d_is_amount ["thing"] (spF K 1 F_is_amount) := by
  have G_is_whole := okD_is_whole (P := P) (w := w) (base := base) T
  refine okF0 T.F_is_amount sc_is_amount fun cdv A outer s H E hr => ⟨_, (pss_one (ps_ret (pe_call G_is_whole (hr.mono (by decide)) rfl T.g_is_whole T.F_is_whole.kp T.b_is_whole .nil pass0 (pa_cons (pv 0) (pa_cons pe_int (pa_cons (pe_globE rfl T.c_MOST_AMOUNT) pa_nil)))))), ?_⟩
  intro J
  exact (rs_ret (re_call (fun _ => .nil) (rc_dat re_v (rc_dat (re_c fun _ => .int _) (rc_dat (re_c fun _ => .int _) rc_nil)))))
theorem okD_is_heap {P : Program} {w : World} {K : PySem.W.Frag} {mg : Str → Option Value} {base : Heap} {ad : Ad} (T : Txt w K mg ad) : FnOk P w K mg base CX0 4 ad.f_is_heap ad.d_is_heap ["deed"] (spF K 1 F_is_heap) := by
  have G_are_numbers := okD_are_numbers (P := P) (w := w) (base := base) T
  have G_is_amount := okD_is_amount (P := P) (w := w) (base := base) T
  refine okF0 T.F_is_heap sc_is_heap fun cdv A outer s H E hr => ⟨_, (pss_one (ps_ret (pe_and (pe_call G_are_numbers (hr.mono (by decide)) rfl T.g_are_numbers T.F_are_numbers.kp T.b_are_numbers .nil pass0 (pa_cons (pe_ix ix_tup (pv 0) pe_int (fun _ _ => rfl)) pa_nil)) (pe_one (pe_call G_is_amount (hr.mono (by decide)) rfl T.g_is_amount T.F_is_amount.kp T.b_is_amount .nil pass0 (pa_cons (pe_ix ix_tup (pv 0) pe_int (fun _ _ => rfl)) pa_nil)))))), ?_⟩
  intro J
  exact (rs_ret (re_and (re_call (fun _ => .nil) (rc_dat (re_op rr_ixT re_v (re_c fun _ => .int _)) rc_nil)) (re_call (fun _ => .nil) (rc_dat (re_op rr_ixT re_v (re_c fun _ => .int _)) rc_nil))))
theorem okD_is_of_thing {P : Program} {w : World} {K : PySem.W.Frag} {mg : Str → Option Value} {base : Heap} {ad : Ad} (T : Txt w K mg ad) : FnOk P w K mg base CX0 3 ad.f_is_of_thing ad.d_is_of_thing ["deed"] (spF K 1 F_is_of_thing) := by
  have G_is_number := okD_is_number (P := P) (w := w) (base := base) T
  refine okF0 T.F_is_of_thing sc_is_of_thing fun cdv A outer s H E hr => ⟨_, (pss_one (ps_ret (pe_call G_is_number (hr.mono (by decide)) rfl T.g_is_number T.F_is_number.kp T.b_is_number .nil pass0 (pa_cons (pe_ix ix_tup (pv 0) pe_int (fun _ _ => rfl)) pa_nil)))), ?_⟩
  intro J
  exact (rs_ret (re_call (fun _ => .nil) (rc_dat (re_op rr_ixT re_v (re_c fun _ => .int _)) rc_nil)))
theorem okD_is_pay {P : Program} {w : World} {K : PySem.W.Frag} {mg : Str → Option Value} {base : Heap} {ad : Ad} (T : Txt w K mg ad) : FnOk P w K mg base CX0 2 ad.f_is_pay ad.d_is_pay ["deed"] (spF K 1 F_is_pay) := by
  have G_is_name := okD_is_name (P := P) (w := w) (base := base) T
  have G_is_whole := okD_is_whole (P := P) (w := w) (base := base) T
  refine okF0 T.F_is_pay sc_is_pay fun cdv A outer s H E hr => ⟨_, (pss_one (ps_ret (pe_and (pe_call G_is_name (hr.mono (by decide)) rfl T.g_is_name T.F_is_name.kp T.b_is_name .nil pass0 (pa_cons (pe_ix ix_tup (pv 0) pe_int (fun _ _ => rfl)) pa_nil)) (pe_one (pe_call G_is_whole (hr.mono (by decide)) rfl T.g_is_whole T.F_is_whole.kp T.b_is_whole .nil pass0 (pa_cons (pe_ix ix_tup (pv 0) pe_int (fun _ _ => rfl)) (pa_cons pe_int (pa_cons (pe_globE rfl T.c_MOST_AMOUNT) pa_nil)))))))), ?_⟩
  intro J
  exact (rs_ret (re_and (re_call (fun _ => .nil) (rc_dat (re_op rr_ixT re_v (re_c fun _ => .int _)) rc_nil)) (re_call (fun _ => .nil) (rc_dat (re_op rr_ixT re_v (re_c fun _ => .int _)) (rc_dat (re_c fun _ => .int _) (rc_dat (re_c fun _ => .int _) rc_nil))))))
theorem okD_is_sell {P : Program} {w : World} {K : PySem.W.Frag} {mg : Str → Option Value} {base : Heap} {ad : Ad} (T : Txt w K mg ad) : FnOk P w K mg base CX0 3 ad.f_is_sell ad.d_is_sell ["deed"] (spF K 1 F_is_sell) := by
  have G_is_number := okD_is_number (P := P) (w := w) (base := base) T
  have G_is_amount := okD_is_amount (P := P) (w := w) (base := base) T
  refine okF0 T.F_is_sell sc_is_sell fun cdv A outer s H E hr => ⟨_, (pss_one (ps_ret (pe_and (pe_call G_is_number (hr.mono (by decide)) rfl T.g_is_number T.F_is_number.kp T.b_is_number .nil pass0 (pa_cons (pe_ix ix_tup (pv 0) pe_int (fun _ _ => rfl)) pa_nil)) (pe_one (pe_or (pe_cmpR op_isN (pe_ix ix_tup (pv 0) pe_int (fun _ _ => rfl)) pe_non (nomark _)) (pe_one (pe_call G_is_amount (hr.mono (by decide)) rfl T.g_is_amount T.F_is_amount.kp T.b_is_amount .nil pass0 (pa_cons (pe_ix ix_tup (pv 0) pe_int (fun _ _ => rfl)) pa_nil)))))))), ?_⟩
  intro J
  exact (rs_ret (re_and (re_call (fun _ => .nil) (rc_dat (re_op rr_ixT re_v (re_c fun _ => .int _)) rc_nil)) (re_or (re_op rr_isN (re_op rr_ixT re_v (re_c fun _ => .int _)) (re_c fun _ => .non)) (re_call (fun _ => .nil) (rc_dat (re_op rr_ixT re_v (re_c fun _ => .int _)) rc_nil)))))
theorem okD_is_rule_pair {P : Program} {w : World} {K : PySem.W.Frag} {mg : Str → Option Value} {base : Heap} {ad : Ad} (T : Txt w K mg ad) : FnOk P w K mg base CX0 2 ad.f_is_rule_pair ad.d_is_rule_pair ["thing"] (spF K 1 F_is_rule_pair) := by
  have G_is_whole := okD_is_whole (P := P) (w := w) (base := base) T
  refine okF0 T.F_is_rule_pair sc_is_rule_pair fun cdv A outer s H E hr => ⟨_, (pss_cons (ps_if (PW.pt (pw_or (pt_not (pt_val (pe_callB call_isi (by rfl) T.n_isinstance (by decide +kernel) (pa_cons (pv 0) (pa_cons (pe_bltn (v := .ty "tuple") (by rfl) T.n_tuple (by decide +kernel) rfl) pa_nil))))) (pw_or1 (pt_cmpR op_ne (pe_callB call_len_seq (by rfl) T.n_len PySem.boot_len (pa_cons (pv 0) pa_nil)) pe_int (nomark _))))) (pss_one (ps_ret pe_bl)) pss_nil)
    (pss_one (ps_ret (pe_and (pe_call G_is_whole (hr.mono (by decide)) rfl T.g_is_whole T.F_is_whole.kp T.b_is_whole .nil pass0 (pa_cons (pe_ix ix_tup (pv 0) pe_int (fun _ _ => rfl)) (pa_cons pe_int (pa_cons (pe_globE rfl T.c_MOST_AGE) pa_nil)))) (pe_one (pe_call G_is_whole (hr.mono (by decide)) rfl T.g_is_whole T.F_is_whole.kp T.b_is_whole .nil pass0 (pa_cons (pe_ix ix_tup (pv 0) pe_int (fun _ _ => rfl)) (pa_cons pe_int (pa_cons (pe_globE rfl T.c_MOST_PART) pa_nil))))))))), ?_⟩
  intro J
  exact (rs_seq (rs_if (rt_or (rt_not (rt_b (re_isi re_v))) (rt_test (re_op rr_ne (re_cb rb_len (ra_cons re_v ra_nil)) (re_c fun _ => .int _)))) (rs_ret (re_c fun _ => .bl _)) rs_next)
    (rs_ret (re_and (re_call (fun _ => .nil) (rc_dat (re_op rr_ixT re_v (re_c fun _ => .int _)) (rc_dat (re_c fun _ => .int _) (rc_dat (re_c fun _ => .int _) rc_nil)))) (re_call (fun _ => .nil) (rc_dat (re_op rr_ixT re_v (re_c fun _ => .int _)) (rc_dat (re_c fun _ => .int _) (rc_dat (re_c fun _ => .int _) rc_nil)))))))
theorem okD_is_rule {P : Program} {w : World} {K : PySem.W.Frag} {mg : Str → Option Value} {base : Heap} {ad : Ad} (T : Txt w K mg ad) : FnOk P w K mg base CX0 3 ad.f_is_rule ad.d_is_rule ["thing"] (spF K 1 F_is_rule) := by
  have G_is_rule_pair := okD_is_rule_pair (P := P) (w := w) (base := base) T
  refine okF0 T.F_is_rule sc_is_rule fun cdv A outer s H E hr => ⟨_, (pss_cons (ps_if (PW.pt (pw_or (pt_not (pt_val (pe_callB call_isi (by rfl) T.n_isinstance (by decide +kernel) (pa_cons (pv 0) (pa_cons (pe_bltn (v := .ty "tuple") (by rfl) T.n_tuple (by decide +kernel) rfl) pa_nil))))) (pw_or (pt_cmpR op_gt (pe_callB call_len_seq (by rfl) T.n_len PySem.boot_len (pa_cons (pv 0) pa_nil)) (pe_globE rfl T.c_MOST_PAIRS) (nomark _)) (pw_or1 (pt_not (pt_val (pe_callB (cr_all rfl) (by rfl) T.n_all (by decide +kernel) (pa_cons (pe_lc (own := [("pair", 1)]) (g := gName 1) (by rfl) sc_is_rule.nd (pi_tup (pv 0)) (blkOk_by (own := [("pair", 1)]) (N := N_is_rule) (sc := defScope s_is_rule) (by decide +kernel)) (fun _ _ _ _ _ => (pg_name (i := 1) sc_is_rule.nd rfl (Or.inl rfl))) (fun _ _ _ _ _ => pts_nil) (fun _ _ _ _ _ => (pe_call G_is_rule_pair (hr.mono (by decide)) rfl T.g_is_rule_pair T.F_is_rule_pair.kp T.b_is_rule_pair .nil pass0 (pa_cons (pv 1) pa_nil)))) pa_nil)))))))) (pss_one (ps_ret pe_bl)) pss_nil)
    (pss_one (ps_ret (pe_callB (cr_all rfl) (by rfl) T.n_all (by decide +kernel) (pa_cons (pe_lc (own := [("one", 2), ("other", 3)]) (g := gTup K 2 (gCons (gName 2) (gCons (gName 3) gNil))) (by rfl) sc_is_rule.nd (RZ.pi_zipA (by rfl) T.n_zip (pa_cons (pv 0) (pa_cons (pe_slice sl_tupA (pv 0) (po_some pe_int) po_none) pa_nil))) (blkOk_by (own := [("one", 2), ("other", 3)]) (N := N_is_rule) (sc := defScope s_is_rule) (by decide +kernel)) (fun _ _ _ _ _ => (pg_tup (by rfl) (pgs_cons (pg_name (i := 2) sc_is_rule.nd rfl (Or.inl rfl)) (pgs_cons (pg_name (i := 3) sc_is_rule.nd rfl (Or.inl rfl)) pgs_nil)))) (fun _ _ _ _ _ => pts_nil) (fun _ _ _ _ _ => (pe_and (pe_cmpR op_lt (pe_ix (r := rIx K) ix_seq (pv 2) pe_int (fun _ _ => rfl)) (pe_ix (r := rIx K) ix_seq (pv 3) pe_int (fun _ _ => rfl)) (nomark _)) (pe_one (pe_cmpR op_gt (pe_ix (r := rIx K) ix_seq (pv 2) pe_int (fun _ _ => rfl)) (pe_ix (r := rIx K) ix_seq (pv 3) pe_int (fun _ _ => rfl)) (nomark _)))))) pa_nil))))), ?_⟩
  intro J
  exact (rs_seq (rs_if (rt_or (rt_not (rt_b (re_isi re_v))) (rt_or (rt_test (re_op rr_gt (re_cb rb_len (ra_cons re_v ra_nil)) (re_c fun _ => .int _))) (rt_not (rt_b (re_cb rb_all (ra_cons (RN.re (rn_lc (by decide) (ri_tup re_v) (fun _ le => rg_name) (fun _ le => rt_yes) (fun _ le => (re_call (fun _ => .nil) (rc_dat re_v rc_nil))))) ra_nil)))))) (rs_ret (re_c fun _ => .bl _)) rs_next)
    (rs_ret (re_cb rb_all (ra_cons (RN.re (rn_lc (by decide) (ri_zip (ra_cons re_v (ra_cons (re_sl rl_tupA re_v (ro_so (re_c fun _ => .int _)) ro_no) ra_nil))) (fun _ le => (rg_tup (rgs_cons rg_name (rgs_cons rg_name rgs_nil)))) (fun _ le => rt_yes) (fun _ le => (re_and (re_op rr_lt (re_op rr_ix re_v (re_c fun _ => .int _)) (re_op rr_ix re_v (re_c fun _ => .int _))) (re_op rr_gt (re_op rr_ix re_v (re_c fun _ => .int _)) (re_op rr_ix re_v (re_c fun _ => .int _))))))) ra_nil))))
theorem okD_is_told_rule {P : Program} {w : World} {K : PySem.W.Frag} {mg : Str → Option Value} {base : Heap} {ad : Ad} (T : Txt w K mg ad) : FnOk P w K mg base CX0 4 ad.f_is_told_rule ad.d_is_told_rule ["deed"] (spF K 1 F_is_told_rule) := by
  have G_is_rule := okD_is_rule (P := P) (w := w) (base := base) T
  refine okF0 T.F_is_told_rule sc_is_told_rule fun cdv A outer s H E hr => ⟨_, (pss_one (ps_ret (pe_call G_is_rule (hr.mono (by decide)) rfl T.g_is_rule T.F_is_rule.kp T.b_is_rule .nil pass0 (pa_cons (pe_ix ix_tup (pv 0) pe_int (fun _ _ => rfl)) pa_nil)))), ?_⟩
  intro J
  exact (rs_ret (re_call (fun _ => .nil) (rc_dat (re_op rr_ixT re_v (re_c fun _ => .int _)) rc_nil)))
theorem okD_is_told_share {P : Program} {w : World} {K : PySem.W.Frag} {mg : Str → Option Value} {base : Heap} {ad : Ad} (T : Txt w K mg ad) : FnOk P w K mg base CX0 2 ad.f_is_told_share ad.d_is_told_share ["deed"] (spF K 1 F_is_told_share) := by
  have G_is_whole := okD_is_whole (P := P) (w := w) (base := base) T
  refine okF0 T.F_is_told_share sc_is_told_share fun cdv A outer s H E hr => ⟨_, (pss_one (ps_ret (pe_call G_is_whole (hr.mono (by decide)) rfl T.g_is_whole T.F_is_whole.kp T.b_is_whole .nil pass0 (pa_cons (pe_ix ix_tup (pv 0) pe_int (fun _ _ => rfl)) (pa_cons pe_int (pa_cons (pe_globE rfl T.c_MOST_SHARE) pa_nil)))))), ?_⟩
  intro J
  exact (rs_ret (re_call (fun _ => .nil) (rc_dat (re_op rr_ixT re_v (re_c fun _ => .int _)) (rc_dat (re_c fun _ => .int _) (rc_dat (re_c fun _ => .int _) rc_nil)))))
theorem okD_is_deed {P : Program} {w : World} {K : PySem.W.Frag} {mg : Str → Option Value} {base : Heap} {ad : Ad} (T : Txt w K mg ad) : FnOk P w K mg base CX0 5 ad.f_is_deed ad.d_is_deed ["thing"] (spF K 1 F_is_deed) := by
  have G_is_give := okD_is_give (P := P) (w := w) (base := base) T
  have G_is_heap := okD_is_heap (P := P) (w := w) (base := base) T
  have G_is_of_thing := okD_is_of_thing (P := P) (w := w) (base := base) T
  have G_is_pay := okD_is_pay (P := P) (w := w) (base := base) T
  have G_is_sell := okD_is_sell (P := P) (w := w) (base := base) T
  have G_is_told_rule := okD_is_told_rule (P := P) (w := w) (base := base) T
  have G_is_told_share := okD_is_told_share (P := P) (w := w) (base := base) T
  refine okF0 T.F_is_deed sc_is_deed fun cdv A outer s H E hr => ⟨_, (pss_cons (ps_if (PW.pt (pw_or (pt_not (pt_val (pe_callB call_isi (by rfl) T.n_isinstance (by decide +kernel) (pa_cons (pv 0) (pa_cons (pe_bltn (v := .ty "tuple") (by rfl) T.n_tuple (by decide +kernel) rfl) pa_nil))))) (pw_or (pt_cmpR op_eq (pe_callB call_len_seq (by rfl) T.n_len PySem.boot_len (pa_cons (pv 0) pa_nil)) pe_int (nomark _)) (pw_or1 (pt_not (pt_val (pe_callB call_isi (by rfl) T.n_isinstance (by decide +kernel) (pa_cons (pe_ix ix_tup (pv 0) pe_int (fun _ _ => rfl)) (pa_cons (pe_bltn (v := .ty "str") (by rfl) T.n_str (by decide +kernel) rfl) pa_nil))))))))) (pss_one (ps_ret pe_bl)) pss_nil)
    (pss_cons (ps_if (PW.pt (pw_or (pt_cmpR (op_notIn_kt T.kt_DEED_SHAPES) (pe_ix ix_tup (pv 0) pe_int (fun _ _ => rfl)) (pe_glob (v := .ref ad.D_DEED_SHAPES) rfl T.g_DEED_SHAPES rfl) rfl) (pw_or1 (pt_cmpR op_ne (pe_callB call_len_seq (by rfl) T.n_len PySem.boot_len (pa_cons (pv 0) pa_nil)) (pe_kget2t T.kt_DEED_SIZES (pe_glob (v := .ref ad.D_DEED_SIZES) rfl T.g_DEED_SIZES rfl) (pe_ix ix_tup (pv 0) pe_int (fun _ _ => rfl)) pe_int ⟨by rfl, by rfl, by rfl, by rfl⟩) (nomark _))))) (pss_one (ps_ret pe_bl)) pss_nil)
    (pss_cons (ps_set (i := 1) sc_is_deed.nd rfl (Or.inl rfl) (pe_ix (r := rIxD K w) ix_kdict (pe_glob (v := .ref ad.D_DEED_SHAPES) rfl T.g_DEED_SHAPES rfl) (pe_ix ix_tup (pv 0) pe_int (fun _ _ => rfl)) (fun _ _ => rfl)))
    (pss_one (ps_ret (pe_callV0 (i := 1) (k := 4) (S := fun a sp => (a = ad.f_is_give ∧ sp = spF K 1 F_is_give) ∨ (a = ad.f_is_heap ∧ sp = spF K 1 F_is_heap) ∨ (a = ad.f_is_of_thing ∧ sp = spF K 1 F_is_of_thing) ∨ (a = ad.f_is_pay ∧ sp = spF K 1 F_is_pay) ∨ (a = ad.f_is_sell ∧ sp = spF K 1 F_is_sell) ∨ (a = ad.f_is_told_rule ∧ sp = spF K 1 F_is_told_rule) ∨ (a = ad.f_is_told_share ∧ sp = spF K 1 F_is_told_share)) (by rintro f sp (⟨rfl, rfl⟩ | ⟨rfl, rfl⟩ | ⟨rfl, rfl⟩ | ⟨rfl, rfl⟩ | ⟨rfl, rfl⟩ | ⟨rfl, rfl⟩ | ⟨rfl, rfl⟩) <;> first | exact ⟨⟨_, _, G_is_give.mono (by decide), T.F_is_give.kp, T.b_is_give⟩⟩ | exact ⟨⟨_, _, G_is_heap.mono (by decide), T.F_is_heap.kp, T.b_is_heap⟩⟩ | exact ⟨⟨_, _, G_is_of_thing.mono (by decide), T.F_is_of_thing.kp, T.b_is_of_thing⟩⟩ | exact ⟨⟨_, _, G_is_pay.mono (by decide), T.F_is_pay.kp, T.b_is_pay⟩⟩ | exact ⟨⟨_, _, G_is_sell.mono (by decide), T.F_is_sell.kp, T.b_is_sell⟩⟩ | exact ⟨⟨_, _, G_is_told_rule.mono (by decide), T.F_is_told_rule.kp, T.b_is_told_rule⟩⟩ | exact ⟨⟨_, _, G_is_told_share.mono (by decide), T.F_is_told_share.kp, T.b_is_told_share⟩⟩) (hr.mono (by decide)) rfl (by first | exact .inl rfl | exact .inr (.inl rfl)) pass0 (pa_cons (pv 0) pa_nil))))))), ?_⟩
  intro J
  exact (rs_seq (rs_if (rt_or (rt_not (rt_b (re_isi re_v))) (rt_or (rt_test (re_op rr_eq (re_cb rb_len (ra_cons re_v ra_nil)) (re_c fun _ => .int _))) (rt_not (rt_b (re_isi (re_op rr_ixT re_v (re_c fun _ => .int _))))))) (rs_ret (re_c fun _ => .bl _)) rs_next)
    (rs_seq (rs_if (rt_or (rt_test (re_knin T.kt_DEED_SHAPES (re_op rr_ixT re_v (re_c fun _ => .int _)))) (rt_test (re_op rr_ne (re_cb rb_len (ra_cons re_v ra_nil)) (re_kget2 T.kt_DEED_SIZES (re_op rr_ixT re_v (re_c fun _ => .int _)) (re_c fun _ => .int _))))) (rs_ret (re_c fun _ => .bl _)) rs_next)
    (rs_seq (rs_asg (re_kget T.kt_DEED_SHAPES (re_op rr_ixT re_v (re_c fun _ => .int _))) rg_name)
    (rs_ret (re_callV0 (S := fun a sp => (a = ad.f_is_give ∧ sp = spF K 1 F_is_give) ∨ (a = ad.f_is_heap ∧ sp = spF K 1 F_is_heap) ∨ (a = ad.f_is_of_thing ∧ sp = spF K 1 F_is_of_thing) ∨ (a = ad.f_is_pay ∧ sp = spF K 1 F_is_pay) ∨ (a = ad.f_is_sell ∧ sp = spF K 1 F_is_sell) ∨ (a = ad.f_is_told_rule ∧ sp = spF K 1 F_is_told_rule) ∨ (a = ad.f_is_told_share ∧ sp = spF K 1 F_is_told_share)) (heldF_cons (S := fun a sp => (a = ad.f_is_give ∧ sp = spF K 1 F_is_give) ∨ (a = ad.f_is_heap ∧ sp = spF K 1 F_is_heap) ∨ (a = ad.f_is_of_thing ∧ sp = spF K 1 F_is_of_thing) ∨ (a = ad.f_is_pay ∧ sp = spF K 1 F_is_pay) ∨ (a = ad.f_is_sell ∧ sp = spF K 1 F_is_sell) ∨ (a = ad.f_is_told_rule ∧ sp = spF K 1 F_is_told_rule) ∨ (a = ad.f_is_told_share ∧ sp = spF K 1 F_is_told_share)) T.q_is_give (.inl ⟨rfl, rfl⟩) (heldF_cons (S := fun a sp => (a = ad.f_is_give ∧ sp = spF K 1 F_is_give) ∨ (a = ad.f_is_heap ∧ sp = spF K 1 F_is_heap) ∨ (a = ad.f_is_of_thing ∧ sp = spF K 1 F_is_of_thing) ∨ (a = ad.f_is_pay ∧ sp = spF K 1 F_is_pay) ∨ (a = ad.f_is_sell ∧ sp = spF K 1 F_is_sell) ∨ (a = ad.f_is_told_rule ∧ sp = spF K 1 F_is_told_rule) ∨ (a = ad.f_is_told_share ∧ sp = spF K 1 F_is_told_share)) T.q_is_heap (.inr (.inl ⟨rfl, rfl⟩)) (heldF_cons (S := fun a sp => (a = ad.f_is_give ∧ sp = spF K 1 F_is_give) ∨ (a = ad.f_is_heap ∧ sp = spF K 1 F_is_heap) ∨ (a = ad.f_is_of_thing ∧ sp = spF K 1 F_is_of_thing) ∨ (a = ad.f_is_pay ∧ sp = spF K 1 F_is_pay) ∨ (a = ad.f_is_sell ∧ sp = spF K 1 F_is_sell) ∨ (a = ad.f_is_told_rule ∧ sp = spF K 1 F_is_told_rule) ∨ (a = ad.f_is_told_share ∧ sp = spF K 1 F_is_told_share)) T.q_is_of_thing (.inr (.inr (.inl ⟨rfl, rfl⟩))) (heldF_cons (S := fun a sp => (a = ad.f_is_give ∧ sp = spF K 1 F_is_give) ∨ (a = ad.f_is_heap ∧ sp = spF K 1 F_is_heap) ∨ (a = ad.f_is_of_thing ∧ sp = spF K 1 F_is_of_thing) ∨ (a = ad.f_is_pay ∧ sp = spF K 1 F_is_pay) ∨ (a = ad.f_is_sell ∧ sp = spF K 1 F_is_sell) ∨ (a = ad.f_is_told_rule ∧ sp = spF K 1 F_is_told_rule) ∨ (a = ad.f_is_told_share ∧ sp = spF K 1 F_is_told_share)) T.q_is_pay (.inr (.inr (.inr (.inl ⟨rfl, rfl⟩)))) (heldF_cons (S := fun a sp => (a = ad.f_is_give ∧ sp = spF K 1 F_is_give) ∨ (a = ad.f_is_heap ∧ sp = spF K 1 F_is_heap) ∨ (a = ad.f_is_of_thing ∧ sp = spF K 1 F_is_of_thing) ∨ (a = ad.f_is_pay ∧ sp = spF K 1 F_is_pay) ∨ (a = ad.f_is_sell ∧ sp = spF K 1 F_is_sell) ∨ (a = ad.f_is_told_rule ∧ sp = spF K 1 F_is_told_rule) ∨ (a = ad.f_is_told_share ∧ sp = spF K 1 F_is_told_share)) T.q_is_sell (.inr (.inr (.inr (.inr (.inl ⟨rfl, rfl⟩))))) (heldF_cons (S := fun a sp => (a = ad.f_is_give ∧ sp = spF K 1 F_is_give) ∨ (a = ad.f_is_heap ∧ sp = spF K 1 F_is_heap) ∨ (a = ad.f_is_of_thing ∧ sp = spF K 1 F_is_of_thing) ∨ (a = ad.f_is_pay ∧ sp = spF K 1 F_is_pay) ∨ (a = ad.f_is_sell ∧ sp = spF K 1 F_is_sell) ∨ (a = ad.f_is_told_rule ∧ sp = spF K 1 F_is_told_rule) ∨ (a = ad.f_is_told_share ∧ sp = spF K 1 F_is_told_share)) T.q_is_told_rule (.inr (.inr (.inr (.inr (.inr (.inl ⟨rfl, rfl⟩)))))) (heldF_cons (S := fun a sp => (a = ad.f_is_give ∧ sp = spF K 1 F_is_give) ∨ (a = ad.f_is_heap ∧ sp = spF K 1 F_is_heap) ∨ (a = ad.f_is_of_thing ∧ sp = spF K 1 F_is_of_thing) ∨ (a = ad.f_is_pay ∧ sp = spF K 1 F_is_pay) ∨ (a = ad.f_is_sell ∧ sp = spF K 1 F_is_sell) ∨ (a = ad.f_is_told_rule ∧ sp = spF K 1 F_is_told_rule) ∨ (a = ad.f_is_told_share ∧ sp = spF K 1 F_is_told_share)) T.q_is_told_share (.inr (.inr (.inr (.inr (.inr (.inr ⟨rfl, rfl⟩)))))) (fun _ _ _ _ hm => absurd hm List.not_mem_nil)))))))) (rc_dat re_v rc_nil))))))
theorem okD__law_is_whole {P : Program} {w : World} {K : PySem.W.Frag} {mg : Str → Option Value} {base : Heap} {ad : Ad} (T : Txt w K mg ad) : FnOk P w K mg base CX0 1 ad.f__law_is_whole ad.d__law_is_whole ["_law_thing", "_law_least", "_law_most"] (spF K 3 F__law_is_whole) := by
  refine okF0 T.F__law_is_whole sc__law_is_whole fun cdv A outer s H E hr => ⟨_, (pss_one (ps_ret (pe_and (pe_callB call_isi (by rfl) T.n_isinstance (by decide +kernel) (pa_cons (pv 0) (pa_cons (pe_bltn (v := .ty "int") (by rfl) T.n_int (by decide +kernel) rfl) pa_nil))) (pe_and (pe_not (pe_callB call_isi (by rfl) T.n_isinstance (by decide +kernel) (pa_cons (pv 0) (pa_cons (pe_bltn (v := .ty "bool") (by rfl) T.n_bool (by decide +kernel) rfl) pa_nil)))) (pe_one (pe_chain op_le op_le (pv 1) (pv 0) (pv 2))))))), ?_⟩
  intro J
  exact (rs_ret (re_and (re_isi re_v) (re_and (re_not (re_isi re_v)) (re_chain rr_le rr_le re_v re_v re_v))))
theorem okD__law_rise {P : Program} {w : World} {K : PySem.W.Frag} {mg : Str → Option Value} {base : Heap} {ad : Ad} (T : Txt w K mg ad) : FnOk P w K mg base CX0 1 ad.f__law_rise ad.d__law_rise ["_law_things"] (spF K 1 F__law_rise) := by
  refine okF0 T.F__law_rise sc__law_rise fun cdv A outer s H E hr => ⟨_, (pss_one (ps_ret (pe_callB (cr_all rfl) (by rfl) T.n_all (by decide +kernel) (pa_cons (pe_lc (own := [("_law_one", 1), ("_law_other", 2)]) (g := gTup K 2 (gCons (gName 1) (gCons (gName 2) gNil))) (by rfl) sc__law_rise.nd (ZM.pi_zipM (by rfl) T.n_zip (pa_cons (pv 0) (pa_cons (pe_slice sl_mix (pv 0) (po_some pe_int) po_none) pa_nil))) (blkOk_by (own := [("_law_one", 1), ("_law_other", 2)]) (N := N__law_rise) (sc := defScope s__law_rise) (by decide +kernel)) (fun _ _ _ _ _ => (pg_tup (by rfl) (pgs_cons (pg_name (i := 1) sc__law_rise.nd rfl (Or.inl rfl)) (pgs_cons (pg_name (i := 2) sc__law_rise.nd rfl (Or.inl rfl)) pgs_nil)))) (fun _ _ _ _ _ => pts_nil) (fun _ _ _ _ _ => (pe_cmpR op_ltM (pv 1) (pv 2) (nomark _)))) pa_nil)))), ?_⟩
  intro J
  exact (rs_ret (re_cb rb_all (ra_cons (RN.re (rn_lc (by decide) (ri_zipM (ra_cons re_v (ra_cons (re_sl rl_mix re_v (ro_so (re_c fun _ => .int _)) ro_no) ra_nil))) (fun _ le => (rg_tup (rgs_cons rg_name (rgs_cons rg_name rgs_nil)))) (fun _ le => rt_yes) (fun _ le => (re_op rr_ltM re_v re_v)))) ra_nil)))
theorem okD__law_is_name {P : Program} {w : World} {K : PySem.W.Frag} {mg : Str → Option Value} {base : Heap} {ad : Ad} (T : Txt w K mg ad) : FnOk P w K mg base CX0 1 ad.f__law_is_name ad.d__law_is_name ["_law_thing"] (spF K 1 F__law_is_name) := by
  refine okF0 T.F__law_is_name sc__law_is_name fun cdv A outer s H E hr => ⟨_, (pss_cons (ps_if (PW.pt (pw_or (pt_not (pt_val (pe_callB call_isi (by rfl) T.n_isinstance (by decide +kernel) (pa_cons (pv 0) (pa_cons (pe_bltn (v := .ty "str") (by rfl) T.n_str (by decide +kernel) rfl) pa_nil))))) (pw_or1 (pt_not (pt_chain op_lt op_lt pe_int (pe_callB call_len_str (by rfl) T.n_len PySem.boot_len (pa_cons (pv 0) pa_nil)) pe_int))))) (pss_one (ps_ret pe_bl)) pss_nil)
    (pss_one (ps_ret (pe_callB (cr_all rfl) (by rfl) T.n_all (by decide +kernel) (pa_cons (pe_lc (own := [("_law_sign", 1)]) (g := gName 1) (by rfl) sc__law_is_name.nd (pi_str (pv 0)) (blkOk_by (own := [("_law_sign", 1)]) (N := N__law_is_name) (sc := defScope s__law_is_name) (by decide +kernel)) (fun _ _ _ _ _ => (pg_name (i := 1) sc__law_is_name.nd rfl (Or.inl rfl))) (fun _ _ _ _ _ => pts_nil) (fun _ _ _ _ _ => (pe_cmpR op_in_sign (pv 1) pe_str rfl))) pa_nil))))), ?_⟩
  intro J
  exact (rs_seq (rs_if (rt_or (rt_not (rt_b (re_isi re_v))) (rt_not (rt_test (re_chain rr_lt rr_lt (re_c fun _ => .int _) (re_cb rb_len_str (ra_cons re_v ra_nil)) (re_c fun _ => .int _))))) (rs_ret (re_c fun _ => .bl _)) rs_next)
    (rs_ret (re_cb rb_all (ra_cons (RN.re (rn_lc (by decide) (ri_str re_v) (fun _ le => rg_name) (fun _ le => rt_yes) (fun _ le => (re_op rr_in_sign re_v (re_c fun _ => .str _))))) ra_nil))))
theorem okD__law_is_given {P : Program} {w : World} {K : PySem.W.Frag} {mg : Str → Option Value} {base : Heap} {ad : Ad} (T : Txt w K mg ad) : FnOk P w K mg base CX0 2 ad.f__law_is_given ad.d__law_is_given ["_law_rest"] (spF K 1 F__law_is_given) := by
  have G__law_rise := okD__law_rise (P := P) (w := w) (base := base) T
  have G__law_is_name := okD__law_is_name (P := P) (w := w) (base := base) T
  have G__law_is_whole := okD__law_is_whole (P := P) (w := w) (base := base) T
  refine okF0 T.F__law_is_given sc__law_is_given fun cdv A outer s H E hr => ⟨_, (pss_cons (ps_asg (pv 0) (pg_tup (by rfl) (pgs_cons (pg_name (i := 1) sc__law_is_given.nd rfl (Or.inl rfl)) (pgs_cons (pg_name (i := 2) sc__law_is_given.nd rfl (Or.inl rfl)) (pgs_cons (pg_name (i := 3) sc__law_is_given.nd rfl (Or.inl rfl)) (pgs_cons (pg_name (i := 4) sc__law_is_given.nd rfl (Or.inl rfl)) (pgs_cons (pg_name (i := 5) sc__law_is_given.nd rfl (Or.inl rfl)) pgs_nil)))))))
    (pss_cons (ps_if (PW.pt (pw_or (pt_not (pt_val (pe_call G__law_is_name (hr.mono (by decide)) rfl T.g__law_is_name T.F__law_is_name.kp T.b__law_is_name .nil pass0 (pa_cons (pv 1) pa_nil)))) (pw_or (pt_not (pt_val (pe_call G__law_is_whole (hr.mono (by decide)) rfl T.g__law_is_whole T.F__law_is_whole.kp T.b__law_is_whole .nil pass0 (pa_cons (pv 2) (pa_cons pe_int (pa_cons pe_int pa_nil)))))) (pw_or1 (pt_not (pt_val (pe_call G__law_is_whole (hr.mono (by decide)) rfl T.g__law_is_whole T.F__law_is_whole.kp T.b__law_is_whole .nil pass0 (pa_cons (pv 3) (pa_cons pe_int (pa_cons pe_int pa_nil)))))))))) (pss_one (ps_ret pe_bl)) pss_nil)
    (pss_cons (ps_if (PW.pt (pw_or (pt_not (pt_val (pe_call G__law_is_whole (hr.mono (by decide)) rfl T.g__law_is_whole T.F__law_is_whole.kp T.b__law_is_whole .nil pass0 (pa_cons (pv 4) (pa_cons pe_int (pa_cons (pv 3) pa_nil)))))) (pw_or (pt_not (pt_val (pe_callB call_isi (by rfl) T.n_isinstance (by decide +kernel) (pa_cons (pv 5) (pa_cons (pe_bltn (v := .ty "tuple") (by rfl) T.n_tuple (by decide +kernel) rfl) pa_nil))))) (pw_or1 (pt_cmpR op_gt (pe_callB call_len_seq (by rfl) T.n_len PySem.boot_len (pa_cons (pv 5) pa_nil)) pe_int (nomark _)))))) (pss_one (ps_ret pe_bl)) pss_nil)
    (pss_one (ps_ret (pe_and (pe_callB (cr_all rfl) (by rfl) T.n_all (by decide +kernel) (pa_cons (pe_lc (own := [("_law_word", 6)]) (g := gName 6) (by rfl) sc__law_is_given.nd (pi_any (pv 5)) (blkOk_by (own := [("_law_word", 6)]) (N := N__law_is_given) (sc := defScope s__law_is_given) (by decide +kernel)) (fun _ _ _ _ _ => (pg_name (i := 6) sc__law_is_given.nd rfl (Or.inl rfl))) (fun _ _ _ _ _ => pts_nil) (fun _ _ _ _ _ => (pe_call G__law_is_name (hr.mono (by decide)) rfl T.g__law_is_name T.F__law_is_name.kp T.b__law_is_name .nil pass0 (pa_cons (pv 6) pa_nil)))) pa_nil)) (pe_one (pe_call G__law_rise (hr.mono (by decide)) rfl T.g__law_rise T.F__law_rise.kp T.b__law_rise .nil pass0 (pa_cons (pv 5) pa_nil))))))))), ?_⟩
  intro J
  exact (rs_seq (rs_asg re_v (rg_tup (rgs_cons rg_name (rgs_cons rg_name (rgs_cons rg_name (rgs_cons rg_name (rgs_cons rg_name rgs_nil)))))))
    (rs_seq (rs_if (rt_or (rt_not (rt_b (re_call (fun _ => .nil) (rc_dat re_v rc_nil)))) (rt_or (rt_not (rt_b (re_call (fun _ => .nil) (rc_dat re_v (rc_dat (re_c fun _ => .int _) (rc_dat (re_c fun _ => .int _) rc_nil)))))) (rt_not (rt_b (re_call (fun _ => .nil) (rc_dat re_v (rc_dat (re_c fun _ => .int _) (rc_dat (re_c fun _ => .int _) rc_nil)))))))) (rs_ret (re_c fun _ => .bl _)) rs_next)
    (rs_seq (rs_if (rt_or (rt_not (rt_b (re_call (fun _ => .nil) (rc_dat re_v (rc_dat (re_c fun _ => .int _) (rc_dat re_v rc_nil)))))) (rt_or (rt_not (rt_b (re_isi re_v))) (rt_test (re_op rr_gt (re_cb rb_len (ra_cons re_v ra_nil)) (re_c fun _ => .int _))))) (rs_ret (re_c fun _ => .bl _)) rs_next)
    (rs_ret (re_and (re_cb rb_all (ra_cons (RN.re (rn_lc (by decide) (ri_any re_v) (fun _ le => rg_name) (fun _ le => rt_yes) (fun _ le => (re_call (fun _ => .nil) (rc_dat re_v rc_nil))))) ra_nil)) (re_call (fun _ => .nil) (rc_dat re_v rc_nil)))))))
theorem okD__law_is_heap {P : Program} {w : World} {K : PySem.W.Frag} {mg : Str → Option Value} {base : Heap} {ad : Ad} (T : Txt w K mg ad) : FnOk P w K mg base CX0 2 ad.f__law_is_heap ad.d__law_is_heap ["_law_rest"] (spF K 1 F__law_is_heap) := by
  have G__law_rise := okD__law_rise (P := P) (w := w) (base := base) T
  have G__law_is_whole := okD__law_is_whole (P := P) (w := w) (base := base) T
  refine okF0 T.F__law_is_heap sc__law_is_heap fun cdv A outer s H E hr => ⟨_, (pss_cons (ps_asg (pv 0) (pg_tup (by rfl) (pgs_cons (pg_name (i := 1) sc__law_is_heap.nd rfl (Or.inl rfl)) (pgs_cons (pg_name (i := 2) sc__law_is_heap.nd rfl (Or.inl rfl)) pgs_nil))))
    (pss_cons (ps_if (PW.pt (pw_or (pt_not (pt_val (pe_callB call_isi (by rfl) T.n_isinstance (by decide +kernel) (pa_cons (pv 1) (pa_cons (pe_bltn (v := .ty "tuple") (by rfl) T.n_tuple (by decide +kernel) rfl) pa_nil))))) (pw_or (pt_not (pt_chain op_le op_le pe_int (pe_callB call_len_seq (by rfl) T.n_len PySem.boot_len (pa_cons (pv 1) pa_nil)) pe_int)) (pw_or1 (pt_not (pt_val (pe_call G__law_is_whole (hr.mono (by decide)) rfl T.g__law_is_whole T.F__law_is_whole.kp T.b__law_is_whole .nil pass0 (pa_cons (pv 2) (pa_cons pe_int (pa_cons pe_int pa_nil)))))))))) (pss_one (ps_ret pe_bl)) pss_nil)
    (pss_one (ps_ret (pe_and (pe_callB (cr_all rfl) (by rfl) T.n_all (by decide +kernel) (pa_cons (pe_lc (own := [("_law_number", 3)]) (g := gName 3) (by rfl) sc__law_is_heap.nd (pi_any (pv 1)) (blkOk_by (own := [("_law_number", 3)]) (N := N__law_is_heap) (sc := defScope s__law_is_heap) (by decide +kernel)) (fun _ _ _ _ _ => (pg_name (i := 3) sc__law_is_heap.nd rfl (Or.inl rfl))) (fun _ _ _ _ _ => pts_nil) (fun _ _ _ _ _ => (pe_call G__law_is_whole (hr.mono (by decide)) rfl T.g__law_is_whole T.F__law_is_whole.kp T.b__law_is_whole .nil pass0 (pa_cons (pv 3) (pa_cons pe_int (pa_cons pe_int pa_nil)))))) pa_nil)) (pe_one (pe_call G__law_rise (hr.mono (by decide)) rfl T.g__law_rise T.F__law_rise.kp T.b__law_rise .nil pass0 (pa_cons (pv 1) pa_nil)))))))), ?_⟩
  intro J
  exact (rs_seq (rs_asg re_v (rg_tup (rgs_cons rg_name (rgs_cons rg_name rgs_nil))))
    (rs_seq (rs_if (rt_or (rt_not (rt_b (re_isi re_v))) (rt_or (rt_not (rt_test (re_chain rr_le rr_le (re_c fun _ => .int _) (re_cb rb_len (ra_cons re_v ra_nil)) (re_c fun _ => .int _)))) (rt_not (rt_b (re_call (fun _ => .nil) (rc_dat re_v (rc_dat (re_c fun _ => .int _) (rc_dat (re_c fun _ => .int _) rc_nil)))))))) (rs_ret (re_c fun _ => .bl _)) rs_next)
    (rs_ret (re_and (re_cb rb_all (ra_cons (RN.re (rn_lc (by decide) (ri_any re_v) (fun _ le => rg_name) (fun _ le => rt_yes) (fun _ le => (re_call (fun _ => .nil) (rc_dat re_v (rc_dat (re_c fun _ => .int _) (rc_dat (re_c fun _ => .int _) rc_nil))))))) ra_nil)) (re_call (fun _ => .nil) (rc_dat re_v rc_nil))))))
theorem okD__law_is_rule {P : Program} {w : World} {K : PySem.W.Frag} {mg : Str → Option Value} {base : Heap} {ad : Ad} (T : Txt w K mg ad) : FnOk P w K mg base CX0 2 ad.f__law_is_rule ad.d__law_is_rule ["_law_thing"] (spF K 1 F__law_is_rule) := by
  have G__law_rise := okD__law_rise (P := P) (w := w) (base := base) T
  have G__law_is_whole := okD__law_is_whole (P := P) (w := w) (base := base) T
  refine okF0 T.F__law_is_rule sc__law_is_rule fun cdv A outer s H E hr => ⟨_, (pss_cons (ps_if (PW.pt (pw_or (pt_not (pt_val (pe_callB call_isi (by rfl) T.n_isinstance (by decide +kernel) (pa_cons (pv 0) (pa_cons (pe_bltn (v := .ty "tuple") (by rfl) T.n_tuple (by decide +kernel) rfl) pa_nil))))) (pw_or1 (pt_cmpR op_gt (pe_callB call_len_seq (by rfl) T.n_len PySem.boot_len (pa_cons (pv 0) pa_nil)) pe_int (nomark _))))) (pss_one (ps_ret pe_bl)) pss_nil)
    (pss_cons (ps_for PassesOwn.never rfl (pi_tup (pv 0)) (pg_name (i := 1) sc__law_is_rule.nd rfl (Or.inl rfl)) (pss_cons (ps_if (PW.pt (pw_or (pt_not (pt_val (pe_callB call_isi (by rfl) T.n_isinstance (by decide +kernel) (pa_cons (pv 1) (pa_cons (pe_bltn (v := .ty "tuple") (by rfl) T.n_tuple (by decide +kernel) rfl) pa_nil))))) (pw_or1 (pt_cmpR op_ne (pe_callB call_len_seq (by rfl) T.n_len PySem.boot_len (pa_cons (pv 1) pa_nil)) pe_int (nomark _))))) (pss_one (ps_ret pe_bl)) pss_nil)
    (pss_one (ps_if (PW.pt (pw_or (pt_not (pt_val (pe_call G__law_is_whole (hr.mono (by decide)) rfl T.g__law_is_whole T.F__law_is_whole.kp T.b__law_is_whole .nil pass0 (pa_cons (pe_ix ix_seq (pv 1) pe_int (fun _ _ => rfl)) (pa_cons pe_int (pa_cons pe_int pa_nil)))))) (pw_or1 (pt_not (pt_val (pe_call G__law_is_whole (hr.mono (by decide)) rfl T.g__law_is_whole T.F__law_is_whole.kp T.b__law_is_whole .nil pass0 (pa_cons (pe_ix ix_seq (pv 1) pe_int (fun _ _ => rfl)) (pa_cons pe_int (pa_cons pe_int pa_nil))))))))) (pss_one (ps_ret pe_bl)) pss_nil))))
    (pss_one (ps_ret (pe_and (pe_call G__law_rise (hr.mono (by decide)) rfl T.g__law_rise T.F__law_rise.kp T.b__law_rise .nil pass0 (pa_cons (pe_lc (own := [("_law_pair", 1)]) (g := gName 1) (by rfl) sc__law_is_rule.nd (pi_tup (pv 0)) (blkOk_by (own := [("_law_pair", 1)]) (N := N__law_is_rule) (sc := defScope s__law_is_rule) (by decide +kernel)) (fun _ _ _ _ _ => (pg_name (i := 1) sc__law_is_rule.nd rfl (Or.inl rfl))) (fun _ _ _ _ _ => pts_nil) (fun _ _ _ _ _ => (pe_ix (r := rIx K) ix_seq (pv 1) pe_int (fun _ _ => rfl)))) pa_nil)) (pe_one (pe_call G__law_rise (hr.mono (by decide)) rfl T.g__law_rise T.F__law_rise.kp T.b__law_rise .nil pass0 (pa_cons (pe_lc (own := [("_law_pair", 1)]) (g := gName 1) (by rfl) sc__law_is_rule.nd (pi_tup (pe_revT (pv 0))) (blkOk_by (own := [("_law_pair", 1)]) (N := N__law_is_rule) (sc := defScope s__law_is_rule) (by decide +kernel)) (fun _ _ _ _ _ => (pg_name (i := 1) sc__law_is_rule.nd rfl (Or.inl rfl))) (fun _ _ _ _ _ => pts_nil) (fun _ _ _ _ _ => (pe_ix (r := rIx K) ix_seq (pv 1) pe_int (fun _ _ => rfl)))) pa_nil)))))))), ?_⟩
  intro J
  exact (rs_seq (rs_if (rt_or (rt_not (rt_b (re_isi re_v))) (rt_test (re_op rr_gt (re_cb rb_len (ra_cons re_v ra_nil)) (re_c fun _ => .int _)))) (rs_ret (re_c fun _ => .bl _)) rs_next)
    (rs_seq (rs_for (by decide) (ri_tup re_v) rg_name (rs_seq (rs_if (rt_or (rt_not (rt_b (re_isi re_v))) (rt_test (re_op rr_ne (re_cb rb_len (ra_cons re_v ra_nil)) (re_c fun _ => .int _)))) (rs_ret (re_c fun _ => .bl _)) rs_next)
    (rs_if (rt_or (rt_not (rt_b (re_call (fun _ => .nil) (rc_dat (re_op rr_ix re_v (re_c fun _ => .int _)) (rc_dat (re_c fun _ => .int _) (rc_dat (re_c fun _ => .int _) rc_nil)))))) (rt_not (rt_b (re_call (fun _ => .nil) (rc_dat (re_op rr_ix re_v (re_c fun _ => .int _)) (rc_dat (re_c fun _ => .int _) (rc_dat (re_c fun _ => .int _) rc_nil))))))) (rs_ret (re_c fun _ => .bl _)) rs_next)))
    (rs_ret (re_and (re_call (fun _ => .nil) (rc_dat (RN.re (rn_lc (by decide) (ri_tup re_v) (fun _ le => rg_name) (fun _ le => rt_yes) (fun _ le => (re_op rr_ix re_v (re_c fun _ => .int _))))) rc_nil)) (re_call (fun _ => .nil) (rc_dat (RN.re (rn_lc (by decide) (ri_tup (re_revT re_v)) (fun _ le => rg_name) (fun _ le => rt_yes) (fun _ le => (re_op rr_ix re_v (re_c fun _ => .int _))))) rc_nil))))))
theorem okD__law_due {P : Program} {w : World} {K : PySem.W.Frag} {mg : Str → Option Value} {base : Heap} {ad : Ad} (T : Txt w K mg ad) : FnOk P w K mg base CX0 3 ad.f__law_due ad.d__law_due ["_law_thing"] (spF K 1 F__law_due) := by
  have G__law_is_whole := okD__law_is_whole (P := P) (w := w) (base := base) T
  have G__law_is_given := okD__law_is_given (P := P) (w := w) (base := base) T
  have G__law_is_heap := okD__law_is_heap (P := P) (w := w) (base := base) T
  have G__law_is_name := okD__law_is_name (P := P) (w := w) (base := base) T
  have G__law_is_rule := okD__law_is_rule (P := P) (w := w) (base := base) T
  refine okF0 T.F__law_due sc__law_due fun cdv A outer s H E hr => ⟨_, (pss_cons (ps_if (PW.pt (pw_or (pt_not (pt_val (pe_callB call_isi (by rfl) T.n_isinstance (by decide +kernel) (pa_cons (pv 0) (pa_cons (pe_bltn (v := .ty "tuple") (by rfl) T.n_tuple (by decide +kernel) rfl) pa_nil))))) (pw_or (pt_cmpR (op_eqD hr.units) (pv 0) (pe_tup pa_nil) (nomark _)) (pw_or1 (pt_not (pt_val (pe_callB call_isi (by rfl) T.n_isinstance (by decide +kernel) (pa_cons (pe_ix ix_tup (pv 0) pe_int (fun _ _ => rfl)) (pa_cons (pe_bltn (v := .ty "str") (by rfl) T.n_str (by decide +kernel) rfl) pa_nil))))))))) (pss_one (ps_ret pe_bl)) pss_nil)
    (pss_cons (ps_par (i := 1) (j := 2) (by rfl) sc__law_due.nd rfl rfl (by decide) rfl rfl (pa_cons (pe_ix ix_tup (pv 0) pe_int (fun _ _ => rfl)) (pa_cons (pe_slice sl_tupA (pv 0) (po_some pe_int) po_none) pa_nil)) (by rfl))
    (pss_cons (ps_if (pt_cmpR op_eq (pv 1) pe_str (nomark _)) (pss_one (ps_ret (pe_and (pe_cmpR op_eq (pe_callB call_len_seq (by rfl) T.n_len PySem.boot_len (pa_cons (pv 2) pa_nil)) pe_int (nomark _)) (pe_one (pe_call G__law_is_given (hr.mono (by decide)) rfl T.g__law_is_given T.F__law_is_given.kp T.b__law_is_given .nil pass0 (pa_cons (pv 2) pa_nil)))))) pss_nil)
    (pss_cons (ps_if (pt_cmpR op_eq (pv 1) pe_str (nomark _)) (pss_one (ps_ret (pe_and (pe_cmpR op_eq (pe_callB call_len_seq (by rfl) T.n_len PySem.boot_len (pa_cons (pv 2) pa_nil)) pe_int (nomark _)) (pe_one (pe_call G__law_is_heap (hr.mono (by decide)) rfl T.g__law_is_heap T.F__law_is_heap.kp T.b__law_is_heap .nil pass0 (pa_cons (pv 2) pa_nil)))))) pss_nil)
    (pss_cons (ps_if (pt_cmpR op_eq (pv 1) pe_str (nomark _)) (pss_cons (ps_if (PW.pt (pw_or (pt_cmpR op_ne (pe_callB call_len_seq (by rfl) T.n_len PySem.boot_len (pa_cons (pv 2) pa_nil)) pe_int (nomark _)) (pw_or1 (pt_not (pt_val (pe_call G__law_is_whole (hr.mono (by decide)) rfl T.g__law_is_whole T.F__law_is_whole.kp T.b__law_is_whole .nil pass0 (pa_cons (pe_ix ix_tup (pv 2) pe_int (fun _ _ => rfl)) (pa_cons pe_int (pa_cons pe_int pa_nil))))))))) (pss_one (ps_ret pe_bl)) pss_nil)
    (pss_one (ps_ret (pe_or (pe_cmpR op_isN (pe_ix ix_tup (pv 2) pe_int (fun _ _ => rfl)) pe_non (nomark _)) (pe_one (pe_call G__law_is_whole (hr.mono (by decide)) rfl T.g__law_is_whole T.F__law_is_whole.kp T.b__law_is_whole .nil pass0 (pa_cons (pe_ix ix_tup (pv 2) pe_int (fun _ _ => rfl)) (pa_cons pe_int (pa_cons pe_int pa_nil))))))))) pss_nil)
    (pss_cons (ps_if (pt_cmpR op_eq (pv 1) pe_str (nomark _)) (pss_one (ps_ret (pe_and (pe_cmpR op_eq (pe_callB call_len_seq (by rfl) T.n_len PySem.boot_len (pa_cons (pv 2) pa_nil)) pe_int (nomark _)) (pe_and (pe_call G__law_is_name (hr.mono (by decide)) rfl T.g__law_is_name T.F__law_is_name.kp T.b__law_is_name .nil pass0 (pa_cons (pe_ix ix_tup (pv 2) pe_int (fun _ _ => rfl)) pa_nil)) (pe_one (pe_call G__law_is_whole (hr.mono (by decide)) rfl T.g__law_is_whole T.F__law_is_whole.kp T.b__law_is_whole .nil pass0 (pa_cons (pe_ix ix_tup (pv 2) pe_int (fun _ _ => rfl)) (pa_cons pe_int (pa_cons pe_int pa_nil))))))))) pss_nil)
    (pss_cons (ps_if (pt_cmpR op_eq (pv 1) pe_str (nomark _)) (pss_one (ps_ret (pe_and (pe_cmpR op_eq (pe_callB call_len_seq (by rfl) T.n_len PySem.boot_len (pa_cons (pv 2) pa_nil)) pe_int (nomark _)) (pe_one (pe_call G__law_is_rule (hr.mono (by decide)) rfl T.g__law_is_rule T.F__law_is_rule.kp T.b__law_is_rule .nil pass0 (pa_cons (pe_ix ix_tup (pv 2) pe_int (fun _ _ => rfl)) pa_nil)))))) pss_nil)
    (pss_cons (ps_if (pt_cmpR op_eq (pv 1) pe_str (nomark _)) (pss_one (ps_ret (pe_and (pe_cmpR op_eq (pe_callB call_len_seq (by rfl) T.n_len PySem.boot_len (pa_cons (pv 2) pa_nil)) pe_int (nomark _)) (pe_one (pe_call G__law_is_whole (hr.mono (by decide)) rfl T.g__law_is_whole T.F__law_is_whole.kp T.b__law_is_whole .nil pass0 (pa_cons (pe_ix ix_tup (pv 2) pe_int (fun _ _ => rfl)) (pa_cons pe_int (pa_cons pe_int pa_nil)))))))) pss_nil)
    (pss_cons (ps_set (i := 3) sc__law_due.nd rfl (Or.inl rfl) (pe_lst (pa_cons pe_str (pa_cons pe_str (pa_cons pe_str (pa_cons pe_str (pa_cons pe_str pa_nil)))))))
    (pss_one (ps_ret (pe_and (pe_cmpR op_in_seq (pv 1) (pv 3) rfl) (pe_and (pe_cmpR op_eq (pe_callB call_len_seq (by rfl) T.n_len PySem.boot_len (pa_cons (pv 2) pa_nil)) pe_int (nomark _)) (pe_one (pe_call G__law_is_whole (hr.mono (by decide)) rfl T.g__law_is_whole T.F__law_is_whole.kp T.b__law_is_whole .nil pass0 (pa_cons (pe_ix ix_tup (pv 2) pe_int (fun _ _ => rfl)) (pa_cons pe_int (pa_cons pe_int pa_nil)))))))))))))))))), ?_⟩
  intro J
  exact (rs_seq (rs_if (rt_or (rt_not (rt_b (re_isi re_v))) (rt_or (rt_test (re_op rr_eqD re_v (re_tup ra_nil))) (rt_not (rt_b (re_isi (re_op rr_ixT re_v (re_c fun _ => .int _))))))) (rs_ret (re_c fun _ => .bl _)) rs_next)
    (rs_seq (rs_par (ra_cons (re_op rr_ixT re_v (re_c fun _ => .int _)) (ra_cons (re_sl rl_tupA re_v (ro_so (re_c fun _ => .int _)) ro_no) ra_nil)))
    (rs_seq (rs_if (rt_test (re_op rr_eq re_v (re_c fun _ => .str _))) (rs_ret (re_and (re_op rr_eq (re_cb rb_len (ra_cons re_v ra_nil)) (re_c fun _ => .int _)) (re_call (fun _ => .nil) (rc_dat re_v rc_nil)))) rs_next)
    (rs_seq (rs_if (rt_test (re_op rr_eq re_v (re_c fun _ => .str _))) (rs_ret (re_and (re_op rr_eq (re_cb rb_len (ra_cons re_v ra_nil)) (re_c fun _ => .int _)) (re_call (fun _ => .nil) (rc_dat re_v rc_nil)))) rs_next)
    (rs_seq (rs_if (rt_test (re_op rr_eq re_v (re_c fun _ => .str _))) (rs_seq (rs_if (rt_or (rt_test (re_op rr_ne (re_cb rb_len (ra_cons re_v ra_nil)) (re_c fun _ => .int _))) (rt_not (rt_b (re_call (fun _ => .nil) (rc_dat (re_op rr_ixT re_v (re_c fun _ => .int _)) (rc_dat (re_c fun _ => .int _) (rc_dat (re_c fun _ => .int _) rc_nil))))))) (rs_ret (re_c fun _ => .bl _)) rs_next)
    (rs_ret (re_or (re_op rr_isN (re_op rr_ixT re_v (re_c fun _ => .int _)) (re_c fun _ => .non)) (re_call (fun _ => .nil) (rc_dat (re_op rr_ixT re_v (re_c fun _ => .int _)) (rc_dat (re_c fun _ => .int _) (rc_dat (re_c fun _ => .int _) rc_nil))))))) rs_next)
    (rs_seq (rs_if (rt_test (re_op rr_eq re_v (re_c fun _ => .str _))) (rs_ret (re_and (re_op rr_eq (re_cb rb_len (ra_cons re_v ra_nil)) (re_c fun _ => .int _)) (re_and (re_call (fun _ => .nil) (rc_dat (re_op rr_ixT re_v (re_c fun _ => .int _)) rc_nil)) (re_call (fun _ => .nil) (rc_dat (re_op rr_ixT re_v (re_c fun _ => .int _)) (rc_dat (re_c fun _ => .int _) (rc_dat (re_c fun _ => .int _) rc_nil))))))) rs_next)
    (rs_seq (rs_if (rt_test (re_op rr_eq re_v (re_c fun _ => .str _))) (rs_ret (re_and (re_op rr_eq (re_cb rb_len (ra_cons re_v ra_nil)) (re_c fun _ => .int _)) (re_call (fun _ => .nil) (rc_dat (re_op rr_ixT re_v (re_c fun _ => .int _)) rc_nil)))) rs_next)
    (rs_seq (rs_if (rt_test (re_op rr_eq re_v (re_c fun _ => .str _))) (rs_ret (re_and (re_op rr_eq (re_cb rb_len (ra_cons re_v ra_nil)) (re_c fun _ => .int _)) (re_call (fun _ => .nil) (rc_dat (re_op rr_ixT re_v (re_c fun _ => .int _)) (rc_dat (re_c fun _ => .int _) (rc_dat (re_c fun _ => .int _) rc_nil)))))) rs_next)
    (rs_seq (rs_asg (RN.re (rn_lst (ra_cons (re_c fun _ => .str _) (ra_cons (re_c fun _ => .str _) (ra_cons (re_c fun _ => .str _) (ra_cons (re_c fun _ => .str _) (ra_cons (re_c fun _ => .str _) ra_nil))))))) rg_name)
    (rs_ret (re_and (re_op rr_in re_v re_v) (re_and (re_op rr_eq (re_cb rb_len (ra_cons re_v ra_nil)) (re_c fun _ => .int _)) (re_call (fun _ => .nil) (rc_dat (re_op rr_ixT re_v (re_c fun _ => .int _)) (rc_dat (re_c fun _ => .int _) (rc_dat (re_c fun _ => .int _) rc_nil))))))))))))))))
theorem okD_law {P : Program} {w : World} {K : PySem.W.Frag} {mg : Str → Option Value} {base : Heap} {ad : Ad} (T : Txt w K mg ad) : FnG P w K mg base 6 ad.f_law ad.d_law ["_law_script"] (spS K 1 F_law) := by
  have G__law_folded := okD__law_folded (P := P) (w := w) (base := base) T
  have G__law_box := okD__law_box (P := P) (w := w) (base := base) T
  have G__law_rights := okD__law_rights (P := P) (w := w) (base := base) T
  have G__law_bent := okD__law_bent (P := P) (w := w) (base := base) T
  have G_is_deed := okD_is_deed (P := P) (w := w) (base := base) T
  have G__law_due := okD__law_due (P := P) (w := w) (base := base) T
  refine okS T.F_law sc_law fun cdv A outer s H E hr hg => ⟨_, (pss_cons (ps_set (i := 1) sc_law.nd rfl (Or.inl rfl) (pe_call G__law_folded (hr.mono (by decide)) rfl T.g__law_folded T.F__law_folded.kp T.b__law_folded .nil pass0 (pa_cons (pv 0) (pa_cons pe_int pa_nil))))
    (pss_cons (ps_for PassesOwn.never rfl (pi_range1 rfl T.n_range (pa_cons (pe_callB (call_max2 rfl) (by rfl) T.n_max (by decide +kernel) (pa_cons pe_int (pa_cons (pe_callB call_len_seq (by rfl) T.n_len PySem.boot_len (pa_cons (pv 1) pa_nil)) pa_nil))) pa_nil)) (pg_name (i := 2) sc_law.nd rfl (Or.inl rfl)) (pss_cons (ps_set (i := 3) sc_law.nd rfl (Or.inl rfl) (pe_call G__law_box (hr.mono (by decide)) rfl T.g__law_box T.F__law_box.kp T.b__law_box .nil pass0 (pa_cons (pv 1) (pa_cons (pv 2) pa_nil))))
    (pss_cons (ps_for PassesOwn.never rfl (pi_list (pe_call G__law_rights (hr.mono (by decide)) rfl T.g__law_rights T.F__law_rights.kp T.b__law_rights .nil pass0 (pa_cons (pv 3) pa_nil))) (pg_name (i := 4) sc_law.nd rfl (Or.inl rfl)) (pss_cons (ps_if (PW.pt (pw_or (pt_cmpR op_notB (pe_call G_is_deed (hr.mono (by decide)) rfl T.g_is_deed T.F_is_deed.kp T.b_is_deed .nil pass0 (pa_cons (pv 4) pa_nil)) pe_bl (nomark _)) (pw_or1 (pt_not (pt_val (pe_call G__law_due (hr.mono (by decide)) rfl T.g__law_due T.F__law_due.kp T.b__law_due .nil pass0 (pa_cons (pv 4) pa_nil))))))) (pss_one (ps_ret pe_bl)) pss_nil)
    (pss_one (ps_for PassesOwn.never rfl (pi_range1 rfl T.n_range (pa_cons pe_int pa_nil)) (pg_name (i := 5) sc_law.nd rfl (Or.inl rfl)) (pss_cons (ps_set (i := 6) sc_law.nd rfl (Or.inl rfl) (pe_call G__law_bent (hr.mono (by decide)) rfl T.g__law_bent T.F__law_bent.kp T.b__law_bent .nil pass0 (pa_cons (pv 3) (pa_cons (pv 4) pa_nil))))
    (pss_cons (ps_par (i := 7) (j := 8) (by rfl) sc_law.nd rfl rfl (by decide) rfl rfl (pa_cons (pe_callB (call_reprD hg hr.units) (by rfl) T.n_repr (by decide +kernel) (pa_cons (pv 6) pa_nil)) (pa_cons (pe_call G_is_deed (hr.mono (by decide)) rfl T.g_is_deed T.F_is_deed.kp T.b_is_deed .nil pass0 (pa_cons (pv 6) pa_nil)) pa_nil)) (by rfl))
    (pss_one (ps_if (PW.pt (pw_or (pt_not (pt_val (pe_callB call_isi (by rfl) T.n_isinstance (by decide +kernel) (pa_cons (pv 8) (pa_cons (pe_bltn (v := .ty "bool") (by rfl) T.n_bool (by decide +kernel) rfl) pa_nil))))) (pw_or (pt_cmpR op_ne (pv 8) (pe_call G__law_due (hr.mono (by decide)) rfl T.g__law_due T.F__law_due.kp T.b__law_due .nil pass0 (pa_cons (pv 6) pa_nil)) (nomark _)) (pw_or1 (pt_cmpR op_ne (pe_callB (call_reprD hg hr.units) (by rfl) T.n_repr (by decide +kernel) (pa_cons (pv 6) pa_nil)) (pv 7) (nomark _)))))) (pss_one (ps_ret pe_bl)) pss_nil))))))))
    (pss_cons (ps_set (i := 9) sc_law.nd rfl (Or.inl rfl) (pe_tup (pa_cons pe_non (pa_cons pe_bl (pa_cons pe_int (pa_cons pe_str (pa_cons (pe_tup pa_nil) (pa_cons (pe_lst pa_nil) (pa_cons (pe_tup (pa_cons pe_str pa_nil)) (pa_cons (pe_tup (pa_cons pe_str (pa_cons pe_int (pa_cons pe_int pa_nil)))) (pa_cons (pe_tup (pa_cons (pe_tup pa_nil) pa_nil)) pa_nil)))))))))))
    (pss_one (ps_if (pt_val (pe_callB (cr_any rfl) (by rfl) T.n_any (by decide +kernel) (pa_cons (pe_lc (own := [("_law_thing", 6)]) (g := gName 6) (by rfl) sc_law.nd (pi_tup (pv 9)) (blkOk_by (own := [("_law_thing", 6)]) (N := N_law) (sc := defScope s_law) (by decide +kernel)) (fun _ _ _ _ _ => (pg_name (i := 6) sc_law.nd rfl (Or.inl rfl))) (fun _ _ _ _ _ => pts_nil) (fun _ _ _ _ _ => (pe_cmpR op_notB (pe_call G_is_deed (hr.mono (by decide)) rfl T.g_is_deed T.F_is_deed.kp T.b_is_deed .nil pass0 (pa_cons (pv 6) pa_nil)) pe_bl (nomark _)))) pa_nil))) (pss_one (ps_ret pe_bl)) pss_nil))))))
    (pss_one (ps_ret pe_bl)))), ?_⟩
  intro J
  exact (rs_seq (rs_asg (re_call (fun _ => .nil) (rc_dat re_v (rc_dat (re_c fun _ => .int _) rc_nil))) rg_name)
    (rs_seq (rs_for (by decide) (ri_rng1 (ra_cons (re_cb rb_max2 (ra_cons (re_c fun _ => .int _) (ra_cons (re_cb rb_len (ra_cons re_v ra_nil)) ra_nil))) ra_nil)) rg_name (rs_seq (rs_own (by decide) (rn_call (fun _ => .nil) (rc_dat re_v (rc_dat re_v rc_nil))))
    (rs_seq (rs_for (by decide) (ri_list (re_callS (fun _ => .nil) (rc_own rc_nil))) rg_name (rs_seq (rs_if (rt_or (rt_test (re_op rr_notB (re_call (fun _ => .nil) (rc_dat re_v rc_nil)) (re_c fun _ => .bl _))) (rt_not (rt_b (re_call (fun _ => .nil) (rc_dat re_v rc_nil))))) (rs_ret (re_c fun _ => .bl _)) rs_next)
    (rs_for (by decide) (ri_rng1 (ra_cons (re_c fun _ => .int _) ra_nil)) rg_name (rs_seq (rs_asg (re_call (fun _ => .nil) (rc_own (rc_dat re_v rc_nil))) rg_name)
    (rs_seq (rs_par (ra_cons (re_cb rb_repr (ra_cons re_v ra_nil)) (ra_cons (re_call (fun _ => .nil) (rc_dat re_v rc_nil)) ra_nil)))
    (rs_if (rt_or (rt_not (rt_b (re_isi re_v))) (rt_or (rt_test (re_op rr_ne re_v (re_call (fun _ => .nil) (rc_dat re_v rc_nil)))) (rt_test (re_op rr_ne (re_cb rb_repr (ra_cons re_v ra_nil)) re_v)))) (rs_ret (re_c fun _ => .bl _)) rs_next))))))
    (rs_seq (rs_asg (re_tup (ra_cons (re_c fun _ => .non) (ra_cons (re_c fun _ => .bl _) (ra_cons (re_c fun _ => .int _) (ra_cons (re_c fun _ => .str _) (ra_cons (re_tup ra_nil) (ra_cons (RN.re (rn_lst ra_nil)) (ra_cons (re_tup (ra_cons (re_c fun _ => .str _) ra_nil)) (ra_cons (re_tup (ra_cons (re_c fun _ => .str _) (ra_cons (re_c fun _ => .int _) (ra_cons (re_c fun _ => .int _) ra_nil)))) (ra_cons (re_tup (ra_cons (re_tup ra_nil) ra_nil)) ra_nil)))))))))) rg_name)
    (rs_if (rt_b (re_cb rb_any (ra_cons (RN.re (rn_lc (by decide) (ri_tup re_v) (fun _ le => rg_name) (fun _ le => rt_yes) (fun _ le => (re_op rr_notB (re_call (fun _ => .nil) (rc_dat re_v rc_nil)) (re_c fun _ => .bl _))))) ra_nil))) (rs_ret (re_c fun _ => .bl _)) rs_next)))))
    (rs_ret (re_c fun _ => .bl _))))
abbrev sp_law (K : PySem.W.Frag) : Sp := spLaw K
theorem ok_law {P : Program} {w : World} {K : PySem.W.Frag} {mg : Str → Option Value} {base : Heap} {ad : Ad} (T : Txt w K mg ad) : FnG P w K mg base 6 ad.f_law ad.d_law ["_law_script"] (sp_law K) :=
  (okD_law T).imp fun _ _ _ _ h => law_ofS (fun ns hl => f_law hl) h

theorem all_mk {l : PySem.W.OpenLaw} {w : World} {K : PySem.W.Frag} {h : Heap} {mg : Str → Option Value} {fa : Addr} (X : K.In h) (G : h.Ns mainGlobals mg) (hfa : mg "law" = some (.ref fa))
    {f__law_folded : Addr} {od__law_folded an__law_folded : Option Addr} {sl__law_folded : Array (Option Value)} {oc__law_folded kV__law_folded dc__law_folded pm__law_folded cd__law_folded ct__law_folded : Value}
    {f__law_box : Addr} {od__law_box an__law_box : Option Addr} {sl__law_box : Array (Option Value)} {oc__law_box kV__law_box dc__law_box pm__law_box cd__law_box ct__law_box : Value}
    {f__law_take : Addr} {od__law_take an__law_take : Option Addr} {sl__law_take : Array (Option Value)} {oc__law_take kV__law_take dc__law_take pm__law_take cd__law_take ct__law_take : Value}
    {f__law_names : Addr} {od__law_names an__law_names : Option Addr} {sl__law_names : Array (Option Value)} {oc__law_names kV__law_names dc__law_names pm__law_names cd__law_names ct__law_names : Value}
    {f__law_numbers : Addr} {od__law_numbers an__law_numbers : Option Addr} {sl__law_numbers : Array (Option Value)} {oc__law_numbers kV__law_numbers dc__law_numbers pm__law_numbers cd__law_numbers ct__law_numbers : Value}
    {f__law_world : Addr} {od__law_world an__law_world : Option Addr} {sl__law_world : Array (Option Value)} {oc__law_world kV__law_world dc__law_world pm__law_world cd__law_world ct__law_world : Value}
    {f__law_price : Addr} {od__law_price an__law_price : Option Addr} {sl__law_price : Array (Option Value)} {oc__law_price kV__law_price dc__law_price pm__law_price cd__law_price ct__law_price : Value}
    {f__law_some_words : Addr} {od__law_some_words an__law_some_words : Option Addr} {sl__law_some_words : Array (Option Value)} {oc__law_some_words kV__law_some_words dc__law_some_words pm__law_some_words cd__law_some_words ct__law_some_words : Value}
    {f__law_give : Addr} {od__law_give an__law_give : Option Addr} {sl__law_give : Array (Option Value)} {oc__law_give kV__law_give dc__law_give pm__law_give cd__law_give ct__law_give : Value}
    {f__law_heap : Addr} {od__law_heap an__law_heap : Option Addr} {sl__law_heap : Array (Option Value)} {oc__law_heap kV__law_heap dc__law_heap pm__law_heap cd__law_heap ct__law_heap : Value}
    {f__law_rule : Addr} {od__law_rule an__law_rule : Option Addr} {sl__law_rule : Array (Option Value)} {oc__law_rule kV__law_rule dc__law_rule pm__law_rule cd__law_rule ct__law_rule : Value}
    {f__law_rights : Addr} {od__law_rights an__law_rights : Option Addr} {sl__law_rights : Array (Option Value)} {oc__law_rights kV__law_rights dc__law_rights pm__law_rights cd__law_rights ct__law_rights : Value}
    {f__law_odds : Addr} {od__law_odds an__law_odds : Option Addr} {sl__law_odds : Array (Option Value)} {oc__law_odds kV__law_odds dc__law_odds pm__law_odds cd__law_odds ct__law_odds : Value}
    {f__law_bent : Addr} {od__law_bent an__law_bent : Option Addr} {sl__law_bent : Array (Option Value)} {oc__law_bent kV__law_bent dc__law_bent pm__law_bent cd__law_bent ct__law_bent : Value}
    {f_is_whole : Addr} {od_is_whole an_is_whole : Option Addr} {sl_is_whole : Array (Option Value)} {oc_is_whole kV_is_whole dc_is_whole pm_is_whole cd_is_whole ct_is_whole : Value}
    {f_are_rising : Addr} {od_are_rising an_are_rising : Option Addr} {sl_are_rising : Array (Option Value)} {oc_are_rising kV_are_rising dc_are_rising pm_are_rising cd_are_rising ct_are_rising : Value}
    {f_is_name : Addr} {od_is_name an_is_name : Option Addr} {sl_is_name : Array (Option Value)} {oc_is_name kV_is_name dc_is_name pm_is_name cd_is_name ct_is_name : Value}
    {f_are_words : Addr} {od_are_words an_are_words : Option Addr} {sl_are_words : Array (Option Value)} {oc_are_words kV_are_words dc_are_words pm_are_words cd_are_words ct_are_words : Value}
    {f_is_number : Addr} {od_is_number an_is_number : Option Addr} {sl_is_number : Array (Option Value)} {oc_is_number kV_is_number dc_is_number pm_is_number cd_is_number ct_is_number : Value}
    {f_is_give : Addr} {od_is_give an_is_give : Option Addr} {sl_is_give : Array (Option Value)} {oc_is_give kV_is_give dc_is_give pm_is_give cd_is_give ct_is_give : Value}
    {f_are_numbers : Addr} {od_are_numbers an_are_numbers : Option Addr} {sl_are_numbers : Array (Option Value)} {oc_are_numbers kV_are_numbers dc_are_numbers pm_are_numbers cd_are_numbers ct_are_numbers : Value}
    {f_is_amount : Addr} {od_is_amount an_is_amount : Option Addr} {sl_is_amount : Array (Option Value)} {oc_is_amount kV_is_amount dc_is_amount pm_is_amount cd_is_amount ct_is_amount : Value}
    {f_is_heap : Addr} {od_is_heap an_is_heap : Option Addr} {sl_is_heap : Array (Option Value)} {oc_is_heap kV_is_heap dc_is_heap pm_is_heap cd_is_heap ct_is_heap : Value}
    {f_is_of_thing : Addr} {od_is_of_thing an_is_of_thing : Option Addr} {sl_is_of_thing : Array (Option Value)} {oc_is_of_thing kV_is_of_thing dc_is_of_thing pm_is_of_thing cd_is_of_thing ct_is_of_thing : Value}
    {f_is_pay : Addr} {od_is_pay an_is_pay : Option Addr} {sl_is_pay : Array (Option Value)} {oc_is_pay kV_is_pay dc_is_pay pm_is_pay cd_is_pay ct_is_pay : Value}
    {f_is_sell : Addr} {od_is_sell an_is_sell : Option Addr} {sl_is_sell : Array (Option Value)} {oc_is_sell kV_is_sell dc_is_sell pm_is_sell cd_is_sell ct_is_sell : Value}
    {f_is_rule_pair : Addr} {od_is_rule_pair an_is_rule_pair : Option Addr} {sl_is_rule_pair : Array (Option Value)} {oc_is_rule_pair kV_is_rule_pair dc_is_rule_pair pm_is_rule_pair cd_is_rule_pair ct_is_rule_pair : Value}
    {f_is_rule : Addr} {od_is_rule an_is_rule : Option Addr} {sl_is_rule : Array (Option Value)} {oc_is_rule kV_is_rule dc_is_rule pm_is_rule cd_is_rule ct_is_rule : Value}
    {f_is_told_rule : Addr} {od_is_told_rule an_is_told_rule : Option Addr} {sl_is_told_rule : Array (Option Value)} {oc_is_told_rule kV_is_told_rule dc_is_told_rule pm_is_told_rule cd_is_told_rule ct_is_told_rule : Value}
    {f_is_told_share : Addr} {od_is_told_share an_is_told_share : Option Addr} {sl_is_told_share : Array (Option Value)} {oc_is_told_share kV_is_told_share dc_is_told_share pm_is_told_share cd_is_told_share ct_is_told_share : Value}
    {f_is_deed : Addr} {od_is_deed an_is_deed : Option Addr} {sl_is_deed : Array (Option Value)} {oc_is_deed kV_is_deed dc_is_deed pm_is_deed cd_is_deed ct_is_deed : Value}
    {f__law_is_whole : Addr} {od__law_is_whole an__law_is_whole : Option Addr} {sl__law_is_whole : Array (Option Value)} {oc__law_is_whole kV__law_is_whole dc__law_is_whole pm__law_is_whole cd__law_is_whole ct__law_is_whole : Value}
    {f__law_rise : Addr} {od__law_rise an__law_rise : Option Addr} {sl__law_rise : Array (Option Value)} {oc__law_rise kV__law_rise dc__law_rise pm__law_rise cd__law_rise ct__law_rise : Value}
    {f__law_is_name : Addr} {od__law_is_name an__law_is_name : Option Addr} {sl__law_is_name : Array (Option Value)} {oc__law_is_name kV__law_is_name dc__law_is_name pm__law_is_name cd__law_is_name ct__law_is_name : Value}
    {f__law_is_given : Addr} {od__law_is_given an__law_is_given : Option Addr} {sl__law_is_given : Array (Option Value)} {oc__law_is_given kV__law_is_given dc__law_is_given pm__law_is_given cd__law_is_given ct__law_is_given : Value}
    {f__law_is_heap : Addr} {od__law_is_heap an__law_is_heap : Option Addr} {sl__law_is_heap : Array (Option Value)} {oc__law_is_heap kV__law_is_heap dc__law_is_heap pm__law_is_heap cd__law_is_heap ct__law_is_heap : Value}
    {f__law_is_rule : Addr} {od__law_is_rule an__law_is_rule : Option Addr} {sl__law_is_rule : Array (Option Value)} {oc__law_is_rule kV__law_is_rule dc__law_is_rule pm__law_is_rule cd__law_is_rule ct__law_is_rule : Value}
    {f__law_due : Addr} {od__law_due an__law_due : Option Addr} {sl__law_due : Array (Option Value)} {oc__law_due kV__law_due dc__law_due pm__law_due cd__law_due ct__law_due : Value}
    {f_law : Addr} {od_law an_law : Option Addr} {sl_law : Array (Option Value)} {oc_law kV_law dc_law pm_law cd_law ct_law : Value}
    {t_SMALL_SIGNS : Tok}
    {t_MOST_SIGNS : Tok}
    {t_MOST_NUMBER : Tok}
    {t_MOST_PRICE : Tok}
    {t_MOST_PAIRS : Tok}
    {t_MOST_AGE : Tok}
    {t_MOST_PART : Tok}
    {t_MOST_AMOUNT : Tok}
    {t_MOST_SHARE : Tok}
    {t_MOST_WORDS : Tok}
    {t_LEAST_HEAP : Tok}
    {t_MOST_HEAP : Tok}
    {D_DEED_SHAPES : Addr} {n_DEED_SHAPES : Nat}
    {h_DEED_SHAPES_0 : Int} {t_DEED_SHAPES_0 : Tok}
    {h_DEED_SHAPES_1 : Int} {t_DEED_SHAPES_1 : Tok}
    {h_DEED_SHAPES_2 : Int} {t_DEED_SHAPES_2 : Tok}
    {h_DEED_SHAPES_3 : Int} {t_DEED_SHAPES_3 : Tok}
    {h_DEED_SHAPES_4 : Int} {t_DEED_SHAPES_4 : Tok}
    {h_DEED_SHAPES_5 : Int} {t_DEED_SHAPES_5 : Tok}
    {h_DEED_SHAPES_6 : Int} {t_DEED_SHAPES_6 : Tok}
    {h_DEED_SHAPES_7 : Int} {t_DEED_SHAPES_7 : Tok}
    {h_DEED_SHAPES_8 : Int} {t_DEED_SHAPES_8 : Tok}
    {h_DEED_SHAPES_9 : Int} {t_DEED_SHAPES_9 : Tok}
    {h_DEED_SHAPES_10 : Int} {t_DEED_SHAPES_10 : Tok}
    {D_DEED_SIZES : Addr} {n_DEED_SIZES : Nat}
    {h_DEED_SIZES_0 : Int} {t_DEED_SIZES_0 : Tok}
    {u_DEED_SIZES_0 : Tok}
    {h_DEED_SIZES_1 : Int} {t_DEED_SIZES_1 : Tok}
    {u_DEED_SIZES_1 : Tok}
    {h_DEED_SIZES_2 : Int} {t_DEED_SIZES_2 : Tok}
    {u_DEED_SIZES_2 : Tok}
    {h_DEED_SIZES_3 : Int} {t_DEED_SIZES_3 : Tok}
    {u_DEED_SIZES_3 : Tok}
    (a__law_folded : PySem.W.nsIn K mainGlobals "_law_folded" = some (some (.ref f__law_folded)))
    (l__law_folded : K.lookup f__law_folded = some ⟨oc__law_folded, od__law_folded, .func (PySem.W.fnOf "_law_folded" "_law_folded" (defArgs s__law_folded) (defBody s__law_folded) (defScope s__law_folded) .none kV__law_folded dc__law_folded pm__law_folded an__law_folded cd__law_folded ct__law_folded), sl__law_folded⟩)
    (e__law_folded : PySem.W.codeIn K cd__law_folded "_law_folded" = true)
    (k__law_folded : PySem.W.keepIn K (.ref f__law_folded) = true)
    (a__law_box : PySem.W.nsIn K mainGlobals "_law_box" = some (some (.ref f__law_box)))
    (l__law_box : K.lookup f__law_box = some ⟨oc__law_box, od__law_box, .func (PySem.W.fnOf "_law_box" "_law_box" (defArgs s__law_box) (defBody s__law_box) (defScope s__law_box) .none kV__law_box dc__law_box pm__law_box an__law_box cd__law_box ct__law_box), sl__law_box⟩)
    (e__law_box : PySem.W.codeIn K cd__law_box "_law_box" = true)
    (k__law_box : PySem.W.keepIn K (.ref f__law_box) = true)
    (a__law_take : PySem.W.nsIn K mainGlobals "_law_take" = some (some (.ref f__law_take)))
    (l__law_take : K.lookup f__law_take = some ⟨oc__law_take, od__law_take, .func (PySem.W.fnOf "_law_take" "_law_take" (defArgs s__law_take) (defBody s__law_take) (defScope s__law_take) .none kV__law_take dc__law_take pm__law_take an__law_take cd__law_take ct__law_take), sl__law_take⟩)
    (e__law_take : PySem.W.codeIn K cd__law_take "_law_take" = true)
    (k__law_take : PySem.W.keepIn K (.ref f__law_take) = true)
    (a__law_names : PySem.W.nsIn K mainGlobals "_law_names" = some (some (.ref f__law_names)))
    (l__law_names : K.lookup f__law_names = some ⟨oc__law_names, od__law_names, .func (PySem.W.fnOf "_law_names" "_law_names" (defArgs s__law_names) (defBody s__law_names) (defScope s__law_names) .none kV__law_names dc__law_names pm__law_names an__law_names cd__law_names ct__law_names), sl__law_names⟩)
    (e__law_names : PySem.W.codeIn K cd__law_names "_law_names" = true)
    (k__law_names : PySem.W.keepIn K (.ref f__law_names) = true)
    (a__law_numbers : PySem.W.nsIn K mainGlobals "_law_numbers" = some (some (.ref f__law_numbers)))
    (l__law_numbers : K.lookup f__law_numbers = some ⟨oc__law_numbers, od__law_numbers, .func (PySem.W.fnOf "_law_numbers" "_law_numbers" (defArgs s__law_numbers) (defBody s__law_numbers) (defScope s__law_numbers) .none kV__law_numbers dc__law_numbers pm__law_numbers an__law_numbers cd__law_numbers ct__law_numbers), sl__law_numbers⟩)
    (e__law_numbers : PySem.W.codeIn K cd__law_numbers "_law_numbers" = true)
    (k__law_numbers : PySem.W.keepIn K (.ref f__law_numbers) = true)
    (a__law_world : PySem.W.nsIn K mainGlobals "_law_world" = some (some (.ref f__law_world)))
    (l__law_world : K.lookup f__law_world = some ⟨oc__law_world, od__law_world, .func (PySem.W.fnOf "_law_world" "_law_world" (defArgs s__law_world) (defBody s__law_world) (defScope s__law_world) .none kV__law_world dc__law_world pm__law_world an__law_world cd__law_world ct__law_world), sl__law_world⟩)
    (e__law_world : PySem.W.codeIn K cd__law_world "_law_world" = true)
    (k__law_world : PySem.W.keepIn K (.ref f__law_world) = true)
    (a__law_price : PySem.W.nsIn K mainGlobals "_law_price" = some (some (.ref f__law_price)))
    (l__law_price : K.lookup f__law_price = some ⟨oc__law_price, od__law_price, .func (PySem.W.fnOf "_law_price" "_law_price" (defArgs s__law_price) (defBody s__law_price) (defScope s__law_price) .none kV__law_price dc__law_price pm__law_price an__law_price cd__law_price ct__law_price), sl__law_price⟩)
    (e__law_price : PySem.W.codeIn K cd__law_price "_law_price" = true)
    (k__law_price : PySem.W.keepIn K (.ref f__law_price) = true)
    (a__law_some_words : PySem.W.nsIn K mainGlobals "_law_some_words" = some (some (.ref f__law_some_words)))
    (l__law_some_words : K.lookup f__law_some_words = some ⟨oc__law_some_words, od__law_some_words, .func (PySem.W.fnOf "_law_some_words" "_law_some_words" (defArgs s__law_some_words) (defBody s__law_some_words) (defScope s__law_some_words) .none kV__law_some_words dc__law_some_words pm__law_some_words an__law_some_words cd__law_some_words ct__law_some_words), sl__law_some_words⟩)
    (e__law_some_words : PySem.W.codeIn K cd__law_some_words "_law_some_words" = true)
    (k__law_some_words : PySem.W.keepIn K (.ref f__law_some_words) = true)
    (a__law_give : PySem.W.nsIn K mainGlobals "_law_give" = some (some (.ref f__law_give)))
    (l__law_give : K.lookup f__law_give = some ⟨oc__law_give, od__law_give, .func (PySem.W.fnOf "_law_give" "_law_give" (defArgs s__law_give) (defBody s__law_give) (defScope s__law_give) .none kV__law_give dc__law_give pm__law_give an__law_give cd__law_give ct__law_give), sl__law_give⟩)
    (e__law_give : PySem.W.codeIn K cd__law_give "_law_give" = true)
    (k__law_give : PySem.W.keepIn K (.ref f__law_give) = true)
    (a__law_heap : PySem.W.nsIn K mainGlobals "_law_heap" = some (some (.ref f__law_heap)))
    (l__law_heap : K.lookup f__law_heap = some ⟨oc__law_heap, od__law_heap, .func (PySem.W.fnOf "_law_heap" "_law_heap" (defArgs s__law_heap) (defBody s__law_heap) (defScope s__law_heap) .none kV__law_heap dc__law_heap pm__law_heap an__law_heap cd__law_heap ct__law_heap), sl__law_heap⟩)
    (e__law_heap : PySem.W.codeIn K cd__law_heap "_law_heap" = true)
    (k__law_heap : PySem.W.keepIn K (.ref f__law_heap) = true)
    (a__law_rule : PySem.W.nsIn K mainGlobals "_law_rule" = some (some (.ref f__law_rule)))
    (l__law_rule : K.lookup f__law_rule = some ⟨oc__law_rule, od__law_rule, .func (PySem.W.fnOf "_law_rule" "_law_rule" (defArgs s__law_rule) (defBody s__law_rule) (defScope s__law_rule) .none kV__law_rule dc__law_rule pm__law_rule an__law_rule cd__law_rule ct__law_rule), sl__law_rule⟩)
    (e__law_rule : PySem.W.codeIn K cd__law_rule "_law_rule" = true)
    (k__law_rule : PySem.W.keepIn K (.ref f__law_rule) = true)
    (a__law_rights : PySem.W.nsIn K mainGlobals "_law_rights" = some (some (.ref f__law_rights)))
    (l__law_rights : K.lookup f__law_rights = some ⟨oc__law_rights, od__law_rights, .func (PySem.W.fnOf "_law_rights" "_law_rights" (defArgs s__law_rights) (defBody s__law_rights) (defScope s__law_rights) .none kV__law_rights dc__law_rights pm__law_rights an__law_rights cd__law_rights ct__law_rights), sl__law_rights⟩)
    (e__law_rights : PySem.W.codeIn K cd__law_rights "_law_rights" = true)
    (k__law_rights : PySem.W.keepIn K (.ref f__law_rights) = true)
    (a__law_odds : PySem.W.nsIn K mainGlobals "_law_odds" = some (some (.ref f__law_odds)))
    (l__law_odds : K.lookup f__law_odds = some ⟨oc__law_odds, od__law_odds, .func (PySem.W.fnOf "_law_odds" "_law_odds" (defArgs s__law_odds) (defBody s__law_odds) (defScope s__law_odds) .none kV__law_odds dc__law_odds pm__law_odds an__law_odds cd__law_odds ct__law_odds), sl__law_odds⟩)
    (e__law_odds : PySem.W.codeIn K cd__law_odds "_law_odds" = true)
    (k__law_odds : PySem.W.keepIn K (.ref f__law_odds) = true)
    (a__law_bent : PySem.W.nsIn K mainGlobals "_law_bent" = some (some (.ref f__law_bent)))
    (l__law_bent : K.lookup f__law_bent = some ⟨oc__law_bent, od__law_bent, .func (PySem.W.fnOf "_law_bent" "_law_bent" (defArgs s__law_bent) (defBody s__law_bent) (defScope s__law_bent) .none kV__law_bent dc__law_bent pm__law_bent an__law_bent cd__law_bent ct__law_bent), sl__law_bent⟩)
    (e__law_bent : PySem.W.codeIn K cd__law_bent "_law_bent" = true)
    (k__law_bent : PySem.W.keepIn K (.ref f__law_bent) = true)
    (a_is_whole : PySem.W.nsIn K mainGlobals "is_whole" = some (some (.ref f_is_whole)))
    (l_is_whole : K.lookup f_is_whole = some ⟨oc_is_whole, od_is_whole, .func (PySem.W.fnOf "is_whole" "is_whole" (defArgs s_is_whole) (defBody s_is_whole) (defScope s_is_whole) .none kV_is_whole dc_is_whole pm_is_whole an_is_whole cd_is_whole ct_is_whole), sl_is_whole⟩)
    (e_is_whole : PySem.W.codeIn K cd_is_whole "is_whole" = true)
    (k_is_whole : PySem.W.keepIn K (.ref f_is_whole) = true)
    (a_are_rising : PySem.W.nsIn K mainGlobals "are_rising" = some (some (.ref f_are_rising)))
    (l_are_rising : K.lookup f_are_rising = some ⟨oc_are_rising, od_are_rising, .func (PySem.W.fnOf "are_rising" "are_rising" (defArgs s_are_rising) (defBody s_are_rising) (defScope s_are_rising) .none kV_are_rising dc_are_rising pm_are_rising an_are_rising cd_are_rising ct_are_rising), sl_are_rising⟩)
    (e_are_rising : PySem.W.codeIn K cd_are_rising "are_rising" = true)
    (k_are_rising : PySem.W.keepIn K (.ref f_are_rising) = true)
    (a_is_name : PySem.W.nsIn K mainGlobals "is_name" = some (some (.ref f_is_name)))
    (l_is_name : K.lookup f_is_name = some ⟨oc_is_name, od_is_name, .func (PySem.W.fnOf "is_name" "is_name" (defArgs s_is_name) (defBody s_is_name) (defScope s_is_name) .none kV_is_name dc_is_name pm_is_name an_is_name cd_is_name ct_is_name), sl_is_name⟩)
    (e_is_name : PySem.W.codeIn K cd_is_name "is_name" = true)
    (k_is_name : PySem.W.keepIn K (.ref f_is_name) = true)
    (a_are_words : PySem.W.nsIn K mainGlobals "are_words" = some (some (.ref f_are_words)))
    (l_are_words : K.lookup f_are_words = some ⟨oc_are_words, od_are_words, .func (PySem.W.fnOf "are_words" "are_words" (defArgs s_are_words) (defBody s_are_words) (defScope s_are_words) .none kV_are_words dc_are_words pm_are_words an_are_words cd_are_words ct_are_words), sl_are_words⟩)
    (e_are_words : PySem.W.codeIn K cd_are_words "are_words" = true)
    (k_are_words : PySem.W.keepIn K (.ref f_are_words) = true)
    (a_is_number : PySem.W.nsIn K mainGlobals "is_number" = some (some (.ref f_is_number)))
    (l_is_number : K.lookup f_is_number = some ⟨oc_is_number, od_is_number, .func (PySem.W.fnOf "is_number" "is_number" (defArgs s_is_number) (defBody s_is_number) (defScope s_is_number) .none kV_is_number dc_is_number pm_is_number an_is_number cd_is_number ct_is_number), sl_is_number⟩)
    (e_is_number : PySem.W.codeIn K cd_is_number "is_number" = true)
    (k_is_number : PySem.W.keepIn K (.ref f_is_number) = true)
    (a_is_give : PySem.W.nsIn K mainGlobals "is_give" = some (some (.ref f_is_give)))
    (l_is_give : K.lookup f_is_give = some ⟨oc_is_give, od_is_give, .func (PySem.W.fnOf "is_give" "is_give" (defArgs s_is_give) (defBody s_is_give) (defScope s_is_give) .none kV_is_give dc_is_give pm_is_give an_is_give cd_is_give ct_is_give), sl_is_give⟩)
    (e_is_give : PySem.W.codeIn K cd_is_give "is_give" = true)
    (k_is_give : PySem.W.keepIn K (.ref f_is_give) = true)
    (a_are_numbers : PySem.W.nsIn K mainGlobals "are_numbers" = some (some (.ref f_are_numbers)))
    (l_are_numbers : K.lookup f_are_numbers = some ⟨oc_are_numbers, od_are_numbers, .func (PySem.W.fnOf "are_numbers" "are_numbers" (defArgs s_are_numbers) (defBody s_are_numbers) (defScope s_are_numbers) .none kV_are_numbers dc_are_numbers pm_are_numbers an_are_numbers cd_are_numbers ct_are_numbers), sl_are_numbers⟩)
    (e_are_numbers : PySem.W.codeIn K cd_are_numbers "are_numbers" = true)
    (k_are_numbers : PySem.W.keepIn K (.ref f_are_numbers) = true)
    (a_is_amount : PySem.W.nsIn K mainGlobals "is_amount" = some (some (.ref f_is_amount)))
    (l_is_amount : K.lookup f_is_amount = some ⟨oc_is_amount, od_is_amount, .func (PySem.W.fnOf "is_amount" "is_amount" (defArgs s_is_amount) (defBody s_is_amount) (defScope s_is_amount) .none kV_is_amount dc_is_amount pm_is_amount an_is_amount cd_is_amount ct_is_amount), sl_is_amount⟩)
    (e_is_amount : PySem.W.codeIn K cd_is_amount "is_amount" = true)
    (k_is_amount : PySem.W.keepIn K (.ref f_is_amount) = true)
    (a_is_heap : PySem.W.nsIn K mainGlobals "is_heap" = some (some (.ref f_is_heap)))
    (l_is_heap : K.lookup f_is_heap = some ⟨oc_is_heap, od_is_heap, .func (PySem.W.fnOf "is_heap" "is_heap" (defArgs s_is_heap) (defBody s_is_heap) (defScope s_is_heap) .none kV_is_heap dc_is_heap pm_is_heap an_is_heap cd_is_heap ct_is_heap), sl_is_heap⟩)
    (e_is_heap : PySem.W.codeIn K cd_is_heap "is_heap" = true)
    (k_is_heap : PySem.W.keepIn K (.ref f_is_heap) = true)
    (a_is_of_thing : PySem.W.nsIn K mainGlobals "is_of_thing" = some (some (.ref f_is_of_thing)))
    (l_is_of_thing : K.lookup f_is_of_thing = some ⟨oc_is_of_thing, od_is_of_thing, .func (PySem.W.fnOf "is_of_thing" "is_of_thing" (defArgs s_is_of_thing) (defBody s_is_of_thing) (defScope s_is_of_thing) .none kV_is_of_thing dc_is_of_thing pm_is_of_thing an_is_of_thing cd_is_of_thing ct_is_of_thing), sl_is_of_thing⟩)
    (e_is_of_thing : PySem.W.codeIn K cd_is_of_thing "is_of_thing" = true)
    (k_is_of_thing : PySem.W.keepIn K (.ref f_is_of_thing) = true)
    (a_is_pay : PySem.W.nsIn K mainGlobals "is_pay" = some (some (.ref f_is_pay)))
    (l_is_pay : K.lookup f_is_pay = some ⟨oc_is_pay, od_is_pay, .func (PySem.W.fnOf "is_pay" "is_pay" (defArgs s_is_pay) (defBody s_is_pay) (defScope s_is_pay) .none kV_is_pay dc_is_pay pm_is_pay an_is_pay cd_is_pay ct_is_pay), sl_is_pay⟩)
    (e_is_pay : PySem.W.codeIn K cd_is_pay "is_pay" = true)
    (k_is_pay : PySem.W.keepIn K (.ref f_is_pay) = true)
    (a_is_sell : PySem.W.nsIn K mainGlobals "is_sell" = some (some (.ref f_is_sell)))
    (l_is_sell : K.lookup f_is_sell = some ⟨oc_is_sell, od_is_sell, .func (PySem.W.fnOf "is_sell" "is_sell" (defArgs s_is_sell) (defBody s_is_sell) (defScope s_is_sell) .none kV_is_sell dc_is_sell pm_is_sell an_is_sell cd_is_sell ct_is_sell), sl_is_sell⟩)
    (e_is_sell : PySem.W.codeIn K cd_is_sell "is_sell" = true)
    (k_is_sell : PySem.W.keepIn K (.ref f_is_sell) = true)
    (a_is_rule_pair : PySem.W.nsIn K mainGlobals "is_rule_pair" = some (some (.ref f_is_rule_pair)))
    (l_is_rule_pair : K.lookup f_is_rule_pair = some ⟨oc_is_rule_pair, od_is_rule_pair, .func (PySem.W.fnOf "is_rule_pair" "is_rule_pair" (defArgs s_is_rule_pair) (defBody s_is_rule_pair) (defScope s_is_rule_pair) .none kV_is_rule_pair dc_is_rule_pair pm_is_rule_pair an_is_rule_pair cd_is_rule_pair ct_is_rule_pair), sl_is_rule_pair⟩)
    (e_is_rule_pair : PySem.W.codeIn K cd_is_rule_pair "is_rule_pair" = true)
    (k_is_rule_pair : PySem.W.keepIn K (.ref f_is_rule_pair) = true)
    (a_is_rule : PySem.W.nsIn K mainGlobals "is_rule" = some (some (.ref f_is_rule)))
    (l_is_rule : K.lookup f_is_rule = some ⟨oc_is_rule, od_is_rule, .func (PySem.W.fnOf "is_rule" "is_rule" (defArgs s_is_rule) (defBody s_is_rule) (defScope s_is_rule) .none kV_is_rule dc_is_rule pm_is_rule an_is_rule cd_is_rule ct_is_rule), sl_is_rule⟩)
    (e_is_rule : PySem.W.codeIn K cd_is_rule "is_rule" = true)
    (k_is_rule : PySem.W.keepIn K (.ref f_is_rule) = true)
    (a_is_told_rule : PySem.W.nsIn K mainGlobals "is_told_rule" = some (some (.ref f_is_told_rule)))
    (l_is_told_rule : K.lookup f_is_told_rule = some ⟨oc_is_told_rule, od_is_told_rule, .func (PySem.W.fnOf "is_told_rule" "is_told_rule" (defArgs s_is_told_rule) (defBody s_is_told_rule) (defScope s_is_told_rule) .none kV_is_told_rule dc_is_told_rule pm_is_told_rule an_is_told_rule cd_is_told_rule ct_is_told_rule), sl_is_told_rule⟩)
    (e_is_told_rule : PySem.W.codeIn K cd_is_told_rule "is_told_rule" = true)
    (k_is_told_rule : PySem.W.keepIn K (.ref f_is_told_rule) = true)
    (a_is_told_share : PySem.W.nsIn K mainGlobals "is_told_share" = some (some (.ref f_is_told_share)))
    (l_is_told_share : K.lookup f_is_told_share = some ⟨oc_is_told_share, od_is_told_share, .func (PySem.W.fnOf "is_told_share" "is_told_share" (defArgs s_is_told_share) (defBody s_is_told_share) (defScope s_is_told_share) .none kV_is_told_share dc_is_told_share pm_is_told_share an_is_told_share cd_is_told_share ct_is_told_share), sl_is_told_share⟩)
    (e_is_told_share : PySem.W.codeIn K cd_is_told_share "is_told_share" = true)
    (k_is_told_share : PySem.W.keepIn K (.ref f_is_told_share) = true)
    (a_is_deed : PySem.W.nsIn K mainGlobals "is_deed" = some (some (.ref f_is_deed)))
    (l_is_deed : K.lookup f_is_deed = some ⟨oc_is_deed, od_is_deed, .func (PySem.W.fnOf "is_deed" "is_deed" (defArgs s_is_deed) (defBody s_is_deed) (defScope s_is_deed) .none kV_is_deed dc_is_deed pm_is_deed an_is_deed cd_is_deed ct_is_deed), sl_is_deed⟩)
    (e_is_deed : PySem.W.codeIn K cd_is_deed "is_deed" = true)
    (k_is_deed : PySem.W.keepIn K (.ref f_is_deed) = true)
    (a__law_is_whole : PySem.W.nsIn K mainGlobals "_law_is_whole" = some (some (.ref f__law_is_whole)))
    (l__law_is_whole : K.lookup f__law_is_whole = some ⟨oc__law_is_whole, od__law_is_whole, .func (PySem.W.fnOf "_law_is_whole" "_law_is_whole" (defArgs s__law_is_whole) (defBody s__law_is_whole) (defScope s__law_is_whole) .none kV__law_is_whole dc__law_is_whole pm__law_is_whole an__law_is_whole cd__law_is_whole ct__law_is_whole), sl__law_is_whole⟩)
    (e__law_is_whole : PySem.W.codeIn K cd__law_is_whole "_law_is_whole" = true)
    (k__law_is_whole : PySem.W.keepIn K (.ref f__law_is_whole) = true)
    (a__law_rise : PySem.W.nsIn K mainGlobals "_law_rise" = some (some (.ref f__law_rise)))
    (l__law_rise : K.lookup f__law_rise = some ⟨oc__law_rise, od__law_rise, .func (PySem.W.fnOf "_law_rise" "_law_rise" (defArgs s__law_rise) (defBody s__law_rise) (defScope s__law_rise) .none kV__law_rise dc__law_rise pm__law_rise an__law_rise cd__law_rise ct__law_rise), sl__law_rise⟩)
    (e__law_rise : PySem.W.codeIn K cd__law_rise "_law_rise" = true)
    (k__law_rise : PySem.W.keepIn K (.ref f__law_rise) = true)
    (a__law_is_name : PySem.W.nsIn K mainGlobals "_law_is_name" = some (some (.ref f__law_is_name)))
    (l__law_is_name : K.lookup f__law_is_name = some ⟨oc__law_is_name, od__law_is_name, .func (PySem.W.fnOf "_law_is_name" "_law_is_name" (defArgs s__law_is_name) (defBody s__law_is_name) (defScope s__law_is_name) .none kV__law_is_name dc__law_is_name pm__law_is_name an__law_is_name cd__law_is_name ct__law_is_name), sl__law_is_name⟩)
    (e__law_is_name : PySem.W.codeIn K cd__law_is_name "_law_is_name" = true)
    (k__law_is_name : PySem.W.keepIn K (.ref f__law_is_name) = true)
    (a__law_is_given : PySem.W.nsIn K mainGlobals "_law_is_given" = some (some (.ref f__law_is_given)))
    (l__law_is_given : K.lookup f__law_is_given = some ⟨oc__law_is_given, od__law_is_given, .func (PySem.W.fnOf "_law_is_given" "_law_is_given" (defArgs s__law_is_given) (defBody s__law_is_given) (defScope s__law_is_given) .none kV__law_is_given dc__law_is_given pm__law_is_given an__law_is_given cd__law_is_given ct__law_is_given), sl__law_is_given⟩)
    (e__law_is_given : PySem.W.codeIn K cd__law_is_given "_law_is_given" = true)
    (k__law_is_given : PySem.W.keepIn K (.ref f__law_is_given) = true)
    (a__law_is_heap : PySem.W.nsIn K mainGlobals "_law_is_heap" = some (some (.ref f__law_is_heap)))
    (l__law_is_heap : K.lookup f__law_is_heap = some ⟨oc__law_is_heap, od__law_is_heap, .func (PySem.W.fnOf "_law_is_heap" "_law_is_heap" (defArgs s__law_is_heap) (defBody s__law_is_heap) (defScope s__law_is_heap) .none kV__law_is_heap dc__law_is_heap pm__law_is_heap an__law_is_heap cd__law_is_heap ct__law_is_heap), sl__law_is_heap⟩)
    (e__law_is_heap : PySem.W.codeIn K cd__law_is_heap "_law_is_heap" = true)
    (k__law_is_heap : PySem.W.keepIn K (.ref f__law_is_heap) = true)
    (a__law_is_rule : PySem.W.nsIn K mainGlobals "_law_is_rule" = some (some (.ref f__law_is_rule)))
    (l__law_is_rule : K.lookup f__law_is_rule = some ⟨oc__law_is_rule, od__law_is_rule, .func (PySem.W.fnOf "_law_is_rule" "_law_is_rule" (defArgs s__law_is_rule) (defBody s__law_is_rule) (defScope s__law_is_rule) .none kV__law_is_rule dc__law_is_rule pm__law_is_rule an__law_is_rule cd__law_is_rule ct__law_is_rule), sl__law_is_rule⟩)
    (e__law_is_rule : PySem.W.codeIn K cd__law_is_rule "_law_is_rule" = true)
    (k__law_is_rule : PySem.W.keepIn K (.ref f__law_is_rule) = true)
    (a__law_due : PySem.W.nsIn K mainGlobals "_law_due" = some (some (.ref f__law_due)))
    (l__law_due : K.lookup f__law_due = some ⟨oc__law_due, od__law_due, .func (PySem.W.fnOf "_law_due" "_law_due" (defArgs s__law_due) (defBody s__law_due) (defScope s__law_due) .none kV__law_due dc__law_due pm__law_due an__law_due cd__law_due ct__law_due), sl__law_due⟩)
    (e__law_due : PySem.W.codeIn K cd__law_due "_law_due" = true)
    (k__law_due : PySem.W.keepIn K (.ref f__law_due) = true)
    (a_law : PySem.W.nsIn K mainGlobals "law" = some (some (.ref f_law)))
    (l_law : K.lookup f_law = some ⟨oc_law, od_law, .func (PySem.W.fnOf "law" "law" (defArgs s_law) (defBody s_law) (defScope s_law) .none kV_law dc_law pm_law an_law cd_law ct_law), sl_law⟩)
    (e_law : PySem.W.codeIn K cd_law "law" = true)
    (k_law : PySem.W.keepIn K (.ref f_law) = true)
    (z_list : PySem.W.nsIn K mainGlobals "list" = some none)
    (z_enumerate : PySem.W.nsIn K mainGlobals "enumerate" = some none)
    (z_len : PySem.W.nsIn K mainGlobals "len" = some none)
    (z_abs : PySem.W.nsIn K mainGlobals "abs" = some none)
    (z_int : PySem.W.nsIn K mainGlobals "int" = some none)
    (z_divmod : PySem.W.nsIn K mainGlobals "divmod" = some none)
    (z_range : PySem.W.nsIn K mainGlobals "range" = some none)
    (z_tuple : PySem.W.nsIn K mainGlobals "tuple" = some none)
    (z_sorted : PySem.W.nsIn K mainGlobals "sorted" = some none)
    (z_min : PySem.W.nsIn K mainGlobals "min" = some none)
    (z_sum : PySem.W.nsIn K mainGlobals "sum" = some none)
    (z_max : PySem.W.nsIn K mainGlobals "max" = some none)
    (z_set : PySem.W.nsIn K mainGlobals "set" = some none)
    (z_isinstance : PySem.W.nsIn K mainGlobals "isinstance" = some none)
    (z_bool : PySem.W.nsIn K mainGlobals "bool" = some none)
    (z_all : PySem.W.nsIn K mainGlobals "all" = some none)
    (z_zip : PySem.W.nsIn K mainGlobals "zip" = some none)
    (z_str : PySem.W.nsIn K mainGlobals "str" = some none)
    (z_any : PySem.W.nsIn K mainGlobals "any" = some none)
    (z_repr : PySem.W.nsIn K mainGlobals "repr" = some none)
    (y_SMALL_SIGNS : PySem.W.nsIn K mainGlobals "SMALL_SIGNS" = some (some (.str "abcdefghijklmnopqrstuvwxyz" t_SMALL_SIGNS)))
    (y_MOST_SIGNS : PySem.W.nsIn K mainGlobals "MOST_SIGNS" = some (some (.int 8 t_MOST_SIGNS)))
    (y_MOST_NUMBER : PySem.W.nsIn K mainGlobals "MOST_NUMBER" = some (some (.int 9999 t_MOST_NUMBER)))
    (y_MOST_PRICE : PySem.W.nsIn K mainGlobals "MOST_PRICE" = some (some (.int 99999 t_MOST_PRICE)))
    (y_MOST_PAIRS : PySem.W.nsIn K mainGlobals "MOST_PAIRS" = some (some (.int 6 t_MOST_PAIRS)))
    (y_MOST_AGE : PySem.W.nsIn K mainGlobals "MOST_AGE" = some (some (.int 999 t_MOST_AGE)))
    (y_MOST_PART : PySem.W.nsIn K mainGlobals "MOST_PART" = some (some (.int 99 t_MOST_PART)))
    (y_MOST_AMOUNT : PySem.W.nsIn K mainGlobals "MOST_AMOUNT" = some (some (.int 9999999 t_MOST_AMOUNT)))
    (y_MOST_SHARE : PySem.W.nsIn K mainGlobals "MOST_SHARE" = some (some (.int 100 t_MOST_SHARE)))
    (y_MOST_WORDS : PySem.W.nsIn K mainGlobals "MOST_WORDS" = some (some (.int 6 t_MOST_WORDS)))
    (y_LEAST_HEAP : PySem.W.nsIn K mainGlobals "LEAST_HEAP" = some (some (.int 2 t_LEAST_HEAP)))
    (y_MOST_HEAP : PySem.W.nsIn K mainGlobals "MOST_HEAP" = some (some (.int 12 t_MOST_HEAP)))
    (a_DEED_SHAPES : PySem.W.nsIn K mainGlobals "DEED_SHAPES" = some (some (.ref D_DEED_SHAPES)))
    (kl_DEED_SHAPES : K.lookup D_DEED_SHAPES = some ⟨.type "dict", none, .dict ([⟨h_DEED_SHAPES_0, .str "give" t_DEED_SHAPES_0, .ref f_is_give⟩, ⟨h_DEED_SHAPES_1, .str "let" t_DEED_SHAPES_1, .ref f_is_of_thing⟩, ⟨h_DEED_SHAPES_2, .str "rule" t_DEED_SHAPES_2, .ref f_is_told_rule⟩, ⟨h_DEED_SHAPES_3, .str "share" t_DEED_SHAPES_3, .ref f_is_told_share⟩, ⟨h_DEED_SHAPES_4, .str "sell" t_DEED_SHAPES_4, .ref f_is_sell⟩, ⟨h_DEED_SHAPES_5, .str "heap" t_DEED_SHAPES_5, .ref f_is_heap⟩, ⟨h_DEED_SHAPES_6, .str "back" t_DEED_SHAPES_6, .ref f_is_of_thing⟩, ⟨h_DEED_SHAPES_7, .str "fetch" t_DEED_SHAPES_7, .ref f_is_of_thing⟩, ⟨h_DEED_SHAPES_8, .str "lose" t_DEED_SHAPES_8, .ref f_is_of_thing⟩, ⟨h_DEED_SHAPES_9, .str "find" t_DEED_SHAPES_9, .ref f_is_of_thing⟩, ⟨h_DEED_SHAPES_10, .str "pay" t_DEED_SHAPES_10, .ref f_is_pay⟩] : List DictEntry).toArray n_DEED_SHAPES, #[]⟩)
    (ki_DEED_SHAPES : PySem.W.KeysLit w.params [⟨h_DEED_SHAPES_0, .str "give" t_DEED_SHAPES_0, .ref f_is_give⟩, ⟨h_DEED_SHAPES_1, .str "let" t_DEED_SHAPES_1, .ref f_is_of_thing⟩, ⟨h_DEED_SHAPES_2, .str "rule" t_DEED_SHAPES_2, .ref f_is_told_rule⟩, ⟨h_DEED_SHAPES_3, .str "share" t_DEED_SHAPES_3, .ref f_is_told_share⟩, ⟨h_DEED_SHAPES_4, .str "sell" t_DEED_SHAPES_4, .ref f_is_sell⟩, ⟨h_DEED_SHAPES_5, .str "heap" t_DEED_SHAPES_5, .ref f_is_heap⟩, ⟨h_DEED_SHAPES_6, .str "back" t_DEED_SHAPES_6, .ref f_is_of_thing⟩, ⟨h_DEED_SHAPES_7, .str "fetch" t_DEED_SHAPES_7, .ref f_is_of_thing⟩, ⟨h_DEED_SHAPES_8, .str "lose" t_DEED_SHAPES_8, .ref f_is_of_thing⟩, ⟨h_DEED_SHAPES_9, .str "find" t_DEED_SHAPES_9, .ref f_is_of_thing⟩, ⟨h_DEED_SHAPES_10, .str "pay" t_DEED_SHAPES_10, .ref f_is_pay⟩])
    (ks_DEED_SHAPES : (D_DEED_SHAPES == sysModules) = false)
    (a_DEED_SIZES : PySem.W.nsIn K mainGlobals "DEED_SIZES" = some (some (.ref D_DEED_SIZES)))
    (kl_DEED_SIZES : K.lookup D_DEED_SIZES = some ⟨.type "dict", none, .dict ([⟨h_DEED_SIZES_0, .str "give" t_DEED_SIZES_0, .int 6 u_DEED_SIZES_0⟩, ⟨h_DEED_SIZES_1, .str "sell" t_DEED_SIZES_1, .int 3 u_DEED_SIZES_1⟩, ⟨h_DEED_SIZES_2, .str "heap" t_DEED_SIZES_2, .int 3 u_DEED_SIZES_2⟩, ⟨h_DEED_SIZES_3, .str "pay" t_DEED_SIZES_3, .int 3 u_DEED_SIZES_3⟩] : List DictEntry).toArray n_DEED_SIZES, #[]⟩)
    (ki_DEED_SIZES : PySem.W.KeysLit w.params [⟨h_DEED_SIZES_0, .str "give" t_DEED_SIZES_0, .int 6 u_DEED_SIZES_0⟩, ⟨h_DEED_SIZES_1, .str "sell" t_DEED_SIZES_1, .int 3 u_DEED_SIZES_1⟩, ⟨h_DEED_SIZES_2, .str "heap" t_DEED_SIZES_2, .int 3 u_DEED_SIZES_2⟩, ⟨h_DEED_SIZES_3, .str "pay" t_DEED_SIZES_3, .int 3 u_DEED_SIZES_3⟩])
    (ks_DEED_SIZES : (D_DEED_SIZES == sysModules) = false)
    : ∃ fd : FuncData, (∀ (s : Shared) (v : Value), BindsTo s fd ⟨[v], []⟩ [("_law_script", v)]) ∧ ∀ base : Heap, K.In base → base.Ns mainGlobals mg → FnG l.prog w K mg base 6 fa fd ["_law_script"] (sp_law K) := by
  have e := hfa.symm.trans (PySem.W.mg_of X G a_law)
  cases e
  have F__law_folded := fun_mk (st := s__law_folded) l__law_folded e__law_folded k__law_folded
  have b__law_folded := F__law_folded.binds (ps := ["_law_script", "_law_size"]) fun _ _ _ _ _ _ us hl => match us, hl with | [_, _], _ => rfl
  have F__law_box := fun_mk (st := s__law_box) l__law_box e__law_box k__law_box
  have b__law_box := F__law_box.binds (ps := ["_law_script", "_law_k"]) fun _ _ _ _ _ _ us hl => match us, hl with | [_, _], _ => rfl
  have F__law_take := fun_mk (st := s__law_take) l__law_take e__law_take k__law_take
  have b__law_take := F__law_take.binds (ps := ["_law_box_here", "_law_size"]) fun _ _ _ _ _ _ us hl => match us, hl with | [_, _], _ => rfl
  have F__law_names := fun_mk (st := s__law_names) l__law_names e__law_names k__law_names
  have b__law_names := F__law_names.binds (ps := ["_law_box_here", "_law_many"]) fun _ _ _ _ _ _ us hl => match us, hl with | [_, _], _ => rfl
  have F__law_numbers := fun_mk (st := s__law_numbers) l__law_numbers e__law_numbers k__law_numbers
  have b__law_numbers := F__law_numbers.binds (ps := ["_law_box_here", "_law_many"]) fun _ _ _ _ _ _ us hl => match us, hl with | [_, _], _ => rfl
  have F__law_world := fun_mk (st := s__law_world) l__law_world e__law_world k__law_world
  have b__law_world := F__law_world.binds (ps := ["_law_box_here", "_law_many"]) fun _ _ _ _ _ _ us hl => match us, hl with | [_, _], _ => rfl
  have F__law_price := fun_mk (st := s__law_price) l__law_price e__law_price k__law_price
  have b__law_price := F__law_price.binds (ps := ["_law_box_here"]) fun _ _ _ _ _ _ us hl => match us, hl with | [_], _ => rfl
  have F__law_some_words := fun_mk (st := s__law_some_words) l__law_some_words e__law_some_words k__law_some_words
  have b__law_some_words := F__law_some_words.binds (ps := ["_law_box_here", "_law_pool", "_law_most"]) fun _ _ _ _ _ _ us hl => match us, hl with | [_, _, _], _ => rfl
  have F__law_give := fun_mk (st := s__law_give) l__law_give e__law_give k__law_give
  have b__law_give := F__law_give.binds (ps := ["_law_box_here", "_law_world_here"]) fun _ _ _ _ _ _ us hl => match us, hl with | [_, _], _ => rfl
  have F__law_heap := fun_mk (st := s__law_heap) l__law_heap e__law_heap k__law_heap
  have b__law_heap := F__law_heap.binds (ps := ["_law_box_here", "_law_world_here", "_law_most"]) fun _ _ _ _ _ _ us hl => match us, hl with | [_, _, _], _ => rfl
  have F__law_rule := fun_mk (st := s__law_rule) l__law_rule e__law_rule k__law_rule
  have b__law_rule := F__law_rule.binds (ps := ["_law_box_here"]) fun _ _ _ _ _ _ us hl => match us, hl with | [_], _ => rfl
  have F__law_rights := fun_mk (st := s__law_rights) l__law_rights e__law_rights k__law_rights
  have b__law_rights := F__law_rights.binds (ps := ["_law_box_here"]) fun _ _ _ _ _ _ us hl => match us, hl with | [_], _ => rfl
  have F__law_odds := fun_mk (st := s__law_odds) l__law_odds e__law_odds k__law_odds
  have b__law_odds := F__law_odds.binds (ps := ["_law_box_here"]) fun _ _ _ _ _ _ us hl => match us, hl with | [_], _ => rfl
  have F__law_bent := fun_mk (st := s__law_bent) l__law_bent e__law_bent k__law_bent
  have b__law_bent := F__law_bent.binds (ps := ["_law_box_here", "_law_deed"]) fun _ _ _ _ _ _ us hl => match us, hl with | [_, _], _ => rfl
  have F_is_whole := fun_mk (st := s_is_whole) l_is_whole e_is_whole k_is_whole
  have b_is_whole := F_is_whole.binds (ps := ["thing", "least", "most"]) fun _ _ _ _ _ _ us hl => match us, hl with | [_, _, _], _ => rfl
  have F_are_rising := fun_mk (st := s_are_rising) l_are_rising e_are_rising k_are_rising
  have b_are_rising := F_are_rising.binds (ps := ["things"]) fun _ _ _ _ _ _ us hl => match us, hl with | [_], _ => rfl
  have F_is_name := fun_mk (st := s_is_name) l_is_name e_is_name k_is_name
  have b_is_name := F_is_name.binds (ps := ["thing"]) fun _ _ _ _ _ _ us hl => match us, hl with | [_], _ => rfl
  have F_are_words := fun_mk (st := s_are_words) l_are_words e_are_words k_are_words
  have b_are_words := F_are_words.binds (ps := ["thing"]) fun _ _ _ _ _ _ us hl => match us, hl with | [_], _ => rfl
  have F_is_number := fun_mk (st := s_is_number) l_is_number e_is_number k_is_number
  have b_is_number := F_is_number.binds (ps := ["thing"]) fun _ _ _ _ _ _ us hl => match us, hl with | [_], _ => rfl
  have F_is_give := fun_mk (st := s_is_give) l_is_give e_is_give k_is_give
  have b_is_give := F_is_give.binds (ps := ["deed"]) fun _ _ _ _ _ _ us hl => match us, hl with | [_], _ => rfl
  have F_are_numbers := fun_mk (st := s_are_numbers) l_are_numbers e_are_numbers k_are_numbers
  have b_are_numbers := F_are_numbers.binds (ps := ["thing"]) fun _ _ _ _ _ _ us hl => match us, hl with | [_], _ => rfl
  have F_is_amount := fun_mk (st := s_is_amount) l_is_amount e_is_amount k_is_amount
  have b_is_amount := F_is_amount.binds (ps := ["thing"]) fun _ _ _ _ _ _ us hl => match us, hl with | [_], _ => rfl
  have F_is_heap := fun_mk (st := s_is_heap) l_is_heap e_is_heap k_is_heap
  have b_is_heap := F_is_heap.binds (ps := ["deed"]) fun _ _ _ _ _ _ us hl => match us, hl with | [_], _ => rfl
  have F_is_of_thing := fun_mk (st := s_is_of_thing) l_is_of_thing e_is_of_thing k_is_of_thing
  have b_is_of_thing := F_is_of_thing.binds (ps := ["deed"]) fun _ _ _ _ _ _ us hl => match us, hl with | [_], _ => rfl
  have F_is_pay := fun_mk (st := s_is_pay) l_is_pay e_is_pay k_is_pay
  have b_is_pay := F_is_pay.binds (ps := ["deed"]) fun _ _ _ _ _ _ us hl => match us, hl with | [_], _ => rfl
  have F_is_sell := fun_mk (st := s_is_sell) l_is_sell e_is_sell k_is_sell
  have b_is_sell := F_is_sell.binds (ps := ["deed"]) fun _ _ _ _ _ _ us hl => match us, hl with | [_], _ => rfl
  have F_is_rule_pair := fun_mk (st := s_is_rule_pair) l_is_rule_pair e_is_rule_pair k_is_rule_pair
  have b_is_rule_pair := F_is_rule_pair.binds (ps := ["thing"]) fun _ _ _ _ _ _ us hl => match us, hl with | [_], _ => rfl
  have F_is_rule := fun_mk (st := s_is_rule) l_is_rule e_is_rule k_is_rule
  have b_is_rule := F_is_rule.binds (ps := ["thing"]) fun _ _ _ _ _ _ us hl => match us, hl with | [_], _ => rfl
  have F_is_told_rule := fun_mk (st := s_is_told_rule) l_is_told_rule e_is_told_rule k_is_told_rule
  have b_is_told_rule := F_is_told_rule.binds (ps := ["deed"]) fun _ _ _ _ _ _ us hl => match us, hl with | [_], _ => rfl
  have F_is_told_share := fun_mk (st := s_is_told_share) l_is_told_share e_is_told_share k_is_told_share
  have b_is_told_share := F_is_told_share.binds (ps := ["deed"]) fun _ _ _ _ _ _ us hl => match us, hl with | [_], _ => rfl
  have F_is_deed := fun_mk (st := s_is_deed) l_is_deed e_is_deed k_is_deed
  have b_is_deed := F_is_deed.binds (ps := ["thing"]) fun _ _ _ _ _ _ us hl => match us, hl with | [_], _ => rfl
  have F__law_is_whole := fun_mk (st := s__law_is_whole) l__law_is_whole e__law_is_whole k__law_is_whole
  have b__law_is_whole := F__law_is_whole.binds (ps := ["_law_thing", "_law_least", "_law_most"]) fun _ _ _ _ _ _ us hl => match us, hl with | [_, _, _], _ => rfl
  have F__law_rise := fun_mk (st := s__law_rise) l__law_rise e__law_rise k__law_rise
  have b__law_rise := F__law_rise.binds (ps := ["_law_things"]) fun _ _ _ _ _ _ us hl => match us, hl with | [_], _ => rfl
  have F__law_is_name := fun_mk (st := s__law_is_name) l__law_is_name e__law_is_name k__law_is_name
  have b__law_is_name := F__law_is_name.binds (ps := ["_law_thing"]) fun _ _ _ _ _ _ us hl => match us, hl with | [_], _ => rfl
  have F__law_is_given := fun_mk (st := s__law_is_given) l__law_is_given e__law_is_given k__law_is_given
  have b__law_is_given := F__law_is_given.binds (ps := ["_law_rest"]) fun _ _ _ _ _ _ us hl => match us, hl with | [_], _ => rfl
  have F__law_is_heap := fun_mk (st := s__law_is_heap) l__law_is_heap e__law_is_heap k__law_is_heap
  have b__law_is_heap := F__law_is_heap.binds (ps := ["_law_rest"]) fun _ _ _ _ _ _ us hl => match us, hl with | [_], _ => rfl
  have F__law_is_rule := fun_mk (st := s__law_is_rule) l__law_is_rule e__law_is_rule k__law_is_rule
  have b__law_is_rule := F__law_is_rule.binds (ps := ["_law_thing"]) fun _ _ _ _ _ _ us hl => match us, hl with | [_], _ => rfl
  have F__law_due := fun_mk (st := s__law_due) l__law_due e__law_due k__law_due
  have b__law_due := F__law_due.binds (ps := ["_law_thing"]) fun _ _ _ _ _ _ us hl => match us, hl with | [_], _ => rfl
  have F_law := fun_mk (st := s_law) l_law e_law k_law
  have T : Txt w K mg ⟨D_DEED_SHAPES, D_DEED_SIZES, f__law_folded, PySem.W.fnOf "_law_folded" "_law_folded" (defArgs s__law_folded) (defBody s__law_folded) (defScope s__law_folded) .none kV__law_folded dc__law_folded pm__law_folded an__law_folded cd__law_folded ct__law_folded, f__law_box, PySem.W.fnOf "_law_box" "_law_box" (defArgs s__law_box) (defBody s__law_box) (defScope s__law_box) .none kV__law_box dc__law_box pm__law_box an__law_box cd__law_box ct__law_box, f__law_take, PySem.W.fnOf "_law_take" "_law_take" (defArgs s__law_take) (defBody s__law_take) (defScope s__law_take) .none kV__law_take dc__law_take pm__law_take an__law_take cd__law_take ct__law_take, f__law_names, PySem.W.fnOf "_law_names" "_law_names" (defArgs s__law_names) (defBody s__law_names) (defScope s__law_names) .none kV__law_names dc__law_names pm__law_names an__law_names cd__law_names ct__law_names, f__law_numbers, PySem.W.fnOf "_law_numbers" "_law_numbers" (defArgs s__law_numbers) (defBody s__law_numbers) (defScope s__law_numbers) .none kV__law_numbers dc__law_numbers pm__law_numbers an__law_numbers cd__law_numbers ct__law_numbers, f__law_world, PySem.W.fnOf "_law_world" "_law_world" (defArgs s__law_world) (defBody s__law_world) (defScope s__law_world) .none kV__law_world dc__law_world pm__law_world an__law_world cd__law_world ct__law_world, f__law_price, PySem.W.fnOf "_law_price" "_law_price" (defArgs s__law_price) (defBody s__law_price) (defScope s__law_price) .none kV__law_price dc__law_price pm__law_price an__law_price cd__law_price ct__law_price, f__law_some_words, PySem.W.fnOf "_law_some_words" "_law_some_words" (defArgs s__law_some_words) (defBody s__law_some_words) (defScope s__law_some_words) .none kV__law_some_words dc__law_some_words pm__law_some_words an__law_some_words cd__law_some_words ct__law_some_words, f__law_give, PySem.W.fnOf "_law_give" "_law_give" (defArgs s__law_give) (defBody s__law_give) (defScope s__law_give) .none kV__law_give dc__law_give pm__law_give an__law_give cd__law_give ct__law_give, f__law_heap, PySem.W.fnOf "_law_heap" "_law_heap" (defArgs s__law_heap) (defBody s__law_heap) (defScope s__law_heap) .none kV__law_heap dc__law_heap pm__law_heap an__law_heap cd__law_heap ct__law_heap, f__law_rule, PySem.W.fnOf "_law_rule" "_law_rule" (defArgs s__law_rule) (defBody s__law_rule) (defScope s__law_rule) .none kV__law_rule dc__law_rule pm__law_rule an__law_rule cd__law_rule ct__law_rule, f__law_rights, PySem.W.fnOf "_law_rights" "_law_rights" (defArgs s__law_rights) (defBody s__law_rights) (defScope s__law_rights) .none kV__law_rights dc__law_rights pm__law_rights an__law_rights cd__law_rights ct__law_rights, f__law_odds, PySem.W.fnOf "_law_odds" "_law_odds" (defArgs s__law_odds) (defBody s__law_odds) (defScope s__law_odds) .none kV__law_odds dc__law_odds pm__law_odds an__law_odds cd__law_odds ct__law_odds, f__law_bent, PySem.W.fnOf "_law_bent" "_law_bent" (defArgs s__law_bent) (defBody s__law_bent) (defScope s__law_bent) .none kV__law_bent dc__law_bent pm__law_bent an__law_bent cd__law_bent ct__law_bent, f_is_whole, PySem.W.fnOf "is_whole" "is_whole" (defArgs s_is_whole) (defBody s_is_whole) (defScope s_is_whole) .none kV_is_whole dc_is_whole pm_is_whole an_is_whole cd_is_whole ct_is_whole, f_are_rising, PySem.W.fnOf "are_rising" "are_rising" (defArgs s_are_rising) (defBody s_are_rising) (defScope s_are_rising) .none kV_are_rising dc_are_rising pm_are_rising an_are_rising cd_are_rising ct_are_rising, f_is_name, PySem.W.fnOf "is_name" "is_name" (defArgs s_is_name) (defBody s_is_name) (defScope s_is_name) .none kV_is_name dc_is_name pm_is_name an_is_name cd_is_name ct_is_name, f_are_words, PySem.W.fnOf "are_words" "are_words" (defArgs s_are_words) (defBody s_are_words) (defScope s_are_words) .none kV_are_words dc_are_words pm_are_words an_are_words cd_are_words ct_are_words, f_is_number, PySem.W.fnOf "is_number" "is_number" (defArgs s_is_number) (defBody s_is_number) (defScope s_is_number) .none kV_is_number dc_is_number pm_is_number an_is_number cd_is_number ct_is_number, f_is_give, PySem.W.fnOf "is_give" "is_give" (defArgs s_is_give) (defBody s_is_give) (defScope s_is_give) .none kV_is_give dc_is_give pm_is_give an_is_give cd_is_give ct_is_give, f_are_numbers, PySem.W.fnOf "are_numbers" "are_numbers" (defArgs s_are_numbers) (defBody s_are_numbers) (defScope s_are_numbers) .none kV_are_numbers dc_are_numbers pm_are_numbers an_are_numbers cd_are_numbers ct_are_numbers, f_is_amount, PySem.W.fnOf "is_amount" "is_amount" (defArgs s_is_amount) (defBody s_is_amount) (defScope s_is_amount) .none kV_is_amount dc_is_amount pm_is_amount an_is_amount cd_is_amount ct_is_amount, f_is_heap, PySem.W.fnOf "is_heap" "is_heap" (defArgs s_is_heap) (defBody s_is_heap) (defScope s_is_heap) .none kV_is_heap dc_is_heap pm_is_heap an_is_heap cd_is_heap ct_is_heap, f_is_of_thing, PySem.W.fnOf "is_of_thing" "is_of_thing" (defArgs s_is_of_thing) (defBody s_is_of_thing) (defScope s_is_of_thing) .none kV_is_of_thing dc_is_of_thing pm_is_of_thing an_is_of_thing cd_is_of_thing ct_is_of_thing, f_is_pay, PySem.W.fnOf "is_pay" "is_pay" (defArgs s_is_pay) (defBody s_is_pay) (defScope s_is_pay) .none kV_is_pay dc_is_pay pm_is_pay an_is_pay cd_is_pay ct_is_pay, f_is_sell, PySem.W.fnOf "is_sell" "is_sell" (defArgs s_is_sell) (defBody s_is_sell) (defScope s_is_sell) .none kV_is_sell dc_is_sell pm_is_sell an_is_sell cd_is_sell ct_is_sell, f_is_rule_pair, PySem.W.fnOf "is_rule_pair" "is_rule_pair" (defArgs s_is_rule_pair) (defBody s_is_rule_pair) (defScope s_is_rule_pair) .none kV_is_rule_pair dc_is_rule_pair pm_is_rule_pair an_is_rule_pair cd_is_rule_pair ct_is_rule_pair, f_is_rule, PySem.W.fnOf "is_rule" "is_rule" (defArgs s_is_rule) (defBody s_is_rule) (defScope s_is_rule) .none kV_is_rule dc_is_rule pm_is_rule an_is_rule cd_is_rule ct_is_rule, f_is_told_rule, PySem.W.fnOf "is_told_rule" "is_told_rule" (defArgs s_is_told_rule) (defBody s_is_told_rule) (defScope s_is_told_rule) .none kV_is_told_rule dc_is_told_rule pm_is_told_rule an_is_told_rule cd_is_told_rule ct_is_told_rule, f_is_told_share, PySem.W.fnOf "is_told_share" "is_told_share" (defArgs s_is_told_share) (defBody s_is_told_share) (defScope s_is_told_share) .none kV_is_told_share dc_is_told_share pm_is_told_share an_is_told_share cd_is_told_share ct_is_told_share, f_is_deed, PySem.W.fnOf "is_deed" "is_deed" (defArgs s_is_deed) (defBody s_is_deed) (defScope s_is_deed) .none kV_is_deed dc_is_deed pm_is_deed an_is_deed cd_is_deed ct_is_deed, f__law_is_whole, PySem.W.fnOf "_law_is_whole" "_law_is_whole" (defArgs s__law_is_whole) (defBody s__law_is_whole) (defScope s__law_is_whole) .none kV__law_is_whole dc__law_is_whole pm__law_is_whole an__law_is_whole cd__law_is_whole ct__law_is_whole, f__law_rise, PySem.W.fnOf "_law_rise" "_law_rise" (defArgs s__law_rise) (defBody s__law_rise) (defScope s__law_rise) .none kV__law_rise dc__law_rise pm__law_rise an__law_rise cd__law_rise ct__law_rise, f__law_is_name, PySem.W.fnOf "_law_is_name" "_law_is_name" (defArgs s__law_is_name) (defBody s__law_is_name) (defScope s__law_is_name) .none kV__law_is_name dc__law_is_name pm__law_is_name an__law_is_name cd__law_is_name ct__law_is_name, f__law_is_given, PySem.W.fnOf "_law_is_given" "_law_is_given" (defArgs s__law_is_given) (defBody s__law_is_given) (defScope s__law_is_given) .none kV__law_is_given dc__law_is_given pm__law_is_given an__law_is_given cd__law_is_given ct__law_is_given, f__law_is_heap, PySem.W.fnOf "_law_is_heap" "_law_is_heap" (defArgs s__law_is_heap) (defBody s__law_is_heap) (defScope s__law_is_heap) .none kV__law_is_heap dc__law_is_heap pm__law_is_heap an__law_is_heap cd__law_is_heap ct__law_is_heap, f__law_is_rule, PySem.W.fnOf "_law_is_rule" "_law_is_rule" (defArgs s__law_is_rule) (defBody s__law_is_rule) (defScope s__law_is_rule) .none kV__law_is_rule dc__law_is_rule pm__law_is_rule an__law_is_rule cd__law_is_rule ct__law_is_rule, f__law_due, PySem.W.fnOf "_law_due" "_law_due" (defArgs s__law_due) (defBody s__law_due) (defScope s__law_due) .none kV__law_due dc__law_due pm__law_due an__law_due cd__law_due ct__law_due, fa, PySem.W.fnOf "law" "law" (defArgs s_law) (defBody s_law) (defScope s_law) .none kV_law dc_law pm_law an_law cd_law ct_law⟩ := ⟨PySem.W.mg_of X G a_DEED_SHAPES, (show KTb K w D_DEED_SHAPES tb_DEED_SHAPES from KTb.of [⟨h_DEED_SHAPES_0, t_DEED_SHAPES_0, "give", .ref f_is_give, (fnD "is_give")⟩, ⟨h_DEED_SHAPES_1, t_DEED_SHAPES_1, "let", .ref f_is_of_thing, (fnD "is_of_thing")⟩, ⟨h_DEED_SHAPES_2, t_DEED_SHAPES_2, "rule", .ref f_is_told_rule, (fnD "is_told_rule")⟩, ⟨h_DEED_SHAPES_3, t_DEED_SHAPES_3, "share", .ref f_is_told_share, (fnD "is_told_share")⟩, ⟨h_DEED_SHAPES_4, t_DEED_SHAPES_4, "sell", .ref f_is_sell, (fnD "is_sell")⟩, ⟨h_DEED_SHAPES_5, t_DEED_SHAPES_5, "heap", .ref f_is_heap, (fnD "is_heap")⟩, ⟨h_DEED_SHAPES_6, t_DEED_SHAPES_6, "back", .ref f_is_of_thing, (fnD "is_of_thing")⟩, ⟨h_DEED_SHAPES_7, t_DEED_SHAPES_7, "fetch", .ref f_is_of_thing, (fnD "is_of_thing")⟩, ⟨h_DEED_SHAPES_8, t_DEED_SHAPES_8, "lose", .ref f_is_of_thing, (fnD "is_of_thing")⟩, ⟨h_DEED_SHAPES_9, t_DEED_SHAPES_9, "find", .ref f_is_of_thing, (fnD "is_of_thing")⟩, ⟨h_DEED_SHAPES_10, t_DEED_SHAPES_10, "pay", .ref f_is_pay, (fnD "is_pay")⟩] kl_DEED_SHAPES ki_DEED_SHAPES ks_DEED_SHAPES (KEnt.cons (KEnt.fn a_is_give) (KEnt.cons (KEnt.fn a_is_of_thing) (KEnt.cons (KEnt.fn a_is_told_rule) (KEnt.cons (KEnt.fn a_is_told_share) (KEnt.cons (KEnt.fn a_is_sell) (KEnt.cons (KEnt.fn a_is_heap) (KEnt.cons (KEnt.fn a_is_of_thing) (KEnt.cons (KEnt.fn a_is_of_thing) (KEnt.cons (KEnt.fn a_is_of_thing) (KEnt.cons (KEnt.fn a_is_of_thing) (KEnt.cons (KEnt.fn a_is_pay) KEnt.nil)))))))))))), PySem.W.mg_of X G a_DEED_SIZES, (show KTb K w D_DEED_SIZES tb_DEED_SIZES from KTb.of [⟨h_DEED_SIZES_0, t_DEED_SIZES_0, "give", .int 6 u_DEED_SIZES_0, .int 6⟩, ⟨h_DEED_SIZES_1, t_DEED_SIZES_1, "sell", .int 3 u_DEED_SIZES_1, .int 3⟩, ⟨h_DEED_SIZES_2, t_DEED_SIZES_2, "heap", .int 3 u_DEED_SIZES_2, .int 3⟩, ⟨h_DEED_SIZES_3, t_DEED_SIZES_3, "pay", .int 3 u_DEED_SIZES_3, .int 3⟩] kl_DEED_SIZES ki_DEED_SIZES ks_DEED_SIZES (KEnt.cons KEnt.int (KEnt.cons KEnt.int (KEnt.cons KEnt.int (KEnt.cons KEnt.int KEnt.nil))))), PySem.W.mg_none_of X G z_list, PySem.W.mg_none_of X G z_enumerate, PySem.W.mg_none_of X G z_len, PySem.W.mg_none_of X G z_abs, PySem.W.mg_none_of X G z_int, PySem.W.mg_none_of X G z_divmod, PySem.W.mg_none_of X G z_range, PySem.W.mg_none_of X G z_tuple, PySem.W.mg_none_of X G z_sorted, PySem.W.mg_none_of X G z_min, PySem.W.mg_none_of X G z_sum, PySem.W.mg_none_of X G z_max, PySem.W.mg_none_of X G z_set, PySem.W.mg_none_of X G z_isinstance, PySem.W.mg_none_of X G z_bool, PySem.W.mg_none_of X G z_all, PySem.W.mg_none_of X G z_zip, PySem.W.mg_none_of X G z_str, PySem.W.mg_none_of X G z_any, PySem.W.mg_none_of X G z_repr, ⟨_, PySem.W.mg_of X G y_SMALL_SIGNS, ⟨_, rfl⟩⟩, ⟨_, PySem.W.mg_of X G y_MOST_SIGNS, ⟨_, rfl⟩⟩, ⟨_, PySem.W.mg_of X G y_MOST_NUMBER, ⟨_, rfl⟩⟩, ⟨_, PySem.W.mg_of X G y_MOST_PRICE, ⟨_, rfl⟩⟩, ⟨_, PySem.W.mg_of X G y_MOST_PAIRS, ⟨_, rfl⟩⟩, ⟨_, PySem.W.mg_of X G y_MOST_AGE, ⟨_, rfl⟩⟩, ⟨_, PySem.W.mg_of X G y_MOST_PART, ⟨_, rfl⟩⟩, ⟨_, PySem.W.mg_of X G y_MOST_AMOUNT, ⟨_, rfl⟩⟩, ⟨_, PySem.W.mg_of X G y_MOST_SHARE, ⟨_, rfl⟩⟩, ⟨_, PySem.W.mg_of X G y_MOST_WORDS, ⟨_, rfl⟩⟩, ⟨_, PySem.W.mg_of X G y_LEAST_HEAP, ⟨_, rfl⟩⟩, ⟨_, PySem.W.mg_of X G y_MOST_HEAP, ⟨_, rfl⟩⟩, F__law_folded, PySem.W.mg_of X G a__law_folded, b__law_folded, F__law_box, PySem.W.mg_of X G a__law_box, b__law_box, F__law_take, PySem.W.mg_of X G a__law_take, b__law_take, F__law_names, PySem.W.mg_of X G a__law_names, b__law_names, F__law_numbers, PySem.W.mg_of X G a__law_numbers, b__law_numbers, F__law_world, PySem.W.mg_of X G a__law_world, b__law_world, F__law_price, PySem.W.mg_of X G a__law_price, b__law_price, F__law_some_words, PySem.W.mg_of X G a__law_some_words, b__law_some_words, F__law_give, PySem.W.mg_of X G a__law_give, b__law_give, F__law_heap, PySem.W.mg_of X G a__law_heap, b__law_heap, F__law_rule, PySem.W.mg_of X G a__law_rule, b__law_rule, F__law_rights, PySem.W.mg_of X G a__law_rights, b__law_rights, F__law_odds, PySem.W.mg_of X G a__law_odds, b__law_odds, F__law_bent, PySem.W.mg_of X G a__law_bent, b__law_bent, F_is_whole, PySem.W.mg_of X G a_is_whole, b_is_whole, F_are_rising, PySem.W.mg_of X G a_are_rising, b_are_rising, F_is_name, PySem.W.mg_of X G a_is_name, b_is_name, F_are_words, PySem.W.mg_of X G a_are_words, b_are_words, F_is_number, PySem.W.mg_of X G a_is_number, b_is_number, F_is_give, PySem.W.mg_of X G a_is_give, b_is_give, F_are_numbers, PySem.W.mg_of X G a_are_numbers, b_are_numbers, F_is_amount, PySem.W.mg_of X G a_is_amount, b_is_amount, F_is_heap, PySem.W.mg_of X G a_is_heap, b_is_heap, F_is_of_thing, PySem.W.mg_of X G a_is_of_thing, b_is_of_thing, F_is_pay, PySem.W.mg_of X G a_is_pay, b_is_pay, F_is_sell, PySem.W.mg_of X G a_is_sell, b_is_sell, F_is_rule_pair, PySem.W.mg_of X G a_is_rule_pair, b_is_rule_pair, F_is_rule, PySem.W.mg_of X G a_is_rule, b_is_rule, F_is_told_rule, PySem.W.mg_of X G a_is_told_rule, b_is_told_rule, F_is_told_share, PySem.W.mg_of X G a_is_told_share, b_is_told_share, F_is_deed, PySem.W.mg_of X G a_is_deed, b_is_deed, F__law_is_whole, PySem.W.mg_of X G a__law_is_whole, b__law_is_whole, F__law_rise, PySem.W.mg_of X G a__law_rise, b__law_rise, F__law_is_name, PySem.W.mg_of X G a__law_is_name, b__law_is_name, F__law_is_given, PySem.W.mg_of X G a__law_is_given, b__law_is_given, F__law_is_heap, PySem.W.mg_of X G a__law_is_heap, b__law_is_heap, F__law_is_rule, PySem.W.mg_of X G a__law_is_rule, b__law_is_rule, F__law_due, PySem.W.mg_of X G a__law_due, b__law_due, F_law, a_is_give, a_is_of_thing, a_is_told_rule, a_is_told_share, a_is_sell, a_is_heap, a_is_pay⟩
  exact ⟨_, fun s v => .of_eq rfl, fun base _ _ => ok_law T⟩
theorem walk {l : PySem.W.OpenLaw} {q : Program} {loose : List Str} {XP : (Str → Option Value) → Heap → Prop} {YP : World → Heap → Prop} {d : DefRec} {K : Params → PySem.W.Frag} (hn : l.most = some 63) (hdf : d.params.defaults = [])
    (hY : ∀ (w : World) (h : Heap), YP w h → (K w.params).In h)
    (F : ∀ (w : World) (mg : Str → Option Value) (fa : Addr) (h : Heap), (K w.params).In h → h.Ns mainGlobals mg → mg d.name = some (.ref fa) →
      ∃ fd : FuncData, (∀ (s : Shared) (u : Value), BindsTo s fd ⟨[u], []⟩ [("_law_script", u)]) ∧ ∀ base : Heap, (K w.params).In base → base.Ns mainGlobals mg → FnG l.prog w (K w.params) mg base 6 fa fd ["_law_script"] (sp_law (K w.params))) :
    PySem.W.WalkO q loose XP YP l.row.toRowW d [] (fun f vs => PySem.call f vs) :=
  walk_ofG (n := 63) (k := 6) (x := "_law_script") (sp := sp_law) hn (by decide) hdf ⟨rfl, by decide, by decide⟩ hY F (fun _ _ a ns hl _ hS => ⟨a, ns, rfl, hS, hl, (fun _ hp => nomatch hp), fun _ => rfl⟩)
end K

open PySem PySem.W PyProof.Rows in
set_option maxRecDepth 100000 in
set_option maxHeartbeats 0 in
theorem PySem.Challenge.cw_stallshares_k51_deeds_told_apart_holds : PySem.Challenge.rw_stallshares_k51_deeds_told_apart.Holds := by
  w_on; o_law; k_head; (case hw => w_witness2)
  k_fill
  refine K.walk (l := PySem.Challenge.rw_stallshares_k51_deeds_told_apart) rfl rfl (fun w h Y => PySem.W.kIn_of Y) ?F
  case F =>
    intro w mg fa h KX G hmg
    refine' K.all_mk KX G hmg ?a__law_folded ?l__law_folded ?e__law_folded ?k__law_folded ?a__law_box ?l__law_box ?e__law_box ?k__law_box ?a__law_take ?l__law_take ?e__law_take ?k__law_take ?a__law_names ?l__law_names ?e__law_names ?k__law_names ?a__law_numbers ?l__law_numbers ?e__law_numbers ?k__law_numbers ?a__law_world ?l__law_world ?e__law_world ?k__law_world ?a__law_price ?l__law_price ?e__law_price ?k__law_price ?a__law_some_words ?l__law_some_words ?e__law_some_words ?k__law_some_words ?a__law_give ?l__law_give ?e__law_give ?k__law_give ?a__law_heap ?l__law_heap ?e__law_heap ?k__law_heap ?a__law_rule ?l__law_rule ?e__law_rule ?k__law_rule ?a__law_rights ?l__law_rights ?e__law_rights ?k__law_rights ?a__law_odds ?l__law_odds ?e__law_odds ?k__law_odds ?a__law_bent ?l__law_bent ?e__law_bent ?k__law_bent ?a_is_whole ?l_is_whole ?e_is_whole ?k_is_whole ?a_are_rising ?l_are_rising ?e_are_rising ?k_are_rising ?a_is_name ?l_is_name ?e_is_name ?k_is_name ?a_are_words ?l_are_words ?e_are_words ?k_are_words ?a_is_number ?l_is_number ?e_is_number ?k_is_number ?a_is_give ?l_is_give ?e_is_give ?k_is_give ?a_are_numbers ?l_are_numbers ?e_are_numbers ?k_are_numbers ?a_is_amount ?l_is_amount ?e_is_amount ?k_is_amount ?a_is_heap ?l_is_heap ?e_is_heap ?k_is_heap ?a_is_of_thing ?l_is_of_thing ?e_is_of_thing ?k_is_of_thing ?a_is_pay ?l_is_pay ?e_is_pay ?k_is_pay ?a_is_sell ?l_is_sell ?e_is_sell ?k_is_sell ?a_is_rule_pair ?l_is_rule_pair ?e_is_rule_pair ?k_is_rule_pair ?a_is_rule ?l_is_rule ?e_is_rule ?k_is_rule ?a_is_told_rule ?l_is_told_rule ?e_is_told_rule ?k_is_told_rule ?a_is_told_share ?l_is_told_share ?e_is_told_share ?k_is_told_share ?a_is_deed ?l_is_deed ?e_is_deed ?k_is_deed ?a__law_is_whole ?l__law_is_whole ?e__law_is_whole ?k__law_is_whole ?a__law_rise ?l__law_rise ?e__law_rise ?k__law_rise ?a__law_is_name ?l__law_is_name ?e__law_is_name ?k__law_is_name ?a__law_is_given ?l__law_is_given ?e__law_is_given ?k__law_is_given ?a__law_is_heap ?l__law_is_heap ?e__law_is_heap ?k__law_is_heap ?a__law_is_rule ?l__law_is_rule ?e__law_is_rule ?k__law_is_rule ?a__law_due ?l__law_due ?e__law_due ?k__law_due ?a_law ?l_law ?e_law ?k_law ?z_list ?z_enumerate ?z_len ?z_abs ?z_int ?z_divmod ?z_range ?z_tuple ?z_sorted ?z_min ?z_sum ?z_max ?z_set ?z_isinstance ?z_bool ?z_all ?z_zip ?z_str ?z_any ?z_repr ?y_SMALL_SIGNS ?y_MOST_SIGNS ?y_MOST_NUMBER ?y_MOST_PRICE ?y_MOST_PAIRS ?y_MOST_AGE ?y_MOST_PART ?y_MOST_AMOUNT ?y_MOST_SHARE ?y_MOST_WORDS ?y_LEAST_HEAP ?y_MOST_HEAP ?a_DEED_SHAPES ?kl_DEED_SHAPES ?ki_DEED_SHAPES ?ks_DEED_SHAPES ?a_DEED_SIZES ?kl_DEED_SIZES ?ki_DEED_SIZES ?ks_DEED_SIZES
    (case a__law_folded => k_is)
    (case l__law_folded => k_is)
    (case e__law_folded => k_is)
    (case k__law_folded => k_is)
    (case a__law_box => k_is)
    (case l__law_box => k_is)
    (case e__law_box => k_is)
    (case k__law_box => k_is)
    (case a__law_take => k_is)
    (case l__law_take => k_is)
    (case e__law_take => k_is)
    (case k__law_take => k_is)
    (case a__law_names => k_is)
    (case l__law_names => k_is)
    (case e__law_names => k_is)
    (case k__law_names => k_is)
    (case a__law_numbers => k_is)
    (case l__law_numbers => k_is)
    (case e__law_numbers => k_is)
    (case k__law_numbers => k_is)
    (case a__law_world => k_is)
    (case l__law_world => k_is)
    (case e__law_world => k_is)
    (case k__law_world => k_is)
    (case a__law_price => k_is)
    (case l__law_price => k_is)
    (case e__law_price => k_is)
    (case k__law_price => k_is)
    (case a__law_some_words => k_is)
    (case l__law_some_words => k_is)
    (case e__law_some_words => k_is)
    (case k__law_some_words => k_is)
    (case a__law_give => k_is)
    (case l__law_give => k_is)
    (case e__law_give => k_is)
    (case k__law_give => k_is)
    (case a__law_heap => k_is)
    (case l__law_heap => k_is)
    (case e__law_heap => k_is)
    (case k__law_heap => k_is)
    (case a__law_rule => k_is)
    (case l__law_rule => k_is)
    (case e__law_rule => k_is)
    (case k__law_rule => k_is)
    (case a__law_rights => k_is)
    (case l__law_rights => k_is)
    (case e__law_rights => k_is)
    (case k__law_rights => k_is)
    (case a__law_odds => k_is)
    (case l__law_odds => k_is)
    (case e__law_odds => k_is)
    (case k__law_odds => k_is)
    (case a__law_bent => k_is)
    (case l__law_bent => k_is)
    (case e__law_bent => k_is)
    (case k__law_bent => k_is)
    (case a_is_whole => k_is)
    (case l_is_whole => k_is)
    (case e_is_whole => k_is)
    (case k_is_whole => k_is)
    (case a_are_rising => k_is)
    (case l_are_rising => k_is)
    (case e_are_rising => k_is)
    (case k_are_rising => k_is)
    (case a_is_name => k_is)
    (case l_is_name => k_is)
    (case e_is_name => k_is)
    (case k_is_name => k_is)
    (case a_are_words => k_is)
    (case l_are_words => k_is)
    (case e_are_words => k_is)
    (case k_are_words => k_is)
    (case a_is_number => k_is)
    (case l_is_number => k_is)
    (case e_is_number => k_is)
    (case k_is_number => k_is)
    (case a_is_give => k_is)
    (case l_is_give => k_is)
    (case e_is_give => k_is)
    (case k_is_give => k_is)
    (case a_are_numbers => k_is)
    (case l_are_numbers => k_is)
    (case e_are_numbers => k_is)
    (case k_are_numbers => k_is)
    (case a_is_amount => k_is)
    (case l_is_amount => k_is)
    (case e_is_amount => k_is)
    (case k_is_amount => k_is)
    (case a_is_heap => k_is)
    (case l_is_heap => k_is)
    (case e_is_heap => k_is)
    (case k_is_heap => k_is)
    (case a_is_of_thing => k_is)
    (case l_is_of_thing => k_is)
    (case e_is_of_thing => k_is)
    (case k_is_of_thing => k_is)
    (case a_is_pay => k_is)
    (case l_is_pay => k_is)
    (case e_is_pay => k_is)
    (case k_is_pay => k_is)
    (case a_is_sell => k_is)
    (case l_is_sell => k_is)
    (case e_is_sell => k_is)
    (case k_is_sell => k_is)
    (case a_is_rule_pair => k_is)
    (case l_is_rule_pair => k_is)
    (case e_is_rule_pair => k_is)
    (case k_is_rule_pair => k_is)
    (case a_is_rule => k_is)
    (case l_is_rule => k_is)
    (case e_is_rule => k_is)
    (case k_is_rule => k_is)
    (case a_is_told_rule => k_is)
    (case l_is_told_rule => k_is)
    (case e_is_told_rule => k_is)
    (case k_is_told_rule => k_is)
    (case a_is_told_share => k_is)
    (case l_is_told_share => k_is)
    (case e_is_told_share => k_is)
    (case k_is_told_share => k_is)
    (case a_is_deed => k_is)
    (case l_is_deed => k_is)
    (case e_is_deed => k_is)
    (case k_is_deed => k_is)
    (case a__law_is_whole => k_is)
    (case l__law_is_whole => k_is)
    (case e__law_is_whole => k_is)
    (case k__law_is_whole => k_is)
    (case a__law_rise => k_is)
    (case l__law_rise => k_is)
    (case e__law_rise => k_is)
    (case k__law_rise => k_is)
    (case a__law_is_name => k_is)
    (case l__law_is_name => k_is)
    (case e__law_is_name => k_is)
    (case k__law_is_name => k_is)
    (case a__law_is_given => k_is)
    (case l__law_is_given => k_is)
    (case e__law_is_given => k_is)
    (case k__law_is_given => k_is)
    (case a__law_is_heap => k_is)
    (case l__law_is_heap => k_is)
    (case e__law_is_heap => k_is)
    (case k__law_is_heap => k_is)
    (case a__law_is_rule => k_is)
    (case l__law_is_rule => k_is)
    (case e__law_is_rule => k_is)
    (case k__law_is_rule => k_is)
    (case a__law_due => k_is)
    (case l__law_due => k_is)
    (case e__law_due => k_is)
    (case k__law_due => k_is)
    (case a_law => k_is)
    (case l_law => k_is)
    (case e_law => k_is)
    (case k_law => k_is)
    (case z_list => k_is)
    (case z_enumerate => k_is)
    (case z_len => k_is)
    (case z_abs => k_is)
    (case z_int => k_is)
    (case z_divmod => k_is)
    (case z_range => k_is)
    (case z_tuple => k_is)
    (case z_sorted => k_is)
    (case z_min => k_is)
    (case z_sum => k_is)
    (case z_max => k_is)
    (case z_set => k_is)
    (case z_isinstance => k_is)
    (case z_bool => k_is)
    (case z_all => k_is)
    (case z_zip => k_is)
    (case z_str => k_is)
    (case z_any => k_is)
    (case z_repr => k_is)
    (case y_SMALL_SIGNS => k_is)
    (case y_MOST_SIGNS => k_is)
    (case y_MOST_NUMBER => k_is)
    (case y_MOST_PRICE => k_is)
    (case y_MOST_PAIRS => k_is)
    (case y_MOST_AGE => k_is)
    (case y_MOST_PART => k_is)
    (case y_MOST_AMOUNT => k_is)
    (case y_MOST_SHARE => k_is)
    (case y_MOST_WORDS => k_is)
    (case y_LEAST_HEAP => k_is)
    (case y_MOST_HEAP => k_is)
    (case a_DEED_SHAPES => k_is)
    (case kl_DEED_SHAPES => k_is)
    (case ki_DEED_SHAPES => k_keys)
    (case ks_DEED_SHAPES => first | rfl | decide | k_is)
    (case a_DEED_SIZES => k_is)
    (case kl_DEED_SIZES => k_is)
    (case ki_DEED_SIZES => k_keys)
    (case ks_DEED_SIZES => first | rfl | decide | k_is)
