import PyProof.Rows.All
import Wide.All
import OpenK.AllK
import Wide.FinOn
import HandS.ForMost
import HandS.IsInst
import HandS.StrMore
import HandS.Walk
import HandS.SortInts
import HandS.Zip
import HandS.Style
import HandS.MakeKw
import HandS.TupAny
import HandS.Exc
import HandS.ExcInit
import HandS.ExcOwn
import HandS.CallSlots
import HandS.ExcIs
import HandS.ExcField
import HandS.WordsExc
import HandS.Lambda
import HandS.EndTab
import HandS.SortKw
import KE.KSortKeySt
import KE.KExcInit
import KE.KTryMore
import KE.KExcIs
import KE.KExcLine
import KE.RegKIsAll
import KE.RegKTryMore
import KE.GoesMore
import KE.GoesEnum
import KE.GoesEnumKw
import KE.GoesZip
import HandS.NoneIn
import HandS.Strs
import HandS.SetFor
import HandS.WideBits
import HandS.Deep
import HandS.TupMul
import HandS.FStr
import HandS.TupLe
import HandS.TryOnly
import HandS.Flow
import HandS.SetKeys
import KE.SortKeyHeap
import HandS.Remove
import HandS.Small
import HandS.SetFor
import KE.KTupSum
import KE.SortData
import PyProof.InstEq
import PyProof.FactsAll.object_2
import HandS.Conv
import PySem.Challenge.RW_stallshares_k09_tags_made_or_refused
set_option Elab.async false
set_option linter.all false
set_option maxRecDepth 100000
set_option maxHeartbeats 4000000
/-! the shared layer: heaps but for some mutable places, the box of draws -/
namespace Z
open PySem L2

/-- H without the places of M -/
def hid (M : List Addr) (H : Hp) : Hp := fun a => if a ∈ M then none else H a
/-- what stands outside M is as it was -/
def Fr (M : List Addr) (H H' : Hp) : Prop := ∀ a o, a ∉ M → H a = some o → H' a = some o
theorem Fr.refl (M : List Addr) (H : Hp) : Fr M H H := fun _ _ _ h => h
theorem Fr.trans {M : List Addr} {H H1 H2 : Hp} (a : Fr M H H1) (b : Fr M H1 H2) : Fr M H H2 := fun x o n h => b x o n (a x o n h)
theorem Same.fr {M : List Addr} {H H' : Hp} (s : Same H H') : Fr M H H' := fun a o _ h => s a o h
theorem Fr.same {M : List Addr} {H H' : Hp} (f : Fr M H H') : Same (hid M H) (hid M H') := fun a o h => by
  unfold hid at h ⊢
  split at h
  · cases h
  · next n => rw [if_neg n]; exact f a o n h
theorem Fr.new {M : List Addr} {H : Hp} {p : Addr} {o : HO} (h : H p = none) : Fr M H (upd H p o) := fun a u _ e => by
  rw [upd_ne (ne_of_none e h)]; exact e
theorem Same.new {H : Hp} {p : Addr} {o : HO} (h : H p = none) : Same H (upd H p o) := fun a u e => by
  rw [upd_ne (ne_of_none e h)]; exact e
theorem Fr.put {M : List Addr} {H H' : Hp} {p : Addr} {o : HO} (f : Fr M H H') (h : p ∈ M) : Fr M H (upd H' p o) := fun a u n e => by
  rw [upd_ne (fun q : a = p => n (by rw [q]; exact h))]; exact f a u n e
theorem Fr.mono {M N : List Addr} {H H' : Hp} (f : Fr M H H') (s : ∀ a ∈ M, a ∈ N) : Fr N H H' := fun a o n h => f a o (fun q => n (s a q)) h
theorem Fr.nil {H H' : Hp} (f : Fr [] H H') : Same H H' := fun a o h => f a o (by simp) h
theorem Fr.back {M : List Addr} {H H' : Hp} {p : Addr} (f : Fr M H H') (hp : p ∉ M) (h : H' p = none) : H p = none := by
  cases q : H p with
  | none => rfl
  | some o => rw [f p o hp q] at h; cases h
theorem Fr.out {M : List Addr} {H H1 H2 : Hp} (f : Fr M H1 H2) (s : Same H H1) (hM : ∀ b ∈ M, H b = none) : Same H H2 := fun a o h => f a o (fun q => by rw [hM a q] at h; cases h) (s a o h)
theorem Fr.drop {M : List Addr} {H H' : Hp} {f : Addr} (fr : Fr (M ++ [f]) H H') (h : H f = none) : Fr M H H' := fun a o n e => fr a o (by
  simp only [List.mem_append, List.mem_singleton, not_or]
  exact ⟨n, ne_of_none e h⟩) e
theorem SqL.mono {K : PySem.W.Frag} {H H' : Hp} {a : Addr} {xs : List V} (e : Same H H') (h : SqL K H a xs) : SqL K H' a xs := e.seq h
theorem SqT.mono {K : PySem.W.Frag} {H H' : Hp} {a : Addr} {xs : List V} (e : Same H H') (h : SqT K H a xs) : SqT K H' a xs := by
  rcases h with (h | ⟨o, h⟩) | h
  · exact .inl (.inl (e _ _ h))
  · exact .inl (.inr ⟨o, e _ _ h⟩)
  · exact .inr h
mutual
theorem Dp.mono {K : PySem.W.Frag} {H H' : Hp} (e : Same H H') : ∀ {v : V} {d : PyData}, Dp K H v d → Dp K H' v d
  | _, _, .non => .non
  | _, _, .bl b => .bl b
  | _, _, .int i => .int i
  | _, _, .str x => .str x
  | _, _, .lst h r => .lst (SqL.mono e h) (DpAll.mono e r)
  | _, _, .tup h r => .tup (SqT.mono e h) (DpAll.mono e r)
theorem DpAll.mono {K : PySem.W.Frag} {H H' : Hp} (e : Same H H') : ∀ {v : List V} {d : List PyData}, DpAll K H v d → DpAll K H' v d
  | _, _, .nil => .nil
  | _, _, .cons a b => .cons (Dp.mono e a) (DpAll.mono e b)
end

theorem DpAll.length {K : PySem.W.Frag} {H : Hp} : ∀ {v : List V} {d : List PyData}, DpAll K H v d → v.length = d.length
  | _, _, .nil => rfl
  | _, _, .cons _ b => by rw [List.length_cons, List.length_cons, DpAll.length b]
theorem DpAll.get {K : PySem.W.Frag} {H : Hp} : ∀ {v : List V} {d : List PyData} {i : Nat} {x : V}, DpAll K H v d → v[i]? = some x → ∃ y, d[i]? = some y ∧ Dp K H x y
  | _, _, _, _, .nil, h => by simp at h
  | _, _, 0, _, .cons a _, h => by simp at h; subst h; exact ⟨_, rfl, a⟩
  | _, _, i + 1, _, .cons _ b, h => by
    obtain ⟨y, e, q⟩ := DpAll.get (i := i) b (by simpa using h)
    exact ⟨y, by simpa using e, q⟩
theorem Dp.list_of {K : PySem.W.Frag} {H : Hp} {v : V} {ds : List PyData} (h : Dp K H v (.list ds)) : ∃ a xs, v = .ref a ∧ SqL K H a xs ∧ DpAll K H xs ds := by
  cases h with
  | lst s r => exact ⟨_, _, rfl, s, r⟩
theorem Dp.tuple_of {K : PySem.W.Frag} {H : Hp} {v : V} {ds : List PyData} (h : Dp K H v (.tuple ds)) : ∃ a xs, v = .ref a ∧ SqT K H a xs ∧ DpAll K H xs ds := by
  cases h with
  | tup s r => exact ⟨_, _, rfl, s, r⟩
/-- the built-in class of data -/
def kindD : PyData → String
  | .none => "NoneType"
  | .bool _ => "bool"
  | .int _ => "int"
  | .str _ => "str"
  | .list _ => "list"
  | .tuple _ => "tuple"
  | .dict _ => "dict"
theorem SqL.ty {K : PySem.W.Frag} {H : Hp} {a : Addr} {xs : List V} (h : SqL K H a xs) : TyX K H (.ref a) (.type "list") := by
  rcases h with (h | ⟨o, h⟩) | ⟨o, its, n, e, c, _⟩
  · exact .base (.lst h)
  · exact .base (.frz h)
  · exact .kList e c
theorem SqT.ty {K : PySem.W.Frag} {H : Hp} {a : Addr} {xs : List V} (h : SqT K H a xs) : TyX K H (.ref a) (.type "tuple") := by
  rcases h with (h | ⟨o, h⟩) | ⟨o, its, n, e, c, _⟩
  · exact .base (.tup h)
  · exact .fTuple h
  · exact .kTuple e c
theorem Dp.ty {K : PySem.W.Frag} {H : Hp} {v : V} {d : PyData} (h : Dp K H v d) : TyX K H v (.type (kindD d)) := by
  cases h with
  | non => exact .base .non
  | bl b => exact .base (.bl b)
  | int i => exact .base (.int i)
  | str x => exact .base (.str x)
  | lst s _ => exact SqL.ty s
  | tup s _ => exact SqT.ty s
theorem tyD {K : PySem.W.Frag} {H : Hp} {v : V} {d : PyData} (A : String) (h : Dp K H v d) (e : kindD d = A) : TyX K H v (.type A) := e ▸ Dp.ty h
theorem ltC : Paired ClsV [.ty "list", .ty "tuple"] [.type "list", .type "tuple"] := .cons (.ty _) (.cons (.ty _) .nil)
theorem kitLT {K : PySem.W.Frag} (A : String) (b c : Bool) (k : kitB A "list" = some b) (k2 : kitB A "tuple" = some c) : PySem.W.kitAny K (.type A) [.type "list", .type "tuple"] = some (b || c) := by
  refine kitAny_cons (kit_ty k) (fun e => ?_) (fun e => by rw [e]; rfl)
  subst e
  exact kitAny_cons (kit_ty k2) (fun e => by subst e; exact kitAny_nil) (fun e => by rw [e]; rfl)
theorem lay_mem : ∀ {ds : List PyData} {d : PyData}, PyData.canLayAll0 ds = true → d ∈ ds → d.canLay0 = true
  | [], _, _, h => by cases h
  | x :: r, d, h, hm => by
    have h' : (x.canLay0 && PyData.canLayAll0 r) = true := h
    rw [Bool.and_eq_true] at h'
    rcases List.mem_cons.mp hm with rfl | hm
    · exact h'.1
    · exact lay_mem h'.2 hm
theorem depth_mem : ∀ {ds : List PyData} {d : PyData}, d ∈ ds → d.depth ≤ PyData.depthAll ds
  | [], _, h => by cases h
  | x :: r, d, hm => by
    show _ ≤ max x.depth (PyData.depthAll r)
    rcases List.mem_cons.mp hm with rfl | hm
    · exact Nat.le_max_left _ _
    · exact Nat.le_trans (depth_mem hm) (Nat.le_max_right _ _)
theorem shaped_mem {ds : List PyData} {d : PyData} (h : SeqAt.shaped (.list ds) = true ∨ SeqAt.shaped (.tuple ds) = true) (hm : d ∈ ds) : SeqAt.shaped d = true ∧ d.depth ≤ PyData.depthAll ds := by
  have h1 : PyData.canLayAll0 ds = true ∧ PyData.depthAll ds + 1 ≤ 64 := by
    rcases h with h | h
    · exact ⟨SeqAt.canLay_of_shaped h, SeqAt.depth_of_shaped h⟩
    · exact ⟨SeqAt.canLay_of_shaped h, SeqAt.depth_of_shaped h⟩
  have h2 := depth_mem hm
  refine ⟨?_, h2⟩
  unfold SeqAt.shaped
  rw [lay_mem h1.1 hm, decide_eq_true (by omega)]
  rfl
mutual
/-- how many things data is made of -/
def nodes : PyData → Nat
  | .list xs => nodesAll xs + 1
  | .tuple xs => nodesAll xs + 1
  | _ => 1
def nodesAll : List PyData → Nat
  | [] => 0
  | x :: r => nodes x + nodesAll r
end
theorem nodes_pos (d : PyData) : 1 ≤ nodes d := by cases d <;> simp [nodes]
theorem len_nodes : ∀ ds : List PyData, ds.length ≤ nodesAll ds
  | [] => Nat.le_refl _
  | x :: r => by
    have h1 := nodes_pos x
    have h2 := len_nodes r
    show r.length + 1 ≤ nodes x + nodesAll r
    omega
theorem nodes_mem : ∀ {ds : List PyData} {d : PyData}, d ∈ ds → nodes d ≤ nodesAll ds
  | [], _, h => by cases h
  | x :: r, d, hm => by
    show _ ≤ nodes x + nodesAll r
    rcases List.mem_cons.mp hm with rfl | hm
    · omega
    · have := nodes_mem hm
      omega
theorem walk_zipT {K : PySem.W.Frag} {a b : Addr} {xs ys : List V} {n : Nat} (hn : n = min xs.length ys.length) :
    Walk (RZ.ItzT K a b) n (fun H => SqT K H a xs ∧ SqT K H b ys) (YPair (fun i => xs[i]?) (fun i => ys[i]?)) := by
  refine ⟨fun i H hi q => ?_, fun H q => ⟨xs, ys, q.1, q.2, by omega⟩, fun i H v H' hi q y => ?_⟩
  · exact ⟨xs, ys, xs[i]'(by omega), ys[i]'(by omega), q.1, q.2, List.getElem?_eq_getElem (by omega), List.getElem?_eq_getElem (by omega)⟩
  · obtain ⟨t, x, z, e1, e2, e3, e4, e5⟩ := y
    exact ⟨t, x, z, e1, e2, e3, e4 xs q.1, e5 ys q.2⟩
/-- a comprehension that lays g of each, nothing else being changed -/
structure LcP {α : Type} (H1 : Hp) (D : Addr) (xs : List α) (g : α → V) (i : Nat) (H : Hp) : Prop where
  new : H1 D = none
  same : Same H1 H
  at_ : H D = some (.lst ((xs.take i).map g))
theorem LcP.start {α : Type} {H1 : Hp} {D : Addr} {xs : List α} {g : α → V} (h : H1 D = none) : LcP H1 D xs g 0 (upd H1 D (.lst [])) := ⟨h, Same.new h, upd_same⟩
theorem LcP.step {α : Type} {H1 H H4 : Hp} {D : Addr} {xs : List α} {g : α → V} {i : Nat} {x : α} {y : V} (p : LcP H1 D xs g i H) (s : Same H H4) (hx : xs[i]? = some x) (hy : y = g x) (hl : xs.length ≤ sizeLine) :
    ∃ acc, H4 D = some (.lst acc) ∧ acc.length < sizeLine ∧ LcP H1 D xs g (i + 1) (upd H4 D (.lst (acc ++ [y]))) := by
  have hi : i < xs.length := (List.getElem?_eq_some_iff.mp hx).1
  refine ⟨_, s _ _ p.at_, by simp; omega, p.new, fun b o e => ?_, ?_⟩
  · rw [upd_ne (ne_of_none e p.new)]
    exact s _ _ (p.same _ _ e)
  · rw [upd_same, hy, List.take_add_one, hx, List.map_append]
    rfl
theorem LcP.done {α : Type} {H1 H : Hp} {D : Addr} {xs : List α} {g : α → V} (p : LcP H1 D xs g xs.length H) : H D = some (.lst (xs.map g)) := by
  have h := p.at_
  rw [List.take_length] at h
  exact h

/-- a comprehension: what is laid so far is told by A -/
structure LcA (H1 : Hp) (D : Addr) (A : Nat → List V) (i : Nat) (H : Hp) : Prop where
  new : H1 D = none
  same : Same H1 H
  at_ : H D = some (.lst (A i))
theorem LcA.start {H1 : Hp} {D : Addr} {A : Nat → List V} (h : H1 D = none) (h0 : A 0 = []) : LcA H1 D A 0 (upd H1 D (.lst [])) := ⟨h, Same.new h, by rw [upd_same, h0]⟩
theorem LcA.put {H1 H H4 : Hp} {D : Addr} {A : Nat → List V} {i : Nat} {y : V} (p : LcA H1 D A i H) (s : Same H H4) (hA : A (i + 1) = A i ++ [y]) (hl : (A i).length < sizeLine) :
    ∃ acc, H4 D = some (.lst acc) ∧ acc.length < sizeLine ∧ LcA H1 D A (i + 1) (upd H4 D (.lst (acc ++ [y]))) := by
  refine ⟨_, s _ _ p.at_, hl, p.new, fun b o e => ?_, by rw [upd_same, hA]⟩
  rw [upd_ne (ne_of_none e p.new)]
  exact s _ _ (p.same _ _ e)
theorem LcA.skip {H1 H H4 : Hp} {D : Addr} {A : Nat → List V} {i : Nat} (p : LcA H1 D A i H) (s : Same H H4) (hA : A (i + 1) = A i) : LcA H1 D A (i + 1) H4 :=
  ⟨p.new, p.same.trans s, by rw [hA]; exact s _ _ p.at_⟩

/-- tuples and locked things stay -/
def Immut : HO → Prop
  | .tup _ => True
  | .frz _ _ => True
  | .ins _ _ _ => True
  | .own _ => True
  | _ => False
def KeepT (H H' : Hp) : Prop := ∀ t u, Immut u → H t = some u → H' t = some u
theorem KeepT.refl (H : Hp) : KeepT H H := fun _ _ _ h => h
theorem KeepT.trans {H H1 H2 : Hp} (a : KeepT H H1) (b : KeepT H1 H2) : KeepT H H2 := fun t u i h => b t u i (a t u i h)
theorem Same.kt {H H' : Hp} (s : Same H H') : KeepT H H' := fun t u _ h => s t u h
theorem KeepT.new {H : Hp} {p : Addr} {o : HO} (h : H p = none) : KeepT H (upd H p o) := Same.kt (Same.new h)
theorem KeepT.lst {H : Hp} {p : Addr} {xs : List V} {o : HO} (h : H p = some (.lst xs)) : KeepT H (upd H p o) := fun t u i e => by
  have hn : t ≠ p := fun q => by
    rw [q, h] at e
    cases e
    exact i
  rw [upd_ne hn]
  exact e
mutual
def noList : PyData → Bool
  | .list _ => false
  | .dict _ => false
  | .tuple xs => noLists xs
  | _ => true
def noLists : List PyData → Bool
  | [] => true
  | x :: r => noList x && noLists r
end
theorem SqT.keep {K : PySem.W.Frag} {H H' : Hp} {a : Addr} {xs : List V} (e : KeepT H H') (h : SqT K H a xs) : SqT K H' a xs := by
  rcases h with (h | ⟨o, h⟩) | h
  · exact .inl (.inl (e _ _ trivial h))
  · exact .inl (.inr ⟨o, e _ _ trivial h⟩)
  · exact .inr h
mutual
theorem Dp.keep {K : PySem.W.Frag} {H H' : Hp} (e : KeepT H H') : ∀ {v : V} {d : PyData}, Dp K H v d → noList d = true → Dp K H' v d
  | _, _, .non, _ => .non
  | _, _, .bl b, _ => .bl b
  | _, _, .int i, _ => .int i
  | _, _, .str x, _ => .str x
  | _, _, .lst _ _, h => by cases h
  | _, _, .tup s r, h => .tup (SqT.keep e s) (DpAll.keep e r h)
theorem DpAll.keep {K : PySem.W.Frag} {H H' : Hp} (e : KeepT H H') : ∀ {v : List V} {d : List PyData}, DpAll K H v d → noLists d = true → DpAll K H' v d
  | _, _, .nil, _ => .nil
  | _, _, .cons a b, h => by
    have h' := Bool.and_eq_true_iff.mp h
    exact .cons (Dp.keep e a h'.1) (DpAll.keep e b h'.2)
end
theorem DpAll.take {K : PySem.W.Frag} {H : Hp} : ∀ {v : List V} {d : List PyData} (n : Nat), DpAll K H v d → DpAll K H (v.take n) (d.take n)
  | _, _, 0, _ => .nil
  | _, _, _ + 1, .nil => .nil
  | _, _, n + 1, .cons a b => .cons a (DpAll.take n b)
theorem DpAll.set {K : PySem.W.Frag} {H : Hp} {y : V} {c : PyData} (hy : Dp K H y c) : ∀ {v : List V} {d : List PyData} (n : Nat), DpAll K H v d → DpAll K H (v.set n y) (d.set n c)
  | _, _, _, .nil => .nil
  | _, _, 0, .cons _ b => .cons hy b
  | _, _, n + 1, .cons a b => .cons a (DpAll.set hy n b)

theorem DpAll.ints {K : PySem.W.Frag} {H : Hp} : ∀ ns : List Int, DpAll K H (ns.map V.int) (ns.map .int)
  | [] => .nil
  | n :: r => .cons (.int n) (DpAll.ints r)
/-- the box of draws at B, n draws behind it at most -/
def Box (H : Hp) (B : Addr) (n : Nat) : Prop := ∃ b0 b1 b2 : Int, H B = some (.lst [.int b0, .int b1, .int b2]) ∧ 0 ≤ b0 ∧ 0 ≤ b1 ∧ b1 < 2147483647 ∧ 0 ≤ b2 ∧ b2 ≤ (n : Int)
theorem Box.mono {H : Hp} {B : Addr} {n m : Nat} (b : Box H B n) (h : n ≤ m) : Box H B m := by
  obtain ⟨b0, b1, b2, e, h0, h1, h2, h3, h4⟩ := b
  exact ⟨b0, b1, b2, e, h0, h1, h2, h3, by omega⟩
theorem Box.some {H : Hp} {B : Addr} {n : Nat} (b : Box H B n) : ∃ o, H B = some o := by
  obtain ⟨b0, b1, b2, e, _⟩ := b
  exact ⟨_, e⟩
theorem Box.keep {H H' : Hp} {B : Addr} {n : Nat} (b : Box H B n) (s : Same H H') : Box H' B n := by
  obtain ⟨b0, b1, b2, e, h⟩ := b
  exact ⟨b0, b1, b2, s _ _ e, h⟩
theorem Box.put {H : Hp} {B p : Addr} {n : Nat} {o : HO} (b : Box H B n) (h : p ≠ B) : Box (upd H p o) B n := by
  obtain ⟨b0, b1, b2, e, r⟩ := b
  exact ⟨b0, b1, b2, by rw [upd_ne h.symm]; exact e, r⟩
theorem Box.ne {H : Hp} {B p : Addr} {n : Nat} (b : Box H B n) (h : H p = none) : p ≠ B := by
  obtain ⟨o, e⟩ := b.some
  exact (ne_of_none e h).symm
theorem Fr.kt {H H' : Hp} {B : Addr} {n : Nat} (f : Fr [B] H H') (b : Box H B n) : KeepT H H' := fun t u i e => by
  have hn : t ≠ B := fun q => by
    obtain ⟨b0, b1, b2, hB, _⟩ := b
    rw [q, hB] at e
    cases e
    exact i
  exact f t u (by simp [hn]) e
theorem iteD {p A B : Prop} [Decidable p] (h1 : p → A) (h2 : ¬ p → B) : if decide p = true then A else B := by
  by_cases h : p
  · rw [if_pos (decide_eq_true h)]; exact h1 h
  · rw [if_neg (by rw [decide_eq_false h]; exact Bool.false_ne_true)]; exact h2 h
theorem iteND {p A B : Prop} [Decidable p] (h1 : ¬ p → A) (h2 : p → B) : if (!decide p) = true then A else B := by
  by_cases h : p
  · rw [decide_eq_true h]; exact iteF (h2 h)
  · rw [decide_eq_false h]; exact iteT (h1 h)
theorem iteDS {p A B : Prop} [Decidable p] (h : p) (a : A) : if decide p = true then A else B := by rw [if_pos (decide_eq_true h)]; exact a
theorem iteDN {p A B : Prop} [Decidable p] (h : ¬ p) (b : B) : if decide p = true then A else B := by rw [decide_eq_false h]; exact iteF b
theorem iteNDN {p A B : Prop} [Decidable p] (h : ¬ p) (a : A) : if (!decide p) = true then A else B := by rw [decide_eq_false h]; exact iteT a
theorem ixN_nat {n j : Nat} (h : j < n) : ixN n (j : Int) = some j := by
  unfold ixN
  rw [if_pos (by omega), if_pos (by omega), Int.toNat_natCast]
def max3 (i j k : Int) : Int := if k > (if j > i then j else i) then k else (if j > i then j else i)
theorem log2_ok {x : Int} (h : x.natAbs < 2 ^ 200) : x.natAbs.log2 < 1920 := by
  by_cases h0 : x.natAbs = 0
  · rw [h0]; decide
  · exact Nat.lt_of_lt_of_le ((Nat.log2_lt h0).mpr h) (by decide)
theorem log2_ok18 {x : Int} (h : x.natAbs < 10 ^ 18) : x.natAbs.log2 < 1920 := log2_ok (Nat.lt_of_lt_of_le h (by decide))
theorem pe_globE {X : Cx} {x : Str} {v : V} {pos : Pos} (hg : Gl X x) (h : ∃ u, X.mg x = some u ∧ RelV v u) (hd : (x == ("__debug__" : Str)) = false := by decide) : PE X (.Name x pos) (tC v) := by
  obtain ⟨u, hm, r⟩ := h
  exact pe_glob hg hm r hd
end Z
/-! defs that run while no repr is under way; repr and str of data -/
namespace Z
open PySem L2 PySem.Spec PyProof.Rows

/-- a promise that is kept wherever no repr is under way -/
structure FnG (P : Program) (w : World) (K : PySem.W.Frag) (mg : Str → Option Value) (base : Heap) (k : Nat) (f : Addr) (fd : FuncData)
    (ps : List Str) (sp : Sp) : Prop where
  size : ∀ vs H Q E, sp vs H Q E → vs.length = ps.length
  goes : ∀ (A : Around) (outer : List Env) (s : Shared) (H : Hp) (args : Args) (us : List Value) (vs : List V) (Q : VK) (E : XK),
    Room k A → A.guards = some [] → Env0 P w K mg base A outer s H → BindsTo s fd args (ps.zip us) → Vals vs us → sp vs H Q E →
    codeAny (model P w) A (.call (.ref f) args) (CR CX0 outer P w H s Q E) s
section
variable {P : Program} {w : World} {K : PySem.W.Frag} {mg : Str → Option Value} {base : Heap} {k : Nat} {f : Addr} {fd : FuncData} {ps : List Str} {sp : Sp}
theorem FnG.of (F : FnOk P w K mg base CX0 k f fd ps sp) : FnG P w K mg base k f fd ps sp :=
  ⟨F.len, fun A outer s H args us vs Q E hr _ => F.run A outer s H args us vs Q E hr⟩
theorem FnG.fit (F : FnG P w K mg base k f fd ps sp) {j : Nat} (h : k ≤ j) : FnG P w K mg base j f fd ps sp :=
  ⟨F.size, fun A outer s H args us vs Q E hr => F.goes A outer s H args us vs Q E (hr.mono h)⟩
end
section
variable {X : Cx} {k : Nat} {f : Addr} {fd : FuncData} {ps : List Str} {sp : Sp} {dvs : List V} {ds : List Value} {x : Str} {p pos : Pos} {e : Expr} {es : List Expr} {t : TA}
end

/-! the law's call, its def being such a one -/
end Z
namespace Z
open PySem L2 PySem.Spec PyProof.Rows
section
variable {X : Cx}
mutual
theorem Dp.plain {K : PySem.W.Frag} {H : Hp} : ∀ {v : V} {d : PyData}, Dp K H v d → d.hasDict = false
  | _, _, .non => rfl
  | _, _, .bl _ => rfl
  | _, _, .int _ => rfl
  | _, _, .str _ => rfl
  | _, _, .lst _ r => DpAll.plain r
  | _, _, .tup _ r => DpAll.plain r
theorem DpAll.plain {K : PySem.W.Frag} {H : Hp} : ∀ {v : List V} {d : List PyData}, DpAll K H v d → PyData.hasDictAll d = false
  | _, _, .nil => rfl
  | _, _, .cons a b => by
    show (PyData.hasDict _ || PyData.hasDictAll _) = false
    rw [Dp.plain a, DpAll.plain b]
    rfl
end
end
end Z
/-! carrying facts along heaps -/
namespace Z
open PySem L2
theorem Same.at {H H' : Hp} {p : Addr} {o : HO} (s : Same H H') (h : H p = some o) : H' p = some o := s _ _ h
theorem Fr.at1 {H H' : Hp} {B p : Addr} {o : HO} (f : Fr [B] H H') (n : p ≠ B) (h : H p = some o) : H' p = some o := f p o (by simp [n]) h
end Z
/-! tuples cut and put together, by what is to be read there -/
namespace Z
open PySem L2
end Z
/-! defs with defaults -/
namespace Z
open PySem L2 PySem.Spec PyProof.Rows
section
variable {P : Program} {w : World} {K : PySem.W.Frag} {mg : Str → Option Value} {base : Heap} {x qual : Str} {params : Arguments} {body : List Stmt} {scope : Scope} {dvs : List V} {kws : List (Str × V)} {f : Addr} {fd : FuncData}
theorem okD {N ps : List Str} {k : Nat} {sp : Sp} (F : FunD K x qual params body scope dvs kws f fd) (S : FnScope N ps scope) (len : ∀ vs H Q E, sp vs H Q E → vs.length = ps.length)
    (walk : ∀ (cdv : Value) (A : Around) (outer : List Env) (s : Shared) (H : Hp) (vs : List V) (Q : VK) (E : XK), Room k (A.deeper (envOfC qual scope s.heap.objs.size f cdv)) → sp vs H Q E →
      ∃ t, PSs (cxOf CX0 P w K mg base N qual scope f cdv A outer s H E).nox body t ∧ t { nx := fun _ H' => Q .non H', rt := Q } (start N vs) H) : FnOk P w K mg base CX0 (k + 1) f fd ps sp :=
  FunD.ok F S len fun cdv A outer s H vs Q E hr h => by
    obtain ⟨t, der, rd⟩ := walk cdv A outer s H vs Q E hr h
    exact ⟨t, der.nox, rd⟩
end
end Z
/-! values as data: heaps but for some places, slots, what stands in them -/
namespace DL
open PySem L2 Z
open Classical in
/-- H without the places of A -/
noncomputable def hp (A : Addr → Prop) (H : Hp) : Hp := fun a => if A a then none else H a
theorem hp_of {A : Addr → Prop} {H : Hp} {a : Addr} (h : ¬ A a) : hp A H a = H a := if_neg h
theorem hp_some {A : Addr → Prop} {H : Hp} {a : Addr} {o : HO} (h : hp A H a = some o) : ¬ A a ∧ H a = some o := by
  by_cases q : A a
  · rw [show hp A H a = none from if_pos q] at h; cases h
  · exact ⟨q, by rw [← hp_of (H := H) q]; exact h⟩
theorem hp_mk {A : Addr → Prop} {H : Hp} {a : Addr} {o : HO} (h : ¬ A a) (e : H a = some o) : hp A H a = some o := by rw [hp_of h]; exact e
theorem hp_same {A : Addr → Prop} {H : Hp} : Same (hp A H) H := fun _ _ h => (hp_some h).2
def FrA (A : Addr → Prop) (H H' : Hp) : Prop := ∀ a o, ¬ A a → H a = some o → H' a = some o
theorem FrA.refl (A : Addr → Prop) (H : Hp) : FrA A H H := fun _ _ _ h => h
theorem FrA.trans {A : Addr → Prop} {H H1 H2 : Hp} (f : FrA A H H1) (g : FrA A H1 H2) : FrA A H H2 := fun a o n h => g a o n (f a o n h)
theorem FrA.of {A : Addr → Prop} {H H' : Hp} (s : Same H H') : FrA A H H' := fun a o _ h => s a o h
theorem FrA.up {A B : Addr → Prop} {H H' : Hp} (f : FrA A H H') (h : ∀ a, A a → B a) : FrA B H H' := fun a o n e => f a o (fun q => n (h a q)) e
theorem hp_less {A B : Addr → Prop} {H : Hp} (h : ∀ a, B a → A a) : Same (hp A H) (hp B H) := fun a o e => by
  obtain ⟨n, e⟩ := hp_some e
  exact hp_mk (fun q => n (h a q)) e
theorem hp_fr {A W : Addr → Prop} {H H' : Hp} (f : FrA W H H') (h : ∀ a, W a → A a) : Same (hp A H) (hp A H') := fun a o e => by
  obtain ⟨n, e⟩ := hp_some e
  exact hp_mk n (f a o (fun q => n (h a q)) e)
theorem hp_grow {A : Addr → Prop} {H H' : Hp} (s : Same H H') : Same (hp A H) (hp A H') := hp_fr (W := fun _ => False) (FrA.of s) (fun _ q => q.elim)
/-- a caught exception that is kept: its class, its dict -/
def exk (a C dx : Addr) : HO := .ext fun h => ∃ o vs, h.get? a = some o ∧ o.cls = .ref C ∧ o.dict = some dx ∧ o.data = .fields vs
/-- a thing of the store, by its place -/
def hdl (a : Addr) : PyData := .dict [(.none, .int a)]
/-- a tuple of which it is known that it has no dict (its methods can be asked) -/
def tnD (ds : List PyData) : PyData := .dict [(.bool false, .tuple ds)]
/-- a key as data -/
def keyD : L2.Key → PyData
  | .inl i => .int i
  | .inr x => .str x
/-- a dict as data -/
def dctD (kd : List (L2.Key × PyData)) : PyData := .dict ((.bool true, .none) :: kd.map fun z => (keyD z.1, z.2))
mutual
inductive Dq (K : PySem.W.Frag) (H : Hp) : V → PyData → Prop
  | non : Dq K H .non .none
  | bl (b : Bool) : Dq K H (.bl b) (.bool b)
  | int (i : Int) : Dq K H (.int i) (.int i)
  | str (x : Str) : Dq K H (.str x) (.str x)
  | lst {a : Addr} {xs : List V} {ds : List PyData} : SqL K H a xs → DqAll K H xs ds → Dq K H (.ref a) (.list ds)
  | tup {a : Addr} {xs : List V} {ds : List PyData} : SqT K H a xs → DqAll K H xs ds → Dq K H (.ref a) (.tuple ds)
  | obj {a C dx : Addr} {c : Str} {fv : List (Str × V)} {fs : List (PyData × PyData)} : PySem.W.nsIn K mainGlobals c = some (some (.ref C)) → H a = some (.ins C dx fv) → DqFs K H fv fs → Dq K H (.ref a) (.dict ((.str c, .none) :: fs))
  | exc {a C dx : Addr} {c : Str} {fv : List (Str × V)} {fs : List (PyData × PyData)} : PySem.W.nsIn K mainGlobals c = some (some (.ref C)) → H a = some (exk a C dx) → H dx = some (.xd fv) → DqFs K H fv fs → Dq K H (.ref a) (.dict ((.str c, .bool true) :: fs))
  | fnc {a : Addr} {x : Str} : PySem.W.nsIn K mainGlobals x = some (some (.ref a)) → Dq K H (.ref a) (.dict [(.str x, .int 0)])
  | hdl {a : Addr} : Dq K H (.ref a) (hdl a)
  | tn {a : Addr} {o : PySem.Obj} {xs : List V} {ds : List PyData} : H a = some (.frz o (.tup xs)) → o.dict = none → DqAll K H xs ds → Dq K H (.ref a) (tnD ds)
  | dct {a : Addr} {kv : List (L2.Key × V)} {kd : List (L2.Key × PyData)} : L2.Rd H a (.dK kv) → DqKs K H kv kd → Dq K H (.ref a) (dctD kd)
inductive DqKs (K : PySem.W.Frag) (H : Hp) : List (L2.Key × V) → List (L2.Key × PyData) → Prop
  | nil : DqKs K H [] []
  | cons {k : L2.Key} {v : V} {d : PyData} {kv : List (L2.Key × V)} {kd : List (L2.Key × PyData)} : Dq K H v d → DqKs K H kv kd → DqKs K H ((k, v) :: kv) ((k, d) :: kd)
/-- the fields of an object -/
inductive DqFs (K : PySem.W.Frag) (H : Hp) : List (Str × V) → List (PyData × PyData) → Prop
  | nil : DqFs K H [] []
  | cons {f : Str} {v : V} {d : PyData} {fv : List (Str × V)} {fs : List (PyData × PyData)} : Dq K H v d → DqFs K H fv fs → DqFs K H ((f, v) :: fv) ((.str f, d) :: fs)
inductive DqAll (K : PySem.W.Frag) (H : Hp) : List V → List PyData → Prop
  | nil : DqAll K H [] []
  | cons {v : V} {vs : List V} {d : PyData} {ds : List PyData} : Dq K H v d → DqAll K H vs ds → DqAll K H (v :: vs) (d :: ds)
end
mutual
theorem Dq.mono {K : PySem.W.Frag} {H H' : Hp} (e : Same H H') : ∀ {v : V} {d : PyData}, Dq K H v d → Dq K H' v d
  | _, _, .non => .non
  | _, _, .bl b => .bl b
  | _, _, .int i => .int i
  | _, _, .str x => .str x
  | _, _, .lst h r => .lst (SqL.mono e h) (DqAll.mono e r)
  | _, _, .tup h r => .tup (SqT.mono e h) (DqAll.mono e r)
  | _, _, .obj c h r => .obj c (e _ _ h) (DqFs.mono e r)
  | _, _, .exc c h g r => .exc c (e _ _ h) (e _ _ g) (DqFs.mono e r)
  | _, _, .fnc h => .fnc h
  | _, _, .hdl => .hdl
  | _, _, .tn h n r => .tn (e _ _ h) n (DqAll.mono e r)
  | _, _, .dct h r => .dct (h.imp (e _ _) fun ⟨o, q⟩ => ⟨o, e _ _ q⟩) (DqKs.mono e r)
theorem DqKs.mono {K : PySem.W.Frag} {H H' : Hp} (e : Same H H') : ∀ {kv : List (L2.Key × V)} {kd : List (L2.Key × PyData)}, DqKs K H kv kd → DqKs K H' kv kd
  | _, _, .nil => .nil
  | _, _, .cons a b => .cons (Dq.mono e a) (DqKs.mono e b)
theorem DqFs.mono {K : PySem.W.Frag} {H H' : Hp} (e : Same H H') : ∀ {fv : List (Str × V)} {fs : List (PyData × PyData)}, DqFs K H fv fs → DqFs K H' fv fs
  | _, _, .nil => .nil
  | _, _, .cons a b => .cons (Dq.mono e a) (DqFs.mono e b)
theorem DqAll.mono {K : PySem.W.Frag} {H H' : Hp} (e : Same H H') : ∀ {v : List V} {d : List PyData}, DqAll K H v d → DqAll K H' v d
  | _, _, .nil => .nil
  | _, _, .cons a b => .cons (Dq.mono e a) (DqAll.mono e b)
end
mutual
theorem Dq.dp {K : PySem.W.Frag} {H : Hp} : ∀ {v : V} {d : PyData}, Dq K H v d → d.hasDict = false → Dp K H v d
  | _, _, .non, _ => .non
  | _, _, .bl b, _ => .bl b
  | _, _, .int i, _ => .int i
  | _, _, .str x, _ => .str x
  | _, _, .lst h r, e => .lst h (DqAll.dp r e)
  | _, _, .tup h r, e => .tup h (DqAll.dp r e)
  | _, _, .obj _ _ _, e => by cases e
  | _, _, .exc _ _ _ _, e => by cases e
  | _, _, .fnc _, e => by cases e
  | _, _, .hdl, e => by cases e
  | _, _, .tn _ _ _, e => by cases e
  | _, _, .dct _ _, e => by cases e
theorem DqAll.dp {K : PySem.W.Frag} {H : Hp} : ∀ {v : List V} {d : List PyData}, DqAll K H v d → PyData.hasDictAll d = false → DpAll K H v d
  | _, _, .nil, _ => .nil
  | _, _, .cons a b, e => by
    have e' : (PyData.hasDict _ || PyData.hasDictAll _) = false := e
    rw [Bool.or_eq_false_iff] at e'
    exact .cons (Dq.dp a e'.1) (DqAll.dp b e'.2)
end
theorem plain_of {d : PyData} (h : SeqAt.shaped d = true) : d.hasDict = false := PyData.hasDict_of_canLay d (SeqAt.canLay_of_shaped h)
def fldD (f : Str) : List (PyData × PyData) → Option PyData
  | [] => none
  | (.str g, d) :: r => if f = g then some d else fldD f r
  | _ :: r => fldD f r
theorem DqFs.get {K : PySem.W.Frag} {H : Hp} {f : Str} {d : PyData} : ∀ {fv : List (Str × V)} {fs : List (PyData × PyData)}, DqFs K H fv fs → fldD f fs = some d → ∃ v, fv.lookup f = some v ∧ Dq K H v d
  | _, _, .nil, h => by cases h
  | _, _, .cons (f := g) (v := v) (d := c) a b, h => by
    unfold fldD at h
    rw [List.lookup_cons]
    by_cases e : f = g
    · rw [if_pos e] at h
      cases h
      have : (f == g) = true := by rw [e]; exact beq_self_eq_true g
      rw [this]
      exact ⟨_, rfl, a⟩
    · rw [if_neg e] at h
      have : (f == g) = false := by simpa using e
      rw [this]
      exact DqFs.get b h
section
variable {K : PySem.W.Frag} {H : Hp}
theorem DqAll.length : ∀ {v : List V} {d : List PyData}, DqAll K H v d → v.length = d.length
  | _, _, .nil => rfl
  | _, _, .cons _ b => by rw [List.length_cons, List.length_cons, DqAll.length b]
theorem DqAll.get : ∀ {v : List V} {d : List PyData} {i : Nat} {x : V}, DqAll K H v d → v[i]? = some x → ∃ y, d[i]? = some y ∧ Dq K H x y
  | _, _, _, _, .nil, h => by simp at h
  | _, _, 0, _, .cons a _, h => by simp at h; subst h; exact ⟨_, rfl, a⟩
  | _, _, i + 1, _, .cons _ b, h => by
    obtain ⟨y, e, q⟩ := DqAll.get (i := i) b (by simpa using h)
    exact ⟨y, by simpa using e, q⟩
theorem DqAll.got : ∀ {v : List V} {d : List PyData} {i : Nat} {y : PyData}, DqAll K H v d → d[i]? = some y → ∃ x, v[i]? = some x ∧ Dq K H x y
  | _, _, _, _, .nil, h => by simp at h
  | _, _, 0, _, .cons a _, h => by simp at h; subst h; exact ⟨_, rfl, a⟩
  | _, _, i + 1, _, .cons _ b, h => by
    obtain ⟨y, e, q⟩ := DqAll.got (i := i) b (by simpa using h)
    exact ⟨y, by simpa using e, q⟩
theorem DqAll.append : ∀ {v : List V} {d : List PyData} {w : List V} {e : List PyData}, DqAll K H v d → DqAll K H w e → DqAll K H (v ++ w) (d ++ e)
  | _, _, _, _, .nil, h => h
  | _, _, _, _, .cons a b, h => .cons a (DqAll.append b h)
theorem DqAll.take : ∀ {v : List V} {d : List PyData} (n : Nat), DqAll K H v d → DqAll K H (v.take n) (d.take n)
  | _, _, 0, _ => .nil
  | _, _, _ + 1, .nil => .nil
  | _, _, n + 1, .cons a b => .cons a (DqAll.take n b)
theorem DqAll.drop : ∀ {v : List V} {d : List PyData} (n : Nat), DqAll K H v d → DqAll K H (v.drop n) (d.drop n)
  | _, _, 0, h => h
  | _, _, _ + 1, .nil => .nil
  | _, _, n + 1, .cons _ b => DqAll.drop n b
theorem DqAll.set {y : V} {c : PyData} (hy : Dq K H y c) : ∀ {v : List V} {d : List PyData} (n : Nat), DqAll K H v d → DqAll K H (v.set n y) (d.set n c)
  | _, _, _, .nil => .nil
  | _, _, 0, .cons _ b => .cons hy b
  | _, _, n + 1, .cons a b => .cons a (DqAll.set hy n b)
theorem DqAll.rep {v : List V} {d : List PyData} (h : DqAll K H v d) : ∀ n : Nat, DqAll K H (List.replicate n v).flatten (List.replicate n d).flatten
  | 0 => .nil
  | n + 1 => by rw [List.replicate_succ, List.replicate_succ, List.flatten_cons, List.flatten_cons]; exact DqAll.append h (DqAll.rep h n)
theorem DqAll.ints : ∀ ns : List Int, DqAll K H (ns.map V.int) (ns.map .int)
  | [] => .nil
  | n :: r => .cons (.int n) (DqAll.ints r)
theorem DqAll.strs_of : ∀ {ns : List Str} {v : List V}, DqAll K H v (ns.map .str) → v = ns.map V.str
  | [], _, .nil => rfl
  | n :: r, _, .cons a b => by cases a; rw [DqAll.strs_of b]; rfl
theorem DqAll.bools_of : ∀ {ns : List Bool} {v : List V}, DqAll K H v (ns.map .bool) → v = ns.map V.bl
  | [], _, .nil => rfl
  | n :: r, _, .cons a b => by cases a; rw [DqAll.bools_of b]; rfl
theorem Dq.list_of {v : V} {ds : List PyData} (h : Dq K H v (.list ds)) : ∃ a xs, v = .ref a ∧ SqL K H a xs ∧ DqAll K H xs ds := by
  cases h with
  | lst s r => exact ⟨_, _, rfl, s, r⟩
theorem Dq.tuple_of {v : V} {ds : List PyData} (h : Dq K H v (.tuple ds)) : ∃ a xs, v = .ref a ∧ SqT K H a xs ∧ DqAll K H xs ds := by
  cases h with
  | tup s r => exact ⟨_, _, rfl, s, r⟩
end

/-- a thing that may change, by what stands in it -/
inductive SO where
  | lst (ds : List PyData)
  | obj (c : Str) (fs : List (PyData × PyData))
  | dct (kvs : List (L2.Key × PyData))
  | dctL (od : PySem.Obj) (kv : List (L2.Key × V)) (kvs : List (L2.Key × PyData))
/-- the things that may change and be met by several names, by their places -/
abbrev Sto := Addr → Option SO
/-- the tracked heap and the store -/
structure Hs where
  hp : Hp
  st : Sto
instance : CoeFun Hs (fun _ => Addr → Option HO) := ⟨Hs.hp⟩
instance : Coe Hs Hp := ⟨Hs.hp⟩
inductive SoR (K : PySem.W.Frag) (G : Hp) : HO → SO → Prop
  | lst {xs : List V} {ds : List PyData} : DqAll K G xs ds → SoR K G (.lst xs) (.lst ds)
  | obj {C dx : Addr} {c : Str} {fv : List (Str × V)} {fs : List (PyData × PyData)} : PySem.W.nsIn K mainGlobals c = some (some (.ref C)) → DqFs K G fv fs → SoR K G (.ins C dx fv) (.obj c fs)
  | dct {kv : List (L2.Key × V)} {kd : List (L2.Key × PyData)} : DqKs K G kv kd → SoR K G (.dK kv) (.dct kd)
  | dctL {od : PySem.Obj} {kv : List (L2.Key × V)} {kd : List (L2.Key × PyData)} : DqKs K G kv kd → SoR K G (.frz od (.dK kv)) (.dctL od kv kd)
theorem SoR.mono {K : PySem.W.Frag} {G G' : Hp} (e : Same G G') {u : HO} {o : SO} (h : SoR K G u o) : SoR K G' u o := by
  cases h with
  | lst q => exact .lst (q.mono e)
  | obj c q => exact .obj c (q.mono e)
  | dct q => exact .dct (q.mono e)
  | dctL q => exact .dctL (q.mono e)
theorem SoR.ntb {K : PySem.W.Frag} {G : Hp} {u : HO} {o : SO} (h : SoR K G u o) : ∀ ps, u ≠ .tbl ps := fun ps e => by subst e; cases h
/-- the store is as said -/
def StoR (K : PySem.W.Frag) (G H : Hp) (S : Sto) : Prop := ∀ a o, S a = some o → ∃ u, H a = some u ∧ SoR K G u o
theorem StoR.move {K : PySem.W.Frag} {G G' H H' : Hp} {S : Sto} (h : StoR K G H S) (s : Same G G') (k : ∀ a, S a ≠ none → H' a = H a) : StoR K G' H' S := fun a o e => by
  obtain ⟨u, e1, q⟩ := h a o e
  exact ⟨u, by rw [k a (by rw [e]; exact Option.some_ne_none _)]; exact e1, q.mono s⟩
def Nod (H : Hp) (b : Addr) : Prop := ∃ o, H b = some o ∧ ∀ ps, o ≠ .tbl ps

/-- a slot: nothing that is known, data that stays, a list that is its own; behind all slots the store -/
inductive Sl where
  | no
  | fz (d : PyData)
  | own (ds : List PyData)
  | st (S : Sto)
abbrev En := List Sl
/-- the tables of code objects that may grow -/
class Tbs where
  T : List (Addr × Str)
variable [Tbs]
abbrev TabsOk (H : Hp) : Prop := LamX.Tabs Tbs.T H
theorem TabsOk.put {H : Hp} {a : Addr} {xs ys : List V} (t : TabsOk H) (h : H a = some (.lst xs)) : TabsOk (upd H a (.lst ys)) := fun p hp => by
  obtain ⟨ps, h1, h2, h3⟩ := t p hp
  have ne : ∀ b o, H b = some o → o ≠ .lst xs → b ≠ a := fun b o e n z => n (Option.some.inj (e.symm.trans (by rw [z]; exact h)))
  refine ⟨ps, by rw [upd_ne (ne _ _ h1 (fun z => by cases z))]; exact h1, h2, fun pos cv hc => ?_⟩
  obtain ⟨c, e1, e2⟩ := h3 pos cv hc
  exact ⟨c, e1, by rw [upd_ne (ne _ _ e2 (fun z => by unfold LamX.CodeO at z; cases z))]; exact e2⟩
theorem TabsOk.full {H : Hp} (t : TabsOk H) {p : Addr × Str} (hp : p ∈ Tbs.T) : H p.1 ≠ none := by
  obtain ⟨ps, h1, _⟩ := t p hp
  rw [h1]
  exact Option.some_ne_none _
theorem TabsOk.no {H : Hp} {a : Addr} {xs : List V} (t : TabsOk H) (h : H a = some (.lst xs)) : ¬ ∃ p ∈ Tbs.T, p.1 = a := fun ⟨p, hp, e⟩ => by
  obtain ⟨ps, h1, _⟩ := t p hp
  rw [e, h] at h1
  cases h1
/-- the tables are none of what is a list, an object, a dict -/
theorem TabsOk.nod {H : Hp} {a : Addr} (t : TabsOk H) (h : Nod H a) : ¬ ∃ p ∈ Tbs.T, p.1 = a := fun ⟨p, hp, e⟩ => by
  obtain ⟨ps, h1, _⟩ := t p hp
  obtain ⟨o, h2, n⟩ := h
  rw [e, h2] at h1
  exact n ps (Option.some.inj h1)
/-- what a slot owns: a place, all of the store -/
inductive Rg where
  | lf (a : Addr)
  | sto
abbrev As := Nat → Option Rg
/-- the places of a slot -/
def Rgn (H : Hs) : Rg → Addr → Prop
  | .lf a, b => b = a
  | .sto, b => H.st b ≠ none
theorem Rgn.lf_of {H : Hs} {a b : Addr} (h : Rgn H (.lf a) b) : b = a := h
theorem Rgn.here {H : Hs} {a : Addr} : Rgn H (.lf a) a := rfl
def Own (as : As) (H : Hs) (a : Addr) : Prop := (∃ i r, as i = some r ∧ Rgn H r a) ∨ ∃ p ∈ Tbs.T, p.1 = a
def Hid (O : Addr → Prop) (as : As) (H : Hs) (a : Addr) : Prop := O a ∨ Own as H a
/-- what data may lean on -/
noncomputable abbrev hq (O : Addr → Prop) (as : As) (H : Hs) : Hp := hp (Hid O as H) H.hp
theorem Own.lf {as : As} {H : Hs} {i : Nat} {a : Addr} (h : as i = some (.lf a)) : Own as H a := .inl ⟨i, _, h, rfl⟩
/-- the store isn't this one's -/
def NoSto (as : As) : Prop := ∀ i, as i ≠ some .sto
/-- but for what is owned and what is new all stays; what is owned was so or is new -/
structure Fr (as : As) (H H' : Hs) : Prop where
  fr : FrA (Own as H) H.hp H'.hp
  new : ∀ a, Own as H' a → Own as H a ∨ H a = none
  liv : ∀ a, H a ≠ none → H' a ≠ none
  nst : NoSto as → H'.st = H.st
section
variable {as as' as'' : As} {H H' H'' : Hs} {n : Nat} {O : Addr → Prop}
theorem Fr.refl : Fr as H H := ⟨FrA.refl _ _, fun _ h => .inl h, fun _ h => h, fun _ => rfl⟩
theorem Fr.trans (x : Fr as H H') (y : Fr as H' H'') : Fr as H H'' := by
  refine ⟨fun a o h e => y.fr a o (fun q => ?_) (x.fr a o h e), fun a q => ?_, fun a h => y.liv a (x.liv a h), fun h => (y.nst h).trans (x.nst h)⟩
  · rcases x.new a q with z | z
    · exact h z
    · rw [z] at e; cases e
  · rcases y.new a q with z | z
    · exact x.new a z
    · by_cases w : Own as H a
      · exact .inl w
      · cases e : H a with
        | none => exact .inr rfl
        | some o => rw [x.fr a o w e] at z; cases z
/-- how one state comes of another: but for own things and new objects all stays -/
structure Ext (n : Nat) (as as' : As) (H H' : Hs) : Prop where
  fr : FrA (Own as H) H.hp H'.hp
  new : ∀ a, Own as' H' a → Own as H a ∨ H a = none
  fix : ∀ i, i < n → as' i = as i
  liv : ∀ a, H a ≠ none → H' a ≠ none
  ks : ∀ i, as' i = some .sto ↔ as i = some .sto
  nst : NoSto as → H'.st = H.st
theorem Ext.refl : Ext n as as H H := ⟨FrA.refl _ _, fun _ h => .inl h, fun _ _ => rfl, fun _ h => h, fun _ => Iff.rfl, fun _ => rfl⟩
theorem Ext.of (f : Fr as H H') : Ext n as as H H' := ⟨f.fr, f.new, fun _ _ => rfl, f.liv, fun _ => Iff.rfl, f.nst⟩
theorem Ext.trans (x : Ext n as as' H H') (y : Ext n as' as'' H' H'') : Ext n as as'' H H'' := by
  refine ⟨fun a o h e => y.fr a o (fun q => ?_) (x.fr a o h e), fun a q => ?_, fun i h => (y.fix i h).trans (x.fix i h), fun a h => y.liv a (x.liv a h), fun i => (y.ks i).trans (x.ks i), fun h => (y.nst fun i z => h i ((x.ks i).mp z)).trans (x.nst h)⟩
  · rcases x.new a q with z | z
    · exact h z
    · rw [z] at e; cases e
  · rcases y.new a q with z | z
    · exact x.new a z
    · by_cases w : Own as H a
      · exact .inl w
      · cases e : H a with
        | none => exact .inr rfl
        | some o => rw [x.fr a o w e] at z; cases z
theorem Ext.same (x : Ext n as as' H H') : Same (hq O as H) (hq O as' H') := fun a o e => by
  obtain ⟨h, e⟩ := hp_some e
  refine hp_mk (fun q => ?_) (x.fr a o (fun z => h (.inr z)) e)
  rcases q with q | q
  · exact h (.inl q)
  · rcases x.new a q with z | z
    · exact h (.inr z)
    · rw [z] at e; cases e
theorem Fr.same (x : Fr as H H') : Same (hq O as H) (hq O as H') := (Ext.of (n := 0) x).same
end
/-- what is so from some state on -/
structure Jv (n : Nat) where
  P : As → Hs → Prop
  cl : ∀ as as' H H', P as H → Ext n as as' H H' → P as' H'
  Q : (Addr → Prop) → Prop
  up : ∀ O O' : Addr → Prop, (∀ a, O a → O' a) → Q O → Q O'
def J0 {n : Nat} : Jv n := ⟨fun _ _ => True, fun _ _ _ _ _ _ => trivial, fun _ => True, fun _ _ _ _ => trivial⟩
/-- all that comes of this state -/
def Jst (n : Nat) (O : Addr → Prop) (as : As) (H : Hs) : Jv n := ⟨fun as' H' => Ext n as as' H H', fun _ _ _ _ x y => x.trans y, fun O' => ∀ a, O a → O' a, fun _ _ h q a z => h a (q a z)⟩
def Jv.and {n : Nat} (J J' : Jv n) : Jv n := ⟨fun as H => J.P as H ∧ J'.P as H, fun _ _ _ _ x y => ⟨J.cl _ _ _ _ x.1 y, J'.cl _ _ _ _ x.2 y⟩, fun O => J.Q O ∧ J'.Q O, fun _ _ h q => ⟨J.up _ _ h q.1, J'.up _ _ h q.2⟩⟩
def Jv.le {n : Nat} (J' J : Jv n) : Prop := (∀ as H, J'.P as H → J.P as H) ∧ ∀ O, J'.Q O → J.Q O
theorem Jv.le.refl {n : Nat} {J : Jv n} : J.le J := ⟨fun _ _ h => h, fun _ h => h⟩
theorem Jv.fr {n : Nat} (J : Jv n) {as : As} {H H' : Hs} (h : J.P as H) (f : Fr as H H') : J.P as H' := J.cl _ _ _ _ h (.of f)
inductive SlR (K : PySem.W.Frag) (G H : Hp) : Option Rg → Sl → Option V → Prop
  | no {o : Option V} : SlR K G H none .no o
  | fz {v : V} {d : PyData} : Dq K G v d → SlR K G H none (.fz d) (some v)
  | own {a : Addr} {xs : List V} {ds : List PyData} : H a = some (.lst xs) → DqAll K G xs ds → SlR K G H (some (.lf a)) (.own ds) (some (.ref a))
structure EnR (K : PySem.W.Frag) {n : Nat} (J : Jv n) (O : Addr → Prop) (as : As) (H : Hs) (ρ : En) (σ : L2.St) : Prop where
  len : σ.length ≤ ρ.length ∧ ρ.length ≤ σ.length + 1
  tl : ∀ (i : Nat) (sl : Sl), ρ[i]? = some sl → σ.length ≤ i → as i = some .sto
  at_ : ∀ (i : Nat) (sl : Sl) (o : Option V), ρ[i]? = some sl → σ[i]? = some o → SlR K (hq O as H) H.hp (as i) sl o
  sto : ∀ i, as i = some .sto → i = σ.length ∧ ρ[i]? = some (.st H.st) ∧ StoR K (hq O as H) H.hp H.st
  inj : ∀ (i j : Nat) (r r' : Rg) (b : Addr), as i = some r → as j = some r' → Rgn H r b → Rgn H r' b → i = j
  out : ∀ (i : Nat) (r : Rg) (b : Addr), as i = some r → Rgn H r b → ¬ O b
  bnd : ∀ (i : Nat) (r : Rg), as i = some r → i < ρ.length
  occ : ∀ a, O a → H a ≠ none
  inv : J.P as H
  inq : J.Q O
  tab : TabsOk H.hp
/-- another heap, the same store -/
abbrev Hs.w (H : Hs) (H' : Hp) : Hs := ⟨H', H.st⟩
section
variable {K : PySem.W.Frag} {n : Nat} {J : Jv n} {O : Addr → Prop} {as as' as'' : As} {H H' H'' : Hs} {G' : Hp} {ρ : En} {σ : L2.St} {i : Nat} {v : V} {d : PyData} {ds : List PyData}
theorem EnR.reJ {n' : Nat} {J' : Jv n'} (E : EnR K J O as H ρ σ) (h : J'.P as H) (q : J'.Q O) : EnR K J' O as H ρ σ := ⟨E.len, E.tl, E.at_, E.sto, E.inj, E.out, E.bnd, E.occ, h, q, E.tab⟩
/-- a slot that is none of the store -/
theorem EnR.lt (E : EnR K J O as H ρ σ) {sl : Sl} (h : ρ[i]? = some sl) (ns : ∀ S, sl ≠ .st S) : i < σ.length := by
  rcases Nat.lt_or_ge i σ.length with z | z
  · exact z
  · have e := (E.sto i (E.tl i sl h z)).2.1
    rw [h] at e
    exact absurd (Option.some.inj e) (ns _)
theorem EnR.at' (E : EnR K J O as H ρ σ) {sl : Sl} (h : ρ[i]? = some sl) (ns : ∀ S, sl ≠ .st S) : ∃ o, σ[i]? = some o ∧ SlR K (hq O as H) H.hp (as i) sl o := by
  have hi := E.lt h ns
  exact ⟨_, List.getElem?_eq_getElem hi, E.at_ i sl _ h (List.getElem?_eq_getElem hi)⟩
theorem EnR.fz_at (E : EnR K J O as H ρ σ) (h : ρ[i]? = some (.fz d)) : ∃ v, σ[i]? = some (some v) ∧ as i = none ∧ Dq K (hq O as H) v d := by
  obtain ⟨o, e, r⟩ := E.at' h (fun _ z => by cases z)
  generalize as i = z at r
  cases r with
  | fz q => exact ⟨_, e, rfl, q⟩
theorem EnR.own_at (E : EnR K J O as H ρ σ) (h : ρ[i]? = some (.own ds)) : ∃ a xs, σ[i]? = some (some (.ref a)) ∧ as i = some (.lf a) ∧ H a = some (.lst xs) ∧ DqAll K (hq O as H) xs ds := by
  obtain ⟨o, e, r⟩ := E.at' h (fun _ z => by cases z)
  generalize as i = z at r
  cases r with
  | own q z => exact ⟨_, _, e, rfl, q, z⟩
theorem EnR.st_at (E : EnR K J O as H ρ σ) {S : Sto} (h : ρ[i]? = some (.st S)) : as i = some .sto ∧ S = H.st ∧ StoR K (hq O as H) H.hp S := by
  have z : σ.length ≤ i := by
    rcases Nat.lt_or_ge i σ.length with z | z
    · have q := E.at_ i _ _ h (List.getElem?_eq_getElem z)
      generalize as i = w at q
      cases q
    · exact z
  have e := E.tl i _ h z
  obtain ⟨_, e2, q⟩ := E.sto i e
  rw [h] at e2
  cases e2
  exact ⟨e, rfl, q⟩
/-- a slot with places of its own -/
theorem EnR.is_reg (E : EnR K J O as H ρ σ) {r : Rg} (h : as i = some r) : (∃ a ds xs, r = .lf a ∧ ρ[i]? = some (.own ds) ∧ σ[i]? = some (some (.ref a)) ∧ H a = some (.lst xs) ∧ DqAll K (hq O as H) xs ds) ∨ (r = .sto ∧ i = σ.length ∧ ρ[i]? = some (.st H.st) ∧ StoR K (hq O as H) H.hp H.st) := by
  cases r with
  | sto => exact .inr ⟨rfl, E.sto i h⟩
  | lf a =>
    have hi := E.bnd i _ h
    rcases Nat.lt_or_ge i σ.length with z | z
    · have q := E.at_ i _ _ (List.getElem?_eq_getElem hi) (List.getElem?_eq_getElem z)
      rw [h] at q
      rw [List.getElem?_eq_getElem hi, List.getElem?_eq_getElem z]
      generalize ρ[i] = sl at q
      generalize σ[i] = o at q
      cases q with
      | own q z => exact .inl ⟨a, _, _, rfl, rfl, rfl, q, z⟩
    · have e := E.tl i _ (List.getElem?_eq_getElem hi) z
      rw [h] at e
      cases e
theorem EnR.nod (E : EnR K J O as H ρ σ) {r : Rg} (h : as i = some r) {b : Addr} (q : Rgn H r b) : Nod H.hp b := by
  rcases E.is_reg h with ⟨a, ds, xs, rfl, _, _, e2, _⟩ | ⟨rfl, _, _, w⟩
  · rw [q.lf_of]
    exact ⟨_, e2, fun _ z => by cases z⟩
  · obtain ⟨o, e⟩ := Option.ne_none_iff_exists'.mp (show H.st b ≠ none from q)
    obtain ⟨u, e1, q1⟩ := w b o e
    exact ⟨u, e1, q1.ntb⟩
theorem EnR.is_own (E : EnR K J O as H ρ σ) {a : Addr} (h : as i = some (.lf a)) : ∃ ds xs, ρ[i]? = some (.own ds) ∧ σ[i]? = some (some (.ref a)) ∧ H a = some (.lst xs) ∧ DqAll K (hq O as H) xs ds := by
  rcases E.is_reg h with ⟨b, ds, xs, e, h1, h2, h3, h4⟩ | ⟨e, _⟩
  · cases e; exact ⟨ds, xs, h1, h2, h3, h4⟩
  · cases e
theorem EnR.not_own (E : EnR K J O as H ρ σ) {sl : Sl} (h : ρ[i]? = some sl) (n : ∀ ds, sl ≠ .own ds) (n2 : ∀ S, sl ≠ .st S) : as i = none := by
  cases e : as i with
  | none => rfl
  | some r =>
    rcases E.is_reg e with ⟨_, ds, xs, _, h', _⟩ | ⟨_, _, h', _⟩
    · rw [h] at h'
      exact absurd (Option.some.inj h') (n ds)
    · rw [h] at h'
      exact absurd (Option.some.inj h') (n2 _)
theorem EnR.full (E : EnR K J O as H ρ σ) {a : Addr} (h : Hid O as H a) : H a ≠ none := by
  rcases h with h | ⟨i, r, h, q⟩ | ⟨p, hp, h⟩
  · exact E.occ a h
  · obtain ⟨o, e, _⟩ := E.nod h q
    rw [e]
    exact Option.some_ne_none _
  · rw [← h]
    exact E.tab.full hp
theorem EnR.occ' (E : EnR K J O as H ρ σ) (f : FrA (Own as H) H.hp G') (t : TabsOk G') {a : Addr} (h : O a) : G' a ≠ none := by
  by_cases q : ∃ p ∈ Tbs.T, p.1 = a
  · obtain ⟨p, hp, e⟩ := q
    rw [← e]
    exact t.full hp
  · obtain ⟨o, e⟩ := Option.ne_none_iff_exists'.mp (E.occ a h)
    rw [f a o (fun z => z.elim (fun ⟨i, r, z, w⟩ => E.out i r a z w h) q) e]
    exact Option.some_ne_none _
theorem EnR.fresh (E : EnR K J O as H ρ σ) {a : Addr} (h : H a = none) : ¬ Hid O as H a := fun q => E.full q h
theorem SlR.mono {G G' H H' : Hp} {a : Option Rg} {sl : Sl} {o : Option V} (s : Same G G') (f : ∀ b, a = some (.lf b) → H' b = H b) (r : SlR K G H a sl o) : SlR K G' H' a sl o := by
  cases r with
  | no => exact .no
  | fz q => exact .fz (q.mono s)
  | own q z => exact .own (by rw [f _ rfl]; exact q) (z.mono s)
/-- what the slots own stands as it did -/
structure Stay (as : As) (H H' : Hs) : Prop where
  pl : ∀ i r b, as i = some r → Rgn H r b → H' b = H b
  st : H'.st = H.st
theorem Rgn.st (h : H'.st = H.st) {r : Rg} {b : Addr} : Rgn H' r b ↔ Rgn H r b := by
  cases r with
  | lf a => exact Iff.rfl
  | sto => show H'.st b ≠ none ↔ H.st b ≠ none; rw [h]
theorem Stay.reg (k : Stay as H H') {r : Rg} {b : Addr} : Rgn H' r b ↔ Rgn H r b := Rgn.st k.st
theorem Own.st (h : H'.st = H.st) {b : Addr} : Own as H' b ↔ Own as H b := by
  constructor
  · rintro (⟨i, r, z, q⟩ | z)
    · exact .inl ⟨i, r, z, (Rgn.st h).mp q⟩
    · exact .inr z
  · rintro (⟨i, r, z, q⟩ | z)
    · exact .inl ⟨i, r, z, (Rgn.st h).mpr q⟩
    · exact .inr z
theorem Stay.own (k : Stay as H H') {b : Addr} : Own as H' b ↔ Own as H b := Own.st k.st
theorem EnR.stay (E : EnR K J O as H ρ σ) (s : Same H.hp G') : Stay as H (H.w G') := ⟨fun i r b h q => by
  obtain ⟨o, e, _⟩ := E.nod h q
  show G' b = _
  rw [e, s _ _ e], rfl⟩
theorem EnR.frS (E : EnR K J O as H ρ σ) (s : Same H.hp G') : Fr as H (H.w G') := ⟨FrA.of s, fun a h => .inl h, fun a h => by obtain ⟨o, e⟩ := Option.ne_none_iff_exists'.mp h; show G' a ≠ none; rw [s _ _ e]; exact Option.some_ne_none _, fun _ => rfl⟩
theorem EnR.hgrow (E : EnR K J O as H ρ σ) (s : Same H.hp G') : Same (hq O as H) (hq O as (H.w G')) := (E.frS s).same
/-- hidden places are the same -/
theorem EnR.hidS (_E : EnR K J O as H ρ σ) (_s : Same H.hp G') {a : Addr} : Hid O as (H.w G') a ↔ Hid O as H a := Iff.rfl
theorem EnR.toS (E : EnR K J O as H ρ σ) (s : Same H.hp G') : Same (hp (Hid O as H) G') (hq O as (H.w G')) := hp_less fun _ h => (E.hidS s).mp h
/-- a state of which the owned things stand as they did -/
theorem EnR.keepS (E : EnR K J O as H ρ σ) (k : Stay as H H') (f : Fr as H H') (t : TabsOk H'.hp) : EnR K J O as H' ρ σ :=
  ⟨E.len, E.tl, fun i sl o h1 h2 => (E.at_ i sl o h1 h2).mono f.same fun b hb => k.pl i _ b hb rfl, fun i h => by
    obtain ⟨e1, e2, e3⟩ := E.sto i h
    refine ⟨e1, by rw [e2, k.st], ?_⟩
    rw [k.st]
    exact e3.move f.same fun a z => k.pl i _ a h z,
   fun i j r r' b h1 h2 q1 q2 => E.inj i j r r' b h1 h2 (k.reg.mp q1) (k.reg.mp q2), fun i r b h q => E.out i r b h (k.reg.mp q), E.bnd, fun a h => E.occ' f.fr t h, J.fr E.inv f, E.inq, t⟩
/-- more objects -/
theorem EnR.grow (E : EnR K J O as H ρ σ) (s : Same H.hp G') : EnR K J O as (H.w G') ρ σ := E.keepS (E.stay s) (E.frS s) (E.tab.ext s)
/-- the slot is there and nothing of its own -/
def slotF (ρ : En) (i : Nat) : Bool := match ρ[i]? with
  | some (.own _) => false
  | some (.st _) => false
  | some _ => true
  | none => false
theorem slotF_of (h : slotF ρ i = true) : ∃ sl, ρ[i]? = some sl ∧ (∀ ds, sl ≠ .own ds) ∧ ∀ t, sl ≠ .st t := by
  unfold slotF at h
  split at h
  · cases h
  · cases h
  · next sl e1 e2 hn => exact ⟨sl, hn, fun ds q => e1 ds (by rw [q]), fun t q => e2 t (by rw [q])⟩
  · cases h
theorem EnR.none_of (E : EnR K J O as H ρ σ) (h : slotF ρ i = true) : as i = none := by
  obtain ⟨sl, e, n, n2⟩ := slotF_of h
  exact E.not_own e n n2
/-- one slot stored -/
theorem EnR.setAt (E : EnR K J O as H ρ σ) (h : slotF ρ i = true) {sl : Sl} {o : Option V} (q : SlR K (hq O as H) H.hp none sl o) : EnR K J O as H (ρ.set i sl) (σ.set i o) := by
  have hn := E.none_of h
  have hi : i < σ.length := by
    obtain ⟨sl, e, n, n2⟩ := slotF_of h
    exact E.lt e n2
  refine ⟨by rw [List.length_set, List.length_set]; exact E.len, fun j sl' h1 h2 => ?_, fun j sl' o' h1 h2 => ?_, fun j h1 => ?_, E.inj, E.out, fun j r e => by rw [List.length_set]; exact E.bnd j r e, E.occ, E.inv, E.inq, E.tab⟩
  · rw [List.length_set] at h2
    rw [List.getElem?_set_ne (by omega)] at h1
    exact E.tl j sl' h1 h2
  · rw [List.getElem?_set] at h1 h2
    by_cases e : i = j
    · subst e
      rw [if_pos rfl] at h1 h2
      split at h1
      · rw [if_pos hi] at h2
        cases h1; cases h2
        rw [hn]
        exact q
      · cases h1
    · rw [if_neg e] at h1 h2
      exact E.at_ j sl' o' h1 h2
  · obtain ⟨e1, e2, e3⟩ := E.sto j h1
    refine ⟨by rw [List.length_set]; exact e1, ?_, e3⟩
    rw [List.getElem?_set_ne (by omega)]
    exact e2
theorem EnR.setFz (E : EnR K J O as H ρ σ) (h : slotF ρ i = true) (q : Dq K (hq O as H) v d) : EnR K J O as H (ρ.set i (.fz d)) (σ.set i (some v)) := E.setAt h (.fz q)
theorem EnR.setNo (E : EnR K J O as H ρ σ) (h : slotF ρ i = true) (o : Option V) : EnR K J O as H (ρ.set i .no) (σ.set i o) := E.setAt h .no
end
end DL
/-! slots stored, changed, let go -/
namespace DL
open PySem L2 Z
variable [Tbs]
section
variable {K : PySem.W.Frag} {n : Nat} {J : Jv n} {O : Addr → Prop} {as as' as'' : As} {H H' H'' : Hs} {G' : Hp} {ρ : En} {σ : L2.St} {i : Nat} {v : V} {d : PyData} {ds : List PyData}
theorem liv_upd {H : Hp} {p : Addr} (o : HO) : ∀ a, H a ≠ none → upd H p o a ≠ none := fun a h => by
  by_cases z : a = p
  · rw [z, upd_same]; exact Option.some_ne_none _
  · rw [upd_ne z]; exact h
/-- the own list of a slot, or the store, is changed -/
theorem EnR.change (E : EnR K J O as H ρ σ) {r : Rg} (hi : as i = some r) (fr : ∀ a o, ¬ Rgn H r a → H a = some o → H' a = some o) (nw : ∀ a, Rgn H' r a → Rgn H r a ∨ H a = none) (tab : TabsOk H'.hp) (lv : ∀ a, H a ≠ none → H' a ≠ none) (hst : r ≠ .sto → H'.st = H.st) :
    Fr as H H' ∧ ∀ sl, (r ≠ .sto → SlR K (hq O as H') H'.hp (some r) sl (σ[i]?.getD none)) → (r = .sto → sl = .st H'.st ∧ StoR K (hq O as H') H'.hp H'.st) → EnR K J O as H' (ρ.set i sl) σ := by
  have ns : ∀ j r', j ≠ i → as j = some r' → r' = .sto → H'.st = H.st := fun j r' ne hj e => by
    subst e
    refine hst fun e => ?_
    rw [e] at hi
    exact ne ((E.sto j hj).1.trans (E.sto i hi).1.symm)
  have other : ∀ j r' b, j ≠ i → as j = some r' → Rgn H r' b → H' b = H b := fun j r' b ne hj q => by
    obtain ⟨o, e, _⟩ := E.nod hj q
    rw [e]
    exact fr b o (fun z => ne (E.inj j i r' r b hj hi q z)) e
  have otherR : ∀ j r' b, j ≠ i → as j = some r' → (Rgn H' r' b ↔ Rgn H r' b) := fun j r' b ne hj => by
    cases r' with
    | lf a => exact Iff.rfl
    | sto => exact Rgn.st (ns j _ ne hj rfl)
  have F : Fr as H H' := by
    refine ⟨fun a o na e => fr a o (fun z => na (.inl ⟨i, r, hi, z⟩)) e, fun a q => ?_, lv, fun h => hst fun e => h i (by rw [hi, e])⟩
    rcases q with ⟨j, r', hj, q⟩ | q
    · by_cases e : j = i
      · subst e
        rw [hi] at hj
        cases hj
        rcases nw a q with z | z
        · exact .inl (.inl ⟨j, r, hi, z⟩)
        · exact .inr z
      · exact .inl (.inl ⟨j, r', hj, (otherR j r' a e hj).mp q⟩)
    · exact .inl (.inr q)
  refine ⟨F, fun sl hs ht => ⟨by rw [List.length_set]; exact E.len, fun j sl' h1 h2 => ?_, fun j sl' o h1 h2 => ?_, fun j h => ?_, fun j k r1 r2 b h1 h2 q1 q2 => ?_, fun j r' b h q => ?_, fun j r' h => by rw [List.length_set]; exact E.bnd j r' h, fun a h => E.occ' F.fr tab h, J.fr E.inv F, E.inq, tab⟩⟩
  · have hj : j < ρ.length := by rw [← List.length_set (as := ρ) (i := i) (a := sl)]; exact (List.getElem?_eq_some_iff.mp h1).1
    exact E.tl j _ (List.getElem?_eq_getElem hj) h2
  · rw [List.getElem?_set] at h1
    by_cases e : i = j
    · subst e
      rw [if_pos rfl] at h1
      have hl : i < σ.length := (List.getElem?_eq_some_iff.mp h2).1
      have nr : r ≠ .sto := fun e => by
        rw [e] at hi
        have := (E.sto i hi).1
        omega
      split at h1
      · cases h1
        have := hs nr
        rw [h2] at this
        rw [hi]
        exact this
      · cases h1
    · rw [if_neg e] at h1
      exact (E.at_ j sl' o h1 h2).mono F.same fun b hb => other j _ b (fun z => e z.symm) hb rfl
  · obtain ⟨e1, e2, e3⟩ := E.sto j h
    by_cases e : i = j
    · subst e
      rw [hi] at h
      cases h
      obtain ⟨h1, h2⟩ := ht rfl
      refine ⟨e1, ?_, h2⟩
      rw [List.getElem?_set_self (E.bnd _ _ hi), h1]
    · have nr : r ≠ .sto := fun z => by
        rw [z] at hi
        exact e ((E.sto i hi).1.trans e1.symm)
      have := hst nr
      refine ⟨e1, ?_, ?_⟩
      · rw [List.getElem?_set_ne e, e2, this]
      · rw [this]
        exact e3.move F.same fun a z => other j _ a (fun w => e w.symm) h z
  · by_cases e1 : j = i
    · by_cases e2 : k = i
      · rw [e1, e2]
      · rw [e1, hi] at h1
        cases h1
        have q2' := (otherR k r2 b e2 h2).mp q2
        rcases nw b q1 with z | z
        · rw [e1]; exact E.inj i k r r2 b hi h2 z q2'
        · obtain ⟨o, e, _⟩ := E.nod h2 q2'
          rw [show H.hp b = none from z] at e; cases e
    · have q1' := (otherR j r1 b e1 h1).mp q1
      by_cases e2 : k = i
      · rw [e2, hi] at h2
        cases h2
        rcases nw b q2 with z | z
        · rw [e2]; exact E.inj j i r1 r b h1 hi q1' z
        · obtain ⟨o, e, _⟩ := E.nod h1 q1'
          rw [show H.hp b = none from z] at e; cases e
      · exact E.inj j k r1 r2 b h1 h2 q1' ((otherR k r2 b e2 h2).mp q2)
  · by_cases e : j = i
    · subst e
      rw [hi] at h
      cases h
      rcases nw b q with z | z
      · exact E.out j r b hi z
      · exact fun w => E.occ b w z
    · exact E.out j r' b h ((otherR j r' b e h).mp q)
/-- an own list changed -/
theorem EnR.put (E : EnR K J O as H ρ σ) {a : Addr} (ha : as i = some (.lf a)) {zs : List V} (hl : H a = some (.lst zs)) {xs : List V} (q : DqAll K (hq O as H) xs ds) : EnR K J O as (H.w (upd H a (.lst xs))) (ρ.set i (.own ds)) σ ∧ Fr as H (H.w (upd H a (.lst xs))) := by
  obtain ⟨F, k⟩ := E.change (H' := H.w (upd H a (.lst xs))) ha (fun b o nb e => by show upd H a _ b = _; rw [upd_ne (fun z => nb (by rw [z]; exact .here))]; exact e) (fun b q => .inl q) (E.tab.put hl) (liv_upd _) (fun _ => rfl)
  refine ⟨k _ (fun _ => ?_) (fun z => by cases z), F⟩
  obtain ⟨_, _, _, e, _⟩ := E.is_own ha
  rw [e]
  exact .own upd_same (q.mono F.same)
/-- the store changed -/
theorem EnR.putS (E : EnR K J O as H ρ σ) {S : Sto} (hs : ρ[i]? = some (.st S)) {S' : Sto} {G' : Hp} (fr : ∀ a o, S a = none → H a = some o → G' a = some o) (nw : ∀ a, S' a ≠ none → S a ≠ none ∨ H a = none) (tab : TabsOk G') (lv : ∀ a, H a ≠ none → G' a ≠ none)
    (q : Fr as H ⟨G', S'⟩ → StoR K (hq O as ⟨G', S'⟩) G' S') : EnR K J O as ⟨G', S'⟩ (ρ.set i (.st S')) σ ∧ Fr as H ⟨G', S'⟩ := by
  obtain ⟨ha, e, _⟩ := E.st_at hs
  subst e
  obtain ⟨F, k⟩ := E.change (H' := ⟨G', S'⟩) ha (fun b o nb e => fr b o (Classical.byContradiction fun z => nb z) e) nw tab lv (fun z => absurd rfl z)
  exact ⟨k _ (fun z => absurd rfl z) (fun _ => ⟨rfl, q F⟩), F⟩
def upA (as : As) (i : Nat) (o : Option Rg) : As := fun j => if j = i then o else as j
theorem upA_at {o : Option Rg} : upA as i o i = o := if_pos rfl
theorem upA_ne {o : Option Rg} {j : Nat} (h : j ≠ i) : upA as i o j = as j := if_neg h
theorem upA_ks {o : Option Rg} (h : as i ≠ some .sto) (ho : o ≠ some .sto) : ∀ j, upA as i o j = some .sto ↔ as j = some .sto := fun j => by
  by_cases e : j = i
  · rw [e, upA_at]
    exact ⟨fun z => absurd z ho, fun z => absurd z h⟩
  · rw [upA_ne e]
theorem EnR.nst_at (E : EnR K J O as H ρ σ) (h : i < σ.length) : as i ≠ some .sto := fun z => by
  have := (E.sto i z).1
  omega
theorem Own.up {a : Addr} {o : Option Rg} (h : Own (upA as i o) H a) : (∃ r, o = some r ∧ Rgn H r a) ∨ Own as H a := by
  rcases h with ⟨j, r, h, q⟩ | h
  · by_cases e : j = i
    · rw [e, upA_at] at h; exact .inl ⟨r, h, q⟩
    · rw [upA_ne e] at h; exact .inr (.inl ⟨j, r, h, q⟩)
  · exact .inr (.inr h)
/-- one place more -/
def plus (O : Addr → Prop) (p : Addr) : Addr → Prop := fun a => O a ∨ a = p
theorem hid_plus {p : Addr} {a : Addr} (h : Hid O as H a) : Hid (plus O p) as H a := h.imp .inl id
/-- what is held is stored in a slot -/
theorem EnR.setOwn {p : Addr} (E : EnR K J (plus O p) as H ρ σ) (hQ : J.Q O) (hi : i < σ.length) (hJ : J.P (upA as i (some (.lf p))) H) {xs : List V} (hp1 : H p = some (.lst xs)) (q : DqAll K (hq (plus O p) as H) xs ds) (np : ¬ O p) :
    EnR K J O (upA as i (some (.lf p))) H (ρ.set i (.own ds)) (σ.set i (some (.ref p))) := by
  have hS : Same (hq (plus O p) as H) (hq O (upA as i (some (.lf p))) H) := hp_less fun a h => by
    rcases h with h | h
    · exact .inl (.inl h)
    · rcases h.up with ⟨r', e, h⟩ | h
      · cases e
        exact .inl (.inr h.lf_of)
      · exact .inr h
  have up : ∀ j r, upA as i (some (.lf p)) j = some r → j ≠ i → as j = some r := fun j r h e => by rwa [upA_ne e] at h
  refine ⟨by rw [List.length_set, List.length_set]; exact E.len, fun j sl' h1 h2 => ?_, fun j sl' o h1 h2 => ?_, fun j h => ?_, fun j k r1 r2 b h1 h2 q1 q2 => ?_, fun j r' b h q => ?_, fun j r' h => ?_, fun a h => E.occ a (.inl h), hJ, hQ, E.tab⟩
  · rw [List.length_set] at h2
    rw [List.getElem?_set_ne (by omega)] at h1
    rw [upA_ne (by omega)]
    exact E.tl j sl' h1 h2
  · rw [List.getElem?_set] at h1 h2
    by_cases e : i = j
    · subst e
      rw [if_pos rfl] at h1
      rw [if_pos rfl, if_pos hi] at h2
      rw [if_pos (Nat.lt_of_lt_of_le hi E.len.1)] at h1
      cases h1; cases h2
      rw [upA_at]
      exact .own hp1 (q.mono hS)
    · rw [if_neg e] at h1 h2
      rw [upA_ne (fun z => e z.symm)]
      exact (E.at_ j sl' o h1 h2).mono hS fun _ _ => rfl
  · by_cases e : j = i
    · rw [e, upA_at] at h
      cases h
    · obtain ⟨e1, e2, e3⟩ := E.sto j (up j _ h e)
      refine ⟨by rw [List.length_set]; exact e1, ?_, e3.move hS fun _ _ => rfl⟩
      rw [List.getElem?_set_ne (fun z => e z.symm)]
      exact e2
  · by_cases e1 : j = i
    · by_cases e2 : k = i
      · rw [e1, e2]
      · rw [e1, upA_at] at h1
        cases h1
        exact absurd (.inr q1.lf_of) (E.out k r2 b (up k _ h2 e2) q2)
    · by_cases e2 : k = i
      · rw [e2, upA_at] at h2
        cases h2
        exact absurd (.inr q2.lf_of) (E.out j r1 b (up j _ h1 e1) q1)
      · exact E.inj j k r1 r2 b (up j _ h1 e1) (up k _ h2 e2) q1 q2
  · by_cases e1 : j = i
    · rw [e1, upA_at] at h
      cases h
      rw [q.lf_of]
      exact np
    · exact fun z => E.out j r' b (up j _ h e1) q (.inl z)
  · rw [List.length_set]
    by_cases e1 : j = i
    · rw [e1]; exact Nat.lt_of_lt_of_le hi E.len.1
    · exact E.bnd j r' (up j _ h e1)
/-- what a slot owned is let go: it stays from now on -/
theorem EnR.letGo (E : EnR K J O as H ρ σ) (hn : n ≤ i) {sl : Sl} {o : Option V} (h2 : σ[i]? = some o) (q : SlR K (hq O (upA as i none) H) H none sl o) : EnR K J O (upA as i none) H (ρ.set i sl) σ := by
  have hi : i < σ.length := (List.getElem?_eq_some_iff.mp h2).1
  have ls : ∀ a, Own (upA as i none) H a → Own as H a := fun a h => by
    rcases h.up with ⟨r, e, _⟩ | h
    · cases e
    · exact h
  have hS : Same (hq O as H) (hq O (upA as i none) H) := hp_less fun a h => h.imp id (ls a)
  have sub : ∀ j r, upA as i none j = some r → j ≠ i ∧ as j = some r := fun j r h => by
    by_cases e : j = i
    · rw [e, upA_at] at h; cases h
    · rw [upA_ne e] at h; exact ⟨e, h⟩
  refine ⟨by rw [List.length_set]; exact E.len, fun j sl' h1 h3 => ?_, fun j sl' o' h1 h3 => ?_, fun j h => ?_, fun j k r r' b h1 h2 => E.inj j k r r' b (sub j r h1).2 (sub k r' h2).2, fun j r b h => E.out j r b (sub j r h).2, fun j r h => by rw [List.length_set]; exact E.bnd j r (sub j r h).2, E.occ, J.cl _ _ _ _ E.inv ⟨FrA.refl _ _, fun a h => .inl (ls a h), fun j hj => upA_ne (by omega), fun _ h => h, fun j => ⟨fun z => (sub j _ z).2, fun z => by rw [upA_ne (fun e => by rw [e] at z; have := (E.sto i z).1; omega)]; exact z⟩, fun _ => rfl⟩, E.inq, E.tab⟩
  · rw [List.getElem?_set_ne (by omega)] at h1
    rw [upA_ne (by omega)]
    exact E.tl j sl' h1 h3
  · rw [List.getElem?_set] at h1
    by_cases e : i = j
    · subst e
      rw [if_pos rfl] at h1
      rw [h2] at h3
      cases h3
      split at h1
      · cases h1
        rw [upA_at]
        exact q
      · cases h1
    · rw [if_neg e] at h1
      rw [upA_ne (fun z => e z.symm)]
      exact (E.at_ j sl' o' h1 h3).mono hS fun _ _ => rfl
  · obtain ⟨ne, h⟩ := sub j _ h
    obtain ⟨e1, e2, e3⟩ := E.sto j h
    refine ⟨e1, ?_, e3.move hS fun _ _ => rfl⟩
    rw [List.getElem?_set_ne (fun z => ne z.symm)]
    exact e2
theorem Ext.go {as : As} {H : Hs} (hn : n ≤ i) (ni : as i ≠ some .sto) : Ext n as (upA as i none) H H := ⟨FrA.refl _ _, fun a h => by
  rcases h.up with ⟨r, e, _⟩ | h
  · cases e
  · exact .inl h, fun j hj => upA_ne (by omega), fun _ h => h, upA_ks ni (fun z => by cases z), fun _ => rfl⟩
/-- an own list that stays from now on -/
theorem EnR.freeze (E : EnR K J O as H ρ σ) (hn : n ≤ i) (h : ρ[i]? = some (.own ds)) : EnR K J O (upA as i none) H (ρ.set i (.fz (.list ds))) σ := by
  obtain ⟨a, xs, e1, e2, e3, e4⟩ := E.own_at h
  have hS : Same (hq O as H) (hq O (upA as i none) H) := (Ext.go hn (by rw [e2]; intro z; cases z)).same
  have na : ¬ Hid O (upA as i none) H a := by
    rintro (z | ⟨j, r, z, q⟩ | z)
    · exact E.out i _ a e2 .here z
    · by_cases w : j = i
      · rw [w, upA_at] at z; cases z
      · rw [upA_ne w] at z
        exact w (E.inj j i _ _ a z e2 q .here)
    · exact E.tab.no e3 z
  exact E.letGo hn e1 (.fz (.lst (SqL.of (hp_mk na e3)) (e4.mono hS)))
end
end DL
namespace DL
open PySem L2 Z
variable [Tbs]
theorem EnR.fresh1 {K : PySem.W.Frag} {n : Nat} {J : Jv n} {O : Addr → Prop} {as : As} {H : Hs} {ρ : En} {σ : L2.St} (E : EnR K J O as H ρ σ) {p : Addr} {o : HO} (h : H p = none) : ¬ Hid O as (H.w (upd H p o)) p := fun q => E.fresh h ((E.hidS (Same.new h)).mp q)
end DL
namespace DL
open PySem L2 Z
variable [Tbs]
/-- a list that is held is nobody's own -/
theorem EnR.newp {K : PySem.W.Frag} {n : Nat} {J : Jv n} {O : Addr → Prop} {as : As} {H : Hs} {ρ : En} {σ : L2.St} {p : Addr} {xs : List V} (E : EnR K J (plus O p) as H ρ σ) (h : H p = some (.lst xs)) : ¬ Own as H p := fun q => by
  rcases q with ⟨i, r, e, q⟩ | q
  · exact E.out i r p e q (.inr rfl)
  · exact E.tab.no h q
end DL
/-! what expressions, tests, arguments, stores and statements come to -/
namespace DL
open PySem L2 Z
variable [Tbs]
abbrev FE := En → (PyData → En → Prop) → Prop
abbrev FT := En → (Bool → En → Prop) → Prop
abbrev FA := En → (List PyData → En → Prop) → Prop
abbrev FG := PyData → En → (En → Prop) → Prop
abbrev FGs := List PyData → En → (En → Prop) → Prop
inductive Ar where
  | dat (d : PyData)
  | own (i : Nat)
abbrev FC := En → (List Ar → En → Prop) → Prop
structure FEnds where
  nx : En → Prop
  rt : PyData → En → Prop
  bk : En → Prop := fun _ => False
  ct : En → Prop := fun _ => False
  ro : List PyData → En → Prop := fun _ _ => False
abbrev FS := FEnds → En → Prop
abbrev FN := List Sl → (PyData → List Sl → Prop) → Prop
def RE (K : PySem.W.Frag) {n : Nat} (J : Jv n) (t : TE) (f : FE) : Prop := ∀ (O : Addr → Prop) (as : As) (σ : L2.St) (H : Hs) (Q : VK) (ρ : En) (P : PyData → En → Prop), EnR K J O as H ρ σ → f ρ P →
  (∀ d ρ' v H', P d ρ' → Fr as H H' → EnR K J O as H' ρ' σ → Dq K (hq O as H') v d → Q v H') → t σ H Q
section
variable {K : PySem.W.Frag} {n : Nat} {J : Jv n} {O : Addr → Prop} {as : As} {H : Hs} {ρ : En} {σ : L2.St} {p : Addr}
/-- a new object that is held -/
theorem EnR.addO {o : HO} (E : EnR K J O as H ρ σ) (h : H p = none) : EnR K J (plus O p) as (H.w (upd H p o)) ρ σ ∧ Same (hq O as H) (hq (plus O p) as (H.w (upd H p o))) := by
  have s : Same H.hp (upd H p o) := Same.new h
  have np := E.fresh h
  have E2 := E.grow s
  have hS : Same (hq O as H) (hq (plus O p) as (H.w (upd H p o))) := fun a u e => by
    obtain ⟨n, e⟩ := hp_some e
    have ne : a ≠ p := ne_of_none e h
    refine hp_mk (fun q => ?_) (by show upd H.hp p o a = _; rw [upd_ne ne]; exact e)
    rcases q with (q | q) | q
    · exact n (.inl q)
    · exact ne q
    · exact n (.inr ((E.stay s).own.mp q))
  refine ⟨⟨E.len, E.tl, fun i sl o' h1 h2 => (E.at_ i sl o' h1 h2).mono hS fun b hb => (E.stay s).pl i _ b hb rfl, fun i h => ?_, E2.inj, fun i r b e q z => ?_, E.bnd, fun a q => ?_, E2.inv, J.up _ _ (fun _ z => .inl z) E.inq, E2.tab⟩, hS⟩
  · obtain ⟨e1, e2, e3⟩ := E.sto i h
    exact ⟨e1, e2, e3.move hS fun a z => (E.stay s).pl i _ a h z⟩
  · rcases z with z | z
    · exact E2.out i r b e q z
    · rw [z] at q
      exact np (.inr (.inl ⟨i, r, e, (E.stay s).reg.mp q⟩))
  · rcases q with q | q
    · exact E2.occ a q
    · show upd H p o a ≠ none
      rw [q, upd_same]; exact Option.some_ne_none _
theorem EnR.lessO (E : EnR K J (plus O p) as H ρ σ) (hQ : J.Q O) : EnR K J O as H ρ σ :=
  ⟨E.len, E.tl, fun i sl o h1 h2 => (E.at_ i sl o h1 h2).mono (hp_less fun _ => hid_plus) fun _ _ => rfl, fun i h => ⟨(E.sto i h).1, (E.sto i h).2.1, (E.sto i h).2.2.move (hp_less fun _ => hid_plus) fun _ _ => rfl⟩, E.inj, fun i r b e q z => E.out i r b e q (.inl z), E.bnd, fun a q => E.occ a (.inl q), E.inv, hQ, E.tab⟩
/-- what is held is changed -/
theorem EnR.putO {xs ys : List V} (E : EnR K J O as H ρ σ) (h : O p) (hl : H p = some (.lst xs)) (hJ : J.P as (H.w (upd H p (.lst ys)))) :
    EnR K J O as (H.w (upd H p (.lst ys))) ρ σ ∧ Same (hq O as H) (hq O as (H.w (upd H p (.lst ys)))) := by
  have st : Stay as H (H.w (upd H p (.lst ys))) := ⟨fun i r b e q => upd_ne fun z => E.out i r b e q (by rw [z]; exact h), rfl⟩
  have hS : Same (hq O as H) (hq O as (H.w (upd H p (.lst ys)))) := fun a u e => by
    obtain ⟨n, e⟩ := hp_some e
    exact hp_mk (fun q => n (q.imp id st.own.mp)) (by show upd H.hp p _ a = _; rw [upd_ne (fun z : a = p => n (by rw [z]; exact .inl h))]; exact e)
  refine ⟨⟨E.len, E.tl, fun i sl o' h1 h2 => (E.at_ i sl o' h1 h2).mono hS fun b hb => st.pl i _ b hb rfl, fun i h => ?_, fun i j r r' b h1 h2 q1 q2 => E.inj i j r r' b h1 h2 (st.reg.mp q1) (st.reg.mp q2), fun i r b e q => E.out i r b e (st.reg.mp q), E.bnd, fun a q => ?_, hJ, E.inq, E.tab.put hl⟩, hS⟩
  · obtain ⟨e1, e2, e3⟩ := E.sto i h
    exact ⟨e1, e2, e3.move hS fun a z => st.pl i _ a h z⟩
  · show upd H p _ a ≠ none
    by_cases z : a = p
    · rw [z, upd_same]; exact Option.some_ne_none _
    · rw [upd_ne z]; exact E.occ a q
end
/-- a slot that is there and not the store -/
def slotL (ρ : En) (i : Nat) : Bool := match ρ[i]? with
  | some (.st _) => false
  | some _ => true
  | none => false
theorem EnR.ltB {K : PySem.W.Frag} {n : Nat} {J : Jv n} {O : Addr → Prop} {as : As} {H : Hs} {ρ : En} {σ : L2.St} {i : Nat} (E : EnR K J O as H ρ σ) (h : slotL ρ i = true) : i < σ.length := by
  unfold slotL at h
  split at h
  · cases h
  · next sl e hn => exact E.lt hn fun S z => e S (by rw [z])
  · cases h
/-- new, or what was somebody's own -/
abbrev NewO (as : As) (H : Hs) (p : Addr) : Prop := H p = none ∨ Own as H p
theorem EnR.notO {K : PySem.W.Frag} {n n' : Nat} {J : Jv n} {J' : Jv n'} {O O' : Addr → Prop} {as as' : As} {H H' : Hs} {ρ ρ' : En} {σ σ' : L2.St} {p : Addr} {xs : List V} (E : EnR K J O as H ρ σ) (E' : EnR K J' O' as' H' ρ' σ') (h : NewO as H p) (e : H' p = some (.lst xs)) : ¬ O p := fun z => by
  rcases h with h | ⟨i, r, h, q⟩ | h
  · exact E.occ p z h
  · exact E.out i r p h q z
  · exact E'.tab.no e h
/-- an expression that makes a new list -/
def RN (K : PySem.W.Frag) {n : Nat} (J : Jv n) (t : TE) (f : FA) : Prop := ∀ (O : Addr → Prop) (as : As) (σ : L2.St) (H : Hs) (Q : VK) (ρ : En) (P : List PyData → En → Prop), EnR K J O as H ρ σ → f ρ P →
  (∀ ds ρ' p xs H', P ds ρ' → Fr as H H' → NewO as H p → EnR K J (plus O p) as H' ρ' σ → H' p = some (.lst xs) → DqAll K (hq (plus O p) as H') xs ds → Q (.ref p) H') → t σ H Q
def RT (K : PySem.W.Frag) {n : Nat} (J : Jv n) (t : TT) (f : FT) : Prop := ∀ (O : Addr → Prop) (as : As) (σ : L2.St) (H : Hs) (Q : Bool → Hp → Prop) (ρ : En) (P : Bool → En → Prop), EnR K J O as H ρ σ → f ρ P →
  (∀ b ρ' H', P b ρ' → Fr as H H' → EnR K J O as H' ρ' σ → Q b H') → t σ H Q
def RA (K : PySem.W.Frag) {n : Nat} (J : Jv n) (t : TA) (f : FA) : Prop := ∀ (O : Addr → Prop) (as : As) (σ : L2.St) (H : Hs) (Q : List V → Hp → Prop) (ρ : En) (P : List PyData → En → Prop), EnR K J O as H ρ σ → f ρ P →
  (∀ ds ρ' vs H', P ds ρ' → Fr as H H' → EnR K J O as H' ρ' σ → DqAll K (hq O as H') vs ds → Q vs H') → t σ H Q
inductive ArR (K : PySem.W.Frag) (G : Hp) (as : As) : V → Ar → Prop
  | dat {v : V} {d : PyData} : Dq K G v d → ArR K G as v (.dat d)
  | own {a : Addr} {i : Nat} : as i = some (.lf a) → ArR K G as (.ref a) (.own i)
inductive ArsR (K : PySem.W.Frag) (G : Hp) (as : As) : List V → List Ar → Prop
  | nil : ArsR K G as [] []
  | cons {v : V} {vs : List V} {x : Ar} {xs : List Ar} : ArR K G as v x → ArsR K G as vs xs → ArsR K G as (v :: vs) (x :: xs)
def RC (K : PySem.W.Frag) {n : Nat} (J : Jv n) (t : TA) (f : FC) : Prop := ∀ (O : Addr → Prop) (as : As) (σ : L2.St) (H : Hs) (Q : List V → Hp → Prop) (ρ : En) (P : List Ar → En → Prop), EnR K J O as H ρ σ → f ρ P →
  (∀ xs ρ' vs H', P xs ρ' → Fr as H H' → EnR K J O as H' ρ' σ → ArsR K (hq O as H') as vs xs → Q vs H') → t σ H Q
/-- but for these slots all is as it was -/
def Touch (vs : List Nat) (σ σ' : L2.St) : Prop := σ'.length = σ.length ∧ ∀ j, j ∉ vs → σ'[j]? = σ[j]?
def RG (K : PySem.W.Frag) {n : Nat} (J : Jv n) (vs : List Nat) (g : TG) (f : FG) : Prop := ∀ (O : Addr → Prop) (as : As) (σ : L2.St) (H : Hs) (R : L2.St → Hp → Prop) (ρ : En) (P : En → Prop) (v : V) (d : PyData), EnR K J O as H ρ σ → Dq K (hq O as H) v d → f d ρ P →
  (∀ ρ' σ' H', P ρ' → Fr as H H' → EnR K J O as H' ρ' σ' → Touch vs σ σ' → R σ' H') → g v σ H R
def RGs (K : PySem.W.Frag) {n : Nat} (J : Jv n) (vs : List Nat) (g : TGs) (f : FGs) : Prop := ∀ (O : Addr → Prop) (as : As) (σ : L2.St) (H : Hs) (R : L2.St → Hp → Prop) (ρ : En) (P : En → Prop) (ys : List V) (ds : List PyData), EnR K J O as H ρ σ → DqAll K (hq O as H) ys ds → f ds ρ P →
  (∀ ρ' σ' H', P ρ' → Fr as H H' → EnR K J O as H' ρ' σ' → Touch vs σ σ' → R σ' H') → g ys σ H R
/-- what the ends ask, carried over -/
structure Car (K : PySem.W.Frag) {n : Nat} (J : Jv n) (O : Addr → Prop) (as : As) (H : Hs) (E : FEnds) (D : Ends) : Prop where
  nx : ∀ ρ' as' σ' H', E.nx ρ' → Ext n as as' H H' → EnR K J O as' H' ρ' σ' → D.nx σ' H'
  rt : ∀ d ρ' v as' σ' H', E.rt d ρ' → Ext n as as' H H' → EnR K J O as' H' ρ' σ' → Dq K (hq O as' H') v d → D.rt v H'
  bk : ∀ ρ' as' σ' H', E.bk ρ' → Ext n as as' H H' → EnR K J O as' H' ρ' σ' → D.bk σ' H'
  ct : ∀ ρ' as' σ' H', E.ct ρ' → Ext n as as' H H' → EnR K J O as' H' ρ' σ' → D.ct σ' H'
  ro : ∀ ds ρ' p xs as' σ' H', E.ro ds ρ' → Ext n as as' H H' → H p = none ∨ Own as H p → EnR K J (plus O p) as' H' ρ' σ' → H' p = some (.lst xs) → DqAll K (hq (plus O p) as' H') xs ds → D.rt (.ref p) H'
theorem Ext.old {n : Nat} {as as' : As} {H H' : Hs} {p : Addr} (x : Ext n as as' H H') (h : H' p = none ∨ Own as' H' p) : H p = none ∨ Own as H p := by
  by_cases w : Own as H p
  · exact .inr w
  · rcases h with h | h
    · cases e : H p with
      | none => exact .inl rfl
      | some o => rw [x.fr p o w e] at h; cases h
    · rcases x.new p h with z | z
      · exact absurd z w
      · exact .inl z
theorem Car.ext {K : PySem.W.Frag} {n : Nat} {J : Jv n} {O : Addr → Prop} {as as' : As} {H H' : Hs} {E : FEnds} {D : Ends} (C : Car K J O as H E D) (x : Ext n as as' H H') : Car K J O as' H' E D :=
  ⟨fun ρ' as2 σ' H2 p y => C.nx ρ' as2 σ' H2 p (x.trans y), fun d ρ' v as2 σ' H2 p y => C.rt d ρ' v as2 σ' H2 p (x.trans y), fun ρ' as2 σ' H2 p y => C.bk ρ' as2 σ' H2 p (x.trans y), fun ρ' as2 σ' H2 p y => C.ct ρ' as2 σ' H2 p (x.trans y), fun ds ρ' p xs as2 σ' H2 q y o => C.ro ds ρ' p xs as2 σ' H2 q (x.trans y) (x.old o)⟩
def RS (K : PySem.W.Frag) {n : Nat} (J : Jv n) (t : TS) (f : FS) : Prop := ∀ (O : Addr → Prop) (as : As) (σ : L2.St) (H : Hs) (D : Ends) (ρ : En) (E : FEnds), EnR K J O as H ρ σ → f E ρ → Car K J O as H E D → t D σ H

section
variable {K : PySem.W.Frag} {n : Nat} {J : Jv n}
theorem Dq.fr {O : Addr → Prop} {as : As} {H H' : Hs} {v : V} {d : PyData} (q : Dq K (hq O as H) v d) (f : Fr as H H') : Dq K (hq O as H') v d := q.mono f.same
theorem DqAll.fr {O : Addr → Prop} {as : As} {H H' : Hs} {v : List V} {d : List PyData} (q : DqAll K (hq O as H) v d) (f : Fr as H H') : DqAll K (hq O as H') v d := q.mono f.same
/-! constants, names -/
def fC (d : PyData) : FE := fun ρ P => P d ρ
theorem re_c {v : V} {d : PyData} (h : ∀ H, Dq K H v d) : RE K J (tC v) (fC d) := fun O as σ H Q ρ P E f k => k d ρ v H f (Fr.refl) E (h _)
def fV (i : Nat) : FE := fun ρ P => match ρ[i]? with
  | some (.fz d) => P d ρ
  | _ => False
theorem re_v {i : Nat} : RE K J (tVar i) (fV i) := by
  intro O as σ H Q ρ P E f k
  unfold fV at f
  split at f
  · next d h =>
    obtain ⟨v, e, _, q⟩ := E.fz_at h
    exact ⟨v, e, k d ρ v H f (Fr.refl) E q⟩
  · exact f.elim
/-! arguments -/
def fNil : FA := fun ρ P => P [] ρ
def fCons (a : FE) (b : FA) : FA := fun ρ P => a ρ fun d ρ1 => b ρ1 fun ds ρ2 => P (d :: ds) ρ2
theorem ra_nil : RA K J tNil fNil := fun O as σ H Q ρ P E f k => k [] ρ [] H f (Fr.refl) E .nil
theorem ra_cons {ta : TE} {t : TA} {fa : FE} {f : FA} (ha : RE K J ta fa) (h : RA K J t f) : RA K J (tCons ta t) (fCons fa f) := by
  intro O as σ H Q ρ P E q k
  refine ha O as σ H _ ρ _ E q fun d ρ1 v H1 q1 f1 E1 d1 => ?_
  refine h O as σ H1 _ ρ1 _ E1 q1 fun ds ρ2 vs H2 q2 f2 E2 d2 => ?_
  exact k _ _ _ _ q2 (f1.trans f2) E2 (.cons (d1.fr f2) d2)
/-! operators -/
def RR (K : PySem.W.Frag) (r : R2) (g : PyData → PyData → (PyData → Prop) → Prop) : Prop := ∀ (A : Addr → Prop) (H : Hp) (Q : VK) (x y : V) (a b : PyData) (P : PyData → Prop), (∀ c, A c → H c ≠ none) →
  Dq K (hp A H) x a → Dq K (hp A H) y b → g a b P → (∀ d v H', P d → Same H H' → Dq K (hp A H') v d → Q v H') → r x y H Q
def fOp (g : PyData → PyData → (PyData → Prop) → Prop) (a b : FE) : FE := fun ρ P => a ρ fun x ρ1 => b ρ1 fun y ρ2 => g x y fun d => P d ρ2
theorem re_op {r : R2} {g : PyData → PyData → (PyData → Prop) → Prop} {ta tb : TE} {fa fb : FE} (hr : RR K r g) (ha : RE K J ta fa) (hb : RE K J tb fb) : RE K J (tOp r ta tb) (fOp g fa fb) := by
  intro O as σ H Q ρ P E q k
  refine ha O as σ H _ ρ _ E q fun a ρ1 x H1 q1 f1 E1 d1 => ?_
  refine hb O as σ H1 _ ρ1 _ E1 q1 fun b ρ2 y H2 q2 f2 E2 d2 => ?_
  refine hr (Hid O as H2) H2 _ x y a b _ (fun c h => E2.full h) (d1.fr f2) d2 q2 fun d v H3 p s3 d3 => ?_
  exact k d ρ2 v ⟨H3, _⟩ p ((f1.trans f2).trans (E2.frS s3)) (E2.grow s3) (d3.mono (E2.toS s3))
def RU (K : PySem.W.Frag) (r : V → Hp → VK → Prop) (g : PyData → (PyData → Prop) → Prop) : Prop := ∀ (A : Addr → Prop) (H : Hp) (Q : VK) (x : V) (a : PyData) (P : PyData → Prop), (∀ c, A c → H c ≠ none) →
  Dq K (hp A H) x a → g a P → (∀ d v H', P d → Same H H' → Dq K (hp A H') v d → Q v H') → r x H Q
def fUn (g : PyData → (PyData → Prop) → Prop) (a : FE) : FE := fun ρ P => a ρ fun x ρ1 => g x fun d => P d ρ1
theorem re_un {r : V → Hp → VK → Prop} {g : PyData → (PyData → Prop) → Prop} {ta : TE} {fa : FE} (hr : RU K r g) (ha : RE K J ta fa) : RE K J (tUn r ta) (fUn g fa) := by
  intro O as σ H Q ρ P E q k
  refine ha O as σ H _ ρ _ E q fun a ρ1 x H1 q1 f1 E1 d1 => ?_
  refine hr (Hid O as H1) H1 _ x a _ (fun c h => E1.full h) d1 q1 fun d v H3 p s3 d3 => ?_
  exact k d ρ1 v ⟨H3, _⟩ p (f1.trans (E1.frS s3)) (E1.grow s3) (d3.mono (E1.toS s3))
/-! built-in calls -/
def RB (K : PySem.W.Frag) (r : List V → Hp → VK → Prop) (g : List PyData → (PyData → Prop) → Prop) : Prop := ∀ (A : Addr → Prop) (H : Hp) (Q : VK) (xs : List V) (ds : List PyData) (P : PyData → Prop), (∀ c, A c → H c ≠ none) →
  DqAll K (hp A H) xs ds → g ds P → (∀ d v H', P d → Same H H' → Dq K (hp A H') v d → Q v H') → r xs H Q
def fCB (g : List PyData → (PyData → Prop) → Prop) (a : FA) : FE := fun ρ P => a ρ fun ds ρ1 => g ds fun d => P d ρ1
theorem re_cb {r : List V → Hp → VK → Prop} {g : List PyData → (PyData → Prop) → Prop} {t : TA} {f : FA} (hr : RB K r g) (ha : RA K J t f) : RE K J (tCB r t) (fCB g f) := by
  intro O as σ H Q ρ P E q k
  refine ha O as σ H _ ρ _ E q fun ds ρ1 vs H1 q1 f1 E1 d1 => ?_
  refine hr (Hid O as H1) H1 _ vs ds _ (fun c h => E1.full h) d1 q1 fun d v H3 p s3 d3 => ?_
  exact k d ρ1 v ⟨H3, _⟩ p (f1.trans (E1.frS s3)) (E1.grow s3) (d3.mono (E1.toS s3))
/-- methods of texts -/
def RM (K : PySem.W.Frag) (r : V → List V → Hp → VK → Prop) (g : Str → List PyData → (PyData → Prop) → Prop) : Prop := ∀ (A : Addr → Prop) (H : Hp) (Q : VK) (z : Str) (xs : List V) (ds : List PyData) (P : PyData → Prop), (∀ c, A c → H c ≠ none) →
  DqAll K (hp A H) xs ds → g z ds P → (∀ d v H', P d → Same H H' → Dq K (hp A H') v d → Q v H') → r (.str z) xs H Q
def strF (a : PyData) (k : Str → Prop) : Prop := match a with
  | .str z => k z
  | _ => False
def fBM (g : Str → List PyData → (PyData → Prop) → Prop) (a : FE) (b : FA) : FE := fun ρ P => a ρ fun x ρ1 => strF x fun z => b ρ1 fun ds ρ2 => g z ds fun d => P d ρ2
theorem re_bm {r : V → List V → Hp → VK → Prop} {g : Str → List PyData → (PyData → Prop) → Prop} {to : TE} {t : TA} {fo : FE} {f : FA} (hr : RM K r g) (ho : RE K J to fo) (ha : RA K J t f) : RE K J (tBM K "str" r to t) (fBM g fo f) := by
  intro O as σ H Q ρ P E q k
  refine ho O as σ H _ ρ _ E q fun a ρ1 x H1 q1 f1 E1 d1 => ?_
  unfold strF at q1
  split at q1
  · next z =>
    cases d1
    refine ⟨rfl, ?_⟩
    refine ha O as σ H1 _ ρ1 _ E1 q1 fun ds ρ2 vs H2 q2 f2 E2 d2 => ?_
    refine hr (Hid O as H2) H2 _ z vs ds _ (fun c h => E2.full h) d2 q2 fun d v H3 p s3 d3 => ?_
    exact k d ρ2 v ⟨H3, _⟩ p ((f1.trans f2).trans (E2.frS s3)) (E2.grow s3) (d3.mono (E2.toS s3))
  · exact q1.elim
/-! displays -/
def fTup (f : FA) : FE := fun ρ P => f ρ fun ds ρ1 => ds.length ≤ sizeLine ∧ P (.tuple ds) ρ1
theorem re_tup {t : TA} {f : FA} (h : RA K J t f) : RE K J (tTup t) (fTup f) := by
  intro O as σ H Q ρ P E q k
  refine h O as σ H _ ρ _ E q fun ds ρ1 vs H1 q1 f1 E1 d1 => ⟨by rw [d1.length]; exact q1.1, fun p hp1 => ?_⟩
  have s := Same.new (o := .tup vs) hp1
  refine k _ _ _ _ q1.2 (f1.trans (E1.frS s)) (E1.grow s) (.tup (SqT.of (hp_mk (E1.fresh1 hp1) upd_same)) (d1.mono (E1.hgrow s)))
def fLst (f : FA) : FA := fun ρ P => f ρ fun ds ρ1 => ds.length ≤ sizeLine ∧ P ds ρ1
theorem rn_lst {t : TA} {f : FA} (h : RA K J t f) : RN K J (tLst t) (fLst f) := by
  intro O as σ H Q ρ P E q k
  refine h O as σ H _ ρ _ E q fun ds ρ1 vs H1 q1 f1 E1 d1 => ⟨by rw [d1.length]; exact q1.1, fun p hp1 => ?_⟩
  obtain ⟨E2, s2⟩ := E1.addO (o := .lst vs) hp1
  refine k _ _ _ _ _ q1.2 (f1.trans (E1.frS (Same.new hp1))) ?_ E2 upd_same (d1.mono s2)
  exact .inl (Classical.byContradiction fun z => f1.liv p z hp1)
def fNew (f : FA) : FE := fun ρ P => f ρ fun ds ρ1 => P (.list ds) ρ1
theorem RN.re {t : TE} {f : FA} (h : RN K J t f) : RE K J t (fNew f) := by
  intro O as σ H Q ρ P E q k
  refine h O as σ H _ ρ _ E q fun ds ρ1 p xs H2 q1 f1 hp1 E1 hp2 d1 => ?_
  exact k _ _ _ _ q1 f1 (E1.lessO E.inq) (.lst (SqL.of (hp_mk (fun z => z.elim (fun w => E.notO E1 hp1 hp2 w) (E1.newp hp2)) hp2)) (d1.mono (hp_less fun _ => hid_plus)))
/-! tests -/
def boolF (a : PyData) (k : Bool → Prop) : Prop := match a with
  | .bool b => k b
  | _ => False
def fB (f : FE) : FT := fun ρ P => f ρ fun d ρ1 => boolF d fun b => P b ρ1
theorem rt_b {t : TE} {f : FE} (h : RE K J t f) : RT K J (tB t) (fB f) := by
  intro O as σ H Q ρ P E q k
  refine h O as σ H _ ρ _ E q fun d ρ1 v H1 q1 f1 E1 d1 => ?_
  unfold boolF at q1
  split at q1
  · cases d1; exact ⟨_, rfl, k _ _ _ q1 f1 E1⟩
  · exact q1.elim
theorem rt_test {t : TE} {f : FE} (h : RE K J t f) : RT K J (tTest t) (fB f) := rt_b h
def fAnd (a b : FT) : FT := fun ρ P => a ρ fun c ρ1 => if c = true then b ρ1 P else P false ρ1
def fOr (a b : FT) : FT := fun ρ P => a ρ fun c ρ1 => if c = true then P true ρ1 else b ρ1 P
def fNot (a : FT) : FT := fun ρ P => a ρ fun c ρ1 => P (!c) ρ1
theorem rt_and {t u : TT} {a b : FT} (ha : RT K J t a) (hb : RT K J u b) : RT K J (tAnd t u) (fAnd a b) := by
  intro O as σ H Q ρ P E q k
  refine ha O as σ H _ ρ _ E q fun c ρ1 H1 q1 f1 E1 => ?_
  cases c
  · exact k _ _ _ q1 f1 E1
  · exact hb O as σ H1 _ ρ1 _ E1 q1 fun b ρ2 H2 q2 f2 E2 => k _ _ _ q2 (f1.trans f2) E2
theorem rt_or {t u : TT} {a b : FT} (ha : RT K J t a) (hb : RT K J u b) : RT K J (tOr t u) (fOr a b) := by
  intro O as σ H Q ρ P E q k
  refine ha O as σ H _ ρ _ E q fun c ρ1 H1 q1 f1 E1 => ?_
  cases c
  · exact hb O as σ H1 _ ρ1 _ E1 q1 fun b ρ2 H2 q2 f2 E2 => k _ _ _ q2 (f1.trans f2) E2
  · exact k _ _ _ q1 f1 E1
theorem rt_not {t : TT} {a : FT} (ha : RT K J t a) : RT K J (tNot t) (fNot a) := by
  intro O as σ H Q ρ P E q k
  exact ha O as σ H _ ρ _ E q fun c ρ1 H1 q1 f1 E1 => k _ _ _ q1 f1 E1
def fAndV (a b : FE) : FE := fun ρ P => a ρ fun d ρ1 => boolF d fun c => if c = true then b ρ1 P else P (.bool false) ρ1
def fOrV (a b : FE) : FE := fun ρ P => a ρ fun d ρ1 => boolF d fun c => if c = true then P (.bool true) ρ1 else b ρ1 P
def fNotV (a : FE) : FE := fun ρ P => a ρ fun d ρ1 => boolF d fun c => P (.bool (!c)) ρ1
theorem re_and {t u : TE} {a b : FE} (ha : RE K J t a) (hb : RE K J u b) : RE K J (tAndV t u) (fAndV a b) := by
  intro O as σ H Q ρ P E q k
  refine ha O as σ H _ ρ _ E q fun d ρ1 v H1 q1 f1 E1 d1 => ?_
  unfold boolF at q1
  split at q1
  · next c =>
    cases d1
    refine ⟨_, rfl, ?_⟩
    cases c
    · exact k _ _ _ _ q1 f1 E1 (.bl _)
    · exact hb O as σ H1 _ ρ1 _ E1 q1 fun b ρ2 v H2 q2 f2 E2 => k _ _ _ _ q2 (f1.trans f2) E2
  · exact q1.elim
theorem re_not {t : TE} {a : FE} (ha : RE K J t a) : RE K J (tNotV t) (fNotV a) := by
  intro O as σ H Q ρ P E q k
  refine ha O as σ H _ ρ _ E q fun d ρ1 v H1 q1 f1 E1 d1 => ?_
  unfold boolF at q1
  split at q1
  · cases d1
    exact ⟨_, rfl, k _ _ _ _ q1 f1 E1 (.bl _)⟩
  · exact q1.elim
def fIf (c : FT) (a b : FE) : FE := fun ρ P => c ρ fun k ρ1 => if k = true then a ρ1 P else b ρ1 P
theorem re_if {t : TT} {ta tb : TE} {c : FT} {a b : FE} (hc : RT K J t c) (ha : RE K J ta a) (hb : RE K J tb b) : RE K J (tIf t ta tb) (fIf c a b) := by
  intro O as σ H Q ρ P E q k
  refine hc O as σ H _ ρ _ E q fun c ρ1 H1 q1 f1 E1 => ?_
  cases c
  · exact hb O as σ H1 _ ρ1 _ E1 q1 fun b ρ2 v H2 q2 f2 E2 => k _ _ _ _ q2 (f1.trans f2) E2
  · exact ha O as σ H1 _ ρ1 _ E1 q1 fun b ρ2 v H2 q2 f2 E2 => k _ _ _ _ q2 (f1.trans f2) E2
def fChain (g g' : PyData → PyData → (PyData → Prop) → Prop) (a b c : FE) : FE := fun ρ P => a ρ fun x ρ1 => b ρ1 fun y ρ2 => g x y fun z => boolF z fun k => if k = true then c ρ2 fun w ρ3 => g' y w fun d => P d ρ3 else P (.bool false) ρ2
theorem re_chain {r r' : R2} {g g' : PyData → PyData → (PyData → Prop) → Prop} {ta tb tc : TE} {fa fb fc : FE} (hr : RR K r g) (hr' : RR K r' g') (ha : RE K J ta fa) (hb : RE K J tb fb) (hc : RE K J tc fc) : RE K J (tChain r r' ta tb tc) (fChain g g' fa fb fc) := by
  intro O as σ H Q ρ P E q k
  refine ha O as σ H _ ρ _ E q fun a ρ1 x H1 q1 f1 E1 d1 => ?_
  refine hb O as σ H1 _ ρ1 _ E1 q1 fun b ρ2 y H2 q2 f2 E2 d2 => ?_
  refine hr (Hid O as H2) H2 _ x y a b _ (fun c h => E2.full h) (d1.fr f2) d2 q2 fun d v H3 p s3 d3 => ?_
  unfold boolF at p
  split at p
  · next c =>
    cases d3
    refine ⟨_, rfl, ?_⟩
    have E3 := E2.grow s3
    have f3 := (f1.trans f2).trans (E2.frS s3)
    cases c
    · exact k _ _ _ _ p f3 E3 (.bl _)
    · refine hc O as σ _ _ ρ2 _ E3 p fun e ρ4 w H4 q4 f4 E4 d4 => ?_
      refine hr' (Hid O as H4) H4.hp _ y w b e _ (fun c h => E4.full h) ((d2.mono (E2.hgrow s3)).fr f4) d4 q4 fun d v H5 p s5 d5 => ?_
      exact k _ _ _ _ p ((f3.trans f4).trans (E4.frS s5)) (E4.grow s5) (d5.mono (E4.toS s5))
  · exact p.elim
/-! stores -/
def gN (i : Nat) : FG := fun d ρ P => slotF ρ i = true ∧ P (ρ.set i (.fz d))
theorem rg_name {i : Nat} : RG K J [i] (gName i) (gN i) := fun O as σ H R ρ P v d E q f k => k _ _ H f.2 (Fr.refl) (E.setFz f.1 q) ⟨List.length_set, fun j hj => by
  rw [List.getElem?_set, if_neg (fun z => hj (by simp [z]))]⟩
def gsNil : FGs := fun ds ρ P => ds = [] ∧ P ρ
def gsCons (a : FG) (b : FGs) : FGs := fun ds ρ P => match ds with
  | d :: r => a d ρ fun ρ1 => b r ρ1 P
  | [] => False
theorem rgs_nil : RGs K J [] gNil gsNil := by
  intro O as σ H R ρ P vs ds E q f k
  obtain ⟨rfl, f⟩ := f
  cases q
  exact ⟨rfl, k _ _ H f (Fr.refl) E ⟨rfl, fun _ _ => rfl⟩⟩
theorem rgs_cons {us ws : List Nat} {g : TG} {gs : TGs} {a : FG} {b : FGs} (ha : RG K J us g a) (hb : RGs K J ws gs b) : RGs K J (us ++ ws) (gCons g gs) (gsCons a b) := by
  intro O as σ H R ρ P vs ds E q f k
  cases q with
  | nil => exact f.elim
  | cons q1 q2 =>
    refine ⟨_, _, rfl, ?_⟩
    refine ha O as σ H _ ρ _ _ _ E q1 f fun ρ1 σ1 H1 p1 f1 E1 z1 => ?_
    exact hb O as σ1 H1 _ ρ1 _ _ _ E1 (q2.fr f1) p1 fun ρ2 σ2 H2 p2 f2 E2 z2 => k _ _ _ p2 (f1.trans f2) E2 ⟨z2.1.trans z1.1, fun j hj => by
      rw [List.mem_append, not_or] at hj
      rw [z2.2 j hj.2, z1.2 j hj.1]⟩
def gT (m : Nat) (b : FGs) : FG := fun d ρ P => match d with
  | .tuple ds => ds.length = m ∧ b ds ρ P
  | _ => False
theorem rg_tup {ws : List Nat} {m : Nat} {gs : TGs} {b : FGs} (h : RGs K J ws gs b) : RG K J ws (gTup K m gs) (gT m b) := by
  intro O as σ H R ρ P v d E q f k
  unfold gT at f
  split at f
  · obtain ⟨a, xs, rfl, s, r⟩ := q.tuple_of
    exact ⟨_, _, rfl, SqT.mono hp_same s, by rw [r.length]; exact f.1, h O as σ H _ ρ _ _ _ E r f.2 k⟩
  · exact f.elim
/-! statements -/
def fSeq (a b : FS) : FS := fun E ρ => a { E with nx := b E } ρ
theorem rs_seq {t u : TS} {a b : FS} (ha : RS K J t a) (hb : RS K J u b) : RS K J (tSeq t u) (fSeq a b) := by
  intro O as σ H D ρ E R f C
  refine ha O as σ H _ ρ _ R f ⟨fun ρ' as' σ' H' p x R' => ?_, C.rt, C.bk, C.ct, C.ro⟩
  exact hb O as' σ' H' D ρ' E R' p (C.ext x)
def fNext : FS := fun E ρ => E.nx ρ
theorem rs_next : RS K J tNext fNext := fun O as σ H D ρ E R f C => C.nx ρ as σ H f .refl R
def fAsg (a : FE) (g : FG) : FS := fun E ρ => a ρ fun d ρ1 => g d ρ1 E.nx
theorem rs_asg {ws : List Nat} {te : TE} {g : TG} {a : FE} {b : FG} (ha : RE K J te a) (hg : RG K J ws g b) : RS K J (tAsg te g) (fAsg a b) := by
  intro O as σ H D ρ E R f C
  refine ha O as σ H _ ρ _ R f fun d ρ1 v H1 q1 f1 E1 d1 => ?_
  refine hg O as σ H1 _ ρ1 _ v d E1 d1 q1 fun ρ2 σ2 H2 p2 f2 E2 _ => ?_
  exact C.nx _ _ _ _ p2 (.of (f1.trans f2)) E2
def fRet (a : FE) : FS := fun E ρ => a ρ E.rt
theorem rs_ret {te : TE} {a : FE} (ha : RE K J te a) : RS K J (tRet te) (fRet a) := by
  intro O as σ H D ρ E R f C
  exact ha O as σ H _ ρ _ R f fun d ρ1 v H1 q1 f1 E1 d1 => C.rt _ _ _ _ _ _ q1 (.of f1) E1 d1
def fRetN : FS := fun E ρ => E.rt .none ρ
def fDrop (a : FE) : FS := fun E ρ => a ρ fun _ ρ1 => E.nx ρ1
def fIfS (c : FT) (a b : FS) : FS := fun E ρ => c ρ fun k ρ1 => if k = true then a E ρ1 else b E ρ1
theorem rs_if {c : TT} {t u : TS} {fc : FT} {a b : FS} (hc : RT K J c fc) (ha : RS K J t a) (hb : RS K J u b) : RS K J (tIfS c t u) (fIfS fc a b) := by
  intro O as σ H D ρ E R f C
  refine hc O as σ H _ ρ _ R f fun k ρ1 H1 q1 f1 E1 => ?_
  cases k
  · exact hb O as σ H1 D ρ1 E E1 q1 (C.ext (.of f1))
  · exact ha O as σ H1 D ρ1 E E1 q1 (C.ext (.of f1))
def fNever : FS := fun _ _ => False
def fBreak : FS := fun E ρ => E.bk ρ
def fCont : FS := fun E ρ => E.ct ρ
def fPar (i j : Nat) (a : FA) : FS := fun E ρ => a ρ fun ds ρ1 => match ds with
  | [x, y] => gN i x ρ1 fun ρ2 => gN j y ρ2 E.nx
  | _ => False
theorem rs_par {i j : Nat} {t : TA} {a : FA} (ha : RA K J t a) : RS K J (tPar i j t) (fPar i j a) := by
  intro O as σ H D ρ E R f C
  refine ha O as σ H _ ρ _ R f fun ds ρ1 vs H1 q1 f1 E1 d1 => ?_
  split at q1
  · cases d1 with
    | cons d1 r => cases r with
      | cons d2 r =>
        cases r
        refine ⟨_, _, rfl, ?_⟩
        exact C.nx _ _ _ _ q1.2.2 (.of f1) ((E1.setFz q1.1 d1).setFz q1.2.1 d2)
  · exact q1.elim
/-- an own list that is so from now on -/
def fFreeze (i : Nat) (a : FS) : FS := fun E ρ => match ρ[i]? with
  | some (.own ds) => a E (ρ.set i (.fz (.list ds)))
  | _ => a E ρ
theorem rs_freeze {i : Nat} {t : TS} {a : FS} (hi : n ≤ i) (ha : RS K J t a) : RS K J t (fFreeze i a) := by
  intro O as σ H D ρ E R f C
  unfold fFreeze at f
  split at f
  · next ds h =>
    refine ha O _ σ H D _ E (R.freeze hi h) f (C.ext (Ext.go hi (R.nst_at (R.lt h fun _ z => by cases z))))
  · exact ha O as σ H D ρ E R f C
/-- a new list into a slot, its own -/
def fOwn (i : Nat) (a : FA) : FS := fun E ρ => a ρ fun ds ρ1 => slotL ρ1 i = true ∧ E.nx (ρ1.set i (.own ds))
theorem rs_own {i : Nat} {te : TE} {a : FA} (hi : n ≤ i) (ha : RN K J te a) : RS K J (tAsg te (gName i)) (fOwn i a) := by
  intro O as σ H D ρ E R f C
  refine ha O as σ H _ ρ _ R f fun ds ρ1 p xs H2 q1 f1 hp1 E1 hp2 d1 => ?_
  have x : Ext n as (upA as i (some (.lf p))) H H2 := ⟨f1.fr, fun a q => by
    rcases q.up with ⟨r, e, q⟩ | q
    · cases e
      rw [q.lf_of]
      exact hp1.symm
    · exact f1.new a q, fun j hj => upA_ne (by omega), f1.liv, upA_ks (E1.nst_at (E1.ltB q1.1)) (fun z => by cases z), f1.nst⟩
  have E2 := E1.setOwn R.inq (E1.ltB q1.1) (J.cl _ _ _ _ R.inv x) hp2 d1 fun z => R.notO E1 hp1 hp2 z
  exact C.nx _ _ _ _ q1.2 x E2
end
end DL
/-! loops, comprehensions, calls -/
namespace DL
open PySem L2 Z
variable [Tbs]
/-- what is gone through: the data of each turn -/
def IsIt (K : PySem.W.Frag) (A : Addr → Prop) (J : It) (H : Hp) (ds : List PyData) : Prop := ∃ (G : Hp → Prop) (Y : Nat → Hp → V → Hp → Prop), Walk J ds.length G Y ∧ (∀ (A' : Addr → Prop) (H1 : Hp), Same (hp A H) (hp A' H1) → G H1) ∧
  ∀ (i : Nat) (d : PyData) (A' : Addr → Prop) (H1 : Hp) (x : V) (H2 : Hp), ds[i]? = some d → Same (hp A H) (hp A' H1) → (∀ c, A' c → H1 c ≠ none) → Y i H1 x H2 → Same H1 H2 ∧ Dq K (hp A' H2) x d
def RI (K : PySem.W.Frag) {n : Nat} (J : Jv n) (wi : TI) (f : FA) : Prop := ∀ (O : Addr → Prop) (as : As) (σ : L2.St) (H : Hs) (R : It → Hp → Prop) (ρ : En) (P : List PyData → En → Prop), EnR K J O as H ρ σ → f ρ P →
  (∀ ds ρ' I H', P ds ρ' → Fr as H H' → EnR K J O as H' ρ' σ → IsIt K (Hid O as H') I H' ds → R I H') → wi σ H R
section
variable {K : PySem.W.Frag} {n : Nat} {J : Jv n}
def listF (a : PyData) (k : List PyData → Prop) : Prop := match a with
  | .list ds => k ds
  | _ => False
def tupleF (a : PyData) (k : List PyData → Prop) : Prop := match a with
  | .tuple ds => k ds
  | _ => False
def intF (a : PyData) (k : Int → Prop) : Prop := match a with
  | .int i => k i
  | _ => False
def iL (f : FE) : FA := fun ρ P => f ρ fun d ρ1 => listF d fun ds => P ds ρ1
theorem ri_list {tl : TE} {f : FE} (h : RE K J tl f) : RI K J (iList K tl) (iL f) := by
  intro O as σ H R ρ P E q k
  refine h O as σ H _ ρ _ E q fun d ρ1 v H1 q1 f1 E1 d1 => ?_
  unfold listF at q1
  split at q1
  · next ds =>
    obtain ⟨a, xs, rfl, s, r⟩ := d1.list_of
    refine ⟨a, rfl, ⟨_, SqL.mono hp_same s⟩, k _ _ _ _ q1 f1 E1 ?_⟩
    refine ⟨_, _, by rw [← r.length]; exact walk_list (xs := xs), fun A' H2 s2 => SqL.mono hp_same (SqL.mono s2 s), fun i d A' H2 x H3 hd s2 oc y => ?_⟩
    obtain ⟨rfl, hx⟩ := y
    obtain ⟨d', e, q⟩ := r.get hx
    rw [hd] at e
    cases e
    exact ⟨Same.refl _, q.mono s2⟩
  · exact q1.elim
def iT (f : FE) : FA := fun ρ P => f ρ fun d ρ1 => tupleF d fun ds => P ds ρ1
def signs (z : Str) : List PyData := z.cps.toList.map fun c => .str ⟨#[c]⟩
def iS (f : FE) : FA := fun ρ P => f ρ fun d ρ1 => strF d fun z => P (signs z) ρ1
theorem ri_str {te : TE} {f : FE} (h : RE K J te f) : RI K J (iStr te) (iS f) := by
  intro O as σ H R ρ P E q k
  refine h O as σ H _ ρ _ E q fun d ρ1 v H1 q1 f1 E1 d1 => ?_
  unfold strF at q1
  split at q1
  · next z =>
    cases d1
    refine ⟨z, rfl, k _ _ _ _ q1 f1 E1 ?_⟩
    refine ⟨_, _, by rw [signs, List.length_map, Array.length_toList]; exact walk_str (z := z), fun _ _ _ => trivial, fun i d A' H2 x H3 hd s2 oc y => ?_⟩
    obtain ⟨rfl, c, hc, rfl⟩ := y
    rw [signs, List.getElem?_map, Array.getElem?_toList, hc] at hd
    cases hd
    exact ⟨Same.refl _, .str _⟩
  · exact q1.elim
def rangeD (lo : Int) (m : Nat) : List PyData := (List.range m).map fun k : Nat => .int (lo + (k : Int))
theorem isIt_range {A : Addr → Prop} {H : Hp} {lo : Int} {m : Nat} : IsIt K A (Itr lo m) H (rangeD lo m) := by
  refine ⟨_, _, by rw [rangeD, List.length_map, List.length_range]; exact walk_range (lo := lo) (n := m), fun _ _ _ => trivial, fun i d A' H2 x H3 hd s2 oc y => ?_⟩
  obtain ⟨rfl, rfl⟩ := y
  rw [rangeD, List.getElem?_map] at hd
  have hi : i < m := by
    by_cases h : i < m
    · exact h
    · rw [List.getElem?_eq_none (by rw [List.length_range]; omega)] at hd; cases hd
  rw [List.getElem?_range hi] at hd
  cases hd
  exact ⟨Same.refl _, .int _⟩
def iR1 (f : FA) : FA := fun ρ P => f ρ fun ds ρ1 => match ds with
  | [.int j] => -(2 ^ 62) ≤ j ∧ j < 2 ^ 62 ∧ P (rangeD 0 j.toNat) ρ1
  | _ => False
theorem ri_rng1 {ta : TA} {f : FA} (h : RA K J ta f) : RI K J (iRng1 ta) (iR1 f) := by
  intro O as σ H R ρ P E q k
  refine h O as σ H _ ρ _ E q fun ds ρ1 vs H1 q1 f1 E1 d1 => ?_
  split at q1
  · cases d1 with
    | cons a b => cases a; cases b; exact ⟨_, rfl, q1.1, q1.2.1, k _ _ _ _ q1.2.2 f1 E1 isIt_range⟩
  · exact q1.elim
def iR2 (f : FA) : FA := fun ρ P => f ρ fun ds ρ1 => match ds with
  | [.int i, .int j] => (-(2 ^ 62) ≤ i ∧ i < 2 ^ 62 ∧ -(2 ^ 62) ≤ j ∧ j < 2 ^ 62) ∧ P (rangeD i (j - i).toNat) ρ1
  | _ => False
def downD (lo : Int) (m : Nat) : List PyData := (List.range m).map fun k : Nat => .int (lo - (k : Int))
/-- range(i, j, -1) -/
def iR3 (f : FA) : FA := fun ρ P => f ρ fun ds ρ1 => match ds with
  | [.int i, .int j, .int c] => c = -1 ∧ (-(2 ^ 62) ≤ i ∧ i < 2 ^ 62 ∧ -(2 ^ 62) ≤ j ∧ j < 2 ^ 62) ∧ P (downD i (i - j).toNat) ρ1
  | _ => False
theorem yPair {A A' : Addr → Prop} {H H1 H2 : Hp} {T : Addr} {x y : V} {a b : PyData} (hT : H1 T = none) (e : H2 = upd H1 T (.tup [x, y])) (oc : ∀ c, A' c → H1 c ≠ none) (hx : Dq K (hp A' H1) x a) (hy : Dq K (hp A' H1) y b) :
    Same H1 H2 ∧ Dq K (hp A' H2) (.ref T) (.tuple [a, b]) := by
  subst e
  have s := Same.new (o := .tup [x, y]) hT
  exact ⟨s, .tup (SqT.of (hp_mk (fun q => oc _ q hT) upd_same)) (.cons (hx.mono (hp_grow s)) (.cons (hy.mono (hp_grow s)) .nil))⟩
def enumD (ds : List PyData) : List PyData := ds.zipIdx.map fun z => .tuple [.int (z.2 : Nat), z.1]
def iE (f : FA) : FA := fun ρ P => f ρ fun ds ρ1 => match ds with
  | [.list es] => P (enumD es) ρ1
  | _ => False
theorem ri_enum {ta : TA} {f : FA} (h : RA K J ta f) : RI K J (iEnum K ta) (iE f) := by
  intro O as σ H R ρ P E q k
  refine h O as σ H _ ρ _ E q fun ds ρ1 vs H1 q1 f1 E1 d1 => ?_
  split at q1
  · next es =>
    cases d1 with
    | cons d1 b =>
      cases b
      obtain ⟨a, xs, rfl, s, r⟩ := d1.list_of
      refine ⟨a, xs, rfl, SqL.mono hp_same s, k _ _ _ _ q1 f1 E1 ?_⟩
      refine ⟨_, _, by rw [enumD, List.length_map, List.length_zipIdx, ← r.length]; exact walk_enum (xs := xs), fun A' H2 s2 => SqL.mono hp_same (SqL.mono s2 s), fun i d A' H2 x H3 hd s2 oc y => ?_⟩
      obtain ⟨T, x1, y1, rfl, hT, e, e1, e2⟩ := y
      cases e1
      obtain ⟨d', e', q'⟩ := r.get e2
      rw [enumD, List.getElem?_map, List.getElem?_zipIdx, e'] at hd
      simp only [Option.map_some, Nat.zero_add] at hd
      cases hd
      exact yPair (A := fun _ => False) (H := H) hT e oc (.int _) (q'.mono s2)
  · exact q1.elim
def zipD (a b : List PyData) : List PyData := (a.zip b).map fun z => .tuple [z.1, z.2]
def iZ (f : FA) : FA := fun ρ P => f ρ fun ds ρ1 => match ds with
  | [.list es, .list gs] => P (zipD es gs) ρ1
  | [.tuple es, .tuple gs] => P (zipD es gs) ρ1
  | _ => False
/-! for, while -/
/-- slots forgotten -/
def fgt (ρ : En) : List Nat → En
  | [] => ρ
  | v :: vs => fgt (if slotL ρ v then ρ.set v .no else ρ) vs
theorem EnR.forget1 {O : Addr → Prop} {as : As} {H : Hs} {ρ : En} {σ : L2.St} {v : Nat} (R : EnR K J O as H ρ σ) (hv : n ≤ v) : ∃ as', Ext n as as' H H ∧ EnR K J O as' H (if slotL ρ v then ρ.set v .no else ρ) σ := by
  have self : ∀ {ρ : En} {as : As}, EnR K J O as H ρ σ → slotF ρ v = true → EnR K J O as H (ρ.set v .no) σ := fun {ρ as} R h => by
    obtain ⟨sl, e, _, ns⟩ := slotF_of h
    obtain ⟨o, eo, _⟩ := R.at' e ns
    have := R.setNo h o
    rw [show σ.set v o = σ from by
      refine List.ext_getElem? fun j => ?_
      rw [List.getElem?_set]
      by_cases z : v = j
      · subst z
        rw [if_pos rfl, eo, if_pos (List.getElem?_eq_some_iff.mp eo).1]
      · rw [if_neg z]] at this
    exact this
  cases e : ρ[v]? with
  | none =>
    rw [if_neg (by unfold slotL; rw [e]; exact Bool.false_ne_true)]
    exact ⟨as, .refl, R⟩
  | some sl =>
    by_cases st : ∃ S, sl = .st S
    · obtain ⟨S, rfl⟩ := st
      rw [if_neg (by unfold slotL; rw [e]; exact Bool.false_ne_true)]
      exact ⟨as, .refl, R⟩
    have ns : ∀ S, sl ≠ .st S := fun S z => st ⟨S, z⟩
    rw [if_pos (by
      unfold slotL
      rw [e]
      cases sl with
      | st S => exact absurd rfl (ns S)
      | _ => rfl)]
    cases sl with
    | no => exact ⟨as, .refl, self R (by unfold slotF; rw [e])⟩
    | fz d => exact ⟨as, .refl, self R (by unfold slotF; rw [e])⟩
    | own ds =>
      obtain ⟨o, eo, _⟩ := R.at' e ns
      exact ⟨_, Ext.go hv (R.nst_at (R.lt e ns)), R.letGo hv eo .no⟩
    | st S => exact absurd rfl (ns S)
theorem EnR.forget {O : Addr → Prop} {H : Hs} {σ : L2.St} : ∀ (vs : List Nat) {as : As} {ρ : En}, EnR K J O as H ρ σ → (∀ v ∈ vs, n ≤ v) → ∃ as', Ext n as as' H H ∧ EnR K J O as' H (fgt ρ vs) σ
  | [], as, ρ, R, _ => ⟨as, .refl, R⟩
  | v :: vs, as, ρ, R, h => by
    obtain ⟨a1, x1, R1⟩ := R.forget1 (h v (List.mem_cons_self ..))
    obtain ⟨a2, x2, R2⟩ := EnR.forget vs R1 (fun u hu => h u (List.mem_cons_of_mem _ hu))
    exact ⟨a2, x1.trans x2, R2⟩
/-- a loop over data from now on; the slots us are forgotten at each turn's end -/
def forW (us : List Nat) (ds : List PyData) (g : FG) (b : FS) (E : FEnds) (ρ : En) : Prop := ∃ W : Nat → En → Prop, W 0 (fgt ρ us) ∧ (∀ i d ρ2, ds[i]? = some d → W i ρ2 → g d ρ2 fun ρ3 => b { E with nx := fun ρ4 => W (i + 1) (fgt ρ4 us), ct := fun ρ4 => W (i + 1) (fgt ρ4 us), bk := E.nx } ρ3) ∧ ∀ ρ2, W ds.length ρ2 → E.nx ρ2
def fFor (us : List Nat) (fi : FA) (g : FG) (b : FS) : FS := fun E ρ => fi ρ fun ds ρ1 => forW us ds g b E ρ1
theorem rs_for {us ws : List Nat} {wi : TI} {g : TG} {tb : TS} {fi : FA} {fg : FG} {b : FS} (hu : ∀ u ∈ us, n ≤ u) (hi : RI K J wi fi) (hg : RG K J ws g fg) (hb : RS K J tb b) : RS K J (tFor wi g tb) (fFor us fi fg b) := by
  intro O as σ H D ρ E R f C
  refine hi O as σ H _ ρ _ R f fun ds ρ1 I H1 q1 f1 E1 it => ?_
  obtain ⟨W, w0, ws', we⟩ := q1
  obtain ⟨G, Y, wk, hG, hY⟩ := it
  have C1 := C.ext (.of f1)
  obtain ⟨a0, x0, R0⟩ := E1.forget us hu
  refine for_it wk (fun i σ' H' => ∃ S' as' ρ', Ext n as as' H1 ⟨H', S'⟩ ∧ EnR K J O as' ⟨H', S'⟩ ρ' σ' ∧ W i ρ') ⟨_, a0, _, x0, R0, w0⟩ (fun i σ' H' _ ⟨S', as', ρ', x, _, _⟩ => hG (Hid O as' ⟨H', S'⟩) _ x.same) ?_ ?_
  · rintro i x σ2 H2' H3 hi' ⟨S2, as', ρ', x2, E2, w⟩ y
    obtain ⟨H2, hH2⟩ : ∃ H2 : Hs, H2 = ⟨H2', S2⟩ := ⟨_, rfl⟩
    rw [← hH2] at x2 E2
    have y' := y
    rw [show H2' = H2.hp from by rw [hH2]] at y
    obtain ⟨s3, d3⟩ := hY i _ (Hid O as' H2) H2 x H3 (List.getElem?_eq_getElem hi') x2.same (fun c h => E2.full h) y
    have x3 : Ext n as' as' H2 (H2.w H3) := .of (E2.frS s3)
    refine hg O as' σ2 (H2.w H3) _ ρ' _ x _ (E2.grow s3) (d3.mono (E2.toS s3)) (ws' i _ ρ' (List.getElem?_eq_getElem hi') w) fun ρ4 σ4 H4 p4 f4 E4 _ => ?_
    have x4 := (x2.trans x3).trans (Ext.of (n := n) f4)
    have C4 := C1.ext x4
    have fin : ∀ ρ5 as5 σ5 H5, W (i + 1) (fgt ρ5 us) → Ext n as' as5 H4 H5 → EnR K J O as5 H5 ρ5 σ5 → ∃ S' as' ρ', Ext n as as' H1 ⟨H5.hp, S'⟩ ∧ EnR K J O as' ⟨H5.hp, S'⟩ ρ' σ5 ∧ W (i + 1) ρ' := fun ρ5 as5 σ5 H5 p5 x5 E5 => by
      obtain ⟨a6, x6, R6⟩ := E5.forget us hu
      exact ⟨H5.st, a6, _, (x4.trans x5).trans x6, R6, p5⟩
    refine hb O as' σ4 H4 _ ρ4 _ E4 p4 ⟨fin, C4.rt, C4.nx, fin, C4.ro⟩
  · rintro σ2 H2 ⟨S2, as', ρ', x2, E2, w⟩
    exact C1.nx _ _ _ _ (we _ w) x2 E2
def whileW (us : List Nat) (c : FT) (b : FS) (E : FEnds) (ρ : En) : Prop := ∃ W : Nat → En → Prop, (∃ m, W m (fgt ρ us)) ∧ ∀ m ρ1, W m ρ1 → c ρ1 fun k ρ2 => if k = true then b { E with nx := fun ρ' => ∃ m', m' < m ∧ W m' (fgt ρ' us), ct := fun ρ' => ∃ m', m' < m ∧ W m' (fgt ρ' us), bk := E.nx } ρ2 else E.nx ρ2
def fWhile (us : List Nat) (c : FT) (b : FS) : FS := fun E ρ => whileW us c b E ρ
/-! comprehensions -/
def wipeF (ρ : En) : List Nat → En
  | [] => ρ
  | v :: vs => (wipeF ρ vs).set v .no
theorem wipe_at (σ : L2.St) (j : Nat) : ∀ vs : List Nat, (wipe σ vs)[j]? = if j ∈ vs ∧ j < σ.length then some none else σ[j]?
  | [] => by simp [wipe]
  | v :: vs => by
    rw [wipe, List.getElem?_set, wipe_length, wipe_at σ j vs]
    by_cases e : v = j
    · subst e
      by_cases h : v < σ.length
      · simp [h]
      · simp [h]
    · rw [if_neg e]
      simp [show ¬ j = v from fun z => e z.symm]
theorem wipe_eq {σ σ' : L2.St} {vs : List Nat} (hl : σ'.length = σ.length) (h : ∀ j, j ∉ vs → σ'[j]? = σ[j]?) : wipe σ' vs = wipe σ vs := by
  refine List.ext_getElem? fun j => ?_
  rw [wipe_at, wipe_at, hl]
  by_cases q : j ∈ vs
  · by_cases z : j < σ.length
    · rw [if_pos ⟨q, z⟩, if_pos ⟨q, z⟩]
    · rw [if_neg (fun w => z w.2), if_neg (fun w => z w.2), List.getElem?_eq_none (by omega), List.getElem?_eq_none (by omega)]
  · rw [if_neg (fun w => q w.1), if_neg (fun w => q w.1)]
    exact h j q
theorem slotF_set {ρ : En} {i j : Nat} (h : slotF ρ j = true) : slotF (ρ.set i .no) j = true := by
  obtain ⟨sl, q, _⟩ := slotF_of h
  have hj : j < ρ.length := (List.getElem?_eq_some_iff.mp q).1
  unfold slotF at *
  rw [List.getElem?_set]
  by_cases e : i = j
  · subst e
    simp [hj]
  · rw [if_neg e]
    exact h
theorem EnR.wipes {O : Addr → Prop} {as : As} {H : Hs} {ρ : En} {σ : L2.St} (E : EnR K J O as H ρ σ) : ∀ vs : List Nat, vs.all (slotF ρ) = true → EnR K J O as H (wipeF ρ vs) (wipe σ vs) ∧ ∀ j, slotF ρ j = true → slotF (wipeF ρ vs) j = true
  | [], _ => ⟨E, fun _ h => h⟩
  | v :: vs, h => by
    have h' : (slotF ρ v && vs.all (slotF ρ)) = true := h
    rw [Bool.and_eq_true] at h'
    obtain ⟨E1, k⟩ := EnR.wipes E vs h'.2
    exact ⟨E1.setNo (k v h'.1) none, fun j hj => slotF_set (k j hj)⟩
theorem wipeF_len (ρ : En) : ∀ vs : List Nat, (wipeF ρ vs).length = ρ.length
  | [] => rfl
  | v :: vs => by rw [wipeF, List.length_set, wipeF_len ρ vs]
theorem wipeF_at (ρ : En) (j : Nat) : ∀ vs : List Nat, (wipeF ρ vs)[j]? = if j ∈ vs ∧ j < ρ.length then some .no else ρ[j]?
  | [] => by simp [wipeF]
  | v :: vs => by
    rw [wipeF, List.getElem?_set, wipeF_len, wipeF_at ρ j vs]
    by_cases e : v = j
    · subst e
      by_cases h : v < ρ.length
      · simp [h]
      · simp [h]
    · rw [if_neg e]
      simp [show ¬ j = v from fun z => e z.symm]
/-- slots that are known of nothing may hold anything -/
theorem EnR.unwipe {O : Addr → Prop} {as : As} {H : Hs} {ρ : En} {σ σ' : L2.St} {vs : List Nat} (E : EnR K J O as H (wipeF ρ vs) (wipe σ vs)) (h : ∀ j, j ∈ vs → as j = none) (hl : σ'.length = σ.length) (h' : ∀ j, j ∉ vs → σ'[j]? = σ[j]?) :
    EnR K J O as H (wipeF ρ vs) σ' := by
  have L := E.len
  rw [wipeF_len, wipe_length] at L
  refine ⟨by rw [wipeF_len, hl]; exact L, fun j sl h1 h2 => E.tl j sl h1 (by rw [wipe_length, ← hl]; exact h2), fun j sl o h1 h2 => ?_, fun j h => by rw [hl, ← wipe_length σ vs]; exact E.sto j h, E.inj, E.out, E.bnd, E.occ, E.inv, E.inq, E.tab⟩
  by_cases q : j ∈ vs
  · rw [wipeF_at] at h1
    have hj : j < ρ.length := by
      have := (List.getElem?_eq_some_iff.mp h2).1
      omega
    rw [if_pos ⟨q, hj⟩] at h1
    cases h1
    rw [h j q]
    exact .no
  · refine E.at_ j sl o h1 ?_
    rw [wipe_at, if_neg (fun w => q w.1), ← h' j q]
    exact h2
/-- since a state in which nothing was at D -/
def Jv.hide {n : Nat} (J : Jv n) (D : Addr) : Jv n := ⟨fun as H => ∃ as0 H0, J.P as0 H0 ∧ H0 D = none ∧ Ext n as0 as H0 H, fun as as' H H' p x => by
  obtain ⟨a0, H0, h1, h2, h3⟩ := p
  exact ⟨a0, H0, h1, h2, h3.trans x⟩, J.Q, J.up⟩
theorem Jv.hide_le {n : Nat} {J : Jv n} {D : Addr} : (J.hide D).le J := ⟨fun _ _ ⟨_, _, h, _, x⟩ => J.cl _ _ _ _ h x, fun _ h => h⟩
theorem Jv.hide_new {n : Nat} {J : Jv n} {D : Addr} {as : As} {H H' : Hs} (h : J.P as H) (e : H D = none) (f : Fr as H H') : (J.hide D).P as H' := ⟨as, H, h, e, .of f⟩
theorem Ext.putN {n : Nat} {as as' : As} {H H' : Hs} {D : Addr} {o : HO} (x : Ext n as as' H H') (e : H D = none) (st : Stay as' H' (H'.w (upd H' D o))) : Ext n as as' H (H'.w (upd H' D o)) :=
  ⟨fun a u na h => by show upd H' D o a = _; rw [upd_ne (ne_of_none h e)]; exact x.fr a u na h, fun a h => x.new a (st.own.mp h), x.fix, fun a h => liv_upd _ a (x.liv a h), x.ks, x.nst⟩
theorem Fr.putN {as : As} {H H' : Hs} {D : Addr} {o : HO} (x : Fr as H H') (e : H D = none) (st : Stay as H' (H'.w (upd H' D o))) : Fr as H (H'.w (upd H' D o)) := by
  have y := (Ext.of (n := 0) x).putN e st
  exact ⟨y.fr, y.new, y.liv, y.nst⟩
theorem EnR.stayO {O : Addr → Prop} {as : As} {H : Hs} {ρ : En} {σ : L2.St} {D : Addr} {o : HO} (E : EnR K J O as H ρ σ) (h : O D) : Stay as H (H.w (upd H D o)) := ⟨fun i r b e q => upd_ne fun z => E.out i r b e q (by rw [z]; exact h), rfl⟩
theorem Jv.hide_put {n : Nat} {J : Jv n} {D : Addr} {as : As} {H : Hs} {o : HO} (h : (J.hide D).P as H) (st : Stay as H (H.w (upd H D o))) : (J.hide D).P as (H.w (upd H D o)) := by
  obtain ⟨a0, H0, h1, h2, h3⟩ := h
  exact ⟨a0, H0, h1, h2, h3.putN h2 st⟩
def lcW (ds : List PyData) (g : FG) (ft : FT) (fe : FE) (vs : List Nat) (ρ : En) (P : List PyData → En → Prop) : Prop := vs.all (slotF ρ) = true ∧ ∃ W : Nat → List PyData → En → Prop, W 0 [] (wipeF ρ vs) ∧
  (∀ i d acc ρ2, ds[i]? = some d → W i acc ρ2 → g d ρ2 fun ρ3 => ft ρ3 fun b ρ4 => if b = true then fe ρ4 fun y ρ5 => acc.length < sizeLine ∧ vs.all (slotF ρ5) = true ∧ W (i + 1) (acc ++ [y]) (wipeF ρ5 vs) else vs.all (slotF ρ4) = true ∧ W (i + 1) acc (wipeF ρ4 vs)) ∧
  ∀ acc ρ2, W ds.length acc (wipeF ρ2 vs) → P acc (wipeF ρ2 vs)
def fLc (fi : FA) (g : FG) (ft : FT) (fe : FE) (vs : List Nat) : FA := fun ρ P => fi ρ fun ds ρ1 => lcW ds g ft fe vs ρ1 P
theorem rn_lc {ws vs : List Nat} {wi : TI} {g : TG} {tt : TT} {te : TE} {fi : FA} {fg : FG} {ft : FT} {fe : FE} (hw : ∀ j ∈ ws, j ∈ vs) (hi : RI K J wi fi) (hg : ∀ J' : Jv n, J'.le J → RG K J' ws g fg) (ht : ∀ J' : Jv n, J'.le J → RT K J' tt ft) (he : ∀ J' : Jv n, J'.le J → RE K J' te fe) : RN K J (tLc wi g tt te vs) (fLc fi fg ft fe vs) := by
  intro O as σ H Q ρ P E q k
  refine hi O as σ H _ ρ _ E q fun ds ρ1 I H1 q1 f1 E1 it => ?_
  obtain ⟨hv, W, w0, ws', we⟩ := q1
  obtain ⟨G, Y, wk, hG, hY⟩ := it
  intro D hD
  have hvn : ∀ j, j ∈ vs → as j = none := fun j hj => E1.none_of (List.all_eq_true.mp hv j hj)
  have sO : ∀ {H2 : Hs}, Fr as H1 H2 → Same (hq O as H1) (hq (plus O D) as H2) := fun f a o e => by
    obtain ⟨na, e⟩ := hp_some e
    refine hp_mk (fun z => ?_) (f.fr a o (fun z => na (.inr z)) e)
    rcases z with (z | z) | z
    · exact na (.inl z)
    · rw [z, hD] at e; cases e
    · rcases f.new a z with z | z
      · exact na (.inr z)
      · rw [z] at e; cases e
  have hD0 : H D = none := by
    cases e : H D with
    | none => rfl
    | some o => exact absurd hD (f1.liv D (by rw [e]; exact Option.some_ne_none _))
  refine lc_it wk (fun i H2 => ∃ S2 acc ρ2 xs, Fr as H1 ⟨H2, S2⟩ ∧ EnR K (J.hide D) (plus O D) as ⟨H2, S2⟩ (wipeF ρ2 vs) (wipe σ vs) ∧ H2 D = some (.lst xs) ∧ DqAll K (hq (plus O D) as ⟨H2, S2⟩) xs acc ∧ W i acc (wipeF ρ2 vs)) ?_ (fun i H2 _ ⟨S2, acc, ρ2, xs, f2, _⟩ => hG (Hid (plus O D) as ⟨H2, S2⟩) _ (sO f2)) ?_ ?_
  · exact ⟨_, [], ρ1, [], E1.frS (Same.new hD), (((E1.addO (o := .lst []) hD).1.reJ (Jv.hide_new E1.inv hD (E1.frS (Same.new hD))) (J.up _ _ (fun _ z => .inl z) E1.inq)).wipes vs hv).1, upd_same, .nil, w0⟩
  · rintro i x H2' H3 hi' ⟨S2, acc, ρ2, xs, f2, E2, hx, dx, w⟩ y
    obtain ⟨H2, hH2⟩ : ∃ H2 : Hs, H2 = ⟨H2', S2⟩ := ⟨_, rfl⟩
    rw [← hH2] at f2 E2 dx
    rw [show H2' = H2.hp from by rw [hH2]] at y hx
    obtain ⟨s3, d3⟩ := hY i _ (Hid (plus O D) as H2) H2 x H3 (List.getElem?_eq_getElem hi') (sO f2) (fun c h => E2.full h) y
    have E3 := E2.grow s3
    refine hg _ Jv.hide_le (plus O D) as _ (H2.w H3) _ _ _ x _ E3 (d3.mono (E2.toS s3)) (ws' i _ acc _ (List.getElem?_eq_getElem hi') w) fun ρ4 σ4 H4 p4 f4 E4 z4 => ?_
    have len4 : σ4.length = σ.length := by rw [z4.1, wipe_length]
    have z4' : ∀ j, j ∉ vs → σ4[j]? = σ[j]? := fun j hj => by
      rw [z4.2 j (fun z => hj (hw j z)), wipe_at, if_neg (fun w => hj w.1)]
    refine ⟨wipe_eq len4 z4', ?_⟩
    refine ht _ Jv.hide_le (plus O D) as σ4 H4 _ ρ4 _ E4 p4 fun b ρ5 H5 q5 f5 E5 => ?_
    cases b
    · obtain ⟨v5, w5⟩ := q5
      have E6 := ((E5.wipes vs v5).1)
      rw [wipe_eq len4 z4'] at E6
      have f35 := (E2.frS s3).trans (f4.trans f5)
      exact ⟨H5.st, acc, ρ5, xs, f2.trans f35, E6, f35.fr _ _ (E2.newp hx) hx, dx.fr f35, w5⟩
    · refine he _ Jv.hide_le (plus O D) as σ4 H5 _ ρ5 _ E5 q5 fun d ρ6 v H6 q6 f6 E6 d6 => ?_
      obtain ⟨l6, v6, w6⟩ := q6
      have f36 := (E2.frS s3).trans ((f4.trans f5).trans f6)
      have hx6 := f36.fr _ _ (E2.newp hx) hx
      have dx6 := dx.fr f36
      obtain ⟨E7, s7⟩ := E6.putO (p := D) (ys := xs ++ [v]) (.inr rfl) hx6 (Jv.hide_put E6.inv (E6.stayO (.inr rfl)))
      have E8 := ((E7.wipes vs v6).1)
      rw [wipe_eq len4 z4'] at E8
      refine ⟨xs, hx6, by rw [dx.length]; exact l6, H6.st, acc ++ [d], ρ6, xs ++ [v], (f2.trans f36).putN hD (E6.stayO (.inr rfl)), E8, upd_same, (dx6.mono s7).append (.cons (d6.mono s7) .nil), w6⟩
  · rintro H2 ⟨S2, acc, ρ2, xs, f2, E2, hx, dx, w⟩
    have E3 := (E2.unwipe hvn (σ' := σ) rfl fun j hj => rfl).reJ (Jv.hide_le.1 _ _ E2.inv) (Jv.hide_le.2 _ E2.inq)
    exact k _ _ _ _ _ (we acc ρ2 w) (f1.trans f2) (.inl hD0) E3 hx dx
end
end DL
/-! calls of defs, own lists, the def itself -/
namespace DL
open PySem L2 Z PySem.Spec PyProof.Rows
variable [Tbs]
section
variable {K : PySem.W.Frag} {n : Nat} {J : Jv n}
/-- how a slot's own stands -/
def RgR (K : PySem.W.Frag) (G : Hp) (H : Hs) : Rg → Sl → Prop
  | .lf a, sl => SlR K G H.hp (some (.lf a)) sl (some (.ref a))
  | .sto, sl => sl = .st H.st ∧ StoR K G H.hp H.st
theorem RgR.mono {G G' : Hp} {H : Hs} (s : Same G G') {r : Rg} {sl : Sl} (h : RgR K G H r sl) : RgR K G' H r sl := by
  cases r with
  | lf a => exact SlR.mono s (fun _ _ => rfl) h
  | sto => exact ⟨h.1, h.2.move s fun _ _ => rfl⟩
theorem RgR.nod {G : Hp} {H : Hs} {r : Rg} {sl : Sl} (h : RgR K G H r sl) {b : Addr} (q : Rgn H r b) : Nod H.hp b := by
  cases r with
  | lf a =>
    cases h with
    | own e _ => rw [q.lf_of]; exact ⟨_, e, fun _ z => by cases z⟩
  | sto =>
    obtain ⟨o, e⟩ := Option.ne_none_iff_exists'.mp (show H.st b ≠ none from q)
    obtain ⟨u, e1, q1⟩ := h.2 b o e
    exact ⟨u, e1, q1.ntb⟩
/-- what comes back of what slots own -/
structure Bk (K : PySem.W.Frag) (O : Addr → Prop) (as : As) (H : Hs) (out : List Sl) : Prop where
  tab : TabsOk H.hp
  at_ : ∀ (i : Nat) (r : Rg), as i = some r → ∃ sl, out[i]? = some sl ∧ RgR K (hq O as H) H r sl
  inj : ∀ (i j : Nat) (r r' : Rg) (b : Addr), as i = some r → as j = some r' → Rgn H r b → Rgn H r' b → i = j
  out : ∀ (i : Nat) (r : Rg) (b : Addr), as i = some r → Rgn H r b → ¬ O b
theorem EnR.reg_at {O : Addr → Prop} {as : As} {H : Hs} {ρ : En} {σ : L2.St} (E : EnR K J O as H ρ σ) {i : Nat} {r : Rg} (h : as i = some r) : ∃ sl, ρ[i]? = some sl ∧ RgR K (hq O as H) H r sl := by
  rcases E.is_reg h with ⟨a, ds, xs, rfl, e1, _, e2, e3⟩ | ⟨rfl, _, e1, e2⟩
  · exact ⟨_, e1, .own e2 e3⟩
  · exact ⟨_, e1, rfl, e2⟩
/-- the store's slot, told by how many slots are ahead -/
def shA (as : As) (m N : Nat) : As := fun i => if i < m then as i else if i = N then as m else none
/-- what the parameters own, behind a run -/
theorem EnR.back {n' : Nat} {J' : Jv n'} {O : Addr → Prop} {as as' : As} {H' : Hs} {ρ' : En} {σ' : L2.St} {m N : Nat} (R : EnR K J' O as' H' ρ' σ') (hm : m ≤ N) (hb : ∀ i r, as i = some r → (i < m ∧ r ≠ .sto) ∨ (i = m ∧ r = .sto)) (hx : ∀ i, i < m → as' i = as i) (ks : as' N = some .sto ↔ as m = some .sto) : Bk K O as H' (ρ'.take m ++ ρ'.drop N) ∧ Same (hq O as' H') (hq O as H') := by
  have up : ∀ i r, as i = some r → ∃ j, as' j = some r ∧ ((i < m ∧ j = i) ∨ (i = m ∧ j = N)) := fun i r h => by
    rcases hb i r h with ⟨z, _⟩ | ⟨z, e⟩
    · exact ⟨i, by rw [hx i z]; exact h, .inl ⟨z, rfl⟩⟩
    · subst z; subst e
      exact ⟨N, ks.mpr h, .inr ⟨rfl, rfl⟩⟩
  have s : Same (hq O as' H') (hq O as H') := hp_less fun c hc => by
    rcases hc with hc | ⟨j, r, hc, q⟩ | hc
    · exact .inl hc
    · obtain ⟨j', e, _⟩ := up j r hc
      exact .inr (.inl ⟨j', r, e, q⟩)
    · exact .inr (.inr hc)
  refine ⟨⟨R.tab, fun i r h => ?_, fun i j r r' b h1 h2 q1 q2 => ?_, fun i r b h => ?_⟩, s⟩
  · obtain ⟨j, e, z⟩ := up i r h
    obtain ⟨sl, e1, e3⟩ := R.reg_at e
    refine ⟨sl, ?_, e3.mono s⟩
    have hj := (List.getElem?_eq_some_iff.mp e1).1
    rcases z with ⟨z, rfl⟩ | ⟨rfl, rfl⟩
    · rw [List.getElem?_append_left (by rw [List.length_take]; omega), List.getElem?_take, if_pos z]
      exact e1
    · rw [List.getElem?_append_right (by rw [List.length_take]; omega), List.length_take, Nat.min_eq_left (by omega), Nat.sub_self, List.getElem?_drop]
      exact e1
  · obtain ⟨i', e1, z1⟩ := up i r h1
    obtain ⟨j', e2, z2⟩ := up j r' h2
    have := R.inj i' j' r r' b e1 e2 q1 q2
    omega
  · obtain ⟨j, e, _⟩ := up i r h
    exact R.out j r b e
theorem Ext.frB {n N : Nat} {as as' : As} {H H' : Hs} (x : Ext n (shA as n N) as' H H') (hb : ∀ i r, as i = some r → (i < n ∧ r ≠ .sto) ∨ (i = n ∧ r = .sto)) (hN : n ≤ N) : Fr as H H' := by
  have own : ∀ a, Own (shA as n N) H a ↔ Own as H a := fun a => by
    constructor
    · rintro (⟨j, r, hc, q⟩ | hc)
      · unfold shA at hc
        split at hc
        · exact .inl ⟨j, r, hc, q⟩
        · split at hc
          · exact .inl ⟨n, r, hc, q⟩
          · cases hc
      · exact .inr hc
    · rintro (⟨j, r, hc, q⟩ | hc)
      · rcases hb j r hc with ⟨z, _⟩ | ⟨z, _⟩
        · exact .inl ⟨j, r, by unfold shA; rw [if_pos z]; exact hc, q⟩
        · exact .inl ⟨N, r, by unfold shA; rw [if_neg (by omega), if_pos rfl, ← z]; exact hc, q⟩
      · exact .inr hc
  have sh : ∀ j, shA as n N j = some .sto → ∃ i, as i = some .sto := fun j hj => by
    unfold shA at hj
    split at hj
    · exact ⟨_, hj⟩
    · split at hj
      · exact ⟨_, hj⟩
      · cases hj
  refine ⟨fun a o h e => x.fr a o (fun z => h ((own a).mp z)) e, fun a h => ?_, x.liv, fun h => x.nst fun j hj => (sh j hj).elim fun i z => h i z⟩
  refine (x.new a ?_).imp (own a).mp id
  rcases h with ⟨j, r, hc, q⟩ | hc
  · rcases hb j r hc with ⟨z, _⟩ | ⟨z, e⟩
    · exact .inl ⟨j, r, by rw [x.fix j z]; unfold shA; rw [if_pos z]; exact hc, q⟩
    · subst e
      exact .inl ⟨N, .sto, by rw [x.ks N]; unfold shA; rw [if_neg (by omega), if_pos rfl, ← z]; exact hc, q⟩
  · exact .inr hc
/-- what a def keeps that hands back data; e: whether it is handed the store -/
def spG (K : PySem.W.Frag) (n e : Nat) (F : FN) : Sp := fun vs H Q _ => vs.length = n ∧ ∃ (O : Addr → Prop) (as : As) (S : Sto) (ρ : En) (P : PyData → List Sl → Prop), EnR K (J0 : Jv 0) O as ⟨H, S⟩ ρ (vs.map some) ∧ ρ.length = n + e ∧ F ρ P ∧
  ∀ d out v H', P d out → Fr as ⟨H, S⟩ H' → Bk K O as H' out → Dq K (hq O as H') v d → Q v H'
abbrev spF (K : PySem.W.Frag) (n : Nat) (F : FN) : Sp := spG K n 0 F
/-! arguments -/
def cNil : FC := fun ρ P => P [] ρ
def cDat (a : FE) (b : FC) : FC := fun ρ P => a ρ fun d ρ1 => b ρ1 fun xs ρ2 => P (.dat d :: xs) ρ2
def cOwn (i : Nat) (b : FC) : FC := fun ρ P => match ρ[i]? with
  | some (.own _) => b ρ fun xs ρ1 => P (.own i :: xs) ρ1
  | _ => False
theorem ArsR.fr {O : Addr → Prop} {as : As} {H H' : Hs} (f : Fr as H H') : ∀ {vs : List V} {xs : List Ar}, ArsR K (hq O as H) as vs xs → ArsR K (hq O as H') as vs xs
  | _, _, .nil => .nil
  | _, _, .cons (.dat q) r => .cons (.dat (q.fr f)) (ArsR.fr f r)
  | _, _, .cons (.own q) r => .cons (.own q) (ArsR.fr f r)
theorem rc_nil : RC K J tNil cNil := fun O as σ H Q ρ P E f k => k [] ρ [] H f (Fr.refl) E .nil
theorem rc_dat {ta : TE} {t : TA} {fa : FE} {f : FC} (ha : RE K J ta fa) (h : RC K J t f) : RC K J (tCons ta t) (cDat fa f) := by
  intro O as σ H Q ρ P E q k
  refine ha O as σ H _ ρ _ E q fun d ρ1 v H1 q1 f1 E1 d1 => ?_
  refine h O as σ H1 _ ρ1 _ E1 q1 fun ds ρ2 vs H2 q2 f2 E2 d2 => ?_
  exact k _ _ _ _ q2 (f1.trans f2) E2 (.cons (.dat (d1.fr f2)) d2)
theorem rc_own {i : Nat} {t : TA} {f : FC} (h : RC K J t f) : RC K J (tCons (tVar i) t) (cOwn i f) := by
  intro O as σ H Q ρ P E q k
  unfold cOwn at q
  split at q
  · next ds hs =>
    obtain ⟨a, xs, e1, e2, e3, e4⟩ := E.own_at hs
    refine ⟨_, e1, ?_⟩
    exact h O as σ H _ ρ _ E q fun ds ρ2 vs H2 q2 f2 E2 d2 => k _ _ _ _ q2 f2 E2 (.cons (.own e2) d2)
  · exact q.elim
def argF (ρ : En) : List Ar → (List Sl → Prop) → Prop
  | [], k => k []
  | .dat d :: xs, k => argF ρ xs fun r => k (.fz d :: r)
  | .own i :: xs, k => match ρ[i]? with
    | some (.own ds) => argF ρ xs fun r => k (.own ds :: r)
    | some (.st S) => argF ρ xs fun r => k (.st S :: r)
    | _ => False
def ownIx : List Ar → List Nat
  | [] => []
  | .dat _ :: xs => ownIx xs
  | .own i :: xs => i :: ownIx xs
/-- what comes back -/
def wb (ρ : En) : List Ar → List Sl → En
  | [], _ => ρ
  | .own i :: xs, r => (wb ρ xs r.tail).set i (r.headD .no)
  | .dat _ :: xs, r => wb ρ xs r.tail
def adrs (as : As) (xs : List Ar) : As := fun j => match xs[j]? with
  | some (.own i) => as i
  | _ => none
theorem adrs_own {as : As} {xs : List Ar} {j : Nat} {a : Rg} (h : adrs as xs j = some a) : ∃ i, xs[j]? = some (.own i) ∧ as i = some a := by
  unfold adrs at h
  split at h
  · next i e => exact ⟨i, e, h⟩
  · cases h
theorem ownIx_mem {i : Nat} : ∀ {xs : List Ar}, i ∈ ownIx xs → ∃ j : Nat, xs[j]? = some (Ar.own i)
  | .dat _ :: xs, h => by
    obtain ⟨j, e⟩ := ownIx_mem (xs := xs) h
    exact ⟨j + 1, e⟩
  | .own k :: xs, h => by
    rcases List.mem_cons.mp h with rfl | h
    · exact ⟨0, rfl⟩
    · obtain ⟨j, e⟩ := ownIx_mem (xs := xs) h
      exact ⟨j + 1, e⟩
theorem mem_ownIx {i : Nat} : ∀ {xs : List Ar} {j : Nat}, xs[j]? = some (.own i) → i ∈ ownIx xs
  | .dat _ :: xs, 0, h => by cases h
  | .dat _ :: xs, j + 1, h => mem_ownIx (xs := xs) (j := j) h
  | .own k :: xs, 0, h => by cases h; exact List.mem_cons_self ..
  | .own k :: xs, j + 1, h => List.mem_cons_of_mem _ (mem_ownIx (xs := xs) (j := j) h)
theorem ownIx_inj {i : Nat} : ∀ {xs : List Ar} {j k : Nat}, (ownIx xs).Nodup → xs[j]? = some (.own i) → xs[k]? = some (.own i) → j = k
  | [], _, _, _, h, _ => by cases h
  | .dat _ :: xs, 0, _, _, h, _ => by cases h
  | .dat _ :: xs, _ + 1, 0, _, _, h => by cases h
  | .dat _ :: xs, j + 1, k + 1, nd, h, h' => by rw [ownIx_inj (xs := xs) nd h h']
  | .own m :: xs, 0, 0, _, _, _ => rfl
  | .own m :: xs, 0, k + 1, nd, h, h' => by cases h; exact absurd (mem_ownIx (xs := xs) (j := k) h') (List.nodup_cons.mp nd).1
  | .own m :: xs, j + 1, 0, nd, h', h => by cases h; exact absurd (mem_ownIx (xs := xs) (j := j) h') (List.nodup_cons.mp nd).1
  | .own m :: xs, j + 1, k + 1, nd, h, h' => by rw [ownIx_inj (xs := xs) (List.nodup_cons.mp nd).2 h h']
theorem wb_len (ρ : En) : ∀ (xs : List Ar) (r : List Sl), (wb ρ xs r).length = ρ.length
  | [], _ => rfl
  | .own i :: xs, r => by rw [wb, List.length_set, wb_len ρ xs r.tail]
  | .dat _ :: xs, r => by rw [wb, wb_len ρ xs r.tail]
theorem wb_other (ρ : En) {i : Nat} : ∀ (xs : List Ar) (r : List Sl), i ∉ ownIx xs → (wb ρ xs r)[i]? = ρ[i]?
  | [], _, _ => rfl
  | .own k :: xs, r, h => by
    have h' := not_or.mp (fun q => h (List.mem_cons.mpr q))
    rw [wb, List.getElem?_set, if_neg (fun z => h'.1 z.symm), wb_other ρ xs r.tail h'.2]
  | .dat _ :: xs, r, h => by rw [wb, wb_other ρ xs r.tail h]
theorem wb_own (ρ : En) {i : Nat} {sl : Sl} (hi : i < ρ.length) : ∀ {xs : List Ar} {r : List Sl} {j : Nat}, (ownIx xs).Nodup → xs[j]? = some (.own i) → r[j]? = some sl → (wb ρ xs r)[i]? = some sl
  | [], _, _, _, h, _ => by cases h
  | _, [], _, _, _, h => by cases h
  | .dat _ :: xs, _, 0, _, h, _ => by cases h
  | .dat _ :: xs, _ :: r, j + 1, nd, h, h' => by rw [wb]; exact wb_own ρ hi (xs := xs) (r := r) (j := j) nd h h'
  | .own k :: xs, s :: r, 0, nd, h, h' => by
    cases h; cases h'
    rw [wb, List.getElem?_set, if_pos rfl, wb_len, if_pos hi]
    rfl
  | .own k :: xs, _ :: r, j + 1, nd, h, h' => by
    have nd' := List.nodup_cons.mp nd
    have hk : k ≠ i := fun z => nd'.1 (by rw [z]; exact mem_ownIx (xs := xs) (j := j) h)
    rw [wb, List.getElem?_set, if_neg hk]
    exact wb_own ρ hi (xs := xs) (r := r) (j := j) nd'.2 h h'
inductive Fits (ρ : En) : List Ar → List Sl → Prop
  | nil : Fits ρ [] []
  | dat {d : PyData} {xs : List Ar} {r : List Sl} : Fits ρ xs r → Fits ρ (.dat d :: xs) (.fz d :: r)
  | own {i : Nat} {ds : List PyData} {xs : List Ar} {r : List Sl} : ρ[i]? = some (.own ds) → Fits ρ xs r → Fits ρ (.own i :: xs) (.own ds :: r)
  | st {i : Nat} {S : Sto} {xs : List Ar} {r : List Sl} : ρ[i]? = some (.st S) → Fits ρ xs r → Fits ρ (.own i :: xs) (.st S :: r)
theorem argF_of {ρ : En} : ∀ {xs : List Ar} {k : List Sl → Prop}, argF ρ xs k → ∃ r, Fits ρ xs r ∧ k r
  | [], k, h => ⟨_, .nil, h⟩
  | .dat d :: xs, k, h => by
    obtain ⟨r, f, q⟩ := argF_of (xs := xs) h
    exact ⟨_, .dat f, q⟩
  | .own i :: xs, k, h => by
    unfold argF at h
    split at h
    · next ds e =>
      obtain ⟨r, f, q⟩ := argF_of (xs := xs) h
      exact ⟨_, .own e f, q⟩
    · next S e =>
      obtain ⟨r, f, q⟩ := argF_of (xs := xs) h
      exact ⟨_, .st e f, q⟩
    · exact h.elim
/-- arguments, behind them the store, or not -/
inductive ArsT (K : PySem.W.Frag) (G : Hp) (as : As) : List V → List Ar → Prop
  | nil : ArsT K G as [] []
  | cons {v : V} {vs : List V} {x : Ar} {xs : List Ar} : ArR K G as v x → ArsT K G as vs xs → ArsT K G as (v :: vs) (x :: xs)
  | sto {i : Nat} : as i = some .sto → ArsT K G as [] [.own i]
theorem ArsR.toT {G : Hp} {as : As} : ∀ {vs : List V} {xs : List Ar}, ArsR K G as vs xs → ArsT K G as vs xs
  | _, _, .nil => .nil
  | _, _, .cons a r => .cons a (ArsR.toT r)
/-- one argument's slot -/
theorem fits_at {O : Addr → Prop} {as : As} {H : Hs} {G : Hp} {ρ : En} {σ : L2.St} (E : EnR K J O as H ρ σ) (s : Same (hq O as H) G) : ∀ {xs : List Ar} {r : List Sl} {vs : List V} {j : Nat} {sl : Sl} {o : Option V}, Fits ρ xs r → ArsT K (hq O as H) as vs xs →
    r[j]? = some sl → (vs.map some)[j]? = some o → SlR K G H.hp (adrs as xs j) sl o
  | _, _, _, _, _, _, .nil, _, h, _ => by cases h
  | _, _, _, _, _, _, _, .sto q, h, h' => by cases h'
  | _, _, _, 0, _, _, .dat f, .cons (.dat q) _, h, h' => by cases h; cases h'; exact .fz (q.mono s)
  | _, _, _, 0, _, _, .own e f, .cons (.own q) _, h, h' => by
    cases h; cases h'
    obtain ⟨a, xs, e1, e2, e3, e4⟩ := E.own_at e
    rw [q] at e2
    cases e2
    show SlR K G H.hp (as _) _ _
    rw [q]
    exact .own e3 (e4.mono s)
  | _, _, _, 0, _, _, .st e f, .cons (.own q) _, h, h' => by
    have := (E.st_at e).1
    rw [q] at this
    cases this
  | _, _, _, j + 1, _, _, .st _ f, .cons _ r', h, h' => fits_at E s (j := j) f r' h h'
  | _, _, _, j + 1, _, _, .dat f, .cons _ r', h, h' => fits_at E s (j := j) f r' h h'
  | _, _, _, j + 1, _, _, .own _ f, .cons _ r', h, h' => fits_at E s (j := j) f r' h h'
theorem Fits.len {ρ : En} : ∀ {xs : List Ar} {r : List Sl}, Fits ρ xs r → r.length = xs.length
  | _, _, .nil => rfl
  | _, _, .dat f => by rw [List.length_cons, List.length_cons, Fits.len f]
  | _, _, .own _ f => by rw [List.length_cons, List.length_cons, Fits.len f]
  | _, _, .st _ f => by rw [List.length_cons, List.length_cons, Fits.len f]
theorem ArsT.len {G : Hp} {as : As} : ∀ {vs : List V} {xs : List Ar}, ArsT K G as vs xs → vs.length ≤ xs.length ∧ xs.length ≤ vs.length + 1
  | _, _, .nil => ⟨Nat.le_refl _, Nat.le_succ _⟩
  | _, _, .cons _ r => by
    have := ArsT.len r
    rw [List.length_cons, List.length_cons]
    omega
  | _, _, .sto _ => ⟨Nat.zero_le _, Nat.le_refl _⟩
theorem ArsR.len {G : Hp} {as : As} : ∀ {vs : List V} {xs : List Ar}, ArsR K G as vs xs → vs.length = xs.length
  | _, _, .nil => rfl
  | _, _, .cons _ r => by rw [List.length_cons, List.length_cons, ArsR.len r]
theorem ArsT.tl {G : Hp} {as : As} : ∀ {vs : List V} {xs : List Ar} {j : Nat}, ArsT K G as vs xs → j < xs.length → vs.length ≤ j → adrs as xs j = some .sto
  | _, _, _, .nil, h, _ => by cases h
  | _, _, 0, .cons _ r, _, h => by cases h
  | _, _, j + 1, .cons _ r, h, h' => ArsT.tl (j := j) r (Nat.lt_of_succ_lt_succ h) (Nat.le_of_succ_le_succ h')
  | _, _, 0, .sto q, _, _ => q
  | _, _, j + 1, .sto q, h, _ => by rw [List.length_singleton] at h; omega
theorem ArsT.at_sto {G : Hp} {as : As} : ∀ {vs : List V} {xs : List Ar} {j : Nat}, ArsT K G as vs xs → adrs as xs j = some .sto → j = vs.length
  | _, _, _, .nil, h => by cases h
  | _, _, 0, .cons (.dat _) r, h => by cases h
  | _, _, 0, .cons (.own q) r, h => by
    have h : as _ = some Rg.sto := h
    rw [q] at h; cases h
  | _, _, j + 1, .cons _ r, h => by rw [List.length_cons, ArsT.at_sto (j := j) r h]
  | _, _, 0, .sto q, _ => rfl
  | _, _, j + 1, .sto q, h => by cases h
def fCall (m : Nat) (F : FN) (dv : List PyData) (a : FC) : FE := fun ρ P => a ρ fun xs ρ1 => xs.length + dv.length = m ∧ (ownIx xs).Nodup ∧ argF ρ1 xs fun r => F (r ++ dv.map .fz) fun d out => P d (wb ρ1 xs out)
theorem dat_ars {G : Hp} {as : As} : ∀ {vs : List V} {ds : List PyData}, DqAll K G vs ds → ArsR K G as vs (ds.map .dat)
  | _, _, .nil => .nil
  | _, _, .cons a b => .cons (.dat a) (dat_ars b)
theorem fits_dat {ρ : En} : ∀ ds : List PyData, Fits ρ (ds.map .dat) (ds.map .fz)
  | [] => .nil
  | d :: r => .dat (fits_dat r)
theorem ArsR.app {G : Hp} {as : As} : ∀ {vs ws : List V} {xs ys : List Ar}, ArsR K G as vs xs → ArsR K G as ws ys → ArsR K G as (vs ++ ws) (xs ++ ys)
  | _, _, _, _, .nil, h => h
  | _, _, _, _, .cons a b, h => .cons a (ArsR.app b h)
theorem Fits.st_of {ρ : En} {i : Nat} {S : Sto} : ∀ {xs : List Ar} {r : List Sl} {j : Nat}, Fits ρ xs r → xs[j]? = some (.own i) → ρ[i]? = some (.st S) → r[j]? = some (.st S)
  | _, _, _, .nil, h, _ => by cases h
  | _, _, 0, .dat f, h, _ => by cases h
  | _, _, 0, .own e f, h, h' => by cases h; rw [e] at h'; cases h'
  | _, _, 0, .st e f, h, h' => by cases h; rw [e] at h'; cases h'; rfl
  | _, _, j + 1, .dat f, h, h' => Fits.st_of (j := j) f h h'
  | _, _, j + 1, .own _ f, h, h' => Fits.st_of (j := j) f h h'
  | _, _, j + 1, .st _ f, h, h' => Fits.st_of (j := j) f h h'
theorem Fits.app {ρ : En} : ∀ {xs ys : List Ar} {r s : List Sl}, Fits ρ xs r → Fits ρ ys s → Fits ρ (xs ++ ys) (r ++ s)
  | _, _, _, _, .nil, h => h
  | _, _, _, _, .dat f, h => .dat (Fits.app f h)
  | _, _, _, _, .own e f, h => .own e (Fits.app f h)
  | _, _, _, _, .st e f, h => .st e (Fits.app f h)
theorem ownIx_app : ∀ (xs : List Ar) (ds : List PyData), ownIx (xs ++ ds.map .dat) = ownIx xs
  | [], [] => rfl
  | [], d :: r => ownIx_app [] r
  | .dat _ :: xs, ds => ownIx_app xs ds
  | .own i :: xs, ds => by show i :: ownIx (xs ++ _) = _; rw [ownIx_app xs ds]; rfl
theorem wb_app (ρ : En) : ∀ (xs : List Ar) (ds : List PyData) (r : List Sl), wb ρ (xs ++ ds.map .dat) r = wb ρ xs r
  | [], [], r => rfl
  | [], d :: ds, r => by
    show wb ρ (ds.map .dat) r.tail = _
    have := wb_app ρ [] ds r.tail
    rw [List.nil_append] at this
    rw [this]
    rfl
  | .dat _ :: xs, ds, r => wb_app ρ xs ds r.tail
  | .own i :: xs, ds, r => by show (wb ρ (xs ++ _) r.tail).set i _ = _; rw [wb_app ρ xs ds r.tail]; rfl
theorem ArsT.own_at {G : Hp} {as : As} {i : Nat} : ∀ {vs : List V} {xs : List Ar} {j : Nat}, ArsT K G as vs xs → xs[j]? = some (Ar.own i) → ∃ a, as i = some a
  | _, _, _, .nil, h => by cases h
  | _, _, 0, .cons (.dat _) _, h => by cases h
  | _, _, 0, .cons (.own q) _, h => by cases h; exact ⟨_, q⟩
  | _, _, j + 1, .cons _ r, h => ArsT.own_at (j := j) r h
  | _, _, 0, .sto q, h => by cases h; exact ⟨_, q⟩
  | _, _, j + 1, .sto q, h => by cases h
/-- what a callee may not touch -/
def OutO (O : Addr → Prop) (as : As) (xs : List Ar) (H : Hs) : Addr → Prop := fun a => Hid O as H a ∧ ¬ Own (adrs as xs) H a
theorem adrs_sub {as : As} {xs : List Ar} {H : Hs} {a : Addr} (h : Own (adrs as xs) H a) : Own as H a := by
  rcases h with ⟨j, r, h, q⟩ | h
  · obtain ⟨i, _, h⟩ := adrs_own h
    exact .inl ⟨i, r, h, q⟩
  · exact .inr h
/-- the callee's view of the state -/
theorem call_in {O : Addr → Prop} {as : As} {H : Hs} {ρ : En} {σ : L2.St} {xs : List Ar} {r : List Sl} {vs : List V} (E : EnR K J O as H ρ σ) (fit : Fits ρ xs r) (ar : ArsT K (hq O as H) as vs xs) (nd : (ownIx xs).Nodup) : EnR K (J0 : Jv 0) (OutO O as xs H) (adrs as xs) H r (vs.map some) := by
  have s1 : Same (hq O as H) (hq (OutO O as xs H) (adrs as xs) H) := hp_less fun a h => h.elim (fun h => h.1) fun h => .inr (adrs_sub h)
  have L := ar.len
  refine ⟨by rw [List.length_map, fit.len]; exact L, fun j sl h1 h2 => ?_, fun j sl o h1 h2 => fits_at E s1 fit ar h1 h2, fun j h => ?_, fun j1 j2 r1 r2 b h1 h2 q1 q2 => ?_, fun j r1 b h q z => z.2 (.inl ⟨j, r1, h, q⟩), fun j r1 h => ?_, fun a h => E.full h.1, trivial, trivial, E.tab⟩
  · refine ar.tl ?_ (by rw [List.length_map] at h2; exact h2)
    rw [← fit.len]
    exact (List.getElem?_eq_some_iff.mp h1).1
  · obtain ⟨i, e, hi⟩ := adrs_own h
    obtain ⟨_, e2, e3⟩ := E.sto i hi
    refine ⟨by rw [List.length_map]; exact ar.at_sto h, fit.st_of e e2, e3.move s1 fun _ _ => rfl⟩
  · obtain ⟨i1, e1, h1⟩ := adrs_own h1
    obtain ⟨i2, e2, h2⟩ := adrs_own h2
    rw [E.inj i1 i2 r1 r2 b h1 h2 q1 q2] at e1
    exact ownIx_inj nd e1 e2
  · obtain ⟨i, e, _⟩ := adrs_own h
    rw [fit.len]
    exact (List.getElem?_eq_some_iff.mp e).1
/-- and back -/
theorem call_back {O : Addr → Prop} {as : As} {H H' : Hs} {ρ : En} {σ : L2.St} {xs : List Ar} {vs : List V} {out : List Sl} (E : EnR K J O as H ρ σ) (ar : ArsT K (hq O as H) as vs xs) (nd : (ownIx xs).Nodup) (fr : Fr (adrs as xs) H H') (bk : Bk K (OutO O as xs H) (adrs as xs) H' out) :
    Fr as H H' ∧ EnR K J O as H' (wb ρ xs out) σ ∧ (∀ a, Hid O as H' a → Hid (OutO O as xs H) (adrs as xs) H' a) ∧ ∀ i r b, i ∉ ownIx xs → as i = some r → Rgn H r b → H' b = H b ∧ ¬ Own (adrs as xs) H b := by
  have off : ∀ i r b, i ∉ ownIx xs → as i = some r → Rgn H r b → ¬ Own (adrs as xs) H b := fun i r b ni h q z => by
    rcases z with ⟨j, r', z, q'⟩ | z
    · obtain ⟨i', e', h'⟩ := adrs_own z
      rw [E.inj i' i r' r b h' h q' q] at e'
      exact ni (mem_ownIx e')
    · exact E.tab.nod (E.nod h q) z
  have stay : ∀ i r b, i ∉ ownIx xs → as i = some r → Rgn H r b → H' b = H b := fun i r b ni h q => by
    obtain ⟨o, e, _⟩ := E.nod h q
    rw [e]
    exact fr.fr _ _ (off i r b ni h q) e
  have inn : ∀ i r, i ∈ ownIx xs → as i = some r → ∃ j, xs[j]? = some (.own i) ∧ adrs as xs j = some r := fun i r q h => by
    obtain ⟨j, e⟩ := ownIx_mem q
    exact ⟨j, e, by unfold adrs; rw [e]; exact h⟩
  have stEq : ∀ i, i ∉ ownIx xs → as i = some .sto → H'.st = H.st := fun i ni h => fr.nst fun j z => by
    obtain ⟨i', e', h'⟩ := adrs_own z
    rw [(E.sto i' h').1, ← (E.sto i h).1] at e'
    exact ni (mem_ownIx e')
  have stayR : ∀ i r b, i ∉ ownIx xs → as i = some r → (Rgn H' r b ↔ Rgn H r b) := fun i r b ni h => by
    cases r with
    | lf a => exact Iff.rfl
    | sto => exact Rgn.st (stEq i ni h)
  have fr' : Fr as H H' := by
    refine ⟨fr.fr.up fun a h => adrs_sub h, fun a h => ?_, fr.liv, fun h => fr.nst fun j z => ?_⟩
    · rcases h with ⟨i, r, h, q⟩ | h
      · by_cases m : i ∈ ownIx xs
        · obtain ⟨j, _, e⟩ := inn i r m h
          exact (fr.new a (.inl ⟨j, r, e, q⟩)).imp adrs_sub id
        · exact .inl (.inl ⟨i, r, h, (stayR i r a m h).mp q⟩)
      · exact .inl (.inr h)
    · obtain ⟨i', e', h'⟩ := adrs_own z
      exact h i' h'
  have nO : ∀ i r b, i ∉ ownIx xs → as i = some r → Rgn H r b → OutO O as xs H b := fun i r b ni h q => ⟨.inr (.inl ⟨i, r, h, q⟩), off i r b ni h q⟩
  have oO : ∀ b, O b → (∃ p ∈ Tbs.T, p.1 = b) ∨ OutO O as xs H b := fun b h => by
    by_cases z : ∃ p ∈ Tbs.T, p.1 = b
    · exact .inl z
    · refine .inr ⟨.inl h, fun w => ?_⟩
      rcases w with ⟨j, r', w, q'⟩ | w
      · obtain ⟨i', _, h'⟩ := adrs_own w
        exact E.out i' r' b h' q' h
      · exact z w
  have hid : ∀ a, Hid O as H' a → Hid (OutO O as xs H) (adrs as xs) H' a := fun a h => by
    rcases h with h | ⟨i, r, h, q⟩ | h
    · rcases oO a h with z | z
      · exact .inr (.inr z)
      · exact .inl z
    · by_cases m : i ∈ ownIx xs
      · obtain ⟨j, _, e⟩ := inn i r m h
        exact .inr (.inl ⟨j, r, e, q⟩)
      · exact .inl (nO i r a m h ((stayR i r a m h).mp q))
    · exact .inr (.inr h)
  have s2 : Same (hq (OutO O as xs H) (adrs as xs) H') (hq O as H') := hp_less hid
  refine ⟨fr', ⟨by rw [wb_len]; exact E.len, fun i sl h1 h2 => ?_, fun i sl o h1 h2 => ?_, fun i h => ?_, fun i1 i2 r1 r2 b h1 h2 q1 q2 => ?_, fun i r b h q => ?_, fun i a h => by rw [wb_len]; exact E.bnd i a h, fun a h => E.occ' fr'.fr bk.tab h, J.fr E.inv fr', E.inq, bk.tab⟩, hid, fun i r b ni h q => ⟨stay i r b ni h q, off i r b ni h q⟩⟩
  · have hi : i < ρ.length := by
      have := (List.getElem?_eq_some_iff.mp h1).1
      rw [wb_len] at this
      exact this
    exact E.tl i _ (List.getElem?_eq_getElem hi) h2
  · by_cases q : i ∈ ownIx xs
    · obtain ⟨j, e⟩ := ownIx_mem q
      have hi : i < ρ.length := by
        have := (List.getElem?_eq_some_iff.mp h1).1
        rw [wb_len] at this
        exact this
      obtain ⟨a, ha⟩ := ar.own_at e
      have hadr : adrs as xs j = some a := by unfold adrs; rw [e]; exact ha
      obtain ⟨sl', e1, e2⟩ := bk.at_ j a hadr
      rw [wb_own ρ hi nd e e1] at h1
      cases h1
      cases a with
      | sto =>
        have := (E.sto i ha).1
        have := (List.getElem?_eq_some_iff.mp h2).1
        omega
      | lf a =>
        obtain ⟨_, _, _, e4, _⟩ := E.is_own ha
        rw [e4] at h2
        cases h2
        rw [ha]
        exact e2.mono s2
    · rw [wb_other ρ xs out q] at h1
      exact (E.at_ i sl o h1 h2).mono fr'.same fun b hb => stay i _ b q hb rfl
  · by_cases q : i ∈ ownIx xs
    · obtain ⟨j, e, hadr⟩ := inn i _ q h
      obtain ⟨sl', e1, e2, e3⟩ := bk.at_ j _ hadr
      refine ⟨(E.sto i h).1, ?_, e3.move s2 fun _ _ => rfl⟩
      rw [wb_own ρ (E.bnd i _ h) nd e e1, e2]
    · obtain ⟨e1, e2, e3⟩ := E.sto i h
      refine ⟨e1, by rw [wb_other ρ xs out q, e2, stEq i q h], ?_⟩
      rw [stEq i q h]
      exact e3.move fr'.same fun a z => stay i _ a q h z
  · by_cases m1 : i1 ∈ ownIx xs
    · obtain ⟨j1, x1, e1⟩ := inn i1 r1 m1 h1
      by_cases m2 : i2 ∈ ownIx xs
      · obtain ⟨j2, x2, e2⟩ := inn i2 r2 m2 h2
        have := bk.inj j1 j2 r1 r2 b e1 e2 q1 q2
        rw [this, x2] at x1
        cases x1
        rfl
      · exact absurd (nO i2 r2 b m2 h2 ((stayR i2 r2 b m2 h2).mp q2)) (bk.out j1 r1 b e1 q1)
    · by_cases m2 : i2 ∈ ownIx xs
      · obtain ⟨j2, x2, e2⟩ := inn i2 r2 m2 h2
        exact absurd (nO i1 r1 b m1 h1 ((stayR i1 r1 b m1 h1).mp q1)) (bk.out j2 r2 b e2 q2)
      · exact E.inj i1 i2 r1 r2 b h1 h2 ((stayR i1 r1 b m1 h1).mp q1) ((stayR i2 r2 b m2 h2).mp q2)
  · by_cases m : i ∈ ownIx xs
    · obtain ⟨j, x1, e1⟩ := inn i r m h
      intro z
      rcases oO b z with w | w
      · obtain ⟨sl, _, g⟩ := bk.at_ j r e1
        exact bk.tab.nod (g.nod q) w
      · exact bk.out j r b e1 q w
    · exact E.out i r b h ((stayR i r b m h).mp q)
theorem call_core {O : Addr → Prop} {as : As} {H : Hs} {ρ : En} {σ : L2.St} {xs : List Ar} {r : List Sl} {vs : List V} {m e : Nat} {F : FN} {P : PyData → En → Prop} {Q : VK} {E0 : XK} (E : EnR K J O as H ρ σ) (fit : Fits ρ xs r) (ar : ArsT K (hq O as H) as vs xs) (hv : vs.length = m) (hm : xs.length = m + e) (nd : (ownIx xs).Nodup)
    (f : F r fun d out => P d (wb ρ xs out)) (k : ∀ d ρ' v H', P d ρ' → Fr as H H' → EnR K J O as H' ρ' σ → Dq K (hq O as H') v d → Q v H') : spG K m e F vs H Q E0 := by
  refine ⟨hv, _, adrs as xs, H.st, r, _, call_in E fit ar nd, by rw [fit.len, hm], f, fun d out v H' p fr bk dv => ?_⟩
  obtain ⟨fr', E', hid, _⟩ := call_back E ar nd fr bk
  exact k d _ v H' p fr' E' (dv.mono (hp_less hid))
theorem re_call {m : Nat} {F : FN} {dvs : List V} {dv : List PyData} {E0 : XK} {t : TA} {f : FC} (hd : ∀ H, DqAll K H dvs dv) (ha : RC K J t f) : RE K J (tCall (spF K m F) dvs E0 t) (fCall m F dv f) := by
  intro O as σ H Q ρ P E q k
  refine ha O as σ H _ ρ _ E q fun xs ρ1 vs H1 q1 f1 E1 d1 => ?_
  obtain ⟨hm, nd, q1⟩ := q1
  obtain ⟨r, fit, q1⟩ := argF_of q1
  have hl : (vs ++ dvs).length = m := by rw [List.length_append, d1.len, (hd H1).length]; exact hm
  refine call_core (xs := xs ++ dv.map .dat) E1 (fit.app (fits_dat dv)) (d1.app (dat_ars (hd _))).toT hl (by rw [List.length_append, List.length_map]; exact hm) (by rw [ownIx_app]; exact nd) ?_ fun d ρ' v H' p fr E' q' => k d ρ' v H' p (f1.trans fr) E' q'
  · simp only [wb_app]
    exact q1
/-- a call that is handed the store, too; sx: where it stands -/
def fCallS (sx m : Nat) (F : FN) (dv : List PyData) (a : FC) : FE := fun ρ P => a ρ fun xs ρ1 => xs.length + dv.length = m ∧ (ownIx xs ++ [sx]).Nodup ∧ argF ρ1 xs fun r => match ρ1[sx]? with
  | some (.st S) => F (r ++ dv.map .fz ++ [.st S]) fun d out => P d ((wb ρ1 xs out).set sx ((out.drop m).headD .no))
  | _ => False
/-! own lists -/
def ownF (ρ : En) (i : Nat) (k : List PyData → Prop) : Prop := match ρ[i]? with
  | some (.own ds) => k ds
  | _ => False
theorem ownF_of {ρ : En} {i : Nat} {k : List PyData → Prop} (h : ownF ρ i k) : ∃ ds, ρ[i]? = some (.own ds) ∧ k ds := by
  unfold ownF at h
  split at h
  · next ds e => exact ⟨ds, e, h⟩
  · exact h.elim
theorem DqAll.atI {G : Hp} {xs : List V} {ds : List PyData} {k : Int} {d : PyData} (r : DqAll K G xs ds) (h : L2.atI ds k = some d) : ∃ v, L2.atI xs k = some v ∧ Dq K G v d := by
  unfold L2.atI at h ⊢
  rw [r.length]
  cases e : ixN ds.length k with
  | none => rw [e] at h; cases h
  | some j =>
    rw [e] at h
    exact r.got h
def fIxO (i : Nat) (b : FE) : FE := fun ρ P => ownF ρ i fun _ => b ρ fun x ρ1 => intF x fun k => ownF ρ1 i fun ds => ∃ d, atI ds k = some d ∧ P d ρ1
theorem re_ixO {i : Nat} {tb : TE} {b : FE} (hb : RE K J tb b) : RE K J (tOp (rIxL K) (tVar i) tb) (fIxO i b) := by
  intro O as σ H Q ρ P E q k
  obtain ⟨ds0, h0, q⟩ := ownF_of q
  obtain ⟨a, xs0, e1, e2, _, _⟩ := E.own_at h0
  refine ⟨_, e1, ?_⟩
  refine hb O as σ H _ ρ _ E q fun x ρ1 v H1 q1 f1 E1 d1 => ?_
  unfold intF at q1
  split at q1
  · next z =>
    cases d1
    obtain ⟨ds, hds, d, hd, p⟩ := ownF_of q1
    obtain ⟨a', xs, e1', e2', e3, e4⟩ := E1.own_at hds
    rw [e2] at e2'
    cases e2'
    obtain ⟨v, hv, dv⟩ := e4.atI hd
    exact ⟨a, xs, z, v, rfl, rfl, SqL.of e3, hv, k d ρ1 v H1 p f1 E1 dv⟩
  · exact q1.elim
/-- len of an own list -/
def fLenO (i : Nat) : FE := fun ρ P => ownF ρ i fun ds => P (.int ds.length) ρ
/-- own.append(e) -/
def fAppend (i : Nat) (a : FE) : FS := fun E ρ => ownF ρ i fun _ => a ρ fun d ρ1 => ownF ρ1 i fun ds => ds.length < sizeLine ∧ E.nx (ρ1.set i (.own (ds ++ [d])))
theorem rs_append {i : Nat} {te : TE} {a : FE} (ha : RE K J te a) : RS K J (tDrop (tBM K "list" rAppend (tVar i) (tCons te tNil))) (fAppend i a) := by
  intro O as σ H D ρ E R f C
  obtain ⟨ds0, h0, f⟩ := ownF_of f
  obtain ⟨p, xs0, e1, e2, e3, _⟩ := R.own_at h0
  refine ⟨_, e1, .inl ⟨rfl, _, SqL.of e3⟩, ?_⟩
  refine ha O as σ H _ ρ _ R f fun d ρ1 v H1 q1 f1 E1 d1 => ?_
  obtain ⟨ds, hds, hl, q1⟩ := ownF_of q1
  obtain ⟨p', xs, e1', e2', e3', e4'⟩ := E1.own_at hds
  rw [e2] at e2'
  cases e2'
  refine ⟨p, xs, v, rfl, rfl, e3', by rw [e4'.length]; exact hl, ?_⟩
  obtain ⟨E2, f2⟩ := E1.put e2 e3' (e4'.append (.cons d1 .nil))
  exact C.nx _ _ _ _ q1 (.of (f1.trans f2)) E2
/-- own[k] = e -/
def gSubO (i : Nat) (b : FE) : FG := fun d ρ P => ownF ρ i fun _ => b ρ fun x ρ1 => intF x fun k => ownF ρ1 i fun ds => ∃ j, ixN ds.length k = some j ∧ P (ρ1.set i (.own (ds.set j d)))
theorem rg_subO {i : Nat} {ti : TE} {b : FE} (hb : RE K J ti b) : RG K J [] (gSub (tVar i) ti rSetL) (gSubO i b) := by
  intro O as σ H R ρ P v d E q f k
  obtain ⟨ds0, h0, f⟩ := ownF_of f
  obtain ⟨p, xs0, e1, e2, e3, _⟩ := E.own_at h0
  refine ⟨_, e1, ?_⟩
  refine hb O as σ H _ ρ _ E f fun x ρ1 w H1 q1 f1 E1 d1 => ?_
  unfold intF at q1
  split at q1
  · next z =>
    cases d1
    obtain ⟨ds, hds, j, hj, q1⟩ := ownF_of q1
    obtain ⟨p', xs, e1', e2', e3', e4'⟩ := E1.own_at hds
    rw [e2] at e2'
    cases e2'
    refine ⟨p, xs, z, j, rfl, rfl, e3', by rw [e4'.length]; exact hj, ?_⟩
    obtain ⟨E2, f2⟩ := E1.put e2 e3' (e4'.set (q.fr f1) j)
    exact k _ _ _ q1 (f1.trans f2) E2 ⟨rfl, fun _ _ => rfl⟩
  · exact q1.elim
/-! the def -/
def fnF (n m : Nat) (b : FS) : FN := fun sls P => b { nx := fun ρ' => P .none (ρ'.take n), rt := fun d ρ' => P d (ρ'.take n) } (sls ++ List.replicate (m - n) .no)
/-- a def that is handed the store -/
def fnS (n m : Nat) (b : FS) : FN := fun sls P => b { nx := fun ρ' => P .none (ρ'.take n ++ ρ'.drop m), rt := fun d ρ' => P d (ρ'.take n ++ ρ'.drop m) } (sls.take n ++ List.replicate (m - n) .no ++ sls.drop n)
/-- slots of which nothing is known, ahead of the store -/
theorem EnR.more {n N : Nat} {n' n'' : Nat} {J : Jv n'} {J' : Jv n''} {O : Addr → Prop} {as : As} {H : Hs} {ρ : En} {σ : L2.St} (E : EnR K J O as H ρ σ) (hv : σ.length = n) (hN : n ≤ N) (hJ : J'.P (shA as n N) H) (hQ : J'.Q O) : EnR K J' O (shA as n N) H (ρ.take n ++ List.replicate (N - n) .no ++ ρ.drop n) (σ ++ List.replicate (N - n) none) := by
  have L := E.len
  rw [hv] at L
  have tk : (ρ.take n).length = n := by rw [List.length_take]; omega
  have ls : (σ ++ List.replicate (N - n) none).length = N := by rw [List.length_append, List.length_replicate]; omega
  have l1 : (ρ.take n ++ List.replicate (N - n) Sl.no).length = N := by rw [List.length_append, tk, List.length_replicate]; omega
  have hb : ∀ i r, as i = some r → (i < n ∧ r ≠ .sto) ∨ (i = n ∧ r = .sto) := fun i r h => by
    rcases E.is_reg h with ⟨a, ds, xs, rfl, e1, e2, _⟩ | ⟨rfl, e, _⟩
    · have := E.lt e1 (fun _ z => by cases z)
      rw [hv] at this
      exact .inl ⟨this, fun z => by cases z⟩
    · rw [hv] at e
      exact .inr ⟨e, rfl⟩
  have sh : ∀ j r, shA as n N j = some r → ∃ i, as i = some r ∧ ((i < n ∧ j = i) ∨ (i = n ∧ j = N ∧ r = .sto)) := fun j r h => by
    unfold shA at h
    split at h
    · exact ⟨j, h, .inl ⟨by assumption, rfl⟩⟩
    · split at h
      · rcases hb _ _ h with z | z
        · omega
        · exact ⟨n, h, .inr ⟨rfl, by assumption, z.2⟩⟩
      · cases h
  have own : ∀ a, Own (shA as n N) H a ↔ Own as H a := fun a => by
    constructor
    · rintro (⟨j, r, hc, q⟩ | hc)
      · obtain ⟨i, e, _⟩ := sh j r hc
        exact .inl ⟨i, r, e, q⟩
      · exact .inr hc
    · rintro (⟨j, r, hc, q⟩ | hc)
      · rcases hb j r hc with ⟨z, _⟩ | ⟨z, _⟩
        · exact .inl ⟨j, r, by unfold shA; rw [if_pos z]; exact hc, q⟩
        · exact .inl ⟨N, r, by unfold shA; rw [if_neg (by omega), if_pos rfl, ← z]; exact hc, q⟩
      · exact .inr hc
  have hS : Same (hq O as H) (hq O (shA as n N) H) := hp_less fun a h => h.imp id (own a).mp
  have last : ∀ i, N ≤ i → (ρ.take n ++ List.replicate (N - n) Sl.no ++ ρ.drop n)[i]? = ρ[n + (i - N)]? := fun i h => by
    rw [List.getElem?_append_right (by omega), l1, List.getElem?_drop]
  refine ⟨?_, fun i sl h1 h2 => ?_, fun i sl o h1 h2 => ?_, fun i h => ?_, fun i j r r' b h1 h2 q1 q2 => ?_, fun i r b h q => ?_, fun i r h => ?_, E.occ, hJ, hQ, E.tab⟩
  · rw [ls, List.length_append, l1, List.length_drop]
    omega
  · rw [ls] at h2
    rw [last i h2] at h1
    have hi : n + (i - N) < ρ.length := (List.getElem?_eq_some_iff.mp h1).1
    have e := E.tl _ _ h1 (by rw [hv]; omega)
    have : i = N := by omega
    unfold shA
    rw [if_neg (by omega), if_pos this]
    rw [this, Nat.sub_self] at e
    exact e
  · have hi : i < N := by rw [← ls]; exact (List.getElem?_eq_some_iff.mp h2).1
    rw [List.getElem?_append_left (by omega)] at h1
    by_cases q : i < n
    · rw [List.getElem?_append_left (by omega), List.getElem?_take, if_pos q] at h1
      rw [List.getElem?_append_left (by omega)] at h2
      unfold shA
      rw [if_pos q]
      exact (E.at_ i sl o h1 h2).mono hS fun _ _ => rfl
    · rw [List.getElem?_append_right (by omega), List.getElem?_replicate] at h1
      split at h1
      · cases h1
        unfold shA
        rw [if_neg q, if_neg (by omega)]
        exact .no
      · cases h1
  · obtain ⟨i', e, z⟩ := sh i _ h
    obtain ⟨e1, e2, e3⟩ := E.sto i' e
    rw [hv] at e1
    have : i = N := by omega
    refine ⟨by rw [ls]; exact this, ?_, e3.move hS fun _ _ => rfl⟩
    rw [last i (by omega), this, Nat.sub_self, Nat.add_zero, ← e1]
    exact e2
  · obtain ⟨i', e1, z1⟩ := sh i r h1
    obtain ⟨j', e2, z2⟩ := sh j r' h2
    have := E.inj i' j' r r' b e1 e2 q1 q2
    omega
  · obtain ⟨i', e1, z1⟩ := sh i r h
    exact E.out i' r b e1 q
  · obtain ⟨i', e1, z1⟩ := sh i r h
    have := E.bnd i' r e1
    rw [List.length_append, l1, List.length_drop]
    omega
theorem EnR.start {n : Nat} {n' n'' : Nat} {J : Jv n'} {J' : Jv n''} {O : Addr → Prop} {as : As} {H : Hs} {ρ : En} {vs : List V} (N : List Str) (E : EnR K J O as H ρ (vs.map some)) (hv : vs.length = n) (hN : n ≤ N.length) (hJ : J'.P (shA as n N.length) H) (hQ : J'.Q O) : EnR K J' O (shA as n N.length) H (ρ.take n ++ List.replicate (N.length - n) .no ++ ρ.drop n) (L2.start N vs) := by
  rw [L2.start, hv]
  exact E.more (by rw [List.length_map]; exact hv) hN hJ hQ
/-- what the parameters own -/
theorem EnR.pars {n : Nat} {n' : Nat} {J : Jv n'} {O : Addr → Prop} {as : As} {H : Hs} {ρ : En} {vs : List V} (E : EnR K J O as H ρ (vs.map some)) (hv : vs.length = n) : ∀ i r, as i = some r → (i < n ∧ r ≠ .sto) ∨ (i = n ∧ r = .sto) := fun i r h => by
  rcases E.is_reg h with ⟨a, ds, xs, rfl, e1, e2, _⟩ | ⟨rfl, e, _⟩
  · have := E.lt e1 (fun _ z => by cases z)
    rw [List.length_map, hv] at this
    exact .inl ⟨this, fun z => by cases z⟩
  · rw [List.length_map, hv] at e
    exact .inr ⟨e, rfl⟩
/-- the slots at a def's start; e: whether it is handed the store -/
def enS : Nat → Nat → Nat → List Sl → En
  | 0, n, m, sls => sls ++ List.replicate (m - n) .no
  | _, n, m, sls => sls.take n ++ List.replicate (m - n) .no ++ sls.drop n
/-- what is handed back of the slots -/
def outS : Nat → Nat → Nat → En → List Sl
  | 0, n, _, ρ => ρ.take n
  | _, n, m, ρ => ρ.take n ++ ρ.drop m
theorem fn_start {e m : Nat} {N : List Str} {O : Addr → Prop} {as : As} {H : Hs} {ρ : En} {vs : List V} (R : EnR K (J0 : Jv 0) O as H ρ (vs.map some)) (hv : vs.length = m) (hl : ρ.length = m + e) (hN : m ≤ N.length) :
    EnR K (Jst m O (shA as m N.length) H) O (shA as m N.length) H (enS e m N.length ρ) (L2.start N vs) := by
  have st := R.start (J' := Jst m O (shA as m N.length) H) N hv hN .refl fun _ h => h
  cases e with
  | succ e => exact st
  | zero =>
    rw [List.take_of_length_le (by omega), List.drop_of_length_le (by omega), List.append_nil] at st
    exact st
theorem fn_back {e m N : Nat} {O O' : Addr → Prop} {as as' : As} {H H' : Hs} {ρ ρ' : En} {vs : List V} {σ' : L2.St} {n' : Nat} {J' : Jv n'} (R : EnR K (J0 : Jv 0) O as H ρ (vs.map some)) (hv : vs.length = m) (hl : ρ.length = m + e) (hN : m ≤ N) (x : Ext m (shA as m N) as' H H') (R' : EnR K J' O' as' H' ρ' σ') :
    Fr as H H' ∧ Bk K O' as H' (outS e m N ρ') ∧ Same (hq O' as' H') (hq O' as H') := by
  have hb := R.pars hv
  have fx : ∀ i, i < m → as' i = as i := fun i hi => by
    rw [x.fix i hi]
    unfold shA
    rw [if_pos hi]
  have kn : as' N = some .sto ↔ as m = some .sto := by
    rw [x.ks]
    unfold shA
    rw [if_neg (by omega), if_pos rfl]
  obtain ⟨b, s⟩ := R'.back hN hb fx kn
  refine ⟨x.frB hb hN, ?_, s⟩
  cases e with
  | succ e => exact b
  | zero =>
    have hb' : ∀ i r, as i = some r → i < m := fun i r h => by have := R.bnd i r h; omega
    refine ⟨b.tab, fun i r e => ?_, b.inj, b.out⟩
    have hi := hb' i r e
    obtain ⟨sl, e1, e2⟩ := R'.reg_at (i := i) (r := r) (by rw [fx i hi]; exact e)
    exact ⟨sl, by show (List.take m ρ')[i]? = _; rw [List.getElem?_take, if_pos hi]; exact e1, e2.mono s⟩
/-- a run of a def's body -/
theorem fn_run {m e : Nat} {N : List Str} {b : FS} {t : TS} (rs : ∀ J : Jv m, RS K J t b) {vs : List V} {H : Hp} {Q : VK} {E : XK} (hN : m ≤ N.length) {F : FN} (hF : F = fun sls P => b { nx := fun ρ' => P .none (outS e m N.length ρ'), rt := fun d ρ' => P d (outS e m N.length ρ') } (enS e m N.length sls)) (h : spG K m e F vs H Q E) : t { nx := fun _ H' => Q .non H', rt := Q } (L2.start N vs) H := by
  obtain ⟨hv, O, as, S, ρ, P, R, hl, hf, q⟩ := h
  subst hF
  refine rs (Jst m O (shA as m N.length) ⟨H, S⟩) O _ _ ⟨H, S⟩ _ _ _ (fn_start R hv hl hN) hf ⟨fun ρ' as' σ' H' p x R' => ?_, fun d ρ' v as' σ' H' p x R' dv => ?_, fun _ _ _ _ p => p.elim, fun _ _ _ _ p => p.elim, fun _ _ _ _ _ _ _ p => p.elim⟩
  · obtain ⟨h1, h2, _⟩ := fn_back R hv hl hN x R'
    exact q _ _ _ _ p h1 h2 .non
  · obtain ⟨h1, h2, h3⟩ := fn_back R hv hl hN x R'
    exact q _ _ _ _ p h1 h2 (dv.mono h3)
theorem scope_le {N ps : List Str} {sc : Scope} (S : FnScope N ps sc) : ps.length ≤ N.length := by
  have := congrArg List.length S.pre
  rw [List.length_take] at this
  omega
theorem fn_core {ps : List Str} {N : List Str} {b : FS} {t : TS} (hN : ps.length ≤ N.length) (rs : ∀ J : Jv ps.length, RS K J t b) {vs : List V} {H : Hp} {Q : VK} {E : XK} (h : spF K ps.length (fnF ps.length N.length b) vs H Q E) : t { nx := fun _ H' => Q .non H', rt := Q } (L2.start N vs) H := fn_run rs hN rfl h
section
variable {P : Program} {w : World} {mg : Str → Option Value} {base : Heap} {k : Nat} {f : Addr} {fd : FuncData} {ps : List Str} {x qual : Str} {st : Stmt} {N : List Str} {b : FS}
/-- without repr -/
theorem okF0 (F : Fun K x qual st f fd) (S : FnScope N ps (defScope st))
    (body : ∀ (cdv : Value) (A : Around) (outer : List Env) (s : Shared) (H : Hp) (E : XK), Room k (A.deeper (envOfC qual (defScope st) s.heap.objs.size f cdv)) →
      ∃ t, PSs (cxOf CX0 P w K mg base N qual (defScope st) f cdv A outer s H E).nox (defBody st) t ∧ ∀ J : Jv ps.length, RS K J t b) :
    FnOk P w K mg base CX0 (k + 1) f fd ps (spF K ps.length (fnF ps.length N.length b)) := by
  refine F.ok S (fun vs H Q E h => h.1) (fun cdv A outer s H vs Q E hr h => ?_)
  obtain ⟨t, pt, rs⟩ := body cdv A outer s H E hr
  exact ⟨t, pt, fn_core (scope_le S) rs h⟩
end
end
end DL
/-! operators and built-in calls over data -/
namespace DL
open PySem L2 Z PySem.Spec PyProof.Rows
variable [Tbs]
abbrev G2 := PyData → PyData → (PyData → Prop) → Prop
section
variable {K : PySem.W.Frag} {n : Nat} {J : Jv n}
def o2 (h : Int → Int → PyData) : G2 := fun a b P => match a, b with
  | .int i, .int j => P (h i j)
  | _, _ => False
def o2c (C : Int → Int → Prop) (h : Int → Int → PyData) : G2 := fun a b P => match a, b with
  | .int i, .int j => C i j ∧ P (h i j)
  | _, _ => False
theorem rr_i0 {h : Int → Int → V} {h' : Int → Int → PyData} (e : ∀ i j H, Dq K H (h i j) (h' i j)) : RR K (rI0 h) (o2 h') := by
  intro A H Q x y a b P oc da db g k
  unfold o2 at g
  split at g
  · cases da; cases db; exact ⟨_, _, rfl, rfl, k _ _ _ g (Same.refl _) (e _ _ _)⟩
  · exact g.elim
theorem rr_ic {C : Int → Int → Prop} {h : Int → Int → V} {h' : Int → Int → PyData} (e : ∀ i j H, Dq K H (h i j) (h' i j)) : RR K (rI C h) (o2c C h') := by
  intro A H Q x y a b P oc da db g k
  unfold o2c at g
  split at g
  · cases da; cases db; exact ⟨_, _, rfl, rfl, g.1, k _ _ _ g.2 (Same.refl _) (e _ _ _)⟩
  · exact g.elim
abbrev oAdd : G2 := o2 fun i j => .int (i + j)
abbrev oMul : G2 := o2c CMul fun i j => .int (i * j)
abbrev oDiv : G2 := o2c CDiv fun i j => .int (i / j)
abbrev oMod : G2 := o2c (fun _ j => 0 < j) fun i j => .int (i % j)
abbrev oPow : G2 := o2c CPow fun i j => .int (i ^ j.toNat)
abbrev oLt : G2 := o2 fun i j => .bool (decide (i < j))
abbrev oLe : G2 := o2 fun i j => .bool (decide (i ≤ j))
abbrev oGe : G2 := o2 fun i j => .bool (decide (j ≤ i))
theorem rr_add : RR K (rI0 fun i j => .int (i + j)) oAdd := rr_i0 fun _ _ _ => .int _
theorem rr_mul : RR K (rI CMul fun i j => .int (i * j)) oMul := rr_ic fun _ _ _ => .int _
theorem rr_fdiv : RR K (rI CDiv fun i j => .int (i / j)) oDiv := rr_ic fun _ _ _ => .int _
theorem rr_mod : RR K (rI (fun _ j => 0 < j) fun i j => .int (i % j)) oMod := rr_ic fun _ _ _ => .int _
theorem rr_pow : RR K (rI CPow fun i j => .int (i ^ j.toNat)) oPow := rr_ic fun _ _ _ => .int _
theorem rr_lt : RR K (rI0 fun i j => .bl (decide (i < j))) oLt := rr_i0 fun _ _ _ => .bl _
theorem rr_le : RR K (rI0 fun i j => .bl (decide (i ≤ j))) oLe := rr_i0 fun _ _ _ => .bl _
theorem rr_ge : RR K (rI0 fun i j => .bl (decide (j ≤ i))) oGe := rr_i0 fun _ _ _ => .bl _
def oStr (C : Str → Str → Prop) (h : Str → Str → PyData) : G2 := fun a b P => match a, b with
  | .str i, .str j => C i j ∧ P (h i j)
  | _, _ => False
abbrev oAddS : G2 := oStr (fun i j => i.length + j.length ≤ sizeLine) fun i j => .str (i ++ j)
theorem rr_add_str : RR K (fun x y H Q => ∃ i j, x = .str i ∧ y = .str j ∧ i.length + j.length ≤ sizeLine ∧ Q (.str (i ++ j)) H) oAddS := by
  intro A H Q x y a b P oc da db g k
  unfold oAddS oStr at g
  split at g
  · cases da; cases db; exact ⟨_, _, rfl, rfl, g.1, k _ _ _ g.2 (Same.refl _) (.str _)⟩
  · exact g.elim
/-- == of plain things -/
def oEqB (h : Bool → Bool) : G2 := fun a b P => match a, b with
  | .int i, .int j => P (.bool (h (decide (i = j))))
  | .str i, .str j => P (.bool (h (decide (i = j))))
  | .bool i, .bool j => P (.bool (h (decide (i = j))))
  | .none, .none => P (.bool (h true))
  | .none, .int _ => P (.bool (h false))
  | .int _, .none => P (.bool (h false))
  | .none, .str _ => P (.bool (h false))
  | .str _, .none => P (.bool (h false))
  | .none, .bool _ => P (.bool (h false))
  | .bool _, .none => P (.bool (h false))
  | .int _, .str _ => P (.bool (h false))
  | .str _, .int _ => P (.bool (h false))
  | _, _ => False
abbrev oEq : G2 := oEqB id
abbrev oNe : G2 := oEqB not
theorem dec_int {i j : Int} : decide (V.int i = V.int j) = decide (i = j) := by by_cases h : i = j <;> simp [h]
theorem dec_str {i j : Str} : decide (V.str i = V.str j) = decide (i = j) := by by_cases h : i = j <;> simp [h]
theorem dec_bl {i j : Bool} : decide (V.bl i = V.bl j) = decide (i = j) := by by_cases h : i = j <;> simp [h]
theorem rr_eq : RR K rEq oEq := by
  intro A H Q x y a b P oc da db g k
  unfold oEq oEqB at g
  split at g
  · cases da; cases db; refine ⟨rfl, ?_⟩; rw [dec_int]; exact k _ _ _ g (Same.refl _) (.bl _)
  · cases da; cases db; refine ⟨rfl, ?_⟩; rw [dec_str]; exact k _ _ _ g (Same.refl _) (.bl _)
  · cases da; cases db; refine ⟨rfl, ?_⟩; rw [dec_bl]; exact k _ _ _ g (Same.refl _) (.bl _)
  all_goals first | (exact g.elim) | (cases da; cases db; exact ⟨rfl, k _ _ _ g (Same.refl _) (.bl _)⟩)
theorem rr_ne : RR K rNe oNe := by
  intro A H Q x y a b P oc da db g k
  unfold oNe oEqB at g
  split at g
  · cases da; cases db; refine ⟨rfl, ?_⟩; rw [dec_int]; exact k _ _ _ g (Same.refl _) (.bl _)
  · cases da; cases db; refine ⟨rfl, ?_⟩; rw [dec_str]; exact k _ _ _ g (Same.refl _) (.bl _)
  · cases da; cases db; refine ⟨rfl, ?_⟩; rw [dec_bl]; exact k _ _ _ g (Same.refl _) (.bl _)
  all_goals first | (exact g.elim) | (cases da; cases db; exact ⟨rfl, k _ _ _ g (Same.refl _) (.bl _)⟩)
/-- == of data -/
def oEqD : G2 := fun a b P => SeqAt.shaped a = true ∧ SeqAt.shaped b = true ∧ P (.bool (PyData.eqv a b))
def oNeD : G2 := fun a b P => SeqAt.shaped a = true ∧ SeqAt.shaped b = true ∧ P (.bool (!PyData.eqv a b))
theorem rr_eqD : RR K (rEqD K) oEqD := fun A H Q x y a b P oc da db g k => ⟨a, b, Dp.mono hp_same (da.dp (plain_of g.1)), Dp.mono hp_same (db.dp (plain_of g.2.1)), g.1, g.2.1, k _ _ _ g.2.2 (Same.refl _) (.bl _)⟩
def isNone : PyData → Bool
  | .none => true
  | _ => false
def oIsB (h : Bool → Bool) : G2 := fun a b P => match b with
  | .none => P (.bool (h (isNone a)))
  | _ => False
abbrev oIs : G2 := oIsB id
theorem isNone_of {H : Hp} {x : V} {a : PyData} (d : Dq K H x a) : decide (x = .non) = isNone a := by cases d <;> rfl
theorem rr_isN : RR K (fun x y H Q => y = .non ∧ Q (.bl (decide (x = .non))) H) oIs := by
  intro A H Q x y a b P oc da db g k
  unfold oIs oIsB at g
  split at g
  · cases db; refine ⟨rfl, ?_⟩; rw [isNone_of da]; exact k _ _ _ g (Same.refl _) (.bl _)
  · exact g.elim
/-- a sign in a text -/
def oInSB (h : Bool → Bool) : G2 := fun a b P => match a, b with
  | .str s, .str z => ∃ c, s = ⟨#[c]⟩ ∧ P (.bool (h (decide (c ∈ z.cps.toList))))
  | _, _ => False
abbrev oInS : G2 := oInSB id
theorem rr_in_sign : RR K (fun x y H Q => ∃ (c : Nat) (z : Str), x = .str ⟨#[c]⟩ ∧ y = .str z ∧ Q (.bl (decide (c ∈ z.cps.toList))) H) oInS := by
  intro A H Q x y a b P oc da db g k
  unfold oInS oInSB at g
  split at g
  · cases da; cases db; obtain ⟨c, rfl, g⟩ := g; exact ⟨_, _, rfl, rfl, k _ _ _ g (Same.refl _) (.bl _)⟩
  · exact g.elim
def flatD : PyData → Bool
  | .none => true
  | .bool _ => true
  | .int _ => true
  | .str _ => true
  | _ => false
theorem flat_of {H : Hp} {x : V} {a : PyData} (d : Dq K H x a) (h : flatD a = true) : flatV x = true := by
  cases d <;> first | rfl | cases h
theorem eqV_of {H : Hp} {x y : V} {a b : PyData} (d : Dq K H x a) (e : Dq K H y b) (h : flatD a = true) (h' : flatD b = true) : eqV x y = PyData.eqv a b := by
  cases d <;> first | (cases h; done) | (cases e <;> first | (cases h'; done) | (unfold PyData.eqv; rfl))
theorem flats_of {H : Hp} : ∀ {xs : List V} {ds : List PyData}, DqAll K H xs ds → ds.all flatD = true → xs.all flatV = true
  | _, _, .nil, _ => rfl
  | _, _, .cons a b, h => by
    have h' := Bool.and_eq_true_iff.mp h
    exact Bool.and_eq_true_iff.mpr ⟨flat_of a h'.1, flats_of b h'.2⟩
def inD (a : PyData) (ds : List PyData) : Bool := ds.any fun y => PyData.eqv y a
theorem in_of {H : Hp} {x : V} {a : PyData} (d : Dq K H x a) (h : flatD a = true) : ∀ {xs : List V} {ds : List PyData}, DqAll K H xs ds → ds.all flatD = true → inV x xs = inD a ds
  | _, _, .nil, _ => rfl
  | _, _, .cons e b, h' => by
    have h' := Bool.and_eq_true_iff.mp h'
    show (eqV _ x || inV x _) = (PyData.eqv _ a || inD a _)
    rw [eqV_of e d h'.1 h, in_of d h b h'.2]
def seqF (a : PyData) (k : List PyData → Prop) : Prop := match a with
  | .list ds => k ds
  | .tuple ds => k ds
  | _ => False
def oIn (neg : Bool) : G2 := fun a b P => seqF b fun ds => flatD a = true ∧ ds.all flatD = true ∧ P (.bool (if neg then !inD a ds else inD a ds))
theorem seqF_of {A : Addr → Prop} {H : Hp} {x : V} {a : PyData} {k : List PyData → Prop} (d : Dq K (hp A H) x a) (h : seqF a k) : ∃ p xs ds, x = .ref p ∧ (SqL K H p xs ∨ SqT K H p xs) ∧ DqAll K (hp A H) xs ds ∧ k ds := by
  unfold seqF at h
  split at h
  · obtain ⟨p, xs, rfl, s, r⟩ := d.list_of
    exact ⟨p, xs, _, rfl, .inl (SqL.mono hp_same s), r, h⟩
  · obtain ⟨p, xs, rfl, s, r⟩ := d.tuple_of
    exact ⟨p, xs, _, rfl, .inr (SqT.mono hp_same s), r, h⟩
  · exact h.elim
/-- x in own -/
def fInO (neg : Bool) (i : Nat) (a : FE) : FE := fun ρ P => a ρ fun x ρ1 => ownF ρ1 i fun ds => flatD x = true ∧ ds.all flatD = true ∧ P (.bool (if neg then !inD x ds else inD x ds)) ρ1
theorem re_inO {neg : Bool} {i : Nat} {ta : TE} {a : FE} (ha : RE K J ta a) : RE K J (tOp (rIn K neg) ta (tVar i)) (fInO neg i a) := by
  intro O as σ H Q ρ P E q k
  refine ha O as σ H _ ρ _ E q fun x ρ1 v H1 q1 f1 E1 d1 => ?_
  obtain ⟨ds, hds, h1, h2, q1⟩ := ownF_of q1
  obtain ⟨p, xs, e1, e2, e3, e4⟩ := E1.own_at hds
  refine ⟨_, e1, p, xs, rfl, .inl (SqL.of e3), flat_of d1 h1, flats_of e4 h2, ?_⟩
  rw [in_of d1 h1 e4 h2]
  exact k _ _ _ _ q1 f1 E1 (.bl _)
/-! places -/
def oIxL : G2 := fun a b P => match a, b with
  | .list ds, .int k => ∃ d, atI ds k = some d ∧ P d
  | _, _ => False
def oIxT : G2 := fun a b P => match a, b with
  | .tuple ds, .int k => ∃ d, atI ds k = some d ∧ P d
  | _, _ => False
def oIxS : G2 := fun a b P => match a, b with
  | .str z, .int k => z.length ≤ sizeLine ∧ ∃ c, atI z.cps.toList k = some c ∧ P (.str ⟨#[c]⟩)
  | _, _ => False
theorem rr_ixL : RR K (rIxL K) oIxL := by
  intro A H Q x y a b P oc da db g k
  unfold oIxL at g
  split at g
  · cases db
    obtain ⟨p, xs, rfl, s, r⟩ := da.list_of
    obtain ⟨d, hd, g⟩ := g
    obtain ⟨v, hv, dv⟩ := r.atI hd
    exact ⟨p, xs, _, v, rfl, rfl, SqL.mono hp_same s, hv, k _ _ _ g (Same.refl _) dv⟩
  · exact g.elim
theorem rr_ixT : RR K (rIxT K) oIxT := by
  intro A H Q x y a b P oc da db g k
  unfold oIxT at g
  split at g
  · cases db
    obtain ⟨p, xs, rfl, s, r⟩ := da.tuple_of
    obtain ⟨d, hd, g⟩ := g
    obtain ⟨v, hv, dv⟩ := r.atI hd
    exact ⟨p, xs, _, v, rfl, rfl, SqT.mono hp_same s, hv, k _ _ _ g (Same.refl _) dv⟩
  · exact g.elim
theorem rr_ixS : RR K rIxS oIxS := by
  intro A H Q x y a b P oc da db g k
  unfold oIxS at g
  split at g
  · cases da; cases db
    obtain ⟨hz, c, hc, g⟩ := g
    exact ⟨_, _, c, rfl, rfl, hz, hc, k _ _ _ g (Same.refl _) (.str _)⟩
  · exact g.elim
def oIx : G2 := fun a b P => match a, b with
  | .list ds, .int k => ∃ d, atI ds k = some d ∧ P d
  | .tuple ds, .int k => ∃ d, atI ds k = some d ∧ P d
  | .str z, .int k => z.length ≤ sizeLine ∧ ∃ c, atI z.cps.toList k = some c ∧ P (.str ⟨#[c]⟩)
  | _, _ => False
/-! slices -/
abbrev FO := En → (Option Int → En → Prop) → Prop
def RO (K : PySem.W.Frag) {n : Nat} (J : Jv n) (t : TO) (f : FO) : Prop := ∀ (O : Addr → Prop) (as : As) (σ : L2.St) (H : Hs) (Q : Option Int → Hp → Prop) (ρ : En) (P : Option Int → En → Prop), EnR K J O as H ρ σ → f ρ P →
  (∀ o ρ' H', P o ρ' → Fr as H H' → EnR K J O as H' ρ' σ → Q o H') → t σ H Q
def pNo : FO := fun ρ P => P none ρ
def pSo (a : FE) : FO := fun ρ P => a ρ fun d ρ1 => intF d fun i => P (some i) ρ1
theorem ro_no : RO K J tNoPart pNo := fun O as σ H Q ρ P E f k => k none ρ H f (Fr.refl) E
theorem ro_so {t : TE} {a : FE} (ha : RE K J t a) : RO K J (tPart t) (pSo a) := by
  intro O as σ H Q ρ P E q k
  refine ha O as σ H _ ρ _ E q fun d ρ1 v H1 q1 f1 E1 d1 => ?_
  unfold intF at q1
  split at q1
  · cases d1; exact ⟨_, rfl, k _ _ _ q1 f1 E1⟩
  · exact q1.elim
def RL (K : PySem.W.Frag) (r : V → Option Int → Option Int → Hp → VK → Prop) (g : PyData → Option Int → Option Int → (PyData → Prop) → Prop) : Prop := ∀ (A : Addr → Prop) (H : Hp) (Q : VK) (x : V) (a : PyData) (lo hi : Option Int) (P : PyData → Prop), (∀ c, A c → H c ≠ none) →
  Dq K (hp A H) x a → g a lo hi P → (∀ d v H', P d → Same H H' → Dq K (hp A H') v d → Q v H') → r x lo hi H Q
def fSl (g : PyData → Option Int → Option Int → (PyData → Prop) → Prop) (a : FE) (lo hi : FO) : FE := fun ρ P => a ρ fun x ρ1 => lo ρ1 fun l ρ2 => hi ρ2 fun u ρ3 => g x l u fun d => P d ρ3
theorem re_sl {r : V → Option Int → Option Int → Hp → VK → Prop} {g : PyData → Option Int → Option Int → (PyData → Prop) → Prop} {te : TE} {tl th : TO} {a : FE} {lo hi : FO} (hr : RL K r g) (ha : RE K J te a) (hl : RO K J tl lo) (hh : RO K J th hi) : RE K J (tSl r te tl th) (fSl g a lo hi) := by
  intro O as σ H Q ρ P E q k
  refine ha O as σ H _ ρ _ E q fun x ρ1 v H1 q1 f1 E1 d1 => ?_
  refine hl O as σ H1 _ ρ1 _ E1 q1 fun l ρ2 H2 q2 f2 E2 => ?_
  refine hh O as σ H2 _ ρ2 _ E2 q2 fun u ρ3 H3 q3 f3 E3 => ?_
  refine hr (Hid O as H3) H3 _ v x l u _ (fun c h => E3.full h) ((d1.fr f2).fr f3) q3 fun d w H4 p s4 d4 => ?_
  exact k _ _ _ _ p (((f1.trans f2).trans f3).trans (E3.frS s4)) (E3.grow s4) (d4.mono (E3.toS s4))
def cutD (xs : List PyData) (lo hi : Option Int) : List PyData := (xs.drop (HT.sIx xs.length 0 lo)).take (HT.sIx xs.length xs.length hi - HT.sIx xs.length 0 lo)
theorem DqAll.cut {G : Hp} {xs : List V} {ds : List PyData} (r : DqAll K G xs ds) (lo hi : Option Int) : DqAll K G (cutV xs lo hi) (cutD ds lo hi) := by
  unfold cutV cutD
  rw [r.length]
  exact (r.drop _).take _
def sL : PyData → Option Int → Option Int → (PyData → Prop) → Prop := fun a lo hi P => listF a fun ds => P (.list (cutD ds lo hi))
def sT : PyData → Option Int → Option Int → (PyData → Prop) → Prop := fun a lo hi P => tupleF a fun ds => P (.tuple (cutD ds lo hi))
def sS : PyData → Option Int → Option Int → (PyData → Prop) → Prop := fun a lo hi P => strF a fun z => z.length ≤ sizeLine ∧ P (.str (cutS z lo hi))
theorem rl_list : RL K (rSlL K) sL := by
  intro A H Q x a lo hi P oc da g k
  unfold sL listF at g
  split at g
  · obtain ⟨p, xs, rfl, s, r⟩ := da.list_of
    refine ⟨p, xs, rfl, SqL.mono hp_same s, fun l hl => ?_⟩
    have sm := Same.new (o := .lst (cutV xs lo hi)) hl
    exact k _ _ _ g sm (.lst (SqL.of (hp_mk (fun q => oc _ q hl) upd_same)) ((r.mono (hp_grow sm)).cut lo hi))
  · exact g.elim
theorem rl_tupA : RL K (rSlA K) sT := by
  intro A H Q x a lo hi P oc da g k
  unfold sT tupleF at g
  split at g
  · obtain ⟨p, xs, rfl, s, r⟩ := da.tuple_of
    refine ⟨p, xs, rfl, SqT.mono hp_same s, fun e => ?_, fun _ l hl => ?_⟩
    · refine k _ _ _ g (Same.refl _) (.tup (xs := cutV xs lo hi) ?_ (r.cut lo hi))
      unfold cutV
      rw [e.1, e.2, List.drop_zero, Nat.sub_zero, List.take_length]
      exact s
    · have sm := Same.new (o := .tup (cutV xs lo hi)) hl
      exact k _ _ _ g sm (.tup (SqT.of (hp_mk (fun q => oc _ q hl) upd_same)) ((r.mono (hp_grow sm)).cut lo hi))
  · exact g.elim
end
end DL
namespace DL
open PySem L2 Z PySem.Spec PyProof.Rows
variable [Tbs]
section
variable {K : PySem.W.Frag} {n : Nat} {J : Jv n}
/-- list + list, each tracked, frozen or of the module -/
def rCatK (K : PySem.W.Frag) : R2 := fun x y H Q => ∃ l b xs zs, x = .ref l ∧ y = .ref b ∧ SqL K H l xs ∧ SqL K H b zs ∧ xs.length + zs.length ≤ sizeLine ∧ ∀ p, H p = none → Q (.ref p) (upd H p (.lst (xs ++ zs)))
theorem op_catK {X : Cx} : OpR X (binaryOp .Add) (rCatK X.K) := by
  intro pins s σ H x y v u Q I rx ry h
  obtain ⟨l, b, xs, zs, rfl, rfl, hH, hB, hz, q⟩ := h
  cases rx
  cases ry
  obtain ⟨its, r, ⟨⟨c1, d1, e1, sl1⟩, n1, ho1, hc1, hd1, hs1⟩, z1⟩ := I.list hH
  obtain ⟨its2, r2, ⟨⟨c2, d2, e2, sl2⟩, n2, ho2, hc2, hd2, hs2⟩, z2⟩ := I.list hB
  simp only at hc1 hd1 hs1 hc2 hd2 hs2
  subst hc1 hd1 hs1 hc2 hd2 hs2
  have ea : its.toArray ++ its2.toArray = (its ++ its2).toArray := by simp
  have l1 := r.length
  have l2 := r2.length
  refine concat_meets ⟨_, ho1, rfl⟩ ⟨_, ho2, rfl⟩ noFill_list_add seq_list_add PySem.F.slot_list_add PySem.F.entry_list_add (PySem.F.args_list_add_2 _ _) (list_addW l b its.toArray its2.toArray n1 n2 none none sl1 sl2 (by simp; omega)) ⟨ho1, ho2, ?_⟩
  rw [ea]
  exact ⟨.ref _, _, I.lnew (t' := s.toks) (r.append r2) (by rw [List.length_append]; omega), rfl, q _ I.fresh⟩
def oCatL : G2 := fun a b P => match a, b with
  | .list xs, .list ys => xs.length + ys.length ≤ sizeLine ∧ P (.list (xs ++ ys))
  | _, _ => False
theorem rr_cat : RR K (rCatK K) oCatL := by
  intro A H Q x y a b P oc da db g k
  unfold oCatL at g
  split at g
  · obtain ⟨p, xs, rfl, s, r⟩ := da.list_of
    obtain ⟨p', xs', rfl, s', r'⟩ := db.list_of
    refine ⟨p, p', xs, xs', rfl, rfl, SqL.mono hp_same s, SqL.mono hp_same s', by rw [r.length, r'.length]; exact g.1, fun l hl => ?_⟩
    have sm := Same.new (o := .lst (xs ++ xs')) hl
    exact k _ _ _ g.2 sm (.lst (SqL.of (hp_mk (fun q => oc _ q hl) upd_same)) ((r.mono (hp_grow sm)).append (r'.mono (hp_grow sm))))
  · exact g.elim
def oCatT : G2 := fun a b P => match a, b with
  | .tuple xs, .tuple ys => xs.length + ys.length ≤ sizeLine ∧ P (.tuple (xs ++ ys))
  | _, _ => False
theorem rr_catA : RR K (rCatA K) oCatT := by
  intro A H Q x y a b P oc da db g k
  unfold oCatT at g
  split at g
  · obtain ⟨p, xs, rfl, s, r⟩ := da.tuple_of
    obtain ⟨p', xs', rfl, s', r'⟩ := db.tuple_of
    have rr := r.append r'
    refine ⟨p, p', xs, xs', rfl, rfl, SqT.mono hp_same s, SqT.mono hp_same s', by rw [r.length, r'.length]; exact g.1, fun e => ?_, fun _ e => ?_, fun _ _ l hl => ?_⟩
    · subst e
      exact k _ _ _ g.2 (Same.refl _) (.tup s' rr)
    · subst e
      rw [List.append_nil] at rr
      exact k _ _ _ g.2 (Same.refl _) (.tup s rr)
    · have sm := Same.new (o := .tup (xs ++ xs')) hl
      exact k _ _ _ g.2 sm (.tup (SqT.of (hp_mk (fun q => oc _ q hl) upd_same)) (rr.mono (hp_grow sm)))
  · exact g.elim
def uNeg (a : PyData) (P : PyData → Prop) : Prop := intF a fun i => P (.int (-i))
theorem ru_neg : RU K (rU fun i => .int (-i)) uNeg := by
  intro A H Q x a P oc da g k
  unfold uNeg intF at g
  split at g
  · cases da; exact ⟨_, rfl, k _ _ _ g (Same.refl _) (.int _)⟩
  · exact g.elim
/-! built-in calls -/
def one (ds : List PyData) (k : PyData → Prop) : Prop := match ds with
  | [d] => k d
  | _ => False
theorem one_of {G : Hp} {vs : List V} {ds : List PyData} {k : PyData → Prop} (r : DqAll K G vs ds) (h : one ds k) : ∃ v d, vs = [v] ∧ Dq K G v d ∧ k d := by
  unfold one at h
  split at h
  · cases r with
    | cons a b => cases b; exact ⟨_, _, rfl, a, h⟩
  · exact h.elim
def bLenS (ds : List PyData) (P : PyData → Prop) : Prop := one ds fun d => strF d fun z => z.length ≤ sizeLine ∧ P (.int z.length)
theorem rb_len_str : RB K (fun xs H Q => ∃ z, xs = [.str z] ∧ z.length ≤ sizeLine ∧ Q (.int z.length) H) bLenS := by
  intro A H Q xs ds P oc r g k
  obtain ⟨v, d, rfl, q, g⟩ := one_of r g
  unfold strF at g
  split at g
  · cases q; exact ⟨_, rfl, g.1, k _ _ _ g.2 (Same.refl _) (.int _)⟩
  · exact g.elim
def bLen (ds : List PyData) (P : PyData → Prop) : Prop := one ds fun d => seqF d fun es => P (.int es.length)
theorem rb_len : RB K (fun xs H Q => ∃ p ys, xs = [.ref p] ∧ (SqL K H p ys ∨ SqT K H p ys) ∧ Q (.int ys.length) H) bLen := by
  intro A H Q xs ds P oc r g k
  obtain ⟨v, d, rfl, q, g⟩ := one_of r g
  obtain ⟨p, xs, ds, rfl, s, r, g⟩ := seqF_of q g
  refine ⟨p, xs, rfl, s, ?_⟩
  rw [r.length]
  exact k _ _ _ g (Same.refl _) (.int _)
def bAbs (ds : List PyData) (P : PyData → Prop) : Prop := one ds fun d => intF d fun i => P (.int (if i < 0 then -i else i))
theorem rb_abs : RB K (fun xs H Q => ∃ i, xs = [.int i] ∧ Q (.int (if i < 0 then -i else i)) H) bAbs := by
  intro A H Q xs ds P oc r g k
  obtain ⟨v, d, rfl, q, g⟩ := one_of r g
  unfold intF at g
  split at g
  · cases q; exact ⟨_, rfl, k _ _ _ g (Same.refl _) (.int _)⟩
  · exact g.elim
def two (ds : List PyData) (k : Int → Int → Prop) : Prop := match ds with
  | [.int i, .int j] => k i j
  | _ => False
theorem two_of {G : Hp} {vs : List V} {ds : List PyData} {k : Int → Int → Prop} (r : DqAll K G vs ds) (h : two ds k) : ∃ i j, vs = [.int i, .int j] ∧ k i j := by
  unfold two at h
  split at h
  · cases r with
    | cons a b => cases b with
      | cons c d => cases a; cases c; cases d; exact ⟨_, _, rfl, h⟩
  · exact h.elim
def bMin (ds : List PyData) (P : PyData → Prop) : Prop := two ds fun i j => P (.int (if j < i then j else i))
def bMax (ds : List PyData) (P : PyData → Prop) : Prop := two ds fun i j => P (.int (if j > i then j else i))
theorem rb_max2 : RB K (fun xs H Q => ∃ i j, xs = [.int i, .int j] ∧ Q (.int (if j > i then j else i)) H) bMax := by
  intro A H Q xs ds P oc r g k
  obtain ⟨i, j, rfl, g⟩ := two_of r g
  exact ⟨_, _, rfl, k _ _ _ g (Same.refl _) (.int _)⟩
def bDivmod (ds : List PyData) (P : PyData → Prop) : Prop := two ds fun i j => CDiv i j ∧ P (.tuple [.int (i / j), .int (i % j)])
def boolsF : List PyData → (List Bool → Prop) → Prop
  | [], k => k []
  | .bool b :: r, k => boolsF r fun bs => k (b :: bs)
  | _ :: _, _ => False
theorem boolsF_of : ∀ {ds : List PyData} {k : List Bool → Prop}, boolsF ds k → ∃ bs : List Bool, ds = bs.map .bool ∧ k bs
  | [], k, h => ⟨[], rfl, h⟩
  | .bool b :: r, k, h => by
    obtain ⟨bs, e, h'⟩ := boolsF_of (ds := r) h
    exact ⟨b :: bs, by rw [e]; rfl, h'⟩
theorem boolsF_map {bs : List Bool} : ∀ {k : List Bool → Prop}, k bs → boolsF (bs.map .bool) k := by
  induction bs with
  | nil => exact fun h => h
  | cons b r ih => exact fun {k} h => ih (k := fun bs => k (b :: bs)) h
def intsF : List PyData → (List Int → Prop) → Prop
  | [], k => k []
  | .int b :: r, k => intsF r fun bs => k (b :: bs)
  | _ :: _, _ => False
def strsF : List PyData → (List Str → Prop) → Prop
  | [], k => k []
  | .str b :: r, k => strsF r fun bs => k (b :: bs)
  | _ :: _, _ => False
theorem strsF_of : ∀ {ds : List PyData} {k : List Str → Prop}, strsF ds k → ∃ bs : List Str, ds = bs.map .str ∧ k bs
  | [], k, h => ⟨[], rfl, h⟩
  | .str b :: r, k, h => by
    obtain ⟨bs, e, h'⟩ := strsF_of (ds := r) h
    exact ⟨b :: bs, by rw [e]; rfl, h'⟩
theorem strsF_map {bs : List Str} : ∀ {k : List Str → Prop}, k bs → strsF (bs.map .str) k := by
  induction bs with
  | nil => exact fun h => h
  | cons b r ih => exact fun {k} h => ih (k := fun bs => k (b :: bs)) h
def bAll (ds : List PyData) (P : PyData → Prop) : Prop := one ds fun d => listF d fun es => boolsF es fun bs => P (.bool (bs.all id))
def bAny (ds : List PyData) (P : PyData → Prop) : Prop := one ds fun d => listF d fun es => boolsF es fun bs => P (.bool (bs.any id))
def bSum (ds : List PyData) (P : PyData → Prop) : Prop := one ds fun d => listF d fun es => intsF es fun ns => P (.int ns.sum)
theorem rb_all : RB K (rAll K) bAll := by
  intro A H Q xs ds P oc r g k
  obtain ⟨v, d, rfl, q, g⟩ := one_of r g
  unfold listF at g
  split at g
  · obtain ⟨bs, e, g'⟩ := boolsF_of g
    subst e
    obtain ⟨a, ys, rfl, s, r⟩ := q.list_of
    cases r.bools_of
    exact ⟨a, bs, rfl, SqL.mono hp_same s, k _ _ _ g' (Same.refl _) (.bl _)⟩
  · exact g.elim
def bInt (ds : List PyData) (P : PyData → Prop) : Prop := one ds fun d => match d with
  | .int i => P (.int i)
  | .bool b => P (.int (if b then 1 else 0))
  | _ => False
theorem rb_int : RB K (fun xs H Q => (∃ i, xs = [.int i] ∧ Q (.int i) H) ∨ ∃ k, xs = [.bl k] ∧ Q (.int (if k then 1 else 0)) H) bInt := by
  intro A H Q xs ds P oc r g k
  obtain ⟨v, d, rfl, q, g⟩ := one_of r g
  split at g
  · cases q; exact .inl ⟨_, rfl, k _ _ _ g (Same.refl _) (.int _)⟩
  · cases q; exact .inr ⟨_, rfl, k _ _ _ g (Same.refl _) (.int _)⟩
  · exact g.elim
def bStrI (ds : List PyData) (P : PyData → Prop) : Prop := one ds fun d => intF d fun i => i.natAbs.log2 < 1920 ∧ P (.str (toString i))
theorem rb_str_int : RB K (fun xs H Q => ∃ i, xs = [.int i] ∧ i.natAbs.log2 < 1920 ∧ Q (.str (toString i)) H) bStrI := by
  intro A H Q xs ds P oc r g k
  obtain ⟨v, d, rfl, q, g⟩ := one_of r g
  unfold intF at g
  split at g
  · cases q; exact ⟨_, rfl, g.1, k _ _ _ g.2 (Same.refl _) (.str _)⟩
  · exact g.elim
def bBool (ds : List PyData) (P : PyData → Prop) : Prop := one ds fun d => match d with
  | .int i => P (.bool (i != 0))
  | .bool b => P (.bool b)
  | _ => False
def bList (ds : List PyData) (P : PyData → Prop) : Prop := one ds fun d => seqF d fun es => P (.list es)
def bTuple (ds : List PyData) (P : PyData → Prop) : Prop := one ds fun d => seqF d fun es => P (.tuple es)
/-! isinstance -/
def isObjD : PyData → Bool
  | .dict _ => true
  | _ => false
def fIsi (b : String) (a : FE) : FE := fun ρ P => a ρ fun d ρ1 => isObjD d = false ∧ ∃ c, kitB (kindD d) b = some c ∧ P (.bool c) ρ1
theorem Dq.ty {A : Addr → Prop} {H : Hp} {v : V} {d : PyData} (q : Dq K (hp A H) v d) (h : isObjD d = false) : TyX K H v (.type (kindD d)) := by
  cases q with
  | non => exact .base .non
  | bl b => exact .base (.bl b)
  | int i => exact .base (.int i)
  | str x => exact .base (.str x)
  | lst s _ => exact SqL.ty (SqL.mono hp_same s)
  | tup s _ => exact SqT.ty (SqT.mono hp_same s)
  | obj _ _ _ => cases h
  | exc _ _ _ _ => cases h
  | fnc _ => cases h
  | hdl => cases h
  | tn _ _ _ => cases h
  | dct _ _ => cases h
theorem re_isi {b : String} {ta : TE} {a : FE} (ha : RE K J ta a) : RE K J (tCB (rIsi K) (tCons ta (tCons (tC (.ty b)) tNil))) (fIsi b a) := by
  intro O as σ H Q ρ P E q k
  refine ha O as σ H _ ρ _ E q fun d ρ1 v H1 q1 f1 E1 d1 => ?_
  obtain ⟨ho, c, hc, q1⟩ := q1
  exact ⟨_, _, _, _, c, rfl, .ty _, d1.ty ho, kit_ty hc, k _ _ _ _ q1 f1 E1 (.bl _)⟩
/-! methods of texts -/
def mJoin : Str → List PyData → (PyData → Prop) → Prop := fun z ds P => one ds fun d => seqF d fun es => strsF es fun ys => (ys.map (·.length)).sum + ys.length * z.length ≤ 16777216 ∧ P (.str (Txt.join z ys))
theorem rm_join : RM K (fun x xs H Q => ∃ a p, ∃ ys : List Str, x = .str a ∧ xs = [.ref p] ∧ (SqL K H p (ys.map V.str) ∨ SqT K H p (ys.map V.str)) ∧ (ys.map (·.length)).sum + ys.length * a.length ≤ 16777216 ∧ Q (.str (Txt.join a ys)) H) mJoin := by
  intro A H Q z xs ds P oc r g k
  obtain ⟨v, d, rfl, q, g⟩ := one_of r g
  obtain ⟨p, xs, es, rfl, s, r, g⟩ := seqF_of q g
  obtain ⟨ys, e, h, g'⟩ := strsF_of g
  subst e
  cases r.strs_of
  exact ⟨_, p, ys, rfl, rfl, s, h, k _ _ _ g' (Same.refl _) (.str _)⟩
/-! x += e -/
def fAug (i : Nat) (a : FE) (h : Int → Int → Int) : FS := fun E ρ => match ρ[i]? with
  | some (.fz (.int x)) => a ρ fun y ρ1 => intF y fun j => gN i (.int (h x j)) ρ1 E.nx
  | _ => False
def fPar3 (i j l : Nat) (a : FA) : FS := fun E ρ => a ρ fun ds ρ1 => match ds with
  | [x, y, z] => gN i x ρ1 fun ρ2 => gN j y ρ2 fun ρ3 => gN l z ρ3 E.nx
  | _ => False
theorem rs_par3 {i j l : Nat} {t : TA} {a : FA} (ha : RA K J t a) : RS K J (tPar3 i j l t) (fPar3 i j l a) := by
  intro O as σ H D ρ E R f C
  refine ha O as σ H _ ρ _ R f fun ds ρ1 vs H1 q1 f1 E1 d1 => ?_
  split at q1
  · cases d1 with
    | cons d1 r => cases r with
      | cons d2 r => cases r with
        | cons d3 r =>
          cases r
          exact ⟨_, _, _, rfl, C.nx _ _ _ _ q1.2.2.2 (.of f1) (((E1.setFz q1.1 d1).setFz q1.2.1 d2).setFz q1.2.2.1 d3)⟩
  · exact q1.elim
/-! truth -/
theorem DqAll.empty {G : Hp} {xs : List V} {ds : List PyData} (r : DqAll K G xs ds) : xs.isEmpty = ds.isEmpty := by cases r <;> rfl
def truF (d : PyData) (k : Bool → Prop) : Prop := match d with
  | .none => k false
  | .bool b => k b
  | .int i => k (i != 0)
  | .str z => z.length ≤ sizeLine ∧ k ((z.length : Int) != 0)
  | .list ds => k (!ds.isEmpty)
  | .tuple ds => k (!ds.isEmpty)
  | _ => False
def fTru (f : FE) : FT := fun ρ P => f ρ fun d ρ1 => truF d fun b => P b ρ1
def fYes : FT := fun ρ P => P true ρ
theorem rt_yes : RT K J tYes fYes := fun O as σ H Q ρ P E f k => k true ρ H f (Fr.refl) E
end
end DL
/-! the box of draws as data; promises weakened -/
namespace DL
open PySem L2 Z PySem.Spec PyProof.Rows
variable [Tbs]
def BoxD (ds : List PyData) (n : Nat) : Prop := ∃ b0 b1 b2 : Int, ds = [.int b0, .int b1, .int b2] ∧ 0 ≤ b0 ∧ 0 ≤ b1 ∧ b1 < 2147483647 ∧ 0 ≤ b2 ∧ b2 ≤ (n : Int)
theorem BoxD.mono {ds : List PyData} {n m : Nat} (b : BoxD ds n) (h : n ≤ m) : BoxD ds m := by
  obtain ⟨b0, b1, b2, e, h0, h1, h2, h3, h4⟩ := b
  exact ⟨b0, b1, b2, e, h0, h1, h2, h3, by omega⟩
/-- a draw: any number below m -/
def takeF (ds : List PyData) (m : Int) (P : Int → List PyData → Prop) : Prop := ∃ n, BoxD ds n ∧ 0 < m ∧ m < 1073741824 ∧ n < 1000000000 ∧ ∀ r ds', 0 ≤ r → r < m → BoxD ds' (n + 1) → P r ds'
def F__law_take : FN := fun sls P => match sls with
  | [.own ds, .fz (.int m)] => takeF ds m fun r ds' => P (.int r) [.own ds', .no]
  | _ => False
section
variable {P : Program} {w : World} {K : PySem.W.Frag} {mg : Str → Option Value} {base : Heap} {k : Nat} {f : Addr} {fd : FuncData} {ps : List Str} {sp sp' : Sp}
def spTake : Sp := fun vs H Q _ => ∃ (B : Addr) (m : Int) (n : Nat), vs = [.ref B, .int m] ∧ Box H B n ∧ 0 < m ∧ m < 1073741824 ∧ n < 1000000000 ∧ ∀ (r : Int) H', 0 ≤ r → r < m → Z.Fr [B] H H' → Box H' B (n + 1) → Q (.int r) H'
theorem boxD_ints {G : Hp} {xs : List V} {b0 b1 b2 : Int} (h : DqAll K G xs [.int b0, .int b1, .int b2]) : xs = [.int b0, .int b1, .int b2] := by
  cases h with
  | cons a r => cases r with
    | cons b r => cases r with
      | cons c r => cases r; cases a; cases b; cases c; rfl
theorem TabsOk.frB {H H' : Hp} {B : Addr} {xs : List V} (t : TabsOk H) (f : Z.Fr [B] H H') (h : H B = some (.lst xs)) : TabsOk H' := fun p hp => by
  obtain ⟨ps, h1, h2, h3⟩ := t p hp
  have ne : ∀ b o, H b = some o → o ≠ .lst xs → b ∉ [B] := fun b o e n z => n (Option.some.inj (e.symm.trans (by rw [List.mem_singleton.mp z]; exact h)))
  refine ⟨ps, f _ _ (ne _ _ h1 (fun z => by cases z)) h1, h2, fun pos cv hc => ?_⟩
  obtain ⟨c, e1, e2⟩ := h3 pos cv hc
  exact ⟨c, e1, f _ _ (ne _ _ e2 (fun z => by unfold LamX.CodeO at z; cases z)) e2⟩
theorem take_of {vs : List V} {H : Hp} {Q : VK} {E : XK} (h : spF K 2 F__law_take vs H Q E) : spTake vs H Q E := by
  obtain ⟨hv, O, as, S, ρ, P, R, hl, hF, q⟩ := h
  match vs, hv with
  | [v0, v1], _ =>
    have hl : ρ.length = 2 := hl
    match ρ, hl with
    | [s0, s1], _ =>
      unfold F__law_take at hF
      split at hF
      · next ds m e =>
        injection e with e1 e2
        injection e2 with e2 _
        subst e1
        subst e2
        obtain ⟨n, hb, m0, m1, hn, st⟩ := hF
        obtain ⟨b0, b1, b2, rfl, h0, h1, h2, h3, h4⟩ := hb
        obtain ⟨B, xs, z1, z2, z3, z4⟩ := R.own_at (i := 0) rfl
        obtain ⟨v, y1, y2, y3⟩ := R.fz_at (i := 1) rfl
        cases boxD_ints z4
        cases z1
        cases y1
        cases y3
        refine ⟨B, m, n, rfl, ⟨b0, b1, b2, z3, h0, h1, h2, h3, h4⟩, m0, m1, hn, fun r H' r0 r1 fr hB => ?_⟩
        obtain ⟨c0, c1, c2, ec, k0, k1, k2, k3, k4⟩ := hB
        have as0 : ∀ i r, as i = some r → i = 0 ∧ r = .lf B := fun i r ha => by
          have hi := R.bnd i r ha
          match i, hi, ha with
          | 0, _, ha => rw [z2] at ha; cases ha; exact ⟨rfl, rfl⟩
          | 1, _, ha => rw [y2] at ha; cases ha
        have hfr : Fr as ⟨H, S⟩ ⟨H', S⟩ := by
          refine ⟨fun a o na e => fr a o (fun z => na (.inl ⟨0, _, z2, by rw [List.mem_singleton.mp z]; exact .here⟩)) e, fun a h => ?_, fun a h => ?_, fun _ => rfl⟩
          · rcases h with ⟨i, r', h, q'⟩ | h
            · obtain ⟨rfl, rfl⟩ := as0 i r' h
              rw [q'.lf_of]
              exact .inl (.inl ⟨0, _, z2, .here⟩)
            · exact .inl (.inr h)
          · show H' a ≠ none
            by_cases z : a = B
            · rw [z, ec]; exact Option.some_ne_none _
            · obtain ⟨o, e⟩ := Option.ne_none_iff_exists'.mp h
              rw [fr a o (fun w => z (List.mem_singleton.mp w)) e]
              exact Option.some_ne_none _
        refine q _ _ _ ⟨H', S⟩ (st r [.int c0, .int c1, .int c2] r0 r1 ⟨c0, c1, c2, rfl, k0, k1, k2, k3, k4⟩) hfr ⟨R.tab.frB fr z3, fun i a ha => ?_, fun i j r1 r2 b h1 h2 _ _ => by rw [(as0 i r1 h1).1, (as0 j r2 h2).1], fun i r' b h q' => ?_⟩ (.int _)
        · obtain ⟨rfl, rfl⟩ := as0 i a ha
          exact ⟨_, rfl, .own ec (.cons (.int _) (.cons (.int _) (.cons (.int _) .nil)))⟩
        · obtain ⟨rfl, rfl⟩ := as0 i r' h
          rw [q'.lf_of]
          exact R.out 0 _ B z2 .here
      · exact hF.elim
end
end DL
/-! going through data -/
namespace DL
open PySem L2 Z PySem.Spec PyProof.Rows
variable [Tbs]
theorem kit_none_int : kitB (kindD .none) "int" = some false := by show kitB "NoneType" "int" = _; decide +kernel
theorem kit_none_bool : kitB (kindD .none) "bool" = some false := by show kitB "NoneType" "bool" = _; decide +kernel
theorem kit_none_str : kitB (kindD .none) "str" = some false := by show kitB "NoneType" "str" = _; decide +kernel
theorem kit_none_list : kitB (kindD .none) "list" = some false := by show kitB "NoneType" "list" = _; decide +kernel
theorem kit_none_tuple : kitB (kindD .none) "tuple" = some false := by show kitB "NoneType" "tuple" = _; decide +kernel
theorem kit_bool_int {b : Bool} : kitB (kindD (.bool b)) "int" = some true := by show kitB "bool" "int" = _; decide +kernel
theorem kit_bool_bool {b : Bool} : kitB (kindD (.bool b)) "bool" = some true := by show kitB "bool" "bool" = _; decide +kernel
theorem kit_bool_str {b : Bool} : kitB (kindD (.bool b)) "str" = some false := by show kitB "bool" "str" = _; decide +kernel
theorem kit_bool_list {b : Bool} : kitB (kindD (.bool b)) "list" = some false := by show kitB "bool" "list" = _; decide +kernel
theorem kit_bool_tuple {b : Bool} : kitB (kindD (.bool b)) "tuple" = some false := by show kitB "bool" "tuple" = _; decide +kernel
theorem kit_int_int {i : Int} : kitB (kindD (.int i)) "int" = some true := by show kitB "int" "int" = _; decide +kernel
theorem kit_int_bool {i : Int} : kitB (kindD (.int i)) "bool" = some false := by show kitB "int" "bool" = _; decide +kernel
theorem kit_int_str {i : Int} : kitB (kindD (.int i)) "str" = some false := by show kitB "int" "str" = _; decide +kernel
theorem kit_int_list {i : Int} : kitB (kindD (.int i)) "list" = some false := by show kitB "int" "list" = _; decide +kernel
theorem kit_int_tuple {i : Int} : kitB (kindD (.int i)) "tuple" = some false := by show kitB "int" "tuple" = _; decide +kernel
theorem kit_str_int {s : Str} : kitB (kindD (.str s)) "int" = some false := by show kitB "str" "int" = _; decide +kernel
theorem kit_str_bool {s : Str} : kitB (kindD (.str s)) "bool" = some false := by show kitB "str" "bool" = _; decide +kernel
theorem kit_str_str {s : Str} : kitB (kindD (.str s)) "str" = some true := by show kitB "str" "str" = _; decide +kernel
theorem kit_str_list {s : Str} : kitB (kindD (.str s)) "list" = some false := by show kitB "str" "list" = _; decide +kernel
theorem kit_str_tuple {s : Str} : kitB (kindD (.str s)) "tuple" = some false := by show kitB "str" "tuple" = _; decide +kernel
theorem kit_list_int {l : List PyData} : kitB (kindD (.list l)) "int" = some false := by show kitB "list" "int" = _; decide +kernel
theorem kit_list_bool {l : List PyData} : kitB (kindD (.list l)) "bool" = some false := by show kitB "list" "bool" = _; decide +kernel
theorem kit_list_str {l : List PyData} : kitB (kindD (.list l)) "str" = some false := by show kitB "list" "str" = _; decide +kernel
theorem kit_list_list {l : List PyData} : kitB (kindD (.list l)) "list" = some true := by show kitB "list" "list" = _; decide +kernel
theorem kit_list_tuple {l : List PyData} : kitB (kindD (.list l)) "tuple" = some false := by show kitB "list" "tuple" = _; decide +kernel
theorem kit_tuple_int {l : List PyData} : kitB (kindD (.tuple l)) "int" = some false := by show kitB "tuple" "int" = _; decide +kernel
theorem kit_tuple_bool {l : List PyData} : kitB (kindD (.tuple l)) "bool" = some false := by show kitB "tuple" "bool" = _; decide +kernel
theorem kit_tuple_str {l : List PyData} : kitB (kindD (.tuple l)) "str" = some false := by show kitB "tuple" "str" = _; decide +kernel
theorem kit_tuple_list {l : List PyData} : kitB (kindD (.tuple l)) "list" = some false := by show kitB "tuple" "list" = _; decide +kernel
theorem kit_tuple_tuple {l : List PyData} : kitB (kindD (.tuple l)) "tuple" = some true := by show kitB "tuple" "tuple" = _; decide +kernel
/-- a comprehension that draws nothing: of xs those of which k tells something -/
theorem lc_map {α : Type} {g : FG} {ft : FT} {fe : FE} {vs : List Nat} {ρ : En} {P : List PyData → En → Prop} {ds : List PyData} (xs : List α) (e : α → PyData) (k : α → Option PyData) (hd : ds = xs.map e) (hv : vs.all (slotF ρ) = true) (hl : xs.length ≤ sizeLine)
    (st : ∀ (x : α) (R : List PyData → En → Prop) (acc : List PyData), x ∈ xs → acc.length < sizeLine → R (acc ++ (k x).toList) (wipeF ρ vs) →
      g (e x) (wipeF ρ vs) fun ρ3 => ft ρ3 fun b ρ4 => if b = true then fe ρ4 fun y ρ5 => acc.length < sizeLine ∧ vs.all (slotF ρ5) = true ∧ R (acc ++ [y]) (wipeF ρ5 vs) else vs.all (slotF ρ4) = true ∧ R acc (wipeF ρ4 vs))
    (q : P (xs.filterMap k) (wipeF ρ vs)) : lcW ds g ft fe vs ρ P := by
  subst hd
  refine ⟨hv, fun i acc ρ2 => acc = (xs.take i).filterMap k ∧ ρ2 = wipeF ρ vs, ⟨rfl, rfl⟩, ?_, ?_⟩
  · rintro i d acc ρ2 hd ⟨rfl, rfl⟩
    rw [List.getElem?_map] at hd
    cases ex : xs[i]? with
    | none => rw [ex] at hd; cases hd
    | some x =>
      rw [ex] at hd
      cases hd
      have hi := (List.getElem?_eq_some_iff.mp ex).1
      refine st x (fun acc ρ2 => acc = (xs.take (i + 1)).filterMap k ∧ ρ2 = wipeF ρ vs) _ (List.mem_of_getElem? ex) ?_ ⟨?_, rfl⟩
      · refine Nat.lt_of_le_of_lt (List.length_filterMap_le _ _) ?_
        rw [List.length_take]
        omega
      · rw [List.take_add_one, ex, List.filterMap_append]
        cases h : k x <;> simp [h]
  · rintro acc ρ2 ⟨rfl, h⟩
    rw [h, List.length_map, List.take_length]
    exact q
/-- a comprehension by its state: W of the turn, what is laid, the slots -/
theorem lc_inv {α : Type} {g : FG} {ft : FT} {fe : FE} {vs : List Nat} {ρ : En} {P : List PyData → En → Prop} {ds : List PyData} (xs : List α) (e : α → PyData) (W : Nat → List PyData → En → Prop) (hd : ds = xs.map e) (hv : vs.all (slotF ρ) = true) (h0 : W 0 [] (wipeF ρ vs))
    (st : ∀ (i : Nat) (x : α) (acc : List PyData) (ρ2 : En), xs[i]? = some x → i < xs.length → W i acc ρ2 →
      g (e x) ρ2 fun ρ3 => ft ρ3 fun b ρ4 => if b = true then fe ρ4 fun y ρ5 => acc.length < sizeLine ∧ vs.all (slotF ρ5) = true ∧ W (i + 1) (acc ++ [y]) (wipeF ρ5 vs) else vs.all (slotF ρ4) = true ∧ W (i + 1) acc (wipeF ρ4 vs))
    (q : ∀ acc ρ2, W xs.length acc (wipeF ρ2 vs) → P acc (wipeF ρ2 vs)) : lcW ds g ft fe vs ρ P := by
  subst hd
  refine ⟨hv, W, h0, ?_, by rw [List.length_map]; exact q⟩
  intro i d acc ρ2 hd w
  rw [List.getElem?_map] at hd
  cases ex : xs[i]? with
  | none => rw [ex] at hd; cases hd
  | some x =>
    rw [ex] at hd
    cases hd
    exact st i x acc ρ2 ex (List.getElem?_eq_some_iff.mp ex).1 w
theorem strsF_f {α : Type} {f : α → Str} {xs : List α} {k : List Str → Prop} (h : k (xs.map f)) : strsF (xs.map fun x => .str (f x)) k := by
  have := strsF_map (bs := xs.map f) (k := k) h
  rw [List.map_map] at this
  exact this
theorem filterMap_some {α β : Type} (f : α → β) (xs : List α) : xs.filterMap (fun x => some (f x)) = xs.map f := by
  induction xs with
  | nil => rfl
  | cons x r ih => rw [List.filterMap_cons, ih]; rfl
/-- a loop by its state -/
theorem for_map {α : Type} {us : List Nat} {g : FG} {b : FS} {E : FEnds} {ρ : En} {ds : List PyData} (xs : List α) (e : α → PyData) (W : Nat → En → Prop) (hd : ds = xs.map e) (h0 : W 0 (fgt ρ us))
    (st : ∀ (i : Nat) (x : α) (ρ2 : En), xs[i]? = some x → i < xs.length → W i ρ2 → g (e x) ρ2 fun ρ3 => b { E with nx := fun ρ4 => W (i + 1) (fgt ρ4 us), ct := fun ρ4 => W (i + 1) (fgt ρ4 us), bk := E.nx } ρ3) (q : ∀ ρ2, W xs.length ρ2 → E.nx ρ2) : forW us ds g b E ρ := by
  subst hd
  refine ⟨W, h0, ?_, by rw [List.length_map]; exact q⟩
  intro i d ρ2 hd w
  rw [List.getElem?_map] at hd
  cases ex : xs[i]? with
  | none => rw [ex] at hd; cases hd
  | some x =>
    rw [ex] at hd
    cases hd
    exact st i x ρ2 ex (List.getElem?_eq_some_iff.mp ex).1 w
/-- a loop over range(m) -/
theorem for_range {us : List Nat} {g : FG} {b : FS} {E : FEnds} {ρ : En} {lo : Int} {m : Nat} (W : Nat → En → Prop) (h0 : W 0 (fgt ρ us))
    (st : ∀ (i : Nat) (ρ2 : En), i < m → W i ρ2 → g (.int (lo + (i : Int))) ρ2 fun ρ3 => b { E with nx := fun ρ4 => W (i + 1) (fgt ρ4 us), ct := fun ρ4 => W (i + 1) (fgt ρ4 us), bk := E.nx } ρ3) (q : ∀ ρ2, W m ρ2 → E.nx ρ2) : forW us (rangeD lo m) g b E ρ := by
  refine for_map (List.range m) (fun k : Nat => .int (lo + (k : Int))) W rfl h0 (fun i x ρ2 hx hi w => ?_) (by rw [List.length_range]; exact q)
  rw [List.length_range] at hi
  rw [List.getElem?_range hi] at hx
  cases hx
  exact st i ρ2 hi w
/-- a draw -/
theorem take_step {ds : List PyData} {m : Int} {n : Nat} {P : Int → List PyData → Prop} (hb : BoxD ds n) (h0 : 0 < m) (h1 : m < 1073741824) (h2 : n < 1000000000) (k : ∀ r ds', 0 ≤ r → r < m → BoxD ds' (n + 1) → P r ds') : takeF ds m P := ⟨n, hb, h0, h1, h2, k⟩
theorem sz0 : (0 ≤ sizeLine) = True := eq_true (by decide)
theorem sz1 : (1 ≤ sizeLine) = True := eq_true (by decide)
theorem sz2 : (2 ≤ sizeLine) = True := eq_true (by decide)
theorem sz3 : (3 ≤ sizeLine) = True := eq_true (by decide)
theorem sz4 : (4 ≤ sizeLine) = True := eq_true (by decide)
theorem sz5 : (5 ≤ sizeLine) = True := eq_true (by decide)
theorem sz6 : (6 ≤ sizeLine) = True := eq_true (by decide)
theorem sz7 : (7 ≤ sizeLine) = True := eq_true (by decide)
theorem sz8 : (8 ≤ sizeLine) = True := eq_true (by decide)
theorem sz9 : (9 ≤ sizeLine) = True := eq_true (by decide)
theorem sz10 : (10 ≤ sizeLine) = True := eq_true (by decide)
theorem sz11 : (11 ≤ sizeLine) = True := eq_true (by decide)
theorem sz12 : (12 ≤ sizeLine) = True := eq_true (by decide)
theorem sz13 : (13 ≤ sizeLine) = True := eq_true (by decide)
theorem sz14 : (14 ≤ sizeLine) = True := eq_true (by decide)
theorem sz15 : (15 ≤ sizeLine) = True := eq_true (by decide)
theorem sz16 : (16 ≤ sizeLine) = True := eq_true (by decide)
theorem sz17 : (17 ≤ sizeLine) = True := eq_true (by decide)
theorem sz18 : (18 ≤ sizeLine) = True := eq_true (by decide)
theorem sz19 : (19 ≤ sizeLine) = True := eq_true (by decide)
theorem sz20 : (20 ≤ sizeLine) = True := eq_true (by decide)
theorem at0 {α : Type} {x : α} {xs : List α} : L2.atI (x :: xs) 0 = some x := by simp [L2.atI, ixN]
theorem at1 {α : Type} {x y : α} {xs : List α} : L2.atI (x :: y :: xs) 1 = some y := by
  unfold L2.atI ixN
  rw [if_pos (by decide), if_pos (by simp only [List.length_cons]; omega)]
  rfl
theorem at2 {α : Type} {x y z : α} {xs : List α} : L2.atI (x :: y :: z :: xs) 2 = some z := by
  unfold L2.atI ixN
  rw [if_pos (by decide), if_pos (by simp only [List.length_cons]; omega)]
  rfl
theorem at3 {α : Type} {x y z w : α} {xs : List α} : L2.atI (x :: y :: z :: w :: xs) 3 = some w := by
  unfold L2.atI ixN
  rw [if_pos (by decide), if_pos (by simp only [List.length_cons]; omega)]
  rfl
theorem at4 {α : Type} {x y z w v : α} {xs : List α} : L2.atI (x :: y :: z :: w :: v :: xs) 4 = some v := by
  unfold L2.atI ixN
  rw [if_pos (by decide), if_pos (by simp only [List.length_cons]; omega)]
  rfl
/-- a drawn one of a written list -/
theorem at_mem {α : Type} {xs : List α} {r : Int} (h0 : 0 ≤ r) (h1 : r < xs.length) : ∃ v, L2.atI xs r = some v ∧ v ∈ xs := by
  obtain ⟨j, rfl⟩ := Int.eq_ofNat_of_zero_le h0
  have hj : j < xs.length := by omega
  refine ⟨xs[j], ?_, List.getElem_mem hj⟩
  unfold L2.atI
  rw [ixN_nat hj]
  exact List.getElem?_eq_getElem hj
theorem cutD_take {α : Type} (xs : List α) (e : α → PyData) (k : Nat) : cutD (xs.map e) none (some (k : Int)) = (xs.take k).map e := by
  unfold cutD
  rw [HT.sIx_nat, HT.sIx_none, List.drop_zero, Nat.sub_zero, List.length_map]
  by_cases h : k ≤ xs.length
  · rw [Nat.min_eq_left h, List.map_take]
  · rw [Nat.min_eq_right (by omega), List.take_of_length_le (by rw [List.length_map]; omega), List.take_of_length_le (by omega)]
theorem atI_nat' {α : Type} {xs : List α} {k : Nat} {x : α} (h : xs[k]? = some x) : L2.atI xs (k : Int) = some x := by
  unfold L2.atI
  rw [ixN_nat (List.getElem?_eq_some_iff.mp h).1]
  exact h
theorem atI_map {α β : Type} (f : α → β) (xs : List α) (k : Int) : L2.atI (xs.map f) k = (L2.atI xs k).map f := by
  unfold L2.atI
  rw [List.length_map]
  cases ixN xs.length k with
  | none => rfl
  | some j => exact List.getElem?_map ..
end DL
/-! objects that stay, keywords, own lists in a parallel assignment, more of own lists -/
namespace DL
open PySem L2 Z PySem.Spec PyProof.Rows
variable [Tbs]
section
variable {K : PySem.W.Frag} {n : Nat} {J : Jv n}
def objF (c : Str) (d : PyData) (k : List (PyData × PyData) → Prop) : Prop := match d with
  | .dict ((.str c', .none) :: fs) => c' = c ∧ k fs
  | _ => False
theorem objF_of {H : Hp} {c : Str} {C : Addr} {v : V} {d : PyData} {k : List (PyData × PyData) → Prop} (hc : PySem.W.nsIn K mainGlobals c = some (some (.ref C))) (q : Dq K H v d) (h : objF c d k) : ∃ a dx fv fs, v = .ref a ∧ H a = some (.ins C dx fv) ∧ DqFs K H fv fs ∧ k fs := by
  unfold objF at h
  split at h
  · obtain ⟨rfl, h⟩ := h
    cases q with
    | obj e1 e2 r =>
      rw [hc] at e1
      cases e1
      exact ⟨_, _, _, _, rfl, e2, r, h⟩
  · exact h.elim
/-- e.f -/
def fFld (c f : Str) (a : FE) : FE := fun ρ P => a ρ fun d ρ1 => objF c d fun fs => ∃ v, fldD f fs = some v ∧ P v ρ1
theorem re_fld {C : Addr} {c f : Str} {ta : TE} {a : FE} (hc : PySem.W.nsIn K mainGlobals c = some (some (.ref C))) (cl : Cls K C) (na : NoAttr K C f) (ha : RE K J ta a) : RE K J (tFld K ta f) (fFld c f a) := by
  intro O as σ H Q ρ P E q k
  refine ha O as σ H _ ρ _ E q fun d ρ1 v H1 q1 f1 E1 d1 => ?_
  obtain ⟨x, dx, fv, fs, rfl, e, r, u, hu, p⟩ := objF_of hc d1 q1
  obtain ⟨w, hw, dw⟩ := r.get hu
  exact ⟨x, C, dx, fv, w, rfl, (hp_some e).2, cl, na, hw, k _ _ _ _ p f1 E1 dw⟩
def fMk (c : Str) (G : List PyData → (List (PyData × PyData) → Prop) → Prop) (dv : List PyData) (f : FA) : FE := fun ρ P => f ρ fun ds ρ1 => G (ds ++ dv) fun fs => P (.dict ((.str c, .none) :: fs)) ρ1
def fMkN (c : Str) (G : List PyData → (List (PyData × PyData) → Prop) → Prop) (n m : Nat) (gD : List PyData → List PyData → List PyData) (f fk : FA) : FE := fun ρ P => f ρ fun ds ρ1 => fk ρ1 fun es ρ2 => ds.length = n ∧ es.length = m ∧ G (gD ds es) fun fs => P (.dict ((.str c, .none) :: fs)) ρ2
/-- a call with keywords, data alone -/
def fCallN (F : FN) (n m : Nat) (gD : List PyData → List PyData → List PyData) (f fk : FA) : FE := fun ρ P => f ρ fun ds ρ1 => fk ρ1 fun es ρ2 => ds.length = n ∧ es.length = m ∧ F ((gD ds es).map .fz) fun d _ => P d ρ2
/-! own lists in a parallel assignment -/
theorem EnR.ownNew {O : Addr → Prop} {as : As} {H : Hs} {ρ : En} {σ : L2.St} {p : Addr} {xs : List V} {ds : List PyData} {i : Nat} (E : EnR K J (plus O p) as H ρ σ) (hi : slotL ρ i = true) (hJ : J.P (upA as i (some (.lf p))) H) (hQ : J.Q O) (np : ¬ O p) (h : H p = some (.lst xs)) (d : DqAll K (hq (plus O p) as H) xs ds) :
    EnR K J O (upA as i (some (.lf p))) H (ρ.set i (.own ds)) (σ.set i (some (.ref p))) := E.setOwn hQ (E.ltB hi) hJ h d np
theorem same_plus {O : Addr → Prop} {as : As} {H H' : Hs} {p : Addr} (f : Fr as H H') (h : NewO as H p) : Same (hq O as H) (hq (plus O p) as H') := fun a o e => by
  obtain ⟨na, e⟩ := hp_some e
  refine hp_mk (fun z => ?_) (f.fr a o (fun z => na (.inr z)) e)
  rcases z with (z | z) | z
  · exact na (.inl z)
  · rw [z] at e na
    rcases h with h | h
    · rw [h] at e; cases e
    · exact na (.inr h)
  · rcases f.new a z with z | z
    · exact na (.inr z)
    · rw [z] at e; cases e
theorem ext_own {as : As} {H H' : Hs} {p : Addr} {i : Nat} (f : Fr as H H') (hi : n ≤ i) (ns : as i ≠ some .sto) (h : NewO as H p) : Ext n as (upA as i (some (.lf p))) H H' := by
  refine ⟨f.fr, fun a q => ?_, fun j hj => upA_ne (by omega), f.liv, upA_ks ns (fun z => by cases z), f.nst⟩
  rcases q.up with ⟨r, e, q⟩ | q
  · cases e
    rw [q.lf_of]; exact h.symm
  · exact f.new a q
/-- i, j = e, [..] -/
def fParO2 (i j : Nat) (a : FE) (b : FA) : FS := fun E ρ => a ρ fun d ρ1 => b ρ1 fun ds ρ2 => gN i d ρ2 fun ρ3 => slotL ρ3 j = true ∧ E.nx (ρ3.set j (.own ds))
theorem none_back {as : As} {H H1 : Hs} {p : Addr} (f : Fr as H H1) (h : NewO as H1 p) : NewO as H p := (Ext.of (n := 0) f).old h
/-- i, j = [..], e -/
def fParO1 (i j : Nat) (b : FA) (a : FE) : FS := fun E ρ => b ρ fun ds ρ1 => a ρ1 fun d ρ2 => slotL ρ2 i = true ∧ slotF (ρ2.set i (.own ds)) j = true ∧ E.nx ((ρ2.set i (.own ds)).set j (.fz d))
/-- i, j = [..], [..] -/
def fParOO (i j : Nat) (a b : FA) : FS := fun E ρ => a ρ fun ds ρ1 => b ρ1 fun es ρ2 => slotL ρ2 i = true ∧ slotL ρ2 j = true ∧ E.nx ((ρ2.set i (.own ds)).set j (.own es))
/-- i, j, l = e, e', [..] -/
def fPar3O3 (i j l : Nat) (a a' : FE) (b : FA) : FS := fun E ρ => a ρ fun d ρ1 => a' ρ1 fun d' ρ2 => b ρ2 fun ds ρ3 => gN i d ρ3 fun ρ4 => gN j d' ρ4 fun ρ5 => slotL ρ5 l = true ∧ E.nx (ρ5.set l (.own ds))
/-- own[k] += e -/
def fAugO (i : Nat) (b a : FE) (h : Int → Int → Int) : FS := fun E ρ => ownF ρ i fun _ => b ρ fun x ρ1 => intF x fun k => ownF ρ1 i fun ds => ∃ c, atI ds k = some (.int c) ∧ a ρ1 fun y ρ2 => intF y fun y => ownF ρ2 i fun es => ∃ j, ixN es.length k = some j ∧ E.nx (ρ2.set i (.own (es.set j (.int (h c y)))))
/-- i, j = e, [..] by way of the tuple -/
theorem rs_asgO2 {i j : Nat} {ta tn : TE} {a : FE} {b : FA} (hj : n ≤ j) (ha : RE K J ta a) (hb : RN K J tn b) : RS K J (tAsg (tTup (tCons ta (tCons tn tNil))) (gTup K 2 (gCons (gName i) (gCons (gName j) gNil)))) (fParO2 i j a b) := by
  intro O as σ H D ρ E R f C
  refine ha O as σ H _ ρ _ R f fun d ρ1 v H1 q1 f1 E1 d1 => ?_
  refine hb O as σ H1 _ ρ1 _ E1 q1 fun ds ρ2 p xs H2 q2 f2 hp1 E2 hp2 d2 => ?_
  refine ⟨by show 2 ≤ sizeLine; decide, fun T hT => ?_⟩
  have s3 := Same.new (o := .tup [v, .ref p]) hT
  refine ⟨T, _, rfl, SqT.of upd_same, rfl, _, _, rfl, _, _, rfl, rfl, ?_⟩
  have E3 := E2.grow s3
  have E4 := E3.setFz q2.1 ((d1.mono (same_plus f2 hp1)).mono (E2.hgrow s3))
  have x := ext_own ((f1.trans f2).trans (E2.frS s3)) hj (E4.nst_at (E4.ltB q2.2.1)) (none_back f1 hp1)
  exact C.nx _ _ _ _ q2.2.2 x (E4.ownNew q2.2.1 (J.cl _ _ _ _ R.inv x) R.inq (E1.notO E2 hp1 hp2) (s3 _ _ hp2) (d2.mono (E2.hgrow s3)))
/-- own == e, own != e -/
def fEqO (h : Bool → Bool) (i : Nat) (b : FE) : FE := fun ρ P => ownF ρ i fun _ => b ρ fun y ρ1 => ownF ρ1 i fun ds => SeqAt.shaped (.list ds) = true ∧ SeqAt.shaped y = true ∧ P (.bool (h (PyData.eqv (.list ds) y))) ρ1
theorem own_dp {O : Addr → Prop} {as : As} {H : Hs} {ρ : En} {σ : L2.St} {i : Nat} {ds : List PyData} (E : EnR K J O as H ρ σ) (h : ρ[i]? = some (.own ds)) (sh : SeqAt.shaped (.list ds) = true) : ∃ a, as i = some (.lf a) ∧ σ[i]? = some (some (.ref a)) ∧ Dp K H (.ref a) (.list ds) := by
  obtain ⟨a, xs, e1, e2, e3, e4⟩ := E.own_at h
  exact ⟨a, e2, e1, .lst (SqL.of e3) (DpAll.mono hp_same (e4.dp (plain_of sh)))⟩
theorem re_eqO {i : Nat} {tb : TE} {b : FE} (hb : RE K J tb b) : RE K J (tOp (rEqD K) (tVar i) tb) (fEqO id i b) := by
  intro O as σ H Q ρ P E q k
  obtain ⟨ds0, h0, q⟩ := ownF_of q
  obtain ⟨a, xs0, e1, e2, _, _⟩ := E.own_at h0
  refine ⟨_, e1, ?_⟩
  refine hb O as σ H _ ρ _ E q fun x ρ1 v H1 q1 f1 E1 d1 => ?_
  obtain ⟨ds, hds, s1, s2, p⟩ := ownF_of q1
  obtain ⟨a', e2', _, dp⟩ := own_dp E1 hds s1
  rw [e2] at e2'
  cases e2'
  exact ⟨_, _, dp, Dp.mono hp_same (d1.dp (plain_of s2)), s1, s2, k _ _ _ _ p f1 E1 (.bl _)⟩
end
end DL
/-! new lists handed back; own lists changed by methods; more built-in calls -/
namespace DL
open PySem L2 Z PySem.Spec PyProof.Rows
variable [Tbs]
section
variable {K : PySem.W.Frag} {n : Nat} {J : Jv n}
/-- return own -/
def fRetO (i : Nat) : FS := fun E ρ => ownF ρ i fun ds => E.ro ds (ρ.set i .no)
/-- return of a new list -/
def fRetW (f : FA) : FS := fun E ρ => f ρ fun ds ρ1 => E.ro ds ρ1
theorem rs_retW {te : TE} {f : FA} (h : RN K J te f) : RS K J (tRet te) (fRetW f) := by
  intro O as σ H D ρ E R q C
  exact h O as σ H _ ρ _ R q fun ds ρ1 p xs H2 q1 f1 hp1 E1 hp2 d1 => C.ro _ _ _ _ _ _ _ q1 (.of f1) hp1 E1 hp2 d1
abbrev FM := List Sl → (List PyData → List Sl → Prop) → Prop
/-- a def that hands back a new list -/
def spNG (K : PySem.W.Frag) (n e : Nat) (F : FM) : Sp := fun vs H Q _ => vs.length = n ∧ ∃ (O : Addr → Prop) (as : As) (S : Sto) (ρ : En) (P : List PyData → List Sl → Prop), EnR K (J0 : Jv 0) O as ⟨H, S⟩ ρ (vs.map some) ∧ ρ.length = n + e ∧ F ρ P ∧
  ∀ ds out p xs H', P ds out → Fr as ⟨H, S⟩ H' → NewO as ⟨H, S⟩ p → Bk K (plus O p) as H' out → H' p = some (.lst xs) → DqAll K (hq (plus O p) as H') xs ds → Q (.ref p) H'
abbrev spN (K : PySem.W.Frag) (n : Nat) (F : FM) : Sp := spNG K n 0 F
def fnM (n m : Nat) (b : FS) : FM := fun sls P => b { nx := fun _ => False, rt := fun _ _ => False, ro := fun ds ρ' => P ds (ρ'.take n) } (sls ++ List.replicate (m - n) .no)
def fnMS (n m : Nat) (b : FS) : FM := fun sls P => b { nx := fun _ => False, rt := fun _ _ => False, ro := fun ds ρ' => P ds (ρ'.take n ++ ρ'.drop m) } (sls.take n ++ List.replicate (m - n) .no ++ sls.drop n)
theorem Ext.newS {n N : Nat} {as : As} {H : Hs} {p : Addr} (h : NewO (shA as n N) H p) : NewO as H p := h.imp id fun z => by
  rcases z with ⟨j, r, hc, q⟩ | hc
  · unfold shA at hc
    split at hc
    · exact .inl ⟨j, r, hc, q⟩
    · split at hc
      · exact .inl ⟨n, r, hc, q⟩
      · cases hc
  · exact .inr hc
theorem fn_runN {m e : Nat} {N : List Str} {b : FS} {t : TS} (rs : ∀ J : Jv m, RS K J t b) {vs : List V} {H : Hp} {Q : VK} {E : XK} (hN : m ≤ N.length) {F : FM} (hF : F = fun sls P => b { nx := fun _ => False, rt := fun _ _ => False, ro := fun ds ρ' => P ds (outS e m N.length ρ') } (enS e m N.length sls)) (h : spNG K m e F vs H Q E) : t { nx := fun _ H' => Q .non H', rt := Q } (L2.start N vs) H := by
  obtain ⟨hv, O, as, S, ρ, P, R, hl, hf, q⟩ := h
  subst hF
  refine rs (Jst m O (shA as m N.length) ⟨H, S⟩) O _ _ ⟨H, S⟩ _ _ _ (fn_start R hv hl hN) hf ⟨fun _ _ _ _ p => p.elim, fun _ _ _ _ _ _ p => p.elim, fun _ _ _ _ p => p.elim, fun _ _ _ _ p => p.elim, fun ds ρ' p xs as' σ' H' pr x o R' e d => ?_⟩
  obtain ⟨h1, h2, h3⟩ := fn_back R hv hl hN x R'
  exact q _ _ _ _ _ pr h1 (Ext.newS o) h2 e (d.mono h3)
theorem fn_coreN {ps : List Str} {N : List Str} {b : FS} {t : TS} (hN : ps.length ≤ N.length) (rs : ∀ J : Jv ps.length, RS K J t b) {vs : List V} {H : Hp} {Q : VK} {E : XK} (h : spN K ps.length (fnM ps.length N.length b) vs H Q E) : t { nx := fun _ H' => Q .non H', rt := Q } (L2.start N vs) H := fn_runN rs hN rfl h
section
variable {P : Program} {w : World} {mg : Str → Option Value} {base : Heap} {k : Nat} {f : Addr} {fd : FuncData} {ps : List Str} {x qual : Str} {st : Stmt} {N : List Str} {b : FS}
theorem okN0 (F : Fun K x qual st f fd) (S : FnScope N ps (defScope st))
    (body : ∀ (cdv : Value) (A : Around) (outer : List Env) (s : Shared) (H : Hp) (E : XK), Room k (A.deeper (envOfC qual (defScope st) s.heap.objs.size f cdv)) →
      ∃ t, PSs (cxOf CX0 P w K mg base N qual (defScope st) f cdv A outer s H E).nox (defBody st) t ∧ ∀ J : Jv ps.length, RS K J t b) :
    FnOk P w K mg base CX0 (k + 1) f fd ps (spN K ps.length (fnM ps.length N.length b)) := by
  refine F.ok S (fun vs H Q E h => h.1) (fun cdv A outer s H vs Q E hr h => ?_)
  obtain ⟨t, pt, rs⟩ := body cdv A outer s H E hr
  exact ⟨t, pt, fn_coreN (scope_le S) rs h⟩
end
/-- back from a def that hands back the place p -/
theorem call_backX {O : Addr → Prop} {p : Addr} {as : As} {H H' : Hs} {ρ : En} {σ : L2.St} {xs : List Ar} {vs : List V} {out : List Sl} (E : EnR K J O as H ρ σ) (ar : ArsT K (hq O as H) as vs xs) (nd : (ownIx xs).Nodup) (fr : Fr (adrs as xs) H H') (hX : NewO (adrs as xs) H p) (hL : H' p ≠ none) (bk : Bk K (plus (OutO O as xs H) p) (adrs as xs) H' out) :
    Fr as H H' ∧ EnR K J (plus O p) as H' (wb ρ xs out) σ ∧ ∀ a, Hid (plus O p) as H' a → Hid (plus (OutO O as xs H) p) (adrs as xs) H' a := by
  have bk0 : Bk K (OutO O as xs H) (adrs as xs) H' out := ⟨bk.tab, fun i r h => by
    obtain ⟨sl, e, q⟩ := bk.at_ i r h
    exact ⟨sl, e, q.mono (hp_less fun _ => hid_plus)⟩, bk.inj, fun i r b h q z => bk.out i r b h q (.inl z)⟩
  obtain ⟨fr', E', hid, st⟩ := call_back E ar nd fr bk0
  have hidX : ∀ a, Hid (plus O p) as H' a → Hid (plus (OutO O as xs H) p) (adrs as xs) H' a := fun a h => by
    rcases h with (h | h) | h
    · exact (hid a (.inl h)).imp .inl id
    · exact .inl (.inr h)
    · exact (hid a (.inr h)).imp .inl id
  have sX : Same (hq O as H) (hq (plus O p) as H') := fun a o e => by
    obtain ⟨na, e⟩ := hp_some e
    refine hp_mk (fun z => ?_) (fr'.fr a o (fun z => na (.inr z)) e)
    rcases z with (z | z) | z
    · exact na (.inl z)
    · rw [z] at e na
      rcases hX with h | h
      · rw [h] at e; cases e
      · exact na (.inr (adrs_sub h))
    · rcases fr'.new a z with z | z
      · exact na (.inr z)
      · rw [z] at e; cases e
  have np : ∀ i r b, as i = some r → Rgn H' r b → b ≠ p := fun i r b h q z => by
    by_cases m : i ∈ ownIx xs
    · obtain ⟨j, e⟩ := ownIx_mem m
      exact bk.out j r b (by unfold adrs; rw [e]; exact h) q (.inr z)
    · have q' : Rgn H r b := by
        cases r with
        | lf a => exact q
        | sto =>
          refine (Rgn.st (fr.nst fun j z => ?_)).mp q
          obtain ⟨i', e', h'⟩ := adrs_own z
          rw [(E.sto i' h').1, ← (E.sto i h).1] at e'
          exact m (mem_ownIx e')
      rw [z] at q'
      rcases hX with w | w
      · obtain ⟨o, e, _⟩ := E.nod h q'
        rw [show H.hp p = none from w] at e; cases e
      · exact (st i r p m h q').2 w
  refine ⟨fr', ⟨E'.len, E'.tl, fun i sl o h1 h2 => ?_, fun i h => ?_, E'.inj, fun i r b h q z => ?_, E'.bnd, fun a h => ?_, E'.inv, J.up _ _ (fun _ z => .inl z) E.inq, E'.tab⟩, hidX⟩
  · by_cases q : i ∈ ownIx xs
    · obtain ⟨j, e⟩ := ownIx_mem q
      have hi : i < ρ.length := by
        have := (List.getElem?_eq_some_iff.mp h1).1
        rw [wb_len] at this
        exact this
      obtain ⟨a, ha⟩ := ar.own_at e
      have hadr : adrs as xs j = some a := by unfold adrs; rw [e]; exact ha
      obtain ⟨sl', e1, e2⟩ := bk.at_ j a hadr
      rw [wb_own ρ hi nd e e1] at h1
      cases h1
      cases a with
      | sto =>
        have := (E.sto i ha).1
        have := (List.getElem?_eq_some_iff.mp h2).1
        omega
      | lf a =>
        obtain ⟨_, _, _, e4, _⟩ := E.is_own ha
        rw [e4] at h2
        cases h2
        rw [ha]
        exact RgR.mono (hp_less hidX) e2
    · rw [wb_other ρ xs out q] at h1
      exact (E.at_ i sl o h1 h2).mono sX fun b hb => (st i _ b q hb rfl).1
  · obtain ⟨e1, e2, e3⟩ := E'.sto i h
    refine ⟨e1, e2, ?_⟩
    by_cases q : i ∈ ownIx xs
    · obtain ⟨j, e⟩ := ownIx_mem q
      obtain ⟨sl', x1, x2⟩ := bk.at_ j .sto (by unfold adrs; rw [e]; exact h)
      exact x2.2.move (hp_less hidX) fun _ _ => rfl
    · have se : H'.st = H.st := fr.nst fun j z => by
        obtain ⟨i', e', h'⟩ := adrs_own z
        rw [(E.sto i' h').1, ← (E.sto i h).1] at e'
        exact q (mem_ownIx e')
      rw [se]
      exact (E.sto i h).2.2.move sX fun a z => (st i _ a q h z).1
  · rcases z with z | z
    · exact E'.out i r b h q z
    · exact np i r b h q z
  · rcases h with h | h
    · exact E'.occ a h
    · rw [h]; exact hL
theorem call_coreN {O : Addr → Prop} {as : As} {H : Hs} {ρ : En} {σ : L2.St} {xs : List Ar} {r : List Sl} {vs : List V} {m e : Nat} {F : FM} {P : List PyData → En → Prop} {Q : VK} {E0 : XK} (E : EnR K J O as H ρ σ) (fit : Fits ρ xs r) (ar : ArsT K (hq O as H) as vs xs) (hv : vs.length = m) (hm : xs.length = m + e) (nd : (ownIx xs).Nodup)
    (f : F r fun d out => P d (wb ρ xs out)) (k : ∀ ds ρ' p ys H', P ds ρ' → Fr as H H' → NewO as H p → EnR K J (plus O p) as H' ρ' σ → H' p = some (.lst ys) → DqAll K (hq (plus O p) as H') ys ds → Q (.ref p) H') : spNG K m e F vs H Q E0 := by
  refine ⟨hv, _, adrs as xs, H.st, r, _, call_in E fit ar nd, by rw [fit.len, hm], f, fun d out p ys H' pr fr hp1 bk hp2 dv => ?_⟩
  obtain ⟨fr', E', hid⟩ := call_backX E ar nd fr hp1 (by rw [hp2]; exact Option.some_ne_none _) bk
  exact k d _ p ys H' pr fr' (hp1.imp id adrs_sub) E' hp2 (dv.mono (hp_less hid))
def fCallW (m : Nat) (F : FM) (dv : List PyData) (a : FC) : FA := fun ρ P => a ρ fun xs ρ1 => xs.length + dv.length = m ∧ (ownIx xs).Nodup ∧ argF ρ1 xs fun r => F (r ++ dv.map .fz) fun d out => P d (wb ρ1 xs out)
theorem rn_call {m : Nat} {F : FM} {dvs : List V} {dv : List PyData} {E0 : XK} {t : TA} {f : FC} (hd : ∀ H, DqAll K H dvs dv) (ha : RC K J t f) : RN K J (tCall (spN K m F) dvs E0 t) (fCallW m F dv f) := by
  intro O as σ H Q ρ P E q k
  refine ha O as σ H _ ρ _ E q fun xs ρ1 vs H1 q1 f1 E1 d1 => ?_
  obtain ⟨hm, nd, q1⟩ := q1
  obtain ⟨r, fit, q1⟩ := argF_of q1
  refine call_coreN (xs := xs ++ dv.map .dat) E1 (fit.app (fits_dat dv)) (d1.app (dat_ars (hd _))).toT (by rw [List.length_append, d1.len, (hd H1).length]; exact hm) (by rw [List.length_append, List.length_map]; exact hm) (by rw [ownIx_app]; exact nd) ?_ fun ds ρ' p ys H' pr fr hp1 E' hp2 q' => k ds ρ' p ys H' pr (f1.trans fr) (none_back f1 hp1) E' hp2 q'
  simp only [wb_app]
  exact q1
/-- the same, handed the store, too -/
def fCallWS (sx m : Nat) (F : FM) (dv : List PyData) (a : FC) : FA := fun ρ P => a ρ fun xs ρ1 => xs.length + dv.length = m ∧ (ownIx xs ++ [sx]).Nodup ∧ argF ρ1 xs fun r => match ρ1[sx]? with
  | some (.st S) => F (r ++ dv.map .fz ++ [.st S]) fun d out => P d ((wb ρ1 xs out).set sx ((out.drop m).headD .no))
  | _ => False
def fCallNW (F : FM) (n m : Nat) (gD : List PyData → List PyData → List PyData) (f fk : FA) : FA := fun ρ P => f ρ fun ds ρ1 => fk ρ1 fun es ρ2 => ds.length = n ∧ es.length = m ∧ F ((gD ds es).map .fz) fun d _ => P d ρ2
/-! built-in calls and operators that make a new list -/
def RBN (K : PySem.W.Frag) (r : List V → Hp → VK → Prop) (g : List PyData → (List PyData → Prop) → Prop) : Prop := ∀ (A : Addr → Prop) (H : Hp) (Q : VK) (xs : List V) (ds : List PyData) (P : List PyData → Prop),
  DqAll K (hp A H) xs ds → g ds P → (∀ es p ys, P es → H p = none → DqAll K (hp A H) ys es → Q (.ref p) (upd H p (.lst ys))) → r xs H Q
theorem new_step {O : Addr → Prop} {as : As} {H H1 : Hs} {ρ1 : En} {σ : L2.St} {p : Addr} {ys : List V} {es : List PyData} {P : List PyData → En → Prop} {Q : VK} (f1 : Fr as H H1) (E1 : EnR K J O as H1 ρ1 σ) (q : P es ρ1) (hp1 : H1 p = none) (d : DqAll K (hq O as H1) ys es)
    (k : ∀ ds ρ' p xs H', P ds ρ' → Fr as H H' → NewO as H p → EnR K J (plus O p) as H' ρ' σ → H' p = some (.lst xs) → DqAll K (hq (plus O p) as H') xs ds → Q (.ref p) H') : Q (.ref p) (H1.w (upd H1 p (.lst ys))) := by
  obtain ⟨E2, s2⟩ := E1.addO (o := .lst ys) hp1
  exact k _ _ _ _ _ q (f1.trans (E1.frS (Same.new hp1))) (none_back f1 (.inl hp1)) E2 upd_same (d.mono s2)
def fCBN (g : List PyData → (List PyData → Prop) → Prop) (a : FA) : FA := fun ρ P => a ρ fun ds ρ1 => g ds fun es => P es ρ1
theorem rn_cb {r : List V → Hp → VK → Prop} {g : List PyData → (List PyData → Prop) → Prop} {t : TA} {f : FA} (hr : RBN K r g) (ha : RA K J t f) : RN K J (tCB r t) (fCBN g f) := by
  intro O as σ H Q ρ P E q k
  refine ha O as σ H _ ρ _ E q fun ds ρ1 vs H1 q1 f1 E1 d1 => ?_
  exact hr (Hid O as H1) H1 _ vs ds _ d1 q1 fun es p ys pr hp1 d => new_step f1 E1 pr hp1 d k
def nList (ds : List PyData) (P : List PyData → Prop) : Prop := one ds fun d => seqF d P
theorem rbn_list : RBN K (fun xs H Q => ∃ p ys, xs = [.ref p] ∧ (SqL K H p ys ∨ SqT K H p ys) ∧ ∀ l, H l = none → Q (.ref l) (upd H l (.lst ys))) nList := by
  intro A H Q xs ds P r g k
  obtain ⟨v, d, rfl, q, g⟩ := one_of r g
  obtain ⟨p, ys, es, rfl, s, r, g⟩ := seqF_of q g
  exact ⟨p, ys, rfl, s, fun l hl => k _ _ _ g hl r⟩
def nSortI (ds : List PyData) (P : List PyData → Prop) : Prop := one ds fun d => listF d fun es => intsF es fun ns => ∀ ms : List Int, ms.Perm ns → ms.Pairwise (· ≤ ·) → P (ms.map .int)
def nSortS (ds : List PyData) (P : List PyData → Prop) : Prop := one ds fun d => listF d fun es => strsF es fun ns => ns.length < 64 ∧ ∀ ms : List Str, ms.Perm ns → sortedS ms = true → P (ms.map .str)
def RRN (K : PySem.W.Frag) (r : R2) (g : PyData → PyData → (List PyData → Prop) → Prop) : Prop := ∀ (A : Addr → Prop) (H : Hp) (Q : VK) (x y : V) (a b : PyData) (P : List PyData → Prop),
  Dq K (hp A H) x a → Dq K (hp A H) y b → g a b P → (∀ es p ys, P es → H p = none → DqAll K (hp A H) ys es → Q (.ref p) (upd H p (.lst ys))) → r x y H Q
def fOpN (g : PyData → PyData → (List PyData → Prop) → Prop) (a b : FE) : FA := fun ρ P => a ρ fun x ρ1 => b ρ1 fun y ρ2 => g x y fun es => P es ρ2
theorem rn_op {r : R2} {g : PyData → PyData → (List PyData → Prop) → Prop} {ta tb : TE} {fa fb : FE} (hr : RRN K r g) (ha : RE K J ta fa) (hb : RE K J tb fb) : RN K J (tOp r ta tb) (fOpN g fa fb) := by
  intro O as σ H Q ρ P E q k
  refine ha O as σ H _ ρ _ E q fun a ρ1 x H1 q1 f1 E1 d1 => ?_
  refine hb O as σ H1 _ ρ1 _ E1 q1 fun b ρ2 y H2 q2 f2 E2 d2 => ?_
  exact hr (Hid O as H2) H2 _ x y a b _ (d1.fr f2) d2 q2 fun es p ys pr hp1 d => new_step (f1.trans f2) E2 pr hp1 d k
def nCat : PyData → PyData → (List PyData → Prop) → Prop := fun a b P => match a, b with
  | .list xs, .list ys => xs.length + ys.length ≤ sizeLine ∧ P (xs ++ ys)
  | _, _ => False
theorem rrn_cat : RRN K (rCatK K) nCat := by
  intro A H Q x y a b P da db g k
  unfold nCat at g
  split at g
  · obtain ⟨p, xs, rfl, s, r⟩ := da.list_of
    obtain ⟨p', xs', rfl, s', r'⟩ := db.list_of
    exact ⟨p, p', xs, xs', rfl, rfl, SqL.mono hp_same s, SqL.mono hp_same s', by rw [r.length, r'.length]; exact g.1, fun l hl => k _ _ _ g.2 hl (r.append r')⟩
  · exact g.elim
theorem own_out {O : Addr → Prop} {as : As} {H : Hs} {ρ : En} {σ : L2.St} {p : Addr} {xs : List V} (E : EnR K J (plus O p) as H ρ σ) (e : H p = some (.lst xs)) : ¬ Own as H p := E.newp e
/-- [..] * k, the list being written there -/
def fRep (a : FA) (b : FE) : FA := fun ρ P => a ρ fun ds ρ1 => b ρ1 fun y ρ2 => intF y fun k => -(2 ^ 63) ≤ k ∧ k < 2 ^ 63 ∧ ds.length * k.toNat ≤ sizeLine ∧ P (List.replicate k.toNat ds).flatten ρ2
theorem rn_rep {ta tb : TE} {a : FA} {b : FE} (ha : RN K J ta a) (hb : RE K J tb b) : RN K J (tOp rRep ta tb) (fRep a b) := by
  intro O as σ H Q ρ P E q k
  refine ha O as σ H _ ρ _ E q fun ds ρ1 p xs H1 q1 f1 hp1 E1 hp2 d1 => ?_
  refine hb (plus O p) as σ H1 _ ρ1 _ E1 q1 fun y ρ2 v H2 q2 f2 E2 d2 => ?_
  unfold intF at q2
  split at q2
  · cases d2
    refine ⟨p, _, xs, rfl, rfl, f2.fr _ _ (own_out E1 hp2) hp2, q2.1, q2.2.1, by rw [d1.length]; exact q2.2.2.1, fun l hl => ?_⟩
    have E3 := E2.lessO E.inq
    exact new_step (f1.trans f2) E3 q2.2.2.2 hl (((d1.fr f2).mono (hp_less fun _ => hid_plus)).rep _) k
  · exact q2.elim
def fSlN (a : FE) (lo hi : FO) : FA := fun ρ P => a ρ fun x ρ1 => lo ρ1 fun l ρ2 => hi ρ2 fun u ρ3 => listF x fun ds => P (cutD ds l u) ρ3
/-- xs[::-1] -/
def fRev (a : FE) : FA := fun ρ P => a ρ fun x ρ1 => listF x fun ds => P ds.reverse ρ1
/-! own lists changed by methods -/
/-- own.pop(k), its value -/
def fPopAt (i : Nat) (a : FE) : FE := fun ρ P => ownF ρ i fun _ => a ρ fun x ρ1 => intF x fun k => ownF ρ1 i fun ds => -(2 ^ 63) ≤ k ∧ k < 2 ^ 63 ∧ ∃ j d, seqIndex? k ds.length = some j ∧ ds[j]? = some d ∧ P d (ρ1.set i (.own (ds.eraseIdx j)))
theorem DqAll.erase {G : Hp} : ∀ {v : List V} {d : List PyData} (m : Nat), DqAll K G v d → DqAll K G (v.eraseIdx m) (d.eraseIdx m)
  | _, _, _, .nil => .nil
  | _, _, 0, .cons _ b => b
  | _, _, m + 1, .cons a b => .cons a (DqAll.erase m b)
/-- own.pop(), its value -/
def fPop (i : Nat) : FE := fun ρ P => ownF ρ i fun ds => ∃ d, ds[ds.length - 1]? = some d ∧ P d (ρ.set i (.own ds.dropLast))
theorem DqAll.last {G : Hp} {v : List V} {d : List PyData} (h : DqAll K G v d) : DqAll K G v.dropLast d.dropLast := by
  rw [List.dropLast_eq_take, List.dropLast_eq_take, h.length]
  exact h.take _
/-- own.insert(k, e) -/
def fInsert (i : Nat) (a b : FE) : FS := fun E ρ => ownF ρ i fun _ => a ρ fun x ρ1 => intF x fun k => b ρ1 fun d ρ2 => ownF ρ2 i fun ds => ds.length < sizeLine ∧ 0 ≤ k ∧ k < 2 ^ 63 ∧ E.nx (ρ2.set i (.own (ds.take k.toNat ++ [d] ++ ds.drop k.toNat)))
/-- own.extend(e), e being a list that is made there -/
def fExtend (i : Nat) (a : FA) : FS := fun E ρ => ownF ρ i fun _ => a ρ fun es ρ1 => ownF ρ1 i fun ds => ds.length + es.length ≤ sizeLine ∧ E.nx (ρ1.set i (.own (ds ++ es)))
/-- own.reverse() -/
def fReverse (i : Nat) : FS := fun E ρ => ownF ρ i fun ds => E.nx (ρ.set i (.own ds.reverse))
/-! isinstance(x, (list, tuple)) -/
def fIsiLT (a : FE) : FE := fun ρ P => a ρ fun d ρ1 => isObjD d = false ∧ ∃ b c, kitB (kindD d) "list" = some b ∧ kitB (kindD d) "tuple" = some c ∧ P (.bool (b || c)) ρ1
/-! the greatest of three -/
def bMax3 (ds : List PyData) (P : PyData → Prop) : Prop := match ds with
  | [.int i, .int j, .int k] => P (.int (max3 i j k))
  | _ => False
/-! the law's own likeness -/
def F__law_same : FN := fun sls P => match sls with
  | [.fz a, .fz b] => a = b ∧ SeqAt.shaped a = true ∧ a.depth < 8 ∧ nodes a ≤ 1000000 ∧ ∀ sl, P (.bool true) sl
  | _ => False
def spSame (K : PySem.W.Frag) (n : Nat) : Sp := fun vs H Q _ => ∃ (v1 v2 : V) (d : PyData), vs = [v1, v2] ∧ Dp K H v1 d ∧ Dp K H v2 d ∧ SeqAt.shaped d = true ∧ d.depth < n ∧ nodes d ≤ 1000000 ∧ ∀ H', Same H H' → Q (.bl true) H'
theorem same_of {vs : List V} {H : Hp} {Q : VK} {E : XK} (h : spF K 2 F__law_same vs H Q E) : spSame K 8 vs H Q E := by
  obtain ⟨hv, O, as, S, ρ, P, R, hl, hF, q⟩ := h
  match vs, hv with
  | [v0, v1], _ =>
    have hl : ρ.length = 2 := hl
    match ρ, hl with
    | [s0, s1], _ =>
      unfold F__law_same at hF
      split at hF
      · next a b e =>
        injection e with e1 e2
        injection e2 with e2 _
        subst e1
        subst e2
        obtain ⟨rfl, sh, dp, nd, hP⟩ := hF
        obtain ⟨v, y1, y2, y3⟩ := R.fz_at (i := 0) rfl
        obtain ⟨w, z1, z2, z3⟩ := R.fz_at (i := 1) rfl
        cases y1
        cases z1
        have no : ∀ i a, as i = some a → False := fun i a ha => by
          have hi := R.bnd i a ha
          match i, hi, ha with
          | 0, _, ha => rw [y2] at ha; cases ha
          | 1, _, ha => rw [z2] at ha; cases ha
        refine ⟨_, _, a, rfl, Dp.mono hp_same (y3.dp (plain_of sh)), Dp.mono hp_same (z3.dp (plain_of sh)), sh, dp, nd, fun H' s => ?_⟩
        exact q _ _ _ ⟨H', S⟩ (hP []) (R.frS s) ⟨R.tab.ext s, fun i a ha => (no i a ha).elim, fun i _ a _ _ ha => (no i a ha).elim, fun i a _ ha => (no i a ha).elim⟩ (.bl _)
      · exact hF.elim
end
end DL
/-! own exceptions over a built-in one whose __new__ is that of a class above it (KeyError) -/
namespace XBO
open PySem PySem.Spec PyProof.Rows PySem.HandSPX
structure ExcBO (B O newId initId : String) (bm : List Value) : Prop where
  ends : newId.endsWith ".__new__" = true
  owner : newId.dropRight 8 = O
  entry : entryFor table newId = some Builtin.«BaseException.__new__»
  quiet : newId.startsWith "lifetime." = false
  init : Slot B "__init__" initId
  initEntry : entryFor table initId = some Builtin.«BaseException.__init__»
  initSplit : splitId initId = some (B, "__init__")
  initKind : builtinKind initId = some .slot
  initRow : Manifest.signature? initId = some ⟨.positional, "*", B, .self, [⟨"args", .varPos, false⟩]⟩
  noStar : (B != "*") = true
  noStarO : (O != "*") = true
  newSplit : splitId newId = some (O, "__new__")
  newKind : builtinKind newId = some .builtinFn
  newRow : Manifest.signature? newId = some ⟨.any, O, O, .cls, [⟨"args", .varPos, false⟩, ⟨"kwargs", .varKw, false⟩]⟩
  mroIs : mroOf (.type B) = pure bm
  hasB : bm.contains (.type B) = true
  hasO : bm.contains (.type O) = true
  hasBase : bm.contains (.type "BaseException") = true
  noAttr : bm.contains (.type "AttributeError") = false
  noName : bm.contains (.type "NameError") = false
  canon : Manifest.canonical newId = Manifest.canonical "BaseException.__new__"
theorem ExcBO.of {B newId initId : String} {bm : List Value} (F : ExcBaseFacts B newId initId bm) : ExcBO B B newId initId bm :=
  ⟨F.ends, F.owner, F.entry, F.quiet, F.init, F.initEntry, F.initSplit, F.initKind, F.initRow, F.noStar, F.noStar, F.newSplit, F.newKind, F.newRow, F.mroIs, F.hasB, F.hasB, F.hasBase, F.noAttr, F.noName, F.canon⟩
theorem bo_KeyError : ExcBO "KeyError" "LookupError" "LookupError.__new__" "KeyError.__init__" [.type "KeyError", .type "LookupError", .type "Exception", .type "BaseException", .type "object"] where
  ends := by decide +kernel
  owner := by decide +kernel
  entry := excClass_KeyError.newEntry
  quiet := by decide +kernel
  init := .of (owner := "KeyError") (n := "__init__") (by rw [typeLookup_type, builtinLookup_eq_fast]; kernel_rfl) (by decide +kernel) (by decide +kernel) (by decide +kernel)
    (by first | exact .inl (by decide +kernel) | exact .inr (by decide +kernel)) (by rw [isSubtype_type]; kernel_rfl)
  initEntry := excClass_KeyError.initEntry
  initSplit := by kernel_rfl
  initKind := by kernel_rfl
  initRow := by kernel_rfl
  noStar := by decide +kernel
  noStarO := by decide +kernel
  newSplit := by kernel_rfl
  newKind := by kernel_rfl
  newRow := by kernel_rfl
  mroIs := by rw [mroOf_type]; kernel_rfl
  hasB := by decide +kernel
  hasO := by decide +kernel
  hasBase := by decide +kernel
  noAttr := by decide +kernel
  noName := by decide +kernel
  canon := by decide +kernel
theorem store_KeyError : StoreFacts "KeyError" [.type "KeyError", .type "LookupError", .type "Exception", .type "BaseException", .type "object"] "object.__setattr__" "object" where
  mro := by kernel_rfl
  slot := .of (owner := "object") (n := "__setattr__") (by rw [typeLookup_type, builtinLookup_eq_fast]; kernel_rfl) (by decide +kernel) (by decide +kernel) (by decide +kernel)
    (by first | exact .inl (by decide +kernel) | exact .inr (by decide +kernel)) (by rw [isSubtype_type]; kernel_rfl)
  entry := PySem.F.store_LookupError.entry
  kind := by decide +kernel
  split := by decide +kernel
  hasOwner := by decide +kernel
  args := fun a b c => by unfold argsOk; kernel_rfl
  passes := fun self => by kernel_rfl
section
variable {M : Model} {A : Around} {E : Value → Shared → Prop} {h : Heap} {g : Array GenState} {d : Drawn} {t : Nat} {os : OsState}
variable {nm q : Str} {C N : Addr} {bs bm bmB : List Value} {hdct : Bool} {sn : List Str} {sub : List Value} {ab : Bool} {col : Option Bool} {dd : Option Addr} {k0 k1 k2 k3 k5 : Option Value} {B O newId initId : String}
theorem check_new_own (F : ExcBO B O newId initId bmB) (hT : ∀ X : String, bm.contains (.type X) = bmB.contains (.type X)) {rest : List Value} {Q : Unit → Shared → Prop}
    (hC : h.get? C = some (excClassObj nm q C N bs bm hdct sn sub ab col dd k0 k1 k2 k3 k5 newId)) (hq : Q () ⟨h, g, d, t, os⟩) : wpAny M A (checkBuiltinCall newId ⟨.ref C :: rest, []⟩) Q E ⟨h, g, d, t, os⟩ := by
  have hcont : (Value.ref C :: bm).contains (.type O) = true := by rw [List.contains_cons, hT, F.hasO, Bool.or_true]
  have hstar := F.noStarO
  simp only [checkBuiltinCall, F.newKind, F.newSplit, F.newRow]
  repeat (first | refine wpAny_loadPart_at hC ?_ | (refine wpAny_isSubtype_exc hC ?_; rw [hcont]) | refine wpAny_staticBase_exc hC ?_ | refine wpAny_madeBy_exc hC ?_ | simp only [bne_self_eq_false, Bool.false_eq_true, if_false] | wp_step)
  exact hq
theorem check_init_own (F : ExcBO B O newId initId bmB) (hT : ∀ X : String, bm.contains (.type X) = bmB.contains (.type X)) {e : Addr} {oe : Obj} {rest : List Value} {Q : Unit → Shared → Prop}
    (hC : h.get? C = some (excClassObj nm q C N bs bm hdct sn sub ab col dd k0 k1 k2 k3 k5 newId)) (he : h.get? e = some oe) (hcls : oe.cls = .ref C) (hq : Q () ⟨h, g, d, t, os⟩) :
    wpAny M A (checkBuiltinCall initId ⟨.ref e :: rest, []⟩) Q E ⟨h, g, d, t, os⟩ := by
  have hcB : (Value.ref C :: bm).contains (.type B) = true := by rw [List.contains_cons, hT, F.hasB, Bool.or_true]
  have hshort := F.noStar
  simp only [checkBuiltinCall, F.initKind, F.initSplit, F.initRow]
  repeat (first | (with_reducible refine wpAny_loadPart_at he ?_; rw [hcls]) | with_reducible refine wpAny_loadPart_at hC ?_ | (with_reducible refine wpAny_isSubtype_exc hC ?_; rw [hcB]) | wp_step)
  refine wpAny_onRaise ?_
  rw [show ∀ (a b : String) (n : Nat), Bind.check ⟨.positional, "*", B, .self, [⟨"args", .varPos, false⟩]⟩ a b n (List.map (fun x => x.fst) ({ pos := Value.ref e :: rest } : Args).kw) = pure () from
    fun a b n => check_star_args _ _ _ _ _ _]
  exact wpAny_pure hq
end
section
variable {prog : Program} {w : World} {A : Around} {E : Value → Shared → Prop} {R : Result → Shared → Prop} {h : Heap} {g : Array GenState} {d : Drawn} {t : Nat} {os : OsState}
variable {nm q : Str} {C N : Addr} {bs bm bmB : List Value} {hdct : Bool} {sn : List Str} {sub : List Value} {ab : Bool} {col : Option Bool} {dd : Option Addr} {k0 k1 k2 k3 k5 : Option Value} {B O newId initId : String}
theorem new_own (F : ExcBO B O newId initId bmB) (hT : ∀ X : String, bm.contains (.type X) = bmB.contains (.type X)) {rest : List Value}
    (hC : h.get? C = some (excClassObj nm q C N bs bm hdct sn sub ab col dd k0 k1 k2 k3 k5 newId))
    (hq : R (.ok (.ret (.ref (h.objs.size + 1)))) ⟨(h.push { cls := .type "tuple", data := .seq rest.toArray }).push
      { cls := .ref C, data := .fields #[.ref h.objs.size, .none, .none, .none, .bool false, .none] }, g, d, t, os⟩) (hrest : rest.length ≤ sizeLine) :
    codeAny (model prog w) A (.builtin newId ⟨.ref C :: rest, []⟩) R ⟨h, g, d, t, os⟩ := by
  have hends := F.ends
  have hcB : (Value.ref C :: bm).contains (.type O) = true := by rw [List.contains_cons, hT, F.hasO, Bool.or_true]
  have hcA : (Value.ref C :: bm).contains (.type "AttributeError") = false := by rw [List.contains_cons, hT, F.noAttr]; rfl
  have hcN : (Value.ref C :: bm).contains (.type "NameError") = false := by rw [List.contains_cons, hT, F.noName]; rfl
  refine codeAny_builtinAt F.entry ?_
  unfold Builtin.«BaseException.__new__»
  refine PySem.wpAt_bind ?_
  show PySem.wpAt _ _ _ (stack >>= _) _ _ _
  refine PySem.wpAt_bind (PySem.wpAt_stack fun p below => PySem.wpAt_of_wpAny ?_)
  wp_walk
  refine PySem.wpAt_of_wpAny ?_
  rw [F.owner]
  repeat (first | with_reducible refine wpAny_madeHere_exc F.canon hC ?_ | with_reducible refine wpAny_loadPart_at hC ?_ | (with_reducible refine wpAny_isSubtype_exc hC ?_; first | rw [hcB] | rw [hcA] | rw [hcN]) | wp_step)
  show R _ _
  rw [Heap.size_push]
  exact hq
theorem type_call_own (F : ExcBO B O newId initId bmB) (hT : ∀ X : String, bm.contains (.type X) = bmB.contains (.type X)) {rest : List Value} {fI : Addr} {Q : Fin → Shared → Prop}
    (hC : h.get? C = some (excClassObj nm q C N bs bm hdct sn sub ab col dd k0 k1 k2 k3 k5 newId))
    (hi : W.Looks (model prog w) h (typeLookup (.ref C) "__init__") (some (.ref fI))) (hb : ∀ self, W.Looks (model prog w) h (bindSpecial (.ref fI) self) (.ref fI, [self])) (hrest : rest.length ≤ sizeLine)
    (hq : codeAny (model prog w) A (.call (.ref fI) ⟨.ref (h.objs.size + 1) :: rest, []⟩)
      (fun r s' => match r with | .ok (.ret v) => v = .none ∧ Q (.done (.ret (.ref (h.objs.size + 1)))) s' | .ok _ => False | .error e => E e s')
      ⟨(h.push (W.kdv_tup rest)).push (excO C h.objs.size), g, d, t, os⟩) :
    wpAny (model prog w) A (Builtin.«type.__call__» ⟨.ref C :: rest, []⟩) Q E ⟨h, g, d, t, os⟩ := by
  repeat (first | with_reducible refine wpAny_loadPart_at hC ?_ | with_reducible refine wpAny_madeBy_exc hC ?_ | wp_step)
  refine codeAny_call_builtin_code (Code.quiet_builtin _ F.quiet) (check_new_own F hT hC ?_)
  refine new_own F hT hC ?_ hrest
  show wpAny _ _ _ _ _ _
  have k : ∀ b o, h.get? b = some o → ((h.push (W.kdv_tup rest)).push (excO C h.objs.size)).get? b = some o := fun b o e => Heap.get?_push_of_some _ (Heap.get?_push_of_some _ e)
  have hC₁ := k _ _ hC
  have hget : ((h.push (W.kdv_tup rest)).push (excO C h.objs.size)).get? (h.objs.size + 1) = some (excO C h.objs.size) := by heap_get
  have hcC : (Value.ref C :: bm).contains (.ref C) = true := by simp
  have i1 := hi.keeps k
  have b1 := (hb (.ref (h.objs.size + 1))).keeps k
  unfold isInstance
  repeat (first | with_reducible refine wpAny_loadPart_at hget ?_ | (with_reducible refine wpAny_isSubtype_exc hC₁ ?_; rw [hcC]) | wp_step)
  show wpAny _ _ (typeLookup (.ref C) _) _ _ _
  refine i1.at ?_
  refine wpAny_holding (wpAny_bind (b1.at ?_))
  refine wpAny_bind (wpAny_call (codeAny_mono hq fun r s' z => ?_))
  rcases r with e | (v | _ | _ | _) <;> first | exact z | exact z.elim | skip
  obtain ⟨rfl, z⟩ := z
  first
    | exact wpAny_pure (wpAny_pure z)
    | (wp_walk; exact z)
theorem call_own (F : ExcBO B O newId initId bmB) (hT : ∀ X : String, bm.contains (.type X) = bmB.contains (.type X)) {rest : List Value} {fI : Addr}
    (hC : h.get? C = some (excClassObj nm q C N bs bm hdct sn sub ab col dd k0 k1 k2 k3 k5 newId))
    (hi : W.Looks (model prog w) h (typeLookup (.ref C) "__init__") (some (.ref fI))) (hb : ∀ self, W.Looks (model prog w) h (bindSpecial (.ref fI) self) (.ref fI, [self])) (hrest : rest.length ≤ sizeLine)
    (hq : codeAny (model prog w) (A.under (.builtin "type.__call__" ⟨.ref C :: rest, []⟩)) (.call (.ref fI) ⟨.ref (h.objs.size + 1) :: rest, []⟩) (W.InitBack (h.objs.size + 1) R)
      ⟨(h.push (W.kdv_tup rest)).push (excO C h.objs.size), g, d, t, os⟩) :
    codeAny (model prog w) A (.call (.ref C) ⟨rest, []⟩) R ⟨h, g, d, t, os⟩ := by
  have f1 := tc_lookup
  have f2 := tc_bind (.ref C)
  have hTy : (⟨h, g, d, t, os⟩ : Shared).TypeIs (.ref C) "type" := ⟨_, hC, rfl⟩
  refine codeAny_of_tree ?_
  show wpAny _ _ (callAny (.ref C) _) _ _ _
  repeat (any_goals (first | assumption | with_reducible refine wpAny_loadPart_at hC ?_ | wp_step))
  refine ⟨rfl, ?_⟩
  refine codeAny_call_builtin_at (Code.quiet_builtin _ (by decide +kernel)) entry_typeCall (wpAny_check_type_call_sub hC (type_call_own F hT hC hi hb hrest ?_))
  refine codeAny_mono hq fun r s' z => ?_
  rcases r with e | (v | _ | _ | _) <;> exact z
theorem init_base (F : ExcBO B O newId initId bmB) (hT : ∀ X : String, bm.contains (.type X) = bmB.contains (.type X)) {e t0 : Addr} {rest : List Value}
    (hC : h.get? C = some (excClassObj nm q C N bs bm hdct sn sub ab col dd k0 k1 k2 k3 k5 newId)) (he : h.get? e = some (excO C t0)) (hrest : rest.length ≤ sizeLine)
    (hq : ∀ h' t1, (∀ b o, b ≠ e → h.get? b = some o → h'.get? b = some o) → h'.get? e = some (excO C t1) → R (.ok (.ret .none)) ⟨h', g, d, t, os⟩) :
    codeAny (model prog w) A (.call (.builtin initId) ⟨.ref e :: rest, []⟩) R ⟨h, g, d, t, os⟩ := by
  refine codeAny_call_builtin F.init.plain F.initEntry (check_init_own F hT hC he rfl ?_)
  wp_walk
  refine hq _ h.objs.size (fun b o hb ho => ?_) ?_
  · rw [Heap.get?_update_other _ _ (Ne.symm hb)]
    exact Heap.get?_push_of_some _ ho
  · rw [Heap.get?_update_self _ (Heap.get?_push_of_some _ he) rfl]
    rfl
end
end XBO
/-! exceptions of own classes over any built-in one: made, raised, called for; those of __init__ -/
namespace DL
open PySem L2 Z PySem.Spec PyProof.Rows
variable [Tbs]
section
open Builtin Builtin.ObjectAttr
variable {prog : Program} {w : World} {A : Around} {E : Value → Shared → Prop} {R : Result → Shared → Prop} {hh : Heap} {g : Array GenState} {d : Drawn} {t : Nat} {os : OsState}
/-- what is known of an own exception's class C over B -/
structure OxB (K : PySem.W.Frag) (C : Addr) (B nI iI : String) (bm : List Value) : Prop where
  fb : ∃ O, XBO.ExcBO B O nI iI bm
  st : StoreFacts B bm "object.__setattr__" "object"
  ci : PySem.W.excInitIn K C bm nI = true
  co : PySem.W.excOver K C bm = true
  hd : PySem.W.hasDictIn K C = true
  sa : PySem.W.findIn K (.ref C) "__setattr__" = some (some (.builtin "object.__setattr__"))
  exC : PySem.W.subIn K (.ref C) (.type "BaseException") = some true
  tyC : PySem.W.typeIn K (.ref C) = some (.type "type")
  kC : PySem.W.keepIn K (.ref C) = true
  nw : PySem.W.findIn K (.ref C) "what" = some none
/-- the first field of an exception -/
theorem ox_set {K : PySem.W.Frag} {tk : Tok} {v : Value} {x C : Addr} {fv : Array Value} {B nI iI : String} {bm : List Value} (T : OxB K C B nI iI bm) (X : K.In hh) (hx : hh.get? x = some ({ cls := .ref C, data := .fields fv } : Obj))
    (hq : ∀ h' tk' dx, (∀ b o, b ≠ x → hh.get? b = some o → h'.get? b = some o) → hh.objs.size ≤ dx → dx ≠ x → h'.get? x = some ({ cls := .ref C, dict := some dx, data := .fields fv } : Obj) →
      h'.Ns1 dx (fun y => if y = "what" then some v else none) → R (.ok (.ret .none)) ⟨h', g, d, tk', os⟩) :
    codeAny (model prog w) A (.call (.builtin "object.__setattr__") ⟨[.ref x, .str "what" tk, v], []⟩) R ⟨hh, g, d, t, os⟩ := by
  have lx : x ≠ hh.objs.size := Nat.ne_of_lt (Heap.lt_size hx)
  refine PySem.W.osa_openX (od := none) T.st X ⟨hx, rfl, rfl, trivial⟩ T.co (by unfold PySem.W.takerIn; rw [T.nw]; rfl) fun b => ?_
  obtain ⟨cd, hcd, hdc⟩ := PySem.W.any_some T.hd
  have lk : PySem.W.Looks (model prog w) hh (classData C) cd := PySem.W.looks_clsIn X hcd
  obtain ⟨nm, bs, mro, ns, qn, hd, sn, sb, ab, col, del⟩ := cd
  have hdc' : hd = true := hdc
  subst hdc'
  unfold storeInOwnDict ownDictForStores
  repeat (first
    | with_reducible refine HandSPX.store_in_new ?_ ?_
    | with_reducible refine wpAny_loadPart_at hx ?_
    | with_reducible refine lk.at ?_
    | wp_step)
  · refine ⟨_, #[], _, (Heap.get?_update_ne _ _ _ _ lx.symm).trans (Heap.get?_push_at rfl rfl), rfl, fun e he => ?_, fun _ => rfl⟩
    simp at he
  · intro h' tk' hn' hs
    have e1 : (hh.push ({ cls := .type "dict", data := .dict #[] } : Obj)).get? x = some ({ cls := .ref C, data := .fields fv } : Obj) := Heap.get?_push_of_some _ hx
    refine hq h' tk' _ (fun b o nb ho => ?_) (Nat.le_refl _) lx.symm ?_ hn'
    · rw [hs.2 b (Nat.ne_of_lt (Heap.lt_size ho)), Heap.get?_update_ne _ _ _ _ nb]
      exact Heap.get?_push_of_some _ ho
    · rw [hs.2 x lx]
      exact Heap.get?_update_self _ e1 rfl
end
section
variable {X : Cx} {pins : List (Addr × Obj)} {σ : L2.St} {H : Hp} {s : Shared} {a C : Addr} {y : V} {u : Value} {E : Value → Shared → Prop} {A : Around} {B nI iI : String} {bm : List Value}
/-- self.what = y -/
theorem ox_put {Q : Unit → Shared → Prop} (T : OxB X.K C B nI iI bm) (I : Inv X pins σ H s) (e : H a = some (exo a C none)) (ry : RelV y u)
    (h : ∀ dx s', H dx = none → dx ≠ a → Inv X pins σ (upd (upd H dx (exd dx [("what", y)])) a (exo a C (some dx))) s' → Q () s') : wpAny (model X.prog X.w) A (setAttr (.ref a) "what" u) Q E s := by
  obtain ⟨t1, ho⟩ := exo_at I.hok e
  obtain ⟨hh, g, d, t, os⟩ := s
  refine PySem.W.set_plain I.kIn (ox := ({ cls := .ref C, data := .fields #[.ref t1, .none, .none, .none, .bool false, .none] } : Obj)) (od := none) ⟨ho, rfl, rfl, trivial⟩ T.sa (ox_set T I.kIn ho fun h' tk' dx k dn dne hx hn => ?_)
  have fresh : H dx = none := I.hok.fresh dn
  have old : ∀ {b : Addr} {o : Obj}, hh.get? b = some o → b ≠ dx := fun q => Nat.ne_of_lt (Nat.lt_of_lt_of_le (Heap.lt_size q) dn)
  have noa : ∀ {b : Addr}, H b = none → b ≠ a := fun n z => by rw [z, e] at n; cases n
  refine h dx _ fresh dne (I.un (t' := tk') ⟨fun b o q n _ _ => k b o (noa n) q, fun b o q n _ _ => ⟨o.slots, k b o (noa n) q⟩, fun b o q n _ => (upd_ne (noa n)).trans ((upd_ne (old q)).trans n), fun b o q _ => ?_,
    fun b xs q => (upd_ne (at_ne e q exo_tup)).trans ((upd_ne (ne_of_none q fresh)).trans q), fun b o v q => (upd_ne (at_ne e q exo_frz)).trans ((upd_ne (ne_of_none q fresh)).trans q),
    fun b ps q => ⟨#[], (upd_ne (at_ne e q exo_tbl)).trans ((upd_ne (ne_of_none q fresh)).trans (by rw [q, Array.append_empty]))⟩⟩ fun b o q => ?_)
  · by_cases hb : b = a
    · exact ⟨_, by rw [hb]; exact hx⟩
    · exact ⟨o, k b o hb q⟩
  · by_cases hb : b = a
    · subst hb
      rw [upd_same] at q
      cases q
      exact exo_ok hx
    · rw [upd_ne hb] at q
      by_cases hd : b = dx
      · subst hd
        rw [upd_same] at q
        cases q
        exact exd_ok hn (relO_put (fs := []) ry fun _ => True.intro)
      · rw [upd_ne hd] at q
        refine (I.hok b o q).stay (fun c v hc z => k c v ?_ z) (fun c hc => (upd_ne (at_ne e hc exo_own)).trans ((upd_ne (ne_of_none hc fresh)).trans hc)) fun c xs hc => (upd_ne (at_ne e hc exo_tup)).trans ((upd_ne (ne_of_none hc fresh)).trans hc)
        rcases hc with rfl | hc
        · exact hb
        · exact at_ne e hc exo_own
/-- B.__init__(self, ..): nothing of it is told -/
theorem ox_init {us : List Value} {Q : Value → Shared → Prop} (T : OxB X.K C B nI iI bm) (I : Inv X pins σ H s) (e : H a = some (exo a C none)) (hl : us.length ≤ sizeLine) (h : ∀ s', Inv X pins σ H s' → Q .none s') :
    wpAny (model X.prog X.w) A (call (.builtin iI) (.ref a :: us)) Q E s := by
  obtain ⟨nm, N, qn, bs, bm', hdct, sn, sub, ab, col, dd, k0, k1, k2, k3, k5, hC, hT⟩ := PySem.W.excInit_of I.kIn T.ci
  obtain ⟨t1, ho⟩ := exo_at I.hok e
  obtain ⟨hh, g, d, t, os⟩ := s
  refine wpAny_call (XBO.init_base T.fb.choose_spec hT hC ho hl fun h' t2 k hx => h _ ?_)
  have z : upd H a (exo a C none) = H := funext fun b => by
    by_cases q : b = a
    · rw [q, upd_same, e]
    · exact upd_ne q
  have W := I.write (t' := t) (x := a) (e := a) (o := exo a C none) (by rw [e]; trivial) (.inl rfl) k ⟨_, hx⟩ (exo_ok hx)
  rwa [z] at W
end
def tBi (K : PySem.W.Frag) (B nI iI : String) (bm : List Value) (ta : TA) : TE := fun σ H Q => ta σ H fun vs H1 => ∃ (a C : Addr) (ws : List V), vs = .ref a :: ws ∧ ws.length ≤ 1000 ∧ OxB K C B nI iI bm ∧ H1 a = some (exo a C none) ∧ Q .non H1
def tOw (K : PySem.W.Frag) (to te : TE) : TS := fun D σ H => te σ H fun y H1 => to σ H1 fun x H2 => ∃ (a C : Addr) (B nI iI : String) (bm : List Value), x = .ref a ∧ OxB K C B nI iI bm ∧ H2 a = some (exo a C none) ∧
  ∀ dx, H2 dx = none → dx ≠ a → D.nx σ (upd (upd H2 dx (exd dx [("what", y)])) a (exo a C (some dx)))
section
variable {X : Cx} {o e : Expr} {es : List Expr} {to te : TE} {ta : TA} {p p' p1 p2 pos : Pos} {B nI iI : String} {bm : List Value} {b : Str}
theorem pe_bi {pl : Sem Bool} (hg : Gl X b) (hm : X.mg b = none) (hv : bootBuiltins b = some (.type B)) (hty : typeOf (.type B) = pure (.type "type")) (hf : PySem.W.findCls X.K (.type B) (.type "type") "__init__" = some (.val (.builtin iI))) (ha : PA X (e :: es) ta)
    (z1 : b ≠ "__name__" := by decide) (z2 : (b == ("__debug__" : Str)) = false := by decide) (hB : Manifest.isStub B = false := by decide +kernel) (hi : PySem.W.handedIn (.builtin iI) = true := by decide +kernel)
    (hc : eval (.Call (.Attribute (.Name b p1) "__init__" p2) (e :: es) [] pos) X.env = (do
      let ov ← eval (.Name b p1) X.env
      standAt p2.atName
      let (f, first) ← holding [ov] (getMethod ov "__init__" pl)
      callWith pos f first (backTo pos (starEach (e :: es) X.env)) (backToKw pos (keywordEach [] X.env))) := by rfl)
    (he : starEach (e :: es) X.env = (false, eval e X.env) :: starEach es X.env := by rfl) (hpl : (backTo pos (starEach es X.env)).any (·.1) = false := by rfl) :
    PE X (.Call (.Attribute (.Name b p1) "__init__" p2) (e :: es) [] pos) (tBi X.K B nI iI bm ta) := by
  refine ⟨fun pins s σ H Q I h => ?_⟩
  refine PySem.W.methodCall_KW (ld_blt I hg hm hv ?_ z1 z2) hc
  obtain ⟨m, fr⟩ := I.fr
  refine PySem.W.method_type fr I.ok.mod.kin hty hB hf hi ?_
  refine PyProof.Rows.callWith_method1 (thn (ha.run pos pins _ σ H _ (I.tok _) h) fun us s1 hh => ?_) he hpl
  obtain ⟨vs, H1, J, rs, a, C, ws, rfl, hz, T, ea, q⟩ := hh
  cases rs with
  | @cons _ u _ ur ra rr =>
    have eu : u = Value.ref a := ra
    subst eu
    exact ox_init T J ea (by rw [← Paired.length rr, sizeLine_eq]; omega) fun s' J' => ⟨.non, H1, J', rfl, q⟩
theorem ps_ow (ho : PE X o to) (he : PE X e te) (hs : swapsWith e (some (.Attribute o "what" p')) pos.line X.env = pure false := by rfl) : PS X (.Assign [.Attribute o "what" p'] e pos) (tOw X.K to te) := by
  refine ⟨fun pins s σ H D I h => plainObj_wpAny_Assign_Attribute (thn (he.run pins s σ H _ I h) fun v s1 q1 => ?_) hs⟩
  obtain ⟨y, H1, I1, r1, q1⟩ := q1
  refine thn (ho.run pins s1 σ H1 _ I1 q1) fun u s2 q2 => ?_
  obtain ⟨x, H2, I2, r2, a, C, B, nI, iI, bm, rfl, T, ea, q⟩ := q2
  have eu : u = Value.ref a := r2
  subst eu
  exact ox_put T I2 ea r1 fun dx s' n ne J => ⟨σ, _, J, q dx n ne⟩
/-- C(e), its __init__ keeping what it is told -/
def tMkB (C : Addr) (te : TE) : L2.St → Hp → XK → Prop := fun σ H Q => te σ H fun y H1 => ∀ d, H1 d = none → Q (.ref C) (some d) (upd H1 d (.xd [("what", y)]))
/-- what __init__ of such a class does -/
def spIn (K : PySem.W.Frag) (C : Addr) : Sp := fun vs H Q _ => ∃ (a : Addr) (y : V), vs = [.ref a, y] ∧ H a = some (exo a C none) ∧ ∀ dx, H dx = none → dx ≠ a → Q .non (upd (upd H dx (exd dx [("what", y)])) a (exo a C (some dx)))
theorem ox_call {C fI : Addr} {k : Nat} {fd : FuncData} {ps : List Str} {pins : List (Addr × Obj)} {σ : L2.St} {H : Hp} {s : Shared} {Q : XK} {y : V} {u : Value} (T : OxB X.K C B nI iI bm) (iC : PySem.W.findIn X.K (.ref C) "__init__" = some (some (.ref fI))) (tI : PySem.W.typeIn X.K (.ref fI) = some (.type "function"))
    (F1 : FnOk X.prog X.w X.K X.mg X.base CX0 k fI fd ps (spIn X.K C)) (hr : Room (k + 1) X.A) (hb : Binds X.K fd ps []) (I : Inv X pins σ H s) (ry : RelV y u) (q1 : ∀ d, H d = none → Q (.ref C) (some d) (upd H d (.xd [("what", y)]))) :
    wpAny (model X.prog X.w) X.A (call (.ref C) [u]) (MkP X pins σ Q) X.xe s := by
  obtain ⟨nm, N, qn, bs, bm', hdct, sn, sub, ab, col, dd, k0, k1, k2, k3, k5, hC, hT⟩ := PySem.W.excInit_of I.kIn T.ci
  obtain ⟨g0, g1, g2, g3, g4⟩ := s
  obtain ⟨z, ez⟩ : ∃ z, z = g0.objs.size + 1 := ⟨_, rfl⟩
  obtain ⟨h1, eh⟩ : ∃ h1, h1 = (g0.push (PySem.W.kdv_tup [u])).push (HandSPX.excO C g0.objs.size) := ⟨_, rfl⟩
  have big : g0.objs.size ≤ z := by rw [ez]; exact Nat.le_succ _
  have fresh : H z = none := I.hok.fresh big
  have kk : ∀ b o, g0.get? b = some o → h1.get? b = some o := fun b o q => by rw [eh]; exact Heap.get?_push_of_some _ (Heap.get?_push_of_some _ q)
  have hx : h1.get? z = some (HandSPX.excO C g0.objs.size) := by rw [ez, eh]; heap_get
  have I2 : Inv X pins σ (upd H z (exo z C none)) ⟨h1, g1, g2, g3, g4⟩ := I.laid (t' := g3) (a := z) (o := exo z C none) (h' := h1) kk big (exo_ok hx)
  have r2 : Vals [V.ref z, y] [Value.ref z, u] := .cons rfl (.cons ry .nil)
  have sp : spIn X.K C [.ref z, y] (upd H z (exo z C none)) (fun v H2 => v = .non ∧ ∃ dx, H2 z = some (exo z C (some dx)) ∧ H2 dx = some (exd dx [("what", y)]) ∧ H dx = none ∧ Q (.ref C) (some dx) (upd (del H2 z) dx (.xd [("what", y)]))) (fun _ _ _ => False) := by
    refine ⟨_, y, rfl, upd_same, fun dx n ne => ⟨rfl, dx, upd_same, (upd_ne ne).trans upd_same, (upd_ne ne).symm.trans n, ?_⟩⟩
    have w := q1 dx ((upd_ne ne).symm.trans n)
    have eq : upd (del (upd (upd (upd H z (exo z C none)) dx (exd dx [("what", y)])) z (exo z C (some dx))) z) dx (.xd [("what", y)]) = upd H dx (.xd [("what", y)]) := funext fun b => by
      by_cases h1 : b = dx
      · rw [h1, upd_same, upd_same]
      · rw [upd_ne h1, upd_ne h1]
        by_cases h2 : b = z
        · rw [h2, del_same, fresh]
        · rw [del_ne h2, upd_ne h2, upd_ne h1, upd_ne h2]
    rw [eq]
    exact w
  have hl : ([Value.ref z, u] ++ []).length = ps.length := by
    rw [List.append_nil, ← r2.length]
    exact F1.len _ _ _ _ sp
  have bd := hb _ [Value.ref z, u] I2.kIn hl
  have run := F1.run _ X.stack _ _ ⟨[Value.ref z, u], []⟩ [Value.ref z, u] _ _ (fun _ _ _ => False) (hr.make C [u] []) (I2.env0.make C [u] []) bd r2 sp
  subst eh
  subst ez
  refine wpAny_call (XBO.call_own T.fb.choose_spec hT hC (PySem.W.looks_findIn I.kIn iC) (fun self => PySem.W.bind_fn I.kIn self tI) (by show 1 ≤ sizeLine; rw [sizeLine_eq]; omega) (codeAny_mono run fun r s' hq' => ?_))
  cases r with
  | error er => exact False.elim hq'
  | ok fl =>
    cases fl with
    | ret z =>
      obtain ⟨v, H2, os2, bare2, un2, hok2, rv, rfl, dx, ea, ed, hd1, q2⟩ := hq'
      obtain ⟨f0, f1, f2, f3, f4⟩ := s'
      exact ⟨rv, mk_end (raises_own T.exC T.tyC) I big kk un2 hok2 os2 bare2 ea ed hd1 q2⟩
    | _ => exact False.elim hq'
def one1 : List V → (V → Prop) → Prop
  | [y], k => k y
  | _, _ => False
theorem one1_of {vs : List V} {k : V → Prop} (h : one1 vs k) : ∃ y, vs = [y] ∧ k y := by
  unfold one1 at h
  split at h
  · exact ⟨_, rfl, h⟩
  · exact h.elim
theorem pmk_b {x : Str} {C fI : Addr} {k : Nat} {fd : FuncData} {ps : List Str} (T : OxB X.K C B nI iI bm) (iC : PySem.W.findIn X.K (.ref C) "__init__" = some (some (.ref fI))) (tI : PySem.W.typeIn X.K (.ref fI) = some (.type "function"))
    (F1 : FnOk X.prog X.w X.K X.mg X.base CX0 k fI fd ps (spIn X.K C)) (hr : Room (k + 1) X.A) (hb : Binds X.K fd ps []) (hg : Gl X x) (hm : X.mg x = some (.ref C)) (ha : PE X e te)
    (hdb : (x == ("__debug__" : Str)) = false := by decide) (he : starEach [e] X.env = (false, eval e X.env) :: starEach [] X.env := by rfl) :
    PMk X (.Call (.Name x p) [e] [] pos) (tMkB C te) := by
  intro pins s σ H Q I h
  refine wpAny_Call_Name_kw (ld_glob I hg hm ?_ hdb)
  have pa : PA X [e] (tCons te tNil) := pa_cons ha pa_nil he
  have h' : tCons te tNil σ H fun vs H1 => one1 vs fun y => ∀ d, H1 d = none → Q (.ref C) (some d) (upd H1 d (.xd [("what", y)])) := h
  refine PySem.W.callWith_K (h₀ := X.base) I.ok.mod.kin T.kC (thn (pa.run pos pins s σ H _ I h') fun us s1 hh => ?_) he
  obtain ⟨vs, H1, I1, r1, q1⟩ := hh
  obtain ⟨y, rfl, q1⟩ := one1_of q1
  cases r1 with
  | cons ry rr =>
    cases rr
    exact ⟨I1.kIn, ox_call T iC tI F1 hr hb I1 ry q1⟩
end
end DL
/-! try .. except (C, ..) as e: what is caught is kept -/
namespace DL
open PySem PySem.W
variable [Tbs]
/-- a loop that looks at each and goes on -/
theorem loop_all {M : Model} {A : Around} {E : Value → Shared → Prop} {f : Value → PUnit → Sem (ForInStep PUnit)} {s : Shared} {Q : PUnit → Shared → Prop} : ∀ {cs : List Value}, (∀ c ∈ cs, ∀ Q' : ForInStep PUnit → Shared → Prop, Q' (.yield ⟨⟩) s → wpAny M A (f c ⟨⟩) Q' E s) → Q ⟨⟩ s → wpAny M A (forIn cs ⟨⟩ f) Q E s
  | [], _, q => by rw [List.forIn_nil]; exact wpAny_pure q
  | c :: r, h, q => by
    rw [List.forIn_cons]
    exact wpAny_bind (h c List.mem_cons_self _ (loop_all (fun x hx => h x (List.mem_cons_of_mem _ hx)) q))
/-- a loop that ends at the first one -/
theorem loop_any {M : Model} {A : Around} {E : Value → Shared → Prop} {K : Frag} {cls : Value} {f : Value → Option Bool × Unit → Sem (ForInStep (Option Bool × Unit))} {s : Shared} {Q : Option Bool × Unit → Shared → Prop}
    (hf : ∀ c b, exmOne K cls c = some b → ∀ Q' : ForInStep (Option Bool × Unit) → Shared → Prop, Q' (if b = true then .done (some true, ()) else .yield (none, ())) s → wpAny M A (f c (none, ())) Q' E s) : ∀ {cs : List Value} {b : Bool}, exmAny K cls cs = some b → Q (if b = true then some true else none, ()) s → wpAny M A (forIn cs (none, ()) f) Q E s
  | [], b, e, q => by
    cases (Option.some.inj (show some false = some b from e))
    rw [List.forIn_nil]; exact wpAny_pure q
  | c :: r, b, e, q => by
    obtain ⟨b1, d1, e1, e2, rfl⟩ := exmAny_cons e
    rw [List.forIn_cons]
    refine wpAny_bind (hf c b1 e1 _ ?_)
    cases b1
    · exact loop_any hf e2 (by simpa using q)
    · exact wpAny_pure (by simpa using q)
theorem exm_mem {K : Frag} {cls : Value} : ∀ {cs : List Value} {b : Bool}, exmAny K cls cs = some b → ∀ c ∈ cs, ∃ b1, exmOne K cls c = some b1
  | [], _, _, _, h => by cases h
  | c :: r, b, e, x, h => by
    obtain ⟨b1, d1, e1, e2, _⟩ := exmAny_cons e
    rcases List.mem_cons.mp h with rfl | h
    · exact ⟨b1, e1⟩
    · exact exm_mem e2 x h
theorem exm_all {K : Frag} {M : Model} {cls : Value} {tp e : Addr} {b : Bool} {h : Heap} {cs : List Value} (X : K.In h) (LT : Looks M h (typeOf (.ref e)) cls) (hp : h.get? tp = some { cls := .type "tuple", data := .seq cs.toArray }) (hx : exmAny K cls cs = some b) :
    Looks M h (excMatches (.ref e) (.ref tp)) b := by
  intro A Q E s kk q
  have L0 : Looks M h (isInstance (.ref tp) (.type "tuple")) true := ((Looks.ld hp).andThen .now).andThen (Looks.of_pure isSubtype_tuple_tuple)
  have hp' := kk _ _ hp
  unfold excMatches
  refine wpAny_bind ((L0.keeps kk).here ?_)
  dsimp only
  rw [if_pos rfl]
  refine wpAny_bind (wpAny_seqItems hp' rfl (wpAny_bind (wpAny_pure ?_)))
  dsimp only [Option.getD_some, Option.getD]
  refine wpAny_bind (loop_all (fun c hc Q' q' => ?_) ?_)
  · obtain ⟨b1, e1⟩ := exm_mem hx c hc
    refine wpAny_bind (((exm_cls (M := M) X e1).1.keeps kk).here ?_)
    rw [if_neg (by decide)]
    exact wpAny_pure q'
  · refine wpAny_bind ((LT.keeps kk).here ?_)
    refine wpAny_bind (loop_any (K := K) (cls := cls) (fun c b1 e1 Q' q' => ?_) hx ?_)
    · refine wpAny_bind (((exm_cls (M := M) X e1).2.keeps kk).here ?_)
      cases b1
      · exact wpAny_pure q'
      · exact wpAny_pure q'
    · cases b <;> exact wpAny_pure q
end DL
namespace DL
open PySem L2 Z PySem.Spec PyProof.Rows
variable [Tbs]
/-- the classes that an except clause names -/
inductive ExT (X : Cx) : Expr → List Value → Prop
  | one {x : Str} {c : Value} {p : Pos} : Names X x c → ExT X (.Name x p) [c]
  | many {xs : List (Str × Pos × Value)} {k : Nat} {p : Pos} : (∀ q ∈ xs, Names X q.1 q.2.2) → xs.length ≤ 1000 → ExT X (.Tuple (xs.map fun q => .Name q.1 q.2.1) k p) (xs.map (·.2.2))
section
variable {X : Cx} {pins : List (Addr × Obj)} {σ : L2.St} {H : Hp} {s : Shared} {E : Value → Shared → Prop}
theorem name_run {x : Str} {c : Value} {p : Pos} {Q : Value → Shared → Prop} (I : Inv X pins σ H s) (n : Names X x c) (q : Q c s) : wpAny (model X.prog X.w) X.A (eval (.Name x p) X.env) Q E s := by
  obtain ⟨g, db, m | ⟨m, v, nn⟩⟩ := n
  · exact ld_glob I g m q db
  · exact ld_blt I g m v q nn db
theorem names_run {pos : Pos} (I : Inv X pins σ H s) : ∀ {xs : List (Str × Pos × Value)} {Q : List Value → Shared → Prop}, (∀ q ∈ xs, Names X q.1 q.2.2) → Q (xs.map (·.2.2)) s → wpAny (model X.prog X.w) X.A (spliced (backTo pos (starEach (xs.map fun q => Expr.Name q.1 q.2.1) X.env))) Q E s
  | [], Q, _, q => wpAny_items_nil q
  | z :: r, Q, h, q => wpAny_items_cons (name_run I (h z List.mem_cons_self) (names_run I (fun y hy => h y (List.mem_cons_of_mem _ hy)) q))
/-- the test of an except clause -/
theorem ExT.run {T : Expr} {cs : List Value} {a : Addr} {cls : Value} {b : Bool} {Q : Bool → Shared → Prop} (t : ExT X T cs) (I : Inv X pins σ H s) (LT : PySem.W.Looks (model X.prog X.w) s.heap (typeOf (.ref a)) cls) (e : PySem.W.exmAny X.K cls cs = some b)
    (q : ∀ h', (∀ b o, s.heap.get? b = some o → h'.get? b = some o) → Q b { s with heap := h' }) : wpAny (model X.prog X.w) X.A (eval T X.env) (fun c s₁ => wpAny (model X.prog X.w) X.A (excMatches (.ref a) c) Q E s₁) E s := by
  cases t with
  | one n =>
    obtain ⟨b1, d1, e1, e2, rfl⟩ := PySem.W.exmAny_cons e
    cases (Option.some.inj (show some false = some d1 from e2))
    rw [Bool.or_false] at q
    exact name_run I n ((PySem.W.exm_one I.kIn LT e1).here (q s.heap fun _ _ z => z))
  | @many xs kk pp n l =>
    refine wpAny_Tuple (names_run I n ⟨by rw [List.length_map, sizeLine_eq]; omega, ?_⟩)
    have kp : ∀ b o, s.heap.get? b = some o → (s.heap.push ({ cls := .type "tuple", data := .seq (xs.map (·.2.2)).toArray } : Obj)).get? b = some o := fun _ _ z => Heap.get?_push_of_some _ z
    exact (exm_all (I.kIn.keeps kp) (LT.keeps kp) (Heap.get?_push_size s.heap rfl) e).here (q _ kp)
theorem fly_keeps {B : Heap} {l : List Env} {a : Addr} {Z : Obj → Prop} {h h' : Heap} (f : HandSPX.FlyingZ B l a Z h) (k : ∀ b o, h.get? b = some o → h'.get? b = some o) : HandSPX.FlyingZ B l a Z h' := by
  obtain ⟨z1, z2, z3, oe, vs, T, oT, ts, y1, y2, y3, y4, y5, y6, y7, y8⟩ := f
  exact ⟨fun b o e => k b o (z1 b o e), z2, Heap.FunFrames.of_keeps (fun b o e _ => ⟨o, k b o e, rfl⟩) z3, oe, vs, T, oT, ts, k _ _ y1, y2, y3, y4, y5, y6, k _ _ y7, y8⟩
/-- the pinned exception, tracked from now on -/
theorem absorb {a C dx : Addr} {oe : Obj} {vs : Array Value} (I : Inv X ((a, oe) :: pins) σ H s) (ne : ∀ p ∈ X.pn ++ pins, p.1 ≠ a) (new : X.s_0.heap.get? a = none) (hz : Zc (.ref C) (some dx) oe) (hd : oe.data = .fields vs) : Inv X pins σ (upd H a (exk a C dx)) s := by
  obtain ⟨g, n, nL, nF, nc⟩ := I.pin (a, oe) (List.mem_append.mpr (.inr List.mem_cons_self))
  have na : ∀ {b : Addr} {u : HO}, H b = some u → b ≠ a := fun e => ne_of_none e n
  refine ⟨I.ok, I.os, I.bare, ⟨I.base.keep, I.base.slot, fun b o e n' x => ?_, I.base.there, fun b xs e => ?_, fun b o u e => ?_, fun b ps e => ?_⟩, I.loc, I.cell, ?_, fun x c e => ?_, fun p hp => ?_, fun b u e => ?_, I.len⟩
  · rw [upd_ne (fun z => by rw [z, new] at e; cases e)]
    exact I.base.free b o e n' x
  · have := I.base.tups b xs e
    rw [upd_ne (na this)]; exact this
  · have := I.base.frzs b o u e
    rw [upd_ne (na this)]; exact this
  · obtain ⟨more, this⟩ := I.base.tbls b ps e
    exact ⟨more, by rw [upd_ne (na this)]; exact this⟩
  · rw [upd_ne (Ne.symm nL)]; exact I.free
  · rw [upd_ne]
    · exact I.freeC x c e
    · rintro rfl
      obtain ⟨v, o, e1, e2⟩ := I.cell x _ e
      rw [g] at e1
      cases e1
      exact nc v e2
  · obtain ⟨z1, z2, z3⟩ := I.pin p (by
      rcases List.mem_append.mp hp with h | h
      · exact List.mem_append.mpr (.inl h)
      · exact List.mem_append.mpr (.inr (List.mem_cons_of_mem _ h)))
    exact ⟨z1, by rw [upd_ne (ne p hp)]; exact z2, z3⟩
  · by_cases hb : b = a
    · subst hb
      rw [upd_same] at e
      cases e
      exact ⟨⟨oe, vs, g, hz.1, hz.2, hd⟩, ⟨oe, g⟩, fun h1 h2 ⟨o, v, e1, e2⟩ k => ⟨o, v, k _ e1, e2⟩⟩
    · rw [upd_ne hb] at e
      exact (I.hok b u e).stay (fun c v _ z => z) (fun c z => by rw [upd_ne (na z)]; exact z) fun c xs z => by rw [upd_ne (na z)]; exact z
/-- what the clause 'except T as n' wishes of an exception of the body: what is caught stays -/
def wKeep (K : PySem.W.Frag) (cs : List Value) (i : Nat) (ts : Addr → TS) (Wout : WX) (D : Ends) : WX := fun cls d σ H =>
  ∃ b, PySem.W.exmAny K cls cs = some b ∧ (b = true → ∃ C dx, cls = .ref C ∧ d = some dx ∧ ∀ a, H a = none → ts a { nx := fun σ' H' => D.nx (σ'.set i none) (upd H' a (exk a C dx)), rt := fun v H' => D.rt v (upd H' a (exk a C dx)), bk := fun σ' H' => D.bk (σ'.set i none) (upd H' a (exk a C dx)), ct := fun σ' H' => D.ct (σ'.set i none) (upd H' a (exk a C dx)) } (σ.set i (some (.ref a))) H) ∧
    (b = false → Wout cls d σ H)
theorem keepSuite {a : Addr} {q : Addr × Obj} (I : Inv (X.suite a (q :: (X.pn ++ pins))) [] σ H s) (ok : X.Ok) : Inv X (q :: pins) σ H s :=
  ⟨ok, I.os, I.bare, I.base, I.loc, I.cell, I.free, I.freeC, fun p hp => I.pin p (by
    rw [List.append_nil]
    rcases List.mem_append.mp hp with h | h
    · exact List.mem_cons_of_mem _ (List.mem_append.mpr (.inl h))
    · rcases List.mem_cons.mp h with h | h
      · rw [h]; exact List.mem_cons_self
      · exact List.mem_cons_of_mem _ (List.mem_append.mpr (.inr h))), I.hok, I.len⟩
end
section
variable {X : Cx} {n : Str} {T : Expr} {cs : List Value} {i : Nat} {body suite : List Stmt} {b₀ : Stmt} {pos pos' : Pos} {tb : WX → TS} {ts : Addr → TS} {Wout : WX}
theorem ps_try_keep (hs : X.stack = X.env :: X.outer) (hf : X.env.frame = some X.env.locals) (hex : X.ex = []) (hN : X.N.Nodup) (hi : X.N[i]? = some n) (hln : X.env.kindOf n = some .local) (ht : ExT X T cs) (tk : Takes X Wout)
    (hb : ∀ (W : WX) (pn : List (Addr × Obj)) (xe : Value → Shared → Prop), Takes (X.tr pn xe) W → PassesOwn (model X.prog X.w) X.A X.env xe → PSs (X.tr pn xe) body (tb W))
    (hsu : ∀ (a : Addr) (pn : List (Addr × Obj)), PSs (X.suite a pn) (b₀ :: suite) (ts a)) :
    PS X (.Try body [.ExceptHandler (some T) (some n) (b₀ :: suite) pos'] [] [] pos) (fun D σ H => tb (wKeep X.K cs i ts Wout D) D σ H) := by
  refine ⟨fun pins s σ H D I h => wpAny_Try_except ?_⟩
  have ok := I.ok
  have hfr : X.A.frames = some (X.env :: X.outer) := hs ▸ ok.frames
  refine wpAny_mono ((hb _ (X.pn ++ pins) _ (fun u s' xx => ?_) PassesOwn.looking).run [] s σ H D (I.toTry _) h) (fun f s1 hsp => ?_) (fun e s1 he => he)
  · obtain ⟨a, B, sI, pins', σ', H', cls, d, rfl, J', nb, up, sky, na, os, ag, b, hb1, hyes, hno⟩ := xx
    have J : Inv X pins σ' H' sI := J'.ofTry ok
    rw [show (X.tr (X.pn ++ pins) _).stack = X.env :: X.outer from hs] at sky
    refine Sky.land Zc.steady hfr hf sky fun h3 fl3 up3 => ?_
    have J3 : Inv X pins σ' H' { s' with heap := h3 } := J.landed nb fl3.1 (up.trans up3) os ag
    obtain ⟨o3, v3, g3, z3, d3⟩ := fl3.there
    have out : a ∉ frs (X.env :: X.outer) := fun hm => by
      obtain ⟨_, o', e', hnf⟩ := fl3.2.2.1.mem hm
      rw [g3] at e'
      cases e'
      exact hnf _ d3
    have nL : a ≠ X.env.locals := fun z => out (List.mem_filterMap.mpr ⟨X.env, List.mem_cons_self, by rw [hf, z]⟩)
    have nF : a ∉ X.fs := fun hm => by
      obtain ⟨e, he, q⟩ := List.mem_filterMap.mp hm
      exact out (List.mem_filterMap.mpr ⟨e, List.mem_cons_of_mem _ he, q⟩)
    have inB : ∀ b o, sI.heap.get? b = some o → b ∉ frs (X.env :: X.outer) → b ≠ a := fun b o e hb z => by
      have y := nb b o e (by show b ∉ frs X.stack; rw [hs]; exact hb)
      rw [z, fl3.2.1] at y
      cases y
    have new : X.s_0.heap.get? a = none := by
      cases e : X.s_0.heap.get? a with
      | none => rfl
      | some o =>
        obtain ⟨o', e'⟩ := J.base.there a o e (by rw [hex]; exact List.not_mem_nil)
        exact absurd rfl (inB a o' e' out)
    have pne : ∀ p ∈ X.pn ++ pins, p.1 ≠ a := fun p hp => by
      obtain ⟨z1, _, z3, z4, _⟩ := J.pin p hp
      refine inB _ _ z1 fun hm => ?_
      obtain ⟨e, he, q⟩ := List.mem_filterMap.mp hm
      rcases List.mem_cons.mp he with he | he
      · rw [he, hf] at q
        exact z3 (Option.some.inj q).symm
      · exact z4 (List.mem_filterMap.mpr ⟨e, he, q⟩)
    have S3 := J3.suite g3 d3 na nL nF
    refine wpAny_handleBy_cons (codeAny_handlers_test ?_) (by intro q; cases q)
    refine ExT.run (X := X.suite a _) (by cases ht with | one n => exact .one n | many n l => exact .many n l) S3 (fun A Q E s k q => wpAny_typeOf_ref (k _ _ g3) (by rw [z3.1]; exact q)) hb1 fun h5 k5 => ?_
    have fl5 := fly_keeps fl3 k5
    have up5 : sI.heap.UpToSlots h5 := (up.trans up3).trans (Heap.UpToSlots.of_keeps k5)
    cases b with
    | true =>
      refine codeAny_handlers_suite_as (HandSPX.lands_againZ fl5 fun h4 fl4 up4 => ?_)
      obtain ⟨o4, v4, g4, z4, d4⟩ := fl4.there
      have J4 : Inv X pins σ' H' { s' with heap := h4 } := J.landed nb fl4.1 (up5.trans up4) os ag
      obtain ⟨C, dx, rfl, rfl, hy⟩ := hyes rfl
      refine store_ok (X := X.suite a ((a, o4) :: (X.pn ++ pins))) (v := .ref a) (J4.suite g4 d4 na nL nF) hN hi (.inl hln) rfl (fun s5 S5 => ?_) (.inr hln)
      refine wpAny_mono ((hsu a _).run [] s5 _ H' _ S5 (hy a na)) (fun f s6 hsp => ?_) (fun _ _ z => False.elim z)
      have fin : ∀ {σ6 : L2.St} {H6 : Hp} {Q : Shared → Prop}, Inv (X.suite a ((a, o4) :: (X.pn ++ pins))) [] σ6 H6 s6 → (∀ s7, Inv X pins (σ6.set i none) (upd H6 a (exk a C dx)) s7 → Q s7) →
          wpAny (model X.prog X.w) X.A (do bindName X.env n .none; unbindBehindTheSuite X.env n pos') (fun _ s7 => Q s7) X.xe s6 := fun S6 hq => gone_ok (keepSuite S6 ok) hN hi hln fun s7 J7 => hq s7 (absorb J7 pne new z4 d4)
      cases f with
      | ret u =>
        obtain ⟨v6, σ6, H6, S6, r6, q6⟩ := hsp
        exact fin S6 fun s7 J7 => ⟨_, _, _, J7, r6, q6⟩
      | _ =>
        obtain ⟨σ6, H6, S6, q6⟩ := hsp
        exact fin S6 fun s7 J7 => ⟨_, _, J7, q6⟩
    | false =>
      refine wpAny_handleBy_nil ?_
      obtain ⟨_, _, _, oe, vs, T0, oT, ts', he, hz, hd, h1, _⟩ := id fl5
      unfold PySem.passOn
      refine wpAny_bind (wpAny_field he hd h1 ?_)
      rw [if_neg (show ¬ ((Value.ref T0 == Value.none) = true) from by simp)]
      refine wpAny_bind ?_
      rw [hf]
      refine HandSPX.setFlight_upZ fl5 fun h4 hh4 up4 => wpAny_throw (tk _ _ ⟨a, B, sI, pins, σ', H', cls, d, rfl, J, nb, up5.trans up4, .inr (.inr ?_), na, os, ag, hno rfl⟩)
      rw [hs]
      exact hh4
  · cases f with
    | next =>
      obtain ⟨σ', H', J', q⟩ := hsp
      exact wpAny_execs_nil ⟨σ', H', J'.ofTry ok, q⟩
    | ret u =>
      obtain ⟨v, σ', H', J', r, q⟩ := hsp
      exact ⟨v, σ', H', J'.ofTry ok, r, q⟩
    | _ =>
      obtain ⟨σ', H', J', q⟩ := hsp
      exact ⟨σ', H', J'.ofTry ok, q⟩
end
end DL
/-! kept exceptions asked; what is raised, over data -/
namespace DL
open PySem L2 Z PySem.Spec PyProof.Rows
variable [Tbs]
/-- what is known of the class of a kept exception -/
structure ExK (K : PySem.W.Frag) (C : Addr) : Prop where
  cl : (PySem.W.clsIn K C).isSome = true
  ga : PySem.W.findIn K (.ref C) "__getattribute__" = some (some (.builtin "BaseException.__getattribute__"))
  gt : PySem.W.findIn K (.ref C) "__getattr__" = some none
  ex : PySem.W.subIn K (.ref C) (.type "BaseException") = some true
  ca : PySem.W.findIn K (.ref C) "__class__" = some (some (.builtin "object.__class__"))
  dg : PySem.W.specialIn K (.builtin "object.__class__") "__get__" = some (some (.builtin "getset_descriptor.__get__"))
  tk : PySem.W.takesIn K (.builtin "object.__class__") = some true
  ob : PySem.W.mroIn K C (.type "object") = some true
  hd : PySem.W.hasDictIn K C = true
  nw : PySem.W.findIn K (.ref C) "what" = some none
section
variable {X : Cx} {pins : List (Addr × Obj)} {σ : L2.St} {H : Hp} {s : Shared} {a C dx : Addr} {fv : List (Str × V)}
theorem exk_at (I : Inv X pins σ H s) (ea : H a = some (exk a C dx)) (ed : H dx = some (.xd fv)) : ∃ ox od mA, PySem.W.InstAt s.heap a ox C (some od) ∧ s.heap.Ns1 dx mA ∧ (∀ f, RelO (fv.lookup f) (mA f)) ∧ s.heap.get? dx = some od := by
  obtain ⟨⟨o, vs, e1, e2, e3, e4⟩, _⟩ := (show ObjOk X.prog X.w H s.heap a (exk a C dx) from I.hok a _ ea)
  obtain ⟨mA, hn, hr⟩ := (show ObjOk X.prog X.w H s.heap dx (.xd fv) from I.hok dx _ ed)
  obtain ⟨od, es, ep, e5, e6⟩ := id hn
  refine ⟨o, od, mA, ⟨e1, e2, ?_, ?_⟩, hn, hr, e5⟩
  · unfold PySem.W.notCls
    rw [e4] <;> rfl
  · rw [e3]
    exact e5
/-- isinstance(e, c) of a kept exception -/
def rIsX (K : PySem.W.Frag) : List V → Hp → VK → Prop := fun xs H Q => ∃ (a C dx : Addr) (fv : List (Str × V)) (c : V) (u : Value) (b : Bool), xs = [.ref a, c] ∧ ClsV c u ∧ ExK K C ∧ H a = some (exk a C dx) ∧ H dx = some (.xd fv) ∧ PySem.W.kitOne K (.ref C) u = some b ∧ Q (.bl b) H
theorem call_isX : CallR X (.builtin "isinstance") (rIsX X.K) := by
  intro pins s σ H xs us Q I r h
  obtain ⟨a, C, dx, fv, c, u, b, rfl, k, T, ea, ed, e, q⟩ := h
  obtain ⟨u1, u2, rfl, r1, r2⟩ := vals2 r
  have := k.eq r2
  subst this
  cases (show u1 = Value.ref a from r1)
  obtain ⟨ox, od, mA, J, _⟩ := exk_at I ea ed
  exact PySem.W.kia_one (PySem.W.kitx_exc T.cl T.ga T.gt T.ex T.ca T.dg T.tk T.ob) I.kIn J e (fun z => nomatch z) fun tk => ⟨.bl b, H, I.tok tk, rfl, q⟩
def rIsXT (K : PySem.W.Frag) : List V → Hp → VK → Prop := fun xs H Q => ∃ (a C dx tp : Addr) (fv : List (Str × V)) (cs : List V) (us : List Value) (b : Bool), xs = [.ref a, .ref tp] ∧ H tp = some (.tup cs) ∧ Paired ClsV cs us ∧ ExK K C ∧ H a = some (exk a C dx) ∧ H dx = some (.xd fv) ∧ PySem.W.kitAny K (.ref C) us = some b ∧ Q (.bl b) H
theorem call_isXT : CallR X (.builtin "isinstance") (rIsXT X.K) := by
  intro pins s σ H xs us Q I r h
  obtain ⟨a, C, dx, tp, fv, cs, ws, b, rfl, hT, k, T, ea, ed, e, q⟩ := h
  obtain ⟨u1, u2, rfl, r1, r2⟩ := vals2 r
  cases (show u1 = Value.ref a from r1)
  cases (show u2 = Value.ref tp from r2)
  obtain ⟨ox, od, mA, J, _⟩ := exk_at I ea ed
  obtain ⟨_, its, rv, o, h1, h2, n, h3⟩ := (show ObjOk X.prog X.w H s.heap tp (.tup cs) from I.hok tp _ hT)
  have := ClsV.all k rv
  subst this
  obtain ⟨oc, od', dt, sl⟩ := o
  cases h2
  cases h3
  exact PySem.W.kia_tup (PySem.W.kitx_exc T.cl T.ga T.gt T.ex T.ca T.dg T.tk T.ob) I.kIn J h1 e (fun z => nomatch z) fun tk => ⟨.bl b, H, I.tok tk, rfl, q⟩
/-- e.what -/
def tWhat (K : PySem.W.Frag) (te : TE) : TE := fun σ H Q => te σ H fun x H1 => ∃ (a C dx : Addr) (fv : List (Str × V)) (v : V), x = .ref a ∧ ExK K C ∧ H1 a = some (exk a C dx) ∧ H1 dx = some (.xd fv) ∧ fv.lookup ("what" : Str) = some v ∧ Q v H1
theorem pe_what {e : Expr} {te : TE} {pos : Pos} (he : PE X e te) (hb : attributeBase e "what" X.env (eval e X.env) = eval e X.env := by rfl) : PE X (.Attribute e "what" pos) (tWhat X.K te) := by
  refine ⟨fun pins s σ H Q I h => attr_of hb (thn (he.run pins s σ H _ I h) fun u s1 hh => ?_)⟩
  obtain ⟨x, H1, I1, rx, a, C, dx, fv, v, rfl, T, ea, ed, l, q⟩ := hh
  cases (show u = Value.ref a from rx)
  obtain ⟨ox, od, mA, J, hn, hr, e5⟩ := exk_at I1 ea ed
  obtain ⟨od', e6, hl⟩ := lookIn_ns hn
  rw [e5] at e6
  cases e6
  obtain ⟨w, hw, rw'⟩ := RelO.some_of (v := v) (o := mA "what") (by rw [← l]; exact hr "what")
  exact HandSPX.exc_get I1.kIn J T.ga T.gt T.ex (PySem.W.findObj_own T.hd T.nw rfl (by rw [hl, hw])) (handed_of rw') ⟨v, H1, I1.tok _, rw', q⟩
end
/-! over data -/
section
variable {K : PySem.W.Frag} {n : Nat} {J : Jv n}
def excF (d : PyData) (k : Str → List (PyData × PyData) → Prop) : Prop := match d with
  | .dict ((.str c, .bool true) :: fs) => k c fs
  | _ => False
theorem excF_of {G : Hp} {v : V} {d : PyData} {k : Str → List (PyData × PyData) → Prop} (q : Dq K G v d) (h : excF d k) : ∃ a C dx c fv fs, v = .ref a ∧ PySem.W.nsIn K mainGlobals c = some (some (.ref C)) ∧ G a = some (exk a C dx) ∧ G dx = some (.xd fv) ∧ DqFs K G fv fs ∧ k c fs := by
  unfold excF at h
  split at h
  · cases q with
    | exc c h1 h2 r => exact ⟨_, _, _, _, _, _, rfl, c, h1, h2, r, h⟩
  · exact h.elim
def fIsX (tab : Str → Option Bool) (a : FE) : FE := fun ρ P => a ρ fun d ρ1 => excF d fun c _ => ∃ b, tab c = some b ∧ P (.bool b) ρ1
theorem re_isX {tab : Str → Option Bool} {cv : V} {u : Value} {ta : TE} {a : FE} (hc : ClsV cv u) (ht : ∀ c C b, tab c = some b → PySem.W.nsIn K mainGlobals c = some (some (.ref C)) → ExK K C ∧ PySem.W.kitOne K (.ref C) u = some b) (ha : RE K J ta a) :
    RE K J (tCB (rIsX K) (tCons ta (tCons (tC cv) tNil))) (fIsX tab a) := by
  intro O as σ H Q ρ P E q k
  refine ha O as σ H _ ρ _ E q fun d ρ1 v H1 q1 f1 E1 d1 => ?_
  obtain ⟨p, C, dx, c, fv, fs, rfl, hn, h1, h2, _, b, e, q1⟩ := excF_of d1 q1
  obtain ⟨T, e'⟩ := ht c C b e hn
  exact ⟨p, C, dx, fv, cv, u, b, rfl, hc, T, (hp_some h1).2, (hp_some h2).2, e', k _ _ _ _ q1 f1 E1 (.bl _)⟩
@[reducible] def taC : List V → TA
  | [] => tNil
  | c :: r => tCons (tC c) (taC r)
theorem taC_run {σ : L2.St} {H : Hp} : ∀ {cs : List V} {Q : List V → Hp → Prop}, Q cs H → taC cs σ H Q
  | [], _, q => q
  | _ :: r, Q, q => taC_run (cs := r) (Q := fun xs H2 => Q (_ :: xs) H2) q
theorem re_isXT {tab : Str → Option Bool} {cs : List V} {us : List Value} {ta : TE} {a : FE} (hc : Paired ClsV cs us) (hl : cs.length ≤ sizeLine) (ht : ∀ c C b, tab c = some b → PySem.W.nsIn K mainGlobals c = some (some (.ref C)) → ExK K C ∧ PySem.W.kitAny K (.ref C) us = some b) (ha : RE K J ta a) :
    RE K J (tCB (rIsXT K) (tCons ta (tCons (tTup (taC cs)) tNil))) (fIsX tab a) := by
  intro O as σ H Q ρ P E q k
  refine ha O as σ H _ ρ _ E q fun d ρ1 v H1 q1 f1 E1 d1 => ?_
  refine taC_run ⟨hl, fun T hT => ?_⟩
  have s := Same.new (o := .tup cs) hT
  obtain ⟨p, C, dx, c, fv, fs, rfl, hn, h1, h2, _, b, e, q1⟩ := excF_of (d1.mono (E1.hgrow s)) q1
  obtain ⟨T', e'⟩ := ht c C b e hn
  exact ⟨p, C, dx, T, fv, cs, us, b, rfl, upd_same, hc, T', (hp_some h1).2, (hp_some h2).2, e', k _ _ _ _ q1 (f1.trans (E1.frS s)) (E1.grow s) (.bl _)⟩
def fWhat (L : List Str) (a : FE) : FE := fun ρ P => a ρ fun d ρ1 => excF d fun c fs => c ∈ L ∧ ∃ w, fldD "what" fs = some w ∧ P w ρ1
theorem re_what {L : List Str} {ta : TE} {a : FE} (ht : ∀ c C, c ∈ L → PySem.W.nsIn K mainGlobals c = some (some (.ref C)) → ExK K C) (ha : RE K J ta a) : RE K J (tWhat K ta) (fWhat L a) := by
  intro O as σ H Q ρ P E q k
  refine ha O as σ H _ ρ _ E q fun d ρ1 v H1 q1 f1 E1 d1 => ?_
  obtain ⟨p, C, dx, c, fv, fs, rfl, hn, h1, h2, r, hL, w, e, q1⟩ := excF_of d1 q1
  obtain ⟨x, hx, dq⟩ := r.get e
  exact ⟨p, C, dx, fv, x, rfl, ht c C hL hn, (hp_some h1).2, (hp_some h2).2, hx, k _ _ _ _ q1 f1 E1 dq⟩
/-- an exception, raised: its class, its dict, as data -/
def XcAt (K : PySem.W.Frag) (G : Hp) (cls : Value) (dd : Option Addr) (d : PyData) : Prop := ∃ (c : Str) (C dx : Addr) (fv : List (Str × V)) (fs : List (PyData × PyData)), d = .dict ((.str c, .bool true) :: fs) ∧ cls = .ref C ∧ dd = some dx ∧ PySem.W.nsIn K mainGlobals c = some (some (.ref C)) ∧ G dx = some (.xd fv) ∧ DqFs K G fv fs
theorem XcAt.mono {G G' : Hp} {cls : Value} {dd : Option Addr} {d : PyData} (x : XcAt K G cls dd d) (s : Same G G') : XcAt K G' cls dd d := by
  obtain ⟨c, C, dx, fv, fs, e1, e2, e3, e4, e5, r⟩ := x
  exact ⟨c, C, dx, fv, fs, e1, e2, e3, e4, s _ _ e5, DqFs.mono s r⟩
/-- a wish over data carries the wish -/
def Lk (K : PySem.W.Frag) {n : Nat} (J : Jv n) (X : PyData → En → Prop) (W : WX) : Prop := ∀ (O : Addr → Prop) (as : As) (σ : L2.St) (H : Hs) (ρ : En) (cls : Value) (dd : Option Addr) (d : PyData), EnR K J O as H ρ σ → XcAt K (hq O as H) cls dd d → X d ρ → W cls dd σ H
theorem Lk.le {J' : Jv n} {X : PyData → En → Prop} {W : WX} (l : Lk K J X W) (h : J'.le J) : Lk K J' X W := fun O as σ H ρ cls dd d E => l O as σ H ρ cls dd d (E.reJ (h.1 _ _ E.inv) (h.2 _ E.inq))
def excD (c : Str) (w : PyData) : PyData := .dict [(.str c, .bool true), (.str "what", w)]
def fRaise (c : Str) (a : FE) (X : PyData → En → Prop) : FS := fun _ ρ => a ρ fun d ρ1 => X (excD c d) ρ1
theorem rs_raise {c : Str} {C : Addr} {te : TE} {a : FE} {X : PyData → En → Prop} {W : WX} (hn : PySem.W.nsIn K mainGlobals c = some (some (.ref C))) (l : Lk K J X W) (ha : RE K J te a) : RS K J (fun _ σ H => tMkB C te σ H fun cls d H' => W cls d σ H') (fRaise c a X) := by
  intro O as σ H D ρ E R q C'
  refine ha O as σ H _ ρ _ R q fun d ρ1 v H1 q1 f1 E1 d1 => fun dx hdx => ?_
  have s := Same.new (o := .xd [("what", v)]) hdx
  exact l O as σ _ ρ1 _ _ _ (E1.grow s) ⟨c, C, dx, _, _, rfl, rfl, rfl, hn, hp_mk (E1.fresh1 hdx) upd_same, .cons (d1.mono (E1.hgrow s)) .nil⟩ q1
end
end DL
/-! defs that raise, over data; try -/
namespace DL
open PySem L2 Z PySem.Spec PyProof.Rows
variable [Tbs]
abbrev FX := List Sl → (PyData → List Sl → Prop) → (PyData → List Sl → Prop) → Prop
def spXG (K : PySem.W.Frag) (n e : Nat) (F : FX) : Sp := fun vs H Q E => vs.length = n ∧ ∃ (O : Addr → Prop) (as : As) (S : Sto) (ρ : En) (P X : PyData → List Sl → Prop), EnR K (J0 : Jv 0) O as ⟨H, S⟩ ρ (vs.map some) ∧ ρ.length = n + e ∧ F ρ P X ∧
  (∀ d out v H', P d out → Fr as ⟨H, S⟩ H' → Bk K O as H' out → Dq K (hq O as H') v d → Q v H') ∧
  ∀ d out cls dd H', X d out → Fr as ⟨H, S⟩ H' → Bk K O as H' out → XcAt K (hq O as H') cls dd d → E cls dd H'
abbrev spXS (K : PySem.W.Frag) (n : Nat) (F : FX) : Sp := spXG K n 1 F
def fnX (n m : Nat) (b : (PyData → En → Prop) → FS) : FX := fun sls P X => b (fun d ρ' => X d (ρ'.take n)) { nx := fun ρ' => P .none (ρ'.take n), rt := fun d ρ' => P d (ρ'.take n) } (sls ++ List.replicate (m - n) .no)
def fnXS (n m : Nat) (b : (PyData → En → Prop) → FS) : FX := fun sls P X => b (fun d ρ' => X d (ρ'.take n ++ ρ'.drop m)) { nx := fun ρ' => P .none (ρ'.take n ++ ρ'.drop m), rt := fun d ρ' => P d (ρ'.take n ++ ρ'.drop m) } (sls.take n ++ List.replicate (m - n) .no ++ sls.drop n)
section
variable {K : PySem.W.Frag} {n : Nat} {J : Jv n}
theorem EnR.sub {O O2 : Addr → Prop} {as : As} {H : Hs} {ρ : En} {σ : L2.St} (E : EnR K J O2 as H ρ σ) (h : ∀ a, O a → O2 a) (hq : J.Q O) : EnR K J O as H ρ σ :=
  ⟨E.len, E.tl, fun i sl o h1 h2 => (E.at_ i sl o h1 h2).mono (hp_less fun a z => z.imp (h a) id) fun _ _ => rfl, fun i z => ⟨(E.sto i z).1, (E.sto i z).2.1, (E.sto i z).2.2.move (hp_less fun a z => z.imp (h a) id) fun _ _ => rfl⟩, E.inj, fun i r b e q z => E.out i r b e q (h b z), E.bnd, fun a q => E.occ a (h a q), E.inv, hq, E.tab⟩
theorem Car.le {J' : Jv n} {O : Addr → Prop} {as : As} {H : Hs} {E : FEnds} {D : Ends} (C : Car K J O as H E D) (h : J'.le J) : Car K J' O as H E D :=
  ⟨fun ρ' as' σ' H' p x R => C.nx ρ' as' σ' H' p x (R.reJ (h.1 _ _ R.inv) (h.2 _ R.inq)), fun d ρ' v as' σ' H' p x R => C.rt d ρ' v as' σ' H' p x (R.reJ (h.1 _ _ R.inv) (h.2 _ R.inq)), fun ρ' as' σ' H' p x R => C.bk ρ' as' σ' H' p x (R.reJ (h.1 _ _ R.inv) (h.2 _ R.inq)),
    fun ρ' as' σ' H' p x R => C.ct ρ' as' σ' H' p x (R.reJ (h.1 _ _ R.inv) (h.2 _ R.inq)), fun ds ρ' p xs as' σ' H' q x o R => C.ro ds ρ' p xs as' σ' H' q x o (R.reJ (h.1 _ _ R.inv) (h.2 _ R.inq))⟩
theorem lkF {W : WX} : Lk K J (fun _ _ => False) W := fun _ _ _ _ _ _ _ _ _ _ h => h.elim
/-- the body of a def that raises -/
theorem fn_runX {m e : Nat} {N : List Str} {b : (PyData → En → Prop) → FS} {t : WX → TS} (hN : m ≤ N.length) (rs : ∀ (J : Jv m) (X : PyData → En → Prop) (W : WX), Lk K J X W → RS K J (t W) (b X)) {vs : List V} {H : Hp} {Q : VK} {E : XK} {F : FX}
    (hF : F = fun sls P X => b (fun d ρ' => X d (outS e m N.length ρ')) { nx := fun ρ' => P .none (outS e m N.length ρ'), rt := fun d ρ' => P d (outS e m N.length ρ') } (enS e m N.length sls)) (h : spXG K m e F vs H Q E) :
    t (fun cls d _ H => E cls d H) { nx := fun _ H' => Q .non H', rt := Q } (L2.start N vs) H := by
  obtain ⟨hv, O, as, S, ρ, P, X, R, hl, hf, q, qx⟩ := h
  subst hF
  refine rs (Jst m O (shA as m N.length) ⟨H, S⟩) (fun d ρ' => X d (outS e m N.length ρ')) _ (fun O' as' σ' H' ρ' cls dd d R' xc hx => ?_) O _ _ ⟨H, S⟩ _ _ _ (fn_start R hv hl hN) hf ⟨fun ρ' as' σ' H' p x R' => ?_, fun d ρ' v as' σ' H' p x R' dv => ?_, fun _ _ _ _ p => p.elim, fun _ _ _ _ p => p.elim, fun _ _ _ _ _ _ _ p => p.elim⟩
  · have R2 : EnR K (Jst m O (shA as m N.length) ⟨H, S⟩) O as' H' ρ' σ' := R'.sub R'.inq fun _ h => h
    obtain ⟨h1, h2, h3⟩ := fn_back R hv hl hN R'.inv R2
    exact qx d _ cls dd H' hx h1 h2 ((xc.mono (hp_less fun a z => z.imp (R'.inq a) id)).mono h3)
  · obtain ⟨h1, h2, _⟩ := fn_back R hv hl hN x R'
    exact q _ _ _ _ p h1 h2 .non
  · obtain ⟨h1, h2, h3⟩ := fn_back R hv hl hN x R'
    exact q _ _ _ _ p h1 h2 (dv.mono h3)
theorem fn_coreXS {ps : List Str} {N : List Str} {b : (PyData → En → Prop) → FS} {t : WX → TS} (hN : ps.length ≤ N.length) (rs : ∀ (J : Jv ps.length) (X : PyData → En → Prop) (W : WX), Lk K J X W → RS K J (t W) (b X)) {vs : List V} {H : Hp} {Q : VK} {E : XK} (h : spXS K ps.length (fnXS ps.length N.length b) vs H Q E) :
    t (fun cls d _ H => E cls d H) { nx := fun _ H' => Q .non H', rt := Q } (L2.start N vs) H := fn_runX hN rs rfl h
def fCallX (m : Nat) (F : FX) (dv : List PyData) (X : PyData → En → Prop) (a : FC) : FE := fun ρ P => a ρ fun xs ρ1 => xs.length + dv.length = m ∧ (ownIx xs).Nodup ∧ argF ρ1 xs fun r => F (r ++ dv.map .fz) (fun d out => P d (wb ρ1 xs out)) fun d out => X d (wb ρ1 xs out)
def fCallXS (sx m : Nat) (F : FX) (dv : List PyData) (X : PyData → En → Prop) (a : FC) : FE := fun ρ P => a ρ fun xs ρ1 => xs.length + dv.length = m ∧ (ownIx xs ++ [sx]).Nodup ∧ argF ρ1 xs fun r => match ρ1[sx]? with
  | some (.st S) => F (r ++ dv.map .fz ++ [.st S]) (fun d out => P d ((wb ρ1 xs out).set sx ((out.drop m).headD .no))) fun d out => X d ((wb ρ1 xs out).set sx ((out.drop m).headD .no))
  | _ => False
/-- try: body except T as i: j = i -/
def fTryK (i j : Nat) (tab : Str → Option Bool) (X : PyData → En → Prop) (b : (PyData → En → Prop) → FS) : FS := fun E ρ => b (fun d ρ' => excF d fun c _ => ∃ k, tab c = some k ∧ if k = true then slotF ρ' i = true ∧ slotF (ρ'.set i .no) j = true ∧ E.nx ((ρ'.set i .no).set j (.fz d)) else X d ρ') E ρ
theorem rs_tryK {i j : Nat} {tab : Str → Option Bool} {cs : List Value} {X : PyData → En → Prop} {Wout : WX} {tb : WX → TS} {b : (PyData → En → Prop) → FS} (hij : i ≠ j) (l : Lk K J X Wout) (ht : ∀ c C k, tab c = some k → PySem.W.nsIn K mainGlobals c = some (some (.ref C)) → PySem.W.exmAny K (.ref C) cs = some k)
    (hb : ∀ (J' : Jv n) (X' : PyData → En → Prop) (W' : WX), J'.le J → Lk K J' X' W' → RS K J' (tb W') (b X')) : RS K J (fun D σ H => tb (wKeep K cs i (fun _ => tAsg (tVar i) (gName j)) Wout D) D σ H) (fTryK i j tab X b) := by
  intro O as σ H D ρ E R f C
  have le : (J.and (Jst n O as H)).le J := ⟨fun _ _ h => h.1, fun _ h => h.1⟩
  refine hb (J.and (Jst n O as H)) _ _ le (fun O2 as2 σ2 H2 ρ2 cls dd d E2 xc x2 => ?_) O as σ H D ρ E (R.reJ ⟨R.inv, Ext.refl⟩ ⟨R.inq, fun _ h => h⟩) f (C.le le)
  obtain ⟨c, Cc, dx, fv, fs, rfl, rfl, rfl, hn, hd, r⟩ := xc
  obtain ⟨k, ek, x2⟩ := x2
  refine ⟨k, ht c Cc k ek hn, fun hk => ?_, fun hk => ?_⟩
  · rw [if_pos hk] at x2
    obtain ⟨s1, s2, nx⟩ := x2
    refine ⟨Cc, dx, rfl, rfl, fun a ha => ?_⟩
    have s := Same.new (o := exk a Cc dx) ha
    have E3 : EnR K J O as2 H2 ρ2 σ2 := (E2.reJ (E2.inv.1) (E2.inq.1)).sub E2.inq.2 R.inq
    have gs : Same (hq O2 as2 H2) (hq O as2 (H2.w (upd H2 a (exk a Cc dx)))) := fun b o e => hp_mk (fun z => (hp_some e).1 (((E3.hidS s).mp z).imp (E2.inq.2 b) id)) (s _ _ (hp_some e).2)
    have dq : Dq K (hq O as2 (H2.w (upd H2 a (exk a Cc dx)))) (.ref a) (.dict ((.str c, .bool true) :: fs)) := .exc hn (hp_mk (E3.fresh1 ha) upd_same) (gs _ _ hd) (DqFs.mono gs r)
    have E4 := ((E3.grow s).setNo s1 none).setFz s2 dq
    have hi : i < σ2.length := by
      obtain ⟨sl, e, _, ns⟩ := slotF_of s1
      exact E3.lt e ns
    refine ⟨.ref a, by rw [List.getElem?_set_self hi], ?_⟩
    show D.nx (((σ2.set i (some (.ref a))).set j (some (.ref a))).set i none) _
    rw [List.set_comm _ _ (Ne.symm hij), List.set_set]
    exact C.nx _ _ _ _ nx (E2.inv.2.trans (.of (E3.frS s))) E4
  · rw [hk, if_neg (by decide)] at x2
    exact l O2 as2 σ2 H2 ρ2 _ _ _ (E2.reJ E2.inv.1 E2.inq.1) ⟨c, Cc, dx, fv, fs, rfl, rfl, rfl, hn, hd, r⟩ x2
end
end DL
/-! defs that raise: the promise; calls by keywords -/
namespace DL
open PySem L2 Z PySem.Spec PyProof.Rows
variable [Tbs]
section
variable {P : Program} {w : World} {K : PySem.W.Frag} {mg : Str → Option Value} {base : Heap} {k : Nat} {f : Addr} {fd : FuncData} {ps : List Str} {x qual : Str} {st : Stmt} {N : List Str} {b : (PyData → En → Prop) → FS}
theorem okXSD {params : Arguments} {bd : List Stmt} {scope : Scope} {dvs : List V} {kws : List (Str × V)} (F : FunD K x qual params bd scope dvs kws f fd) (S : FnScope N ps scope)
    (body : ∀ (cdv : Value) (A : Around) (outer : List Env) (s : Shared) (H : Hp) (E : XK), Room k (A.deeper (envOfC qual scope s.heap.objs.size f cdv)) →
      ∃ t : WX → TS, (∀ W, Takes (cxOf (L2.CX P w) P w K mg base N qual scope f cdv A outer s H E) W → PSs (cxOf (L2.CX P w) P w K mg base N qual scope f cdv A outer s H E) bd (t W)) ∧ ∀ (J : Jv ps.length) (X : PyData → En → Prop) (W : WX), Lk K J X W → RS K J (t W) (b X)) :
    FnOk P w K mg base (L2.CX P w) (k + 1) f fd ps (spXS K ps.length (fnXS ps.length N.length b)) := by
  refine F.ok S (fun vs H Q E h => h.1) (fun cdv A outer s H vs Q E hr h => ?_)
  obtain ⟨t, pt, rs⟩ := body cdv A outer s H E hr
  exact ⟨_, pt _ (takes_of (E := E) rfl rfl rfl rfl), fn_coreXS (scope_le S) rs h⟩
end
/-! the call with keywords, where it may raise -/
section
variable {X : Cx} {CX : CXT} {k n : Nat} {f : Addr} {fd : FuncData} {ps ks : List Str} {sp : Sp} {E : L2.St → XK} {x : Str} {p pos : Pos} {e : Expr} {es : List Expr} {kws : List Keyword} {t tk : TA} {g : List Value → List Value → List Value} {gV : List V → List V → List V}
end
section
variable {K : PySem.W.Frag} {n : Nat} {J : Jv n}
def fCallNX (F : FX) (n m : Nat) (gD : List PyData → List PyData → List PyData) (X : PyData → En → Prop) (f fk : FA) : FE := fun ρ P => f ρ fun ds ρ1 => fk ρ1 fun es ρ2 => ds.length = n ∧ es.length = m ∧ F ((gD ds es).map .fz) (fun d _ => P d ρ2) fun d _ => X d ρ2
/-- calls by keywords of defs that are handed the store -/
def fCallNXS (sx l : Nat) (F : FX) (n m : Nat) (gD : List PyData → List PyData → List PyData) (X : PyData → En → Prop) (f fk : FA) : FE := fun ρ P => f ρ fun ds ρ1 => fk ρ1 fun es ρ2 => ds.length = n ∧ es.length = m ∧ match ρ2[sx]? with
  | some (.st S) => F ((gD ds es).map .fz ++ [.st S]) (fun d out => P d (ρ2.set sx ((out.drop l).headD .no))) fun d out => X d (ρ2.set sx ((out.drop l).headD .no))
  | _ => False
def fCallNS (sx l : Nat) (F : FN) (n m : Nat) (gD : List PyData → List PyData → List PyData) (f fk : FA) : FE := fun ρ P => f ρ fun ds ρ1 => fk ρ1 fun es ρ2 => ds.length = n ∧ es.length = m ∧ match ρ2[sx]? with
  | some (.st S) => F ((gD ds es).map .fz ++ [.st S]) fun d out => P d (ρ2.set sx ((out.drop l).headD .no))
  | _ => False
/-- a def that raises, where it doesn't -/
def noX (F : FX) : FN := fun ss P => F ss P fun _ _ => False
end
/-! is True, is False -/
def isBool (b : Bool) : PyData → Bool
  | .bool c => c == b
  | _ => false
def oIsT : G2 := fun a d P => match d with
  | .bool b => P (.bool (isBool b a))
  | _ => False
section
variable {K : PySem.W.Frag}
end
/-! what the printed texts use -/
theorem names_nil {X : Cx} : ∀ q ∈ ([] : List (Str × Pos × Value)), Names X q.1 q.2.2 := fun _ h => by cases h
theorem names_cons {X : Cx} {x : Str} {p : Pos} {c : Value} {r : List (Str × Pos × Value)} (h : Names X x c) (t : ∀ q ∈ r, Names X q.1 q.2.2) : ∀ q ∈ (x, p, c) :: r, Names X q.1 q.2.2 := fun q hq => by
  rcases List.mem_cons.mp hq with rfl | hq
  · exact h
  · exact t q hq
def tabL : List (Str × Bool) → Str → Option Bool
  | [], _ => none
  | (x, b) :: r, c => if c = x then some b else tabL r c
section
variable {K : PySem.W.Frag} {p : Addr → Bool → Prop}
theorem tab_nil : ∀ c C b, tabL [] c = some b → PySem.W.nsIn K mainGlobals c = some (some (.ref C)) → p C b := fun _ _ _ h => by cases h
theorem tab_cons {x : Str} {C0 : Addr} {b0 : Bool} {l : List (Str × Bool)} (q : PySem.W.nsIn K mainGlobals x = some (some (.ref C0))) (h : p C0 b0) (r : ∀ c C b, tabL l c = some b → PySem.W.nsIn K mainGlobals c = some (some (.ref C)) → p C b) :
    ∀ c C b, tabL ((x, b0) :: l) c = some b → PySem.W.nsIn K mainGlobals c = some (some (.ref C)) → p C b := fun c C b e n => by
  unfold tabL at e
  split at e
  · next z =>
    subst z
    cases e
    rw [q] at n
    cases n
    exact h
  · exact r c C b e n
theorem cls_nil {q : Addr → Prop} : ∀ c C, c ∈ ([] : List Str) → PySem.W.nsIn K mainGlobals c = some (some (.ref C)) → q C := fun _ _ h => by cases h
theorem cls_cons {q : Addr → Prop} {x : Str} {C0 : Addr} {l : List Str} (n0 : PySem.W.nsIn K mainGlobals x = some (some (.ref C0))) (h : q C0) (r : ∀ c C, c ∈ l → PySem.W.nsIn K mainGlobals c = some (some (.ref C)) → q C) : ∀ c C, c ∈ x :: l → PySem.W.nsIn K mainGlobals c = some (some (.ref C)) → q C := fun c C hc n => by
  rcases List.mem_cons.mp hc with rfl | hc
  · rw [n0] at n
    cases n
    exact h
  · exact r c C hc n
end
end DL
/-! the law's def over data; functions as data -/
namespace DL
open PySem L2 Z PySem.Spec PyProof.Rows
variable [Tbs]
section
variable {P : Program} {w : World} {K : PySem.W.Frag} {mg : Str → Option Value} {base : Heap} {k : Nat} {f : Addr} {fd : FuncData} {ps : List Str} {sp sp' : Sp}
theorem _root_.Z.FnG.imp (F : FnG P w K mg base k f fd ps sp) (h : ∀ vs H Q E, sp' vs H Q E → sp vs H Q E) : FnG P w K mg base k f fd ps sp' :=
  ⟨fun vs H Q E q => F.size vs H Q E (h vs H Q E q), fun A outer s H args us vs Q E hr c e b v q => F.goes A outer s H args us vs Q E hr c e b v (h vs H Q E q)⟩
def spLaw (K : PySem.W.Frag) : Sp := fun vs H Q _ => ∃ (a : Addr) (ns : List Int), vs = [.ref a] ∧ SqL K H a (ns.map V.int) ∧ ns.length ≤ 63 ∧ TabsOk H ∧ ∀ H', Q (.bl true) H'
/-- the store at the law's begin -/
def noS : Sto := fun _ => none
theorem sqL_noT {as : As} {H : Hp} {a : Addr} {xs : List V} (t : TabsOk H) (ha : ∀ i r, as i = some r → r = .sto) (h : SqL K H a xs) : SqL K (hq (fun _ => False) as ⟨H, noS⟩) a xs := by
  have no : ∀ o, H a = some o → (∀ ps, o ≠ .tbl ps) → ¬ Hid (fun _ => False) as ⟨H, noS⟩ a := fun o e n q => by
    rcases q with q | ⟨_, _, q, w⟩ | ⟨p, hp, q⟩
    · exact q
    · rw [ha _ _ q] at w
      exact w rfl
    · obtain ⟨ps, h1, _⟩ := t p hp
      rw [q, e] at h1
      exact n ps (Option.some.inj h1)
  rcases h with (h | ⟨o, h⟩) | h
  · exact .inl (.inl (hp_mk (no _ h fun _ z => by cases z) h))
  · exact .inl (.inr ⟨o, hp_mk (no _ h fun _ z => by cases z) h⟩)
  · exact .inr h
/-- the law's def -/
theorem law_of {F : FN} (hF : ∀ ns : List Int, ns.length ≤ 63 → F [.fz (.list (ns.map .int))] fun d _ => d = .bool true) {vs : List V} {H : Hp} {Q : VK} {E : XK} (h : spLaw K vs H Q E) : spF K 1 F vs H Q E := by
  obtain ⟨a, ns, rfl, hS, hl, tb, q⟩ := h
  refine ⟨rfl, fun _ => False, fun _ => none, noS, [.fz (.list (ns.map .int))], _, ⟨⟨Nat.le_refl _, Nat.le_succ _⟩, fun i sl e1 e2 => ?_, fun i sl o e1 e2 => ?_, fun i h => (by cases h), fun i j a _ _ h1 => (by cases h1), fun _ _ _ h _ => (by cases h), fun i a h => (by cases h), fun a z => z.elim, trivial, trivial, tb⟩, rfl, hF ns hl, fun d out v H' hd fr _ dv => ?_⟩
  · have h1 : i < 1 := (List.getElem?_eq_some_iff.mp e1).1
    have h2 : 1 ≤ i := e2
    omega
  · match i, e1, e2 with
    | 0, e1, e2 =>
      cases e1
      cases e2
      exact .fz (.lst (sqL_noT tb (fun _ _ z => by cases z) hS) (DqAll.ints _))
  · subst hd
    cases dv
    exact q _
end
/-! a local name that holds a def which may raise -/
structure HeldX (P : Program) (w : World) (K : PySem.W.Frag) (mg : Str → Option Value) (base : Heap) (k : Nat) (f : Addr) (sp : Sp) : Prop where
  ex : ∃ (fd : FuncData) (ps : List Str), FnOk P w K mg base (L2.CX P w) k f fd ps sp ∧ PySem.W.keepIn K (.ref f) = true ∧ Binds K fd ps []
section
variable {X : Cx} {k i : Nat} {E : L2.St → XK} {x : Str} {p pos : Pos} {e : Expr} {es : List Expr} {t : TA}
end
section
variable {K : PySem.W.Frag} {n : Nat} {J : Jv n}
def fnD (x : Str) : PyData := .dict [(.str x, .int 0)]
def funF (ρ : En) (i : Nat) (k : Str → Prop) : Prop := match ρ[i]? with
  | some (.fz (.dict [(.str x, .int 0)])) => k x
  | _ => False
def tabF : List (Str × Nat × FX) → Str → (Nat → FX → Prop) → Prop
  | [], _, _ => False
  | (y, m, F) :: l, x, k => if y = x then k m F else tabF l x k
/-- the def that a slot holds, called -/
def fCallV (i : Nat) (tab : List (Str × Nat × FX)) (X : PyData → En → Prop) (a : FC) : FE := fun ρ P => funF ρ i fun x => tabF tab x fun m F => a ρ fun xs ρ1 => xs.length = m ∧ (ownIx xs).Nodup ∧ argF ρ1 xs fun r => F r (fun d out => P d (wb ρ1 xs out)) fun d out => X d (wb ρ1 xs out)
end
/-! a list or a tuple, walked -/
section
variable {K : PySem.W.Frag} {n : Nat} {J : Jv n}
def iA (f : FE) : FA := fun ρ P => f ρ fun d ρ1 => seqF d fun ds => P ds ρ1
end
end DL
/-! texts and tuples turned about -/
namespace DL
open PySem L2 Z PySem.Spec PyProof.Rows
variable [Tbs]
section
variable {X : Cx}
def revS (z : Str) : Str := ⟨z.cps.toList.reverse.toArray⟩
end
section
variable {K : PySem.W.Frag} {n : Nat} {J : Jv n}
def fRevS (a : FE) : FE := fun ρ P => a ρ fun d ρ1 => strF d fun z => z.length ≤ sizeLine ∧ P (.str (revS z)) ρ1
end
end DL
/-! numbers and truths; repr and str of any data; tuples turned about -/
namespace DL
open PySem L2 Z PySem.Spec PyProof.Rows
variable [Tbs]
section
variable {X : Cx}
def numV : V → Option Int
  | .int i => some i
  | .bl b => some (b2i b)
  | _ => none
def rNum (f : Int → Int → Int) : R2 := fun x y H Q => ∃ i j, numV x = some i ∧ numV y = some j ∧ Q (.int (f i j)) H
theorem op_addN : OpR X (binaryOp .Add) (rNum (· + ·)) := by
  intro pins s σ H x y v u Q I rx ry h
  obtain ⟨i, j, h1, h2, q⟩ := h
  cases x with
  | bl b =>
    cases h1
    cases rx
    cases y with
    | bl c => cases h2; cases ry; exact add_bool ⟨.int _, H, I.tok _, ⟨_, rfl⟩, q⟩
    | int c => cases h2; obtain ⟨t, rfl⟩ := ry; exact PySem.IntBool.add_bool_int ⟨.int _, H, I.tok _, ⟨_, rfl⟩, q⟩
    | _ => cases h2
  | int b =>
    cases h1
    cases y with
    | bl c => cases h2; obtain ⟨t, rfl⟩ := rx; cases ry; exact add_int_bool ⟨.int _, H, I.tok _, ⟨_, rfl⟩, q⟩
    | int c => cases h2; exact op_add pins s σ H _ _ v u Q I rx ry ⟨_, _, rfl, rfl, q⟩
    | _ => cases h2
  | _ => cases h1
/-! ### t[::-1] -/
end
section
variable {K : PySem.W.Frag} {n : Nat} {J : Jv n}
def fRevT (a : FE) : FE := fun ρ P => a ρ fun d ρ1 => tupleF d fun ds => P (.tuple ds.reverse) ρ1
def numD : PyData → Option Int
  | .int i => some i
  | .bool b => some (if b then 1 else 0)
  | _ => none
def oNumD (f : Int → Int → Int) : G2 := fun a b P => match numD a, numD b with
  | some i, some j => P (.int (f i j))
  | _, _ => False
theorem numD_of {H : Hp} {x : V} {a : PyData} (d : Dq K H x a) {i : Int} (h : numD a = some i) : numV x = some i := by
  cases d <;> first | cases h; rfl | cases h
theorem rr_num {f : Int → Int → Int} : RR K (rNum f) (oNumD f) := by
  intro A H Q x y a b P oc da db g k
  unfold oNumD at g
  split at g
  · next i j h1 h2 => exact ⟨i, j, numD_of da h1, numD_of db h2, k _ _ _ g (Same.refl _) (.int _)⟩
  · exact g.elim
abbrev oAddN : G2 := oNumD (· + ·)
def strD : PyData → Option Str
  | .none => some "None"
  | .bool b => some (if b then "True" else "False")
  | .int i => if i.natAbs.log2 < 1920 then some (toString i) else none
  | .str z => some z
  | _ => none
def bStrV (ds : List PyData) (P : PyData → Prop) : Prop := one ds fun d => ∃ z, strD d = some z ∧ P (.str z)
end
end DL
/-! sorted(places, key=lambda place: parts[place][1], reverse=True) -/
namespace DL
open PySem L2 Z PySem.Spec PyProof.Rows
section
variable {X : Cx} {pins : List (Addr × Obj)} {σ : L2.St} {H : Hp} {s : Shared}
/-- what a lambda by one name asks -/
structure Lam1 (sc scope : Scope) (px x : Str) : Prop where
  kind : scope.kind = .function
  co : scope.isCoroutine = false
  gen : scope.isGenerator = false
  nocell : ∀ y ∈ scope.names, y.2 ≠ .cell
  here : scope.names.lookup x = some .local
  caught : scope.names.lookup px = some .free
  cell : sc.names.lookup px = some .cell
  free : ∀ y ∈ scope.names, y.2 = .free → sc.names.lookup y.1 = some .cell ∨ sc.names.lookup y.1 = some .free
theorem Lam1.has {scope : Scope} {px x : Str} (L : Lam1 X.env.scope scope px x) (ok : X.Ok) : ∀ y ∈ scope.names, y.2 = .free → ∃ c, X.env.cells.lookup y.1 = some c := fun y hy e => by
  rcases L.free y hy e with k | k
  · exact ok.has _ (.inl k)
  · exact ok.has _ (.inr k)
end
end DL
namespace DL
open PySem L2 Z PySem.Spec PyProof.Rows
variable [Tbs]
section
variable {K : PySem.W.Frag} {n : Nat} {J : Jv n}
/-- sorted(places, key=lambda place: parts[place][1], reverse=True) -/
def fSortLam (jp : Nat) (a : FE) : FA := fun ρ P => a ρ fun d ρ1 => ∃ (ns : List Int) (ds : List PyData) (g : Int → Int), d = .list (ns.map .int) ∧ ρ1[jp]? = some (.fz (.list ds)) ∧ (∀ n ∈ ns, 0 ≤ n ∧ ∃ es, ds[n.toNat]? = some (.tuple es) ∧ es[1]? = some (.int (g n))) ∧
  ∀ ns' : List Int, ns'.Perm ns → ns'.Pairwise (fun x y => g y ≤ g x) → (∀ z, ns'.filter (fun x => g x == z) = ns.filter (fun x => g x == z)) → P (ns'.map .int) ρ1
end
end DL
namespace DL
open PySem L2 Z PySem.Spec PyProof.Rows
variable [Tbs]
section
variable {P : Program} {w : World} {K : PySem.W.Frag} {mg : Str → Option Value} {base : Heap} {k : Nat} {f : Addr} {fd : FuncData} {ps : List Str} {x qual : Str} {st : Stmt} {N : List Str}
end
section
variable {K : PySem.W.Frag} {n : Nat} {J : Jv n}
/-- sum(own) -/
def fSumO (i : Nat) : FE := fun ρ P => ownF ρ i fun ds => intsF ds fun ns => P (.int ns.sum) ρ
end
end DL
/-! sorted of pairs; a new list handed on at once; defs that raise or hand back a new list -/
namespace DL
open PySem L2 Z PySem.Spec PyProof.Rows
variable [Tbs]
/-! pairs of numbers, sorted -/
def PrAt (K : PySem.W.Frag) (H : Hp) (x : V) (p : Int × Int) : Prop := ∃ t, x = V.ref t ∧ SqT K H t [.int p.1, .int p.2]
inductive PrsAt (K : PySem.W.Frag) (H : Hp) : List V → List (Int × Int) → Prop
  | nil : PrsAt K H [] []
  | cons {x : V} {p : Int × Int} {xs : List V} {ps : List (Int × Int)} : PrAt K H x p → PrsAt K H xs ps → PrsAt K H (x :: xs) (p :: ps)
def lexLe (p q : Int × Int) : Prop := p.1 < q.1 ∨ (p.1 = q.1 ∧ p.2 ≤ q.2)
theorem PrsAt.all {K : PySem.W.Frag} {H : Hp} {k : V → Int × Int} (u : ∀ x p, PrAt K H x p → k x = p) : ∀ {xs : List V} {ps : List (Int × Int)}, PrsAt K H xs ps → ps = xs.map k ∧ ∀ x ∈ xs, PrAt K H x (k x)
  | _, _, .nil => ⟨rfl, fun _ h => by cases h⟩
  | _, _, .cons a b => by
    obtain ⟨e, r⟩ := PrsAt.all u b
    refine ⟨by rw [List.map_cons, u _ _ a, ← e], fun y hy => ?_⟩
    rcases List.mem_cons.mp hy with rfl | hy
    · rw [u _ _ a]; exact a
    · exact r y hy
section
variable {X : Cx}
end
section
variable {K : PySem.W.Frag} {n : Nat} {J : Jv n}
abbrev prD (p : Int × Int) : PyData := .tuple [.int p.1, .int p.2]
/-- data that is a list of pairs of numbers -/
def prsF (es : List PyData) (k : List (Int × Int) → Prop) : Prop := ∃ ps : List (Int × Int), es = ps.map prD ∧ k ps
def nSortP (ds : List PyData) (P : List PyData → Prop) : Prop := one ds fun d => listF d fun es => prsF es fun ps => ∀ qs : List (Int × Int), qs.Perm ps → qs.Pairwise lexLe → P (qs.map prD)
/-! a new list handed on at once -/
theorem wb_app2 (ρ τ : En) : ∀ (ys : List Ar) (r : List Sl), (∀ i ∈ ownIx ys, i < ρ.length) → wb (ρ ++ τ) ys r = wb ρ ys r ++ τ
  | [], _, _ => rfl
  | .dat _ :: ys, r, h => by rw [wb, wb]; exact wb_app2 ρ τ ys r.tail h
  | .own i :: ys, r, h => by
    rw [wb, wb, wb_app2 ρ τ ys r.tail fun j hj => h j (List.mem_cons_of_mem _ hj), List.set_append_left]
    rw [wb_len]
    exact h i List.mem_cons_self
theorem Fits.moved {ρ ρ' : En} {n : Nat} (h : ∀ i, i < n → ρ'[i]? = ρ[i]?) : ∀ {ys : List Ar} {r : List Sl}, Fits ρ ys r → (∀ i ∈ ownIx ys, i < n) → Fits ρ' ys r
  | _, _, .nil, _ => .nil
  | _, _, .dat f, k => .dat (f.moved h k)
  | _, _, .own e f, k => .own (by rw [h _ (k _ List.mem_cons_self)]; exact e) (f.moved h fun j hj => k j (List.mem_cons_of_mem _ hj))
  | _, _, .st e f, k => .st (by rw [h _ (k _ List.mem_cons_self)]; exact e) (f.moved h fun j hj => k j (List.mem_cons_of_mem _ hj))
theorem ArsR.imp {G G' : Hp} {as as' : As} {n : Nat} (s : Same G G') (h : ∀ i, i < n → as' i = as i) : ∀ {vs : List V} {ys : List Ar}, ArsR K G as vs ys → (∀ i ∈ ownIx ys, i < n) → ArsR K G' as' vs ys
  | _, _, .nil, _ => .nil
  | _, _, .cons (.dat q) r, k => .cons (.dat (q.mono s)) (ArsR.imp s h r k)
  | _, _, .cons (.own q) r, k => .cons (.own (by rw [h _ (k _ List.mem_cons_self)]; exact q)) (ArsR.imp s h r fun j hj => k j (List.mem_cons_of_mem _ hj))
theorem ArsR.ix {O : Addr → Prop} {as : As} {H : Hs} {ρ : En} {σ : L2.St} (E : EnR K J O as H ρ σ) {G : Hp} : ∀ {vs : List V} {ys : List Ar}, ArsR K G as vs ys → ∀ i ∈ ownIx ys, i < σ.length
  | _, _, .nil, _, h => by cases h
  | _, _, .cons (.dat q) r, i, h => ArsR.ix E r i h
  | _, _, .cons (.own q) r, i, h => by
    rcases List.mem_cons.mp (show i ∈ _ :: _ from h) with rfl | h
    · obtain ⟨_, _, e, _⟩ := E.is_own q
      exact E.lt e fun _ z => by cases z
    · exact ArsR.ix E r i h
/-- a held list in a slot of its own, ahead of the store -/
theorem EnR.push {O : Addr → Prop} {as : As} {H : Hs} {ρ : En} {σ : L2.St} {p : Addr} {xs : List V} {ds : List PyData} {l : Nat} (E : EnR K J (plus O p) as H ρ σ) (hl : σ.length = l) (hp : H p = some (.lst xs)) (d : DqAll K (hq (plus O p) as H) xs ds) (np : ¬ O p) :
    EnR K (J0 : Jv 0) O (upA (shA as l (l + 1)) l (some (.lf p))) H (ρ.take l ++ [.own ds] ++ ρ.drop l) (σ ++ [some (.ref p)]) := by
  have E2 := E.more (J' := (J0 : Jv 0)) (N := l + 1) hl (Nat.le_succ _) trivial trivial
  rw [show l + 1 - l = 1 from by omega] at E2
  have L := E.len
  have tk : (ρ.take l).length = l := by rw [List.length_take]; omega
  have hS : Same (hq (plus O p) as H) (hq (plus O p) (shA as l (l + 1)) H) := hp_less fun a h => h.imp id fun h => by
    rcases h with ⟨j, r, hc, q⟩ | hc
    · unfold shA at hc
      split at hc
      · exact .inl ⟨j, r, hc, q⟩
      · split at hc
        · exact .inl ⟨l, r, hc, q⟩
        · cases hc
    · exact .inr hc
  have E3 := E2.setOwn (i := l) (p := p) (xs := xs) (ds := ds) trivial (by rw [List.length_append, hl]; exact Nat.lt_succ_self _) trivial hp (d.mono hS) np
  have e1 : (ρ.take l ++ List.replicate 1 Sl.no ++ ρ.drop l).set l (.own ds) = ρ.take l ++ [.own ds] ++ ρ.drop l := by
    rw [List.append_assoc, List.set_append_right _ _ (by omega), tk, Nat.sub_self, List.append_assoc]
    rfl
  have e2 : (σ ++ List.replicate 1 none).set l (some (.ref p)) = σ ++ [some (.ref p)] := by
    rw [List.set_append_right _ _ (by omega), hl, Nat.sub_self]
    rfl
  rw [e1, e2] at E3
  exact E3
/-- that slot forgotten -/
theorem EnR.pop {O : Addr → Prop} {as as3 : As} {H H' : Hs} {ρ ρ' : En} {σ : L2.St} {o : Option V} {l : Nat} (E : EnR K J O as H ρ σ) (E' : EnR K (J0 : Jv 0) O as3 H' ρ' (σ ++ [o])) (hl : σ.length = l) (h1 : ∀ i, i < l → as3 i = as i) (h2 : as3 (l + 1) = some .sto ↔ as l = some .sto) (f : FrA (Own as H) H H') (nw : ∀ a, Own as3 H' a → Own as H a ∨ H a = none) (lv : ∀ a, H a ≠ none → H' a ≠ none) (ns : NoSto as → H'.st = H.st) :
    Fr as H H' ∧ EnR K J O as H' (ρ'.take l ++ ρ'.drop (l + 1)) σ ∧ Same (hq O as3 H') (hq O as H') := by
  have hb : ∀ i r, as i = some r → (i < l ∧ r ≠ .sto) ∨ (i = l ∧ r = .sto) := fun i r h => by
    rcases E.is_reg h with ⟨a, ds, xs, rfl, e1, e2, _⟩ | ⟨rfl, e, _⟩
    · have := E.lt e1 (fun _ z => by cases z)
      rw [hl] at this
      exact .inl ⟨this, fun z => by cases z⟩
    · rw [hl] at e
      exact .inr ⟨e, rfl⟩
  obtain ⟨B, s⟩ := E'.back (Nat.le_succ l) hb h1 h2
  have fr : Fr as H H' := ⟨f, fun a h => nw a (by
    rcases h with ⟨j, r, hc, q⟩ | hc
    · rcases hb j r hc with ⟨z, _⟩ | ⟨z, e⟩
      · exact .inl ⟨j, r, by rw [h1 j z]; exact hc, q⟩
      · subst e
        exact .inl ⟨l + 1, .sto, h2.mpr (by rw [← z]; exact hc), q⟩
    · exact .inr hc), lv, ns⟩
  have L := E'.len
  rw [List.length_append, hl] at L
  have L : l + 1 ≤ ρ'.length ∧ ρ'.length ≤ l + 1 + 1 := L
  have tk : (ρ'.take l).length = l := by rw [List.length_take]; omega
  have ix : ∀ i, i < l → (ρ'.take l ++ ρ'.drop (l + 1))[i]? = ρ'[i]? := fun i h => by rw [List.getElem?_append_left (by omega), List.getElem?_take, if_pos h]
  have ix2 : ∀ i, l ≤ i → (ρ'.take l ++ ρ'.drop (l + 1))[i]? = ρ'[i + 1]? := fun i h => by rw [List.getElem?_append_right (by omega), tk, List.getElem?_drop, show l + 1 + (i - l) = i + 1 from by omega]
  have st : as l = some .sto → ρ'[l + 1]? = some (.st H'.st) ∧ StoR K (hq O as3 H') H'.hp H'.st := fun h => (E'.sto (l + 1) (h2.mpr h)).2
  refine ⟨fr, ⟨by rw [List.length_append, tk, List.length_drop, hl]; omega, fun i sl e1 e2 => ?_, fun i sl o' e1 e2 => ?_, fun i h => ?_, B.inj, B.out, fun i r h => ?_, E'.occ, J.fr E.inv fr, E.inq, E'.tab⟩, s⟩
  · rw [hl] at e2
    rw [ix2 i e2] at e1
    have z := E'.tl (i + 1) sl e1 (by rw [List.length_append, hl]; show l + 1 ≤ i + 1; omega)
    have : i + 1 = l + 1 := by
      have := (E'.sto (i + 1) z).1
      rw [List.length_append, hl] at this
      exact this
    have : i = l := by omega
    subst this
    exact h2.mp z
  · have hi : i < l := by rw [← hl]; exact (List.getElem?_eq_some_iff.mp e2).1
    rw [ix i hi] at e1
    have := E'.at_ i sl o' e1 (by rw [List.getElem?_append_left (by omega)]; exact e2)
    rw [h1 i hi] at this
    exact this.mono s fun _ _ => rfl
  · rcases hb i _ h with z | z
    · exact absurd rfl z.2
    · rw [z.1] at h ⊢
      obtain ⟨s1, s2⟩ := st h
      exact ⟨hl.symm, by rw [ix2 l (Nat.le_refl _)]; exact s1, s2.move s fun _ _ => rfl⟩
  · rw [List.length_append, tk, List.length_drop]
    rcases hb i r h with z | z
    · omega
    · rw [z.1, z.2] at h
      have := (List.getElem?_eq_some_iff.mp (st h).1).1
      omega
def fCallT (m : Nat) (F : FN) (dv : List PyData) (a0 : FA) (a : FC) : FE := fun ρ P => a0 ρ fun ds ρ1 => a ρ1 fun xs ρ2 => xs.length + 1 + dv.length = m ∧ (ownIx xs).Nodup ∧ argF ρ2 xs fun r => F (.own ds :: (r ++ dv.map .fz)) fun d out => P d (wb ρ2 xs out.tail)
/-- what is owned behind a push -/
theorem own_push {as : As} {H H' : Hs} {p : Addr} {l : Nat} (hb : ∀ i r, as i = some r → (i < l ∧ r ≠ .sto) ∨ (i = l ∧ r = .sto)) {a : Addr} : Own (upA (shA as l (l + 1)) l (some (.lf p))) H a ↔ a = p ∨ Own as H a := by
  constructor
  · rintro h
    rcases h.up with ⟨r, e, q⟩ | h
    · cases e; exact .inl q.lf_of
    · refine .inr ?_
      rcases h with ⟨j, r, hc, q⟩ | hc
      · unfold shA at hc
        split at hc
        · exact .inl ⟨j, r, hc, q⟩
        · split at hc
          · exact .inl ⟨l, r, hc, q⟩
          · cases hc
      · exact .inr hc
  · rintro (h | ⟨j, r, hc, q⟩ | hc)
    · exact .inl ⟨l, .lf p, upA_at, h⟩
    · rcases hb j r hc with ⟨z, _⟩ | ⟨z, _⟩
      · exact .inl ⟨j, r, by rw [upA_ne (by omega)]; unfold shA; rw [if_pos z]; exact hc, q⟩
      · exact .inl ⟨l + 1, r, by rw [upA_ne (by omega)]; unfold shA; rw [if_neg (by omega), if_pos rfl, ← z]; exact hc, q⟩
    · exact .inr hc
theorem callT_core {O : Addr → Prop} {as : As} {H0 H : Hs} {ρ0 ρ : En} {σ : L2.St} {p : Addr} {zs : List V} {ds : List PyData} {ys : List Ar} {r : List Sl} {vs : List V} {m : Nat} {F : FN} {P : PyData → En → Prop} {Q : VK} {E0 : XK} {dv : List PyData} {dvs : List V} (E00 : EnR K J O as H0 ρ0 σ) (f0 : Fr as H0 H) (hp0 : NewO as H0 p) (E : EnR K J (plus O p) as H ρ σ) (hp : H p = some (.lst zs)) (d : DqAll K (hq (plus O p) as H) zs ds) (np : ¬ O p)
    (ar : ArsR K (hq (plus O p) as H) as vs ys) (hd : ∀ H, DqAll K H dvs dv) (fit : Fits ρ ys r) (hm : ys.length + 1 + dv.length = m) (nd : (ownIx ys).Nodup) (f : F (.own ds :: (r ++ dv.map .fz)) fun d out => P d (wb ρ ys out.tail))
    (k : ∀ d ρ' v H', P d ρ' → Fr as H0 H' → EnR K J O as H' ρ' σ → Dq K (hq O as H') v d → Q v H') : spF K m F (.ref p :: (vs ++ dvs)) H Q E0 := by
  generalize hl : σ.length = l
  have E3 := E.push hl hp d np
  have L := E.len
  have tk : (ρ.take l).length = l := by rw [List.length_take]; omega
  have ix := ar.ix E
  rw [hl] at ix
  have ixA : ∀ i ∈ ownIx (ys ++ dv.map .dat), i < l := fun i hi => ix i (by rw [ownIx_app] at hi; exact hi)
  have hb : ∀ i r, as i = some r → (i < l ∧ r ≠ .sto) ∨ (i = l ∧ r = .sto) := fun i r h => by
    rcases E.is_reg h with ⟨a, ds, xs, rfl, e1, e2, _⟩ | ⟨rfl, e, _⟩
    · have := E.lt e1 (fun _ z => by cases z)
      rw [hl] at this
      exact .inl ⟨this, fun z => by cases z⟩
    · rw [hl] at e
      exact .inr ⟨e, rfl⟩
  have own : ∀ {H' : Hs} a, Own (upA (shA as l (l + 1)) l (some (.lf p))) H' a ↔ a = p ∨ Own as H' a := fun {H'} a => own_push (H' := H') hb
  have asE : ∀ i, i < l → upA (shA as l (l + 1)) l (some (.lf p)) i = as i := fun i hi => by
    rw [upA_ne (by omega)]
    unfold shA
    rw [if_pos hi]
  have hS : Same (hq (plus O p) as H) (hq O (upA (shA as l (l + 1)) l (some (.lf p))) H) := hp_less fun a h => by
    rcases h with h | h
    · exact .inl (.inl h)
    · rcases (own a).mp h with h | h
      · exact .inl (.inr h)
      · exact .inr h
  have at3 : ∀ i, i < l → (ρ.take l ++ [Sl.own ds] ++ ρ.drop l)[i]? = ρ[i]? := fun i h => by
    rw [List.append_assoc, List.getElem?_append_left (by omega), List.getElem?_take, if_pos h]
  have hL : (ρ.take l ++ [Sl.own ds] ++ ρ.drop l)[l]? = some (.own ds) := by
    rw [List.append_assoc, List.getElem?_append_right (by omega), tk, Nat.sub_self]
    rfl
  have ρe : ρ = ρ.take l ++ ρ.drop l := (List.take_append_drop l ρ).symm
  have wbe : ∀ out : List Sl, wb (ρ.take l ++ [Sl.own ds] ++ ρ.drop l) (.own l :: (ys ++ dv.map .dat)) out = wb (ρ.take l) ys out.tail ++ ([out.headD .no] ++ ρ.drop l) := fun out => by
    rw [wb, wb_app, List.append_assoc, wb_app2 _ _ _ _ (fun i hi => by rw [tk]; exact ix i hi), List.set_append_right _ _ (by rw [wb_len, tk]; exact Nat.le_refl _), wb_len, tk, Nat.sub_self]
    rfl
  have wb2 : ∀ out : List Sl, wb ρ ys out.tail = wb (ρ.take l) ys out.tail ++ ρ.drop l := fun out => by
    have := wb_app2 (ρ.take l) (ρ.drop l) ys out.tail (fun i hi => by rw [tk]; exact ix i hi)
    rw [List.take_append_drop] at this
    exact this
  refine call_core (e := 0) (P := fun d ρ' => P d (ρ'.take l ++ ρ'.drop (l + 1))) (xs := .own l :: (ys ++ dv.map .dat)) (r := .own ds :: (r ++ dv.map .fz)) E3 (.own hL ((fit.app (fits_dat dv)).moved at3 ixA)) (.cons (.own upA_at) ((ar.imp hS asE ix).app (dat_ars (hd _))).toT) ?_ ?_ ?_ ?_ fun d ρ' v H' pr fr E' q' => ?_
  · rw [List.length_cons, List.length_append, ar.len, (hd H).length]; omega
  · rw [List.length_cons, List.length_append, List.length_map]; omega
  · show (l :: ownIx (ys ++ dv.map .dat)).Nodup
    exact List.nodup_cons.mpr ⟨fun z => Nat.lt_irrefl _ (ixA _ z), by rw [ownIx_app]; exact nd⟩
  · have e : (fun d out => P d ((wb (ρ.take l ++ [Sl.own ds] ++ ρ.drop l) (.own l :: (ys ++ dv.map .dat)) out).take l ++ (wb (ρ.take l ++ [Sl.own ds] ++ ρ.drop l) (.own l :: (ys ++ dv.map .dat)) out).drop (l + 1))) = fun d out => P d (wb ρ ys out.tail) := by
      funext d out
      rw [wbe, wb2, List.take_left' (by rw [wb_len, tk]), List.drop_append, List.drop_of_length_le (by rw [wb_len, tk]; omega), wb_len, tk, show l + 1 - l = 1 from by omega]
      rfl
    show F _ (fun d out => P d ((wb (ρ.take l ++ [Sl.own ds] ++ ρ.drop l) (.own l :: (ys ++ dv.map .dat)) out).take l ++ (wb (ρ.take l ++ [Sl.own ds] ++ ρ.drop l) (.own l :: (ys ++ dv.map .dat)) out).drop (l + 1)))
    rw [e]
    exact f
  · have nsE : NoSto as → NoSto (upA (shA as l (l + 1)) l (some (.lf p))) := fun h j z => by
      by_cases e : j = l
      · rw [e, upA_at] at z; cases z
      · rw [upA_ne e] at z
        unfold shA at z
        split at z
        · exact h _ z
        · split at z
          · exact h _ z
          · cases z
    have old : ∀ a, Own (upA (shA as l (l + 1)) l (some (.lf p))) H a → Own as H0 a ∨ H0 a = none := fun a h => by
      rcases (own a).mp h with h | h
      · rw [h]; exact hp0.symm
      · exact f0.new a h
    have keep : ∀ a o, ¬ Own as H0 a → H0 a = some o → H' a = some o := fun a o na e => fr.fr a o (fun z => by
      rcases old a z with w | w
      · exact na w
      · rw [w] at e; cases e) (f0.fr a o na e)
    obtain ⟨fr', E4, s4⟩ := E00.pop E' hl asE (by rw [upA_ne (by omega)]; unfold shA; rw [if_neg (by omega), if_pos rfl]) keep (fun a h => by
      rcases fr.new a h with z | z
      · exact old a z
      · by_cases w : Own as H0 a
        · exact .inl w
        · cases e : H0 a with
          | none => exact .inr rfl
          | some o => rw [f0.fr a o w e] at z; cases z) (fun a h => fr.liv a (f0.liv a h)) fun h => (fr.nst (nsE h)).trans (f0.nst h)
    exact k d _ v H' pr fr' E4 (q'.mono s4)
theorem re_callT {m : Nat} {F : FN} {dvs : List V} {dv : List PyData} {E0 : XK} {ta : TE} {t : TA} {fa : FA} {f : FC} (hd : ∀ H, DqAll K H dvs dv) (h0 : RN K J ta fa) (ha : RC K J t f) : RE K J (tCall (spF K m F) dvs E0 (tCons ta t)) (fCallT m F dv fa f) := by
  intro O as σ H Q ρ P E q k
  refine h0 O as σ H _ ρ _ E q fun ds ρ1 p xs H1 q1 f1 hp0 E1 hp1 d1 => ?_
  refine ha (plus O p) as σ H1 _ ρ1 _ E1 q1 fun ys ρ2 vs H2 q2 f2 E2 d2 => ?_
  obtain ⟨hm, nd, q2⟩ := q2
  obtain ⟨r, fit, q2⟩ := argF_of q2
  exact callT_core E (f1.trans f2) hp0 E2 (f2.fr _ _ (E1.newp hp1) hp1) (d1.fr f2) (E.notO E1 hp0 hp1) d2 hd fit hm nd q2 k
def fCallTS (sx m : Nat) (F : FN) (dv : List PyData) (a0 : FA) (a : FC) : FE := fun ρ P => a0 ρ fun ds ρ1 => a ρ1 fun xs ρ2 => xs.length + 1 + dv.length = m ∧ (ownIx xs).Nodup ∧ argF ρ2 xs fun r => match ρ2[sx]? with
  | some (.st S) => F (.own ds :: (r ++ dv.map .fz) ++ [.st S]) fun d out => P d ((wb ρ2 xs out.tail).set sx ((out.drop m).headD .no))
  | _ => False
/-! defs that raise or hand back a new list -/
abbrev FXM := List Sl → (List PyData → List Sl → Prop) → (PyData → List Sl → Prop) → Prop
def fnXM (n m : Nat) (b : (PyData → En → Prop) → FS) : FXM := fun sls P X => b (fun d ρ' => X d (ρ'.take n)) { nx := fun _ => False, rt := fun _ _ => False, ro := fun ds ρ' => P ds (ρ'.take n) } (sls ++ List.replicate (m - n) .no)
def fnXMS (n m : Nat) (b : (PyData → En → Prop) → FS) : FXM := fun sls P X => b (fun d ρ' => X d (ρ'.take n ++ ρ'.drop m)) { nx := fun _ => False, rt := fun _ _ => False, ro := fun ds ρ' => P ds (ρ'.take n ++ ρ'.drop m) } (sls.take n ++ List.replicate (m - n) .no ++ sls.drop n)
section
variable {P : Program} {w : World} {mg : Str → Option Value} {base : Heap} {k : Nat} {f : Addr} {fd : FuncData} {ps : List Str} {x qual : Str} {st : Stmt} {N : List Str}
end
def fCallXW (m : Nat) (F : FXM) (dv : List PyData) (X : PyData → En → Prop) (a : FC) : FA := fun ρ P => a ρ fun xs ρ1 => xs.length + dv.length = m ∧ (ownIx xs).Nodup ∧ argF ρ1 xs fun r => F (r ++ dv.map .fz) (fun d out => P d (wb ρ1 xs out)) fun d out => X d (wb ρ1 xs out)
end
end DL
/-! zip of a list and a tuple in any mix -/
namespace ZM
open PySem PySem.Spec PyProof.Rows L2
def SqK (K : PySem.W.Frag) (H : Hp) (k : Bool) (a : Addr) (xs : List V) : Prop := match k with
  | true => SqL K H a xs
  | false => SqT K H a xs
def itK (h : Heap) (k : Bool) (it a : Addr) (i : Nat) : Prop := match k with
  | true => h.IsListIter it a i
  | false => h.IsTupleIter it a i
theorem itK.at {h h' : Heap} {k : Bool} {it a : Addr} {i : Nat} (q : itK h k it a i) (e : ∀ o, h.get? it = some o → h'.get? it = some o) : itK h' k it a i := by
  cases k
  · exact Heap.IsTupleIter.at q e
  · exact Heap.IsListIter.at q e
theorem itK.obj {h : Heap} {k : Bool} {it a : Addr} {i : Nat} (q : itK h k it a i) : ∃ o, h.get? it = some o ∧ ∀ v, o.data ≠ .cell v := by
  cases k
  · obtain ⟨o, e, _, d⟩ := q
    exact ⟨o, e, fun v z => by rw [d] at z; cases z⟩
  · obtain ⟨o, e, _, d⟩ := q
    exact ⟨o, e, fun v z => by rw [d] at z; cases z⟩
section
variable {X : Cx} {pins : List (Addr × Obj)} {σ : L2.St} {H : Hp} {s : Shared}
end
theorem nn {a b : Nat} (h : a ≠ b) : @Ne Addr a b := h
theorem n2 {z a b : Nat} (h : z ≠ a) (h' : z ≠ b) : ¬ @Membership.mem Addr (List Addr) _ [a, b] z := fun q => by
  rcases List.mem_cons.mp q with q | q
  · exact h q
  · rcases List.mem_cons.mp q with q | q
    · exact h' q
    · cases q
theorem SqK.mono {K : PySem.W.Frag} {H H' : Hp} {k : Bool} {a : Addr} {xs : List V} (s : Same H H') (h : SqK K H k a xs) : SqK K H' k a xs := by
  cases k
  · exact Z.SqT.mono s h
  · exact Z.SqL.mono s h
end ZM
namespace DL
open PySem L2 Z PySem.Spec PyProof.Rows
variable [Tbs]
section
variable {K : PySem.W.Frag} {n : Nat} {J : Jv n}
def iZM (f : FA) : FA := fun ρ P => f ρ fun ds ρ1 => match ds with
  | [x, y] => seqF x fun es => seqF y fun gs => P (zipD es gs) ρ1
  | _ => False
end
/-! is not True -/
def oIsntT : G2 := fun a d P => match d with
  | .bool b => P (.bool (!isBool b a))
  | _ => False
end DL
/-! own lists and things of the store read as data while they stay -/
namespace DL
open PySem L2 Z PySem.Spec PyProof.Rows
variable [Tbs]
mutual
/-- a thing with what stands in the store now laid open -/
inductive Res (S : Sto) : PyData → PyData → Prop
  | refl (d : PyData) : Res S d d
  | lst {a : Addr} {ds ds' : List PyData} : S a = some (.lst ds) → ResAll S ds ds' → Res S (hdl a) (.list ds')
  | obj {a : Addr} {c : Str} {fs fs' : List (PyData × PyData)} : S a = some (.obj c fs) → ResFs S fs fs' → Res S (hdl a) (.dict ((.str c, .none) :: fs'))
  | tup {ds ds' : List PyData} : ResAll S ds ds' → Res S (.tuple ds) (.tuple ds')
  | list {ds ds' : List PyData} : ResAll S ds ds' → Res S (.list ds) (.list ds')
  | objF {c : Str} {fs fs' : List (PyData × PyData)} : ResFs S fs fs' → Res S (.dict ((.str c, .none) :: fs)) (.dict ((.str c, .none) :: fs'))
  | dct {a : Addr} {kd kd' : List (L2.Key × PyData)} : S a = some (.dct kd) → ResKs S kd kd' → Res S (hdl a) (dctD kd')
  | dctL {a : Addr} {od : PySem.Obj} {kv : List (L2.Key × V)} {kd kd' : List (L2.Key × PyData)} : S a = some (.dctL od kv kd) → ResKs S kd kd' → Res S (hdl a) (dctD kd')
inductive ResKs (S : Sto) : List (L2.Key × PyData) → List (L2.Key × PyData) → Prop
  | nil : ResKs S [] []
  | cons {k : L2.Key} {d d' : PyData} {ds ds' : List (L2.Key × PyData)} : Res S d d' → ResKs S ds ds' → ResKs S ((k, d) :: ds) ((k, d') :: ds')
inductive ResAll (S : Sto) : List PyData → List PyData → Prop
  | nil : ResAll S [] []
  | cons {d d' : PyData} {ds ds' : List PyData} : Res S d d' → ResAll S ds ds' → ResAll S (d :: ds) (d' :: ds')
inductive ResFs (S : Sto) : List (PyData × PyData) → List (PyData × PyData) → Prop
  | nil : ResFs S [] []
  | cons {f : Str} {d d' : PyData} {ds ds' : List (PyData × PyData)} : Res S d d' → ResFs S ds ds' → ResFs S ((.str f, d) :: ds) ((.str f, d') :: ds')
end
theorem ResAll.refl {S : Sto} : ∀ ds : List PyData, ResAll S ds ds
  | [] => .nil
  | d :: r => .cons (.refl d) (ResAll.refl r)
inductive ResSl (S : Sto) : Sl → Sl → Prop
  | fz {d d' : PyData} : Res S d d' → ResSl S (.fz d) (.fz d')
  | own {ds ds' : List PyData} : ResAll S ds ds' → ResSl S (.own ds) (.fz (.list ds'))
  | no : ResSl S .no .no
  | fgt {d : PyData} : ResSl S (.fz d) .no
  | fgo {ds : List PyData} : ResSl S (.own ds) .no
/-- what is seen of the slots while nothing changes -/
inductive ResEn (S : Sto) : En → En → Prop
  | nil : ResEn S [.st S] []
  | cons {s s' : Sl} {ρ ρ' : En} : ResSl S s s' → ResEn S ρ ρ' → ResEn S (s :: ρ) (s' :: ρ')
section
variable {K : PySem.W.Frag} {n : Nat} {J : Jv n}
section
variable {S : Sto} {G G' : Hp} {H : Hp}
theorem Dq.hdl_of {v : V} {a : Addr} (h : Dq K G v (DL.hdl a)) : v = .ref a := by
  unfold DL.hdl at h
  generalize e : PyData.dict [(PyData.none, PyData.int ↑a)] = d at h
  cases h <;> first | (cases e; done) | skip
  rename_i b
  unfold DL.hdl at e
  injection e with e
  injection e with e _
  injection e with _ e
  injection e with e
  rw [Int.ofNat.inj e]
mutual
theorem Res.dq (st : StoR K G H S) (s : Same G G') (k : ∀ a, S a ≠ none → G' a = H a) : ∀ {d d' : PyData} {v : V}, Res S d d' → Dq K G v d → Dq K G' v d'
  | _, _, _, .refl _, q => q.mono s
  | _, _, _, .lst e r, q => by
    rw [q.hdl_of]
    obtain ⟨u, e1, q1⟩ := st _ _ e
    cases q1 with
    | lst q1 => exact .lst (SqL.of (by rw [k _ (by rw [e]; exact Option.some_ne_none _)]; exact e1)) (ResAll.dq st s k r q1)
  | _, _, _, .obj e r, q => by
    rw [q.hdl_of]
    obtain ⟨u, e1, q1⟩ := st _ _ e
    cases q1 with
    | obj h q1 => exact .obj h (by rw [k _ (by rw [e]; exact Option.some_ne_none _)]; exact e1) (ResFs.dq st s k r q1)
  | _, _, _, .tup r, .tup h q => .tup (SqT.mono s h) (ResAll.dq st s k r q)
  | _, _, _, .list r, .lst h q => .lst (SqL.mono s h) (ResAll.dq st s k r q)
  | _, _, _, .objF r, q => by
    cases q with
    | obj h e q => exact .obj h (s _ _ e) (ResFs.dq st s k r q)
  | _, _, _, .dct e r, q => by
    rw [q.hdl_of]
    obtain ⟨u, e1, q1⟩ := st _ _ e
    cases q1 with
    | dct q1 => exact .dct (.inl (by rw [k _ (by rw [e]; exact Option.some_ne_none _)]; exact e1)) (ResKs.dq st s k r q1)
  | _, _, _, .dctL e r, q => by
    rw [q.hdl_of]
    obtain ⟨u, e1, q1⟩ := st _ _ e
    cases q1 with
    | dctL q1 => exact .dct (.inr ⟨_, by rw [k _ (by rw [e]; exact Option.some_ne_none _)]; exact e1⟩) (ResKs.dq st s k r q1)
theorem ResKs.dq (st : StoR K G H S) (s : Same G G') (k : ∀ a, S a ≠ none → G' a = H a) : ∀ {d d' : List (L2.Key × PyData)} {v : List (L2.Key × V)}, ResKs S d d' → DqKs K G v d → DqKs K G' v d'
  | _, _, _, .nil, .nil => .nil
  | _, _, _, .cons a r, .cons b q => .cons (Res.dq st s k a b) (ResKs.dq st s k r q)
theorem ResAll.dq (st : StoR K G H S) (s : Same G G') (k : ∀ a, S a ≠ none → G' a = H a) : ∀ {d d' : List PyData} {v : List V}, ResAll S d d' → DqAll K G v d → DqAll K G' v d'
  | _, _, _, .nil, .nil => .nil
  | _, _, _, .cons a r, .cons b q => .cons (Res.dq st s k a b) (ResAll.dq st s k r q)
theorem ResFs.dq (st : StoR K G H S) (s : Same G G') (k : ∀ a, S a ≠ none → G' a = H a) : ∀ {d d' : List (PyData × PyData)} {v : List (Str × V)}, ResFs S d d' → DqFs K G v d → DqFs K G' v d'
  | _, _, _, .nil, .nil => .nil
  | _, _, _, .cons a r, .cons b q => .cons (Res.dq st s k a b) (ResFs.dq st s k r q)
end
end
def frz : Sl → Sl
  | .own ds => .fz (.list ds)
  | s => s
def noA : As := fun _ => none
theorem own_no {a : Addr} {as : As} {H : Hs} (h : Own noA H a) : Own as H a := by
  rcases h with ⟨_, _, h, _⟩ | h
  · cases h
  · exact .inr h
theorem EnR.vis {O : Addr → Prop} {as : As} {H : Hs} {ρ : En} {σ : L2.St} (E : EnR K J O as H ρ σ) : ∀ i r b, as i = some r → Rgn H r b → ¬ Hid O noA H b := fun i r b h q w => by
  rcases w with w | ⟨_, _, w, _⟩ | w
  · exact E.out i r b h q w
  · cases w
  · exact E.tab.nod (E.nod h q) w
theorem EnR.visS {O : Addr → Prop} {as : As} {H : Hs} {ρ : En} {σ : L2.St} (_E : EnR K J O as H ρ σ) : Same (hq O as H) (hq O noA H) := hp_less fun a h => by
  rcases h with h | h
  · exact .inl h
  · exact .inr (own_no h)
/-- .. and the store -/
theorem ResEn.at_ {S : Sto} {i : Nat} {s' : Sl} : ∀ {ρ ρ' : En}, ResEn S ρ ρ' → ρ'[i]? = some s' → ∃ s, ρ[i]? = some s ∧ ResSl S s s' := fun {ρ ρ'} h => by
  induction h generalizing i with
  | nil => intro z; cases z
  | cons a r ih =>
    intro z
    cases i with
    | zero => cases z; exact ⟨_, rfl, a⟩
    | succ i => exact ih z
theorem ResEn.last {S : Sto} {ρ ρ' : En} (h : ResEn S ρ ρ') : ρ[ρ'.length]? = some (.st S) ∧ ρ.length = ρ'.length + 1 := by
  induction h with
  | nil => exact ⟨rfl, rfl⟩
  | cons a r ih => exact ⟨ih.1, by rw [List.length_cons, List.length_cons, ih.2]⟩
/-- but for tables nothing is changed -/
theorem EnR.still {O : Addr → Prop} {as : As} {H H' : Hs} {ρ : En} {σ : L2.St} (E : EnR K J O as H ρ σ) (f : Fr noA H H') (t : TabsOk H'.hp) : EnR K J O as H' ρ σ ∧ Fr as H H' := by
  have st : Stay as H H' := ⟨fun i r b h q => by
    have nd := E.nod h q
    obtain ⟨o, e, _⟩ := id nd
    rw [e]
    refine f.fr _ _ (fun z => ?_) e
    rcases z with ⟨_, _, z, _⟩ | z
    · cases z
    · exact E.tab.nod nd z, f.nst fun _ z => by cases z⟩
  have f' : Fr as H H' := ⟨f.fr.up fun a h => own_no h, fun a h => .inl (st.own.mp h), f.liv, fun _ => st.st⟩
  exact ⟨E.keepS st f' t, f'⟩
def noSt (ρ : En) : Bool := ρ.all fun s => match s with
  | .st _ => false
  | _ => true
def fBorT (f : FT) : FT := fun ρ P => noSt ρ = true ∧ f (ρ.map frz) fun b _ => P b ρ
mutual
/-- data that never changes, whatever does -/
def immD : PyData → Bool
  | .none => true
  | .bool _ => true
  | .int _ => true
  | .str _ => true
  | .tuple ds => immAll ds
  | .dict [(.bool false, .tuple ds)] => immAll ds
  | _ => false
def immAll : List PyData → Bool
  | [] => true
  | d :: r => immD d && immAll r
end
structure TupK (K : PySem.W.Frag) (G G' : Hp) : Prop where
  sq : ∀ a xs, SqT K G a xs → SqT K G' a xs
  fz : ∀ a o xs, G a = some (.frz o (.tup xs)) → G' a = some (.frz o (.tup xs))
mutual
theorem Dq.imm {G G' : Hp} (k : TupK K G G') : ∀ {v : V} {d : PyData}, immD d = true → Dq K G v d → Dq K G' v d
  | _, _, _, .non => .non
  | _, _, _, .bl b => .bl b
  | _, _, _, .int i => .int i
  | _, _, _, .str x => .str x
  | _, _, h, .tup s q => .tup (k.sq _ _ s) (DqAll.imm k (by rw [immD] at h; exact h) q)
  | _, _, h, .lst _ _ => by cases h
  | _, _, h, .obj _ _ _ => by simp [immD] at h
  | _, _, h, .exc _ _ _ _ => by simp [immD] at h
  | _, _, h, .fnc _ => by simp [immD] at h
  | _, _, h, .hdl => by simp [DL.hdl, immD] at h
  | _, _, h, .tn e n q => .tn (k.fz _ _ _ e) n (DqAll.imm k (by unfold tnD at h; rw [immD] at h; exact h) q)
  | _, _, h, .dct _ _ => by simp [dctD, immD] at h
theorem DqAll.imm {G G' : Hp} (k : TupK K G G') : ∀ {v : List V} {d : List PyData}, immAll d = true → DqAll K G v d → DqAll K G' v d
  | _, _, _, .nil => .nil
  | _, _, h, .cons a r => by
    rw [immAll, Bool.and_eq_true] at h
    exact .cons (Dq.imm k h.1 a) (DqAll.imm k h.2 r)
end
theorem EnR.noTup {O : Addr → Prop} {as : As} {H : Hs} {ρ : En} {σ : L2.St} (E : EnR K J O as H ρ σ) {a : Addr} {xs : List V} {u : HO} (h : H a = some u) (hu : u = .tup xs ∨ ∃ o, u = .frz o (.tup xs)) : ¬ Own as H a := fun q => by
  rcases q with ⟨i, r, e, q⟩ | q
  · rcases E.is_reg e with ⟨b, ds, ys, rfl, _, _, h3, _⟩ | ⟨rfl, _, _, st⟩
    · rw [q.lf_of, h3] at h
      cases h
      rcases hu with z | ⟨_, z⟩ <;> cases z
    · obtain ⟨o, e⟩ := Option.ne_none_iff_exists'.mp (show H.st a ≠ none from q)
      obtain ⟨u, e1, q1⟩ := st a o e
      rw [e1] at h
      cases h
      rcases hu with z | ⟨_, z⟩ <;> (subst z; cases q1)
  · obtain ⟨p, hp, z⟩ := q
    obtain ⟨ps, h1, _⟩ := E.tab p hp
    rw [z, h] at h1
    cases h1
    rcases hu with z | ⟨_, z⟩ <;> cases z
theorem EnR.tupS {O : Addr → Prop} {as : As} {H : Hs} {ρ : En} {σ : L2.St} (E : EnR K J O as H ρ σ) : TupK K (hq O noA H) (hq O as H) := by
  refine ⟨fun a xs h => ?_, fun a o xs h => ?_⟩
  · rcases h with (h | ⟨o, h⟩) | h
    · obtain ⟨n, e⟩ := hp_some h
      refine .inl (.inl (hp_mk (fun z => ?_) e))
      rcases z with z | z
      · exact n (.inl z)
      · exact E.noTup e (.inl rfl) z
    · obtain ⟨n, e⟩ := hp_some h
      refine .inl (.inr ⟨o, hp_mk (fun z => ?_) e⟩)
      rcases z with z | z
      · exact n (.inl z)
      · exact E.noTup e (.inr ⟨o, rfl⟩) z
    · exact .inr h
  · obtain ⟨n, e⟩ := hp_some h
    refine hp_mk (fun z => ?_) e
    rcases z with z | z
    · exact n (.inl z)
    · exact E.noTup e (.inr ⟨o, rfl⟩) z
def plainD (d : PyData) : Bool := immD d
def fBorE (f : FE) : FE := fun ρ P => noSt ρ = true ∧ f (ρ.map frz) fun d _ => immD d = true ∧ P d ρ
end
end DL
/-! a part of an own list replaced -/
namespace DL
open PySem L2 Z PySem.Spec PyProof.Rows
variable [Tbs]
section
variable {K : PySem.W.Frag} {n : Nat} {J : Jv n}
def fSetSl (i : Nat) (lo hi : FE) (f : FA) : FS := fun E ρ => f ρ fun es ρ1 => ownF ρ1 i fun _ => lo ρ1 fun x ρ2 => intF x fun a => hi ρ2 fun y ρ3 => intF y fun c => ownF ρ3 i fun ds => 0 ≤ a ∧ a ≤ c ∧ c ≤ ds.length ∧ ds.length + es.length ≤ sizeLine ∧ E.nx (ρ3.set i (.own (ds.take a.toNat ++ es ++ ds.drop c.toNat)))
end
end DL
/-! the end of a law whose def runs while no repr is under way, with one table of code objects -/
namespace Z
open PySem L2 PySem.Spec PyProof.Rows
end Z
namespace DL
open PySem
theorem numD_int (i : Int) : numD (.int i) = some i := rfl
theorem numD_bool (b : Bool) : numD (.bool b) = some (if b then 1 else 0) := rfl
end DL
/-! set(xs) of a list, sorted(set(xs)) -/
namespace DL
open PySem L2 Z PySem.Spec PyProof.Rows
section
variable {P : Program} {w : World} {A : Around} {E : Value → Shared → Prop} {s : Shared}
set_option maxRecDepth 100000 in
set_option maxHeartbeats 3200000 in
end
section
variable {X : Cx}
end
end DL
/-! things of the store: made, read, changed -/
namespace DL
open PySem L2 Z PySem.Spec PyProof.Rows
variable [Tbs]
def sset (S : Sto) (p : Addr) (o : SO) : Sto := fun a => if a = p then some o else S a
theorem sset_same {S : Sto} {p : Addr} {o : SO} : sset S p o p = some o := if_pos rfl
theorem sset_ne {S : Sto} {p a : Addr} {o : SO} (h : a ≠ p) : sset S p o a = S a := if_neg h
theorem sset_some {S : Sto} {p a : Addr} {o : SO} (h : sset S p o a ≠ none) : a = p ∨ S a ≠ none := by
  by_cases e : a = p
  · exact .inl e
  · rw [sset_ne e] at h; exact .inr h
/-- the store in its slot -/
def stF (ρ : En) (sx : Nat) (k : Sto → Prop) : Prop := match ρ[sx]? with
  | some (.st S) => k S
  | _ => False
theorem stF_of {ρ : En} {sx : Nat} {k : Sto → Prop} (h : stF ρ sx k) : ∃ S, ρ[sx]? = some (.st S) ∧ k S := by
  unfold stF at h
  split at h
  · next S e => exact ⟨S, e, h⟩
  · exact h.elim
section
variable {K : PySem.W.Frag} {n : Nat} {J : Jv n} {O : Addr → Prop} {as : As} {H : Hs} {ρ : En} {σ : L2.St} {S : Sto} {sx : Nat} {p : Addr}
theorem SoR.tab {H : Hp} {G : Hp} {u : HO} {o : SO} (t : TabsOk H) (h : H p = some u) (q : SoR K G u o) (v : HO) : TabsOk (upd H p v) := fun z hz => by
  obtain ⟨ps, t1, t2, t3⟩ := t z hz
  have ne : ∀ b w, H b = some w → w ≠ u → b ≠ p := fun b w e n' z' => n' (Option.some.inj (e.symm.trans (by rw [z']; exact h)))
  refine ⟨ps, by rw [upd_ne (ne _ _ t1 (fun z => q.ntb ps z.symm))]; exact t1, t2, fun po cv hcv => ?_⟩
  obtain ⟨cc, u1, u2⟩ := t3 po cv hcv
  exact ⟨cc, u1, by rw [upd_ne (ne _ _ u2 (fun z => by unfold LamX.CodeO at z; subst z; cases q))]; exact u2⟩
/-- what stands at a place of the store -/
theorem EnR.getS (E : EnR K J O as H ρ σ) (hs : ρ[sx]? = some (.st S)) {o : SO} (e : S p = some o) : ∃ u, H p = some u ∧ SoR K (hq O as H) u o := (E.st_at hs).2.2 p o e
/-- a thing of the store changed -/
theorem EnR.setS (E : EnR K J O as H ρ σ) (hs : ρ[sx]? = some (.st S)) {o : SO} (e : S p = some o) {u' : HO} {o' : SO} (q : SoR K (hq O as H) u' o') :
    EnR K J O as ⟨upd H p u', sset S p o'⟩ (ρ.set sx (.st (sset S p o'))) σ ∧ Fr as H ⟨upd H p u', sset S p o'⟩ := by
  obtain ⟨u, e1, q1⟩ := E.getS hs e
  obtain ⟨a1, e2, st⟩ := E.st_at hs
  have sp : S p ≠ none := by rw [e]; exact Option.some_ne_none _
  refine E.putS hs (fun a o ha ho => by rw [upd_ne (fun z => sp (by rw [← z]; exact ha))]; exact ho) (fun a ha => ?_) (q1.tab E.tab e1 u') (liv_upd _) fun F => ?_
  · rcases sset_some ha with z | z
    · rw [z]; exact .inl sp
    · exact .inl z
  · intro a w hw
    by_cases z : a = p
    · subst z
      rw [sset_same] at hw
      cases hw
      exact ⟨_, upd_same, q.mono F.same⟩
    · rw [sset_ne z] at hw
      obtain ⟨v, h1, h2⟩ := st a w hw
      exact ⟨v, by rw [upd_ne z]; exact h1, h2.mono F.same⟩
/-- a new thing in the store -/
theorem EnR.addS (E : EnR K J O as H ρ σ) (hs : ρ[sx]? = some (.st S)) (hp : H p = none) {u' : HO} {o' : SO} (q : SoR K (hq O as H) u' o') :
    S p = none ∧ EnR K J O as ⟨upd H p u', sset S p o'⟩ (ρ.set sx (.st (sset S p o'))) σ ∧ Fr as H ⟨upd H p u', sset S p o'⟩ := by
  obtain ⟨a1, e2, st⟩ := E.st_at hs
  have sp : S p = none := by
    cases e : S p with
    | none => rfl
    | some o =>
      obtain ⟨u, e1, _⟩ := st p o e
      rw [hp] at e1; cases e1
  refine ⟨sp, E.putS hs (fun a o ha ho => by rw [upd_ne (ne_of_none ho hp)]; exact ho) (fun a ha => ?_) (E.tab.ext (Same.new hp)) (liv_upd _) fun F => ?_⟩
  · rcases sset_some ha with z | z
    · rw [z]; exact .inr hp
    · exact .inl z
  · intro a w hw
    by_cases z : a = p
    · subst z
      rw [sset_same] at hw
      cases hw
      exact ⟨_, upd_same, q.mono F.same⟩
    · rw [sset_ne z] at hw
      obtain ⟨v, h1, h2⟩ := st a w hw
      exact ⟨v, by rw [upd_ne z]; exact h1, h2.mono F.same⟩
end
section
variable {K : PySem.W.Frag} {n : Nat} {J : Jv n} {sx : Nat}
/-- a new list, laid into the store -/
def fNewL (sx : Nat) (f : FA) : FE := fun ρ P => f ρ fun ds ρ1 => stF ρ1 sx fun S => ∀ p, S p = none → P (hdl p) (ρ1.set sx (.st (sset S p (.lst ds))))
/-! objects -/
/-- the object at a place of the store -/
def ObjAt (S : Sto) (d : PyData) (c : Str) (fs : List (PyData × PyData)) : Prop := ∃ p, d = hdl p ∧ S p = some (.obj c fs)
/-- an object, of the store or one that stays -/
def ObjU (S : Sto) (d : PyData) (c : Str) (fs : List (PyData × PyData)) : Prop := ObjAt S d c fs ∨ d = .dict ((.str c, .none) :: fs)
def fFldU (sx : Nat) (c f : Str) (a : FE) : FE := fun ρ P => a ρ fun d ρ1 => stF ρ1 sx fun S => ∃ fs v, ObjU S d c fs ∧ fldD f fs = some v ∧ P v ρ1
/-- a field's value put -/
def putD (f : Str) (v : PyData) : List (PyData × PyData) → List (PyData × PyData)
  | [] => [(.str f, v)]
  | (.str g, d) :: r => if g = f then (.str g, v) :: r else (.str g, d) :: putD f v r
  | z :: r => z :: putD f v r
theorem DqFs.put {G : Hp} {f : Str} {v : V} {d : PyData} (q : Dq K G v d) : ∀ {fv : List (Str × V)} {fs : List (PyData × PyData)}, DqFs K G fv fs → DqFs K G (putF f v fv) (putD f d fs)
  | _, _, .nil => .cons q .nil
  | _, _, .cons (f := g) a r => by
    unfold putF putD
    by_cases e : g = f
    · rw [if_pos e, if_pos e]; exact .cons q r
    · rw [if_neg e, if_neg e]; exact .cons a (DqFs.put q r)
theorem DqFs.len {G : Hp} : ∀ {fv : List (Str × V)} {fs : List (PyData × PyData)}, DqFs K G fv fs → fv.length = fs.length
  | _, _, .nil => rfl
  | _, _, .cons _ r => by rw [List.length_cons, List.length_cons, DqFs.len r]
/-- o.f = e -/
def fSetF (sx : Nat) (c f : Str) (a b : FE) : FS := fun E ρ => b ρ fun v ρ1 => a ρ1 fun d ρ2 => stF ρ2 sx fun S => ∃ p fs, d = hdl p ∧ S p = some (.obj c fs) ∧ fs.length < 1000 ∧ E.nx (ρ2.set sx (.st (sset S p (.obj c (putD f v fs)))))
theorem rs_setF {C : Addr} {c f : Str} {ta tb : TE} {a b : FE} (hc : PySem.W.nsIn K mainGlobals c = some (some (.ref C))) (cl : Cls K C) (na : NoAttr K C f) (ha : RE K J ta a) (hb : RE K J tb b) : RS K J (sFld K ta tb f) (fSetF sx c f a b) := by
  intro O as σ H D ρ E R q Cr
  refine hb O as σ H _ ρ _ R q fun v ρ1 y H1 q1 f1 E1 d1 => ?_
  refine ha O as σ H1 _ ρ1 _ E1 q1 fun d ρ2 x H2 q2 f2 E2 d2 => ?_
  obtain ⟨S, hs, p, fs, rfl, e, l, q2⟩ := stF_of q2
  rw [d2.hdl_of]
  obtain ⟨u, e1, r1⟩ := E2.getS hs e
  cases r1 with
  | @obj C' dx _ fv _ h1 r1 =>
    rw [hc] at h1
    cases h1
    refine ⟨p, C, dx, fv, rfl, e1, cl, na, by rw [r1.len]; exact l, ?_⟩
    obtain ⟨E3, f3⟩ := E2.setS hs e (u' := .ins C dx (putF f y fv)) (o' := .obj c (putD f v fs)) (.obj hc (DqFs.put (d1.fr f2) r1))
    exact Cr.nx _ _ _ _ q2 (.of ((f1.trans f2).trans f3)) E3
/-- o.f += e (numbers) -/
def fAugF (sx : Nat) (c f : Str) (a b : FE) (h : Int → Int → Int) : FS := fun E ρ => a ρ fun d ρ1 => stF ρ1 sx fun S1 => ∃ p fs i, d = hdl p ∧ S1 p = some (.obj c fs) ∧ fldD f fs = some (.int i) ∧ b ρ1 fun y ρ2 => intF y fun j => stF ρ2 sx fun S => ∃ fs', S p = some (.obj c fs') ∧ fs'.length < 1000 ∧ E.nx (ρ2.set sx (.st (sset S p (.obj c (putD f (.int (h i j)) fs')))))
end
end DL
/-! constructors and methods of things of the store -/
namespace DL
open PySem L2 Z PySem.Spec PyProof.Rows
variable [Tbs]
section
variable {K : PySem.W.Frag} {n : Nat} {J : Jv n} {sx : Nat}
/-- a new instance in the store -/
theorem EnR.newS {O : Addr → Prop} {as : As} {H : Hs} {ρ : En} {σ : L2.St} {S : Sto} {C x dx : Addr} {c : Str} (E : EnR K J O as H ρ σ) (hs : ρ[sx]? = some (.st S)) (hc : PySem.W.nsIn K mainGlobals c = some (some (.ref C))) (hx : H x = none) (hd : H dx = none) (ne : dx ≠ x) :
    S x = none ∧ EnR K J O as ⟨upd (upd H dx (.own x)) x (.ins C dx []), sset S x (.obj c [])⟩ (ρ.set sx (.st (sset S x (.obj c [])))) σ ∧ Fr as H ⟨upd (upd H dx (.own x)) x (.ins C dx []), sset S x (.obj c [])⟩ := by
  have E1 := E.grow (Same.new (o := .own x) hd)
  have f1 := E.frS (Same.new (o := .own x) hd)
  obtain ⟨sp, E2, f2⟩ := E1.addS (p := x) hs (by show upd H dx _ x = none; rw [upd_ne (Ne.symm ne)]; exact hx) (u' := .ins C dx []) (o' := .obj c []) (.obj hc .nil)
  exact ⟨sp, E2, f1.trans f2⟩
/-- C(..), its instance in the store -/
def fMkS (sx : Nat) (c : Str) (m : Nat) (F : FN) (dv : List PyData) (f : FA) : FE := fun ρ P => f ρ fun ds ρ1 => (ds ++ dv).length + 1 = m ∧ stF ρ1 sx fun S => ∀ x, S x = none → F (.fz (hdl x) :: ((ds ++ dv).map .fz ++ [.st (sset S x (.obj c []))])) fun d out => d = .none ∧ P (hdl x) (ρ1.set sx ((out.drop m).headD .no))
def fMkNS (sx : Nat) (c : Str) (l : Nat) (F : FN) (n m : Nat) (gD : List PyData → List PyData → List PyData) (f fk : FA) : FE := fun ρ P => f ρ fun ds ρ1 => fk ρ1 fun es ρ2 => ds.length = n ∧ es.length = m ∧ (gD ds es).length + 1 = l ∧ stF ρ2 sx fun S => ∀ x, S x = none → F (.fz (hdl x) :: ((gD ds es).map .fz ++ [.st (sset S x (.obj c []))])) fun d out => d = .none ∧ P (hdl x) (ρ2.set sx ((out.drop l).headD .no))
/-- the store of a constructor alone -/
def sto1 (x : Addr) (c : Str) : Sto := sset noS x (.obj c [])
def asX (m : Nat) : As := fun i => if i = m then some .sto else none
theorem asX_of {m i : Nat} {r : Rg} (h : asX m i = some r) : i = m ∧ r = .sto := by
  unfold asX at h
  split at h
  · next z => cases h; exact ⟨z, rfl⟩
  · cases h
/-- C(..), an instance that stays -/
def fMkZ (c : Str) (m : Nat) (F : FN) (dv : List PyData) (f : FA) : FE := fun ρ P => f ρ fun ds ρ1 => (ds ++ dv).length + 1 = m ∧ ∀ x, F (.fz (hdl x) :: ((ds ++ dv).map .fz ++ [.st (sto1 x c)])) fun d out => d = .none ∧ ∃ S' o, out[m]? = some (.st S') ∧ Res S' (hdl x) o ∧ P o ρ1
def fMkNZ (c : Str) (l : Nat) (F : FN) (n m : Nat) (gD : List PyData → List PyData → List PyData) (f fk : FA) : FE := fun ρ P => f ρ fun ds ρ1 => fk ρ1 fun es ρ2 => ds.length = n ∧ es.length = m ∧ (gD ds es).length + 1 = l ∧ ∀ x, F (.fz (hdl x) :: ((gD ds es).map .fz ++ [.st (sto1 x c)])) fun d out => d = .none ∧ ∃ S' o, out[l]? = some (.st S') ∧ Res S' (hdl x) o ∧ P o ρ2
/-! methods -/
/-- o.m(..) of an object that stays -/
def fMeth (c x : Str) (m : Nat) (F : FN) (dv : List PyData) (a : FE) (b : FC) : FE := fun ρ P => a ρ fun d ρ1 => objF c d fun fs => fldD x fs = none ∧ b ρ1 fun xs ρ2 => xs.length + dv.length + 1 = m ∧ (ownIx xs).Nodup ∧ argF ρ2 xs fun r => F (.fz d :: (r ++ dv.map .fz)) fun e out => P e (wb ρ2 xs out.tail)
def fMethW (c x : Str) (m : Nat) (F : FM) (dv : List PyData) (a : FE) (b : FC) : FA := fun ρ P => a ρ fun d ρ1 => objF c d fun fs => fldD x fs = none ∧ b ρ1 fun xs ρ2 => xs.length + dv.length + 1 = m ∧ (ownIx xs).Nodup ∧ argF ρ2 xs fun r => F (.fz d :: (r ++ dv.map .fz)) fun e out => P e (wb ρ2 xs out.tail)
/-- o.m(..) that is handed the store -/
def fMethS (sx : Nat) (c x : Str) (m : Nat) (F : FN) (dv : List PyData) (a : FE) (b : FC) : FE := fun ρ P => a ρ fun d ρ1 => stF ρ1 sx fun S1 => ∃ fs, ObjU S1 d c fs ∧ fldD x fs = none ∧ b ρ1 fun xs ρ2 => xs.length + dv.length + 1 = m ∧ (ownIx xs ++ [sx]).Nodup ∧ argF ρ2 xs fun r => stF ρ2 sx fun S => F (.fz d :: (r ++ dv.map .fz ++ [.st S])) fun e out => P e ((wb ρ2 xs out.tail).set sx ((out.drop m).headD .no))
def fMethWS (sx : Nat) (c x : Str) (m : Nat) (F : FM) (dv : List PyData) (a : FE) (b : FC) : FA := fun ρ P => a ρ fun d ρ1 => stF ρ1 sx fun S1 => ∃ fs, ObjU S1 d c fs ∧ fldD x fs = none ∧ b ρ1 fun xs ρ2 => xs.length + dv.length + 1 = m ∧ (ownIx xs ++ [sx]).Nodup ∧ argF ρ2 xs fun r => stF ρ2 sx fun S => F (.fz d :: (r ++ dv.map .fz ++ [.st S])) fun e out => P e ((wb ρ2 xs out.tail).set sx ((out.drop m).headD .no))
end
end DL
/-! augmented operators; sorted(set(numbers)); defs that hand back data or a new list -/
namespace DL
open PySem L2 Z PySem.Spec PyProof.Rows
variable [Tbs]
section
variable {K : PySem.W.Frag} {n : Nat} {J : Jv n}
/-! augmented operators -/
def fAugR (i : Nat) (g : G2) (a : FE) : FS := fun E ρ => match ρ[i]? with
  | some (.fz x) => a ρ fun y ρ1 => g x y fun d => gN i d ρ1 E.nx
  | _ => False
def oShlW : G2 := o2c CShl fun i j => .int (i * 2 ^ j.toNat)
/-! sorted(set(numbers)) -/
def nSortSet (ds : List PyData) (P : List PyData → Prop) : Prop := one ds fun d => listF d fun es => intsF es fun ns => ns.length < 64 ∧ ∀ ms : List Int, ms.Pairwise (· < ·) → (∀ k, k ∈ ms ↔ k ∈ ns) → P (ms.map .int)
/-! defs that hand back data, or a new list -/
abbrev FU := List Sl → (PyData → List Sl → Prop) → (List PyData → List Sl → Prop) → Prop
abbrev FV' := En → (PyData → En → Prop) → (List PyData → En → Prop) → Prop
def RV (K : PySem.W.Frag) {n : Nat} (J : Jv n) (t : TE) (f : FV') : Prop := ∀ (O : Addr → Prop) (as : As) (σ : L2.St) (H : Hs) (Q : VK) (ρ : En) (P : PyData → En → Prop) (P2 : List PyData → En → Prop), EnR K J O as H ρ σ → f ρ P P2 →
  (∀ d ρ' v H', P d ρ' → Fr as H H' → EnR K J O as H' ρ' σ → Dq K (hq O as H') v d → Q v H') →
  (∀ ds ρ' p xs H', P2 ds ρ' → Fr as H H' → NewO as H p → EnR K J (plus O p) as H' ρ' σ → H' p = some (.lst xs) → DqAll K (hq (plus O p) as H') xs ds → Q (.ref p) H') → t σ H Q
def fnU (n m : Nat) (b : FS) : FU := fun sls P P2 => b { nx := fun ρ' => P .none (ρ'.take n), rt := fun d ρ' => P d (ρ'.take n), ro := fun ds ρ' => P2 ds (ρ'.take n) } (sls ++ List.replicate (m - n) .no)
def fnUS (n m : Nat) (b : FS) : FU := fun sls P P2 => b { nx := fun ρ' => P .none (ρ'.take n ++ ρ'.drop m), rt := fun d ρ' => P d (ρ'.take n ++ ρ'.drop m), ro := fun ds ρ' => P2 ds (ρ'.take n ++ ρ'.drop m) } (sls.take n ++ List.replicate (m - n) .no ++ sls.drop n)
section
variable {P : Program} {w : World} {mg : Str → Option Value} {base : Heap} {k : Nat} {f : Addr} {fd : FuncData} {ps : List Str} {x qual : Str} {st : Stmt} {N : List Str} {b : FS}
end
def fCallU (m : Nat) (F : FU) (dv : List PyData) (a : FC) : FV' := fun ρ P P2 => a ρ fun xs ρ1 => xs.length + dv.length = m ∧ (ownIx xs).Nodup ∧ argF ρ1 xs fun r => F (r ++ dv.map .fz) (fun d out => P d (wb ρ1 xs out)) fun d out => P2 d (wb ρ1 xs out)
/-- what is handed back is stored: data, or a list of its own -/
def fOwnV (i : Nat) (a : FV') : FS := fun E ρ => a ρ (fun d ρ1 => slotF ρ1 i = true ∧ E.nx (ρ1.set i (.fz d))) fun ds ρ1 => slotL ρ1 i = true ∧ E.nx (ρ1.set i (.own ds))
end
end DL
namespace DL
open PySem L2 Z PySem.Spec PyProof.Rows
variable [Tbs]
section
variable {K : PySem.W.Frag} {n : Nat} {J : Jv n}
def fIfN (c : FT) (a b : FA) : FA := fun ρ P => c ρ fun k ρ1 => if k = true then a ρ1 P else b ρ1 P
end
end DL
/-! i, j, l = e, [..], e' by way of the tuple -/
namespace DL
open PySem L2 Z PySem.Spec PyProof.Rows
variable [Tbs]
section
variable {K : PySem.W.Frag} {n : Nat} {J : Jv n}
def fPar3O2 (i j l : Nat) (a : FE) (b : FA) (c : FE) : FS := fun E ρ => a ρ fun d ρ1 => b ρ1 fun ds ρ2 => c ρ2 fun d' ρ3 => gN i d ρ3 fun ρ4 => slotL ρ4 j = true ∧ gN l d' (ρ4.set j (.own ds)) E.nx
/-- a name that holds data, or a list of its own, is handed back -/
def fRetV (i : Nat) : FS := fun E ρ => match ρ[i]? with
  | some (.own _) => fRetO i E ρ
  | _ => fRet (fV i) E ρ
end
end DL
/-! lists of the store: changed by way of a handle -/
namespace DL
open PySem L2 Z PySem.Spec PyProof.Rows
variable [Tbs]
section
variable {K : PySem.W.Frag} {n : Nat} {J : Jv n} {sx : Nat}
/-- h[k] = e -/
def gSubH (sx : Nat) (a b : FE) : FG := fun d ρ P => a ρ fun x ρ1 => b ρ1 fun k ρ2 => intF k fun k => stF ρ2 sx fun S => ∃ p ds j, x = hdl p ∧ S p = some (.lst ds) ∧ ixN ds.length k = some j ∧ P (ρ2.set sx (.st (sset S p (.lst (ds.set j d)))))
/-- h[k] += e -/
def fAugH (sx : Nat) (a b e : FE) (h : Int → Int → Int) : FS := fun E ρ => a ρ fun x ρ1 => b ρ1 fun k ρ2 => intF k fun k => stF ρ2 sx fun S => ∃ p ds c, x = hdl p ∧ S p = some (.lst ds) ∧ atI ds k = some (.int c) ∧ e ρ2 fun y ρ3 => intF y fun y => stF ρ3 sx fun S' => ∃ es j, S' p = some (.lst es) ∧ ixN es.length k = some j ∧ E.nx (ρ3.set sx (.st (sset S' p (.lst (es.set j (.int (h c y)))))))
/-- h.append(e) -/
def fAppH (sx : Nat) (a e : FE) : FS := fun E ρ => a ρ fun x ρ1 => stF ρ1 sx fun S => ∃ p ds, x = hdl p ∧ S p = some (.lst ds) ∧ e ρ1 fun d ρ2 => stF ρ2 sx fun S' => ∃ es, S' p = some (.lst es) ∧ es.length < sizeLine ∧ E.nx (ρ2.set sx (.st (sset S' p (.lst (es ++ [d])))))
/-- a handle's list read as a value: h[k] -/
def fIxH (sx : Nat) (a b : FE) : FE := fun ρ P => a ρ fun x ρ1 => b ρ1 fun k ρ2 => intF k fun k => stF ρ2 sx fun S => ∃ p ds d, x = hdl p ∧ S p = some (.lst ds) ∧ atI ds k = some d ∧ P d ρ2
/-- len(h) -/
def fLenH (sx : Nat) (a : FE) : FE := fun ρ P => a ρ fun x ρ1 => stF ρ1 sx fun S => ∃ p ds, x = hdl p ∧ S p = some (.lst ds) ∧ P (.int ds.length) ρ1
/-- a statement that is never reached -/
def fNo : FS := fun _ _ => False
end
end DL
/-! sets of texts: set(xs), sorted(set(xs)) -/
namespace DL
open PySem L2 Z PySem.Spec PyProof.Rows
/-- the text of a member -/
def txtOf : Int × Value → Str
  | (_, .str z _) => z
  | _ => Str.ofString ""
def TxtE (w : World) (m : Int × Value) : Prop := ∃ z u, m = (hashStr w z, Value.str z u)
structure SetTOk (w : World) (ms : Array (Int × Value)) (tb : SetTable) (S : Str → Bool) (n : Nat) : Prop where
  good : ∀ m ∈ ms.toList, TxtE w m
  nd : (ms.toList.map txtOf).Nodup
  mem : ∀ z, S z = true ↔ z ∈ ms.toList.map txtOf
  small : ms.size < scanBound
  fits : tb.fits ms.size = true
  len : ms.size = n
  ris : Ris tb.place.toList
  led : w.params.followText "set-order" = true ∨ tb.led = true
def SetT (w : World) (h : Heap) (a : Addr) (S : Str → Bool) (n : Nat) : Prop := ∃ o ms ep tb, h.get? a = some o ∧ o.ExactSet ∧ o.data = .set ms ep tb ∧ SetTOk w ms tb S n
section
variable {P : Program} {w : World} {h h' : Heap} {a : Addr} {S : Str → Bool} {n : Nat}
theorem SetT.keep (R : SetT w h a S n) (k : ∀ o, h.get? a = some o → h'.get? a = some o) : SetT w h' a S n := R.imp fun o r => r.imp fun _ r => r.imp fun _ r => r.imp fun _ r => ⟨k o r.1, r.2⟩
theorem SetT.eqv {S' : Str → Bool} (R : SetT w h a S n) (e : ∀ z, S' z = S z) : SetT w h a S' n := by rw [show S' = S from funext e]; exact R
end
section
variable {P : Program} {w : World} {A : Around} {E : Value → Shared → Prop} {s : Shared} {a : Addr} {S : Str → Bool} {n : Nat}
end
end DL
/-! set(xs) of texts, sorted(set(xs)) -/
namespace DL
open PySem L2 Z PySem.Spec PyProof.Rows
variable [Tbs]
section
variable {P : Program} {w : World} {A : Around} {E : Value → Shared → Prop} {s : Shared}
theorem strs_of : ∀ l : List Value, (∀ v ∈ l, ∃ z u, v = Value.str z u) → ∃ zs : List Str, StrsAre l zs ∧ ∀ (f : Value → Str), (∀ z u, f (.str z u) = z) → zs = l.map f
  | [], _ => ⟨[], .nil, fun _ _ => rfl⟩
  | v :: l, h => by
    obtain ⟨z, u, rfl⟩ := h v List.mem_cons_self
    obtain ⟨zs, h1, h2⟩ := strs_of l fun x hx => h x (List.mem_cons_of_mem _ hx)
    exact ⟨z :: zs, .cons z u h1, fun f hf => by rw [List.map_cons, hf, h2 f hf]⟩
end
section
variable {X : Cx}
end
/-! over data -/
section
variable {K : PySem.W.Frag} {n : Nat} {J : Jv n}
def nSortSetT (ds : List PyData) (P : List PyData → Prop) : Prop := one ds fun d => listF d fun es => strsF es fun zs => zs.length < 64 ∧ ∀ ms : List Str, sortedS ms = true → ms.Nodup → (∀ z, z ∈ ms ↔ z ∈ zs) → P (ms.map .str)
end
end DL
/-! marked tuples (no dict of their own): tuple(xs), t.count(x), t.index(x) -/
namespace DL
open PySem L2 Z PySem.Spec PyProof.Rows
variable [Tbs]
section
variable {X : Cx}
variable {o e : Expr} {es : List Expr} {to : TE} {t : TA} {name : Str} {apos cpos : Pos} {id : String} {r : V → List V → Hp → VK → Prop}
end
end DL
/-! marked tuples over data -/
namespace DL
open PySem L2 Z PySem.Spec PyProof.Rows
variable [Tbs]
section
variable {X : Cx}
end
section
variable {K : PySem.W.Frag} {n : Nat} {J : Jv n}
/-- the mark taken off -/
def unT : PyData → PyData
  | .dict [(.bool false, .tuple ds)] => .tuple ds
  | d => d
def tnF (d : PyData) (k : List PyData → Prop) : Prop := match d with
  | .dict [(.bool false, .tuple ds)] => k ds
  | _ => False
theorem Dq.tn_of {G : Hp} {v : V} {ds : List PyData} (q : Dq K G v (tnD ds)) : ∃ a o xs, v = .ref a ∧ G a = some (.frz o (.tup xs)) ∧ o.dict = none ∧ DqAll K G xs ds := by
  unfold tnD at q
  generalize e : PyData.dict [(PyData.bool false, PyData.tuple ds)] = d at q
  cases q <;> first | (cases e; done) | skip
  next a o xs ds' h n r =>
    unfold tnD at e
    cases e
    exact ⟨a, o, xs, rfl, h, n, r⟩
theorem SqT.frz {G : Hp} {a : Addr} {o : PySem.Obj} {xs : List V} (h : G a = some (.frz o (.tup xs))) : SqT K G a xs := .inl (.inr ⟨o, h⟩)
theorem Dq.un {G : Hp} {v : V} {d : PyData} (q : Dq K G v d) : Dq K G v (unT d) := by
  unfold unT
  split
  · next ds =>
    obtain ⟨a, o, xs, rfl, h, _, r⟩ := Dq.tn_of (ds := ds) q
    exact .tup (SqT.frz h) r
  · exact q
def fUnT (a : FE) : FE := fun ρ P => a ρ fun d ρ1 => P (unT d) ρ1
/-- tuple(xs), marked -/
def fTupN (a : FE) : FE := fun ρ P => a ρ fun d ρ1 => match d with
  | .list es => P (tnD es) ρ1
  | .dict [(.bool false, .tuple es)] => P (tnD es) ρ1
  | _ => False
/-- t.count(x) -/
def fCntT (a b : FE) : FE := fun ρ P => a ρ fun x ρ1 => tnF x fun ds => b ρ1 fun d ρ2 => SeqAt.shaped (.tuple ds) = true ∧ SeqAt.shaped d = true ∧ d.depth < 63 ∧ P (.int (ds.countP fun z => PyData.eqv z d : Nat)) ρ2
/-- t.index(x) -/
def fIdxT (a b : FE) : FE := fun ρ P => a ρ fun x ρ1 => tnF x fun ds => b ρ1 fun d ρ2 => SeqAt.shaped (.tuple ds) = true ∧ SeqAt.shaped d = true ∧ d.depth < 63 ∧ ∃ (j : Nat) (z : PyData), ds[j]? = some z ∧ PyData.eqv z d = true ∧ (∀ (m : Nat) (z' : PyData), m < j → ds[m]? = some z' → PyData.eqv z' d = false) ∧ P (.int (j : Nat)) ρ2
end
end DL
/-! marks taken off, however deep -/
namespace DL
open PySem L2 Z PySem.Spec PyProof.Rows
variable [Tbs]
mutual
def unD : PyData → PyData
  | .list ds => .list (unAll ds)
  | .tuple ds => .tuple (unAll ds)
  | .dict [(.bool false, .tuple ds)] => .tuple (unAll ds)
  | d => d
def unAll : List PyData → List PyData
  | [] => []
  | d :: r => unD d :: unAll r
end
section
variable {K : PySem.W.Frag} {n : Nat} {J : Jv n} {G : Hp}
mutual
theorem Dq.deep : ∀ {v : V} {d : PyData}, Dq K G v d → Dq K G v (unD d)
  | _, _, .non => by rw [unD] <;> first | exact .non | (intros; contradiction)
  | _, _, .bl b => by rw [unD] <;> first | exact .bl b | (intros; contradiction)
  | _, _, .int i => by rw [unD] <;> first | exact .int i | (intros; contradiction)
  | _, _, .str x => by rw [unD] <;> first | exact .str x | (intros; contradiction)
  | _, _, .lst h r => by rw [unD]; exact .lst h (DqAll.deep r)
  | _, _, .tup h r => by rw [unD]; exact .tup h (DqAll.deep r)
  | _, _, .obj c h r => by rw [unD] <;> first | exact .obj c h r | (intros; simp_all)
  | _, _, .exc c h g r => by rw [unD] <;> first | exact .exc c h g r | (intros; simp_all)
  | _, _, .fnc h => by rw [unD] <;> first | exact .fnc h | (intros; simp_all)
  | _, _, .hdl => by unfold hdl; rw [unD] <;> first | exact .hdl | (intros; simp_all)
  | _, _, .tn h _ r => by unfold tnD; rw [unD]; exact .tup (SqT.frz h) (DqAll.deep r)
  | _, _, .dct h r => by unfold dctD; rw [unD] <;> first | exact .dct h r | (intros; simp_all)
theorem DqAll.deep : ∀ {v : List V} {d : List PyData}, DqAll K G v d → DqAll K G v (unAll d)
  | _, _, .nil => by rw [unAll]; exact .nil
  | _, _, .cons a r => by rw [unAll]; exact .cons (Dq.deep a) (DqAll.deep r)
end
def fUnD (a : FE) : FE := fun ρ P => a ρ fun d ρ1 => P (unD d) ρ1
end
end DL
/-! own == e, own != e, marks taken off -/
namespace DL
open PySem L2 Z PySem.Spec PyProof.Rows
variable [Tbs]
section
variable {K : PySem.W.Frag} {n : Nat} {J : Jv n}
def fEqOU (h : Bool → Bool) (i : Nat) (b : FE) : FE := fun ρ P => ownF ρ i fun _ => b ρ fun y ρ1 => ownF ρ1 i fun ds => SeqAt.shaped (.list (unAll ds)) = true ∧ SeqAt.shaped y = true ∧ P (.bool (h (PyData.eqv (.list (unAll ds)) y))) ρ1
end
end DL
/-! enumerate of a list or a tuple -/
namespace EM
open PySem PySem.Spec PyProof.Rows L2 ZM
set_option maxHeartbeats 1000000 in
theorem meets_enum1 {v : Value} {o : Obj} {Z : Heap → Prop} (B : Begins v o Z) :
    Meets (Builtin.«enumerate.__new__» ⟨[.type "enumerate", v], []⟩) (fun _ R s => Z s.heap ∧
      R (.ok (.ret (.ref (s.heap.push o).objs.size))) { s with heap := (s.heap.push o).push { cls := .type "enumerate", data := .fields #[.none, .bool false, .ref s.heap.objs.size, rawInt 0, .none, .none] } }) :=
  .of_wp fun prog w A R s h => by
    obtain ⟨hp, g, d, tk, os⟩ := s; obtain ⟨h1, h⟩ := h
    have hsub := sub_enumerate
    have q1 : ∀ {A' : Around} {E : Value → Shared → Prop} {Q : Value → Shared → Prop}, Q (.ref hp.objs.size) ⟨hp.push o, g, d, tk, os⟩ → wpAny (model prog w) A' (pyIter v) Q E ⟨hp, g, d, tk, os⟩ :=
      fun q => B.iter prog w _ _ ⟨hp, g, d, tk, os⟩ _ h1 q
    wp_walk using q1
    refine wpAny_stack_any fun st => wpAny_pure ?_
    split
    · rename_i c _ _ _ _ _
      cases (c == Value.type "enumerate")
      · wp_walk using q1
        exact ⟨_, rfl, h⟩
      · wp_walk using q1
        exact ⟨_, rfl, h⟩
    · wp_walk using q1
      exact ⟨_, rfl, h⟩
end EM
/-! enumerate of a list or a tuple: the call -/
namespace EM
open PySem PySem.Spec PyProof.Rows L2 ZM
section
variable {prog : Program} {w : World} {A : Around} {E : Value → Shared → Prop} {s : Shared}
end
end EM
/-! enumerate of a list or a tuple: its turns -/
namespace EM
open PySem PySem.Spec PyProof.Rows L2 ZM
end EM
namespace DL
open PySem L2 Z PySem.Spec PyProof.Rows
variable [Tbs]
section
variable {K : PySem.W.Frag} {n : Nat} {J : Jv n}
def iEM (f : FA) : FA := fun ρ P => f ρ fun ds ρ1 => match ds with
  | [x] => seqF x fun es => P (enumD es) ρ1
  | _ => False
end
end DL
/-! dicts of the store, by handles -/
namespace DL
open PySem L2 Z PySem.Spec PyProof.Rows
variable [Tbs]
/-- a key, by data -/
def keyF (d : PyData) (k : L2.Key → Prop) : Prop := match d with
  | .int i => k (.inl i)
  | .str x => k (.inr x)
  | _ => False
abbrev Kvs := List (L2.Key × PyData)
def valD (kd : Kvs) (k : L2.Key) : Option PyData := (kd.find? fun kv => decide (kv.1 = k)).map (·.2)
/-- in its place, or at the end -/
def putE (kd : Kvs) (k : L2.Key) (d : PyData) : Kvs := if (valD kd k).isSome = true then kd.map (fun kv => if kv.1 = k then (kv.1, d) else kv) else kd ++ [(k, d)]
def dropE (kd : Kvs) (k : L2.Key) : Kvs := kd.filter fun kv => decide (kv.1 ≠ k)
theorem valD_pos {p : L2.Key × PyData} {r : Kvs} {k : L2.Key} (e : p.1 = k) : valD (p :: r) k = some p.2 := by simp [valD, List.find?_cons, e]
theorem valD_neg {p : L2.Key × PyData} {r : Kvs} {k : L2.Key} (e : ¬ p.1 = k) : valD (p :: r) k = valD r k := by simp [valD, List.find?_cons, e]
section
variable {K : PySem.W.Frag} {n : Nat} {J : Jv n} {sx : Nat} {G : Hp}
theorem keyF_of {v : V} {d : PyData} {k : L2.Key → Prop} (q : Dq K G v d) (h : keyF d k) : ∃ y, v = L2.kV y ∧ k y := by
  unfold keyF at h
  split at h
  · cases q; exact ⟨.inl _, rfl, h⟩
  · cases q; exact ⟨.inr _, rfl, h⟩
  · exact h.elim
theorem DqKs.val : ∀ {kv : List (L2.Key × V)} {kd : Kvs}, DqKs K G kv kd → ∀ k, (∃ v d, L2.valV kv k = some v ∧ valD kd k = some d ∧ Dq K G v d) ∨ (L2.valV kv k = none ∧ valD kd k = none)
  | _, _, .nil, k => .inr ⟨rfl, rfl⟩
  | _, _, .cons (k := j) a r, k => by
    by_cases e : j = k
    · exact .inl ⟨_, _, valV_pos e, valD_pos e, a⟩
    · rw [valV_neg e, valD_neg e]
      exact DqKs.val r k
theorem DqKs.len : ∀ {kv : List (L2.Key × V)} {kd : Kvs}, DqKs K G kv kd → kv.length = kd.length
  | _, _, .nil => rfl
  | _, _, .cons _ r => by rw [List.length_cons, List.length_cons, DqKs.len r]
theorem DqKs.app : ∀ {kv : List (L2.Key × V)} {kd : Kvs} {kw : List (L2.Key × V)} {ke : Kvs}, DqKs K G kv kd → DqKs K G kw ke → DqKs K G (kv ++ kw) (kd ++ ke)
  | _, _, _, _, .nil, h => h
  | _, _, _, _, .cons a r, h => .cons a (DqKs.app r h)
theorem DqKs.mapPut {k : L2.Key} {v : V} {d : PyData} (q : Dq K G v d) : ∀ {kv : List (L2.Key × V)} {kd : Kvs}, DqKs K G kv kd → DqKs K G (kv.map fun z => if z.1 = k then (z.1, v) else z) (kd.map fun z => if z.1 = k then (z.1, d) else z)
  | _, _, .nil => .nil
  | _, _, .cons (k := j) a r => by
    rw [List.map_cons, List.map_cons]
    by_cases e : j = k
    · rw [if_pos e, if_pos e]; exact .cons q (DqKs.mapPut q r)
    · rw [if_neg e, if_neg e]; exact .cons a (DqKs.mapPut q r)
theorem DqKs.put {k : L2.Key} {v : V} {d : PyData} {kv : List (L2.Key × V)} {kd : Kvs} (h : DqKs K G kv kd) (q : Dq K G v d) : DqKs K G (L2.putK kv k v) (putE kd k d) := by
  unfold L2.putK putE
  rw [L2.valV_any]
  rcases h.val k with ⟨w, c, e1, e2, _⟩ | ⟨e1, e2⟩
  · rw [e1, e2]
    exact h.mapPut q
  · rw [e1, e2]
    exact h.app (.cons q .nil)
theorem DqKs.drop {k : L2.Key} : ∀ {kv : List (L2.Key × V)} {kd : Kvs}, DqKs K G kv kd → DqKs K G (L2.dropK kv k) (dropE kd k)
  | _, _, .nil => .nil
  | _, _, .cons (k := j) (v := v) (d := d) (kv := kv) (kd := kd) a r => by
    show DqKs K G (((j, v) :: kv).filter _) (((j, d) :: kd).filter _)
    rw [List.filter_cons, List.filter_cons]
    split
    · exact .cons a (DqKs.drop r)
    · exact DqKs.drop r
/-- {} -/
def fDNew (sx : Nat) : FE := fun ρ P => stF ρ sx fun S => ∀ p, S p = none → P (hdl p) (ρ.set sx (.st (sset S p (.dct []))))
/-- d[k] -/
def fDGet (sx : Nat) (a b : FE) : FE := fun ρ P => a ρ fun x ρ1 => b ρ1 fun y ρ2 => keyF y fun k => stF ρ2 sx fun S => ∃ p kd d, x = hdl p ∧ S p = some (.dct kd) ∧ valD kd k = some d ∧ P d ρ2
/-- k in d, k not in d -/
def fDIn (neg : Bool) (sx : Nat) (b a : FE) : FE := fun ρ P => b ρ fun y ρ1 => a ρ1 fun x ρ2 => keyF y fun k => stF ρ2 sx fun S => ∃ p kd, x = hdl p ∧ S p = some (.dct kd) ∧ P (.bool (if neg then !(valD kd k).isSome else (valD kd k).isSome)) ρ2
/-- d[k] = e -/
def fDPut (sx : Nat) (a b c : FE) : FS := fun E ρ => c ρ fun d ρ1 => a ρ1 fun x ρ2 => b ρ2 fun y ρ3 => keyF y fun k => stF ρ3 sx fun S => ∃ p kd, x = hdl p ∧ S p = some (.dct kd) ∧ kd.length < sizeLine ∧ E.nx (ρ3.set sx (.st (sset S p (.dct (putE kd k d)))))
/-- d[k] += e (numbers) -/
def fDAug (sx : Nat) (a b c : FE) (h : Int → Int → Int) : FS := fun E ρ => a ρ fun x ρ1 => b ρ1 fun y ρ2 => keyF y fun k => stF ρ2 sx fun S => ∃ p kd i, x = hdl p ∧ S p = some (.dct kd) ∧ valD kd k = some (.int i) ∧ c ρ2 fun d ρ3 => intF d fun j => stF ρ3 sx fun S' => ∃ kd', S' p = some (.dct kd') ∧ kd'.length < sizeLine ∧ E.nx (ρ3.set sx (.st (sset S' p (.dct (putE kd' k (.int (h i j)))))))
/-- d.get(k), d.get(k, x) -/
def fDGet1 (sx : Nat) (a b : FE) : FE := fun ρ P => a ρ fun x ρ1 => stF ρ1 sx fun S1 => ∃ p kd1, x = hdl p ∧ S1 p = some (.dct kd1) ∧ b ρ1 fun y ρ2 => keyF y fun k => stF ρ2 sx fun S => ∃ kd, S p = some (.dct kd) ∧ P ((valD kd k).getD .none) ρ2
def fDGet2 (sx : Nat) (a b c : FE) : FE := fun ρ P => a ρ fun x ρ1 => stF ρ1 sx fun S1 => ∃ p kd1, x = hdl p ∧ S1 p = some (.dct kd1) ∧ b ρ1 fun y ρ2 => keyF y fun k => c ρ2 fun d ρ3 => stF ρ3 sx fun S => ∃ kd, S p = some (.dct kd) ∧ P ((valD kd k).getD d) ρ3
/-- len(d) -/
def fDLen (sx : Nat) (a : FE) : FE := fun ρ P => a ρ fun x ρ1 => stF ρ1 sx fun S => ∃ p kd, x = hdl p ∧ S p = some (.dct kd) ∧ P (.int (kd.length : Nat)) ρ1
end
end DL
/-! methods by keywords; len(o) by an own __len__; len(range(e)) -/
namespace DL
open PySem L2 Z PySem.Spec PyProof.Rows
variable [Tbs]
section
variable {X : Cx} {CX : CXT} {k n : Nat} {f C : Addr} {fd : FuncData} {ps ks : List Str} {sp : Sp} {E : XK} {m : Str} {pos apos : Pos} {o e : Expr} {es : List Expr} {kws : List Keyword} {ta : TE} {t tk : TA} {g : List Value → List Value → List Value} {gV : List V → List V → List V}
/-! len(o) -/
end
/-! len(range(e)) -/
section
variable {X : Cx}
end
section
variable {K : PySem.W.Frag} {n : Nat} {J : Jv n} {sx : Nat}
def fLenRng (a : FE) : FE := fun ρ P => a ρ fun d ρ1 => intF d fun j => 0 ≤ j ∧ j < 9223372036854775808 ∧ P (.int j) ρ1
/-- len(o), o that stays -/
def fLenX (c : Str) (F : FN) (a : FE) : FE := fun ρ P => a ρ fun d ρ1 => objF c d fun _ => F [.fz d] fun e _ => intF e fun i => 0 ≤ i ∧ i < 9223372036854775808 ∧ P (.int i) ρ1
/-- o.m(.., k = v, ..), o that stays -/
def fMethN (c x : Str) (l : Nat) (F : FN) (nn mm : Nat) (gD : List PyData → List PyData → List PyData) (a : FE) (f fk : FA) : FE := fun ρ P => a ρ fun d ρ1 => objF c d fun fs => fldD x fs = none ∧ f ρ1 fun ds ρ2 => fk ρ2 fun es ρ3 => ds.length = nn ∧ es.length = mm ∧ (gD ds es).length + 1 = l ∧ F (.fz d :: (gD ds es).map .fz) fun e _ => P e ρ3
/-- o.m(.., k = v, ..) that is handed the store -/
def fMethNS (sx : Nat) (c x : Str) (l : Nat) (F : FN) (nn mm : Nat) (gD : List PyData → List PyData → List PyData) (a : FE) (f fk : FA) : FE := fun ρ P => a ρ fun d ρ1 => stF ρ1 sx fun S1 => ∃ fs, ObjU S1 d c fs ∧ fldD x fs = none ∧ f ρ1 fun ds ρ2 => fk ρ2 fun es ρ3 => ds.length = nn ∧ es.length = mm ∧ (gD ds es).length + 1 = l ∧ stF ρ3 sx fun S => F (.fz d :: ((gD ds es).map .fz ++ [.st S])) fun e out => P e (ρ3.set sx ((out.drop l).headD .no))
end
end DL
/-! a call with a store of its own -/
namespace DL
open PySem L2 Z PySem.Spec PyProof.Rows
variable [Tbs]
section
variable {K : PySem.W.Frag} {n : Nat} {J : Jv n}
/-- f(..), f handed a store of its own -/
def fCallZ (m : Nat) (F : FN) (dv : List PyData) (f : FA) : FE := fun ρ P => f ρ fun ds ρ1 => (ds ++ dv).length = m ∧ F ((ds ++ dv).map .fz ++ [.st noS]) fun d out => ∃ S' o, out[m]? = some (.st S') ∧ Res S' d o ∧ P o ρ1
end
end DL
/-! a dict of the store walked by a comprehension, locked meanwhile -/
namespace DL
open PySem L2 Z PySem.Spec PyProof.Rows
variable [Tbs]
section
variable {K : PySem.W.Frag} {n : Nat} {J : Jv n} {sx : Nat}
theorem DqAll.by {G G' : Hp} (T : ∀ v d, Dq K G v d → Dq K G' v d) : ∀ {v : List V} {d : List PyData}, DqAll K G v d → DqAll K G' v d
  | _, _, .nil => .nil
  | _, _, .cons a b => .cons (T _ _ a) (DqAll.by T b)
def sdel (S : Sto) (p : Addr) : Sto := fun a => if a = p then none else S a
/-- the keys of the dict in slot i -/
def iKs (i : Nat) (p : Addr) (ks : List PyData) : FA := fun ρ P => ρ[i]? = some (.fz (hdl p)) ∧ P ks ρ
/-- [.. for k in d], the dict in slot i -/
def fLckLc (sx i : Nat) (g : FG) (ft : FT) (fe : FE) (vs : List Nat) : FA := fun ρ P => ∃ p S kd, ρ[i]? = some (.fz (hdl p)) ∧ ρ[sx]? = some (.st S) ∧ S p = some (.dct kd) ∧
  fLc (iKs i p (kd.map fun z => keyD z.1)) g ft fe vs (ρ.set sx (.st (sdel S p))) fun ds ρ' => stF ρ' sx fun S' => P ds (ρ'.set sx (.st (sset S' p (.dct kd))))
end
end DL
/-! list(range(e)) -/
namespace DL
open PySem L2 Z PySem.Spec PyProof.Rows
variable [Tbs]
section
variable {X : Cx}
end
section
variable {K : PySem.W.Frag} {n : Nat} {J : Jv n}
def fLstRng (a : FE) : FA := fun ρ P => a ρ fun d ρ1 => intF d fun j => 0 ≤ j ∧ j ≤ 16777216 ∧ P (rangeD 0 j.toNat) ρ1
end
end DL
/-! str of any data -/
namespace DL
open PySem L2 Z PySem.Spec PyProof.Rows
variable [Tbs]
section
variable {X : Cx}
end
section
variable {K : PySem.W.Frag}
def gOr (g1 g2 : List PyData → (PyData → Prop) → Prop) : List PyData → (PyData → Prop) → Prop := fun ds P => g1 ds P ∨ g2 ds P
end
end DL
/-! own.extend(e), e being any list that is data -/
namespace DL
open PySem L2 Z PySem.Spec PyProof.Rows
variable [Tbs]
section
variable {X : Cx}
end
section
variable {K : PySem.W.Frag} {n : Nat} {J : Jv n}
/-- own.extend(e) -/
def fExtD (i : Nat) (a : FE) : FS := fun E ρ => ownF ρ i fun _ => a ρ fun d ρ1 => listF d fun es => ownF ρ1 i fun ds => ds.length + es.length ≤ sizeLine ∧ E.nx (ρ1.set i (.own (ds ++ es)))
end
end DL
/-! {k: e}, a dict of the store with one pair -/
namespace DL
open PySem L2 Z PySem.Spec PyProof.Rows
variable [Tbs]
section
variable {K : PySem.W.Frag} {n : Nat} {J : Jv n} {sx : Nat}
/-- the dict stands empty while key and thing are made -/
def fDisp1 (sx : Nat) (a b : FE) : FE := fun ρ P => stF ρ sx fun S => ∀ p, S p = none → a (ρ.set sx (.st (sset S p (.dct [])))) fun x ρ1 => keyF x fun k => b ρ1 fun d ρ2 => stF ρ2 sx fun S2 => S2 p = some (.dct []) ∧ P (hdl p) (ρ2.set sx (.st (sset S2 p (.dct [(k, d)]))))
end
end DL
/-! [.. for k, v in d.items()], d in a slot, locked meanwhile -/
namespace DL
open PySem L2 Z PySem.Spec PyProof.Rows
variable [Tbs]
section
variable {K : PySem.W.Frag} {n : Nat} {J : Jv n} {sx : Nat}
def itemsD (kd : Kvs) : List PyData := kd.map fun z => .tuple [keyD z.1, z.2]
/-- [.. for k, v in d.items()], the dict in slot i -/
def fLckIt (sx i : Nat) (g : FG) (ft : FT) (fe : FE) (vs : List Nat) : FA := fun ρ P => ∃ p S kd, ρ[i]? = some (.fz (hdl p)) ∧ ρ[sx]? = some (.st S) ∧ S p = some (.dct kd) ∧
  fLc (iKs i p (itemsD kd)) g ft fe vs (ρ.set sx (.st (sdel S p))) fun ds ρ' => stF ρ' sx fun S' => P ds (ρ'.set sx (.st (sset S' p (.dct kd))))
end
end DL
/-! dict(e), e being a list of pairs -/
namespace DL
open PySem L2 Z PySem.Spec PyProof.Rows
variable [Tbs]
section
variable {K : PySem.W.Frag} {n : Nat} {J : Jv n} {sx : Nat}
def mergeE (kd more : Kvs) : Kvs := more.foldl (fun acc kv => putE acc kv.1 kv.2) kd
def pairsF : List PyData → (Kvs → Prop) → Prop
  | [], k => k []
  | .tuple [x, d] :: r, k => keyF x fun y => pairsF r fun kd => k ((y, d) :: kd)
  | _ :: _, _ => False
def fDictP (sx : Nat) (f : FE) : FE := fun ρ P => f ρ fun x ρ1 => listF x fun es => pairsF es fun kd => stF ρ1 sx fun S => ∀ p, S p = none → P (hdl p) (ρ1.set sx (.st (sset S p (.dct (mergeE [] kd)))))
end
end DL
/-! list(d), the keys of a dict of the store as a new list -/
namespace DL
open PySem L2 Z PySem.Spec PyProof.Rows
variable [Tbs]
section
variable {K : PySem.W.Frag} {n : Nat} {J : Jv n} {sx : Nat}
def fListD (sx : Nat) (a : FE) : FA := fun ρ P => a ρ fun x ρ1 => stF ρ1 sx fun S => ∃ p kd, x = hdl p ∧ S p = some (.dct kd) ∧ P (kd.map fun z => keyD z.1) ρ1
end
end DL
/-! len(set(numbers)); x in xs, items of any depth -/
namespace DL
open PySem L2 Z PySem.Spec PyProof.Rows
variable [Tbs]
section
variable {X : Cx}
end
section
variable {X : Cx}
end
section
variable {K : PySem.W.Frag} {n : Nat} {J : Jv n}
/-- len(set(numbers)) -/
def fLenSet (f : FE) : FE := fun ρ P => f ρ fun d ρ1 => listF d fun es => intsF es fun ns => ns.length < 4000 ∧ ∀ ms : List Int, ms.Nodup → (∀ k, k ∈ ms ↔ k ∈ ns) → P (.int (ms.length : Nat)) ρ1
/-- x in a list of data of any depth -/
def oInX (neg : Bool) : G2 := fun a b P => listF b fun ds => SeqAt.shaped a = true ∧ SeqAt.shaped (.list ds) = true ∧ P (.bool (if neg then !inD a ds else inD a ds))
end
section
variable {K : PySem.W.Frag} {n : Nat} {J : Jv n}
/-- sorted(set(numbers)), fewer than 64 unlike ones -/
def nSortSetJ (ds : List PyData) (P : List PyData → Prop) : Prop := one ds fun d => listF d fun es => intsF es fun ns => ns.length < 4000 ∧ (∀ ms : List Int, ms.Nodup → (∀ k, k ∈ ms ↔ k ∈ ns) → ms.length < 64) ∧ ∀ ms : List Int, ms.Pairwise (· < ·) → (∀ k, k ∈ ms ↔ k ∈ ns) → P (ms.map .int)
end
end DL
/-! lists of the store met by handles: walked while other things change, turned round, counted -/
namespace DL
open PySem L2 Z PySem.Spec PyProof.Rows
variable [Tbs]
/-- data that tells just one value -/
def fixD : PyData → Bool
  | .none => true
  | .bool _ => true
  | .int _ => true
  | .str _ => true
  | .dict [(.none, .int _)] => true
  | _ => false
section
variable {K : PySem.W.Frag} {n : Nat} {J : Jv n} {sx : Nat}
/-- a loop over what stands in the list at p, which stays as it is -/
def forH (us : List Nat) (sx : Nat) (p : Addr) (ds its : List PyData) (g : FG) (b : FS) (E : FEnds) (ρ : En) : Prop := ∃ W : Nat → En → Prop, W 0 (fgt ρ us) ∧ (∀ i ρ2, W i ρ2 → ∃ S, ρ2[sx]? = some (.st S) ∧ S p = some (.lst ds)) ∧
  (∀ i d ρ2, its[i]? = some d → W i ρ2 → g d ρ2 fun ρ3 => b { E with nx := fun ρ4 => W (i + 1) (fgt ρ4 us), ct := fun ρ4 => W (i + 1) (fgt ρ4 us), bk := E.nx } ρ3) ∧ ∀ ρ2, W its.length ρ2 → E.nx ρ2
/-- for i, x in enumerate(h) -/
def fForE (us : List Nat) (sx : Nat) (a : FE) (g : FG) (b : FS) : FS := fun E ρ => a ρ fun x ρ1 => stF ρ1 sx fun S => ∃ p ds, x = hdl p ∧ S p = some (.lst ds) ∧ ds.all fixD = true ∧ forH us sx p ds (enumD ds) g b E ρ1
/-- for x in h -/
def fForL (us : List Nat) (sx : Nat) (a : FE) (g : FG) (b : FS) : FS := fun E ρ => a ρ fun x ρ1 => stF ρ1 sx fun S => ∃ p ds, x = hdl p ∧ S p = some (.lst ds) ∧ ds.all fixD = true ∧ forH us sx p ds ds g b E ρ1
/-- h.reverse() -/
def fRevH (sx : Nat) (a : FE) : FS := fun E ρ => a ρ fun x ρ1 => stF ρ1 sx fun S => ∃ p ds, x = hdl p ∧ S p = some (.lst ds) ∧ E.nx (ρ1.set sx (.st (sset S p (.lst ds.reverse))))
end
end DL
/-! methods handed a store of their own; loops over zip of lists, some of the store -/
namespace DL
open PySem L2 Z PySem.Spec PyProof.Rows
variable [Tbs]
section
variable {K : PySem.W.Frag} {n : Nat} {J : Jv n} {sx : Nat}
/-- o.m(..) of an object that stays, the method handed a store of its own -/
def fMethZ (c x : Str) (m : Nat) (F : FN) (dv : List PyData) (a : FE) (f : FA) : FE := fun ρ P => a ρ fun d ρ1 => objF c d fun fs => fldD x fs = none ∧ f ρ1 fun ds ρ2 => (ds ++ dv).length + 1 = m ∧ F (.fz d :: ((ds ++ dv).map .fz ++ [.st noS])) fun e out => ∃ S' o, out[m]? = some (.st S') ∧ Res S' e o ∧ P o ρ2
/-- a list or tuple: data, or a list of the store -/
def seqU (S : Sto) (x : PyData) (ds : List PyData) (p : Option Addr) : Prop := (p = none ∧ (x = .list ds ∨ x = .tuple ds)) ∨ ∃ a, p = some a ∧ x = hdl a ∧ S a = some (.lst ds) ∧ ds.all fixD = true
/-- for x, y in zip(..), of lists of the store such as stay -/
def fForZH (us : List Nat) (sx : Nat) (f : FA) (g : FG) (b : FS) : FS := fun E ρ => f ρ fun xs ρ1 => stF ρ1 sx fun S => ∃ x y ds es p q, xs = [x, y] ∧ seqU S x ds p ∧ seqU S y es q ∧ ∃ W : Nat → En → Prop, W 0 (fgt ρ1 us) ∧
  (∀ i ρ2, W i ρ2 → ∃ S, ρ2[sx]? = some (.st S) ∧ (∀ a, p = some a → S a = some (.lst ds)) ∧ ∀ a, q = some a → S a = some (.lst es)) ∧
  (∀ i d ρ2, (zipD ds es)[i]? = some d → W i ρ2 → g d ρ2 fun ρ3 => b { E with nx := fun ρ4 => W (i + 1) (fgt ρ4 us), ct := fun ρ4 => W (i + 1) (fgt ρ4 us), bk := E.nx } ρ3) ∧ ∀ ρ2, W (zipD ds es).length ρ2 → E.nx ρ2
end
end DL
/-! zip of three lists or tuples in any mix, some of the store -/
namespace ZM
open PySem PySem.Spec PyProof.Rows L2
def ItzT (K : PySem.W.Frag) (k1 k2 k3 : Bool) (a b c : Addr) : It :=
  ⟨fun i H => ∃ (xs ys zs : List V) (x y z : V), SqK K H k1 a xs ∧ SqK K H k2 b ys ∧ SqK K H k3 c zs ∧ xs[i]? = some x ∧ ys[i]? = some y ∧ zs[i]? = some z,
    fun i H v H' => ∃ T x y z, v = .ref T ∧ H T = none ∧ H' = upd H T (.tup [x, y, z]) ∧ (∀ xs, SqK K H k1 a xs → xs[i]? = some x) ∧ (∀ ys, SqK K H k2 b ys → ys[i]? = some y) ∧ ∀ zs, SqK K H k3 c zs → zs[i]? = some z,
    fun i H => ∃ xs ys zs : List V, SqK K H k1 a xs ∧ SqK K H k2 b ys ∧ SqK K H k3 c zs ∧ i ≤ xs.length ∧ i ≤ ys.length ∧ i ≤ zs.length ∧ (i = xs.length ∨ i = ys.length ∨ i = zs.length)⟩
def YTriple (f g h : Nat → Option V) : Nat → Hp → V → Hp → Prop := fun i H v H' => ∃ T x y z, v = .ref T ∧ H T = none ∧ H' = upd H T (.tup [x, y, z]) ∧ f i = some x ∧ g i = some y ∧ h i = some z
theorem walk_zipT {K : PySem.W.Frag} {k1 k2 k3 : Bool} {a b c : Addr} {xs ys zs : List V} {n : Nat} (hn : n = min xs.length (min ys.length zs.length)) :
    Walk (ItzT K k1 k2 k3 a b c) n (fun H => SqK K H k1 a xs ∧ SqK K H k2 b ys ∧ SqK K H k3 c zs) (YTriple (fun i => xs[i]?) (fun i => ys[i]?) fun i => zs[i]?) := by
  refine ⟨fun i H hi q => ?_, fun H q => ⟨xs, ys, zs, q.1, q.2.1, q.2.2, by omega, by omega, by omega, by omega⟩, fun i H v H' hi q y => ?_⟩
  · exact ⟨xs, ys, zs, xs[i]'(by omega), ys[i]'(by omega), zs[i]'(by omega), q.1, q.2.1, q.2.2, List.getElem?_eq_getElem (by omega), List.getElem?_eq_getElem (by omega), List.getElem?_eq_getElem (by omega)⟩
  · obtain ⟨t, x, y', z, e1, e2, e3, e4, e5, e6⟩ := y
    exact ⟨t, x, y', z, e1, e2, e3, e4 xs q.1, e5 ys q.2.1, e6 zs q.2.2⟩
end ZM
namespace DL
open PySem L2 Z PySem.Spec PyProof.Rows
variable [Tbs]
section
variable {K : PySem.W.Frag} {n : Nat} {J : Jv n} {sx : Nat}
def zipD3 (ds es fs : List PyData) : List PyData := (ds.zip (es.zip fs)).map fun z => .tuple [z.1, z.2.1, z.2.2]
/-- for x, y, z in zip(..), of lists of the store such as stay -/
def fForT (us : List Nat) (sx : Nat) (f : FA) (g : FG) (b : FS) : FS := fun E ρ => f ρ fun xs ρ1 => stF ρ1 sx fun S => ∃ x y z ds es fs p q r, xs = [x, y, z] ∧ seqU S x ds p ∧ seqU S y es q ∧ seqU S z fs r ∧ ∃ W : Nat → En → Prop, W 0 (fgt ρ1 us) ∧
  (∀ i ρ2, W i ρ2 → ∃ S, ρ2[sx]? = some (.st S) ∧ (∀ a, p = some a → S a = some (.lst ds)) ∧ (∀ a, q = some a → S a = some (.lst es)) ∧ ∀ a, r = some a → S a = some (.lst fs)) ∧
  (∀ i d ρ2, (zipD3 ds es fs)[i]? = some d → W i ρ2 → g d ρ2 fun ρ3 => b { E with nx := fun ρ4 => W (i + 1) (fgt ρ4 us), ct := fun ρ4 => W (i + 1) (fgt ρ4 us), bk := E.nx } ρ3) ∧ ∀ ρ2, W (zipD3 ds es fs).length ρ2 → E.nx ρ2
/-- h.insert(k, e) -/
def fInsH (sx : Nat) (a b e : FE) : FS := fun E ρ => a ρ fun x ρ1 => stF ρ1 sx fun S => ∃ p ds, x = hdl p ∧ S p = some (.lst ds) ∧ b ρ1 fun k ρ2 => intF k fun k => e ρ2 fun d ρ3 => stF ρ3 sx fun S' => ∃ es, S' p = some (.lst es) ∧ es.length < sizeLine ∧ 0 ≤ k ∧ k < 2 ^ 63 ∧ E.nx (ρ3.set sx (.st (sset S' p (.lst (es.take k.toNat ++ [d] ++ es.drop k.toNat)))))
end
end DL
/-! dicts as data, read; {k: e, ..} with any number of pairs -/
namespace DL
open PySem L2 Z PySem.Spec PyProof.Rows
variable [Tbs]
section
variable {K : PySem.W.Frag} {n : Nat} {J : Jv n} {sx : Nat} {G : Hp}
/-- d[k], d as data -/
def fDGetD (a b : FE) : FE := fun ρ P => a ρ fun x ρ1 => b ρ1 fun y ρ2 => keyF y fun k => ∃ kd d, x = dctD kd ∧ valD kd k = some d ∧ P d ρ2
/-- pairs of a display -/
def fPairs : List (FE × FE) → En → (Kvs → En → Prop) → Prop
  | [], ρ, P => P [] ρ
  | z :: r, ρ, P => z.1 ρ fun x ρ1 => keyF x fun k => z.2 ρ1 fun d ρ2 => fPairs r ρ2 fun kd ρ3 => P ((k, d) :: kd) ρ3
inductive RPs (K : PySem.W.Frag) {n : Nat} (J : Jv n) : List (TE × TE) → List (FE × FE) → Prop
  | nil : RPs K J [] []
  | cons {ta tb : TE} {a b : FE} {l : List (TE × TE)} {f : List (FE × FE)} : RE K J ta a → RE K J tb b → RPs K J l f → RPs K J ((ta, tb) :: l) ((a, b) :: f)
theorem RPs.run {l : List (TE × TE)} {f : List (FE × FE)} (r : RPs K J l f) : ∀ (O : Addr → Prop) (as : As) (σ : L2.St) (H : Hs) (Q : List (V × V) → Hp → Prop) (ρ : En) (P : Kvs → En → Prop), EnR K J O as H ρ σ → fPairs f ρ P →
    (∀ kd ρ' kv H', P kd ρ' → Fr as H H' → EnR K J O as H' ρ' σ → DqKs K (hq O as H') kv kd → Q (kv.map fun z => (L2.kV z.1, z.2)) H') → tPairs l σ H Q := by
  induction r with
  | nil => intro O as σ H Q ρ P E q k; exact k [] ρ [] H q (.refl) E .nil
  | cons ha hb r ih =>
    intro O as σ H Q ρ P E q k
    refine ha O as σ H _ ρ _ E q fun x ρ1 v H1 q1 f1 E1 d1 => ?_
    obtain ⟨z, rfl, q1⟩ := keyF_of d1 q1
    refine hb O as σ H1 _ ρ1 _ E1 q1 fun d ρ2 w H2 q2 f2 E2 d2 => ?_
    refine ih O as σ H2 _ ρ2 _ E2 q2 fun kd ρ3 kv H3 q3 f3 E3 d3 => ?_
    exact k _ ρ3 ((z, w) :: kv) H3 q3 ((f1.trans f2).trans f3) E3 (.cons (d2.fr f3) d3)
/-- {k: e, ..} -/
def fDispN (sx : Nat) (l : List (FE × FE)) : FE := fun ρ P => stF ρ sx fun S => ∀ p, S p = none → fPairs l (ρ.set sx (.st (sset S p (.dct [])))) fun kd ρ2 => kd.length ≤ 15 ∧ stF ρ2 sx fun S2 => S2 p = some (.dct []) ∧ P (hdl p) (ρ2.set sx (.st (sset S2 p (.dct (mergeE [] kd)))))
end
end DL
/-! slices of marked tuples are marked -/
namespace DL
open PySem L2 Z PySem.Spec PyProof.Rows
variable [Tbs]
section
variable {X : Cx}
end
section
variable {K : PySem.W.Frag} {n : Nat} {J : Jv n}
/-- t[lo:hi], t marked -/
def sN : PyData → Option Int → Option Int → (PyData → Prop) → Prop := fun a lo hi P => tnF a fun ds => P (tnD (cutD ds lo hi))
end
end DL
/-! calls without the store, what is handed in being laid open by it -/
namespace DL
open PySem L2 Z PySem.Spec PyProof.Rows
variable [Tbs]
section
variable {K : PySem.W.Frag} {n : Nat} {J : Jv n} {sx : Nat}
theorem EnR.laid {O : Addr → Prop} {as : As} {H : Hs} {ρ : En} {σ : L2.St} {S : Sto} {vs : List V} {ds ds' : List PyData} (E : EnR K J O as H ρ σ) (hs : ρ[sx]? = some (.st S)) (dv : DqAll K (hq O as H) vs ds) (r : ResAll S ds ds') : EnR K (J0 : Jv 0) O noA H (ds'.map .fz) (vs.map some) := by
  obtain ⟨a1, e, st⟩ := E.st_at hs
  have k : ∀ a, S a ≠ none → hq O noA H a = H.hp a := fun a h => hp_of (E.vis _ .sto a a1 (by show H.st a ≠ none; rw [← e]; exact h))
  have dv' := r.dq st E.visS k dv
  have hl := dv'.length
  refine ⟨by rw [List.length_map, List.length_map]; omega, fun i sl h1 h2 => ?_, fun i sl o h1 h2 => ?_, fun i h => (by cases h), fun i j _ _ _ h1 => (by cases h1), fun i _ _ h => (by cases h), fun i a h => (by cases h), E.occ, trivial, trivial, E.tab⟩
  · have := (List.getElem?_eq_some_iff.mp h1).1
    rw [List.length_map] at this h2
    omega
  · rw [List.getElem?_map] at h1 h2
    cases e1 : ds'[i]? with
    | none => rw [e1] at h1; cases h1
    | some d =>
      rw [e1] at h1
      cases h1
      obtain ⟨v, ev, q⟩ := dv'.got e1
      rw [ev] at h2
      cases h2
      exact .fz q
/-- f(..), what is handed in laid open -/
def fCallR (sx m : Nat) (F : FN) (dv : List PyData) (f : FA) : FE := fun ρ P => f ρ fun ds ρ1 => stF ρ1 sx fun S => ∃ ds', ResAll S (ds ++ dv) ds' ∧ ds'.length = m ∧ F (ds'.map .fz) fun d _ => immD d = true ∧ P d ρ1
def fCallRW (sx m : Nat) (F : FM) (dv : List PyData) (f : FA) : FA := fun ρ P => f ρ fun ds ρ1 => stF ρ1 sx fun S => ∃ ds', ResAll S (ds ++ dv) ds' ∧ ds'.length = m ∧ F (ds'.map .fz) fun es _ => immAll es = true ∧ P es ρ1
/-- o.m(..), o and what is handed in laid open -/
def fMethR (sx : Nat) (c x : Str) (m : Nat) (F : FN) (dv : List PyData) (a : FE) (f : FA) : FE := fun ρ P => a ρ fun d ρ1 => stF ρ1 sx fun S1 => ∃ fs, ObjU S1 d c fs ∧ fldD x fs = none ∧ f ρ1 fun ds ρ2 => stF ρ2 sx fun S => ∃ ds', ResAll S (d :: (ds ++ dv)) ds' ∧ ds'.length = m ∧ F (ds'.map .fz) fun d _ => immD d = true ∧ P d ρ2
def fMethRW (sx : Nat) (c x : Str) (m : Nat) (F : FM) (dv : List PyData) (a : FE) (f : FA) : FA := fun ρ P => a ρ fun d ρ1 => stF ρ1 sx fun S1 => ∃ fs, ObjU S1 d c fs ∧ fldD x fs = none ∧ f ρ1 fun ds ρ2 => stF ρ2 sx fun S => ∃ ds', ResAll S (d :: (ds ++ dv)) ds' ∧ ds'.length = m ∧ F (ds'.map .fz) fun es _ => immAll es = true ∧ P es ρ2
end
end DL
/-! raising calls with what is handed in laid open; raising methods -/
namespace DL
open PySem L2 Z PySem.Spec PyProof.Rows
variable [Tbs]
section
variable {K : PySem.W.Frag} {n : Nat} {J : Jv n} {sx : Nat}
theorem EnR.noXd {O : Addr → Prop} {as : As} {H : Hs} {ρ : En} {σ : L2.St} (E : EnR K J O as H ρ σ) {a : Addr} {fv : List (Str × V)} (h : H a = some (.xd fv)) : ¬ Own as H a := fun q => by
  rcases q with ⟨i, r, e, q⟩ | q
  · rcases E.is_reg e with ⟨b, ds, ys, rfl, _, _, h3, _⟩ | ⟨rfl, _, _, st⟩
    · rw [q.lf_of, h3] at h
      cases h
    · obtain ⟨o, e⟩ := Option.ne_none_iff_exists'.mp (show H.st a ≠ none from q)
      obtain ⟨u, e1, q1⟩ := st a o e
      rw [e1] at h
      cases h
      cases q1
  · obtain ⟨p, hp, z⟩ := q
    obtain ⟨ps, h1, _⟩ := E.tab p hp
    rw [z, h] at h1
    cases h1
/-- an exception that bears a plain thing -/
def excI (d : PyData) : Prop := ∃ c w, d = excD c w ∧ immD w = true
theorem XcAt.imm {O : Addr → Prop} {as : As} {H : Hs} {ρ : En} {σ : L2.St} {cls : Value} {dd : Option Addr} {d : PyData} (E : EnR K J O as H ρ σ) (i : excI d) (x : XcAt K (hq O noA H) cls dd d) : XcAt K (hq O as H) cls dd d := by
  obtain ⟨c0, w, rfl, hi⟩ := i
  obtain ⟨c, C, dx, fv, fs, e1, e2, e3, e4, e5, r⟩ := x
  unfold excD at e1
  cases e1
  refine ⟨c0, C, dx, fv, _, rfl, e2, e3, e4, ?_, ?_⟩
  · obtain ⟨n, e⟩ := hp_some e5
    refine hp_mk (fun z => ?_) e
    rcases z with z | z
    · exact n (.inl z)
    · exact E.noXd e z
  · cases r with
    | cons q r => cases r with
      | nil => exact .cons (q.imm E.tupS hi) .nil
/-- f(..) that may raise, what is handed in laid open -/
def fCallRX (sx m : Nat) (F : FX) (dv : List PyData) (X : PyData → En → Prop) (f : FA) : FE := fun ρ P => f ρ fun ds ρ1 => stF ρ1 sx fun S => ∃ ds', ResAll S (ds ++ dv) ds' ∧ ds'.length = m ∧ F (ds'.map .fz) (fun d _ => immD d = true ∧ P d ρ1) fun d _ => excI d ∧ X d ρ1
def fCallRXW (sx m : Nat) (F : FXM) (dv : List PyData) (X : PyData → En → Prop) (f : FA) : FA := fun ρ P => f ρ fun ds ρ1 => stF ρ1 sx fun S => ∃ ds', ResAll S (ds ++ dv) ds' ∧ ds'.length = m ∧ F (ds'.map .fz) (fun es _ => immAll es = true ∧ P es ρ1) fun d _ => excI d ∧ X d ρ1
end
/-! methods where what is raised is wished for at the caller's slots -/
section
variable {X : Cx} {CX : CXT} {k : Nat} {f C : Addr} {fd : FuncData} {ps : List Str} {sp : Sp} {dvs : List V} {ds : List Value} {E : L2.St → XK} {m : Str} {pos apos : Pos} {o e : Expr} {es : List Expr} {ta : TE} {t : TA}
end
section
variable {K : PySem.W.Frag} {n : Nat} {J : Jv n} {sx : Nat}
/-- o.m(..) that may raise -/
def fMethX (c x : Str) (m : Nat) (F : FX) (dv : List PyData) (X : PyData → En → Prop) (a : FE) (b : FC) : FE := fun ρ P => a ρ fun d ρ1 => objF c d fun fs => fldD x fs = none ∧ b ρ1 fun xs ρ2 => xs.length + dv.length + 1 = m ∧ (ownIx xs).Nodup ∧ argF ρ2 xs fun r => F (.fz d :: (r ++ dv.map .fz)) (fun e out => P e (wb ρ2 xs out.tail)) fun e out => X e (wb ρ2 xs out.tail)
/-- the same, handed the store -/
def fMethXS (sx : Nat) (c x : Str) (m : Nat) (F : FX) (dv : List PyData) (X : PyData → En → Prop) (a : FE) (b : FC) : FE := fun ρ P => a ρ fun d ρ1 => stF ρ1 sx fun S1 => ∃ fs, ObjU S1 d c fs ∧ fldD x fs = none ∧ b ρ1 fun xs ρ2 => xs.length + dv.length + 1 = m ∧ (ownIx xs ++ [sx]).Nodup ∧ argF ρ2 xs fun r => stF ρ2 sx fun S => F (.fz d :: (r ++ dv.map .fz ++ [.st S])) (fun e out => P e ((wb ρ2 xs out.tail).set sx ((out.drop m).headD .no))) fun e out => X e ((wb ρ2 xs out.tail).set sx ((out.drop m).headD .no))
/-- o.m(..) that may raise, o and what is handed in laid open -/
def fMethRX (sx : Nat) (c x : Str) (m : Nat) (F : FX) (dv : List PyData) (X : PyData → En → Prop) (a : FE) (f : FA) : FE := fun ρ P => a ρ fun d ρ1 => stF ρ1 sx fun S1 => ∃ fs, ObjU S1 d c fs ∧ fldD x fs = none ∧ f ρ1 fun ds ρ2 => stF ρ2 sx fun S => ∃ ds', ResAll S (d :: (ds ++ dv)) ds' ∧ ds'.length = m ∧ F (ds'.map .fz) (fun d _ => immD d = true ∧ P d ρ2) fun d _ => excI d ∧ X d ρ2
end
end DL
/-! tuple * number -/
namespace DL
open PySem L2 Z PySem.Spec PyProof.Rows
variable [Tbs]
section
variable {X : Cx}
end
section
variable {K : PySem.W.Frag}
def oRepT : G2 := fun a b P => match a, b with
  | .tuple xs, .int k => xs ≠ [] ∧ 1 ≤ k ∧ k ≤ 1000 ∧ xs.length ≤ 1000 ∧ P (.tuple (List.replicate k.toNat xs).flatten)
  | _, _ => False
end
end DL
/-! comprehensions over zip of three -/
namespace DL
open PySem L2 Z PySem.Spec PyProof.Rows
variable [Tbs]
section
variable {K : PySem.W.Frag} {n : Nat} {J : Jv n}
def iZT (f : FA) : FA := fun ρ P => f ρ fun ds ρ1 => match ds with
  | [x, y, z] => seqF x fun es => seqF y fun gs => seqF z fun hs => P (zipD3 es gs hs) ρ1
  | _ => False
end
end DL
/-! list(own) -/
namespace DL
open PySem L2 Z PySem.Spec PyProof.Rows
variable [Tbs]
section
variable {K : PySem.W.Frag} {n : Nat} {J : Jv n}
end
end DL
/-! d.update(e), sorted(d) by whole numbers, dict(d) -/
namespace L2
open PySem PySem.Spec PyProof.Rows
section
variable {X : Cx} {o e f : Expr} {apos cpos : Pos} {td ty tx : TE}
end
end L2
namespace DL
open PySem L2 Z PySem.Spec PyProof.Rows
variable [Tbs]
section
variable {K : PySem.W.Frag} {n : Nat} {J : Jv n} {sx : Nat}
end
end DL
/-! list.count of numbers -/
namespace DL
open PySem L2 Z PySem.Spec PyProof.Rows
variable [Tbs]
section
variable {K : PySem.W.Frag} {n : Nat} {J : Jv n}
end
end DL
/-! str(o), repr(o), bool(o), o == x by own methods -/
namespace PySem.W
open PySem PySem.Spec PySem.Calls PyProof.Rows
section
variable {prog : Program} {w : World} {A : Around} {E : Value → Shared → Prop} {s : Shared} {K : Frag} {x C f : Addr} {ox : Obj} {od : Option Obj}
end
end PySem.W
namespace DL
open PySem L2 Z PySem.Spec PyProof.Rows
variable [Tbs]
section
variable {X : Cx} {CX : CXT} {k n : Nat} {f C : Addr} {fd : FuncData} {ps ks : List Str} {sp : Sp} {E : XK}
end
section
variable {K : PySem.W.Frag} {n : Nat} {J : Jv n} {sx : Nat}
/-- str(o), repr(o) by an own method without the store -/
def fStrX (c : Str) (F : FN) (a : FE) : FE := fun ρ P => a ρ fun d ρ1 => objF c d fun _ => F [.fz d] fun e _ => strF e fun z => P (.str z) ρ1
def fStrR (sx : Nat) (c : Str) (F : FN) (a : FE) : FE := fun ρ P => a ρ fun d ρ1 => stF ρ1 sx fun S => ∃ fs d', ObjU S d c fs ∧ Res S d d' ∧ F [.fz d'] fun e _ => immD e = true ∧ strF e fun z => P (.str z) ρ1
/-- bool(o) by an own __len__ -/
def fBoolX (c : Str) (F : FN) (a : FE) : FE := fun ρ P => a ρ fun d ρ1 => objF c d fun _ => F [.fz d] fun e _ => intF e fun i => 0 ≤ i ∧ i < 9223372036854775808 ∧ P (.bool (i != 0)) ρ1
def fBoolR (sx : Nat) (c : Str) (F : FN) (a : FE) : FE := fun ρ P => a ρ fun d ρ1 => stF ρ1 sx fun S => ∃ fs d', ObjU S d c fs ∧ Res S d d' ∧ F [.fz d'] fun e _ => immD e = true ∧ intF e fun i => 0 ≤ i ∧ i < 9223372036854775808 ∧ P (.bool (i != 0)) ρ1
/-- len(o) by an own __len__, o of the store -/
def fLenR (sx : Nat) (c : Str) (F : FN) (a : FE) : FE := fun ρ P => a ρ fun d ρ1 => stF ρ1 sx fun S => ∃ fs d', ObjU S d c fs ∧ Res S d d' ∧ F [.fz d'] fun e _ => immD e = true ∧ intF e fun i => 0 ≤ i ∧ i < 9223372036854775808 ∧ P (.int i) ρ1
/-- o == x, both of the class -/
def fEqX (c : Str) (F : FN) (a b : FE) : FE := fun ρ P => a ρ fun d ρ1 => b ρ1 fun e ρ2 => objF c d fun _ => objF c e fun _ => F [.fz d, .fz e] fun r _ => boolF r fun b => P (.bool b) ρ2
def fEqR (sx : Nat) (c : Str) (F : FN) (a b : FE) : FE := fun ρ P => a ρ fun d ρ1 => b ρ1 fun e ρ2 => stF ρ2 sx fun S => ∃ fs gs d' e', ObjU S d c fs ∧ ObjU S e c gs ∧ Res S d d' ∧ Res S e e' ∧ F [.fz d', .fz e'] fun r _ => immD r = true ∧ boolF r fun b => P (.bool b) ρ2
/-- isinstance(o, C), C an own class -/
structure OwnC (K : PySem.W.Frag) (C : Addr) : Prop where
  cl : Cls K C
  ga : PySem.W.findIn K (.ref C) "__class__" = some (some (.builtin "object.__class__"))
  gt : PySem.W.specialIn K (.builtin "object.__class__") "__get__" = some (some (.builtin "getset_descriptor.__get__"))
  tk : PySem.W.takesIn K (.builtin "object.__class__") = some true
  ob : PySem.W.mroIn K C (.type "object") = some true
  no : ∀ T ∈ ["NoneType", "bool", "int", "str", "list", "tuple"], PySem.W.kitOne K (.type T) (.ref C) = some false
def isoD (c : Str) : PyData → Option Bool
  | .dict ((.str c', .none) :: _) => if c' = c then some true else none
  | .dict _ => none
  | _ => some false
def fIsiO (c : Str) (a : FE) : FE := fun ρ P => a ρ fun d ρ1 => ∃ b, isoD c d = some b ∧ P (.bool b) ρ1
/-- isinstance(o, C), o of the store -/
def fIsiR (sx : Nat) (c : Str) (a : FE) : FE := fun ρ P => a ρ fun d ρ1 => stF ρ1 sx fun S => ∃ fs, ObjU S d c fs ∧ P (.bool true) ρ1
end
end DL
/-! f-strings of texts and numbers -/
namespace DL
open PySem L2 Z PySem.Spec PyProof.Rows
variable [Tbs]
section
variable {K : PySem.W.Frag} {n : Nat} {J : Jv n} {sx : Nat}
def fmtF (d : PyData) (k : Str → Prop) : Prop := match d with
  | .str y => y.length ≤ sizeLine ∧ k y
  | .int i => i.natAbs.log2 < 1920 ∧ k (toString i)
  | _ => False
def fFmt (a : FE) : FE := fun ρ P => a ρ fun d ρ1 => fmtF d fun z => P (.str z) ρ1
def fJs : List FE → Str → En → (Str → En → Prop) → Prop
  | [], acc, ρ, P => P acc ρ
  | t :: ts, acc, ρ, P => t ρ fun d ρ1 => strF d fun y => (acc ++ y).length ≤ sizeLine ∧ fJs ts (acc ++ y) ρ1 P
def fJoin (fs : List FE) : FE := fun ρ P => fJs fs Str.empty ρ fun z ρ1 => P (.str z) ρ1
inductive RJ (K : PySem.W.Frag) {n : Nat} (J : Jv n) : List TE → List FE → Prop
  | nil : RJ K J [] []
  | cons {t : TE} {f : FE} {ts : List TE} {fs : List FE} : RE K J t f → RJ K J ts fs → RJ K J (t :: ts) (f :: fs)
end
end DL
/-! a comprehension over a list of the store, met by a handle, which stays as it is meanwhile -/
namespace DL
open PySem L2 Z PySem.Spec PyProof.Rows
variable [Tbs]
section
variable {K : PySem.W.Frag} {n : Nat} {J : Jv n} {sx : Nat}
def lcWH (sx : Nat) (p : Addr) (ds its : List PyData) (g : FG) (ft : FT) (fe : FE) (vs : List Nat) (ρ : En) (P : List PyData → En → Prop) : Prop := vs.all (slotF ρ) = true ∧ ∃ W : Nat → List PyData → En → Prop, W 0 [] (wipeF ρ vs) ∧
  (∀ i acc ρ2, W i acc (wipeF ρ2 vs) → ∃ S, (wipeF ρ2 vs)[sx]? = some (.st S) ∧ S p = some (.lst ds)) ∧
  (∀ i d acc ρ2, its[i]? = some d → W i acc ρ2 → g d ρ2 fun ρ3 => ft ρ3 fun b ρ4 => if b = true then fe ρ4 fun y ρ5 => acc.length < sizeLine ∧ vs.all (slotF ρ5) = true ∧ W (i + 1) (acc ++ [y]) (wipeF ρ5 vs) else vs.all (slotF ρ4) = true ∧ W (i + 1) acc (wipeF ρ4 vs)) ∧
  ∀ acc ρ2, W its.length acc (wipeF ρ2 vs) → P acc (wipeF ρ2 vs)
def fLcH (sx : Nat) (a : FE) (g : FG) (ft : FT) (fe : FE) (vs : List Nat) : FA := fun ρ P => a ρ fun x ρ1 => stF ρ1 sx fun S => ∃ p ds, x = hdl p ∧ S p = some (.lst ds) ∧ ds.all fixD = true ∧ lcWH sx p ds ds g ft fe vs ρ1 P
end
end DL
/-! methods by keywords that may raise -/
namespace DL
open PySem L2 Z PySem.Spec PyProof.Rows
variable [Tbs]
section
variable {X : Cx} {CX : CXT} {k n : Nat} {f C : Addr} {fd : FuncData} {ps ks : List Str} {sp : Sp} {E : L2.St → XK} {m : Str} {pos apos : Pos} {o e : Expr} {es : List Expr} {kws : List Keyword} {ta : TE} {t tk : TA} {g : List Value → List Value → List Value} {gV : List V → List V → List V}
end
section
variable {K : PySem.W.Frag} {n : Nat} {J : Jv n} {sx : Nat}
/-- o.m(.., k = v, ..) that may raise and is handed the store -/
def fMethNXS (sx : Nat) (c x : Str) (l : Nat) (F : FX) (nn mm : Nat) (gD : List PyData → List PyData → List PyData) (X : PyData → En → Prop) (a : FE) (f fk : FA) : FE := fun ρ P => a ρ fun d ρ1 => stF ρ1 sx fun S1 => ∃ fs, ObjU S1 d c fs ∧ fldD x fs = none ∧ f ρ1 fun ds ρ2 => fk ρ2 fun es ρ3 => ds.length = nn ∧ es.length = mm ∧ (gD ds es).length + 1 = l ∧ stF ρ3 sx fun S => F (.fz d :: ((gD ds es).map .fz ++ [.st S])) (fun e out => P e (ρ3.set sx ((out.drop l).headD .no))) fun e out => X e (ρ3.set sx ((out.drop l).headD .no))
end
end DL
/-! t > u of tuples of numbers -/
namespace L2
open PySem PySem.Spec PyProof.Rows
end L2
namespace DL
open PySem L2 Z PySem.Spec PyProof.Rows
variable [Tbs]
end DL
/-! a def that hands back data or a new list, called with what is handed in laid open; read as data -/
namespace DL
open PySem L2 Z PySem.Spec PyProof.Rows
variable [Tbs]
section
variable {K : PySem.W.Frag} {n : Nat} {J : Jv n} {sx : Nat}
def fCallUR (sx m : Nat) (F : FU) (dv : List PyData) (f : FA) : FV' := fun ρ P P2 => f ρ fun ds ρ1 => stF ρ1 sx fun S => ∃ ds', ResAll S (ds ++ dv) ds' ∧ ds'.length = m ∧ F (ds'.map .fz) (fun d _ => immD d = true ∧ P d ρ1) fun es _ => immAll es = true ∧ P2 es ρ1
/-- read as data -/
def fNewV (f : FV') : FE := fun ρ P => f ρ P fun ds ρ1 => P (.list ds) ρ1
theorem RV.re {t : TE} {f : FV'} (h : RV K J t f) : RE K J t (fNewV f) := by
  intro O as σ H Q ρ P E q k
  refine h O as σ H _ ρ _ _ E q (fun d ρ1 v H1 q1 f1 E1 d1 => k _ _ _ _ q1 f1 E1 d1) fun ds ρ1 p xs H2 q1 f1 hp1 E1 hp2 d1 => ?_
  exact k _ _ _ _ q1 f1 (E1.lessO E.inq) (.lst (SqL.of (hp_mk (fun z => z.elim (fun w => E.notO E1 hp1 hp2 w) (E1.newp hp2)) hp2)) (d1.mono (hp_less fun _ => hid_plus)))
end
end DL
/-! sorted(d), a dict by whole numbers, of any number of keys -/
namespace L2
open PySem PySem.Spec PyProof.Rows
section
variable {X : Cx}
end
end L2
namespace DL
open PySem L2 Z PySem.Spec PyProof.Rows
variable [Tbs]
section
variable {K : PySem.W.Frag} {n : Nat} {J : Jv n} {sx : Nat}
def fSortDL (sx : Nat) (a : FE) : FA := fun ρ P => a ρ fun x ρ1 => stF ρ1 sx fun S => ∃ p kd ks, x = hdl p ∧ S p = some (.dct kd) ∧ kd.map (·.1) = ks.map Sum.inl ∧ ∀ ys : List Int, ys.Perm ks → ys.Pairwise (· ≤ ·) → P (ys.map .int) ρ1
end
end DL
/-! return a if c else b, each handed back in its own way -/
namespace DL
open PySem L2 Z PySem.Spec PyProof.Rows
variable [Tbs]
section
variable {K : PySem.W.Frag} {n : Nat} {J : Jv n}
def fRetIf (c : FT) (a b : FS) : FS := fun E ρ => c ρ fun k ρ1 => if k = true then a E ρ1 else b E ρ1
end
end DL
/-! try: body except C: suite, without a name -/
namespace DL
open PySem L2 Z PySem.Spec PyProof.Rows
variable [Tbs]
section
variable {K : PySem.W.Frag} {n : Nat} {J : Jv n}
def fTry1 (tab : Str → Option Bool) (X : PyData → En → Prop) (b : (PyData → En → Prop) → FS) (su : FS) : FS := fun E ρ => b (fun d ρ' => excF d fun c _ => ∃ k, tab c = some k ∧ if k = true then su E ρ' else X d ρ') E ρ
end
end DL
/-! h.index(x), a list of the store, flat things -/
namespace DL
open PySem L2 Z PySem.Spec PyProof.Rows
variable [Tbs]
section
variable {K : PySem.W.Frag} {n : Nat} {J : Jv n} {sx : Nat}
def fIdxH (sx : Nat) (a b : FE) : FE := fun ρ P => a ρ fun x ρ1 => stF ρ1 sx fun S1 => ∃ p ds1, x = hdl p ∧ S1 p = some (.lst ds1) ∧ b ρ1 fun d ρ2 => stF ρ2 sx fun S => ∃ ds j z, S p = some (.lst ds) ∧ flatD d = true ∧ ds.all flatD = true ∧ ds[j]? = some z ∧ PyData.eqv z d = true ∧ (∀ (m : Nat) (z' : PyData), m < j → ds[m]? = some z' → PyData.eqv z' d = false) ∧ P (.int (j : Nat)) ρ2
end
end DL
/-! dicts, of the store (locked too) or as data, read; comprehensions over a dict of the store, locked meanwhile -/
namespace DL
open PySem L2 Z PySem.Spec PyProof.Rows
variable [Tbs]
/-- a dict at a place of the store, locked or not -/
def DctAt (S : Sto) (p : Addr) (kd : Kvs) : Prop := S p = some (.dct kd) ∨ ∃ od kv, S p = some (.dctL od kv kd)
def DctU (S : Sto) (x : PyData) (kd : Kvs) : Prop := (∃ p, x = hdl p ∧ DctAt S p kd) ∨ x = dctD kd
/-- a dict: with the store in slot sx, or as data -/
def dicF (m : Option Nat) (ρ : En) (x : PyData) (k : Kvs → Prop) : Prop := match m with
  | none => ∃ kd, x = dctD kd ∧ k kd
  | some sx => stF ρ sx fun S => ∃ kd, DctU S x kd ∧ k kd
section
variable {K : PySem.W.Frag} {n : Nat} {J : Jv n} {O : Addr → Prop} {as : As} {H : Hs} {ρ : En} {σ : L2.St} {S : Sto} {sx : Nat} {p : Addr} {m : Option Nat}
theorem DGet.r {H : Hp} {a : Addr} {kvs : List (L2.Key × V)} {k : L2.Key} (e : L2.Rd H a (.dK kvs)) : DGet H a (L2.kV k) (L2.valV kvs k) := .inl ⟨kvs, k, e, rfl, rfl⟩
end
section
variable {K : PySem.W.Frag} {n : Nat} {J : Jv n} {sx : Nat} {m : Option Nat}
/-- d[k] -/
def fGet (m : Option Nat) (a b : FE) : FE := fun ρ P => a ρ fun x ρ1 => b ρ1 fun y ρ2 => keyF y fun k => dicF m ρ2 x fun kd => ∃ d, valD kd k = some d ∧ P d ρ2
/-- k in d, k not in d -/
def fIn (m : Option Nat) (neg : Bool) (b a : FE) : FE := fun ρ P => b ρ fun y ρ1 => a ρ1 fun x ρ2 => keyF y fun k => dicF m ρ2 x fun kd => P (.bool (if neg then !(valD kd k).isSome else (valD kd k).isSome)) ρ2
/-- d.get(k), d.get(k, x) -/
def fGet1 (m : Option Nat) (a b : FE) : FE := fun ρ P => a ρ fun x ρ1 => dicF m ρ1 x fun _ => b ρ1 fun y ρ2 => keyF y fun k => dicF m ρ2 x fun kd => P ((valD kd k).getD .none) ρ2
def fGet2 (m : Option Nat) (a b c : FE) : FE := fun ρ P => a ρ fun x ρ1 => dicF m ρ1 x fun _ => b ρ1 fun y ρ2 => keyF y fun k => c ρ2 fun d ρ3 => dicF m ρ3 x fun kd => P ((valD kd k).getD d) ρ3
/-- sorted(d), whole numbers for keys -/
def fSortI (m : Option Nat) (a : FE) : FA := fun ρ P => a ρ fun x ρ1 => dicF m ρ1 x fun kd => ∃ ks, kd.map (·.1) = ks.map Sum.inl ∧ ∀ ys : List Int, ys.Perm ks → ys.Pairwise (· ≤ ·) → P (ys.map .int) ρ1
/-- what a walk over a dict gives: keys, things, pairs -/
def walkD (kind : Nat) (kd : Kvs) : List PyData := match kind with
  | 0 => kd.map fun z => keyD z.1
  | 1 => kd.map (·.2)
  | _ => itemsD kd
section
variable {ta : TE} {a : FE} {g : TG} {tt : TT} {te : TE} {fg : FG} {ft : FT} {fe : FE} {ws vs : List Nat}
end
end
end DL
/-! list(d.values()) -/
namespace L2
open PySem PySem.Spec PyProof.Rows
section
variable {X : Cx} {e : Expr} {te : TE} {p apos cpos pos : Pos}
end
end L2
namespace DL
open PySem L2 Z PySem.Spec PyProof.Rows
variable [Tbs]
section
variable {K : PySem.W.Frag} {n : Nat} {J : Jv n} {m : Option Nat}
/-- list(d.values()) -/
def fValsL (m : Option Nat) (a : FE) : FA := fun ρ P => a ρ fun x ρ1 => dicF m ρ1 x fun kd => P (kd.map (·.2)) ρ1
end
end DL
/-! t < u of tuples of numbers; d.setdefault(k, x); x or y of texts -/
namespace DL
open PySem L2 Z PySem.Spec PyProof.Rows
variable [Tbs]
def oLtT : G2 := fun a b P => tupleF a fun ds => tupleF b fun es => intsF ds fun ns => intsF es fun ms => P (.bool (HT.lexLt ns ms))
section
variable {K : PySem.W.Frag} {n : Nat} {J : Jv n} {sx : Nat}
/-- d.setdefault(k, x) -/
def fSetd (sx : Nat) (a b c : FE) : FE := fun ρ P => a ρ fun x ρ1 => stF ρ1 sx fun S1 => ∃ p kd1, x = hdl p ∧ S1 p = some (.dct kd1) ∧ b ρ1 fun y ρ2 => keyF y fun k => c ρ2 fun d ρ3 => stF ρ3 sx fun S => ∃ kd, S p = some (.dct kd) ∧ kd.length < sizeLine ∧
  match valD kd k with
  | some e => P e ρ3
  | none => P d (ρ3.set sx (.st (sset S p (.dct (putE kd k d)))))
end
end DL
namespace DL
open PySem L2 Z PySem.Spec PyProof.Rows
variable [Tbs]
section
variable {K : PySem.W.Frag} {n : Nat} {J : Jv n} {sx : Nat}
/-- x or y, by truth -/
def fOrT (a b : FE) : FE := fun ρ P => a ρ fun d ρ1 => truF d fun c => if c = true then P d ρ1 else b ρ1 P
end
end DL
/-! sorted(rows, key=lambda row: row[:2]), rows of which the first two are whole numbers -/
namespace DL
open PySem L2 Z PySem.Spec PyProof.Rows
section
variable {X : Cx} {pins : List (Addr × Obj)} {σ : L2.St} {H : Hp} {s : Shared}
/-- what a lambda of one name that takes nothing from around asks -/
structure Lam0 (scope : Scope) (x : Str) : Prop where
  kind : scope.kind = .function
  co : scope.isCoroutine = false
  gen : scope.isGenerator = false
  nocell : ∀ y ∈ scope.names, y.2 ≠ .cell
  nofree : ∀ y ∈ scope.names, y.2 ≠ .free
  here : scope.names.lookup x = some .local
/-- rows by their first two -/
def le2 {β : Type} (k : β → Int × Int) (p q : β) : Bool := decide ((k p).1 < (k q).1 ∨ ((k p).1 = (k q).1 ∧ (k p).2 ≤ (k q).2))
end
end DL
namespace DL
open PySem L2 Z PySem.Spec PyProof.Rows
variable [Tbs]
section
variable {K : PySem.W.Frag} {n : Nat} {J : Jv n}
end
end DL
/-! dicts of the module with texts for keys; a local name that holds a def (plain, or handed the store), called -/
namespace DL
open PySem L2 Z PySem.Spec PyProof.Rows
/-- a dict of the module: at its place, and what it gives as data -/
structure KTb (K : PySem.W.Frag) (w : World) (a : Addr) (tb : List (Str × PyData)) : Prop where
  ex : ∃ es n, KDict K w a es n
  get : ∀ z : Str, (tb.lookup z = none ∧ PySem.W.nsIn K a z = some none) ∨ ∃ v u d, tb.lookup z = some d ∧ PySem.W.nsIn K a z = some (some u) ∧ RelV v u ∧ ∀ G, Dq K G v d
section
variable {X : Cx} {a : Addr} {tb : List (Str × PyData)}
end
variable [Tbs]
section
variable {K : PySem.W.Frag} {n : Nat} {J : Jv n} {a : Addr} {tb : List (Str × PyData)} {w : World}
def strK (y : PyData) (k : Str → Prop) : Prop := match y with
  | .str z => k z
  | _ => False
/-- k in d, k not in d -/
def fKIn (neg : Bool) (tb : List (Str × PyData)) (b : FE) : FE := fun ρ P => b ρ fun y ρ1 => strK y fun z => P (.bool (if neg then !(tb.lookup z).isSome else (tb.lookup z).isSome)) ρ1
/-- d[k] -/
def fKGet (tb : List (Str × PyData)) (b : FE) : FE := fun ρ P => b ρ fun y ρ1 => strK y fun z => ∃ d, tb.lookup z = some d ∧ P d ρ1
/-- d.get(k, x) -/
def fKGet2 (tb : List (Str × PyData)) (b c : FE) : FE := fun ρ P => b ρ fun y ρ1 => strK y fun z => c ρ1 fun x ρ2 => P ((tb.lookup z).getD x) ρ2
end
/-! a local name that holds a def that doesn't raise -/
structure Held0 (P : Program) (w : World) (K : PySem.W.Frag) (mg : Str → Option Value) (base : Heap) (k : Nat) (f : Addr) (sp : Sp) : Prop where
  ex : ∃ (fd : FuncData) (ps : List Str), FnOk P w K mg base CX0 k f fd ps sp ∧ PySem.W.keepIn K (.ref f) = true ∧ Binds K fd ps []
section
variable {X : Cx} {k i : Nat} {E : XK} {x : Str} {p pos : Pos} {e : Expr} {es : List Expr} {t : TA}
end
section
variable {K : PySem.W.Frag} {n : Nat} {J : Jv n}
def tabN : List (Str × Nat × FN) → Str → (Nat → FN → Prop) → Prop
  | [], _, _ => False
  | (y, m, F) :: l, x, k => if y = x then k m F else tabN l x k
/-- the def that a slot holds, called -/
def fCallV0 (i : Nat) (tab : List (Str × Nat × FN)) (a : FC) : FE := fun ρ P => funF ρ i fun x => tabN tab x fun m F => fCall m F [] a ρ P
/-- .. which is handed the store -/
def fCallV0S (sx i : Nat) (tab : List (Str × Nat × FN)) (a : FC) : FE := fun ρ P => funF ρ i fun x => tabN tab x fun m F => fCallS sx m F [] a ρ P
end
end DL
namespace DL
open PySem L2 Z PySem.Spec PyProof.Rows
section
variable {X : Cx} {a : Addr} {tb : List (Str × PyData)}
end
end DL
/-! d[k] of a dict of the store as a target; h.pop() -/
namespace DL
open PySem L2 Z PySem.Spec PyProof.Rows
variable [Tbs]
section
variable {K : PySem.W.Frag} {n : Nat} {J : Jv n} {sx : Nat}
def gSubD (sx : Nat) (a b : FE) : FG := fun d ρ P => a ρ fun x ρ1 => b ρ1 fun y ρ2 => keyF y fun k => stF ρ2 sx fun S => ∃ p kd, x = hdl p ∧ S p = some (.dct kd) ∧ kd.length < sizeLine ∧ P (ρ2.set sx (.st (sset S p (.dct (putE kd k d)))))
/-- h.pop(), h.pop() as a statement's value -/
def fPopH (sx : Nat) (a : FE) : FE := fun ρ P => a ρ fun x ρ1 => stF ρ1 sx fun S => ∃ p ds d, x = hdl p ∧ S p = some (.lst ds) ∧ ds[ds.length - 1]? = some d ∧ P d (ρ1.set sx (.st (sset S p (.lst ds.dropLast))))
/-- own.remove(e), whole numbers, one of them -/
def fRemO (i : Nat) (a : FE) : FS := fun E ρ => ownF ρ i fun _ => a ρ fun x ρ1 => intF x fun k => ownF ρ1 i fun ds => ∃ ns : List Int, ds = ns.map .int ∧ k ∈ ns ∧ E.nx (ρ1.set i (.own ((ns.erase k).map .int)))
end
end DL
/-! < of numbers or of texts; a comprehension over a locked dict, stored; a def with the store whose code is known -/
namespace DL
open PySem L2 Z PySem.Spec PyProof.Rows
section
variable {X : Cx}
end
def oLtM : G2 := fun a b P => match a, b with
  | .int i, .int j => P (.bool (decide (i < j)))
  | .str x, .str y => P (.bool (decide (x.cps.toList < y.cps.toList)))
  | _, _ => False
variable [Tbs]
section
variable {P : Program} {w : World} {K : PySem.W.Frag} {mg : Str → Option Value} {base : Heap} {k : Nat} {f : Addr} {fd : FuncData} {ps : List Str} {x qual : Str} {st : Stmt} {N : List Str}
end
end DL
/-! a comprehension over a dict that is data, locked meanwhile -/
namespace DL
open PySem L2 Z PySem.Spec PyProof.Rows
variable [Tbs]
/-- but for the locks of dicts all is the same -/
structure Lks (G G' : Hp) : Prop where
  k : ∀ a o, G a = some o → (∀ kv, o ≠ .dK kv) → (∀ od kv, o ≠ .frz od (.dK kv)) → G' a = some o
  d : ∀ a kv, L2.Rd G a (.dK kv) → L2.Rd G' a (.dK kv)
section
variable {K : PySem.W.Frag} {G G' : Hp}
theorem Lks.sqL (l : Lks G G') {a : Addr} {xs : List V} (h : SqL K G a xs) : SqL K G' a xs :=
  h.imp (Or.imp (fun e => l.k _ _ e (fun _ z => by cases z) fun _ _ z => by cases z) fun ⟨o, e⟩ => ⟨o, l.k _ _ e (fun _ z => by cases z) fun _ _ z => by cases z⟩) id
theorem Lks.sqT (l : Lks G G') {a : Addr} {xs : List V} (h : SqT K G a xs) : SqT K G' a xs :=
  h.imp (Or.imp (fun e => l.k _ _ e (fun _ z => by cases z) fun _ _ z => by cases z) fun ⟨o, e⟩ => ⟨o, l.k _ _ e (fun _ z => by cases z) fun _ _ z => by cases z⟩) id
mutual
theorem Dq.lks (l : Lks G G') : ∀ {v : V} {d : PyData}, Dq K G v d → Dq K G' v d
  | _, _, .non => .non
  | _, _, .bl b => .bl b
  | _, _, .int i => .int i
  | _, _, .str x => .str x
  | _, _, .lst h r => .lst (l.sqL h) (DqAll.lks l r)
  | _, _, .tup h r => .tup (l.sqT h) (DqAll.lks l r)
  | _, _, .obj c h r => .obj c (l.k _ _ h (fun _ z => by cases z) fun _ _ z => by cases z) (DqFs.lks l r)
  | _, _, .exc c h g r => .exc c (l.k _ _ h (fun _ z => by unfold exk at z; cases z) fun _ _ z => by unfold exk at z; cases z) (l.k _ _ g (fun _ z => by cases z) fun _ _ z => by cases z) (DqFs.lks l r)
  | _, _, .fnc h => .fnc h
  | _, _, .hdl => .hdl
  | _, _, .tn h n r => .tn (l.k _ _ h (fun _ z => by cases z) fun _ _ z => by cases z) n (DqAll.lks l r)
  | _, _, .dct h r => .dct (l.d _ _ h) (DqKs.lks l r)
theorem DqKs.lks (l : Lks G G') : ∀ {fv : List (L2.Key × V)} {fs : List (L2.Key × PyData)}, DqKs K G fv fs → DqKs K G' fv fs
  | _, _, .nil => .nil
  | _, _, .cons a b => .cons (Dq.lks l a) (DqKs.lks l b)
theorem DqFs.lks (l : Lks G G') : ∀ {fv : List (Str × V)} {fs : List (PyData × PyData)}, DqFs K G fv fs → DqFs K G' fv fs
  | _, _, .nil => .nil
  | _, _, .cons a b => .cons (Dq.lks l a) (DqFs.lks l b)
theorem DqAll.lks (l : Lks G G') : ∀ {v : List V} {d : List PyData}, DqAll K G v d → DqAll K G' v d
  | _, _, .nil => .nil
  | _, _, .cons a b => .cons (Dq.lks l a) (DqAll.lks l b)
end
theorem SoR.lks (l : Lks G G') {u : HO} {o : SO} (h : SoR K G u o) : SoR K G' u o := by
  cases h with
  | lst q => exact .lst (q.lks l)
  | obj c q => exact .obj c (q.lks l)
  | dct q => exact .dct (q.lks l)
  | dctL q => exact .dctL (q.lks l)
end
section
variable {K : PySem.W.Frag} {n : Nat} {J : Jv n}
end
section
variable {K : PySem.W.Frag} {n : Nat} {J : Jv n}
section
variable {ta : TE} {a : FE} {g : TG} {tt : TT} {te : TE} {fg : FG} {ft : FT} {fe : FE} {ws vs : List Nat}
end
end
end DL
/-! sum(t) of a tuple of numbers -/
namespace L2
open PySem PySem.Spec PyProof.Rows
section
variable {X : Cx}
end
end L2
namespace DL
open PySem L2 Z PySem.Spec PyProof.Rows
variable [Tbs]
def bSumT (ds : List PyData) (P : PyData → Prop) : Prop := one ds fun d => tupleF d fun es => intsF es fun ns => P (.int ns.sum)
end DL
/-! a dict of the module, as the end finds it -/
namespace DL
open PySem L2 Z PySem.Spec PyProof.Rows
/-- an entry: hash, the key's mark, key, value, the value as data -/
structure KEnt where
  h : Int
  t : Tok
  x : Str
  v : Value
  d : PyData
def KEnt.e (k : KEnt) : DictEntry := ⟨k.h, .str k.x k.t, k.v⟩
theorem KEnt.nr : ∀ ks : List KEnt, (ks.map KEnt.e).any (·.refKey) = false
  | [] => rfl
  | k :: r => by rw [List.map_cons, List.any_cons, KEnt.nr r]; rfl
theorem KEnt.look (z : Str) : ∀ ks : List KEnt, ((ks.map fun k => (k.x, k.d)).lookup z = none ∧ (ks.map KEnt.e).find? (·.key.isStr z) = none) ∨ ∃ k ∈ ks, (ks.map fun k => (k.x, k.d)).lookup z = some k.d ∧ (ks.map KEnt.e).find? (·.key.isStr z) = some k.e
  | [] => .inl ⟨rfl, rfl⟩
  | k :: r => by
    rw [List.map_cons, List.lookup_cons, List.map_cons, List.find?_cons]
    by_cases e : k.x = z
    · refine .inr ⟨k, List.mem_cons_self, ?_⟩
      have h1 : (z == (k.x, k.d).1) = true := by simp [e]
      have h2 : k.e.key.isStr z = true := by show (k.x == z) = true; simp [e]
      rw [h1, h2]
      exact ⟨rfl, rfl⟩
    · have h1 : (z == (k.x, k.d).1) = false := by simpa using fun h => e h.symm
      have h2 : k.e.key.isStr z = false := by show (k.x == z) = false; simpa using e
      rw [h1, h2]
      rcases KEnt.look z r with ⟨a, b⟩ | ⟨j, hj, a, b⟩
      · exact .inl ⟨a, b⟩
      · exact .inr ⟨j, List.mem_cons_of_mem _ hj, a, b⟩
theorem KTb.of {K : PySem.W.Frag} {w : World} {a : Addr} {n : Nat} (ks : List KEnt) (hl : K.lookup a = some ⟨.type "dict", none, .dict (ks.map KEnt.e).toArray n, #[]⟩) (lit : PySem.W.KeysLit w.params (ks.map KEnt.e)) (low : (a == sysModules) = false)
    (hv : ∀ k ∈ ks, ∃ v, RelV v k.v ∧ ∀ G, Dq K G v k.d) : KTb K w a (ks.map fun k => (k.x, k.d)) := by
  refine ⟨⟨_, n, hl, lit, low⟩, fun z => ?_⟩
  unfold PySem.W.nsIn
  rw [hl]
  simp only
  rcases KEnt.look z ks with ⟨h1, h2⟩ | ⟨k, hk, h1, h2⟩
  · rw [h2]
    refine .inl ⟨h1, ?_⟩
    simp only [KEnt.nr ks]
    rfl
  · rw [h2]
    obtain ⟨v, q1, q2⟩ := hv k hk
    exact .inr ⟨v, _, _, h1, rfl, q1, q2⟩
theorem KEnt.fn {K : PySem.W.Frag} {x : Str} {a : Addr} (h : PySem.W.nsIn K mainGlobals x = some (some (.ref a))) : ∃ v, RelV v (.ref a) ∧ ∀ G, Dq K G v (fnD x) := ⟨.ref a, rfl, fun _ => .fnc h⟩
theorem KEnt.int {K : PySem.W.Frag} {i : Int} {t : Tok} : ∃ v, RelV v (.int i t) ∧ ∀ G, Dq K G v (.int i) := ⟨.int i, ⟨_, rfl⟩, fun _ => .int i⟩
theorem KEnt.str {K : PySem.W.Frag} {x : Str} {t : Tok} : ∃ v, RelV v (.str x t) ∧ ∀ G, Dq K G v (.str x) := ⟨.str x, ⟨_, rfl⟩, fun _ => .str x⟩
theorem KEnt.nil {p : KEnt → Prop} : ∀ k ∈ ([] : List KEnt), p k := fun _ h => by cases h
theorem KEnt.cons {p : KEnt → Prop} {k : KEnt} {r : List KEnt} (h : p k) (q : ∀ k ∈ r, p k) : ∀ j ∈ k :: r, p j := fun j hj => (List.mem_cons.mp hj).elim (fun e => by rw [e]; exact h) (q j)
end DL
/-! zip(xs, ys, strict=True) of two lists of one length; a store's list.remove(x) -/
namespace ZS
open PySem
open Sem (wp)
/-- the strict zip's own object -/
abbrev zob (f TI TO : Value) : Obj := { cls := .type "zip", dict := none, data := .fields #[f, .bool false, .bool true, TI, TO], slots := #[] }
abbrev two (a b : Value) : Obj := { cls := .type "tuple", data := .seq #[a, b] }
section
variable {z TI TO i1 i2 l1 l2 : Addr} {xs ys : Array Value}
/-- where a strict zip of two lists stands -/
structure At (z TI TO i1 i2 l1 l2 : Addr) (xs ys : Array Value) (h : Heap) (f a b : Value) (k m : Nat) : Prop where
  zz : h.get? z = some (zob f (.ref TI) (.ref TO))
  ti : h.get? TI = some (two (.ref i1) (.ref i2))
  tt : h.get? TO = some (two a b)
  w1 : h.IsListIter i1 l1 k
  w2 : h.IsListIter i2 l2 m
  q1 : h.IsList l1 xs
  q2 : h.IsList l2 ys
variable {h g : Heap} {f f' a b a' b' : Value} {k m : Nat}
/-- all but these four places stays -/
def Rest (z TO i1 i2 : Addr) (h g : Heap) : Prop := ∀ c o, c ≠ z → c ≠ TO → c ≠ i1 → c ≠ i2 → h.get? c = some o → g.get? c = some o
theorem At.moveZ (D : ZipApart z TI TO i1 i2 l1 l2) (A : At z TI TO i1 i2 l1 l2 xs ys h f a b k m) (e : g.get? z = some (zob f' (.ref TI) (.ref TO))) (r : Heap.ExtBut z h g) : At z TI TO i1 i2 l1 l2 xs ys g f' a b k m :=
  ⟨e, r _ _ D.TIz A.ti, r _ _ D.TOz A.tt, A.w1.at fun o => r _ o D.i1z, A.w2.at fun o => r _ o D.i2z, A.q1.at fun o => r _ o D.l1z, A.q2.at fun o => r _ o D.l2z⟩
theorem At.moveT (D : ZipApart z TI TO i1 i2 l1 l2) (A : At z TI TO i1 i2 l1 l2 xs ys h f a b k m) (e : g.get? TO = some (two a' b')) (r : Heap.ExtBut TO h g) : At z TI TO i1 i2 l1 l2 xs ys g f a' b' k m :=
  ⟨r _ _ D.TOz.symm A.zz, r _ _ D.TITO A.ti, e, A.w1.at fun o => r _ o D.TOi1.symm, A.w2.at fun o => r _ o D.TOi2.symm, A.q1.at fun o => r _ o D.l1TO, A.q2.at fun o => r _ o D.l2TO⟩
theorem At.move1 (D : ZipApart z TI TO i1 i2 l1 l2) (A : At z TI TO i1 i2 l1 l2 xs ys h f a b k m) {k' : Nat} (e : g.IsListIter i1 l1 k') (r : Heap.ExtBut i1 h g) : At z TI TO i1 i2 l1 l2 xs ys g f a b k' m :=
  ⟨r _ _ D.i1z.symm A.zz, r _ _ D.TIi1 A.ti, r _ _ D.TOi1 A.tt, e, A.w2.at fun o => r _ o D.i12.symm, A.q1.at fun o => r _ o D.l1i1, A.q2.at fun o => r _ o D.l2i1⟩
theorem At.move2 (D : ZipApart z TI TO i1 i2 l1 l2) (A : At z TI TO i1 i2 l1 l2 xs ys h f a b k m) {m' : Nat} (e : g.IsListIter i2 l2 m') (r : Heap.ExtBut i2 h g) : At z TI TO i1 i2 l1 l2 xs ys g f a b k m' :=
  ⟨r _ _ D.i2z.symm A.zz, r _ _ D.TIi2 A.ti, r _ _ D.TOi2 A.tt, A.w1.at fun o => r _ o D.i12, e, A.q1.at fun o => r _ o D.l1i2, A.q2.at fun o => r _ o D.l2i2⟩
variable {prog : Program} {w : World} {A : Around} {E : Value → Shared → Prop} {s : Shared}
/-- one draw, the end told by none -/
theorem draw {it l : Addr} {i : Nat} {items : Array Value} {Q : Option Value → Shared → Prop} (hh : A.handled = none) (hi : s.heap.IsListIter it l i) (hl : s.heap.IsList l items)
    (some_ : ∀ v g, items[i]? = some v → g.IsListIter it l (i + 1) → Heap.SameBut it s.heap g → Q (some v) { s with heap := g })
    (none_ : ∀ g, items[i]? = none → Heap.ExtBut it s.heap g → Q none { s with heap := g }) : wpAny (model prog w) A (Builtin.SmallTypes.nextOrEnd (.ref it)) Q E s := by
  unfold Builtin.SmallTypes.nextOrEnd
  refine wpAny_bind (wpAny_attempt ?_)
  cases e : items[i]? with
  | some v => exact wpAny_nextOf_list_item hi hl e fun g p r => wpAny_pure (some_ v g e p r)
  | none => exact wpAny_nextOf_list_end hh hi hl e fun g x p r => wpAny_bind (wpAny_isInstance (T := "StopIteration") (b := true) (let ⟨o, ho, hc⟩ := r; ⟨o, ho, hc⟩) isSubtype_stop (wpAny_pure (none_ g e p)))
/-- the next one: a pair of one draw from each, or the end where both are at theirs -/
theorem next {Q : Fin → Shared → Prop} (hh : A.handled = none) (D : ZipApart z TI TO i1 i2 l1 l2) (Z : At z TI TO i1 i2 l1 l2 xs ys s.heap .none a b k m) (both : xs[k]? = none ↔ ys[m]? = none)
    (item : ∀ x y g, xs[k]? = some x → ys[m]? = some y → At z TI TO i1 i2 l1 l2 xs ys g (rawInt s.heap.objs.size) x y (k + 1) (m + 1) → g.get? s.heap.objs.size = some (two x y) → Rest z TO i1 i2 s.heap g → Q (.done (.ret (.ref s.heap.objs.size))) { s with heap := g })
    (stop : ∀ g e, xs[k]? = none → Rest z TO i1 i2 s.heap g → (∃ o, g.get? e = some o ∧ o.cls = .type "StopIteration") → E (.ref e) { s with heap := g }) :
    wpAny (model prog w) A (Builtin.«zip.__next__» ⟨[.ref z], []⟩) Q E s := by
  show wpAny _ _ (field (.ref z) 2 >>= _) _ _ _
  refine wpAny_bind (wpAny_field Z.zz rfl (x := .bool true) rfl (?_ : wpAny _ _ (field (.ref z) 3 >>= _) _ _ _))
  refine wpAny_bind (wpAny_field Z.zz rfl (x := .ref TI) rfl (wpAny_bind (wpAny_seqItems Z.ti rfl ?_)))
  refine wpAny_bind (?_ : wpAny _ _ (Builtin.SmallTypes.ownedTupleIsFree (.ref z)) _ _ _)
  unfold Builtin.SmallTypes.ownedTupleIsFree
  refine wpAny_bind (wpAny_field Z.zz rfl (x := .none) rfl (wpAny_pure ?_))
  rw [if_pos (by rfl)]
  refine wpAny_bind (wpAny_rule (wpAny_bind (wpAny_field Z.zz rfl (x := .ref TO) rfl (wpAny_bind (wpAny_setField_rec Z.zz (by simp) fun g1 e1 r1 => ?_)))))
  have Z1 := Z.moveZ (f' := .ellipsis) D e1 r1.extBut
  refine wpAny_bind ?_
  simp only [List.zipIdx_cons, List.zipIdx_nil, List.forIn_cons, List.forIn_nil]
  refine wpAny_bind (wpAny_bind (wpAny_onRaise (?_ : wpAny _ _ (Builtin.SmallTypes.nextOrEnd (.ref i1)) _ _ _)))
  refine draw hh Z1.w1 Z1.q1 (fun x g2 ex e2 r2 => ?_) fun g2 ex r2 => ?_
  · have Z2 := Z1.move1 D e2 r2.extBut
    refine wpAny_bind (wpAny_seqItems Z2.tt rfl (wpAny_bind (wpAny_updateSeq_pair Z2.tt fun g3 e3 r3 => ?_)))
    have Z3 := Z2.moveT (a' := x) (b' := b) D e3 r3.extBut
    refine wpAny_bind (wpAny_letGo (wpAny_pure (wpAny_bind (wpAny_bind (wpAny_onRaise (?_ : wpAny _ _ (Builtin.SmallTypes.nextOrEnd (.ref i2)) _ _ _))))))
    refine draw hh Z3.w2 Z3.q2 (fun y g4 ey e4 r4 => ?_) fun g4 ey _ => absurd (both.mpr ey) (by rw [ex]; exact fun w => by cases w)
    have Z4 := Z3.move2 D e4 r4.extBut
    refine wpAny_bind (wpAny_seqItems Z4.tt rfl (wpAny_bind (wpAny_updateSeq_pair Z4.tt fun g5 e5 r5 => ?_)))
    have Z5 := Z4.moveT (a' := x) (b' := y) D e5 r5.extBut
    refine wpAny_bind (wpAny_letGo (wpAny_pure (wpAny_pure (wpAny_bind (wpAny_seqItems Z5.tt rfl (wpAny_bind (wpAny_newTuple ?_)))))))
    have size : g5.objs.size = s.heap.objs.size := by rw [r5.1, r4.1, r3.1, r2.1, r1.1]
    refine wpAny_bind (?_ : wpAny _ _ (Builtin.SmallTypes.ownedTupleHandOut (.ref z) (.ref g5.objs.size)) _ _ _)
    unfold Builtin.SmallTypes.ownedTupleHandOut
    have zlt := Heap.lt_size Z5.zz
    have Z6 := Z5.moveZ (g := g5.push (two x y)) D (Heap.get?_push_of_some _ Z5.zz) fun c o _ e => Heap.get?_push_of_some _ e
    refine wpAny_bind (wpAny_setField_rec Z6.zz (by simp) fun g7 e7 r7 => ?_)
    have Z7 := Z6.moveZ (f' := rawInt g5.objs.size) D e7 r7.extBut
    refine wpAny_setField_rec Z7.zz (by simp) fun g8 e8 r8 => wpAny_pure ?_
    have Z8 := Z7.moveZ (f' := rawInt g5.objs.size) D e8 r8.extBut
    have last : g8.get? g5.objs.size = some (two x y) := r8.extBut _ _ (Nat.ne_of_gt zlt) (r7.extBut _ _ (Nat.ne_of_gt zlt) (Heap.get?_push_size _ rfl))
    rw [size] at Z8 last
    show Q (.done (.ret (.ref g5.objs.size))) _
    rw [size]
    exact item x y g8 ex ey Z8 last fun c o n1 n2 n3 n4 e => r8.extBut _ _ n1 (r7.extBut _ _ n1 (Heap.get?_push_of_some _ (r5.extBut _ _ n2 (r4.extBut _ _ n4 (r3.extBut _ _ n2 (r2.extBut _ _ n3 (r1.extBut _ _ n1 e)))))))
  · have zz2 := r2 _ _ D.i1z.symm Z1.zz
    refine wpAny_bind (wpAny_setField_rec zz2 (by simp) fun g3 e3 r3 => wpAny_bind (wpAny_bind ?_))
    have far : ∀ c o, c ≠ z → c ≠ i1 → s.heap.get? c = some o → g3.get? c = some o := fun c o n1 n3 e => r3.extBut _ _ n1 (r2 _ _ n3 (r1.extBut _ _ n1 e))
    simp only [List.drop_succ_cons, List.drop_zero, List.zipIdx_cons, List.zipIdx_nil, List.forIn_cons, List.forIn_nil]
    refine wpAny_bind (wpAny_bind (draw hh (Z.w2.at fun o => far _ o D.i2z D.i12.symm) (Z.q2.at fun o => far _ o D.l2z D.l2i1) (fun y _ ey _ _ => absurd (both.mp ex) (by rw [ey]; exact fun w => by cases w)) fun g4 _ r4 => ?_))
    rw [if_neg (by exact Bool.false_ne_true)]
    refine wpAny_pure (wpAny_pure (wpAny_bind (wpAny_rule (?_ : wpAny _ _ (newExc (.type "StopIteration") [] >>= _) _ _ _))))
    refine wpAny_bind ?_
    simp only [newExc, newTuple, raiseNew]
    refine wpAny_bind (wpAny_newObj_type (wpAny_bind (m := firstArgMember _ _) (wpAny_of_eq (a := Value.none) (by simp only [firstArgMember]; rfl) (wpAny_newObj_type ?_ (by size_fits)))) (by size_fits))
    refine wpAny_bind (wpAny_handled ?_)
    first | rw [hh] | rw [show A.in1.handled = none from hh]
    exact wpAny_bind (wpAny_pure (wpAny_throw (stop _ _ ex (fun c o n1 _ n3 n4 e => Heap.get?_push_of_some _ (Heap.get?_push_of_some _ (r4 _ _ n4 (far c o n1 n3 e)))) ⟨_, Heap.get?_push_size _ rfl, rfl⟩)))
end
/-- the heap behind zip(l1, l2, strict=True) -/
abbrev behind (h : Heap) (l1 l2 : Addr) : Heap := (zipH4 h l1 l2).push (zob .none (.ref (zipH2 h l1 l2).objs.size) (.ref (zipH3 h l1 l2).objs.size))
theorem made (l1 l2 : Addr) (xs ys : Array Value) : Meets (Builtin.«zip.__new__» ⟨[.type "zip", .ref l1, .ref l2], [(Str.ofString "strict", .bool true)]⟩) (fun _ R s => s.heap.IsList l1 xs ∧ s.heap.IsList l2 ys ∧ R (.ok (.ret (.ref (zipH4 s.heap l1 l2).objs.size))) { s with heap := behind s.heap l1 l2 }) :=
  .of_wp fun prog w A R s ⟨q1, q2, r⟩ => by
    obtain ⟨h0, gs, dr, ts, os⟩ := s
    have sub := sub_zip
    have one : Heap.IsList (Shared.heap ⟨h0, gs, dr, ts, os⟩) l1 xs := q1
    have other : Heap.IsList (Shared.heap ⟨h0.push { cls := .type "list_iterator", data := .fields #[.ref l1, .int 0 0] }, gs, dr, ts, os⟩) l2 ys := Heap.IsList.push q2 _
    have word : (Str.ofString "strict" != ("strict" : Str)) = false := by decide +kernel
    wp_walk using wpAny_pyIter_list one, wpAny_pyIter_list other
    exact ⟨_, rfl, r⟩
section
variable {prog : Program} {w : World} {A : Around} {E : Value → Shared → Prop} {s : Shared}
end
open PySem PySem.Spec PyProof.Rows L2
section
variable {P : Program} {w : World} {K : PySem.W.Frag} {elts : List Expr} {kk : Nat} {tpos : Pos} {a b z TI TO i1 i2 : Addr}
end
section
variable {M : Model} {A : Around} {E : Value → Shared → Prop} {s : Shared} {env : Env}
end
end ZS
namespace DL
open PySem L2 Z PySem.Spec PyProof.Rows
variable [Tbs]
section
variable {K : PySem.W.Frag} {n : Nat} {J : Jv n} {a b : Addr} {xs ys : List V} {sx : Nat}
/-- zip(xs, ys, strict=True) of two lists of one length -/
def iZS (f : FA) : FA := fun ρ P => f ρ fun ds ρ1 => match ds with
  | [.list es, .list gs] => es.length = gs.length ∧ P (zipD es gs) ρ1
  | _ => False
/-- h.remove(e), whole numbers, one of them, h a list of the store -/
def fRemH (sx : Nat) (a e : FE) : FS := fun E ρ => a ρ fun x ρ1 => stF ρ1 sx fun S => ∃ p ds, x = hdl p ∧ S p = some (.lst ds) ∧ e ρ1 fun d ρ2 => intF d fun k => stF ρ2 sx fun S' => ∃ ns : List Int, S' p = some (.lst (ns.map .int)) ∧ k ∈ ns ∧ E.nx (ρ2.set sx (.st (sset S' p (.lst ((ns.erase k).map .int)))))
end
end DL
/-! d == {}, d a dict of the store -/
namespace DL
open PySem L2 Z PySem.Spec PyProof.Rows
variable [Tbs]
section
variable {K : PySem.W.Frag} {n : Nat} {J : Jv n} {sx : Nat}
def fEqE (sx : Nat) (a b : FE) : FE := fun ρ P => a ρ fun x ρ1 => b ρ1 fun y ρ2 => stF ρ2 sx fun S => ∃ p q kd, x = hdl p ∧ y = hdl q ∧ S p = some (.dct kd) ∧ S q = some (.dct []) ∧ P (.bool kd.isEmpty) ρ2
end
end DL
/-! a def with a lambda that hands back a new list -/
namespace DL
open PySem L2 Z PySem.Spec PyProof.Rows
variable [Tbs]
section
variable {P : Program} {w : World} {K : PySem.W.Frag} {mg : Str → Option Value} {base : Heap} {k : Nat} {f : Addr} {fd : FuncData} {ps : List Str} {x qual : Str} {st : Stmt} {N : List Str}
end
end DL
/-! a list unpacked into names -/
namespace DL
open PySem L2 Z PySem.Spec PyProof.Rows
variable [Tbs]
section
variable {K : PySem.W.Frag} {n : Nat} {J : Jv n}
def gU (m : Nat) (b : FGs) : FG := fun d ρ P => match d with
  | .list ds => ds.length = m ∧ b ds ρ P
  | _ => False
end
end DL
/-! a for statement over a dict that is data, locked meanwhile; fields of objects that stay -/
namespace DL
open PySem L2 Z PySem.Spec PyProof.Rows
variable [Tbs]
section
variable {K : PySem.W.Frag}
end
section
variable {K : PySem.W.Frag} {n : Nat} {J : Jv n}
def fForD (kind : Nat) (us : List Nat) (a : FE) (g : FG) (b : FS) : FS := fun E ρ => a ρ fun x ρ1 => ∃ kd, x = dctD kd ∧ forW us (walkD kind kd) g b { nx := E.nx, rt := fun _ _ => False, ro := fun _ _ => False } ρ1
section
variable {ta : TE} {a : FE} {g : TG} {tb : TS} {fg : FG} {b : FS} {us ws : List Nat}
end
end
/-! a call with keywords, what is handed in laid open -/
section
variable {K : PySem.W.Frag} {n : Nat} {J : Jv n} {sx : Nat}
def fCallNR (sx l : Nat) (F : FN) (i m : Nat) (gD : List PyData → List PyData → List PyData) (f fk : FA) : FE := fun ρ P => f ρ fun ds ρ1 => fk ρ1 fun es ρ2 => ds.length = i ∧ es.length = m ∧ stF ρ2 sx fun S => ∃ ds', ResAll S (gD ds es) ds' ∧ ds'.length = l ∧ F (ds'.map .fz) fun d _ => immD d = true ∧ P d ρ2
def fCallNRW (sx l : Nat) (F : FM) (i m : Nat) (gD : List PyData → List PyData → List PyData) (f fk : FA) : FA := fun ρ P => f ρ fun ds ρ1 => fk ρ1 fun es ρ2 => ds.length = i ∧ es.length = m ∧ stF ρ2 sx fun S => ∃ ds', ResAll S (gD ds es) ds' ∧ ds'.length = l ∧ F (ds'.map .fz) fun d _ => immAll d = true ∧ P d ρ2
end
end DL
/-! sorted(e) of a list of any alike data -/
namespace DL
open PySem L2 Z PySem.Spec PyProof.Rows
variable [Tbs]
/-- what can be sorted: all alike, tuples that aren't empty or no tuples at all -/
def srtOk (es : List PyData) : Prop := PyData.hasDictAll es = false ∧ PySem.W.AllAlike es ∧ PySem.W.Sortable es ∧ ∀ d ∈ es, d.depth < 60
abbrev leD : PyData → PyData → Bool := PySem.W.dataLe false id
section
variable {X : Cx}
end
section
variable {K : PySem.W.Frag}
def nSortD (ds : List PyData) (P : List PyData → Prop) : Prop := one ds fun d => listF d fun es => srtOk es ∧ P (es.mergeSort leD)
end
end DL
/-! sorted(d), a dict by texts -/
namespace L2
open PySem PySem.Spec PyProof.Rows
section
variable {X : Cx}
end
end L2
namespace DL
open PySem L2 Z PySem.Spec PyProof.Rows
variable [Tbs]
section
variable {K : PySem.W.Frag} {n : Nat} {J : Jv n} {sx : Nat}
abbrev sortS (ks : List Str) : List Str := ks.mergeSort (PySem.W.dataLe false PyData.str)
def fSortKS (m : Option Nat) (a : FE) : FA := fun ρ P => a ρ fun x ρ1 => dicF m ρ1 x fun kd => ∃ ks : List Str, kd.map (·.1) = ks.map Sum.inr ∧ P ((sortS ks).map .str) ρ1
end
end DL
/-! enumerate(v, start=k) of a list or a tuple -/
namespace EMS
open PySem PySem.Spec PyProof.Rows L2 ZM EM
end EMS
namespace DL
open PySem L2 Z PySem.Spec PyProof.Rows
variable [Tbs]
section
variable {K : PySem.W.Frag} {n : Nat} {J : Jv n}
def enumSD (z : Int) (ds : List PyData) : List PyData := ds.zipIdx.map fun p => .tuple [.int (z + (p.2 : Nat)), p.1]
def iES (z : Int) (f : FA) : FA := fun ρ P => f ρ fun ds ρ1 => match ds with
  | [x] => seqF x fun es => P (enumSD z es) ρ1
  | _ => False
end
end DL
/-! i, j, l = e, [..], e', stored as names are -/
namespace DL
open PySem L2 Z PySem.Spec PyProof.Rows
variable [Tbs]
section
variable {K : PySem.W.Frag} {n : Nat} {J : Jv n}
end
end DL
/-! own == [], own != [], own a list of any things -/
namespace DL
open PySem L2 Z PySem.Spec PyProof.Rows
variable [Tbs]
section
variable {K : PySem.W.Frag} {n : Nat} {J : Jv n}
/-- own == [], own != [] -/
def fEqN (h : Bool → Bool) (i : Nat) (b : FA) : FE := fun ρ P => ownF ρ i fun _ => b ρ fun es ρ1 => ownF ρ1 i fun ds => es = [] ∧ P (.bool (h ds.isEmpty)) ρ1
end
end DL
/-! for x in h, h a list of the store with any things -/
namespace DL
open PySem L2 Z PySem.Spec PyProof.Rows
variable [Tbs]
section
variable {K : PySem.W.Frag} {n : Nat} {J : Jv n} {sx : Nat}
def fForV (us : List Nat) (sx : Nat) (a : FE) (g : FG) (b : FS) : FS := fun E ρ => a ρ fun x ρ1 => stF ρ1 sx fun S => ∃ p ds, x = hdl p ∧ S p = some (.lst ds) ∧ forH us sx p ds ds g b E ρ1
/-- h == [], h != [] -/
def fEqH (h : Bool → Bool) (sx : Nat) (a : FE) (b : FA) : FE := fun ρ P => a ρ fun x ρ1 => b ρ1 fun es ρ2 => stF ρ2 sx fun S => ∃ p ds, x = hdl p ∧ S p = some (.lst ds) ∧ es = [] ∧ P (.bool (h ds.isEmpty)) ρ2
/-- h + [..] -/
def fCatH (sx : Nat) (a b : FE) : FA := fun ρ P => a ρ fun x ρ1 => b ρ1 fun y ρ2 => stF ρ2 sx fun S => ∃ p ds es, x = hdl p ∧ S p = some (.lst ds) ∧ y = .list es ∧ ds.length + es.length ≤ sizeLine ∧ P (ds ++ es) ρ2
end
end DL
/-! o != x by an own __eq__; h.pop(k) of a list of the store -/
namespace DL
open PySem L2 Z PySem.Spec PyProof.Rows PySem.W
section
variable {prog : Program} {w : World} {M : Model} {A : Around} {E : Value → Shared → Prop} {s : Shared} {K : PySem.W.Frag} {x C f L : Addr} {ox : PySem.Obj} {od : Option PySem.Obj} {b tb : Value} {h₀ : Heap} {m : Str → Option Value}
open Builtin in
theorem ne_call {Q : Value → Shared → Prop} (hu : A.in1.units < cLine) (X : K.In s.heap) (I : InstAt s.heap x ox C od) (ho : mroIn K C (.type "object") = some true) (he : findIn K (.ref C) "__eq__" = some (some (.ref f))) (hf : isFn K (.ref f) = true)
    (q : wpAny (model prog w) A.in1 (call (.ref f) [.ref x, b]) (fun v s' => ∃ z, v = .bool z ∧ Q (.bool (!z)) s') E s) : wpAny (model prog w) A (call (.builtin "object.__ne__") [.ref x, b]) Q E s := by
  have ok := check_slot (M := model prog w) (A := A.in1) (E := E) (s := s) (kw := []) (i := "object.__ne__") (owner := "object") (n := "__ne__") (rest := [b]) (Q := fun _ s' => s' = s) (by decide +kernel) (by decide +kernel) (I.type.andThen (looks_mroIn X ho)) (PySem.F.cmpArgs_ne _ _) rfl
  refine wpAny_call (codeAny_call_builtin PySem.F.slot_object_ne.plain PySem.F.cmpEntry_ne (wpAny_mono ok (fun _ s' e => ?_) fun _ _ e => e))
  subst e
  unfold Builtin.«object.__ne__»
  refine wpAny_bind (m := slotArgs "__ne__" 1 _) (wpAny_pure ?_)
  refine wpAny_bind (m := cRoomFor _ _) (wpAny_cRoomFor hu ?_)
  refine wpAny_bind (m := callSpecialIfBound? (.ref x) (Str.ofString "__eq__") _) (ifBound_K X I he hf (wpAny_mono q (fun v s2 hq => ?_) fun _ _ e => e))
  obtain ⟨z, rfl, hq⟩ := hq
  refine wpAny_bind (m := truthy (.bool z)) (wpAny_truthy_bool ?_)
  exact wpAny_pure hq
end
/-- an own class's != is object's -/
structure OwnN (K : PySem.W.Frag) (C : Addr) : Prop where
  ne : PySem.W.findIn K (.ref C) "__ne__" = some (some (.builtin "object.__ne__"))
  ob : PySem.W.mroIn K C (.type "object") = some true
section
variable {X : Cx} {CX : CXT} {k : Nat} {f C : Addr} {fd : FuncData} {ps : List Str} {sp : Sp} {E : XK}
end
variable [Tbs]
section
variable {K : PySem.W.Frag} {n : Nat} {J : Jv n} {sx : Nat}
/-- o != x, both of the class, which has its own == -/
def fNeX (c : Str) (F : FN) (a b : FE) : FE := fun ρ P => a ρ fun d ρ1 => b ρ1 fun e ρ2 => objF c d fun _ => objF c e fun _ => F [.fz d, .fz e] fun r _ => boolF r fun z => P (.bool (!z)) ρ2
/-- h.pop(k), its value -/
def fPopAtH (sx : Nat) (a b : FE) : FE := fun ρ P => a ρ fun x ρ1 => stF ρ1 sx fun S0 => ∃ p ds0, x = hdl p ∧ S0 p = some (.lst ds0) ∧ b ρ1 fun y ρ2 => intF y fun i => stF ρ2 sx fun S => ∃ ds j d, S p = some (.lst ds) ∧ -(2 ^ 63) ≤ i ∧ i < 2 ^ 63 ∧ seqIndex? i ds.length = some j ∧ ds[j]? = some d ∧ P d (ρ2.set sx (.st (sset S p (.lst (ds.eraseIdx j)))))
end
end DL
/-! a comprehension over a list of the store with any things -/
namespace DL
open PySem L2 Z PySem.Spec PyProof.Rows
variable [Tbs]
section
variable {K : PySem.W.Frag} {n : Nat} {J : Jv n} {sx : Nat}
def fLcV (sx : Nat) (a : FE) (g : FG) (ft : FT) (fe : FE) (vs : List Nat) : FA := fun ρ P => a ρ fun x ρ1 => stF ρ1 sx fun S => ∃ p ds, x = hdl p ∧ S p = some (.lst ds) ∧ lcWH sx p ds ds g ft fe vs ρ1 P
end
end DL
/-! a call that may raise, with a store of its own -/
namespace DL
open PySem L2 Z PySem.Spec PyProof.Rows
variable [Tbs]
section
variable {K : PySem.W.Frag} {n : Nat} {J : Jv n}
end
end DL
/-! slices of what is a list or a tuple; tuple(range(i, j)); tuple(text) -/
namespace DL
open PySem L2 Z PySem.Spec PyProof.Rows
variable [Tbs]
section
variable {X : Cx}
end
section
variable {K : PySem.W.Frag} {n : Nat} {J : Jv n}
def sM : PyData → Option Int → Option Int → (PyData → Prop) → Prop := fun a lo hi P => match a with
  | .list ds => P (.list (cutD ds lo hi))
  | .tuple ds => P (.tuple (cutD ds lo hi))
  | _ => False
def fTupRng (a b : FE) : FE := fun ρ P => a ρ fun d ρ1 => intF d fun i => b ρ1 fun e ρ2 => intF e fun j => RgOk i j ∧ P (.tuple (rangeD i (j - i).toNat)) ρ2
def bTupS (ds : List PyData) (P : PyData → Prop) : Prop := one ds fun d => strF d fun z => z.length ≤ sizeLine ∧ P (.tuple (z.cps.toList.map fun c => .str ⟨#[c]⟩))
end
end DL
/-! methods of texts that take nothing: upper, lower -/
namespace DL
open PySem L2 Z PySem.Spec PyProof.Rows
variable [Tbs]
section
variable {K : PySem.W.Frag} {n : Nat} {J : Jv n}
def fStr0 (C : Str → Prop) (h : Str → Str) (a : FE) : FE := fun ρ P => a ρ fun d ρ1 => strF d fun z => C z ∧ P (.str (h z)) ρ1
end
end DL
/-! xs.index(x), xs.count(x): xs a list that is data, of any things -/
namespace DL
open PySem L2 Z PySem.Spec PyProof.Rows
variable [Tbs]
section
variable {X : Cx}
end
section
variable {K : PySem.W.Frag} {n : Nat} {J : Jv n}
def fCntLD (a b : FE) : FE := fun ρ P => a ρ fun x ρ1 => listF x fun ds => b ρ1 fun d ρ2 => SeqAt.shaped (.list ds) = true ∧ SeqAt.shaped d = true ∧ P (.int (ds.countP fun z => PyData.eqv z d : Nat)) ρ2
def fIdxLD (a b : FE) : FE := fun ρ P => a ρ fun x ρ1 => listF x fun ds => b ρ1 fun d ρ2 => SeqAt.shaped (.list ds) = true ∧ SeqAt.shaped d = true ∧ ∃ (j : Nat) (z : PyData), ds[j]? = some z ∧ PyData.eqv z d = true ∧ (∀ (m : Nat) (z' : PyData), m < j → ds[m]? = some z' → PyData.eqv z' d = false) ∧ P (.int (j : Nat)) ρ2
/-- a parallel assignment of three without its match (simp takes a minute for that) -/
theorem fPar3c {i j l : Nat} {a b c : FE} {E : FEnds} {ρ : En} : fPar3 i j l (fCons a (fCons b (fCons c fNil))) E ρ = a ρ fun x ρ1 => b ρ1 fun y ρ2 => c ρ2 fun z ρ3 => gN i x ρ3 fun ρ4 => gN j y ρ4 fun ρ5 => gN l z ρ5 E.nx := rfl
end
end DL
/-! C(..) where C.__init__ may raise: an instance that stays -/
namespace L2
open PySem PySem.Spec PyProof.Rows
section
variable {X : Cx} {CX : CXT} {k n : Nat} {f C : Addr} {fd : FuncData} {ps ks : List Str} {sp : Sp} {dvs : List V} {ds : List Value} {E : St → XK} {x : Str} {p pos : Pos} {e : Expr} {es : List Expr} {kws : List Keyword} {t tk : TA} {g : List Value → List Value → List Value} {gV : List V → List V → List V}
def tMakeSD (C : Addr) (sp : Sp) (dvs : List V) (E : St → XK) (t : TA) : TE := fun σ H Q => t σ H fun vs H1 => ∀ x dx, H1 x = none → H1 dx = none → dx ≠ x →
  sp (.ref x :: (vs ++ dvs)) (upd (upd H1 dx (.own x)) x (.ins C dx [])) (fun v H2 => v = .non ∧ Q (.ref x) H2) (E σ)
theorem run_makeSD {pins : List (Addr × Obj)} {σ : St} {H : Hp} {s : Shared} {Q : VK} {us : List Value} {vs : List V} (M : Mk X.K C f) (F : FnOk X.prog X.w X.K X.mg X.base CX k f fd ps sp) (hr : Room (k + 1) X.A) (hb : Binds X.K fd ps ds) (hd : Vals dvs ds)
    (hx : PassesAt CX X σ (E σ)) (I : Inv X pins σ H s) (r : Vals vs us)
    (h : ∀ x dx, H x = none → H dx = none → dx ≠ x → sp (.ref x :: (vs ++ dvs)) (upd (upd H dx (.own x)) x (.ins C dx [])) (fun v H2 => v = .non ∧ Q (.ref x) H2) (E σ)) :
    wpAny (model X.prog X.w) X.A (call (.ref C) us) (EP X pins σ Q) X.xe s := by
  have hq := h (s.heap.objs.size + 1) s.heap.objs.size (I.hok.fresh (Nat.le_succ _)) (I.hok.fresh (Nat.le_refl _)) (Nat.ne_of_lt (Nat.lt_succ_self _))
  have I2 := Inv.made (C := C) I
  have r2 : Vals (V.ref (s.heap.objs.size + 1) :: (vs ++ dvs)) (Value.ref (s.heap.objs.size + 1) :: (us ++ ds)) := .cons rfl (r.append hd)
  have hl : (Value.ref (s.heap.objs.size + 1) :: us ++ ds).length = ps.length := by
    have e := r2.length
    rw [F.len _ _ _ _ hq] at e
    exact e.symm
  refine wpAny_call (make_map (f := f) I.kIn M.makes M.init (beq_iff_eq.mp M.fn) (codeAny_mono (F.run _ X.stack _ _ ⟨Value.ref (s.heap.objs.size + 1) :: us, []⟩ (Value.ref (s.heap.objs.size + 1) :: (us ++ ds)) _ _ (E σ) (hr.make C us [])
    (I2.env0.make C us []) (hb _ (Value.ref (s.heap.objs.size + 1) :: us) I2.kIn hl) r2 hq) fun r s' hq' => ?_))
  cases r with
  | error e => exact hx pins _ _ e s' I2 hq'
  | ok fl =>
    cases fl with
    | ret u =>
      obtain ⟨v, H', I3, rv, ev, q3⟩ := I2.after hq'
      subst ev
      exact ⟨rv, ⟨V.ref (s.heap.objs.size + 1), H', I3, rfl, q3⟩⟩
    | next => exact False.elim hq'
    | brk => exact False.elim hq'
    | cont => exact False.elim hq'
theorem pe_makeSD (M : Mk X.K C f) (F : FnOk X.prog X.w X.K X.mg X.base CX k f fd ps sp) (hr : Room (k + 1) X.A) (hg : Gl X x) (hm : X.mg x = some (.ref C)) (hb : Binds X.K fd ps ds) (hd : Vals dvs ds) (hx : ∀ σ, PassesAt CX X σ (E σ))
    (ha : PA X (e :: es) t) (hdb : (x == ("__debug__" : Str)) = false := by decide) (he : starEach (e :: es) X.env = (false, eval e X.env) :: starEach es X.env := by rfl) (hpl : (backTo pos (starEach es X.env)).any (·.1) = false := by rfl) :
    PE X (.Call (.Name x p) (e :: es) [] pos) (tMakeSD C sp dvs E t) := by
  refine ⟨fun pins s σ H Q I h => ?_⟩
  refine wpAny_Call_Name_kw (ld_glob I hg hm ?_ hdb)
  refine PySem.W.callWith_K (h₀ := X.base) I.ok.mod.kin M.kp (thn (ha.run pos pins s σ H _ I h) fun us s1 ⟨vs, H1, I1, r, q⟩ => ⟨I1.kIn, ?_⟩) he hpl
  exact run_makeSD M F hr hb hd (hx σ) I1 r q
def tMakeNSD (C : Addr) (n m : Nat) (sp : Sp) (gV : List V → List V → List V) (E : St → XK) (t tk : TA) : TE := fun σ H Q => t σ H fun vs H1 => tk σ H1 fun zs H2 => vs.length = n ∧ zs.length = m ∧
  ∀ x dx, H2 x = none → H2 dx = none → dx ≠ x → sp (gV (.ref x :: vs) zs) (upd (upd H2 dx (.own x)) x (.ins C dx [])) (fun v H3 => v = .non ∧ Q (.ref x) H3) (E σ)
theorem run_makeNSD {pins : List (Addr × Obj)} {σ : St} {H : Hp} {s : Shared} {Q : VK} {us ws : List Value} {vs zs : List V} (M : Mk X.K C f) (F : FnOk X.prog X.w X.K X.mg X.base CX k f fd ps sp) (hr : Room (k + 1) X.A) (hb : KBn X.K fd ps (n + 1) ks g gV)
    (hx : PassesAt CX X σ (E σ)) (I : Inv X pins σ H s) (r : Vals vs us) (rz : Vals zs ws) (l1 : vs.length = n) (l2 : zs.length = ks.length)
    (h : ∀ x dx, H x = none → H dx = none → dx ≠ x → sp (gV (.ref x :: vs) zs) (upd (upd H dx (.own x)) x (.ins C dx [])) (fun v H2 => v = .non ∧ Q (.ref x) H2) (E σ)) :
    wpAny (model X.prog X.w) X.A (call (.ref C) us (ks.zip ws)) (EP X pins σ Q) X.xe s := by
  have hq := h (s.heap.objs.size + 1) s.heap.objs.size (I.hok.fresh (Nat.le_succ _)) (I.hok.fresh (Nat.le_refl _)) (Nat.ne_of_lt (Nat.lt_succ_self _))
  have I2 := Inv.made (C := C) I
  have r1 : Vals (V.ref (s.heap.objs.size + 1) :: vs) (Value.ref (s.heap.objs.size + 1) :: us) := .cons rfl r
  have r2 := hb.rel r1 rz
  have e1 : (Value.ref (s.heap.objs.size + 1) :: us).length = n + 1 := r1.length.symm.trans (congrArg Nat.succ l1)
  have e2 : ws.length = ks.length := rz.length.symm.trans l2
  refine wpAny_call (make_map (f := f) I.kIn M.makes M.init (beq_iff_eq.mp M.fn) (codeAny_mono (F.run _ X.stack _ _ ⟨Value.ref (s.heap.objs.size + 1) :: us, ks.zip ws⟩ (g (Value.ref (s.heap.objs.size + 1) :: us) ws) _ _ (E σ) (hr.make C us (ks.zip ws))
    (I2.env0.make C us (ks.zip ws)) (hb.to _ (Value.ref (s.heap.objs.size + 1) :: us) ws I2.kIn e1 e2) r2 hq) fun r s' hq' => ?_))
  cases r with
  | error e => exact hx pins _ _ e s' I2 hq'
  | ok fl =>
    cases fl with
    | ret u =>
      obtain ⟨v, H', I3, rv, ev, q3⟩ := I2.after hq'
      subst ev
      exact ⟨rv, ⟨V.ref (s.heap.objs.size + 1), H', I3, rfl, q3⟩⟩
    | next => exact False.elim hq'
    | brk => exact False.elim hq'
    | cont => exact False.elim hq'
theorem pe_makeNSD (M : Mk X.K C f) (F : FnOk X.prog X.w X.K X.mg X.base CX k f fd ps sp) (hr : Room (k + 1) X.A) (hg : Gl X x) (hm : X.mg x = some (.ref C)) (hb : KBn X.K fd ps (n + 1) ks g gV) (hx : ∀ σ, PassesAt CX X σ (E σ))
    (ha : PA X (e :: es) t) (hkw : PK X kws tk) (hall : (backToKw pos (keywordEach kws X.env)).all (·.1.isSome) = true := by rfl) (hks : (backToKw pos (keywordEach kws X.env)).filterMap (·.1) = ks := by rfl)
    (hdb : (x == ("__debug__" : Str)) = false := by decide) (he : starEach (e :: es) X.env = (false, eval e X.env) :: starEach es X.env := by rfl)
    (hpl : ((backTo pos (starEach (e :: es) X.env)).any (·.1) || (backToKw pos (keywordEach kws X.env)).any (·.1.isNone)) = false := by rfl) :
    PE X (.Call (.Name x p) (e :: es) kws pos) (tMakeNSD C n ks.length sp gV E t tk) := by
  refine ⟨fun pins s σ H Q I h => ?_⟩
  refine wpAny_Call_Name_kw (ld_glob I hg hm ?_ hdb)
  refine PySem.W.callWith_KW (h₀ := X.base) I.ok.mod.kin M.kp hall (thn (ha.run pos pins s σ H _ I h) fun us s1 ⟨vs, H1, I1, r, q⟩ => ?_) hpl he
  refine thn (hkw.run pos pins s1 σ H1 _ I1 q) fun ws s2 ⟨zs, H2, I2, rz, l1, l2, q2⟩ => ⟨I2.kIn, ?_⟩
  rw [hks]
  exact run_makeNSD M F hr hb (hx σ) I2 r rz l1 l2 q2
end
end L2
namespace DL
open PySem L2 Z PySem.Spec PyProof.Rows
variable [Tbs]
section
variable {K : PySem.W.Frag} {n : Nat} {J : Jv n}
theorem mkZX_core {O : Addr → Prop} {as : As} {H : Hs} {ρ : En} {σ : L2.St} {C x dx : Addr} {c : Str} {m : Nat} {F : FX} {vs : List V} {ds : List PyData} {Q : VK} {W : WX} {P X : PyData → En → Prop}
    (hc : PySem.W.nsIn K mainGlobals c = some (some (.ref C))) (E : EnR K J O as H ρ σ) (dv : DqAll K (hq O as H) vs ds) (hm : ds.length + 1 = m) (hx : H x = none) (hd : H dx = none) (ne : dx ≠ x) (l : Lk K J X W)
    (g : F (.fz (hdl x) :: (ds.map .fz ++ [.st (sto1 x c)])) (fun d out => d = .none ∧ ∃ S' o, out[m]? = some (.st S') ∧ Res S' (hdl x) o ∧ P o ρ) fun d _ => X d ρ)
    (k : ∀ d ρ' v H', P d ρ' → Fr as H H' → EnR K J O as H' ρ' σ → Dq K (hq O as H') v d → Q v H') :
    spXS K m F (.ref x :: vs) (upd (upd H dx (.own x)) x (.ins C dx [])) (fun v H2 => v = .non ∧ Q (.ref x) H2) (WE W σ) := by
  have s1 : Same H.hp (upd (upd H dx (.own x)) x (.ins C dx [])) := fun a o e => by
    rw [upd_ne (ne_of_none e hx), upd_ne (ne_of_none e hd)]
    exact e
  generalize hH0 : upd (upd H.hp dx (.own x)) x (.ins C dx []) = H0 at s1
  have hx0 : H0 x = some (.ins C dx []) := by rw [← hH0]; exact upd_same
  have nhx : ¬ Hid O as H x := E.fresh hx
  have own0 : ∀ {G : Hs} {b : Addr}, Own (asX m) G b → G.st b ≠ none ∨ ∃ p ∈ Tbs.T, p.1 = b := fun h => by
    rcases h with ⟨i, r, h, q⟩ | h
    · rw [(asX_of h).2] at q
      exact .inl q
    · exact .inr h
  have st0 : ∀ b, sto1 x c b ≠ none → b = x := fun b h => by
    rcases sset_some h with z | z
    · exact z
    · exact absurd rfl z
  have same0 : Same (hq O as H) (hq (fun a => Hid O as H a) (asX m) ⟨H0, sto1 x c⟩) := fun a o e => by
    obtain ⟨h, e⟩ := hp_some e
    refine hp_mk (fun z => ?_) (s1 a o e)
    rcases z with z | z
    · exact h z
    · rcases own0 z with z | z
      · rw [st0 a z, hx] at e; cases e
      · exact h (.inr (.inr z))
  have ll : (Sl.fz (hdl x) :: (ds.map Sl.fz ++ [Sl.st (sto1 x c)])).length = m + 1 := by rw [List.length_cons, List.length_append, List.length_map, List.length_singleton]; omega
  have lv : ((V.ref x :: vs).map some).length = m := by rw [List.length_map, List.length_cons, dv.length]; exact hm
  have last : (Sl.fz (hdl x) :: (ds.map Sl.fz ++ [Sl.st (sto1 x c)]))[m]? = some (.st (sto1 x c)) := by
    rw [← hm, List.getElem?_cons_succ, List.getElem?_append_right (by rw [List.length_map]; exact Nat.le_refl _), List.length_map, Nat.sub_self]
    rfl
  have am : asX m m = some .sto := if_pos rfl
  refine ⟨by rw [List.length_cons, dv.length]; exact hm, fun a => Hid O as H a, asX m, sto1 x c, _, _, _, ⟨by rw [lv, ll]; omega, fun i sl h1 h2 => ?_, fun i sl o h1 h2 => ?_, fun i h => ?_, fun i j r r' b h1 h2 q1 q2 => by rw [(asX_of h1).1, (asX_of h2).1], fun i r b h q z => ?_, fun i r h => by rw [(asX_of h).1, ll]; omega, fun a h => ?_, trivial, trivial, E.tab.ext s1⟩, ll, g, fun d out v H' p fr bk dq => ?_, fun d out cls dd H' p fr bk xc => ?_⟩
  · have := (List.getElem?_eq_some_iff.mp h1).1
    rw [ll] at this
    rw [lv] at h2
    have : i = m := by omega
    rw [this]; exact am
  · have hi : i < m := by rw [← lv]; exact (List.getElem?_eq_some_iff.mp h2).1
    rw [show asX m i = none from if_neg (by omega)]
    cases i with
    | zero => cases h1; cases h2; exact .fz .hdl
    | succ i =>
      rw [List.getElem?_cons_succ, List.getElem?_append_left (by rw [List.length_map]; omega), List.getElem?_map] at h1
      rw [List.map_cons, List.getElem?_cons_succ, List.getElem?_map] at h2
      cases e1 : ds[i]? with
      | none => rw [e1] at h1; cases h1
      | some d =>
        rw [e1] at h1
        cases h1
        obtain ⟨v, ev, dq⟩ := dv.got e1
        rw [ev] at h2
        cases h2
        exact .fz (dq.mono same0)
  · rw [(asX_of h).1]
    refine ⟨lv.symm, last, fun a o e => ?_⟩
    have e : sto1 x c a = some o := e
    have := st0 a (by rw [e]; exact Option.some_ne_none _)
    subst this
    rw [show sto1 a c a = some (.obj c []) from sset_same] at e
    cases e
    exact ⟨_, hx0, .obj hc .nil⟩
  · rw [(asX_of h).2] at q
    rw [st0 b q] at z
    exact nhx z
  · obtain ⟨o, e⟩ := Option.ne_none_iff_exists'.mp (E.full h)
    show H0 a ≠ none
    rw [s1 _ _ e]
    exact Option.some_ne_none _
  · obtain ⟨rfl, S', o, hS, hR, p⟩ := p
    cases dq
    refine ⟨rfl, ?_⟩
    obtain ⟨sl, e1, e2, e3⟩ := bk.at_ m _ am
    rw [hS] at e1
    cases e1
    cases e2
    have fn : Fr noA H (H.w H'.hp) := by
      refine ⟨fun a o h e => fr.fr a o (fun z => ?_) (s1 a o e), fun a h => ?_, fun a h => fr.liv a ?_, fun _ => rfl⟩
      · rcases own0 z with z | z
        · rw [st0 a z, hx] at e; cases e
        · exact h (.inr z)
      · rcases h with ⟨_, _, h, _⟩ | h
        · cases h
        · exact .inl (.inr h)
      · obtain ⟨o, e⟩ := Option.ne_none_iff_exists'.mp h
        show H0 a ≠ none
        rw [s1 _ _ e]
        exact Option.some_ne_none _
    obtain ⟨E', f'⟩ := E.still fn bk.tab
    have sm : Same (hq (fun a => Hid O as H a) (asX m) H') (hq O as (H.w H'.hp)) := hp_less fun a h => by
      rcases h with h | h
      · exact .inl (.inl h)
      · exact .inl (.inr ((Own.st rfl).mp h))
    have vis : ∀ a, H'.st a ≠ none → hq O as (H.w H'.hp) a = H'.hp a := fun a h => hp_of fun z => by
      refine bk.out m .sto a am h ?_
      rcases z with z | z
      · exact .inl z
      · exact .inr ((Own.st rfl).mp z)
    exact k _ _ _ ⟨H'.hp, H.st⟩ p f' E' (Res.dq e3 sm vis hR .hdl)
  · have fn : Fr noA H (H.w H'.hp) := by
      refine ⟨fun a o h e => fr.fr a o (fun z => ?_) (s1 a o e), fun a h => ?_, fun a h => fr.liv a ?_, fun _ => rfl⟩
      · rcases own0 z with z | z
        · rw [st0 a z, hx] at e; cases e
        · exact h (.inr z)
      · rcases h with ⟨_, _, h, _⟩ | h
        · cases h
        · exact .inl (.inr h)
      · obtain ⟨o, e⟩ := Option.ne_none_iff_exists'.mp h
        show H0 a ≠ none
        rw [s1 _ _ e]
        exact Option.some_ne_none _
    obtain ⟨E', f'⟩ := E.still fn bk.tab
    have sm : Same (hq (fun a => Hid O as H a) (asX m) H') (hq O as (H.w H'.hp)) := hp_less fun a h => by
      rcases h with h | h
      · exact .inl (.inl h)
      · exact .inl (.inr ((Own.st rfl).mp h))
    exact l O as σ ⟨H'.hp, H.st⟩ _ cls dd d E' (xc.mono sm) p
def fMkZX (c : Str) (m : Nat) (F : FX) (dv : List PyData) (X : PyData → En → Prop) (f : FA) : FE := fun ρ P => f ρ fun ds ρ1 => (ds ++ dv).length + 1 = m ∧ ∀ x, F (.fz (hdl x) :: ((ds ++ dv).map .fz ++ [.st (sto1 x c)])) (fun d out => d = .none ∧ ∃ S' o, out[m]? = some (.st S') ∧ Res S' (hdl x) o ∧ P o ρ1) fun d _ => X d ρ1
theorem re_mkZX {C : Addr} {c : Str} {m : Nat} {F : FX} {dvs : List V} {dv : List PyData} {X : PyData → En → Prop} {W : WX} {t : TA} {f : FA} (l : Lk K J X W) (hc : PySem.W.nsIn K mainGlobals c = some (some (.ref C))) (hd : ∀ H, DqAll K H dvs dv) (ha : RA K J t f) : RE K J (tMakeSD C (spXS K m F) dvs (WE W) t) (fMkZX c m F dv X f) := by
  intro O as σ H Q ρ P E q k
  refine ha O as σ H _ ρ _ E q fun ds ρ1 vs H1 q1 f1 E1 d1 => ?_
  intro x dx hx hdx ne
  exact mkZX_core hc E1 (d1.append (hd _)) q1.1 hx hdx ne l (q1.2 x) fun d ρ' v H' p fr E' q' => k d ρ' v H' p (f1.trans fr) E' q'
def fMkNZX (c : Str) (l : Nat) (F : FX) (n m : Nat) (gD : List PyData → List PyData → List PyData) (X : PyData → En → Prop) (f fk : FA) : FE := fun ρ P => f ρ fun ds ρ1 => fk ρ1 fun es ρ2 => ds.length = n ∧ es.length = m ∧ (gD ds es).length + 1 = l ∧ ∀ x, F (.fz (hdl x) :: ((gD ds es).map .fz ++ [.st (sto1 x c)])) (fun d out => d = .none ∧ ∃ S' o, out[l]? = some (.st S') ∧ Res S' (hdl x) o ∧ P o ρ2) fun d _ => X d ρ2
theorem re_mkNZX {C : Addr} {c : Str} {l : Nat} {F : FX} {n m : Nat} {gV : List V → List V → List V} {gD : List PyData → List PyData → List PyData} {X : PyData → En → Prop} {W : WX} {t tk : TA} {f fk : FA} (lk : Lk K J X W) (hc : PySem.W.nsIn K mainGlobals c = some (some (.ref C)))
    (hg : ∀ (x : Addr) (vs zs : List V) (ds es : List PyData) (H : Hp), DqAll K H vs ds → DqAll K H zs es → ∃ ws, gV (.ref x :: vs) zs = .ref x :: ws ∧ DqAll K H ws (gD ds es)) (ha : RA K J t f) (hk : RA K J tk fk) : RE K J (tMakeNSD C n m (spXS K l F) gV (WE W) t tk) (fMkNZX c l F n m gD X f fk) := by
  intro O as σ H Q ρ P E q k
  refine ha O as σ H _ ρ _ E q fun ds ρ1 vs H1 q1 f1 E1 d1 => ?_
  refine hk O as σ H1 _ ρ1 _ E1 q1 fun es ρ2 zs H2 q2 f2 E2 d2 => ?_
  obtain ⟨l1, l2, l3, q2⟩ := q2
  refine ⟨by rw [d1.length]; exact l1, by rw [d2.length]; exact l2, fun x dx hx hdx ne => ?_⟩
  obtain ⟨ws, e, r⟩ := hg x vs zs ds es _ (d1.fr f2) d2
  rw [e]
  exact mkZX_core hc E2 r l3 hx hdx ne lk (q2 x) fun d ρ' v H' p fr E' q' => k d ρ' v H' p ((f1.trans f2).trans fr) E' q'
end
end DL
/-! `<=` of texts; an exception made and kept as a value -/
namespace DL
open PySem L2 Z PySem.Spec PyProof.Rows
variable [Tbs]
section
variable {X : Cx}
/-- C(e) of an exception class, as a value -/
def tVal (t : L2.St → Hp → XK → Prop) : TE := fun σ H Q => t σ H fun cls d H1 => ∃ C dx, cls = .ref C ∧ d = some dx ∧ ∀ a, H1 a = none → Q (.ref a) (upd H1 a (exk a C dx))
theorem pe_mkV {e : Expr} {t : L2.St → Hp → XK → Prop} (hex : X.ex = []) (he : PMk X e t) : PE X e (tVal t) := by
  refine ⟨fun pins s σ H Q I h => thn (he pins s σ H _ I h) fun u s' hu => ?_⟩
  obtain ⟨a, oe, vs, sI, H', cls, d, rfl, J, k, hne, ha, hz, hd, h1, na, os, ag, r, q⟩ := hu
  obtain ⟨C, dx, rfl, rfl, q⟩ := q
  have nL : a ≠ X.env.locals := fun z => by
    obtain ⟨_, ⟨_, _, _, e, _⟩, _⟩ := J.loc
    rw [← z, hne] at e
    cases e
  have nF : a ∉ X.fs := fun hb => by
    obtain ⟨_, o, ho, _⟩ := J.ok.funs.mem hb
    obtain ⟨o', e'⟩ := J.base.there a o ho (by rw [hex]; exact List.not_mem_nil)
    rw [hne] at e'
    cases e'
  have new : X.s_0.heap.get? a = none := by
    cases e : X.s_0.heap.get? a with
    | none => rfl
    | some o =>
      obtain ⟨o', e'⟩ := J.base.there a o e (by rw [hex]; exact List.not_mem_nil)
      rw [hne] at e'
      cases e'
  have pne : ∀ p ∈ X.pn ++ pins, p.1 ≠ a := fun p hp z => by
    have := (J.pin p hp).1
    rw [z, hne] at this
    cases this
  have J1 : Inv X pins σ H' s' := by
    obtain ⟨b1, b2, b3, b4, b5⟩ := s'
    obtain ⟨c1, c2, c3, c4, c5⟩ := sI
    have J0 := J.kept (h' := b1) (t' := b4) k
    exact ⟨J0.ok, os.trans J0.os, ag, J0.base, J0.loc, J0.cell, J0.free, J0.freeC, J0.pin, J0.hok, J0.len⟩
  have J2 : Inv X ((a, oe) :: pins) σ H' s' := J1.pins_of fun p hp => by
    rcases List.mem_cons.mp hp with rfl | hp
    · exact ⟨ha, na, nL, nF, fun v z => by have z' : oe.data = .cell v := z; rw [hd] at z'; cases z'⟩
    · exact J1.pin p (List.mem_append_right _ hp)
  exact ⟨.ref a, _, absorb J2 pne new hz hd, rfl, q a na⟩
end
section
variable {K : PySem.W.Frag} {n : Nat} {J : Jv n}
abbrev oLeS : G2 := oStr (fun _ _ => True) fun i j => .bool (!decide (j.cps.toList < i.cps.toList))
theorem rr_le_str : RR K (fun x y H Q => ∃ i j, x = .str i ∧ y = .str j ∧ Q (.bl (!decide (j.cps.toList < i.cps.toList))) H) oLeS := by
  intro A H Q x y a b P oc da db g k
  unfold oLeS oStr at g
  split at g
  · cases da; cases db; exact ⟨_, _, rfl, rfl, k _ _ _ g.2 (Same.refl _) (.bl _)⟩
  · exact g.elim
def fMkV (c : Str) (a : FE) : FE := fun ρ P => a ρ fun d ρ1 => P (excD c d) ρ1
theorem re_mkV {c : Str} {C : Addr} {te : TE} {a : FE} (hn : PySem.W.nsIn K mainGlobals c = some (some (.ref C))) (ha : RE K J te a) : RE K J (tVal (tMkB C te)) (fMkV c a) := by
  intro O as σ H Q ρ P E q k
  refine ha O as σ H _ ρ _ E q fun d ρ1 v H1 q1 f1 E1 d1 => fun dx hdx => ⟨C, dx, rfl, rfl, fun p hp => ?_⟩
  have s := Same.new (o := .xd [("what", v)]) hdx
  have E2 := E1.grow s
  have s2 := Same.new (H := upd H1.hp dx (.xd [("what", v)])) (o := exk p C dx) hp
  have E3 := E2.grow s2
  refine k (excD c d) ρ1 (.ref p) ⟨_, H1.st⟩ q1 ((f1.trans (E1.frS s)).trans (E2.frS s2)) E3 ?_
  exact .exc hn (hp_mk (E2.fresh1 hp) upd_same) (E2.hgrow s2 _ _ (hp_mk (E1.fresh1 hdx) upd_same)) (.cons ((d1.mono (E1.hgrow s)).mono (E2.hgrow s2)) .nil)
end
end DL
/-! how long data's text may be -/
namespace Z
open PySem L2 TL
mutual
def szD : PyData → Nat
  | .none => 4
  | .bool _ => 5
  | .int i => (Str.ofString (toString i)).length
  | .str x => 10 * x.length + 2
  | .list xs => szAll xs + 2
  | .tuple xs => szAll xs + 3
  | .dict _ => 0
def szAll : List PyData → Nat
  | [] => 0
  | x :: r => szD x + 2 + szAll r
end
theorem slen_append (x y : Str) : (x ++ y).length = x.length + y.length := by rw [len_tl, len_tl x, len_tl y, tl_append, List.length_append]
theorem textFrom_le : ∀ (ts : List Str) (k : Nat) (acc : Str), (textFrom k acc ts).length ≤ acc.length + piled ts
  | [], _, acc => Nat.le_add_right _ _
  | t :: ts, k, acc => by
    have ih := textFrom_le ts (k + 1) (acc ++ Str.ofString (if k > 0 then ", " else "" : String) ++ t)
    rw [slen_append, slen_append] at ih
    have e : (Str.ofString (if k > 0 then ", " else "" : String)).length ≤ 2 := by
      split
      · exact (by decide +kernel : (Str.ofString ", ").length ≤ 2)
      · exact (by decide +kernel : (Str.ofString "").length ≤ 2)
    have p : piled (t :: ts) = t.length + 2 + piled ts := by simp [piled]
    show (textFrom (k + 1) (acc ++ Str.ofString (if k > 0 then ", " else "" : String) ++ t) ts).length ≤ _
    rw [p]
    omega
theorem listText_le (ts : List Str) : (listText ts).length ≤ piled ts + 2 := by
  have h := textFrom_le ts 0 (Str.ofString "[")
  have e1 : (Str.ofString "[").length = 1 := by decide +kernel
  have e2 : (Str.ofString "]").length = 1 := by decide +kernel
  show (textFrom 0 (Str.ofString "[") ts ++ Str.ofString "]").length ≤ _
  rw [slen_append]
  omega
theorem join_le : ∀ ts : List Str, (Str.join (Str.ofString ", ") ts).length ≤ piled ts
  | [] => Nat.zero_le _
  | t :: ts => by
    have h := join_length_add (t :: ts) (by simp)
    have h' : (Str.join (Str.ofString ", ") (t :: ts)).length + 2 = piled (t :: ts) := h
    omega
theorem tupleText_le (ts : List Str) : (tupleText ts).length ≤ piled ts + 3 := by
  have h := join_le ts
  have e1 : (Str.ofString "(").length = 1 := by decide +kernel
  have e2 : (Str.ofString (if (ts.length == 1) = true then ",)" else ")" : String)).length ≤ 2 := by
    split
    · exact (by decide +kernel : (Str.ofString ",)").length ≤ 2)
    · exact (by decide +kernel : (Str.ofString ")").length ≤ 2)
  show (Str.ofString "(" ++ Str.join (Str.ofString ", ") ts ++ Str.ofString (if (ts.length == 1) = true then ",)" else ")" : String)).length ≤ _
  rw [slen_append, slen_append]
  omega
mutual
theorem shown_le : ∀ d : PyData, d.canLay0 = true → d.shown.length ≤ szD d
  | .none, _ => (by decide +kernel : (Str.ofString "None").length ≤ 4)
  | .bool true, _ => (by decide +kernel : (Str.ofString "True").length ≤ 5)
  | .bool false, _ => (by decide +kernel : (Str.ofString "False").length ≤ 5)
  | .int i, _ => Nat.le_refl _
  | .str x, h => by
    refine StrLaws.reprText_len x fun c hc => ?_
    have h' : (x.cps.all (· < 0x110000)) = true := h
    have := (Array.all_eq_true_iff_forall_mem.mp h') c (Array.mem_toList_iff.mp hc)
    have := of_decide_eq_true this
    omega
  | .list xs, h => by
    have ih := shownAll_le xs h
    have := listText_le (PyData.shownAll xs)
    show (listText (PyData.shownAll xs)).length ≤ szAll xs + 2
    omega
  | .tuple xs, h => by
    have ih := shownAll_le xs h
    have := tupleText_le (PyData.shownAll xs)
    show (tupleText (PyData.shownAll xs)).length ≤ szAll xs + 3
    omega
  | .dict _, h => by cases h
theorem shownAll_le : ∀ ds : List PyData, PyData.canLayAll0 ds = true → piled (PyData.shownAll ds) ≤ szAll ds
  | [], _ => Nat.zero_le _
  | x :: r, h => by
    have h' : (x.canLay0 && PyData.canLayAll0 r) = true := h
    rw [Bool.and_eq_true] at h'
    have h1 := shown_le x h'.1
    have h2 := shownAll_le r h'.2
    have e : piled (PyData.shownAll (x :: r)) = x.shown.length + 2 + piled (PyData.shownAll r) := by
      show piled (x.shown :: PyData.shownAll r) = _
      simp [piled]
    rw [e]
    show _ ≤ szD x + 2 + szAll r
    omega
end
end Z
/-! rules: plain -/
namespace Z
open PySem L2
def partAt (r : List (Int × Int)) (age : Int) : Int := r.foldl (fun f p => if p.1 ≤ age then p.2 else f) 100
def priceBy (r : List (Int × Int)) (p age : Int) : Int := if p * partAt r age / 100 > 1 then p * partAt r age / 100 else 1
end Z
/-! tags: plain -/
namespace Z
open PySem L2 TL
/-- a text of one to eight small letters -/
structure NameS (s : Str) : Prop where
  least : 1 ≤ (tl s).length
  most : (tl s).length ≤ 8
  small : ∀ c ∈ tl s, 97 ≤ c ∧ c ≤ 122
def smalls (z : List Nat) : Bool := z.all fun c => decide (97 ≤ c ∧ c ≤ 122)
theorem abc : tl (Str.ofString "abcdefghijklmnopqrstuvwxyz") = List.range' 97 26 := by decide +kernel
theorem small_mem (c : Nat) : decide (c ∈ tl (Str.ofString "abcdefghijklmnopqrstuvwxyz")) = decide (97 ≤ c ∧ c ≤ 122) := by
  rw [abc]
  apply decide_eq_decide.mpr
  rw [List.mem_range'_1]
  omega
theorem abc_at {d : Nat} (h : d < 26) : atI (Str.ofString "abcdefghijklmnopqrstuvwxyz").cps.toList (d : Int) = some (97 + d) := by
  have e : (Str.ofString "abcdefghijklmnopqrstuvwxyz").cps.toList = List.range' 97 26 := abc
  rw [e]
  refine atI_nat ?_
  rw [List.getElem?_range' (by omega)]
  simp
/-- what a tag has -/
structure Five where
  owner : Str
  number : Int
  price : Int
  least : Int
  day : Int
structure Five.Ok (f : Five) : Prop where
  owner : NameS f.owner
  n1 : 1 ≤ f.number
  n2 : f.number ≤ 9999
  p1 : 1 ≤ f.price
  p2 : f.price ≤ 99999
  l1 : 0 ≤ f.least
  l2 : f.least ≤ f.price
  d1 : 0 ≤ f.day
  d2 : f.day ≤ 999
def fiveD (f : Five) : PyData := .tuple [.str f.owner, .int f.number, .int f.price, .int f.least, .int f.day]
def tagF (f : Five) : List (Str × V) := putF "day" (.int f.day) (putF "least" (.int f.least) (putF "price" (.int f.price) (putF "number" (.int f.number) (putF "owner" (.str f.owner) []))))
/-- at t a tag -/
def TagAt (C : Addr) (H : Hp) (t : Addr) (f : Five) : Prop := ∃ dx, H t = some (.ins C dx (tagF f))
theorem TagAt.keep {C : Addr} {H H' : Hp} {t : Addr} {f : Five} (h : TagAt C H t f) (k : KeepT H H') : TagAt C H' t f := by
  obtain ⟨dx, e⟩ := h
  exact ⟨dx, k _ _ trivial e⟩
end Z
namespace K
open PySem L2 Z TL DL
local macro_rules | `(tactic| walk_at "z1") => `(tactic| first | with_reducible refine iteT ?_ | with_reducible refine iteF ?_ | with_reducible refine iteDS rfl ?_ | with_reducible refine iteNS rfl ?_ | ((with_reducible refine iteDN ?hN ?_); (case hN => (intro h; cases h; done))) | ((with_reducible refine iteNDN ?hN ?_); (case hN => (intro h; cases h; done))) | ((fail_if_success (with_reducible refine iteD (fun _ => ?_) (fun _ => ?_))); (fail_if_success (with_reducible refine iteND (fun _ => ?_) (fun _ => ?_))); first
  | refine ⟨_, rfl, ?_⟩
  | refine ⟨_, _, rfl, rfl, ?_⟩
  | refine ⟨rfl, ?_⟩
  | refine ⟨(by show (0 : Int) < _; first | decide | omega), ?_⟩
  | refine ⟨⟨by decide, by decide⟩, ?_⟩
  | refine ⟨⟨(by show (0 : Int) < _; omega), (by show _ < (1073741824 : Int); omega)⟩, ?_⟩
  | refine ⟨⟨by decide, by decide, by decide⟩, ?_⟩
  | refine ⟨.inl ⟨by omega, by omega⟩, ?_⟩
  | refine ⟨.inr ⟨by omega, by omega⟩, ?_⟩
  | refine .inl ⟨_, rfl, ?_⟩
  | refine .inr ⟨_, rfl, ?_⟩
  | refine ⟨_, _, _, _, rfl, rfl, SqL.of (by assumption), rfl, ?_⟩
  | refine ⟨_, _, _, _, rfl, rfl, SqL.of upd_same, rfl, ?_⟩
  | refine ⟨_, _, _, _, rfl, rfl, (by assumption), rfl, ?_⟩
  | refine ⟨_, _, _, _, rfl, rfl, upd_same, rfl, ?_⟩
  | refine ⟨_, _, rfl, SqT.of upd_same, rfl, ?_⟩
  | refine ⟨_, _, rfl, ?_⟩
  | refine ⟨Nat.le_of_ble_eq_true rfl, ?_⟩
  | refine ⟨_, _, _, _, true, rfl, .ty _, .base (.str _), kit_ty (by decide +kernel), ?_⟩
  | refine ⟨_, _, _, _, false, rfl, .ty _, .base (.str _), kit_ty (by decide +kernel), ?_⟩
  | refine ⟨_, _, _, _, true, rfl, .ty _, .base (.int _), kit_ty (by decide +kernel), ?_⟩
  | refine ⟨_, _, _, _, false, rfl, .ty _, .base (.int _), kit_ty (by decide +kernel), ?_⟩))
local macro_rules | `(tactic| walk_at "z") => `(tactic| repeat walk_at "z1")
instance tbs : Tbs := ⟨[]⟩
/-! ### prices of days -/
def priceOn (r : List (Int × Int)) (f : Five) (day : Int) (leave : Bool) : Int :=
  if leave = true then priceBy r f.price (day - f.day) else (if f.least > priceBy r f.price (day - f.day) then f.least else priceBy r f.price (day - f.day))
def pairD (p : Int × Int) : PyData := .tuple [.int p.1, .int p.2]
/-- pairs whose ages rise and parts fall, within bounds -/
structure RuleW (r : List (Int × Int)) : Prop where
  few : r.length ≤ 6
  age : ∀ p ∈ r, 1 ≤ p.1 ∧ p.1 ≤ 999
  part : ∀ p ∈ r, 1 ≤ p.2 ∧ p.2 ≤ 99
  fall : r.Pairwise fun p q => q.2 < p.2
  rise : r.Pairwise fun p q => p.1 < q.1
structure RuleG (r : List (Int × Int)) (n : Nat) (age part : Int) : Prop where
  few : r.length = n
  age0 : 0 ≤ age
  age1 : age ≤ 160 * n
  part1 : part ≤ 100
  bnd : ∀ p ∈ r, 1 ≤ p.1 ∧ p.1 ≤ age ∧ part ≤ p.2 ∧ p.2 ≤ 99
  fall : r.Pairwise fun p q => q.2 < p.2 ∧ p.1 < q.1 ∧ p.1 ≤ 800
theorem RuleG.next {r : List (Int × Int)} {n : Nat} {age part a b : Int} (g : RuleG r n age part) (ha : 0 ≤ a) (ha2 : a < 160) (hn : n ≤ 5) (hb : 0 ≤ b) : RuleG (r ++ [(age + 1 + a, part - 1 - b)]) (n + 1) (age + 1 + a) (part - 1 - b) := by
  have h1 := g.age0
  have h2 := g.part1
  have h3 := g.age1
  refine ⟨by rw [List.length_append, g.few]; rfl, by omega, by omega, by omega, fun p hp => ?_, ?_⟩
  · rcases List.mem_append.mp hp with hp | hp
    · have := g.bnd p hp
      omega
    · rw [List.mem_singleton.mp hp]
      dsimp only
      omega
  · refine List.pairwise_append.mpr ⟨g.fall, List.pairwise_singleton _ _, fun p hp q hq => ?_⟩
    rw [List.mem_singleton.mp hq]
    have := g.bnd p hp
    dsimp only
    omega
def keepP (p : Int × Int) : Bool := decide (p.1 < 1000) && decide (0 < p.2)
/-- and all but the last one at most 800 old -/
structure RuleV (r : List (Int × Int)) : Prop extends RuleW r where
  early : r.Pairwise fun p _ => p.1 ≤ 800
theorem RuleG.cut {r : List (Int × Int)} {n : Nat} {age part : Int} (g : RuleG r n age part) (hn : n ≤ 6) : RuleV (r.filter keepP) := by
  refine ⟨⟨Nat.le_trans (List.length_filter_le _ _) (by rw [g.few]; exact hn), fun p hp => ?_, fun p hp => ?_, (g.fall.filter _).imp fun h => h.1, (g.fall.filter _).imp fun h => h.2.1⟩, (g.fall.filter _).imp fun h => h.2.2⟩
  · obtain ⟨h1, h2⟩ := List.mem_filter.mp hp
    have := g.bnd p h1
    simp [keepP] at h2
    omega
  · obtain ⟨h1, h2⟩ := List.mem_filter.mp hp
    have := g.bnd p h1
    simp [keepP] at h2
    omega
theorem set_last {α : Type} {r : List α} {p q : α} (h : r[r.length - 1]? = some p) : ∃ s, r = s ++ [p] ∧ r.set (r.length - 1) q = s ++ [q] := by
  have hl : r.length - 1 < r.length := (List.getElem?_eq_some_iff.mp h).1
  have hr : r ≠ [] := fun e => by rw [e] at hl; simp at hl
  refine ⟨r.dropLast, ?_, ?_⟩
  · have := List.dropLast_concat_getLast hr
    rw [List.getLast_eq_getElem] at this
    rw [← (List.getElem?_eq_some_iff.mp h).2]
    exact this.symm
  · have e : r = r.dropLast ++ [r.getLast hr] := (List.dropLast_concat_getLast hr).symm
    have el : r.length - 1 = r.dropLast.length := by rw [List.length_dropLast]
    rw [el]
    conv => lhs; rw [e]
    rw [List.length_dropLast]
    have el2 : (r.dropLast ++ [r.getLast hr]).length - 1 = r.dropLast.length := by simp
    rw [List.set_append_right _ _ (by simp)]
    simp
theorem RuleV.last {r : List (Int × Int)} {a : Int} {p : Int × Int} (g : RuleV r) (hp : r[r.length - 1]? = some p) (h1 : 801 ≤ a) (h2 : a ≤ 999) : RuleW (r.set (r.length - 1) (a, p.2)) := by
  obtain ⟨s, e1, e2⟩ := set_last (q := (a, p.2)) hp
  rw [e2]
  have few := g.few
  have age := g.age
  have part := g.part
  have fall := g.fall
  have rise := g.rise
  have early := g.early
  rw [e1] at few age part fall rise early
  rw [List.pairwise_append] at fall rise early
  refine ⟨by simpa using few, fun q hq => ?_, fun q hq => ?_, ?_, ?_⟩
  · rcases List.mem_append.mp hq with h | h
    · exact age q (List.mem_append_left _ h)
    · rw [List.mem_singleton.mp h]
      dsimp only
      omega
  · rcases List.mem_append.mp hq with h | h
    · exact part q (List.mem_append_left _ h)
    · rw [List.mem_singleton.mp h]
      exact part p (List.mem_append_right _ (List.mem_singleton.mpr rfl))
  · refine List.pairwise_append.mpr ⟨fall.1, List.pairwise_singleton _ _, fun x hx y hy => ?_⟩
    rw [List.mem_singleton.mp hy]
    exact fall.2.2 x hx p (List.mem_singleton.mpr rfl)
  · refine List.pairwise_append.mpr ⟨rise.1, List.pairwise_singleton _ _, fun x hx y hy => ?_⟩
    rw [List.mem_singleton.mp hy]
    have := early.2.2 x hx p (List.mem_singleton.mpr rfl)
    dsimp only
    omega
/-! ### drawn names -/
theorem nameS_of {s : Str} (h1 : 1 ≤ (tl s).length) (h2 : (tl s).length ≤ 8) (h3 : smalls (tl s) = true) : NameS s := ⟨h1, h2, fun c hc => of_decide_eq_true (List.all_eq_true.mp h3 c hc)⟩
def drawnWords : List Str := [Str.ofString "give", Str.ofString "sell", Str.ofString "heap", Str.ofString "owner", Str.ofString "has", Str.ofString "not", Str.ofString "above", Str.ofString "number", Str.ofString "and", Str.ofString "price", Str.ofString "fetch", Str.ofString "words"]
theorem drawnWords_ok : ∀ s ∈ drawnWords, NameS s := by
  have h : ∀ s ∈ drawnWords, (decide (1 ≤ (tl s).length ∧ (tl s).length ≤ 8) && smalls (tl s)) = true := by decide +kernel
  intro s hs
  have := h s hs
  rw [Bool.and_eq_true, decide_eq_true_eq] at this
  exact nameS_of this.1.1 this.1.2 this.2
theorem name_two {a b : Nat} {s : Str} (ha : 97 ≤ a ∧ a ≤ 122) (hb : 97 ≤ b ∧ b ≤ 122) (hl : (tl s).length ≤ 6) (hs : ∀ c ∈ tl s, 97 ≤ c ∧ c ≤ 122) : NameS (((⟨#[a]⟩ : Str) ++ (⟨#[b]⟩ : Str)) ++ s) := by
  have e : tl (((⟨#[a]⟩ : Str) ++ (⟨#[b]⟩ : Str)) ++ s) = a :: b :: tl s := by rw [tl_append, tl_append]; rfl
  refine ⟨by rw [e]; simp, by rw [e]; simp; omega, fun c hc => ?_⟩
  rw [e] at hc
  rcases List.mem_cons.mp hc with rfl | hc
  · exact ha
  · rcases List.mem_cons.mp hc with rfl | hc
    · exact hb
    · exact hs c hc
theorem joinL_nil : ∀ ls : List (List Nat), joinL [] ls = ls.flatten
  | [] => rfl
  | [x] => by simp [joinL]
  | x :: y :: r => by
    show x ++ ([] ++ joinL [] (y :: r)) = _
    rw [joinL_nil (y :: r), List.nil_append]
    rfl
theorem tl_joinC (cs : List Nat) : tl (Str.join (Str.ofString "") (cs.map fun c => (⟨#[c]⟩ : Str))) = cs := by
  rw [tl_join]
  have e : tl (Str.ofString "") = [] := by decide +kernel
  rw [e, joinL_nil, List.map_map]
  induction cs with
  | nil => rfl
  | cons c r ih =>
    rw [List.map_cons, List.flatten_cons, ih]
    rfl
/-! ### tags as data -/
def tagFs (f : Five) : List (PyData × PyData) := [(.str (Str.ofString "owner"), .str f.owner), (.str (Str.ofString "number"), .int f.number), (.str (Str.ofString "price"), .int f.price), (.str (Str.ofString "least"), .int f.least), (.str (Str.ofString "day"), .int f.day)]
def tagD (f : Five) : PyData := .dict ((.str (Str.ofString "Tag"), .none) :: tagFs f)
/-! ### objects and records by the list of their fields -/
def mkF : List Str → List PyData → List (PyData × PyData)
  | n :: ns, v :: vs => (.str n, v) :: mkF ns vs
  | _, _ => []
/-- records: dicts by written words -/
def mkK : List Str → List PyData → Kvs
  | n :: ns, v :: vs => (.inr n, v) :: mkK ns vs
  | _, _ => []
theorem if1 {p : Prop} [Decidable p] {a b : Prop} (h : p) (q : a) : if p then a else b := by rw [if_pos h]; exact q
theorem if0 {p : Prop} [Decidable p] {a b : Prop} (h : ¬ p) (q : b) : if p then a else b := by rw [if_neg h]; exact q
theorem ResKs.mk {S : Sto} : ∀ {ns : List Str} {vs us : List PyData}, ResAll S vs us → ResKs S (mkK ns vs) (mkK ns us)
  | [], _, _, _ => .nil
  | _ :: _, _, _, .nil => .nil
  | _ :: _, _, _, .cons a r => .cons a (ResKs.mk r)
/-! ### levels: plain part -/
def sumP (l : List (Int × Int)) : Int := (l.map (·.1)).sum
def sumL (l : List (Int × Int)) : Int := (l.map (·.2)).sum
/-- what all get, times B, at the level T / B -/
def atLv (T B : Int) (l : List (Int × Int)) : Int := (l.map fun p => max (p.2 * B) (T * p.1)).sum
theorem sumL_cons (p : Int × Int) (l : List (Int × Int)) : sumL (p :: l) = p.2 + sumL l := by unfold sumL; rw [List.map_cons, List.sum_cons]
theorem atLv_cons (T B : Int) (p : Int × Int) (l : List (Int × Int)) : atLv T B (p :: l) = max (p.2 * B) (T * p.1) + atLv T B l := by unfold atLv; rw [List.map_cons, List.sum_cons]
/-- above the level -/
def isUp (T B : Int) (p : Int × Int) : Bool := decide (p.2 * B < T * p.1)
def ups (T B : Int) (l : List (Int × Int)) : List (Int × Int) := l.filter (isUp T B)
structure AskW (l : List (Int × Int)) : Prop where
  p0 : ∀ p ∈ l, 1 ≤ p.1
  l0 : ∀ p ∈ l, 0 ≤ p.2
theorem AskW.ups {l : List (Int × Int)} (w : AskW l) (T B : Int) : AskW (ups T B l) := ⟨fun p h => w.p0 p (List.mem_filter.mp h).1, fun p h => w.l0 p (List.mem_filter.mp h).1⟩
/-- a level found for l: by it all of l get c more than their leasts; it is no greater than that of all of them above -/
structure LvOk (c T B : Int) (l : List (Int × Int)) : Prop where
  b0 : 0 < B
  t0 : 0 < T
  le : T * sumP l ≤ (c + sumL l) * B
  all : atLv T B l = (c + sumL l) * B
theorem le_of_mul {a b k : Int} (hk : 0 < k) (h : a * k ≤ b * k) : a ≤ b := by
  rcases Int.lt_or_le b a with q | q
  · exact absurd (Int.mul_lt_mul_of_pos_right q hk) (by omega)
  · exact q
/-- in lowest terms -/
theorem atLv_div {T B g : Int} (hg : 0 < g) (l : List (Int × Int)) : atLv (T * g) (B * g) l = atLv T B l * g := by
  induction l with
  | nil => show (0 : Int) = 0 * g; rw [Int.zero_mul]
  | cons p l ih =>
    rw [atLv_cons, atLv_cons, ih, Int.add_mul]
    congr 1
    rw [show p.2 * (B * g) = p.2 * B * g from by rw [Int.mul_assoc], show T * g * p.1 = T * p.1 * g from by rw [Int.mul_assoc, Int.mul_comm g, Int.mul_assoc]]
    generalize p.2 * B = x
    generalize T * p.1 = y
    rcases Int.le_total x y with h | h
    · rw [Int.max_eq_right h, Int.max_eq_right (Int.mul_le_mul_of_nonneg_right h (by omega))]
    · rw [Int.max_eq_left h, Int.max_eq_left (Int.mul_le_mul_of_nonneg_right h (by omega))]
/-! ### heaps parted: plain part -/
/-- the whole pennies -/
def wh (T B : Int) (p : Int × Int) : Int := if isUp T B p then T * p.1 / B else p.2
def rm (T B : Int) (p : Int × Int) : Int := T * p.1 % B
def sumW (T B : Int) (l : List (Int × Int)) : Int := (l.map (wh T B)).sum
def sumR (T B : Int) (l : List (Int × Int)) : Int := ((ups T B l).map (rm T B)).sum
theorem wr_sum {T B : Int} (l : List (Int × Int)) : B * sumW T B l + sumR T B l = atLv T B l := by
  induction l with
  | nil => show B * 0 + 0 = (0 : Int); simp
  | cons p l ih =>
    rw [atLv_cons, ← ih]
    unfold sumW sumR ups
    rw [List.map_cons, List.sum_cons, List.filter_cons]
    unfold wh
    by_cases h : p.2 * B < T * p.1
    · rw [show isUp T B p = true from decide_eq_true h, if_pos rfl, if_pos rfl, List.map_cons, List.sum_cons, Int.max_eq_right (by omega)]
      have := Int.mul_ediv_add_emod (T * p.1) B
      unfold rm
      rw [Int.mul_add]
      unfold wh at *
      omega
    · rw [show isUp T B p = false from decide_eq_false h, if_neg (by decide), if_neg (by decide), Int.max_eq_left (by omega), Int.mul_add, Int.mul_comm B p.2]
      unfold wh at *
      omega
theorem sumR_bd {T B : Int} (hB : 0 < B) (l : List (Int × Int)) : 0 ≤ sumR T B l ∧ sumR T B l ≤ ((ups T B l).length : Int) * (B - 1) := by
  unfold sumR
  generalize ups T B l = u
  induction u with
  | nil => exact ⟨Int.le_refl _, by simp⟩
  | cons p u ih =>
    rw [List.map_cons, List.sum_cons, List.length_cons]
    have h1 := Int.emod_nonneg (T * p.1) (show B ≠ 0 by omega)
    have h2 := Int.emod_lt_of_pos (T * p.1) hB
    have e : ((u.length + 1 : Nat) : Int) * (B - 1) = (u.length : Int) * (B - 1) + (B - 1) := by
      rw [Int.natCast_add, Int.add_mul]; simp
    rw [e]
    unfold rm at ih ⊢
    omega
/-- the pennies that are left are no more than there are places for -/
theorem left_ok {T B m : Int} {l : List (Int × Int)} (hB : 0 < B) (z : atLv T B l = m * B) : 0 ≤ m - sumW T B l ∧ m - sumW T B l ≤ ((ups T B l).length : Int) := by
  have e := wr_sum (T := T) (B := B) l
  obtain ⟨r0, r1⟩ := sumR_bd (T := T) hB l
  have k : (m - sumW T B l) * B = sumR T B l := by
    rw [Int.sub_mul, ← z, ← e, Int.mul_comm (sumW T B l)]
    omega
  constructor
  · exact le_of_mul hB (by rw [k, Int.zero_mul]; exact r0)
  · refine le_of_mul hB ?_
    rw [k]
    have : ((ups T B l).length : Int) * (B - 1) ≤ ((ups T B l).length : Int) * B := Int.mul_le_mul_of_nonneg_left (by omega) (by omega)
    omega
/-- j comes ahead of i -/
def bef (g : Int → Int) (j i : Int) : Bool := decide (g i < g j) || (decide (g j = g i) && decide (j < i))
theorem bef_no {g : Int → Int} {j i : Int} (h : bef g j i = true) : bef g i j = false := by
  unfold bef at *
  simp only [Bool.or_eq_true, Bool.and_eq_true, decide_eq_true_eq, Bool.or_eq_false_iff, Bool.and_eq_false_iff, decide_eq_false_iff_not] at *
  omega
theorem bef_self {g : Int → Int} {i : Int} : bef g i i = false := by
  unfold bef
  simp
theorem mem_take_bef {g : Int → Int} : ∀ {l : List Int}, l.Pairwise (fun x y => bef g x y = true) → ∀ (r : Nat) (i : Int), i ∈ l.take r ↔ i ∈ l ∧ l.countP (bef g · i) < r
  | [], _, r, i => by simp
  | x :: l, h, 0, i => by simp
  | x :: l, h, r + 1, i => by
    obtain ⟨h1, h2⟩ := List.pairwise_cons.mp h
    rw [List.take_succ_cons, List.mem_cons, List.mem_cons]
    by_cases e : i = x
    · subst e
      have z : (i :: l).countP (bef g · i) = 0 := by
        rw [List.countP_eq_zero]
        intro y hy
        rcases List.mem_cons.mp hy with rfl | hy
        · rw [bef_self]; decide
        · rw [bef_no (h1 y hy)]; decide
      rw [z]
      simp
    · rw [mem_take_bef h2 r i, List.countP_cons]
      constructor
      · rintro (q | ⟨q1, q2⟩)
        · exact absurd q e
        · refine ⟨.inr q1, ?_⟩
          split <;> omega
      · rintro ⟨q | q, q2⟩
        · exact absurd q e
        · rw [if_pos (h1 i q)] at q2
          exact .inr ⟨q, by omega⟩
/-- the places above the level -/
def oth (T B : Int) (l : List (Int × Int)) : List Int := (l.zipIdx.filter fun q => isUp T B q.1).map fun q => (q.2 : Int)
def gOf (T B : Int) (l : List (Int × Int)) (n : Int) : Int := rm T B (l.getD n.toNat (0, 0))
/-- what each gets -/
def gives (m T B : Int) (l : List (Int × Int)) : List Int := l.zipIdx.map fun q => wh T B q.1 + if (q.2 : Int) ∈ oth T B l ∧ ((oth T B l).countP (bef (gOf T B l) · (q.2 : Int)) : Int) < m - sumW T B l then 1 else 0
theorem oth_inc (T B : Int) (l : List (Int × Int)) : (oth T B l).Pairwise (· < ·) := by
  unfold oth
  rw [List.pairwise_map]
  refine List.Pairwise.filter _ ?_
  rw [List.pairwise_iff_getElem]
  intro a b ha hb hab
  simp only [List.getElem_zipIdx]
  omega
theorem mem_oth {T B : Int} {l : List (Int × Int)} {i : Int} : i ∈ oth T B l ↔ 0 ≤ i ∧ ∃ p, l[i.toNat]? = some p ∧ isUp T B p = true := by
  unfold oth
  rw [List.mem_map]
  constructor
  · rintro ⟨q, hq, rfl⟩
    obtain ⟨h1, h2⟩ := List.mem_filter.mp hq
    refine ⟨by omega, q.1, ?_, h2⟩
    rw [Int.toNat_natCast]
    exact List.mem_zipIdx_iff_getElem?.mp h1
  · rintro ⟨h0, p, h1, h2⟩
    exact ⟨(p, i.toNat), List.mem_filter.mpr ⟨List.mem_zipIdx_iff_getElem?.mpr h1, h2⟩, by show ((i.toNat : Nat) : Int) = i; omega⟩
theorem oth_len (T B : Int) (l : List (Int × Int)) : (oth T B l).length = (ups T B l).length := by
  unfold oth ups
  rw [List.length_map, ← List.countP_eq_length_filter, ← List.countP_eq_length_filter]
  have : (l.zipIdx.map (·.1)) = l := by simp
  conv => rhs; rw [← this]
  rw [List.countP_map]
  rfl
theorem sum_ind {α : Type} (xs : List α) (f : α → Int) (c : α → Prop) [DecidablePred c] : (xs.map fun x => f x + if c x then 1 else 0).sum = (xs.map f).sum + (xs.countP (fun x => decide (c x)) : Int) := by
  induction xs with
  | nil => rfl
  | cons x xs ih =>
    rw [List.map_cons, List.sum_cons, List.map_cons, List.sum_cons, List.countP_cons, ih]
    by_cases h : c x
    · simp only [h, if_true, decide_true]
      omega
    · simp only [h, if_false, decide_false, Bool.false_eq_true]
      omega
theorem filter_take {s : List Int} (nd : s.Nodup) (r : Nat) : s.filter (fun i => decide (i ∈ s.take r)) = s.take r := by
  conv => lhs; rw [← List.take_append_drop r s]
  rw [List.filter_append, List.take_append_drop]
  have h1 : (s.take r).filter (fun i => decide (i ∈ s.take r)) = s.take r := List.filter_eq_self.mpr fun i hi => decide_eq_true hi
  have h2 : (s.drop r).filter (fun i => decide (i ∈ s.take r)) = [] := by
    rw [List.filter_eq_nil_iff]
    intro i hi h
    have h := of_decide_eq_true h
    rw [← List.take_append_drop r s] at nd
    exact (List.nodup_append.mp nd).2.2 i h i hi rfl
  rw [h1, h2, List.append_nil]
def befE (g : Int → Int) (x y : Int) : Bool := bef g x y || x == y
theorem sel_len {g : Int → Int} {ns : List Int} (inc : ns.Pairwise (· < ·)) {r : Nat} (hr : r ≤ ns.length) : (ns.filter fun i => decide (ns.countP (bef g · i) < r)).length = r := by
  have pm : (ns.mergeSort (befE g)).Perm ns := List.mergeSort_perm _ _
  have nd : (ns.mergeSort (befE g)).Nodup := pm.nodup_iff.mpr (inc.imp fun h => by omega)
  have so : (ns.mergeSort (befE g)).Pairwise (fun x y => befE g x y = true) := List.pairwise_mergeSort (fun a b c h1 h2 => by
    unfold befE bef at *
    simp only [Bool.or_eq_true, Bool.and_eq_true, decide_eq_true_eq, beq_iff_eq] at *
    rcases h1 with h1 | rfl
    · rcases h2 with h2 | rfl
      · exact .inl (by omega)
      · exact .inl h1
    · exact h2) (fun a b => by
    unfold befE bef
    simp only [Bool.or_eq_true, Bool.and_eq_true, decide_eq_true_eq, beq_iff_eq]
    by_cases e : a = b
    · exact .inl (.inr e)
    · omega) ns
  generalize ns.mergeSort (befE g) = s at *
  have tot : s.Pairwise (fun x y => bef g x y = true) := (so.and nd).imp fun {x y} ⟨h1, h2⟩ => by
    unfold befE at h1
    simp only [Bool.or_eq_true, beq_iff_eq] at h1
    exact h1.resolve_right h2
  rw [← (pm.filter _).length_eq]
  have e : s.filter (fun i => decide (ns.countP (bef g · i) < r)) = s.filter (fun i => decide (i ∈ s.take r)) := by
    refine List.filter_congr fun i hi => ?_
    have q := mem_take_bef tot r i
    rw [pm.countP_eq] at q
    rw [decide_eq_decide, q]
    exact ⟨fun h => ⟨hi, h⟩, fun h => h.2⟩
  rw [e, filter_take nd, List.length_take, pm.length_eq]
  omega
theorem gives_len (m T B : Int) (l : List (Int × Int)) : (gives m T B l).length = l.length := by unfold gives; simp
theorem gives_sum {m T B : Int} {l : List (Int × Int)} (hB : 0 < B) (z : atLv T B l = m * B) : (gives m T B l).sum = m := by
  obtain ⟨h0, h1⟩ := left_ok hB z
  obtain ⟨r, hr⟩ := Int.eq_ofNat_of_zero_le h0
  unfold gives
  rw [sum_ind l.zipIdx (fun q => wh T B q.1) fun q => (q.2 : Int) ∈ oth T B l ∧ ((oth T B l).countP (bef (gOf T B l) · (q.2 : Int)) : Int) < m - sumW T B l]
  have e1 : (l.zipIdx.map fun q => wh T B q.1) = l.map (wh T B) := by
    have : (l.zipIdx.map (·.1)) = l := by simp
    conv => rhs; rw [← this]
    rw [List.map_map]
    rfl
  rw [e1, show (l.map (wh T B)).sum = sumW T B l from rfl]
  have e2 : (l.zipIdx.countP fun q => decide ((q.2 : Int) ∈ oth T B l ∧ ((oth T B l).countP (bef (gOf T B l) · (q.2 : Int)) : Int) < m - sumW T B l)) = ((oth T B l).filter fun i => decide ((oth T B l).countP (bef (gOf T B l) · i) < r)).length := by
    rw [← List.countP_eq_length_filter]
    have : ∀ c : Int → Bool, (oth T B l).countP c = l.zipIdx.countP fun q => isUp T B q.1 && c (q.2 : Int) := fun c => by
      unfold oth
      rw [List.countP_map, List.countP_filter]
      refine List.countP_congr fun q _ => ?_
      simp only [Function.comp, Bool.and_eq_true]
      exact And.comm
    rw [this]
    refine List.countP_congr fun q hq => ?_
    have hu : (q.2 : Int) ∈ oth T B l ↔ isUp T B q.1 = true := by
      rw [mem_oth, Int.toNat_natCast, List.mem_zipIdx_iff_getElem?.mp hq]
      exact ⟨fun ⟨_, p, e, u⟩ => by cases e; exact u, fun u => ⟨by omega, _, rfl, u⟩⟩
    rw [decide_eq_true_eq, Bool.and_eq_true, decide_eq_true_eq, hu, hr]
    constructor
    · exact fun h => ⟨h.1, by have := h.2; omega⟩
    · exact fun h => ⟨h.1, by have := h.2; omega⟩
  rw [e2, sel_len (oth_inc T B l) (by rw [oth_len]; omega)]
  omega
/-! two levels -/
theorem atLv_mono {x y D : Int} {l : List (Int × Int)} (w : AskW l) (h : x ≤ y) : atLv x D l ≤ atLv y D l := by
  induction l with
  | nil => exact Int.le_refl _
  | cons p l ih =>
    rw [atLv_cons, atLv_cons]
    have := ih ⟨fun q h => w.p0 q (List.mem_cons_of_mem _ h), fun q h => w.l0 q (List.mem_cons_of_mem _ h)⟩
    have h1 := w.p0 p List.mem_cons_self
    have : x * p.1 ≤ y * p.1 := Int.mul_le_mul_of_nonneg_right h (by omega)
    omega
theorem atLv_lt {x y D : Int} {l : List (Int × Int)} (w : AskW l) (h : x < y) (u : ∃ p ∈ l, p.2 * D < y * p.1) : atLv x D l < atLv y D l := by
  induction l with
  | nil => obtain ⟨p, hp, _⟩ := u; cases hp
  | cons p l ih =>
    have w' : AskW l := ⟨fun q h => w.p0 q (List.mem_cons_of_mem _ h), fun q h => w.l0 q (List.mem_cons_of_mem _ h)⟩
    rw [atLv_cons, atLv_cons]
    have h1 := w.p0 p List.mem_cons_self
    have h2 : x * p.1 < y * p.1 := Int.mul_lt_mul_of_pos_right h (by omega)
    have h3 := atLv_mono (D := D) w' (Int.le_of_lt h)
    obtain ⟨q, hq, hu⟩ := u
    rcases List.mem_cons.mp hq with rfl | hq
    · omega
    · have := ih w' ⟨q, hq, hu⟩
      omega
/-- if none is above, all get their leasts -/
theorem atLv_none {y D : Int} {l : List (Int × Int)} (h : ∀ p ∈ l, ¬ p.2 * D < y * p.1) : atLv y D l = sumL l * D := by
  induction l with
  | nil => show (0 : Int) = 0 * D; rw [Int.zero_mul]
  | cons p l ih =>
    rw [atLv_cons, sumL_cons, ih fun q hq => h q (List.mem_cons_of_mem _ hq), Int.add_mul]
    have := h p List.mem_cons_self
    omega
theorem cross_mul {T B C : Int} {l : List (Int × Int)} {m : Int} (hC : 0 < C) (h : atLv T B l = m * B) : atLv (T * C) (B * C) l = m * (B * C) := by
  rw [atLv_div hC, h, Int.mul_assoc]
theorem lv_one {T B U C m : Int} {l : List (Int × Int)} (w : AskW l) (hm : sumL l < m) (hB : 0 < B) (hC : 0 < C) (h1 : atLv T B l = m * B) (h2 : atLv U C l = m * C) : T * C = U * B := by
  have e1 := cross_mul hC h1
  have e2 := cross_mul hB h2
  rw [Int.mul_comm C B] at e2
  have hD : 0 < B * C := Int.mul_pos hB hC
  have up : ∀ y, atLv y (B * C) l = m * (B * C) → ∃ p ∈ l, p.2 * (B * C) < y * p.1 := fun y e => by
    refine Classical.byContradiction fun n => ?_
    have := atLv_none (y := y) (D := B * C) (l := l) fun p hp q => n ⟨p, hp, q⟩
    rw [e] at this
    have := Int.mul_lt_mul_of_pos_right hm hD
    omega
  rcases Int.lt_trichotomy (T * C) (U * B) with h | h | h
  · have := atLv_lt w h (up _ e2)
    omega
  · exact h
  · have := atLv_lt w h (up _ e1)
    omega
section
variable {T B U C : Int} (hB : 0 < B) (hC : 0 < C) (e : T * C = U * B)
include hB hC e
theorem same_up (p : Int × Int) : isUp T B p = isUp U C p := by
  unfold isUp
  rw [decide_eq_decide]
  have a1 : p.2 * B * C = p.2 * C * B := by rw [Int.mul_assoc, Int.mul_comm B, ← Int.mul_assoc]
  have a2 : T * p.1 * C = U * p.1 * B := by rw [Int.mul_assoc, Int.mul_comm p.1, ← Int.mul_assoc, e, Int.mul_assoc, Int.mul_comm B, ← Int.mul_assoc]
  constructor
  · intro h
    have := Int.mul_lt_mul_of_pos_right h hC
    rw [a1, a2] at this
    exact Int.lt_of_mul_lt_mul_right this (by omega)
  · intro h
    have := Int.mul_lt_mul_of_pos_right h hB
    rw [← a1, ← a2] at this
    exact Int.lt_of_mul_lt_mul_right this (by omega)
theorem same_mul (p : Int × Int) : T * p.1 * C = U * p.1 * B := by rw [Int.mul_assoc, Int.mul_comm p.1, ← Int.mul_assoc, e, Int.mul_assoc, Int.mul_comm B, ← Int.mul_assoc]
theorem same_wh (p : Int × Int) : wh T B p = wh U C p := by
  unfold wh
  rw [same_up hB hC e]
  have : T * p.1 / B = U * p.1 / C := by
    rw [← Int.mul_ediv_mul_of_pos_left (T * p.1) B hC, ← Int.mul_ediv_mul_of_pos_left (U * p.1) C hB, same_mul hB hC e, Int.mul_comm B C]
  rw [this]
theorem same_rm (p : Int × Int) : rm T B p * C = rm U C p * B := by
  unfold rm
  rw [Int.mul_comm _ C, Int.mul_comm _ B, ← Int.mul_emod_mul_of_pos _ _ hC, ← Int.mul_emod_mul_of_pos _ _ hB, Int.mul_comm C (T * p.1), Int.mul_comm B (U * p.1), same_mul hB hC e, Int.mul_comm C B]
theorem same_lt (p q : Int × Int) : rm T B p < rm T B q ↔ rm U C p < rm U C q := by
  have h1 := same_rm hB hC e p
  have h2 := same_rm hB hC e q
  constructor
  · intro h
    have := Int.mul_lt_mul_of_pos_right h hC
    rw [h1, h2] at this
    exact Int.lt_of_mul_lt_mul_right this (by omega)
  · intro h
    have := Int.mul_lt_mul_of_pos_right h hB
    rw [← h1, ← h2] at this
    exact Int.lt_of_mul_lt_mul_right this (by omega)
theorem same_gives (m : Int) (l : List (Int × Int)) : gives m T B l = gives m U C l := by
  have eo : oth T B l = oth U C l := by
    unfold oth
    congr 1
    exact List.filter_congr fun q _ => same_up hB hC e q.1
  have es : sumW T B l = sumW U C l := by
    unfold sumW
    congr 1
    exact List.map_congr_left fun p _ => same_wh hB hC e p
  have eb : ∀ i j, bef (gOf T B l) i j = bef (gOf U C l) i j := fun i j => by
    unfold bef gOf
    have h1 := same_lt hB hC e (l.getD j.toNat (0, 0)) (l.getD i.toNat (0, 0))
    have h2 := same_lt hB hC e (l.getD i.toNat (0, 0)) (l.getD j.toNat (0, 0))
    rw [Bool.eq_iff_iff]
    simp only [Bool.or_eq_true, Bool.and_eq_true, decide_eq_true_eq]
    omega
  unfold gives
  refine List.map_congr_left fun q _ => ?_
  rw [same_wh hB hC e, eo, es, show (fun x => bef (gOf T B l) x (q.2 : Int)) = (fun x => bef (gOf U C l) x (q.2 : Int)) from funext fun x => eb x _]
end
/-- a level of a sum -/
structure LvA (m : Int) (l : List (Int × Int)) (T B : Int) : Prop where
  b0 : 0 < B
  t0 : 0 < T
  all : atLv T B l = m * B
/-- what part_heap gives -/
def HeapOf (m : Int) (l : List (Int × Int)) (vs : List Int) : Prop := (m = sumL l ∧ vs = l.map (·.2)) ∨ (sumL l < m ∧ ∃ T B, LvA m l T B ∧ vs = gives m T B l)
theorem HeapOf.len {m : Int} {l : List (Int × Int)} {vs : List Int} (h : HeapOf m l vs) : vs.length = l.length := by
  rcases h with ⟨_, rfl⟩ | ⟨_, T, B, _, rfl⟩
  · exact List.length_map ..
  · exact gives_len ..
theorem HeapOf.sum {m : Int} {l : List (Int × Int)} {vs : List Int} (h : HeapOf m l vs) : vs.sum = m := by
  rcases h with ⟨e, rfl⟩ | ⟨_, T, B, z, rfl⟩
  · exact e.symm
  · exact gives_sum z.b0 z.all
theorem HeapOf.one {m : Int} {l : List (Int × Int)} {vs us : List Int} (w : AskW l) (h : HeapOf m l vs) (h' : HeapOf m l us) : vs = us := by
  rcases h with ⟨e, rfl⟩ | ⟨e, T, B, z, rfl⟩ <;> rcases h' with ⟨e', rfl⟩ | ⟨e', U, C, z', rfl⟩
  · rfl
  · omega
  · omega
  · exact same_gives z.b0 z'.b0 (lv_one w e z.b0 z'.b0 z.all z'.all) m l
/-! the account of deeds: plain -/
section
variable {α : Type}
def kget (l : List (L2.Key × α)) (k : L2.Key) : Option α := (l.find? fun z => decide (z.1 = k)).map (·.2)
def kput (l : List (L2.Key × α)) (k : L2.Key) (a : α) : List (L2.Key × α) := if (kget l k).isSome = true then l.map (fun z => if z.1 = k then (z.1, a) else z) else l ++ [(k, a)]
def kmap (f : α → PyData) (l : List (L2.Key × α)) : Kvs := l.map fun z => (z.1, f z.2)
def hdK (ad : L2.Key → Addr) (l : List (L2.Key × α)) : Kvs := l.map fun z => (z.1, DL.hdl (ad z.1))
def upA (ad : L2.Key → Addr) (k : L2.Key) (p : Addr) : L2.Key → Addr := fun j => if j = k then p else ad j
theorem kget_nil {k : L2.Key} : kget ([] : List (L2.Key × α)) k = none := rfl
theorem kget_cons {z : L2.Key × α} {l : List (L2.Key × α)} {k : L2.Key} : kget (z :: l) k = if z.1 = k then some z.2 else kget l k := by
  unfold kget
  rw [List.find?_cons]
  by_cases h : z.1 = k
  · rw [if_pos h, decide_eq_true h]; rfl
  · rw [if_neg h, decide_eq_false h]
theorem keys_put {l : List (L2.Key × α)} {k : L2.Key} {a : α} : (kput l k a).map (·.1) = if (kget l k).isSome = true then l.map (·.1) else l.map (·.1) ++ [k] := by
  unfold kput
  split
  · rw [List.map_map]
    refine List.map_congr_left fun z _ => ?_
    show (if z.1 = k then (z.1, a) else z).1 = z.1
    split <;> rfl
  · rw [List.map_append]; rfl
theorem kget_none {l : List (L2.Key × α)} {k : L2.Key} : kget l k = none ↔ k ∉ l.map (·.1) := by
  induction l with
  | nil => simp [kget_nil]
  | cons z r ih =>
    rw [kget_cons, List.map_cons, List.mem_cons, not_or]
    by_cases h : z.1 = k
    · rw [if_pos h]; simp [h]
    · rw [if_neg h, ih]; exact ⟨fun q => ⟨fun w => h w.symm, q⟩, fun q => q.2⟩
theorem kget_app {l r : List (L2.Key × α)} {k : L2.Key} : kget (l ++ r) k = (kget l k).or (kget r k) := by
  induction l with
  | nil => rfl
  | cons z l ih =>
    rw [List.cons_append, kget_cons, kget_cons]
    by_cases h : z.1 = k
    · rw [if_pos h, if_pos h]; rfl
    · rw [if_neg h, if_neg h, ih]
theorem kget_map {l : List (L2.Key × α)} {k j : L2.Key} {a : α} : kget (l.map fun z => if z.1 = k then (z.1, a) else z) j = if j = k then (kget l j).map fun _ => a else kget l j := by
  induction l with
  | nil => simp [kget_nil]
  | cons z r ih =>
    rw [List.map_cons, kget_cons, kget_cons, ih]
    have e1 : (if z.1 = k then (z.1, a) else z).1 = z.1 := by split <;> rfl
    rw [e1]
    by_cases h : z.1 = j
    · rw [if_pos h, if_pos h]
      by_cases hk : j = k
      · rw [if_pos hk, if_pos (h.trans hk)]; rfl
      · rw [if_neg hk, if_neg (fun w => hk (h.symm.trans w))]
    · rw [if_neg h, if_neg h]
theorem kget_put {l : List (L2.Key × α)} {k j : L2.Key} {a : α} : kget (kput l k a) j = if j = k then some a else kget l j := by
  unfold kput
  cases e : kget l k with
  | none =>
    rw [if_neg (by exact Bool.false_ne_true), kget_app, kget_cons, kget_nil]
    by_cases h : j = k
    · rw [if_pos h, if_pos h.symm, h, e]; rfl
    · rw [if_neg h, if_neg (fun w => h w.symm)]; cases kget l j <;> rfl
  | some b =>
    rw [if_pos (by rfl), kget_map]
    by_cases h : j = k
    · rw [if_pos h, if_pos h, h, e]; rfl
    · rw [if_neg h, if_neg h]
theorem kput_len {l : List (L2.Key × α)} {k : L2.Key} {a : α} : (kput l k a).length ≤ l.length + 1 := by
  unfold kput
  split
  · rw [List.length_map]; omega
  · rw [List.length_append]; simp
end
inductive Spot where
  | there | sold | fetched | lost
deriving DecidableEq
def Spot.tx : Spot → Str
  | .there => Str.ofString "there"
  | .sold => Str.ofString "sold"
  | .fetched => Str.ofString "fetched"
  | .lost => Str.ofString "lost"
/-- a thing that was given in -/
structure Th where
  tag : Five
  words : List Str
  entry : Int
  leave : Bool
  spot : Spot
  since : Int
  spotE : Int
  was : Str
  old : Str
  got : Int × Int
structure Acc where
  rule : List (Int × Int)
  share : Int
  keep : Int
  ths : List (L2.Key × Th)
  due : List (L2.Key × Int)
  paid : Int
  lines : List PyData
  words : List (L2.Key × Str)
inductive Deed where
  | give (o : Str) (n p l : Int) (ws : List Str)
  | let_ (n : Int)
  | rule (r : List (Int × Int))
  | share (s : Int)
  | sell (n : Int) (a : Option Int)
  | heap (ns : List Int) (am : Int)
  | back (n : Int)
  | fetch (n : Int)
  | lose (n : Int)
  | find (n : Int)
  | pay (o : Str) (am : Int)
def optI : Option Int → PyData
  | none => .none
  | some i => .int i
def Deed.d : Deed → PyData
  | .give o n p l ws => .tuple [.str (Str.ofString "give"), .str o, .int n, .int p, .int l, .tuple (ws.map .str)]
  | .let_ n => .tuple [.str (Str.ofString "let"), .int n]
  | .rule r => .tuple [.str (Str.ofString "rule"), .tuple (r.map pairD)]
  | .share s => .tuple [.str (Str.ofString "share"), .int s]
  | .sell n a => .tuple [.str (Str.ofString "sell"), .int n, optI a]
  | .heap ns am => .tuple [.str (Str.ofString "heap"), .tuple (ns.map .int), .int am]
  | .back n => .tuple [.str (Str.ofString "back"), .int n]
  | .fetch n => .tuple [.str (Str.ofString "fetch"), .int n]
  | .lose n => .tuple [.str (Str.ofString "lose"), .int n]
  | .find n => .tuple [.str (Str.ofString "find"), .int n]
  | .pay o am => .tuple [.str (Str.ofString "pay"), .str o, .int am]
def Acc.owner (a : Acc) (t : Th) (day : Int) : Str := if day < t.tag.day + a.keep then t.tag.owner else Str.ofString ""
def Acc.free (a : Acc) (t : Th) (day : Int) : Bool := t.leave || decide (a.owner t day = Str.ofString "")
def Acc.price (a : Acc) (t : Th) (day : Int) : Int := priceOn a.rule t.tag day (a.free t day)
def Acc.least (a : Acc) (t : Th) (day : Int) : Int := if a.free t day = true then 0 else t.tag.least
def lineD (o : Str) (day : Int) (w : Str) (n amt due : Int) : PyData := .tuple [.str o, .int day, .str w, .int n, .int amt, .int due]
def Acc.dueOf (a : Acc) (o : Str) : Int := (kget a.due (.inr o)).getD 0
def Acc.credit (a : Acc) (o : Str) (day : Int) (w : Str) (n amt : Int) : Acc := if o = Str.ofString "" then a else
  { a with due := kput a.due (.inr o) (a.dueOf o + amt), lines := a.lines ++ [lineD o day w n amt (a.dueOf o + amt)] }
def Acc.set (a : Acc) (k : L2.Key) (t : Th) : Acc := { a with ths := kput a.ths k t }
def Acc.halves (a : Acc) (t : Th) (day amt : Int) : Int × Int := if a.owner t day ≠ Str.ofString "" then (amt - amt * a.share / 100, amt * a.share / 100) else (0, amt)
def Acc.sellOne (a : Acc) (k : L2.Key) (t : Th) (day entry amt : Int) : Acc :=
  (a.set k { t with spot := .sold, since := day, spotE := entry, was := a.owner t day, old := a.owner t day, got := a.halves t day amt }).credit (a.owner t day) day (Str.ofString "sold") t.tag.number (a.halves t day amt).1
/-- those of some numbers that are known -/
def Acc.known (a : Acc) (ns : List Int) : List Int := ns.filter fun n => (kget a.ths (.inl n)).isSome
def Acc.thereN (a : Acc) (n : Int) : Bool := match kget a.ths (.inl n) with
  | some t => decide (t.spot = .there)
  | none => true
/-- what bars a deed with things that are there -/
def Acc.bar (a : Acc) (ns : List Int) : Str := Str.ofString (if (a.known ns).length < ns.length then "none" else if (a.known ns).all a.thereN = true then "" else "gone")
def Acc.askOf (a : Acc) (day : Int) (n : Int) : Int × Int := match kget a.ths (.inl n) with
  | some t => (a.price t day, a.least t day)
  | none => (0, 0)
def Acc.asks (a : Acc) (day : Int) (ns : List Int) : List (Int × Int) := ns.map (a.askOf day)
def Acc.sellN (a : Acc) (day entry : Int) (p : Int × Int) : Acc := match kget a.ths (.inl p.1) with
  | some t => a.sellOne (.inl p.1) t day entry p.2
  | none => a
def Acc.sellAll (a : Acc) (day entry : Int) (l : List (Int × Int)) : Acc := l.foldl (fun b p => b.sellN day entry p) a
open Classical in
/-- how a heap is parted -/
noncomputable def partH (m : Int) (l : List (Int × Int)) : List Int := if h : ∃ vs, HeapOf m l vs then choose h else []
/-- what a thing is behind it went -/
def Th.put (t : Th) (s : Spot) (day e : Int) (o : Str) (g : Int × Int) : Th := { t with spot := s, since := day, spotE := e, was := o, old := o, got := g }
/-- a thing that went is there again -/
def Th.again (t : Th) (day entry : Int) : Th := { t with spot := .there, since := day, spotE := entry, was := t.tag.owner, got := (0, 0) }
def Acc.again (a : Acc) (k : L2.Key) (t : Th) (day entry : Int) (w : Str) : Acc := (a.credit t.was day w t.tag.number (0 - t.got.1)).set k (t.again day entry)
def Acc.on (a : Acc) (n : Int) (f : Th → Acc × Str) : Acc × Str := match kget a.ths (.inl n) with
  | none => (a, Str.ofString "none")
  | some t => f t
theorem Acc.on0 {a : Acc} {n : Int} {f : Th → Acc × Str} (e : kget a.ths (.inl n) = none) : a.on n f = (a, Str.ofString "none") := by
  unfold Acc.on
  rw [e]
theorem Acc.on1 {a : Acc} {n : Int} {f : Th → Acc × Str} {t : Th} (e : kget a.ths (.inl n) = some t) : a.on n f = f t := by
  unfold Acc.on
  rw [e]
def Acc.lostL (a : Acc) (t : Th) (day : Int) : Int := if a.owner t day = Str.ofString "" then 0 else t.tag.least
/-- one more deed but for its word -/
noncomputable def Acc.step (a : Acc) (day entry : Int) : Deed → Acc × Str
  | .give o n p l ws => match kget a.ths (.inl n) with
    | some _ => (a, Str.ofString "known")
    | none => (a.set (.inl n) ⟨⟨o, n, p, l, day⟩, ws, entry, false, .there, day, entry, o, o, (0, 0)⟩, Str.ofString "done")
  | .let_ n => match kget a.ths (.inl n) with
    | none => (a, Str.ofString "none")
    | some t => (a.set (.inl n) { t with leave := true }, Str.ofString "done")
  | .rule r => ({ a with rule := r }, Str.ofString "done")
  | .share s => ({ a with share := s }, Str.ofString "done")
  | .sell n am => match kget a.ths (.inl n) with
    | none => (a, Str.ofString "none")
    | some t => if t.spot ≠ .there then (a, Str.ofString "gone") else
      if am.getD (a.price t day) < a.least t day then (a, Str.ofString "low") else (a.sellOne (.inl n) t day entry (am.getD (a.price t day)), Str.ofString "done")
  | .heap ns am => if a.bar ns = Str.ofString "" then (if am < sumL (a.asks day ns) then (a, Str.ofString "low") else (a.sellAll day entry (ns.zip (partH am (a.asks day ns))), Str.ofString "done")) else (a, a.bar ns)
  | .back n => a.on n fun t => if t.spot = .sold then (a.again (.inl n) t day entry (Str.ofString "back"), Str.ofString "done") else (a, Str.ofString "unsold")
  | .fetch n => a.on n fun t => if t.spot = .there then (if a.owner t day = Str.ofString "" then (a, Str.ofString "late") else (a.set (.inl n) (t.put .fetched day entry (a.owner t day) (0, 0)), Str.ofString "done")) else (a, Str.ofString "gone")
  | .lose n => a.on n fun t => if t.spot = .there then ((a.set (.inl n) (t.put .lost day entry (a.owner t day) (a.lostL t day, 0 - a.lostL t day))).credit (a.owner t day) day (Str.ofString "lost") t.tag.number (a.lostL t day), Str.ofString "done") else (a, Str.ofString "gone")
  | .find n => a.on n fun t => if t.spot = .lost then (a.again (.inl n) t day entry (Str.ofString "found"), Str.ofString "done") else (a, Str.ofString "found")
  | .pay o am => if a.dueOf o < am then (a, Str.ofString "much") else (({ a with paid := a.paid + am } : Acc).credit o day (Str.ofString "paid") 0 (0 - am), Str.ofString "done")
noncomputable def Acc.go (a : Acc) (day entry : Int) (d : Deed) : Acc := { (a.step day entry d).1 with words := kput (a.step day entry d).1.words (.inl entry) (a.step day entry d).2 }
def Acc.begin (r : List (Int × Int)) (s k : Int) : Acc := ⟨r, s, k, [], [], 0, [], []⟩
section
variable {a : Acc} {day en : Int}
theorem step_give1 {o : Str} {n p l : Int} {ws : List Str} {t : Th} (e : kget a.ths (.inl n) = some t) : a.step day en (.give o n p l ws) = (a, Str.ofString "known") := by
  show (match kget a.ths (.inl n) with | some _ => _ | none => _) = _
  rw [e]
theorem step_give0 {o : Str} {n p l : Int} {ws : List Str} (e : kget a.ths (.inl n) = none) : a.step day en (.give o n p l ws) = (a.set (.inl n) ⟨⟨o, n, p, l, day⟩, ws, en, false, .there, day, en, o, o, (0, 0)⟩, Str.ofString "done") := by
  show (match kget a.ths (.inl n) with | some _ => _ | none => _) = _
  rw [e]
theorem step_let0 {n : Int} (e : kget a.ths (.inl n) = none) : a.step day en (.let_ n) = (a, Str.ofString "none") := by
  show (match kget a.ths (.inl n) with | none => _ | some _ => _) = _
  rw [e]
theorem step_let1 {n : Int} {t : Th} (e : kget a.ths (.inl n) = some t) : a.step day en (.let_ n) = (a.set (.inl n) { t with leave := true }, Str.ofString "done") := by
  show (match kget a.ths (.inl n) with | none => _ | some t => (a.set (.inl n) { t with leave := true }, _)) = _
  rw [e]
theorem step_sell0 {n : Int} {am : Option Int} (e : kget a.ths (.inl n) = none) : a.step day en (.sell n am) = (a, Str.ofString "none") := by
  show (match kget a.ths (.inl n) with | none => _ | some _ => _) = _
  rw [e]
theorem step_sell1 {n : Int} {am : Option Int} {t : Th} (e : kget a.ths (.inl n) = some t) : a.step day en (.sell n am) = if t.spot ≠ .there then (a, Str.ofString "gone") else
      if am.getD (a.price t day) < a.least t day then (a, Str.ofString "low") else (a.sellOne (.inl n) t day en (am.getD (a.price t day)), Str.ofString "done") := by
  simp only [Acc.step, e]
end
section
variable {a : Acc} {day en : Int}
end
/-- what deeds may be -/
def Deed.Ok : Deed → Prop
  | .give o n p l ws => NameS o ∧ 1 ≤ n ∧ n ≤ 9999 ∧ 1 ≤ p ∧ p ≤ 99999 ∧ 0 ≤ l ∧ l ≤ p ∧ ws.length ≤ 6 ∧ (∀ w ∈ ws, NameS w) ∧ ws.Pairwise (fun x y => x.cps.toList < y.cps.toList)
  | .let_ n => 1 ≤ n ∧ n ≤ 9999
  | .rule r => RuleW r
  | .share s => 0 ≤ s ∧ s ≤ 100
  | .sell n a => 1 ≤ n ∧ n ≤ 9999 ∧ ∀ x, a = some x → 0 ≤ x ∧ x ≤ 9999999
  | .heap ns am => 2 ≤ ns.length ∧ ns.length ≤ 12 ∧ (∀ n ∈ ns, 1 ≤ n ∧ n ≤ 9999) ∧ ns.Pairwise (· < ·) ∧ 0 ≤ am ∧ am ≤ 9999999
  | .back n => 1 ≤ n ∧ n ≤ 9999
  | .fetch n => 1 ≤ n ∧ n ≤ 9999
  | .lose n => 1 ≤ n ∧ n ≤ 9999
  | .find n => 1 ≤ n ∧ n ≤ 9999
  | .pay o am => NameS o ∧ 1 ≤ am ∧ am ≤ 9999999
/-- keys are met once -/
def KNd {α : Type} (l : List (L2.Key × α)) : Prop := (l.map (·.1)).Nodup
theorem KNd.get {α : Type} : ∀ {l : List (L2.Key × α)} {z : L2.Key × α}, KNd l → z ∈ l → kget l z.1 = some z.2
  | [], _, _, h => by cases h
  | w :: r, z, nd, h => by
    have nd' := List.nodup_cons.mp nd
    rw [kget_cons]
    rcases List.mem_cons.mp h with e | e
    · rw [if_pos (by rw [e]), e]
    · rw [if_neg (fun q => nd'.1 (by show w.1 ∈ _; rw [q]; exact List.mem_map_of_mem e))]
      exact KNd.get (l := r) nd'.2 e
theorem KNd.put {α : Type} {l : List (L2.Key × α)} {k : L2.Key} {a : α} (h : KNd l) : KNd (kput l k a) := by
  unfold KNd
  rw [keys_put]
  split
  · exact h
  · next hn =>
    have hn : kget l k = none := by cases e : kget l k with
      | none => rfl
      | some c => rw [e] at hn; exact absurd rfl hn
    refine List.nodup_append.mpr ⟨h, List.nodup_cons.mpr ⟨List.not_mem_nil, List.nodup_nil⟩, fun x hx y hy e => ?_⟩
    rcases List.mem_singleton.mp hy with rfl
    exact kget_none.mp hn (e ▸ hx)
/-- what a thing is at the end of some day -/
structure Th.Ok (t : Th) (k : L2.Key) (day : Int) : Prop where
  tag : t.tag.Ok
  day : t.tag.day ≤ day
  key : k = .inl t.tag.number
  words : t.words.length ≤ 6
  name : ∀ w ∈ t.words, NameS w
  none : t.spot = .there → t.got = (0, 0)
  old : t.spot ≠ .there → t.old = t.was
  own : t.was = t.tag.owner ∨ t.was = Str.ofString ""
/-- what an account is at the end of some day, behind so many deeds -/
structure Acc.Ok (a : Acc) (day : Int) (m : Nat) : Prop where
  s0 : 0 ≤ a.share
  s1 : a.share ≤ 100
  th : ∀ k t, kget a.ths k = some t → t.Ok k day
  nd : KNd a.ths
  wd : KNd a.words
  lt : a.ths.length ≤ m
  ld : a.due.length ≤ m
  ll : a.lines.length ≤ m
  lw : a.words.length ≤ m
  rule : RuleW a.rule
  we : ∀ z ∈ a.words, ∃ i, z.1 = .inl i
theorem Acc.Ok.up {a : Acc} {day day' : Int} {m m' : Nat} (h : a.Ok day m) (hd : day ≤ day') (hm : m ≤ m') : a.Ok day' m' := by
  obtain ⟨h1, h2, h3, h4, h5, h6, h7, h8, h9, h10, h11⟩ := h
  exact ⟨h1, h2, fun k t hk => by
    obtain ⟨q1, q2, q3, q4, q5, q6, q7, q8⟩ := h3 k t hk
    exact ⟨q1, by omega, q3, q4, q5, q6, q7, q8⟩, h4, h5, by omega, by omega, by omega, by omega, h10, h11⟩
theorem Acc.Ok.set {a : Acc} {day : Int} {m : Nat} (h : a.Ok day m) {k : L2.Key} {t : Th} (ok : t.Ok k day) : (a.set k t).Ok day (m + 1) := by
  obtain ⟨h1, h2, h3, h4, h5, h6, h7, h8, h9, h10, h11⟩ := h
  have := kput_len (l := a.ths) (k := k) (a := t)
  refine ⟨h1, h2, fun j u hj => ?_, h4.put, h5, by show (kput a.ths k t).length ≤ _; omega, by show a.due.length ≤ _; omega, by show a.lines.length ≤ _; omega, by show a.words.length ≤ _; omega, h10, h11⟩
  have hj : kget (kput a.ths k t) j = some u := hj
  rw [kget_put] at hj
  by_cases c : j = k
  · rw [if_pos c] at hj
    cases hj
    rw [c]; exact ok
  · rw [if_neg c] at hj
    exact h3 j u hj
theorem Acc.Ok.credit {a : Acc} {day : Int} {m : Nat} (h : a.Ok day m) (o : Str) (d : Int) (w : Str) (n amt : Int) : (a.credit o d w n amt).Ok day (m + 1) := by
  unfold Acc.credit
  split
  · exact h.up (Int.le_refl _) (by omega)
  · obtain ⟨h1, h2, h3, h4, h5, h6, h7, h8, h9, h10, h11⟩ := h
    have := kput_len (l := a.due) (k := .inr o) (a := a.dueOf o + amt)
    exact ⟨h1, h2, h3, h4, h5, by show a.ths.length ≤ _; omega, by show (kput a.due (.inr o) (a.dueOf o + amt)).length ≤ _; omega, by show (a.lines ++ [_]).length ≤ _; rw [List.length_append]; show a.lines.length + 1 ≤ _; omega, by show a.words.length ≤ _; omega, h10, h11⟩
theorem owner_or (a : Acc) (t : Th) (day : Int) : a.owner t day = t.tag.owner ∨ a.owner t day = Str.ofString "" := by
  unfold Acc.owner
  split
  · exact .inl rfl
  · exact .inr rfl
theorem Th.Ok.put {t : Th} {k : L2.Key} {day : Int} (q : t.Ok k day) {s : Spot} (hs : s ≠ .there) {e : Int} {o : Str} (ho : o = t.tag.owner ∨ o = Str.ofString "") {g : Int × Int} : (t.put s day e o g).Ok k day := ⟨q.tag, q.day, q.key, q.words, q.name, fun e => absurd e hs, fun _ => rfl, ho⟩
theorem Th.Ok.again {t : Th} {k : L2.Key} {day : Int} (q : t.Ok k day) {e : Int} : (t.again day e).Ok k day := ⟨q.tag, q.day, q.key, q.words, q.name, fun _ => rfl, fun h => absurd rfl h, .inl rfl⟩
theorem Acc.Ok.sellOne {a : Acc} {day : Int} {m : Nat} (h : a.Ok day m) {k : L2.Key} {t : Th} (q : t.Ok k day) (en amt : Int) : (a.sellOne k t day en amt).Ok day (m + 2) :=
  (h.set (k := k) (t := { t with spot := .sold, since := day, spotE := en, was := a.owner t day, old := a.owner t day, got := a.halves t day amt }) ⟨q.tag, q.day, q.key, q.words, q.name, (fun e => by cases e), (fun _ => rfl), owner_or a t day⟩).credit _ _ _ _ _
theorem Acc.Ok.again {a : Acc} {day : Int} {m : Nat} (h : a.Ok day m) {k : L2.Key} {t : Th} (q : t.Ok k day) (en : Int) (w : Str) : (a.again k t day en w).Ok day (m + 2) := (h.credit _ _ _ _ _).set q.again
theorem Acc.Ok.sellN {a : Acc} {day : Int} {m : Nat} (h : a.Ok day m) (en : Int) (p : Int × Int) : (a.sellN day en p).Ok day (m + 2) := by
  unfold Acc.sellN
  cases e : kget a.ths (.inl p.1) with
  | none => exact h.up (Int.le_refl _) (by omega)
  | some t => exact h.sellOne (h.th _ _ e) en p.2
theorem Acc.Ok.sellAll {day : Int} (en : Int) : ∀ {l : List (Int × Int)} {a : Acc} {m : Nat}, a.Ok day m → (a.sellAll day en l).Ok day (m + 2 * l.length)
  | [], a, m, h => h
  | p :: l, a, m, h => by
    have := Acc.Ok.sellAll en (l := l) (h.sellN en p)
    exact this.up (Int.le_refl _) (by rw [List.length_cons]; omega)
theorem Acc.Ok.step {a : Acc} {day : Int} {m : Nat} (h : a.Ok day m) {d : Deed} (hd : d.Ok) (d0 : 0 ≤ day) (d1 : day ≤ 999) (en : Int) : (a.step day en d).1.Ok day (m + 24) := by
  have same : a.Ok day (m + 24) := h.up (Int.le_refl _) (by omega)
  cases d with
  | give o n p l ws =>
    obtain ⟨q1, q2, q3, q4, q5, q6, q7, q8, q9, _⟩ := hd
    cases e : kget a.ths (.inl n) with
    | some t => rw [step_give1 e]; exact same
    | none =>
      rw [step_give0 e]
      have := h.set (k := .inl n) (t := ⟨⟨o, n, p, l, day⟩, ws, en, false, .there, day, en, o, o, (0, 0)⟩) ⟨⟨q1, q2, q3, q4, q5, q6, q7, d0, d1⟩, Int.le_refl _, rfl, q8, q9, fun _ => rfl, fun _ => rfl, .inl rfl⟩
      exact this.up (Int.le_refl _) (by omega)
  | let_ n =>
    cases e : kget a.ths (.inl n) with
    | none => rw [step_let0 e]; exact same
    | some t =>
      rw [step_let1 e]
      have q := h.th _ _ e
      have := h.set (k := .inl n) (t := { t with leave := true }) ⟨q.tag, q.day, q.key, q.words, q.name, q.none, q.old, q.own⟩
      exact this.up (Int.le_refl _) (by omega)
  | rule r =>
    obtain ⟨h1, h2, h3, h4, h5, h6, h7, h8, h9, h10, h11⟩ := same
    exact ⟨h1, h2, h3, h4, h5, h6, h7, h8, h9, hd, h11⟩
  | share s =>
    obtain ⟨h1, h2, h3, h4, h5, h6, h7, h8, h9, h10, h11⟩ := same
    exact ⟨hd.1, hd.2, h3, h4, h5, h6, h7, h8, h9, h10, h11⟩
  | sell n am =>
    cases e : kget a.ths (.inl n) with
    | none => rw [step_sell0 e]; exact same
    | some t =>
      rw [step_sell1 e]
      split
      · exact same
      · split
        · exact same
        · exact (h.sellOne (h.th _ _ e) en _).up (Int.le_refl _) (by omega)
  | heap ns am =>
    show (if a.bar ns = Str.ofString "" then _ else _ : Acc × Str).1.Ok day (m + 24)
    split
    · split
      · exact same
      · refine (h.sellAll en).up (Int.le_refl _) ?_
        have := hd.2.1
        rw [List.length_zip]
        omega
    · exact same
  | back n =>
    show (a.on n _).1.Ok day (m + 24)
    cases e : kget a.ths (.inl n) with
    | none => rw [Acc.on0 e]; exact same
    | some t =>
      rw [Acc.on1 e]
      split
      · exact (h.again (h.th _ _ e) en _).up (Int.le_refl _) (by omega)
      · exact same
  | fetch n =>
    show (a.on n _).1.Ok day (m + 24)
    cases e : kget a.ths (.inl n) with
    | none => rw [Acc.on0 e]; exact same
    | some t =>
      rw [Acc.on1 e]
      split
      · split
        · exact same
        · exact (h.set ((h.th _ _ e).put (fun e => by cases e) (owner_or a t day))).up (Int.le_refl _) (by omega)
      · exact same
  | lose n =>
    show (a.on n _).1.Ok day (m + 24)
    cases e : kget a.ths (.inl n) with
    | none => rw [Acc.on0 e]; exact same
    | some t =>
      rw [Acc.on1 e]
      split
      · exact ((h.set ((h.th _ _ e).put (fun e => by cases e) (owner_or a t day))).credit _ _ _ _ _).up (Int.le_refl _) (by omega)
      · exact same
  | find n =>
    show (a.on n _).1.Ok day (m + 24)
    cases e : kget a.ths (.inl n) with
    | none => rw [Acc.on0 e]; exact same
    | some t =>
      rw [Acc.on1 e]
      split
      · exact (h.again (h.th _ _ e) en _).up (Int.le_refl _) (by omega)
      · exact same
  | pay o am =>
    show (if a.dueOf o < am then _ else _ : Acc × Str).1.Ok day (m + 24)
    split
    · exact same
    · have h' : ({ a with paid := a.paid + am } : Acc).Ok day m := by
        obtain ⟨h1, h2, h3, h4, h5, h6, h7, h8, h9, h10, h11⟩ := h
        exact ⟨h1, h2, h3, h4, h5, h6, h7, h8, h9, h10, h11⟩
      exact (h'.credit _ _ _ _ _).up (Int.le_refl _) (by omega)
theorem Acc.Ok.go {a : Acc} {day : Int} {m : Nat} (h : a.Ok day m) {d : Deed} (hd : d.Ok) (d0 : 0 ≤ day) (d1 : day ≤ 999) (en : Int) : (a.go day en d).Ok day (m + 25) := by
  obtain ⟨h1, h2, h3, h4, h5, h6, h7, h8, h9, h10, h11⟩ := h.step hd d0 d1 en
  have := kput_len (l := (a.step day en d).1.words) (k := .inl en) (a := (a.step day en d).2)
  exact ⟨h1, h2, h3, h4, h5.put, by show (a.step day en d).1.ths.length ≤ _; omega, by show (a.step day en d).1.due.length ≤ _; omega, by show (a.step day en d).1.lines.length ≤ _; omega, by show (kput _ _ _).length ≤ _; omega, h10, fun z hz => by
    have hz : z.1 ∈ (kput (a.step day en d).1.words (.inl en) (a.step day en d).2).map (·.1) := List.mem_map_of_mem hz
    rw [keys_put] at hz
    split at hz
    · obtain ⟨u, hu, e⟩ := List.mem_map.mp hz
      rw [← e]; exact h11 u hu
    · rcases List.mem_append.mp hz with hz | hz
      · obtain ⟨u, hu, e⟩ := List.mem_map.mp hz
        rw [← e]; exact h11 u hu
      · exact ⟨en, List.mem_singleton.mp hz⟩⟩
theorem Acc.Ok.begin {r : List (Int × Int)} {s k : Int} (hr : RuleW r) (s0 : 0 ≤ s) (s1 : s ≤ 100) : (Acc.begin r s k).Ok 0 0 := ⟨s0, s1, (fun k t h => by cases h), List.nodup_nil, List.nodup_nil, Nat.le_refl _, Nat.le_refl _, Nat.le_refl _, Nat.le_refl _, hr, (fun z h => by cases h)⟩
/-! rows gone through: plain -/
abbrev DRow := Int × Int × Deed
def keyR (r : DRow) : Int × Int := (r.1, r.2.1)
abbrev leR : DRow → DRow → Bool := le2 keyR
noncomputable def Acc.upto (c : DRow → Bool) (b : Acc) (l : List DRow) : Acc := l.foldl (fun a r => if c r = true then a.go r.1 r.2.1 r.2.2 else a) b
/-- the account of rows to the end of a day -/
noncomputable def Acc.gone (b : Acc) (rs : List DRow) (day : Int) : Acc := Acc.upto (fun r => decide (r.1 ≤ day)) b (rs.mergeSort leR)
structure DRow.Ok (r : DRow) : Prop where
  d0 : 0 ≤ r.1
  d9 : r.1 ≤ 999
  e : 1 ≤ r.2.1
  deed : r.2.2.Ok
theorem le2_total {β : Type} (k : β → Int × Int) (p q : β) : (le2 k p q || le2 k q p) = true := by
  unfold le2
  rw [Bool.or_eq_true, decide_eq_true_eq, decide_eq_true_eq]
  omega
theorem le2_trans {β : Type} (k : β → Int × Int) (p q r : β) (h1 : le2 k p q = true) (h2 : le2 k q r = true) : le2 k p r = true := by
  unfold le2 at *
  rw [decide_eq_true_eq] at *
  omega
theorem sorted_days (rs : List DRow) : (rs.mergeSort leR).Pairwise fun r s => r.1 ≤ s.1 := (List.pairwise_mergeSort (le := leR) (fun a b c h1 h2 => le2_trans keyR a b c h1 h2) (fun a b => le2_total keyR a b) rs).imp fun {a b} h => by
  have h : le2 keyR a b = true := h
  unfold le2 keyR at h
  rw [decide_eq_true_eq] at h
  omega
theorem upto_ok {c : DRow → Bool} : ∀ {l : List DRow} {b : Acc} {d : Int} {m : Nat}, b.Ok d m → l.Pairwise (fun r s => r.1 ≤ s.1) → (∀ r ∈ l, d ≤ r.1 ∧ r.Ok) → ∀ D, d ≤ D → (∀ r ∈ l, c r = true → r.1 ≤ D) → (Acc.upto c b l).Ok D (m + 25 * l.length)
  | [], b, d, m, h, _, _, D, hD, _ => h.up hD (by simp)
  | r :: l, b, d, m, h, pw, hr, D, hD, hc => by
    have pw' := List.pairwise_cons.mp pw
    have q := hr r List.mem_cons_self
    have hl : ∀ s ∈ l, r.1 ≤ s.1 ∧ s.Ok := fun s hs => ⟨pw'.1 s hs, (hr s (List.mem_cons_of_mem _ hs)).2⟩
    have hl' : ∀ s ∈ l, d ≤ s.1 ∧ s.Ok := fun s hs => hr s (List.mem_cons_of_mem _ hs)
    show (Acc.upto c (if c r = true then b.go r.1 r.2.1 r.2.2 else b) l).Ok D _
    by_cases e : c r = true
    · rw [if_pos e]
      have h1 := (h.up q.1 (Nat.le_refl m)).go q.2.deed q.2.d0 q.2.d9 r.2.1
      have := upto_ok (c := c) h1 pw'.2 hl D (hc r List.mem_cons_self e) fun s hs => hc s (List.mem_cons_of_mem _ hs)
      exact this.up (Int.le_refl _) (by rw [List.length_cons]; omega)
    · rw [if_neg e]
      have := upto_ok (c := c) h pw'.2 hl' D hD fun s hs => hc s (List.mem_cons_of_mem _ hs)
      exact this.up (Int.le_refl _) (by rw [List.length_cons]; omega)
theorem gone_ok {b : Acc} {rs : List DRow} (h : b.Ok 0 0) (hr : ∀ r ∈ rs, r.Ok) {day : Int} (d0 : 0 ≤ day) : (b.gone rs day).Ok day (25 * rs.length) := by
  have hr' : ∀ r ∈ rs.mergeSort leR, (0 : Int) ≤ r.1 ∧ r.Ok := fun r h => by
    have := hr r (List.mem_mergeSort.mp h)
    exact ⟨this.d0, this⟩
  have := upto_ok (c := fun r => decide (r.1 ≤ day)) h (sorted_days rs) hr' day d0 fun r _ h => of_decide_eq_true h
  rw [List.length_mergeSort, Nat.zero_add] at this
  exact this
/-! the numbers of an account, rising: plain -/
/-- of a thing of the account -/
def Acc.q (a : Acc) (f : Th → Bool) (n : Int) : Bool := match kget a.ths (.inl n) with
  | some t => f t
  | none => false
def Acc.one (a : Acc) : Int := (a.ths.map fun z => z.2.got.1).sum
def Acc.other (a : Acc) : Int := (a.ths.map fun z => z.2.got.2).sum
/-! ### data that can be compared -/
structure Lay (d : PyData) (k n : Nat) : Prop where
  can : PyData.canLay0 d = true
  dep : d.depth ≤ k
  nod : nodes d ≤ n
structure LayA (ds : List PyData) (k n : Nat) : Prop where
  can : PyData.canLayAll0 ds = true
  dep : PyData.depthAll ds ≤ k
  nod : nodesAll ds ≤ n
theorem Lay.int (i : Int) : Lay (.int i) 0 1 := ⟨rfl, Nat.le_refl _, Nat.le_refl _⟩
theorem Lay.bool (i : Bool) : Lay (.bool i) 0 1 := ⟨rfl, Nat.le_refl _, Nat.le_refl _⟩
theorem Lay.str {x : Str} (h : (PyData.str x).canLay0 = true) : Lay (.str x) 0 1 := ⟨h, Nat.le_refl _, Nat.le_refl _⟩
theorem Lay.none : Lay .none 0 1 := ⟨rfl, Nat.le_refl _, Nat.le_refl _⟩
theorem Lay.list {ds : List PyData} {k n : Nat} (h : LayA ds k n) : Lay (.list ds) (k + 1) (n + 1) := ⟨h.can, Nat.succ_le_succ h.dep, by show nodesAll ds + 1 ≤ _; exact Nat.succ_le_succ h.nod⟩
theorem Lay.tup {ds : List PyData} {k n : Nat} (h : LayA ds k n) : Lay (.tuple ds) (k + 1) (n + 1) := ⟨h.can, Nat.succ_le_succ h.dep, by show nodesAll ds + 1 ≤ _; exact Nat.succ_le_succ h.nod⟩
theorem LayA.nil : LayA [] 0 0 := ⟨rfl, Nat.le_refl _, Nat.le_refl _⟩
theorem LayA.cons {d : PyData} {ds : List PyData} {k n k' n' : Nat} (h : Lay d k n) (h' : LayA ds k' n') : LayA (d :: ds) (max k k') (n + n') := by
  refine ⟨?_, ?_, ?_⟩
  · show (PyData.canLay0 d && PyData.canLayAll0 ds) = true
    rw [h.can, h'.can]; rfl
  · show max d.depth (PyData.depthAll ds) ≤ _
    have := h.dep
    have := h'.dep
    omega
  · show nodes d + nodesAll ds ≤ _
    have := h.nod
    have := h'.nod
    omega
theorem LayA.all {k n : Nat} : ∀ {ds : List PyData}, (∀ d ∈ ds, Lay d k n) → LayA ds k (ds.length * n)
  | [], _ => ⟨rfl, Nat.zero_le _, Nat.zero_le _⟩
  | d :: r, h => by
    have h1 := LayA.cons (h d List.mem_cons_self) (LayA.all (ds := r) fun x hx => h x (List.mem_cons_of_mem _ hx))
    rw [Nat.max_self] at h1
    exact ⟨h1.can, h1.dep, by have := h1.nod; rw [List.length_cons, Nat.add_mul]; omega⟩
theorem Lay.mono {d : PyData} {k n k' n' : Nat} (h : Lay d k n) (hk : k ≤ k') (hn : n ≤ n') : Lay d k' n' := ⟨h.can, Nat.le_trans h.dep hk, Nat.le_trans h.nod hn⟩
theorem Lay.shaped {d : PyData} {k n : Nat} (h : Lay d k n) (hk : k < 8) : SeqAt.shaped d = true := by
  unfold SeqAt.shaped
  rw [h.can, decide_eq_true (by have := h.dep; omega)]
  rfl
theorem same_lay {d : PyData} {k n : Nat} (h : Lay d k n) (hk : k < 8) (hn : n ≤ 1000000) {Q : List Sl → Prop} (q : ∀ sl, Q sl) : SeqAt.shaped d = true ∧ d.depth < 8 ∧ nodes d ≤ 1000000 ∧ ∀ sl, Q sl :=
  ⟨h.shaped hk, Nat.lt_of_le_of_lt h.dep hk, Nat.le_trans h.nod hn, q⟩
theorem LayA.map {α : Type} {f : α → PyData} {k n : Nat} {l : List α} (h : ∀ x ∈ l, Lay (f x) k n) : LayA (l.map f) k (l.length * n) := by
  have := LayA.all (ds := l.map f) (k := k) (n := n) fun d hd => by
    obtain ⟨x, hx, rfl⟩ := List.mem_map.mp hd
    exact h x hx
  rw [List.length_map] at this
  exact this
theorem LayA.ints (ns : List Int) : LayA (ns.map .int) 0 ns.length := by
  have := LayA.map (f := PyData.int) (l := ns) fun i _ => Lay.int i
  rw [Nat.mul_one] at this
  exact this
theorem name_can {s : Str} (h : NameS s) : (PyData.str s).canLay0 = true := by
  show s.cps.all (· < 0x110000) = true
  refine Array.all_eq_true_iff_forall_mem.mpr fun c hc => ?_
  have := h.small c (Array.mem_toList_iff.mpr hc)
  exact decide_eq_true (by omega)
theorem Lay.name {s : Str} (h : NameS s) : Lay (.str s) 0 1 := .str (name_can h)
/-! things and ledgers as data -/
def wordsD (ws : List Str) : PyData := .tuple (ws.map .str)
def thN : List Str := ["own_tag", "own_words", "gave_entry", "leave_given", "spot", "spot_day", "spot_entry", "owner_then", "halves"].map Str.ofString
def thV (t : Th) : List PyData := [tagD t.tag, wordsD t.words, .int t.entry, .bool t.leave, .str t.spot.tx, .int t.since, .int t.spotE, .str t.was, pairD t.got]
def lgN : List Str := ["rule_now", "share_now", "keep_days", "things_known", "dues_by", "paid_sum", "lines", "words_by"].map Str.ofString
def lgV (a : Acc) (x y z u : PyData) : List PyData := [.tuple (a.rule.map pairD), .int a.share, .int a.keep, x, y, .int a.paid, z, u]
/-- the ledger in its store -/
structure LedB (S : Sto) (L d1 d2 l1 d3 : Addr) (ad : L2.Key → Addr) (a : Acc) : Prop where
  ob : S L = some (.obj (Str.ofString "Ledger") (mkF lgN (lgV a (hdl d1) (hdl d2) (hdl l1) (hdl d3))))
  ths : S d1 = some (.dct (hdK ad a.ths))
  th : ∀ k t, kget a.ths k = some t → S (ad k) = some (.obj (Str.ofString "Thing") (mkF thN (thV t)))
  du : S d2 = some (.dct (kmap .int a.due))
  li : S l1 = some (.lst a.lines)
  wo : S d3 = some (.dct (kmap .str a.words))
  inj : ∀ k j t u, kget a.ths k = some t → kget a.ths j = some u → ad k = ad j → k = j
  n12 : d1 ≠ d2
  n13 : d1 ≠ d3
  n23 : d2 ≠ d3
theorem ResKs.refl {S : Sto} : ∀ kd : Kvs, ResKs S kd kd
  | [] => .nil
  | _ :: r => .cons (.refl _) (ResKs.refl r)
theorem ResFs.refl {S : Sto} : ∀ {ns : List Str} {vs : List PyData}, ResFs S (mkF ns vs) (mkF ns vs)
  | [], _ => .nil
  | _ :: _, [] => .nil
  | _ :: ns, _ :: vs => .cons (.refl _) (ResFs.refl (ns := ns) (vs := vs))
theorem ResFs.mk {S : Sto} : ∀ {ns : List Str} {vs us : List PyData}, ResAll S vs us → ResFs S (mkF ns vs) (mkF ns us)
  | [], _, _, _ => .nil
  | _ :: _, _, _, .nil => .nil
  | _ :: _, _, _, .cons a r => .cons a (ResFs.mk r)
section
variable {S : Sto} {L d1 d2 l1 d3 : Addr} {ad : L2.Key → Addr} {a : Acc}
end
/-! the law's own account as data, and in its store -/
def ltN : List Str := ["owner", "price", "least", "day", "words", "let", "at", "since", "was", "got"].map Str.ofString
def ltV (t : Th) : List PyData := [.str t.tag.owner, .int t.tag.price, .int t.tag.least, .int t.tag.day, wordsD t.words, .bool t.leave, .str t.spot.tx, .int t.since, .str t.old, pairD t.got]
def stN : List Str := ["rule", "share", "keep", "things", "due", "paid", "lines", "words"].map Str.ofString
def stV (a : Acc) (x y z u : PyData) : List PyData := [.tuple (a.rule.map pairD), .int a.share, .int a.keep, x, y, .int a.paid, z, u]
structure LawB (S : Sto) (w d1 d2 l1 d3 : Addr) (ad : L2.Key → Addr) (a : Acc) : Prop where
  ob : S w = some (.dct (mkK stN (stV a (hdl d1) (hdl d2) (hdl l1) (hdl d3))))
  ths : S d1 = some (.dct (hdK ad a.ths))
  th : ∀ k t, kget a.ths k = some t → S (ad k) = some (.dct (mkK ltN (ltV t)))
  du : S d2 = some (.dct (kmap .int a.due))
  li : S l1 = some (.lst a.lines)
  wo : S d3 = some (.dct (kmap .str a.words))
  inj : ∀ k j t u, kget a.ths k = some t → kget a.ths j = some u → ad k = ad j → k = j
  nd : [w, d1, d2, d3].Nodup
  sep : ∀ k t, kget a.ths k = some t → ad k ∉ [w, d1, d2, d3]
section
variable {S : Sto} {w d1 d2 l1 d3 : Addr} {ad : L2.Key → Addr} {a : Acc}
theorem LawB.n12 (h : LawB S w d1 d2 l1 d3 ad a) : d1 ≠ d2 := fun e => (List.nodup_cons.mp (List.nodup_cons.mp h.nd).2).1 (by simp [e])
theorem LawB.n13 (h : LawB S w d1 d2 l1 d3 ad a) : d1 ≠ d3 := fun e => (List.nodup_cons.mp (List.nodup_cons.mp h.nd).2).1 (by simp [e])
theorem LawB.n23 (h : LawB S w d1 d2 l1 d3 ad a) : d2 ≠ d3 := fun e => (List.nodup_cons.mp (List.nodup_cons.mp (List.nodup_cons.mp h.nd).2).2).1 (by simp [e])
theorem LawB.t1 (h : LawB S w d1 d2 l1 d3 ad a) {k : L2.Key} {t : Th} (hk : kget a.ths k = some t) : ad k ≠ d1 := fun e => h.sep k t hk (by simp [e])
theorem LawB.t2 (h : LawB S w d1 d2 l1 d3 ad a) {k : L2.Key} {t : Th} (hk : kget a.ths k = some t) : ad k ≠ d2 := fun e => h.sep k t hk (by simp [e])
theorem LawB.t3 (h : LawB S w d1 d2 l1 d3 ad a) {k : L2.Key} {t : Th} (hk : kget a.ths k = some t) : ad k ≠ d3 := fun e => h.sep k t hk (by simp [e])
end
/-! books as data -/
structure Bk where
  rule : List (Int × Int)
  share : Int
  keep : Int
  told : List (Int × Deed)
  unt : List Int
  steps : List PyData
def Bk.begin (b : Bk) : Acc := Acc.begin b.rule b.share b.keep
/-- all rows told -/
def allRows (told : List (Int × Deed)) : List DRow := told.zipIdx.map fun z => (z.1.1, (z.2 : Int) + 1, z.1.2)
def Bk.rows (b : Bk) : List DRow := (allRows b.told).filter fun r => !decide (r.2.1 ∈ b.unt)
/-- the account at the end of a day -/
noncomputable def Bk.on (b : Bk) (day : Int) : Acc := b.begin.gone b.rows day
structure Bk.Ok (b : Bk) : Prop where
  rule : RuleW b.rule
  s0 : 0 ≤ b.share
  s1 : b.share ≤ 100
  k0 : 1 ≤ b.keep
  k1 : b.keep ≤ 999
  few : b.told.length ≤ 1200
  ufew : b.unt.length ≤ 10000
  told : ∀ t ∈ b.told, 0 ≤ t.1 ∧ t.1 ≤ 999 ∧ t.2.Ok
theorem Bk.Ok.rows {b : Bk} (ok : b.Ok) : ∀ r ∈ b.rows, r.Ok := by
  intro r hr
  have hr := (List.mem_filter.mp hr).1
  unfold allRows at hr
  obtain ⟨z, hz, rfl⟩ := List.mem_map.mp hr
  have h := ok.told z.1 (List.fst_mem_of_mem_zipIdx hz)
  exact ⟨h.1, h.2.1, by show (1 : Int) ≤ (z.2 : Int) + 1; omega, h.2.2⟩
theorem Bk.rows_len (b : Bk) : b.rows.length ≤ b.told.length := by
  have := List.length_filter_le (fun r : DRow => !decide (r.2.1 ∈ b.unt)) (allRows b.told)
  have e : (allRows b.told).length = b.told.length := by unfold allRows; rw [List.length_map, List.length_zipIdx]
  unfold Bk.rows
  omega
theorem Bk.Ok.on {b : Bk} (ok : b.Ok) {day : Int} (d0 : 0 ≤ day) : (b.on day).Ok day 30000 := by
  have := gone_ok (Acc.Ok.begin (k := b.keep) ok.rule ok.s0 ok.s1) ok.rows d0
  have l := b.rows_len
  have f := ok.few
  exact this.up (Int.le_refl _) (by omega)
/-! ### any things: plain data within bounds -/
theorem int_len {i : Int} (h : i.natAbs ≤ 1000000000) : (Str.ofString (toString i)).length ≤ 11 := by
  by_cases h0 : 0 ≤ i
  · exact Nat.le_trans (PyProof.Rows.toString_length_le h0 (k := 10) (by decide) (by omega)) (by decide)
  · rw [PyProof.Rows.len_text_neg (by omega)]
    have := PyProof.Rows.toString_length_le (v := 0 - i) (by omega) (k := 10) (by decide) (by omega)
    omega
mutual
def okD (B : Nat) : PyData → Bool
  | .none => true
  | .bool _ => true
  | .int i => decide (i.natAbs ≤ B)
  | .str z => decide (z.length ≤ 25) && z.cps.all (· < 0x110000)
  | .list xs => okAll B xs
  | .tuple xs => okAll B xs
  | .dict _ => false
def okAll (B : Nat) : List PyData → Bool
  | [] => true
  | x :: r => okD B x && okAll B r
end
theorem okI {B : Nat} {i : Int} (h : i.natAbs ≤ B) : okD B (.int i) = true := by
  unfold okD
  exact decide_eq_true h
theorem okAll_iff {B : Nat} {ds : List PyData} : okAll B ds = true ↔ ∀ d ∈ ds, okD B d = true := by
  induction ds with
  | nil => simp [okAll]
  | cons x r ih => simp [okAll, ih]
mutual
theorem okD.mono {B C : Nat} (h : B ≤ C) : ∀ {d : PyData}, okD B d = true → okD C d = true
  | .none, _ => rfl
  | .bool _, _ => rfl
  | .int i, q => decide_eq_true (Nat.le_trans (of_decide_eq_true q) h)
  | .str z, q => q
  | .list xs, q => okAll.mono h (ds := xs) q
  | .tuple xs, q => okAll.mono h (ds := xs) q
  | .dict _, q => by cases q
theorem okAll.mono {B C : Nat} (h : B ≤ C) : ∀ {ds : List PyData}, okAll B ds = true → okAll C ds = true
  | [], _ => rfl
  | x :: r, q => by
    have q' : (okD B x && okAll B r) = true := q
    rw [Bool.and_eq_true] at q'
    show (okD C x && okAll C r) = true
    rw [okD.mono h q'.1, okAll.mono h q'.2]
    rfl
end
mutual
theorem okD.facts {B : Nat} (hB : B ≤ 1000000000) : ∀ {d : PyData}, okD B d = true → d.canLay0 = true ∧ d.showable = true ∧ d.hasDict = false ∧ szD d + 3 ≤ 300 * nodes d
  | .none, _ => ⟨rfl, rfl, rfl, by show 4 + 3 ≤ 300 * 1; decide⟩
  | .bool _, _ => ⟨rfl, rfl, rfl, by show 5 + 3 ≤ 300 * 1; decide⟩
  | .int i, q => by
    have hi : i.natAbs ≤ B := of_decide_eq_true q
    refine ⟨rfl, decide_eq_true (log2_ok18 (by omega)), rfl, ?_⟩
    show (Str.ofString (toString i)).length + 3 ≤ 300 * 1
    have := int_len (i := i) (by omega)
    omega
  | .str z, q => by
    have q' : (decide (z.length ≤ 25) && z.cps.all (· < 0x110000)) = true := q
    rw [Bool.and_eq_true, decide_eq_true_eq] at q'
    exact ⟨q'.2, rfl, rfl, by show 10 * z.length + 2 + 3 ≤ 300 * 1; omega⟩
  | .list xs, q => by
    obtain ⟨h1, h2, h3, h4⟩ := okAll.facts hB (ds := xs) q
    exact ⟨h1, h2, h3, by show szAll xs + 2 + 3 ≤ 300 * (nodesAll xs + 1); omega⟩
  | .tuple xs, q => by
    obtain ⟨h1, h2, h3, h4⟩ := okAll.facts hB (ds := xs) q
    exact ⟨h1, h2, h3, by show szAll xs + 3 + 3 ≤ 300 * (nodesAll xs + 1); omega⟩
  | .dict _, q => by cases q
theorem okAll.facts {B : Nat} (hB : B ≤ 1000000000) : ∀ {ds : List PyData}, okAll B ds = true → PyData.canLayAll0 ds = true ∧ PyData.showableAll ds = true ∧ PyData.hasDictAll ds = false ∧ szAll ds ≤ 300 * nodesAll ds
  | [], _ => ⟨rfl, rfl, rfl, Nat.zero_le _⟩
  | x :: r, q => by
    have q' : (okD B x && okAll B r) = true := q
    rw [Bool.and_eq_true] at q'
    obtain ⟨a1, a2, a3, a4⟩ := okD.facts hB q'.1
    obtain ⟨b1, b2, b3, b4⟩ := okAll.facts hB q'.2
    have np := nodes_pos x
    refine ⟨?_, ?_, ?_, ?_⟩
    · show (x.canLay0 && PyData.canLayAll0 r) = true
      rw [a1, b1]; rfl
    · show (x.showable && PyData.showableAll r) = true
      rw [a2, b2]; rfl
    · show (x.hasDict || PyData.hasDictAll r) = false
      rw [a3, b3]; rfl
    · show szD x + 2 + szAll r ≤ 300 * (nodes x + nodesAll r)
      omega
end
theorem okAll_app {B : Nat} {xs ys : List PyData} : okAll B (xs ++ ys) = (okAll B xs && okAll B ys) := by
  induction xs with
  | nil => rfl
  | cons x r ih =>
    show (okD B x && okAll B (r ++ ys)) = ((okD B x && okAll B r) && okAll B ys)
    rw [ih, Bool.and_assoc]
theorem nodesAll_app {xs ys : List PyData} : nodesAll (xs ++ ys) = nodesAll xs + nodesAll ys := by
  induction xs with
  | nil => show nodesAll ys = 0 + nodesAll ys; omega
  | cons x r ih =>
    show nodes x + nodesAll (r ++ ys) = nodes x + nodesAll r + nodesAll ys
    rw [ih]; omega
theorem depthAll_app {xs ys : List PyData} : PyData.depthAll (xs ++ ys) = max (PyData.depthAll xs) (PyData.depthAll ys) := by
  induction xs with
  | nil => show PyData.depthAll ys = max 0 (PyData.depthAll ys); omega
  | cons x r ih =>
    show max x.depth (PyData.depthAll (r ++ ys)) = max (max x.depth (PyData.depthAll r)) (PyData.depthAll ys)
    rw [ih]; omega
/-- a list of things within bounds: numbers, depth, how many -/
structure Thy (B D N : Nat) (ds : List PyData) : Prop where
  ok : okAll B ds = true
  dp : PyData.depthAll ds ≤ D
  nd : nodesAll ds ≤ N
theorem Thy.app {B D N M : Nat} {xs ys : List PyData} (a : Thy B D N xs) (b : Thy B D M ys) : Thy B D (N + M) (xs ++ ys) :=
  ⟨by rw [okAll_app, a.ok, b.ok]; rfl, by rw [depthAll_app]; have := a.dp; have := b.dp; omega, by rw [nodesAll_app]; have := a.nd; have := b.nd; omega⟩
theorem Thy.mono {B D N B' D' N' : Nat} {xs : List PyData} (a : Thy B D N xs) (h1 : B ≤ B') (h2 : D ≤ D') (h3 : N ≤ N') : Thy B' D' N' xs := ⟨okAll.mono h1 a.ok, Nat.le_trans a.dp h2, Nat.le_trans a.nd h3⟩
theorem Thy.left {B D N : Nat} {xs ys : List PyData} (a : Thy B D N (xs ++ ys)) : Thy B D N xs := by
  obtain ⟨h1, h2, h3⟩ := a
  rw [okAll_app, Bool.and_eq_true] at h1
  rw [depthAll_app] at h2
  rw [nodesAll_app] at h3
  exact ⟨h1.1, by omega, by omega⟩
theorem Thy.right {B D N : Nat} {xs ys : List PyData} (a : Thy B D N (xs ++ ys)) : Thy B D N ys := by
  obtain ⟨h1, h2, h3⟩ := a
  rw [okAll_app, Bool.and_eq_true] at h1
  rw [depthAll_app] at h2
  rw [nodesAll_app] at h3
  exact ⟨h1.2, by omega, by omega⟩
theorem Thy.take {B D N : Nat} {xs : List PyData} (a : Thy B D N xs) (k : Nat) : Thy B D N (xs.take k) := by
  rw [← List.take_append_drop k xs] at a
  exact a.left
theorem Thy.drop {B D N : Nat} {xs : List PyData} (a : Thy B D N xs) (k : Nat) : Thy B D N (xs.drop k) := by
  rw [← List.take_append_drop k xs] at a
  exact a.right
theorem Thy.cut {B D N : Nat} {xs : List PyData} (a : Thy B D N xs) (lo hi : Option Int) : Thy B D N (DL.cutD xs lo hi) := (a.drop _).take _
theorem Thy.one {B D N : Nat} {d : PyData} (h1 : okD B d = true) (h2 : d.depth ≤ D) (h3 : nodes d ≤ N) : Thy B D N [d] :=
  ⟨by show (okD B d && true) = true; rw [h1]; rfl, by show max d.depth 0 ≤ D; omega, by show nodes d + 0 ≤ N; omega⟩
theorem Thy.get {B D N : Nat} {xs : List PyData} (a : Thy B D N xs) {d : PyData} (h : d ∈ xs) : okD B d = true ∧ d.depth ≤ D ∧ nodes d ≤ N := by
  obtain ⟨l, r, rfl⟩ := List.append_of_mem h
  have b := a.right
  have c : Thy B D N [d] := Thy.left (ys := r) b
  obtain ⟨c1, c2, c3⟩ := c
  have c1' : (okD B d && true) = true := c1
  rw [Bool.and_true] at c1'
  exact ⟨c1', by have : max d.depth 0 ≤ D := c2; omega, by have : nodes d + 0 ≤ N := c3; omega⟩
/-! ### any things, great numbers -/
theorem int_lenB {i : Int} (h : i.natAbs ≤ 1000000000000000000000000000000) : (Str.ofString (toString i)).length ≤ 32 := by
  by_cases h0 : 0 ≤ i
  · exact Nat.le_trans (PyProof.Rows.toString_length_le h0 (k := 31) (by decide) (by omega)) (by decide)
  · rw [PyProof.Rows.len_text_neg (by omega)]
    have := PyProof.Rows.toString_length_le (v := 0 - i) (by omega) (k := 31) (by decide) (by omega)
    omega
mutual
theorem okD.factsB {B : Nat} (hB : B ≤ 1000000000000000000000000000000) : ∀ {d : PyData}, okD B d = true → d.canLay0 = true ∧ d.showable = true ∧ d.hasDict = false ∧ szD d + 3 ≤ 300 * nodes d
  | .none, _ => ⟨rfl, rfl, rfl, by show 4 + 3 ≤ 300 * 1; decide⟩
  | .bool _, _ => ⟨rfl, rfl, rfl, by show 5 + 3 ≤ 300 * 1; decide⟩
  | .int i, q => by
    have hi : i.natAbs ≤ B := of_decide_eq_true q
    refine ⟨rfl, decide_eq_true (log2_ok (Nat.lt_of_le_of_lt (Nat.le_trans hi hB) (by decide))), rfl, ?_⟩
    show (Str.ofString (toString i)).length + 3 ≤ 300 * 1
    have := int_lenB (i := i) (by omega)
    omega
  | .str z, q => by
    have q' : (decide (z.length ≤ 25) && z.cps.all (· < 0x110000)) = true := q
    rw [Bool.and_eq_true, decide_eq_true_eq] at q'
    exact ⟨q'.2, rfl, rfl, by show 10 * z.length + 2 + 3 ≤ 300 * 1; omega⟩
  | .list xs, q => by
    obtain ⟨h1, h2, h3, h4⟩ := okAll.factsB hB (ds := xs) q
    exact ⟨h1, h2, h3, by show szAll xs + 2 + 3 ≤ 300 * (nodesAll xs + 1); omega⟩
  | .tuple xs, q => by
    obtain ⟨h1, h2, h3, h4⟩ := okAll.factsB hB (ds := xs) q
    exact ⟨h1, h2, h3, by show szAll xs + 3 + 3 ≤ 300 * (nodesAll xs + 1); omega⟩
  | .dict _, q => by cases q
theorem okAll.factsB {B : Nat} (hB : B ≤ 1000000000000000000000000000000) : ∀ {ds : List PyData}, okAll B ds = true → PyData.canLayAll0 ds = true ∧ PyData.showableAll ds = true ∧ PyData.hasDictAll ds = false ∧ szAll ds ≤ 300 * nodesAll ds
  | [], _ => ⟨rfl, rfl, rfl, Nat.zero_le _⟩
  | x :: r, q => by
    have q' : (okD B x && okAll B r) = true := q
    rw [Bool.and_eq_true] at q'
    obtain ⟨a1, a2, a3, a4⟩ := okD.factsB hB q'.1
    obtain ⟨b1, b2, b3, b4⟩ := okAll.factsB hB q'.2
    have np := nodes_pos x
    refine ⟨?_, ?_, ?_, ?_⟩
    · show (x.canLay0 && PyData.canLayAll0 r) = true
      rw [a1, b1]; rfl
    · show (x.showable && PyData.showableAll r) = true
      rw [a2, b2]; rfl
    · show (x.hasDict || PyData.hasDictAll r) = false
      rw [a3, b3]; rfl
    · show szD x + 2 + szAll r ≤ 300 * (nodes x + nodesAll r)
      omega
end
/-! ### whether any thing is a deed: plain -/
def wholeD (d : PyData) (lo hi : Int) : Bool := match d with
  | .int i => decide (lo ≤ i) && decide (i ≤ hi)
  | _ => false
def nameD : PyData → Bool
  | .str z => decide (1 ≤ z.length) && (decide (z.length ≤ 8) && (tl z).all fun c => decide (97 ≤ c ∧ c ≤ 122))
  | _ => false
theorem whole_yes {i lo hi : Int} (h1 : lo ≤ i) (h2 : i ≤ hi) : wholeD (.int i) lo hi = true := by
  show (decide (lo ≤ i) && decide (i ≤ hi)) = true
  rw [decide_eq_true h1, decide_eq_true h2]; rfl
theorem name_yes {s : Str} (h : NameS s) : nameD (.str s) = true := by
  have ln : s.length = (tl s).length := Array.length_toList.symm
  show (decide (1 ≤ s.length) && (decide (s.length ≤ 8) && (tl s).all fun c => decide (97 ≤ c ∧ c ≤ 122))) = true
  rw [decide_eq_true (by have := h.least; omega), decide_eq_true (by have := h.most; omega), List.all_eq_true.mpr fun c hc => decide_eq_true (h.small c hc)]
  rfl
/-! functions over data -/
def F__law_folded_1 : FS := (fFreeze 2 (fRet (fV 2)))
def F__law_folded_2 : FS := (fAsg (fOp oAdd (fIxO 2 (fOp oMod (fV 3) (fV 1))) (fOp oMul (fV 4) (fOp oAdd (fV 3) (fC (.int 2))))) (gSubO 2 (fOp oMod (fV 3) (fV 1))))
def F__law_folded : FN := fnF 2 5 (fSeq (fOwn 2 (fCBN nList (fCons (fSl sL (fV 0) pNo (pSo (fV 1))) fNil)))
    (fSeq (fFor [3, 4] (iE (fCons (fSl sL (fV 0) (pSo (fV 1)) (pSo (fC (.int 63)))) fNil)) (gT 2 (gsCons (gN 3) (gsCons (gN 4) gsNil))) F__law_folded_2)
    F__law_folded_1))
def F__law_price : FN := fnF 1 1 (fRet (fOp oIxL (fNew (fLst (fCons (fOp oAdd (fC (.int 1)) (fCall 2 F__law_take [] (cOwn 0 (cDat (fC (.int 9)) cNil)))) (fCons (fOp oAdd (fC (.int 1)) (fCall 2 F__law_take [] (cOwn 0 (cDat (fC (.int 400)) cNil)))) (fCons (fOp oMul (fC (.int 100)) (fOp oAdd (fC (.int 1)) (fCall 2 F__law_take [] (cOwn 0 (cDat (fC (.int 40)) cNil))))) (fCons (fOp oAdd (fC (.int 1)) (fCall 2 F__law_take [] (cOwn 0 (cDat (fC (.int 99999)) cNil)))) fNil)))))) (fCall 2 F__law_take [] (cOwn 0 (cDat (fC (.int 4)) cNil)))))
def F__law_five : FN := fnF 2 6 (fSeq (fAsg (fOp oIxL (fNew (fLst (fCons (fOp oAdd (fC (.int 1)) (fCall 2 F__law_take [] (cOwn 0 (cDat (fC (.int 40)) cNil)))) (fCons (fOp oAdd (fC (.int 1)) (fCall 2 F__law_take [] (cOwn 0 (cDat (fC (.int 9999)) cNil)))) (fCons (fC (.int 9999)) fNil))))) (fCall 2 F__law_take [] (cOwn 0 (cDat (fC (.int 3)) cNil)))) (gN 2))
    (fSeq (fAsg (fCall 1 F__law_price [] (cOwn 0 cNil)) (gN 3))
    (fSeq (fAsg (fOp oIxL (fNew (fLst (fCons (fC (.int 0)) (fCons (fV 3) (fCons (fCall 2 F__law_take [] (cOwn 0 (cDat (fOp oAdd (fV 3) (fC (.int 1))) cNil))) (fCons (fOp oDiv (fV 3) (fC (.int 2))) fNil)))))) (fCall 2 F__law_take [] (cOwn 0 (cDat (fC (.int 4)) cNil)))) (gN 4))
    (fSeq (fAsg (fOp oIxL (fNew (fLst (fCons (fCall 2 F__law_take [] (cOwn 0 (cDat (fC (.int 12)) cNil))) (fCons (fCall 2 F__law_take [] (cOwn 0 (cDat (fC (.int 1000)) cNil))) (fCons (fC (.int 999)) fNil))))) (fCall 2 F__law_take [] (cOwn 0 (cDat (fC (.int 3)) cNil)))) (gN 5))
    (fRet (fTup (fCons (fOp oIxL (fV 1) (fCall 2 F__law_take [] (cOwn 0 (cDat (fCB bLen (fCons (fV 1) fNil)) cNil)))) (fCons (fV 2) (fCons (fV 3) (fCons (fV 4) (fCons (fV 5) fNil)))))))))))
-- BadTag
def F_is_name_1 : FE := (fOp oInS (fV 1) (fC (.str (Str.ofString "abcdefghijklmnopqrstuvwxyz"))))
def F_is_name_2 : FS := (fRet (fCB bAll (fCons (fNew (fLc (iS (fV 0)) (gN 1) fYes F_is_name_1 [1])) fNil)))
def F_is_name : FN := fnF 1 2 (fSeq (fIfS (fOr (fNot (fB (fIsi "str" (fV 0)))) (fNot (fB (fChain oLe oLe (fC (.int 1)) (fCB bLenS (fCons (fV 0) fNil)) (fC (.int 8)))))) (fRet (fC (.bool false))) fNext)
    F_is_name_2)
def F_is_whole : FN := fnF 3 3 (fRet (fAndV (fIsi "int" (fV 0)) (fAndV (fNotV (fIsi "bool" (fV 0))) (fChain oLe oLe (fV 1) (fV 0) (fV 2)))))
def F_Tag_init_1 : FS := (fSeq (fSetF 6 "Tag" "owner" (fV 0) (fV 1))
    (fSeq (fSetF 6 "Tag" "number" (fV 0) (fV 2))
    (fSeq (fSetF 6 "Tag" "price" (fV 0) (fV 3))
    (fSeq (fSetF 6 "Tag" "least" (fV 0) (fV 4))
    (fSetF 6 "Tag" "day" (fV 0) (fV 5))))))
def F_Tag_init_2 (Xw : PyData → En → Prop) : FS := (fSeq (fIfS (fNot (fB (fCall 3 F_is_whole [] (cDat (fV 5) (cDat (fC (.int 0)) (cDat (fC (.int 999)) cNil)))))) (fRaise "BadTag" (fC (.str (Str.ofString "day"))) Xw) fNext)
    F_Tag_init_1)
def F_Tag_init_3 (Xw : PyData → En → Prop) : FS := (fSeq (fIfS (fNot (fB (fCall 3 F_is_whole [] (cDat (fV 4) (cDat (fC (.int 0)) (cDat (fV 3) cNil)))))) (fRaise "BadTag" (fC (.str (Str.ofString "least"))) Xw) fNext)
    (F_Tag_init_2 Xw))
def F_Tag_init_4 (Xw : PyData → En → Prop) : FS := (fSeq (fIfS (fNot (fB (fCall 3 F_is_whole [] (cDat (fV 3) (cDat (fC (.int 1)) (cDat (fC (.int 99999)) cNil)))))) (fRaise "BadTag" (fC (.str (Str.ofString "price"))) Xw) fNext)
    (F_Tag_init_3 Xw))
def F_Tag_init_5 (Xw : PyData → En → Prop) : FS := (fSeq (fIfS (fNot (fB (fCall 3 F_is_whole [] (cDat (fV 2) (cDat (fC (.int 1)) (cDat (fC (.int 9999)) cNil)))))) (fRaise "BadTag" (fC (.str (Str.ofString "number"))) Xw) fNext)
    (F_Tag_init_4 Xw))
def F_Tag_init : FX := fnXS 6 6 fun Xw => (fSeq (fIfS (fNot (fB (fCall 1 F_is_name [] (cDat (fV 1) cNil)))) (fRaise "BadTag" (fC (.str (Str.ofString "owner"))) Xw) fNext)
    (F_Tag_init_5 Xw))
def F__law_made_1 : FS := (fRet (fMkZX "Tag" 6 F_Tag_init [] (fun _ _ => False) (fCons (fV 2) (fCons (fV 3) (fCons (fV 4) (fCons (fV 5) (fCons (fV 6) fNil)))))))
def F__law_made_2 : FS := (fSeq (fIfS (fB (fOp oEq (fV 7) (fC (.int 3)))) (fRet (fMkNZX "Tag" 6 F_Tag_init 3 2 (fun ds es => ds ++ (es.drop 1).take 1 ++ (es.drop 0).take 1) (fun _ _ => False) (fCons (fV 2) (fCons (fV 3) (fCons (fV 4) fNil))) (fCons (fV 6) (fCons (fV 5) fNil)))) fNext)
    F__law_made_1)
def F__law_made_3 : FS := (fSeq (fIfS (fAnd (fB (fOp oEq (fV 7) (fC (.int 2)))) (fB (fOp oEqD (fV 6) (fC (.int 0))))) (fRet (fMkZX "Tag" 6 F_Tag_init [(.int 0)] (fun _ _ => False) (fCons (fV 2) (fCons (fV 3) (fCons (fV 4) (fCons (fV 5) fNil)))))) fNext)
    F__law_made_2)
def F__law_made_4 : FS := (fSeq (fIfS (fAnd (fB (fOp oEq (fV 7) (fC (.int 1)))) (fB (fOp oEqD (fV 5) (fC (.int 0))))) (fRet (fMkNZX "Tag" 6 F_Tag_init 3 1 (fun ds es => ds ++ (([(.int 0), (.int 0)] : List PyData).drop 0).take 1 ++ (es.drop 0).take 1) (fun _ _ => False) (fCons (fV 2) (fCons (fV 3) (fCons (fV 4) fNil))) (fCons (fV 6) fNil))) fNext)
    F__law_made_3)
def F__law_made : FN := fnF 2 8 (fSeq (fAsg (fV 1) (gT 5 (gsCons (gN 2) (gsCons (gN 3) (gsCons (gN 4) (gsCons (gN 5) (gsCons (gN 6) gsNil)))))))
    (fSeq (fAsg (fCall 2 F__law_take [] (cOwn 0 (cDat (fC (.int 4)) cNil))) (gN 7))
    (fSeq (fIfS (fAnd (fB (fOp oEq (fV 7) (fC (.int 0)))) (fB (fOp oEqD (fTup (fCons (fV 5) (fCons (fV 6) fNil))) (fTup (fCons (fC (.int 0)) (fCons (fC (.int 0)) fNil)))))) (fRet (fMkZX "Tag" 6 F_Tag_init [(.int 0), (.int 0)] (fun _ _ => False) (fCons (fV 2) (fCons (fV 3) (fCons (fV 4) fNil))))) fNext)
    F__law_made_4)))
-- BadText
-- TooMany
-- TooEarly
-- BadSum
-- BadOrder
-- BadQuery
-- BadColumn
-- BadDeed
-- BadRow
-- NoCoin
-- NoEntry
-- NoThing
-- NoChange
-- BadDay
-- TooLow
-- TooLittle
def F__law_classes_right_1 : FE := (fWhat ["BadTag", "BadText", "TooMany", "TooEarly", "BadSum", "BadOrder", "BadQuery", "BadColumn", "BadDeed", "BadRow", "NoCoin", "NoEntry", "NoThing", "NoChange", "BadDay", "TooLow", "TooLittle"] (fV 3))
def F__law_classes_right_2 : FS := (fSeq (fAsg (fOp oCatL (fOp oCatL (fOp oCatL (fOp oCatL (fNew (fRep (fLst (fCons (fC (.str (Str.ofString "1000000"))) fNil)) (fC (.int 2)))) (fNew (fLst (fCons (fC (.str (Str.ofString "0001100"))) (fCons (fC (.str (Str.ofString "0000001"))) fNil))))) (fNew (fRep (fLst (fCons (fC (.str (Str.ofString "1000000"))) fNil)) (fC (.int 5))))) (fNew (fRep (fLst (fCons (fC (.str (Str.ofString "0100000"))) fNil)) (fC (.int 3))))) (fNew (fLst (fCons (fC (.str (Str.ofString "0000000"))) (fCons (fC (.str (Str.ofString "0010000"))) fNil))))) (gN 6))
    (fFreeze 0 (fRet (fAndV (fEqO id 2 (fOp oCatL (fOp oCatL (fV 6) (fNew (fRep (fLst (fCons (fC (.str (Str.ofString "0001000"))) fNil)) (fC (.int 2))))) (fNew (fLst (fCons (fC (.str (Str.ofString "0000010"))) fNil))))) (fOp oEqD (fNew (fLc (iL (fV 0)) (gN 3) fYes F__law_classes_right_1 [3])) (fV 1))))))
def F__law_classes_right_3 : FE := (fCB bStrI (fCons (fCB bInt (fCons (fV 5) fNil)) fNil))
def F__law_classes_right_4 : FS := (fSeq (fAsg (fNew (fLst (fCons (fIsX (tabL [("BadTag", true), ("BadText", true), ("TooMany", false), ("TooEarly", false), ("BadSum", true), ("BadOrder", true), ("BadQuery", true), ("BadColumn", true), ("BadDeed", false), ("BadRow", true), ("NoCoin", false), ("NoEntry", false), ("NoThing", false), ("NoChange", false), ("BadDay", false), ("TooLow", false), ("TooLittle", false)]) (fV 3)) (fCons (fIsX (tabL [("BadTag", false), ("BadText", false), ("TooMany", false), ("TooEarly", false), ("BadSum", false), ("BadOrder", false), ("BadQuery", false), ("BadColumn", false), ("BadDeed", false), ("BadRow", false), ("NoCoin", true), ("NoEntry", true), ("NoThing", true), ("NoChange", false), ("BadDay", false), ("TooLow", false), ("TooLittle", false)]) (fV 3)) (fCons (fIsX (tabL [("BadTag", false), ("BadText", false), ("TooMany", false), ("TooEarly", false), ("BadSum", false), ("BadOrder", false), ("BadQuery", false), ("BadColumn", false), ("BadDeed", false), ("BadRow", false), ("NoCoin", false), ("NoEntry", false), ("NoThing", false), ("NoChange", false), ("BadDay", true), ("TooLow", false), ("TooLittle", false)]) (fV 3)) fNil))))) (gN 4))
    (fSeq (fAsg (fOp oCatL (fV 4) (fNew (fLst (fCons (fIsX (tabL [("BadTag", false), ("BadText", false), ("TooMany", true), ("TooEarly", false), ("BadSum", false), ("BadOrder", false), ("BadQuery", false), ("BadColumn", false), ("BadDeed", false), ("BadRow", false), ("NoCoin", false), ("NoEntry", false), ("NoThing", false), ("NoChange", false), ("BadDay", false), ("TooLow", true), ("TooLittle", true)]) (fV 3)) (fCons (fIsX (tabL [("BadTag", false), ("BadText", false), ("TooMany", true), ("TooEarly", false), ("BadSum", false), ("BadOrder", false), ("BadQuery", false), ("BadColumn", false), ("BadDeed", false), ("BadRow", false), ("NoCoin", false), ("NoEntry", false), ("NoThing", false), ("NoChange", false), ("BadDay", false), ("TooLow", false), ("TooLittle", false)]) (fV 3)) (fCons (fIsX (tabL [("BadTag", false), ("BadText", false), ("TooMany", false), ("TooEarly", false), ("BadSum", false), ("BadOrder", false), ("BadQuery", false), ("BadColumn", false), ("BadDeed", true), ("BadRow", false), ("NoCoin", false), ("NoEntry", false), ("NoThing", false), ("NoChange", false), ("BadDay", false), ("TooLow", false), ("TooLittle", false)]) (fV 3)) fNil)))))) (gN 4))
    (fAppend 2 (fBM mJoin (fC (.str (Str.ofString ""))) (fCons (fNew (fLc (iL (fOp oCatL (fV 4) (fNew (fLst (fCons (fIsX (tabL [("BadTag", false), ("BadText", false), ("TooMany", false), ("TooEarly", true), ("BadSum", false), ("BadOrder", false), ("BadQuery", false), ("BadColumn", false), ("BadDeed", false), ("BadRow", false), ("NoCoin", false), ("NoEntry", false), ("NoThing", false), ("NoChange", false), ("BadDay", false), ("TooLow", false), ("TooLittle", false)]) (fV 3)) fNil))))) (gN 5) fYes F__law_classes_right_3 [5])) fNil)))))
def F__law_classes_right : FN := fnF 0 7 (fSeq (fOwn 0 (fLst (fCons (fMkV "BadTag" (fC (.str (Str.ofString "a")))) (fCons (fMkV "BadText" (fC (.int 5))) (fCons (fMkV "TooMany" (fC (.int 3))) (fCons (fMkV "TooEarly" (fC (.int 9))) (fCons (fMkV "BadSum" (fC (.str (Str.ofString "b")))) (fCons (fMkV "BadOrder" (fC (.int 1))) (fCons (fMkV "BadQuery" (fC (.int 2))) (fCons (fMkV "BadColumn" (fC (.int 4))) fNil))))))))))
    (fSeq (fFreeze 0 (fOwn 0 (fOpN nCat (fV 0) (fNew (fLst (fCons (fMkV "BadRow" (fC (.int 6))) (fCons (fMkV "NoCoin" (fC (.int 7))) (fCons (fMkV "NoEntry" (fC (.int 8))) (fCons (fMkV "NoThing" (fC (.int 10))) (fCons (fMkV "NoChange" (fC (.int 11))) (fCons (fMkV "BadDay" (fC (.int 12))) (fCons (fMkV "TooLow" (fC (.int 13))) (fCons (fMkV "TooLittle" (fC (.int 14))) fNil)))))))))))))
    (fSeq (fAppend 0 (fMkV "BadDeed" (fC (.int 15))))
    (fSeq (fAsg (fNew (fLst (fCons (fC (.str (Str.ofString "a"))) (fCons (fC (.int 5)) (fCons (fC (.int 3)) (fCons (fC (.int 9)) (fCons (fC (.str (Str.ofString "b"))) (fCons (fC (.int 1)) (fCons (fC (.int 2)) (fCons (fC (.int 4)) (fCons (fC (.int 6)) (fCons (fC (.int 7)) (fCons (fC (.int 8)) (fCons (fC (.int 10)) (fCons (fC (.int 11)) (fCons (fC (.int 12)) (fCons (fC (.int 13)) (fCons (fC (.int 14)) (fCons (fC (.int 15)) fNil))))))))))))))))))) (gN 1))
    (fSeq (fOwn 2 (fLst fNil))
    (fSeq (fFreeze 0 (fFor [3, 4, 5] (iL (fV 0)) (gN 3) F__law_classes_right_4))
    F__law_classes_right_2))))))
def F__law_names_1 : FS := (fFreeze 3 (fRet (fV 3)))
def F__law_names_2 : FS := (fAppend 3 (fV 11))
def F__law_names_3 : FS := (fSeq (fIfS (fB (fInO false 3 (fV 11))) (fAsg (fOp oAddS (fOp oAddS (fOp oIxS (fV 2) (fOp oDiv (fV 8) (fC (.int 26)))) (fOp oIxS (fV 2) (fOp oMod (fV 8) (fC (.int 26))))) (fC (.str (Str.ofString "qxz")))) (gN 11)) fNext)
    F__law_names_2)
def F__law_names_4 : FE := (fOp oIxS (fV 2) (fCall 2 F__law_take [] (cOwn 0 (cDat (fC (.int 26)) cNil))))
def F__law_names_5 : FS := (fSeq (fAsg (fOp oMod (fOp oAdd (fV 4) (fOp oMul (fV 5) (fV 7))) (fC (.int 676))) (gN 8))
    (fSeq (fAsg (fBM mJoin (fC (.str (Str.ofString ""))) (fCons (fNew (fLc (iR1 (fCons (fOp oAdd (fC (.int 1)) (fCall 2 F__law_take [] (cOwn 0 (cDat (fC (.int 6)) cNil)))) fNil)) (gN 10) fYes F__law_names_4 [10])) fNil)) (gN 9))
    (fSeq (fAsg (fOp oAddS (fOp oAddS (fOp oIxS (fV 2) (fOp oDiv (fV 8) (fC (.int 26)))) (fOp oIxS (fV 2) (fOp oMod (fV 8) (fC (.int 26))))) (fV 9)) (gN 11))
    (fSeq (fIfS (fAnd (fB (fOp oLt (fV 1) (fC (.int 13)))) (fB (fOp oEq (fCall 2 F__law_take [] (cOwn 0 (cDat (fC (.int 4)) cNil))) (fC (.int 0))))) (fAsg (fOp oIxL (fV 6) (fV 7)) (gN 11)) fNext)
    F__law_names_3))))
def F__law_names : FN := fnF 2 12 (fSeq (fParO2 2 3 (fC (.str (Str.ofString "abcdefghijklmnopqrstuvwxyz"))) (fLst fNil))
    (fSeq (fPar 4 5 (fCons (fCall 2 F__law_take [] (cOwn 0 (cDat (fC (.int 676)) cNil))) (fCons (fOp oIxL (fNew (fLst (fCons (fC (.int 1)) (fCons (fC (.int 3)) (fCons (fC (.int 5)) (fCons (fC (.int 7)) (fCons (fC (.int 27)) (fCons (fC (.int 101)) fNil)))))))) (fCall 2 F__law_take [] (cOwn 0 (cDat (fC (.int 6)) cNil)))) fNil)))
    (fSeq (fAsg (fNew (fLst (fCons (fC (.str (Str.ofString "give"))) (fCons (fC (.str (Str.ofString "sell"))) (fCons (fC (.str (Str.ofString "heap"))) (fCons (fC (.str (Str.ofString "owner"))) (fCons (fC (.str (Str.ofString "has"))) (fCons (fC (.str (Str.ofString "not"))) (fCons (fC (.str (Str.ofString "above"))) (fCons (fC (.str (Str.ofString "number"))) (fCons (fC (.str (Str.ofString "and"))) (fCons (fC (.str (Str.ofString "price"))) (fCons (fC (.str (Str.ofString "fetch"))) (fCons (fC (.str (Str.ofString "words"))) fNil)))))))))))))) (gN 6))
    (fSeq (fFor [7, 8, 9, 10, 11] (iR1 (fCons (fV 1) fNil)) (gN 7) F__law_names_5)
    F__law_names_1))))
def F__law_whole : FN := fnF 3 3 (fRet (fAndV (fIsi "int" (fV 0)) (fAndV (fNotV (fIsi "bool" (fV 0))) (fChain oLe oLe (fV 1) (fV 0) (fV 2)))))
def F__law_fault_1 : FS := (fRet (fIf (fB (fCall 3 F__law_whole [] (cDat (fOp oIxT (fV 0) (fC (.int 4))) (cDat (fC (.int 0)) (cDat (fC (.int 999)) cNil))))) (fC (.str (Str.ofString ""))) (fC (.str (Str.ofString "day")))))
def F__law_fault_2 : FS := (fSeq (fIfS (fNot (fB (fCall 3 F__law_whole [] (cDat (fOp oIxT (fV 0) (fC (.int 3))) (cDat (fC (.int 0)) (cDat (fOp oIxT (fV 0) (fC (.int 2))) cNil)))))) (fRet (fC (.str (Str.ofString "least")))) fNext)
    F__law_fault_1)
def F__law_fault_3 : FS := (fSeq (fIfS (fNot (fB (fCall 3 F__law_whole [] (cDat (fOp oIxT (fV 0) (fC (.int 2))) (cDat (fC (.int 1)) (cDat (fC (.int 99999)) cNil)))))) (fRet (fC (.str (Str.ofString "price")))) fNext)
    F__law_fault_2)
def F__law_fault_4 : FS := (fSeq (fIfS (fNot (fB (fCall 3 F__law_whole [] (cDat (fOp oIxT (fV 0) (fC (.int 1))) (cDat (fC (.int 1)) (cDat (fC (.int 9999)) cNil)))))) (fRet (fC (.str (Str.ofString "number")))) fNext)
    F__law_fault_3)
def F__law_fault_5 : FE := (fChain oLeS oLeS (fC (.str (Str.ofString "a"))) (fV 2) (fC (.str (Str.ofString "z"))))
def F__law_fault : FN := fnF 1 3 (fSeq (fAsg (fOp oIxT (fV 0) (fC (.int 0))) (gN 1))
    (fSeq (fIfS (fOr (fNot (fB (fIsi "str" (fV 1)))) (fOr (fNot (fB (fChain oLe oLe (fC (.int 1)) (fCB bLenS (fCons (fV 1) fNil)) (fC (.int 8))))) (fNot (fB (fCB bAll (fCons (fNew (fLc (iS (fV 1)) (gN 2) fYes F__law_fault_5 [2])) fNil)))))) (fRet (fC (.str (Str.ofString "owner")))) fNext)
    F__law_fault_4))
def F__law_odd_1 : FS := (fSeq (fAsg (fNew (fLst (fCons (fC (.int 0)) (fCons (fC (.int 999)) (fCons (fC (.int 1000)) (fCons (fUn uNeg (fC (.int 1))) (fCons (fC .none) (fCons (fC (.str (Str.ofString "0"))) (fCons (fC (.bool true)) (fCons (fC (.bool false)) (fCons (fOp oPow (fC (.int 10)) (fC (.int 9))) (fCons (fC (.str (Str.ofString ""))) (fCons (fC (.int 1)) (fCons (fC (.int 998)) fNil)))))))))))))) (gN 9))
    (fSeq (fFreeze 8 (fAsg (fOp oIxL (fOp oIxL (fNew (fLst (fCons (fV 5) (fCons (fV 6) (fCons (fV 7) (fCons (fV 8) (fCons (fV 9) fNil))))))) (fV 2)) (fV 3)) (gN 10)))
    (fRet (fOp oCatT (fOp oCatT (fSl sT (fV 1) pNo (pSo (fV 2))) (fTup (fCons (fV 10) fNil))) (fSl sT (fV 1) (pSo (fOp oAdd (fV 2) (fC (.int 1)))) pNo)))))
def F__law_odd : FN := fnF 2 11 (fSeq (fPar3 2 3 4 (fCons (fCall 2 F__law_take [] (cOwn 0 (cDat (fC (.int 5)) cNil))) (fCons (fCall 2 F__law_take [] (cOwn 0 (cDat (fC (.int 12)) cNil))) (fCons (fOp oIxT (fV 1) (fC (.int 2))) fNil))))
    (fSeq (fAsg (fNew (fLst (fCons (fC (.str (Str.ofString ""))) (fCons (fC (.str (Str.ofString "abcdefghi"))) (fCons (fC (.str (Str.ofString "Ann"))) (fCons (fC (.str (Str.ofString "a-b"))) (fCons (fC (.str (Str.ofString "a1"))) (fCons (fC (.str (Str.ofString "ann "))) (fCons (fC (.int 5)) (fCons (fC .none) (fCons (fC (.bool true)) (fCons (fC (.str (Str.ofString "z"))) (fCons (fC (.str (Str.ofString "abcdefgh"))) (fCons (fC (.str (Str.ofString "{"))) fNil)))))))))))))) (gN 5))
    (fSeq (fAsg (fNew (fLst (fCons (fC (.int 0)) (fCons (fC (.int 1)) (fCons (fC (.int 9999)) (fCons (fC (.int 10000)) (fCons (fUn uNeg (fC (.int 1))) (fCons (fC (.bool true)) (fCons (fC .none) (fCons (fC (.str (Str.ofString "1"))) (fCons (fC (.str (Str.ofString ""))) (fCons (fOp oPow (fC (.int 10)) (fC (.int 9))) (fCons (fC (.bool false)) (fCons (fC (.int 36)) fNil)))))))))))))) (gN 6))
    (fSeq (fAsg (fNew (fLst (fCons (fC (.int 0)) (fCons (fC (.int 1)) (fCons (fC (.int 99999)) (fCons (fC (.int 100000)) (fCons (fUn uNeg (fC (.int 1))) (fCons (fC (.bool true)) (fCons (fC .none) (fCons (fC (.str (Str.ofString "1"))) (fCons (fC (.str (Str.ofString ""))) (fCons (fOp oPow (fC (.int 10)) (fC (.int 12))) (fCons (fC (.bool false)) (fCons (fC (.int 36)) fNil)))))))))))))) (gN 7))
    (fSeq (fOwn 8 (fLst (fCons (fV 4) (fCons (fC (.int 0)) (fCons (fUn uNeg (fC (.int 1))) (fCons (fC .none) (fCons (fC (.str (Str.ofString "0"))) (fCons (fC (.bool true)) (fCons (fC (.bool false)) (fCons (fOp oPow (fC (.int 10)) (fC (.int 9))) (fCons (fC (.str (Str.ofString ""))) (fCons (fC (.int 99999)) (fCons (fC (.int 100000)) (fCons (fC (.int 1)) fNil))))))))))))))
    (fSeq (fAsg (fIf (fB (fIsi "int" (fV 4))) (fOp oAddN (fV 4) (fC (.int 1))) (fC (.int 1))) (gSubO 8 (fC (.int 0))))
    F__law_odd_1))))))
def F__law_fields : FN := fnF 1 1 (fRet (fTup (fCons (fFld "Tag" "owner" (fV 0)) (fCons (fFld "Tag" "number" (fV 0)) (fCons (fFld "Tag" "price" (fV 0)) (fCons (fFld "Tag" "least" (fV 0)) (fCons (fFld "Tag" "day" (fV 0)) fNil)))))))
def F__law_told_1 : FS := (fSeq (fAsg (fIsX (tabL [("BadTag", false), ("BadText", true), ("TooMany", false), ("TooEarly", false), ("BadSum", true), ("BadOrder", true), ("BadQuery", true), ("BadColumn", true), ("BadDeed", false), ("BadRow", true), ("NoCoin", false), ("NoEntry", false), ("NoThing", false), ("NoChange", false), ("BadDay", false), ("TooLow", false), ("TooLittle", false)]) (fV 3)) (gN 5))
    (fRet (fIf (fAnd (fB (fIsX (tabL [("BadTag", true), ("BadText", false), ("TooMany", false), ("TooEarly", false), ("BadSum", false), ("BadOrder", false), ("BadQuery", false), ("BadColumn", false), ("BadDeed", false), ("BadRow", false), ("NoCoin", false), ("NoEntry", false), ("NoThing", false), ("NoChange", false), ("BadDay", false), ("TooLow", false), ("TooLittle", false)]) (fV 3))) (fNot (fB (fV 5)))) (fWhat ["BadTag", "BadText", "TooMany", "TooEarly", "BadSum", "BadOrder", "BadQuery", "BadColumn", "BadDeed", "BadRow", "NoCoin", "NoEntry", "NoThing", "NoChange", "BadDay", "TooLow", "TooLittle"] (fV 3)) (fC (.str (Str.ofString "other"))))))
def F__law_told_2 : FS := (fSeq (fIfS (fB (fOp oIs (fV 3) (fC .none))) (fRet (fCall 1 F__law_fields [] (cDat (fV 2) cNil))) fNext)
    F__law_told_1)
def F__law_told : FN := fnF 2 6 (fSeq (fAsg (fTup (fCons (fC .none) (fCons (fC .none) fNil))) (gT 2 (gsCons (gN 2) (gsCons (gN 3) gsNil))))
    (fSeq (fTryK 4 3 (tabL [("BadTag", true), ("BadText", true), ("TooMany", false), ("TooEarly", false), ("BadSum", true), ("BadOrder", true), ("BadQuery", true), ("BadColumn", true), ("BadDeed", false), ("BadRow", true), ("NoCoin", false), ("NoEntry", false), ("NoThing", false), ("NoChange", false), ("BadDay", false), ("TooLow", false), ("TooLittle", false)]) (fun _ _ => False) (fun Xt1 => (fIfS (fB (fV 1)) (fAsg (fMkNZX "Tag" 6 F_Tag_init 4 1 (fun ds es => ds ++ (es.drop 0).take 1) Xt1 (fCons (fOp oIxT (fV 0) (fC (.int 0))) (fCons (fOp oIxT (fV 0) (fC (.int 1))) (fCons (fOp oIxT (fV 0) (fC (.int 2))) (fCons (fOp oIxT (fV 0) (fC (.int 3))) fNil)))) (fCons (fOp oIxT (fV 0) (fC (.int 4))) fNil)) (gN 2)) (fAsg (fMkZX "Tag" 6 F_Tag_init [] Xt1 (fCons (fOp oIxT (fV 0) (fC (.int 0))) (fCons (fOp oIxT (fV 0) (fC (.int 1))) (fCons (fOp oIxT (fV 0) (fC (.int 2))) (fCons (fOp oIxT (fV 0) (fC (.int 3))) (fCons (fOp oIxT (fV 0) (fC (.int 4))) fNil)))))) (gN 2)))))
    F__law_told_2))
def F__law_right_1 : FS := (fRet (fCall 0 F__law_classes_right [] cNil))
def F__law_right_2 : FS := (fSeq (fAsg (fMkZX "Tag" 6 F_Tag_init [(.int 0), (.int 0)] (fun _ _ => False) (fCons (fOp oIxT (fV 2) (fC (.int 0))) (fCons (fOp oIxT (fV 2) (fC (.int 1))) (fCons (fOp oIxT (fV 2) (fC (.int 2))) fNil)))) (gN 8))
    (fSeq (fIfS (fNot (fB (fCall 2 F__law_same [] (cDat (fNew (fLst (fCons (fCall 1 F__law_fields [] (cDat (fV 8) cNil)) (fCons (fCall 1 F__law_fields [] (cDat (fV 3) cNil)) fNil)))) (cDat (fNew (fLst (fCons (fOp oCatT (fSl sT (fV 2) pNo (pSo (fC (.int 3)))) (fTup (fCons (fC (.int 0)) (fCons (fC (.int 0)) fNil)))) (fCons (fV 2) fNil)))) cNil))))) (fRet (fC (.bool false))) fNext)
    F__law_right_1))
def F__law_right_3 : FS := (fIfS (fAnd (fB (fOp oEq (fV 7) (fC (.str (Str.ofString ""))))) (fNot (fB (fCall 2 F__law_same [] (cDat (fCall 1 F__law_fields [] (cDat (fCall 2 F__law_made [] (cOwn 0 (cDat (fV 5) cNil))) cNil)) (cDat (fV 5) cNil)))))) (fRet (fC (.bool false))) fNext)
def F__law_right_4 : FS := (fSeq (fAsg (fCall 1 F__law_fault [] (cDat (fV 5) cNil)) (gN 7))
    (fSeq (fIfS (fNot (fB (fCall 2 F__law_same [] (cDat (fCall 2 F__law_told [] (cDat (fV 5) (cDat (fOp oEq (fCall 2 F__law_take [] (cOwn 0 (cDat (fC (.int 2)) cNil))) (fC (.int 0))) cNil))) (cDat (fIf (fB (fOp oNe (fV 7) (fC (.str (Str.ofString ""))))) (fV 7) (fV 5)) cNil))))) (fRet (fC (.bool false))) fNext)
    F__law_right_3))
def F__law_right_5 : FS := (fAsg (fCall 2 F__law_odd [] (cOwn 0 (cDat (fV 5) cNil))) (gN 5))
def F__law_right_6 : FS := (fSeq (fAsg (fCall 2 F__law_five [] (cOwn 0 (cDat (fV 1) cNil))) (gN 5))
    (fSeq (fFor [6] (iR1 (fCons (fOp oIxL (fNew (fLst (fCons (fC (.int 0)) (fCons (fC (.int 1)) (fCons (fC (.int 1)) (fCons (fC (.int 2)) (fCons (fC (.int 5)) fNil))))))) (fCall 2 F__law_take [] (cOwn 0 (cDat (fC (.int 5)) cNil)))) fNil)) (gN 6) F__law_right_5)
    F__law_right_4))
def F__law_right : FN := fnF 1 9 (fSeq (fAsg (fOp oCatL (fCall 2 F__law_names [] (cOwn 0 (cDat (fC (.int 4)) cNil))) (fNew (fLst (fCons (fC (.str (Str.ofString "a"))) (fCons (fC (.str (Str.ofString "zzzzzzzz"))) fNil))))) (gN 1))
    (fSeq (fAsg (fCall 2 F__law_five [] (cOwn 0 (cDat (fV 1) cNil))) (gN 2))
    (fSeq (fAsg (fCall 2 F__law_made [] (cOwn 0 (cDat (fV 2) cNil))) (gN 3))
    (fSeq (fFor [4, 5, 6, 7] (iR1 (fCons (fC (.int 12)) fNil)) (gN 4) F__law_right_6)
    F__law_right_2))))
def F__law_box_1 : FS := (fRetW (fLst (fCons (fOp oMul (fCB bAbs (fCons (fV 2) fNil)) (fCB bInt (fCons (fOp oGe (fCB bAbs (fCons (fV 2) fNil)) (fOp oPow (fC (.int 10)) (fC (.int 18)))) fNil))) (fCons (fOp oMod (fOp oMul (fOp oAdd (fOp oAdd (fOp oMod (fV 2) (fC (.int 2147483629))) (fOp oMul (fC (.int 15485863)) (fV 1))) (fC (.int 43))) (fC (.int 48271))) (fC (.int 2147483647))) (fCons (fC (.int 0)) fNil)))))
def F__law_box : FM := fnM 2 3 (fSeq (fAsg (fIf (fB (fOp oLt (fV 1) (fCB bLen (fCons (fV 0) fNil)))) (fOp oIxL (fV 0) (fV 1)) (fC (.int 0))) (gN 2))
    F__law_box_1)
def F_law_1 : FE := (fCallT 1 F__law_right [] (fCallW 2 F__law_box [] (cDat (fV 1) (cDat (fV 2) cNil))) cNil)
def F_law : FN := fnF 1 3 (fSeq (fAsg (fCall 2 F__law_folded [] (cDat (fV 0) (cDat (fC (.int 6)) cNil))) (gN 1))
    (fRet (fCB bAll (fCons (fNew (fLc (iR1 (fCons (fCB bMax (fCons (fC (.int 1)) (fCons (fCB bLen (fCons (fV 1) fNil)) fNil))) fNil)) (gN 2) fYes F_law_1 [2])) fNil))))
local macro_rules | `(tactic| walk_at "f") => `(tactic| simp only [fnF, fSeq, fNext, fRet, fRetN, fAsg, fDrop, fIfS, fAnd, fOr, fNot, fAndV, fOrV, fNotV, fB, fTru, truF, boolF, fOp, fUn, fV, fC, fCons, fNil, fCB, fBM, fCall, cNil, cDat, cOwn, argF, wb, ownIx, fTup, fNew, fLst, fIf, fChain, o2, o2c, oStr, oEqB, oEqD, oNeD, oIsB, isNone, oInSB, oIn, seqF, oIxL, oIxT, oIxS, oIx, fSl, pNo, pSo, sL, sT, sS, listF, tupleF, strF, intF, ownF, fIxO, fLenO, fInO, fAppend, gSubO, gN, gT, gsCons, gsNil, fPar, fPar3c, fAug, fFreeze, fOwn, slotF, sz0, sz1, sz2, sz3, sz4, sz5, sz6, sz7, sz8, sz9, sz10, sz11, sz12, sz13, sz14, sz15, sz16, sz17, sz18, sz19, sz20, Nat.reduceLT, Nat.reduceLeDiff, isObjD, fParO1, fParO2, fPar3O3, fAugO, fEqO, fFld, fMk, fMkN, fCallN, List.drop_zero, List.drop_succ_cons, Int.reduceToNat, Int.reducePow, Int.reduceNeg, Int.reduceLE, Int.reduceLT, Int.cast_ofNat_Int, F__law_take, fgt, List.tail_cons, List.headD_cons, at0, at1, at2, at3, at4, Int.zero_add, Int.not_lt, Int.not_le, Nat.not_lt, Nat.not_le, ite_not, fYes, fIsi, oCatL, oCatT, fRep, uNeg, bLenS, bLen, bAbs, bMin, bMax, bDivmod, bAll, bAny, bSum, bInt, bBool, bList, bTuple, one, two, iL, iT, iS, iR1, iR2, iR3, iE, iZ, fBreak, fCont, fNever, fnM, fRetO, fRetW, fCallW, fCallNW, fCBN, nList, nSortI, nSortS, fOpN, nCat, fSlN, fRev, fPopAt, fPop, fInsert, fExtend, fReverse, fIsiLT, bMax3, F__law_same, fParOO, fnX, fCallX, fCallNX, fRaise, fTryK, fIsX, fWhat, excF, excD, tabL, fldD, noX, oIsT, isBool, fCallV, funF, tabF, fSortLam, fSumO, fnD, iA, fRevS, fRevT, oNumD, numD_int, numD_bool, bStrV, strD, iZM, oIsntT, fCallT, fCallXW, nSortP, fnXM, fSetSl, fBorT, fBorE, frz, plainD,
  List.getElem?_cons_zero, List.getElem?_cons_succ, List.getElem?_nil, List.cons_append, List.nil_append, List.append_nil, List.set_cons_zero, List.set_cons_succ, List.map_cons, List.map_nil, List.length_cons, List.length_nil, List.nodup_nil, List.nodup_cons, List.not_mem_nil, not_false_eq_true, and_self, and_true, true_and, List.replicate_succ, List.replicate_zero, List.take_succ_cons, List.take_zero, Nat.reduceSub, Nat.reduceAdd, Nat.zero_add, decide_eq_true_eq, Bool.not_eq_true', decide_eq_false_iff_not, if_true, if_false, Bool.not_true, Bool.not_false, Bool.false_eq_true, reduceIte, id, not_true_eq_false, reduceCtorEq, fFor, fLc, fWhile, wipeF, kit_none_int, kit_none_bool, kit_none_str, kit_none_list, kit_none_tuple, kit_bool_int, kit_bool_bool, kit_bool_str, kit_bool_list, kit_bool_tuple, kit_int_int, kit_int_bool, kit_int_str, kit_int_list, kit_int_tuple, kit_str_int, kit_str_bool, kit_str_str, kit_str_list, kit_str_tuple, kit_list_int, kit_list_bool, kit_list_str, kit_list_list, kit_list_tuple, kit_tuple_int, kit_tuple_bool, kit_tuple_str, kit_tuple_list, kit_tuple_tuple, Option.some.injEq, exists_eq_left', exists_eq_left, List.all_cons, List.all_nil, Bool.and_true, Bool.and_self, List.cons.injEq, Nat.reduceMul , oLeS, fMkV, fMkZX, fMkNZX, fCntLD, fIdxLD, fStr0, sM, fTupRng, bTupS, fLcV, fNeX, fPopAtH, gU, fForV, fEqH, fCatH, fEqN, slotL, stF, fnS, fnMS, fnXS, fnXMS, fnU, fnUS, fCallS, fCallWS, fCallXS, fCallTS, fCallNS, fCallNXS, fCallU, fOwnV, fAugR, fPar3O2, fRetV, fRetO, fMeth, fMethW, fMethS, fMethWS, fMkZ, fMkNZ, fMkS, fMkNS, fNewL, fFldU, fSetF, fAugF, fBorT, fBorE, noSt, frz, oShlW, nSortSet, fIfN, putD, nSortSetT, fUnT, unT, fUnD, fEqOU, fTupN, fCntT, fIdxT, tnF, tnD, gSubH, fAugH, fAppH, fIxH, fNo, iEM, fDNew, fDGet, fDIn, fDPut, fDAug, fDGet1, fDGet2, fDLen, keyF, fLenRng, fLenX, fCallZ, gOr, fLstRng, fLckLc, iKs, keyD, fMethN, fMethNS, List.drop_nil, List.tail_cons, List.drop_succ_cons, List.drop_zero, List.headD_cons, immD, immAll, fLenSet, oInX, nSortSetJ, fDisp1, fListD, fDictP, fLckIt, fExtD, fForE, fForL, fRevH, fLenH, fixD, fMethZ, fForZH, fForT, fInsH, fDGetD, fDispN, fPairs, sN, tnF, fCallR, fCallRW, fMethR, fMethRW, fCallRX, fCallRXW, fMethX, fMethXS, fMethRX, oRepT, iZT, fStrX, fStrR, fBoolX, fBoolR, fLenR, fEqX, fEqR, fIsiO, fIsiR, fmtF, fFmt, fJs, fJoin, fLcH, fMethNXS, fRetIf, fNewV, fCallUR, fSortDL, fTry1, fIdxH, dicF, DctU, fGet, fIn, fGet1, fGet2, fSortI, fValsL, oLtT, fSetd, fOrT, fKIn, strK, fKGet, fKGet2, tabN, fCallV0, fCallV0S, gSubD, fPopH, fRemO, oLtM, bSumT, iZS, fRemH, fEqE, fForD, fCallNR, fCallNRW, nSortD, fSortKS, iES])

local macro_rules | `(tactic| walk_at "w") => `(tactic| try walk_at "f")
/-! ### how a law begins, over data -/
theorem one_or (p : Prop) [Decidable p] : (if p then (1 : Int) else 0) = 0 ∨ (if p then (1 : Int) else 0) = 1 := by
  by_cases h : p
  · exact .inr (if_pos h)
  · exact .inl (if_neg h)
theorem f_box {ns : List Int} {k : Nat} (hk : k < 1000) {P : List PyData → List Sl → Prop} (h : ∀ ds sl, BoxD ds 0 → P ds sl) : F__law_box [.fz (.list (ns.map .int)), .fz (.int k)] P := by
  have fin : ∀ c : Int, F__law_box_1 { nx := fun _ => False, rt := fun _ _ => False, ro := fun ds ρ' => P ds (ρ'.take 2) } [.fz (.list (ns.map .int)), .fz (.int k), .fz (.int c)] := by
    intro c
    unfold F__law_box_1
    walk_at "f"
    refine ⟨⟨by decide, by decide, by decide⟩, ?_⟩
    have hz : ∀ z : Int, (z = 0 ∨ z = 1) → (CMul (if c < 0 then -c else c) z) ∧ 0 ≤ (if c < 0 then -c else c) * z := by
      intro z hz
      refine ⟨.inr (by rcases hz with rfl | rfl <;> decide), ?_⟩
      rcases hz with rfl | rfl
      · rw [Int.mul_zero]; exact Int.le_refl _
      · rw [Int.mul_one]; split <;> omega
    have hz' := hz (if 1000000000000000000 ≤ (if c < 0 then -c else c) then 1 else 0) (one_or _)
    have m0 : 0 ≤ c % 2147483629 := Int.emod_nonneg _ (by decide)
    have m1 : c % 2147483629 < 2147483629 := Int.emod_lt_of_pos _ (by decide)
    exact ⟨hz'.1, .inl ⟨by decide, by decide⟩, .inr ⟨by decide, by decide⟩, h _ _ ⟨_, _, _, rfl, hz'.2, Int.emod_nonneg _ (by decide), Int.emod_lt_of_pos _ (by decide), by decide, by decide⟩⟩
  unfold F__law_box
  walk_at "f"
  rw [List.length_map]
  by_cases hl : (k : Int) < ns.length
  · rw [if_pos hl]
    have hkn : k < ns.length := by omega
    refine ⟨.int ns[k], by rw [atI_map, atI_nat' (List.getElem?_eq_getElem hkn)]; rfl, ?_⟩
    exact fin _
  · rw [if_neg hl]
    exact fin _
theorem cutD_map (ns : List Int) (lo hi : Option Int) : cutD (ns.map PyData.int) lo hi = (((ns.drop (HT.sIx ns.length 0 lo)).take (HT.sIx ns.length ns.length hi - HT.sIx ns.length 0 lo))).map PyData.int := by
  unfold cutD
  rw [List.length_map, ← List.map_drop, ← List.map_take]
theorem enumD_map (ns : List Int) : enumD (ns.map PyData.int) = ns.zipIdx.map fun z => .tuple [.int (z.2 : Nat), .int z.1] := by
  unfold enumD
  rw [List.zipIdx_map, List.map_map]
  rfl
theorem f_folded {ns : List Int} {m : Nat} (hm0 : 0 < m) (hm : m ≤ 63) (hn : ns.length ≤ 63) {P : PyData → List Sl → Prop} (h : ∀ ms : List Int, ms.length ≤ m → ∀ sl, P (.list (ms.map .int)) sl) : F__law_folded [.fz (.list (ns.map .int)), .fz (.int m)] P := by
  have hm3 : ((m : Int) % 4611686018427387904) = m := Int.emod_eq_of_lt (by omega) (by omega)
  unfold F__law_folded
  walk_at "f"
  rw [cutD_take, cutD_map, enumD_map]
  generalize hz : (List.take (HT.sIx ns.length ns.length (some 63) - HT.sIx ns.length 0 (some ↑m)) (List.drop (HT.sIx ns.length 0 (some ↑m)) ns)) = zs
  have lz : zs.length ≤ ns.length - m := by
    rw [← hz, List.length_take, List.length_drop, HT.sIx_nat]
    omega
  refine for_map zs.zipIdx (fun z => .tuple [.int (z.2 : Nat), .int z.1]) (fun _ ρ => ∃ ms : List Int, ms.length = min m ns.length ∧ ρ = [.fz (.list (ns.map .int)), .fz (.int m), .own (ms.map .int), .no, .no]) rfl ⟨ns.take m, List.length_take, rfl⟩ ?_ ?_
  · rintro i z ρ hi hl ⟨ms, lm, rfl⟩
    rw [List.length_zipIdx] at hl
    have ez : z.2 = i := by
      rw [List.getElem?_zipIdx] at hi
      cases hq : zs[i]? with
      | none => rw [hq] at hi; cases hi
      | some q => rw [hq] at hi; cases hi; simp
    have hlen : ms.length = m := by omega
    have hk : i % m < ms.length := by rw [hlen]; exact Nat.mod_lt _ hm0
    have ek : ((z.2 : Int) % (m : Int)) = ((i % m : Nat) : Int) := by rw [ez]; omega
    unfold F__law_folded_2
    walk_at "f"
    refine ⟨by omega, .int ms[i % m], by rw [ek, atI_map, atI_nat' (List.getElem?_eq_getElem hk)]; rfl, ?_⟩
    refine ⟨.inr ⟨by omega, by omega⟩, ?_⟩
    refine ⟨by omega, i % m, by rw [ek, List.length_map]; exact ixN_nat hk, ms.set (i % m) (ms[i % m] + z.1 * ((z.2 : Int) + 2)), by rw [List.length_set]; exact lm, ?_⟩
    rw [List.map_set]
  · rintro ρ ⟨ms, lm, rfl⟩
    unfold F__law_folded_1
    walk_at "f"
    exact h ms (by omega) _
theorem f_price {ds : List PyData} {n : Nat} (hb : BoxD ds n) (hn : n < 100000000) {P : PyData → List Sl → Prop} (h : ∀ r ds', 1 ≤ r → r ≤ 99999 → BoxD ds' (n + 5) → P (.int r) [.own ds']) : F__law_price [.own ds] P := by
  unfold F__law_price
  walk_at "f"
  refine take_step hb (by decide) (by decide) (by omega) fun r1 d1 _ _ b1 => ?_
  refine take_step b1 (by decide) (by decide) (by omega) fun r2 d2 _ _ b2 => ?_
  refine take_step b2 (by decide) (by decide) (by omega) fun r3 d3 _ _ b3 => ⟨.inl ⟨by decide, by decide⟩, ?_⟩
  refine take_step b3 (by decide) (by decide) (by omega) fun r4 d4 _ _ b4 => ?_
  refine take_step b4 (by decide) (by decide) (by omega) fun r5 d5 a5 c5 b5 => ?_
  obtain ⟨v, e, m⟩ := at_mem (xs := [PyData.int (1 + r1), PyData.int (1 + r2), PyData.int (100 * (1 + r3)), PyData.int (1 + r4)]) a5 c5
  obtain ⟨a, rfl, a0, a1⟩ : ∃ a, v = .int a ∧ 1 ≤ a ∧ a ≤ 99999 := by
    simp only [List.mem_cons, List.not_mem_nil, or_false] at m
    rcases m with rfl | rfl | rfl | rfl <;> exact ⟨_, rfl, by omega, by omega⟩
  exact ⟨_, e, h a d5 a0 a1 b5⟩
/-! names drawn -/
theorem abc_sign {d : Int} (h0 : 0 ≤ d) (h1 : d < 26) : ∃ c, atI (Str.ofString "abcdefghijklmnopqrstuvwxyz").cps.toList d = some c ∧ 97 ≤ c ∧ c ≤ 122 := by
  obtain ⟨k, rfl⟩ := Int.eq_ofNat_of_zero_le h0
  exact ⟨97 + k, abc_at (by omega), by omega, by omega⟩
theorem f_names_3 {E : FEnds} {d6 : List PyData} {ss : List Str} {nm : Str} {a1 a4 a5 a6 a7 a9 a10 : Sl} {own : Int} (own0 : 0 ≤ own) (own1 : own < 676) (ls : ss.length ≤ 1000) (hnm : NameS nm)
    (h : ∀ s, NameS s → E.nx [.own d6, a1, .fz (.str (Str.ofString "abcdefghijklmnopqrstuvwxyz")), .own ((ss ++ [s]).map .str), a4, a5, a6, a7, .fz (.int own), a9, a10, .fz (.str s)]) :
    F__law_names_3 E [.own d6, a1, .fz (.str (Str.ofString "abcdefghijklmnopqrstuvwxyz")), .own (ss.map .str), a4, a5, a6, a7, .fz (.int own), a9, a10, .fz (.str nm)] := by
  have lin : sizeLine = 16777216 := by decide +kernel
  have la : (Str.ofString "abcdefghijklmnopqrstuvwxyz").length ≤ sizeLine := by decide +kernel
  obtain ⟨x, ex, x97, x122⟩ := abc_sign (d := own / 26) (by omega) (by omega)
  obtain ⟨y, ey, y97, y122⟩ := abc_sign (d := own % 26) (by omega) (by omega)
  unfold F__law_names_3
  walk_at "f"
  refine ⟨rfl, by rw [List.all_map]; exact List.all_eq_true.mpr fun _ _ => rfl, ?_⟩
  have fin : ∀ s, NameS s → F__law_names_2 E [.own d6, a1, .fz (.str (Str.ofString "abcdefghijklmnopqrstuvwxyz")), .own (ss.map .str), a4, a5, a6, a7, .fz (.int own), a9, a10, .fz (.str s)] := by
    intro s hs
    unfold F__law_names_2
    walk_at "f"
    refine ⟨by rw [List.length_map]; omega, ?_⟩
    have := h s hs
    rw [List.map_append] at this
    exact this
  cases inD (.str nm) (ss.map .str) with
  | false => exact fin nm hnm
  | true =>
    rw [if_pos (by rfl)]
    refine ⟨⟨by decide, by decide⟩, la, x, ex, la, y, ey, by show 1 + 1 ≤ sizeLine; decide, by show 2 + 3 ≤ sizeLine; decide, ?_⟩
    exact fin _ (name_two ⟨x97, x122⟩ ⟨y97, y122⟩ (by decide +kernel) (by decide +kernel))
theorem f_names {ds : List PyData} {n m : Nat} (hb : BoxD ds n) (hn : n < 10000000) (hm : m ≤ 200) {P : PyData → List Sl → Prop} (h : ∀ (ss : List Str) ds' sl, ss.length = m → (∀ s ∈ ss, NameS s) → BoxD ds' (n + 2000) → P (.list (ss.map .str)) (.own ds' :: sl)) : F__law_names [.own ds, .fz (.int (m : Int))] P := by
  have lin : sizeLine = 16777216 := by decide +kernel
  have la : (Str.ofString "abcdefghijklmnopqrstuvwxyz").length ≤ sizeLine := by decide +kernel
  unfold F__law_names
  walk_at "f"
  refine take_step hb (by decide) (by decide) (by omega) fun r1 d1 a1 c1 b1 => ?_
  refine take_step b1 (by decide) (by decide) (by omega) fun r2 d2 a2 c2 b2 => ?_
  obtain ⟨v, e, mm⟩ := at_mem (xs := [PyData.int 1, PyData.int 3, PyData.int 5, PyData.int 7, PyData.int 27, PyData.int 101]) a2 c2
  obtain ⟨s, rfl, s0, s1⟩ : ∃ a, v = .int a ∧ 1 ≤ a ∧ a ≤ 101 := by
    simp only [List.mem_cons, List.not_mem_nil, or_false] at mm
    rcases mm with rfl | rfl | rfl | rfl | rfl | rfl <;> exact ⟨_, rfl, by omega, by omega⟩
  refine ⟨_, e, by omega, by omega, ?_⟩
  rw [Int.toNat_natCast]
  refine for_range (fun i ρ => ∃ (ss : List Str) (ds' : List PyData), ss.length = i ∧ (∀ s ∈ ss, NameS s) ∧ BoxD ds' (n + 2 + 8 * i) ∧ ρ = [.own ds', .fz (.int m), .fz (.str (Str.ofString "abcdefghijklmnopqrstuvwxyz")), .own (ss.map .str), .fz (.int r1), .fz (.int s), .fz (.list (drawnWords.map .str)), .no, .no, .no, .no, .no]) ?_ ?_ ?_
  · exact ⟨[], d2, rfl, by simp, b2, rfl⟩
  · rintro i ρ hi ⟨ss, d3, ls, hss, b3, rfl⟩
    unfold F__law_names_5
    walk_at "f"
    refine ⟨.inl ⟨by omega, by omega⟩, ?_⟩
    refine take_step b3 (by decide) (by decide) (by omega) fun r4 d4 a4 c4 b4 => ⟨by omega, by omega, ?_⟩
    have own0 : 0 ≤ (r1 + s * (i : Int)) % 676 := Int.emod_nonneg _ (by decide)
    have own1 : (r1 + s * (i : Int)) % 676 < 676 := Int.emod_lt_of_pos _ (by decide)
    generalize (r1 + s * (i : Int)) % 676 = own at own0 own1
    refine lc_inv (List.range (1 + r4).toNat) (fun k : Nat => .int (0 + (k : Int))) (fun j acc ρ => ∃ (cs : List Nat) (d5 : List PyData), cs.length = j ∧ (∀ c ∈ cs, 97 ≤ c ∧ c ≤ 122) ∧ BoxD d5 (n + 2 + 8 * i + 1 + j) ∧ acc = cs.map (fun c => PyData.str ⟨#[c]⟩) ∧
      ρ = [.own d5, .fz (.int m), .fz (.str (Str.ofString "abcdefghijklmnopqrstuvwxyz")), .own (ss.map .str), .fz (.int r1), .fz (.int s), .fz (.list (drawnWords.map .str)), .fz (.int i), .fz (.int own), .no, .no, .no]) rfl rfl ?_ ?_ ?_
    · exact ⟨[], d4, rfl, by simp, b4, rfl, rfl⟩
    · rintro j x acc ρ hx hj ⟨cs, d5, lc, hcs, b5, rfl, rfl⟩
      rw [List.length_range] at hj
      unfold F__law_names_4
      walk_at "f"
      refine take_step b5 (by decide) (by decide) (by omega) fun r6 d6 a6 c6 b6 => ⟨la, ?_⟩
      obtain ⟨c, ec, c97, c122⟩ := abc_sign a6 c6
      refine ⟨c, ec, by rw [List.length_map]; omega, cs ++ [c], d6, by rw [List.length_append, lc]; rfl, fun x hx => ?_, b6.mono (by omega), by rw [List.map_append]; rfl, rfl⟩
      rcases List.mem_append.mp hx with h | h
      · exact hcs x h
      · rw [List.mem_singleton.mp h]; exact ⟨c97, c122⟩
    · rintro acc ρ ⟨cs, d5, lc, hcs, b5, rfl, eρ⟩
      rw [List.length_range] at lc b5
      rw [eρ]
      have jc := tl_joinC cs
      have jl : (tl (Str.join (Str.ofString "") (cs.map fun c => (⟨#[c]⟩ : Str)))).length ≤ 6 := by rw [jc, lc]; omega
      have js : ∀ c ∈ tl (Str.join (Str.ofString "") (cs.map fun c => (⟨#[c]⟩ : Str))), 97 ≤ c ∧ c ≤ 122 := by rw [jc]; exact hcs
      have e1 : ((cs.map fun c => (⟨#[c]⟩ : Str)).map (·.length)).sum = cs.length := by
        rw [List.map_map]
        clear jc jl js hcs lc
        induction cs with
        | nil => rfl
        | cons c r ih =>
          rw [List.map_cons, List.sum_cons, ih]
          show 1 + r.length = r.length + 1
          omega
      have e2 : (Str.ofString "").length = 0 := by decide +kernel
      unfold mJoin
      walk_at "f"
      refine strsF_f ⟨?_, ?_⟩
      · rw [e1, e2]
        omega
      rw [show Txt.join (Str.ofString "") (cs.map fun c => (⟨#[c]⟩ : Str)) = Str.join (Str.ofString "") (cs.map fun c => (⟨#[c]⟩ : Str)) from join_eq _ _]
      generalize Str.join (Str.ofString "") (cs.map fun c => (⟨#[c]⟩ : Str)) = tail at jl js
      obtain ⟨x, ex, x97, x122⟩ := abc_sign (d := own / 26) (by omega) (by omega)
      obtain ⟨y, ey, y97, y122⟩ := abc_sign (d := own % 26) (by omega) (by omega)
      have n0 : NameS (((⟨#[x]⟩ : Str) ++ (⟨#[y]⟩ : Str)) ++ tail) := name_two ⟨x97, x122⟩ ⟨y97, y122⟩ jl js
      have add : ∀ s', NameS s' → ∀ s'' ∈ ss ++ [s'], NameS s'' := fun s' hs' y hy => by
        rcases List.mem_append.mp hy with h | h
        · exact hss y h
        · rw [List.mem_singleton.mp h]; exact hs'
      refine ⟨⟨by decide, by decide⟩, la, x, ex, la, y, ey, by show 1 + 1 ≤ sizeLine; decide, by rw [len_tl tail, lin]; show 2 + _ ≤ _; omega, ?_⟩
      by_cases h13 : (m : Int) < 13
      · rw [if_pos h13]
        refine take_step b5 (by decide) (by decide) (by omega) fun r6 d6 a6 c6 b6 => ?_
        by_cases h6 : r6 = 0
        · rw [if_pos h6]
          have hi13 : i < drawnWords.length := by show i < 12; omega
          have wok := drawnWords_ok _ (List.getElem_mem hi13)
          refine ⟨.str drawnWords[i], by rw [atI_map]; unfold atI; rw [ixN_nat hi13]; show (drawnWords[i]?).map _ = _; rw [List.getElem?_eq_getElem hi13]; rfl, ?_⟩
          exact f_names_3 own0 own1 (by omega) wok fun s' hs' => ⟨ss ++ [s'], d6, by rw [List.length_append, ls]; rfl, add s' hs', b6.mono (by omega), rfl⟩
        · rw [if_neg h6]
          exact f_names_3 own0 own1 (by omega) n0 fun s' hs' => ⟨ss ++ [s'], d6, by rw [List.length_append, ls]; rfl, add s' hs', b6.mono (by omega), rfl⟩
      · rw [if_neg h13]
        exact f_names_3 own0 own1 (by omega) n0 fun s' hs' => ⟨ss ++ [s'], d5, by rw [List.length_append, ls]; rfl, add s' hs', b5.mono (by omega), rfl⟩
  · rintro ρ ⟨ss, d3, ls, hss, b3, rfl⟩
    unfold F__law_names_1
    walk_at "f"
    exact h ss d3 _ ls hss (b3.mono (by omega))
/-! ### whether any thing is a deed, over data -/
theorem f_wholeA {B : Nat} {d : PyData} {lo hi : Int} (h : okD B d = true) {P : PyData → List Sl → Prop} (q : ∀ sl, P (.bool (wholeD d lo hi)) sl) : F_is_whole [.fz d, .fz (.int lo), .fz (.int hi)] P := by
  unfold F_is_whole
  cases d with
  | dict _ => cases h
  | int i =>
    walk_at "w"
    have q : ∀ sl, P (.bool (decide (lo ≤ i) && decide (i ≤ hi))) sl := q
    by_cases c : lo ≤ i
    · rw [decide_eq_true c, Bool.true_and] at q
      rw [if_pos c]
      exact q _
    · rw [decide_eq_false c, Bool.false_and] at q
      rw [if_neg c]
      exact q _
  | bool b =>
    walk_at "w"
    exact q _
  | none => walk_at "w"; exact q _
  | str _ => walk_at "w"; exact q _
  | list _ => walk_at "w"; exact q _
  | tuple _ => walk_at "w"; exact q _
theorem f_nameA {B : Nat} {d : PyData} (h : okD B d = true) {P : PyData → List Sl → Prop} (q : ∀ sl, P (.bool (nameD d)) sl) : F_is_name [.fz d] P := by
  have lin : sizeLine = 16777216 := by decide +kernel
  unfold F_is_name
  cases d with
  | dict _ => cases h
  | str s =>
    have ln : s.length = (tl s).length := Array.length_toList.symm
    have hs : (decide (s.length ≤ 25) && s.cps.all (· < 0x110000)) = true := h
    rw [Bool.and_eq_true, decide_eq_true_eq] at hs
    have e0 : nameD (.str s) = (decide (1 ≤ s.length) && (decide (s.length ≤ 8) && (tl s).all fun c => decide (97 ≤ c ∧ c ≤ 122))) := rfl
    rw [e0] at q
    walk_at "w"
    refine ⟨by omega, ?_⟩
    by_cases c1 : 1 ≤ s.length
    · rw [decide_eq_true c1, Bool.true_and] at q
      by_cases c2 : s.length ≤ 8
      · rw [decide_eq_true c2, Bool.true_and] at q
        refine if1 (by omega) (if0 (by omega) ?_)
        unfold F_is_name_2
        walk_at "w"
        refine lc_map (tl s) (fun c => .str ⟨#[c]⟩) (fun c => some (.bool (decide (97 ≤ c ∧ c ≤ 122)))) rfl rfl (by omega) (fun c R acc hc hacc hR => ?_) ?_
        · unfold F_is_name_1
          walk_at "w"
          refine ⟨c, rfl, ?_⟩
          rw [show (Str.ofString "abcdefghijklmnopqrstuvwxyz").cps.toList = tl (Str.ofString "abcdefghijklmnopqrstuvwxyz") from rfl, small_mem]
          exact ⟨hacc, hR⟩
        · rw [filterMap_some, show ((tl s).map fun c => PyData.bool (decide (97 ≤ c ∧ c ≤ 122))) = ((tl s).map fun c => decide (97 ≤ c ∧ c ≤ 122)).map PyData.bool from by rw [List.map_map]; rfl]
          refine boolsF_map ?_
          rw [List.all_map]
          exact q _
      · rw [decide_eq_false c2, Bool.false_and] at q
        refine if1 (by omega) (if1 (by omega) ?_)
        exact q _
    · rw [decide_eq_false c1, Bool.false_and] at q
      refine if0 (by omega) ?_
      exact q _
  | int _ => walk_at "w"; exact q _
  | bool _ => walk_at "w"; exact q _
  | none => walk_at "w"; exact q _
  | tuple _ => walk_at "w"; exact q _
  | list _ => walk_at "w"; exact q _
/-! ### tags of anything: made, or refused -/
/-- a tag's five fields as told -/
structure FiveA where
  owner : PyData
  number : PyData
  price : PyData
  least : PyData
  day : PyData
/-- the first one that isn't so -/
def FiveA.fault (f : FiveA) : String :=
  if nameD f.owner = true then
    if wholeD f.number 1 9999 = true then
      match f.price with
      | .int p => if 1 ≤ p ∧ p ≤ 99999 then (if wholeD f.least 0 p = true then (if wholeD f.day 0 999 = true then "" else "day") else "least") else "price"
      | _ => "price"
    else "number"
  else "owner"
def FiveA.ds (f : FiveA) : List PyData := [f.owner, f.number, f.price, f.least, f.day]
structure FiveA.Ok (B : Nat) (f : FiveA) : Prop where
  o : okD B f.owner = true
  n : okD B f.number = true
  p : okD B f.price = true
  l : okD B f.least = true
  d : okD B f.day = true
def aTagFs (f : FiveA) : List (PyData × PyData) := [(.str (Str.ofString "owner"), f.owner), (.str (Str.ofString "number"), f.number), (.str (Str.ofString "price"), f.price), (.str (Str.ofString "least"), f.least), (.str (Str.ofString "day"), f.day)]
theorem puts_tag (f : FiveA) : putD (Str.ofString "day") f.day (putD (Str.ofString "least") f.least (putD (Str.ofString "price") f.price (putD (Str.ofString "number") f.number (putD (Str.ofString "owner") f.owner [])))) = aTagFs f := by
  have h1 : ¬ (Str.ofString "owner" = Str.ofString "number") := by decide +kernel
  have h2 : ¬ (Str.ofString "owner" = Str.ofString "price") := by decide +kernel
  have h3 : ¬ (Str.ofString "number" = Str.ofString "price") := by decide +kernel
  have h4 : ¬ (Str.ofString "owner" = Str.ofString "least") := by decide +kernel
  have h5 : ¬ (Str.ofString "number" = Str.ofString "least") := by decide +kernel
  have h6 : ¬ (Str.ofString "price" = Str.ofString "least") := by decide +kernel
  have h7 : ¬ (Str.ofString "owner" = Str.ofString "day") := by decide +kernel
  have h8 : ¬ (Str.ofString "number" = Str.ofString "day") := by decide +kernel
  have h9 : ¬ (Str.ofString "price" = Str.ofString "day") := by decide +kernel
  have h0 : ¬ (Str.ofString "least" = Str.ofString "day") := by decide +kernel
  simp [aTagFs, putD, h1, h2, h3, h4, h5, h6, h7, h8, h9, h0]
/-- the law's own test -/
theorem f_lwholeA {B : Nat} {d : PyData} {lo hi : Int} (h : okD B d = true) {P : PyData → List Sl → Prop} (q : ∀ sl, P (.bool (wholeD d lo hi)) sl) : F__law_whole [.fz d, .fz (.int lo), .fz (.int hi)] P := by
  unfold F__law_whole
  cases d with
  | dict _ => cases h
  | int i =>
    walk_at "w"
    have q : ∀ sl, P (.bool (decide (lo ≤ i) && decide (i ≤ hi))) sl := q
    by_cases c : lo ≤ i
    · rw [decide_eq_true c, Bool.true_and] at q
      rw [if_pos c]
      exact q _
    · rw [decide_eq_false c, Bool.false_and] at q
      rw [if_neg c]
      exact q _
  | _ => walk_at "w"; exact q _
/-- a Tag of anything: made, or refused by the first fault -/
theorem f_Tag_init {B : Nat} {f : FiveA} (ok : f.Ok B) {x : Addr} {P : PyData → List Sl → Prop} {X : PyData → En → Prop}
    (yes : f.fault = "" → ∀ s1 s2 s3 s4 s5 s6 S, S x = some (.obj "Tag" (aTagFs f)) → P .none [s1, s2, s3, s4, s5, s6, .st S]) (no : ∀ e, f.fault ≠ "" → X (excD "BadTag" (.str (Str.ofString f.fault))) e) :
    F_Tag_init [.fz (hdl x), .fz f.owner, .fz f.number, .fz f.price, .fz f.least, .fz f.day, .st (sto1 x "Tag")] P X := by
  unfold F_Tag_init
  walk_at "w"
  refine f_nameA ok.o fun _ => ?_
  have e0 : f.fault = if nameD f.owner = true then
    if wholeD f.number 1 9999 = true then
      match f.price with
      | .int p => if 1 ≤ p ∧ p ≤ 99999 then (if wholeD f.least 0 p = true then (if wholeD f.day 0 999 = true then "" else "day") else "least") else "price"
      | _ => "price"
    else "number"
  else "owner" := rfl
  cases c1 : nameD f.owner with
  | false =>
    walk_at "w"
    rw [c1] at e0
    have e1 : f.fault = "owner" := e0
    rw [e1] at no
    exact no _ (by decide)
  | true =>
    walk_at "w"
    unfold F_Tag_init_5
    walk_at "w"
    refine f_wholeA ok.n fun _ => ?_
    rw [c1, if_pos rfl] at e0
    cases c2 : wholeD f.number 1 9999 with
    | false =>
      walk_at "w"
      rw [c2] at e0
      have e1 : f.fault = "number" := e0
      rw [e1] at no
      exact no _ (by decide)
    | true =>
      walk_at "w"
      unfold F_Tag_init_4
      walk_at "w"
      refine f_wholeA ok.p fun _ => ?_
      rw [c2, if_pos rfl] at e0
      cases c3 : wholeD f.price 1 99999 with
      | false =>
        walk_at "w"
        have e1 : f.fault = "price" := by
          rw [e0]
          split
          · next p ep =>
            rw [ep] at c3
            have c3 : (decide (1 ≤ p) && decide (p ≤ 99999)) = false := c3
            rw [if_neg]
            rintro ⟨a, b⟩
            rw [decide_eq_true a, decide_eq_true b] at c3
            cases c3
          · rfl
        rw [e1] at no
        exact no _ (by decide)
      | true =>
        walk_at "w"
        obtain ⟨p, ep, p1, p2⟩ : ∃ p, f.price = .int p ∧ 1 ≤ p ∧ p ≤ 99999 := by
          cases hp : f.price with
          | int p =>
            rw [hp] at c3
            have c3 : (decide (1 ≤ p) && decide (p ≤ 99999)) = true := c3
            rw [Bool.and_eq_true, decide_eq_true_eq, decide_eq_true_eq] at c3
            exact ⟨p, rfl, c3⟩
          | _ => rw [hp] at c3; cases c3
        have e2 : f.fault = if wholeD f.least 0 p = true then (if wholeD f.day 0 999 = true then "" else "day") else "least" := by
          rw [e0, ep]
          exact if_pos ⟨p1, p2⟩
        unfold F_Tag_init_3
        rw [ep]
        walk_at "w"
        refine f_wholeA ok.l fun _ => ?_
        cases c4 : wholeD f.least 0 p with
        | false =>
          walk_at "w"
          rw [c4] at e2
          have e1 : f.fault = "least" := e2
          rw [e1] at no
          exact no _ (by decide)
        | true =>
          walk_at "w"
          rw [c4, if_pos rfl] at e2
          unfold F_Tag_init_2
          walk_at "w"
          refine f_wholeA ok.d fun _ => ?_
          cases c5 : wholeD f.day 0 999 with
          | false =>
            walk_at "w"
            rw [c5] at e2
            have e1 : f.fault = "day" := e2
            rw [e1] at no
            exact no _ (by decide)
          | true =>
            walk_at "w"
            rw [c5] at e2
            have e1 : f.fault = "" := e2
            unfold F_Tag_init_1
            walk_at "w"
            rw [← ep]
            refine ⟨x, [], rfl, sset_same, Nat.zero_lt_succ _, ?_⟩
            refine ⟨x, _, rfl, sset_same, Nat.le_of_ble_eq_true rfl, ?_⟩
            refine ⟨x, _, rfl, sset_same, Nat.le_of_ble_eq_true rfl, ?_⟩
            refine ⟨x, _, rfl, sset_same, Nat.le_of_ble_eq_true rfl, ?_⟩
            refine ⟨x, _, rfl, sset_same, Nat.le_of_ble_eq_true rfl, ?_⟩
            exact yes e1 _ _ _ _ _ _ _ (sset_same.trans (by rw [puts_tag]))
/-! ### the law's own first fault -/
theorem sign_le (a b : Nat) : (!decide (([b] : List Nat) < [a])) = decide (a ≤ b) := by
  have e : (([b] : List Nat) < [a]) ↔ b < a := by
    constructor
    · intro h
      cases h with
      | rel h => exact h
      | cons h => cases h
    · intro h
      exact .rel h
  by_cases h : a ≤ b
  · rw [decide_eq_true h, decide_eq_false (fun z => absurd (e.mp z) (by omega))]
    rfl
  · rw [decide_eq_false h, decide_eq_true (e.mpr (by omega))]
    rfl
def FiveA.d (f : FiveA) : PyData := .tuple f.ds
theorem f_fault_4 {B : Nat} {f : FiveA} (ok : f.Ok B) (c1 : nameD f.owner = true) {E : FEnds} {s1 s2 : Sl} (q : ∀ e, E.rt (.str (Str.ofString f.fault)) e) : F__law_fault_4 E [.fz f.d, s1, s2] := by
  unfold FiveA.d FiveA.ds F__law_fault_4
  walk_at "w"
  refine f_lwholeA ok.n fun _ => ?_
  have e0 : f.fault = if nameD f.owner = true then
    if wholeD f.number 1 9999 = true then
      match f.price with
      | .int p => if 1 ≤ p ∧ p ≤ 99999 then (if wholeD f.least 0 p = true then (if wholeD f.day 0 999 = true then "" else "day") else "least") else "price"
      | _ => "price"
    else "number"
  else "owner" := rfl
  rw [c1, if_pos rfl] at e0
  cases c2 : wholeD f.number 1 9999 with
  | false =>
    walk_at "w"
    rw [c2] at e0
    have e1 : f.fault = "number" := e0
    rw [e1] at q
    exact q _
  | true =>
    walk_at "w"
    unfold F__law_fault_3
    walk_at "w"
    refine f_lwholeA ok.p fun _ => ?_
    rw [c2, if_pos rfl] at e0
    cases c3 : wholeD f.price 1 99999 with
    | false =>
      walk_at "w"
      have e1 : f.fault = "price" := by
        rw [e0]
        split
        · next p ep =>
          rw [ep] at c3
          have c3 : (decide (1 ≤ p) && decide (p ≤ 99999)) = false := c3
          rw [if_neg]
          rintro ⟨a, b⟩
          rw [decide_eq_true a, decide_eq_true b] at c3
          cases c3
        · rfl
      rw [e1] at q
      exact q _
    | true =>
      walk_at "w"
      obtain ⟨p, ep, p1, p2⟩ : ∃ p, f.price = .int p ∧ 1 ≤ p ∧ p ≤ 99999 := by
        cases hp : f.price with
        | int p =>
          rw [hp] at c3
          have c3 : (decide (1 ≤ p) && decide (p ≤ 99999)) = true := c3
          rw [Bool.and_eq_true, decide_eq_true_eq, decide_eq_true_eq] at c3
          exact ⟨p, rfl, c3⟩
        | _ => rw [hp] at c3; cases c3
      have e2 : f.fault = if wholeD f.least 0 p = true then (if wholeD f.day 0 999 = true then "" else "day") else "least" := by
        rw [e0, ep]
        exact if_pos ⟨p1, p2⟩
      unfold F__law_fault_2
      walk_at "w"
      rw [ep]
      refine f_lwholeA ok.l fun _ => ?_
      cases c4 : wholeD f.least 0 p with
      | false =>
        walk_at "w"
        rw [c4] at e2
        have e1 : f.fault = "least" := e2
        rw [e1] at q
        exact q _
      | true =>
        walk_at "w"
        rw [c4, if_pos rfl] at e2
        unfold F__law_fault_1
        walk_at "w"
        refine f_lwholeA ok.d fun _ => ?_
        rw [e2] at q
        cases c5 : wholeD f.day 0 999 with
        | false =>
          walk_at "w"
          rw [c5] at q
          exact q _
        | true =>
          walk_at "w"
          rw [c5] at q
          exact q _
theorem f_fault {B : Nat} {f : FiveA} (ok : f.Ok B) {P : PyData → List Sl → Prop} (q : ∀ sl, P (.str (Str.ofString f.fault)) sl) : F__law_fault [.fz f.d] P := by
  have lin : sizeLine = 16777216 := by decide +kernel
  have no : nameD f.owner = false → f.fault = "owner" := fun h => by
    show (if nameD f.owner = true then _ else "owner") = _
    rw [h]; rfl
  unfold F__law_fault
  have hk : okD B f.owner = true := ok.o
  unfold FiveA.d FiveA.ds
  cases ho : f.owner with
  | str s =>
    have ed : PyData.tuple [PyData.str s, f.number, f.price, f.least, f.day] = f.d := by unfold FiveA.d FiveA.ds; rw [ho]
    have ln : s.length = (tl s).length := Array.length_toList.symm
    rw [ho] at hk
    have hs : (decide (s.length ≤ 25) && s.cps.all (· < 0x110000)) = true := hk
    rw [Bool.and_eq_true, decide_eq_true_eq] at hs
    have e0 : nameD f.owner = (decide (1 ≤ s.length) && (decide (s.length ≤ 8) && (tl s).all fun c => decide (97 ≤ c ∧ c ≤ 122))) := by rw [ho]; rfl
    walk_at "w"
    rw [ed]
    refine ⟨by omega, ?_⟩
    by_cases c1 : 1 ≤ s.length
    · rw [decide_eq_true c1, Bool.true_and] at e0
      by_cases c2 : s.length ≤ 8
      · rw [decide_eq_true c2, Bool.true_and] at e0
        refine if1 (by omega) (if0 (by omega) ?_)
        refine lc_map (tl s) (fun c => .str ⟨#[c]⟩) (fun c => some (.bool (decide (97 ≤ c ∧ c ≤ 122)))) rfl rfl (by omega) (fun c R acc hc hacc hR => ?_) ?_
        · unfold F__law_fault_5
          walk_at "w"
          have e1 : (!decide (([c] : List Nat) < tl (Str.ofString "a"))) = decide (97 ≤ c) := sign_le 97 c
          have e2 : (!decide (tl (Str.ofString "z") < ([c] : List Nat))) = decide (c ≤ 122) := sign_le c 122
          have ea : (Str.ofString "a").cps.toList = [97] := by decide +kernel
          have ez : (Str.ofString "z").cps.toList = [122] := by decide +kernel
          rw [show tl (Str.ofString "a") = [97] from ea] at e1
          rw [show tl (Str.ofString "z") = [122] from ez] at e2
          rw [ea, ez, e2]
          have hR : R (acc ++ [PyData.bool (decide (97 ≤ c ∧ c ≤ 122))]) [Sl.fz f.d, Sl.fz (PyData.str s), Sl.no] := hR
          rw [Bool.decide_and, ← e1] at hR
          by_cases cc : ([c] : List Nat) < [97]
          · rw [if_pos cc]
            rw [decide_eq_true cc, Bool.not_true, Bool.false_and] at hR
            exact ⟨hacc, hR⟩
          · rw [if_neg cc]
            rw [decide_eq_false cc, Bool.not_false, Bool.true_and] at hR
            exact ⟨hacc, hR⟩
        · rw [filterMap_some, show ((tl s).map fun c => PyData.bool (decide (97 ≤ c ∧ c ≤ 122))) = ((tl s).map fun c => decide (97 ≤ c ∧ c ≤ 122)).map PyData.bool from by rw [List.map_map]; rfl]
          refine boolsF_map ?_
          rw [List.all_map]
          cases c3 : (tl s).all (id ∘ fun c => decide (97 ≤ c ∧ c ≤ 122)) with
          | false =>
            refine if1 rfl ?_
            rw [show nameD f.owner = false from e0.trans c3] at no
            rw [no rfl] at q
            exact q _
          | true =>
            refine if0 (by decide) ?_
            exact f_fault_4 ok (e0.trans c3) fun _ => q _
      · rw [decide_eq_false c2, Bool.false_and] at e0
        refine if1 (by omega) (if1 (by omega) ?_)
        rw [no e0] at q
        exact q _
    · rw [decide_eq_false c1, Bool.false_and] at e0
      refine if0 (by omega) ?_
      rw [no e0] at q
      exact q _
  | dict _ => rw [ho] at hk; cases hk
  | _ =>
    walk_at "w"
    have e := no (by rw [ho]; rfl)
    rw [e] at q
    exact q _
/-! ### a tag told: its fields, or the fault -/
def aTagD (f : FiveA) : PyData := .dict ((.str (Str.ofString "Tag"), .none) :: aTagFs f)
theorem aobj {f : FiveA} {k : List (PyData × PyData) → Prop} : objF (Str.ofString "Tag") (aTagD f) k = k (aTagFs f) := by
  unfold objF aTagD
  exact propext ⟨fun h => h.2, fun h => ⟨rfl, h⟩⟩
theorem aT_owner (f : FiveA) : fldD (Str.ofString "owner") (aTagFs f) = some f.owner := by
  unfold aTagFs fldD
  rw [if_pos rfl]
theorem aT_number (f : FiveA) : fldD (Str.ofString "number") (aTagFs f) = some f.number := by
  unfold aTagFs
  rw [fldD, if_neg (by decide +kernel), fldD, if_pos rfl]
theorem aT_price (f : FiveA) : fldD (Str.ofString "price") (aTagFs f) = some f.price := by
  unfold aTagFs
  rw [fldD, if_neg (by decide +kernel), fldD, if_neg (by decide +kernel), fldD, if_pos rfl]
theorem aT_least (f : FiveA) : fldD (Str.ofString "least") (aTagFs f) = some f.least := by
  unfold aTagFs
  rw [fldD, if_neg (by decide +kernel), fldD, if_neg (by decide +kernel), fldD, if_neg (by decide +kernel), fldD, if_pos rfl]
theorem aT_day (f : FiveA) : fldD (Str.ofString "day") (aTagFs f) = some f.day := by
  unfold aTagFs
  rw [fldD, if_neg (by decide +kernel), fldD, if_neg (by decide +kernel), fldD, if_neg (by decide +kernel), fldD, if_neg (by decide +kernel), fldD, if_pos rfl]
theorem f_fields {f : FiveA} {P : PyData → List Sl → Prop} (q : ∀ sl, P f.d sl) : F__law_fields [.fz (aTagD f)] P := by
  unfold F__law_fields
  walk_at "w"
  rw [aobj]
  refine ⟨_, aT_owner f, ?_⟩
  rw [aobj]
  refine ⟨_, aT_number f, ?_⟩
  rw [aobj]
  refine ⟨_, aT_price f, ?_⟩
  rw [aobj]
  refine ⟨_, aT_least f, ?_⟩
  rw [aobj]
  refine ⟨_, aT_day f, ?_⟩
  exact q _
theorem f_told {B : Nat} {f : FiveA} (ok : f.Ok B) {b : Bool} {P : PyData → List Sl → Prop} (yes : f.fault = "" → ∀ sl, P f.d sl) (no : f.fault ≠ "" → ∀ sl, P (.str (Str.ofString f.fault)) sl) : F__law_told [.fz f.d, .fz (.bool b)] P := by
  unfold F__law_told FiveA.d FiveA.ds
  walk_at "w"
  rw [ite_self]
  intro x
  refine f_Tag_init ok (fun e _ _ _ _ _ _ S hS => ⟨rfl, S, aTagD f, rfl, .obj hS (.cons (.refl _) (.cons (.refl _) (.cons (.refl _) (.cons (.refl _) (.cons (.refl _) .nil))))), ?_⟩) fun en e => ?_
  · unfold F__law_told_2
    walk_at "w"
    exact f_fields fun _ => yes e _
  · refine ⟨true, if_pos rfl, ?_⟩
    rw [if_pos rfl]
    unfold F__law_told_2
    walk_at "w"
    unfold F__law_told_1
    walk_at "w"
    exact ⟨.head _, no e _⟩
theorem FiveA.right {f : FiveA} (r : f.fault = "") : ∃ l d, f.least = .int l ∧ f.day = .int d := by
  have e0 : f.fault = if nameD f.owner = true then
    if wholeD f.number 1 9999 = true then
      match f.price with
      | .int p => if 1 ≤ p ∧ p ≤ 99999 then (if wholeD f.least 0 p = true then (if wholeD f.day 0 999 = true then "" else "day") else "least") else "price"
      | _ => "price"
    else "number"
  else "owner" := rfl
  rw [e0] at r
  split at r
  · split at r
    · split at r
      · split at r
        · split at r
          · split at r
            · next h1 h2 =>
              obtain ⟨l, el⟩ : ∃ l, f.least = .int l := by
                cases h : f.least with
                | int l => exact ⟨l, rfl⟩
                | _ => rw [h] at h1; cases h1
              obtain ⟨d, ed⟩ : ∃ l, f.day = .int l := by
                cases h : f.day with
                | int l => exact ⟨l, rfl⟩
                | _ => rw [h] at h2; cases h2
              exact ⟨l, d, el, ed⟩
            · exact absurd r (by decide)
          · exact absurd r (by decide)
        · exact absurd r (by decide)
      · exact absurd r (by decide)
    · exact absurd r (by decide)
  · exact absurd r (by decide)
theorem f_mk {B : Nat} {f : FiveA} (ok : f.Ok B) (r : f.fault = "") {x : Addr} {R : PyData → Prop} {X : PyData → En → Prop} (q : R (aTagD f)) :
    F_Tag_init [.fz (hdl x), .fz f.owner, .fz f.number, .fz f.price, .fz f.least, .fz f.day, .st (sto1 x (Str.ofString "Tag"))] (fun d out => d = .none ∧ ∃ S' o, out[6]? = some (.st S') ∧ Res S' (hdl x) o ∧ R o) X :=
  f_Tag_init ok (fun _ _ _ _ _ _ _ S hS => ⟨rfl, S, aTagD f, rfl, .obj hS (.cons (.refl _) (.cons (.refl _) (.cons (.refl _) (.cons (.refl _) (.cons (.refl _) .nil))))), q⟩) fun _ n => absurd r n
theorem eqv_00 (a b : Int) : (PyData.tuple [.int a, .int b]).eqv (.tuple [.int 0, .int 0]) = decide (a = 0 ∧ b = 0) := by
  rw [Bool.decide_and]
  simp only [PyData.eqv, PyData.eqvAll, Bool.and_true]
  rfl
theorem eqv_0 (a : Int) : (PyData.int a).eqv (.int 0) = decide (a = 0) := by
  simp only [PyData.eqv]
  rfl
/-- a tag made as the law makes it, of what is right -/
theorem f_made {B : Nat} {f : FiveA} (ok : f.Ok B) (r : f.fault = "") {ds : List PyData} {n : Nat} (hb : BoxD ds n) (hn : n < 10000000) {P : PyData → List Sl → Prop} (q : ∀ ds' sl, BoxD ds' (n + 1) → P (aTagD f) (.own ds' :: sl)) : F__law_made [.own ds, .fz f.d] P := by
  obtain ⟨l, d, el, ed⟩ := f.right r
  have mk : ∀ {x : Addr} {R : PyData → Prop} {X : PyData → En → Prop}, R (aTagD f) → F_Tag_init [.fz (hdl x), .fz f.owner, .fz f.number, .fz f.price, .fz (.int l), .fz (.int d), .st (sto1 x (Str.ofString "Tag"))] (fun d out => d = .none ∧ ∃ S' o, out[6]? = some (.st S') ∧ Res S' (hdl x) o ∧ R o) X := by
    intro x R X h
    rw [← el, ← ed]
    exact f_mk ok r h
  unfold F__law_made FiveA.d FiveA.ds
  rw [el, ed]
  walk_at "w"
  refine take_step hb (by decide) (by decide) (by omega) fun r1 d1 a1 c1 b1 => ?_
  walk_at "w"
  rw [eqv_00]
  have m3 : F__law_made_2 { nx := fun ρ' => P PyData.none (List.take 2 ρ'), rt := fun d ρ' => P d (List.take 2 ρ') }
      [Sl.own d1, Sl.fz (PyData.tuple [f.owner, f.number, f.price, PyData.int l, PyData.int d]), Sl.fz f.owner, Sl.fz f.number, Sl.fz f.price, Sl.fz (PyData.int l), Sl.fz (PyData.int d), Sl.fz (PyData.int r1)] := by
    unfold F__law_made_2
    walk_at "w"
    refine ite2 (fun _ => fun x => mk (q _ _ b1)) fun _ => ?_
    unfold F__law_made_1
    walk_at "w"
    exact fun x => mk (q _ _ b1)
  have m2 : F__law_made_3 { nx := fun ρ' => P PyData.none (List.take 2 ρ'), rt := fun d ρ' => P d (List.take 2 ρ') }
      [Sl.own d1, Sl.fz (PyData.tuple [f.owner, f.number, f.price, PyData.int l, PyData.int d]), Sl.fz f.owner, Sl.fz f.number, Sl.fz f.price, Sl.fz (PyData.int l), Sl.fz (PyData.int d), Sl.fz (PyData.int r1)] := by
    unfold F__law_made_3
    walk_at "w"
    refine ite2 (fun _ => ⟨rfl, rfl, by rw [eqv_0]; exact ite2 (fun hd => by rw [← of_decide_eq_true hd]; exact fun x => mk (q _ _ b1)) fun _ => m3⟩) fun _ => m3
  have m1 : F__law_made_4 { nx := fun ρ' => P PyData.none (List.take 2 ρ'), rt := fun d ρ' => P d (List.take 2 ρ') }
      [Sl.own d1, Sl.fz (PyData.tuple [f.owner, f.number, f.price, PyData.int l, PyData.int d]), Sl.fz f.owner, Sl.fz f.number, Sl.fz f.price, Sl.fz (PyData.int l), Sl.fz (PyData.int d), Sl.fz (PyData.int r1)] := by
    unfold F__law_made_4
    walk_at "w"
    refine ite2 (fun _ => ⟨rfl, rfl, by rw [eqv_0]; exact ite2 (fun hl => by rw [← of_decide_eq_true hl]; exact fun x => mk (q _ _ b1)) fun _ => m2⟩) fun _ => m2
  refine ite2 (fun _ => ⟨rfl, rfl, ite2 (fun h => ?_) fun _ => m1⟩) fun _ => m1
  obtain ⟨hl, hd⟩ := of_decide_eq_true h
  subst hl hd
  exact fun x => mk (q _ _ b1)
/-! ### one of the five otherwise -/
theorem FiveA.Ok.mono {B B' : Nat} {f : FiveA} (ok : f.Ok B) (h : B ≤ B') : f.Ok B' := ⟨okD.mono h ok.o, okD.mono h ok.n, okD.mono h ok.p, okD.mono h ok.l, okD.mono h ok.d⟩
theorem at_ok {C : Nat} {L : List PyData} {r : Int} (h : ∀ x ∈ L, okD C x = true) (h0 : 0 ≤ r) (h1 : r < L.length) : ∃ x, atI L r = some x ∧ okD C x = true := by
  obtain ⟨k, rfl⟩ : ∃ k : Nat, r = k := ⟨r.toNat, by omega⟩
  have hk : k < L.length := by omega
  exact ⟨L[k], atI_nat (List.getElem?_eq_getElem hk), h _ (List.getElem_mem hk)⟩
theorem f_odd_1 {C : Nat} (hC : 1000000000 ≤ C) {f : FiveA} (ok : f.Ok C) {p : PyData} {L1 L2 L3 L4 d2 : List PyData} {r1 r2 : Int} (a1 : 0 ≤ r1) (c1 : r1 < 5) (a2 : 0 ≤ r2) (c2 : r2 < 12)
    (h1 : ∀ x ∈ L1, okD C x = true) (l1 : L1.length = 12) (h2 : ∀ x ∈ L2, okD C x = true) (l2 : L2.length = 12) (h3 : ∀ x ∈ L3, okD C x = true) (l3 : L3.length = 12) (h4 : ∀ x ∈ L4, okD C x = true) (l4 : L4.length = 12)
    {E : FEnds} (q : ∀ (f' : FiveA) e, f'.Ok C → E.rt f'.d (.own d2 :: e)) : F__law_odd_1 E [.own d2, .fz f.d, .fz (.int r1), .fz (.int r2), .fz p, .fz (.list L1), .fz (.list L2), .fz (.list L3), .own L4, .no, .no] := by
  have lin : sizeLine = 16777216 := by decide +kernel
  unfold F__law_odd_1 FiveA.d FiveA.ds
  walk_at "w"
  refine ⟨by unfold CPow; decide, ?_⟩
  have h5 : ∀ x ∈ [PyData.int 0, .int 999, .int 1000, .int (-1), .none, .str (Str.ofString "0"), .bool true, .bool false, .int 1000000000, .str (Str.ofString ""), .int 1, .int 998], okD C x = true := fun x hx => okD.mono hC (okAll_iff.mp (by decide +kernel : okAll 1000000000 [PyData.int 0, .int 999, .int 1000, .int (-1), .none, .str (Str.ofString "0"), .bool true, .bool false, .int 1000000000, .str (Str.ofString ""), .int 1, .int 998] = true) x hx)
  rcases (show r1 = 0 ∨ r1 = 1 ∨ r1 = 2 ∨ r1 = 3 ∨ r1 = 4 by omega) with rfl | rfl | rfl | rfl | rfl
  · obtain ⟨x, ex, kx⟩ := at_ok h1 a2 (by omega)
    refine ⟨_, rfl, x, ex, by rw [lin]; exact Nat.le_of_ble_eq_true rfl, by rw [lin]; exact Nat.le_of_ble_eq_true rfl, ?_⟩
    exact q ⟨x, f.number, f.price, f.least, f.day⟩ _ ⟨kx, ok.n, ok.p, ok.l, ok.d⟩
  · obtain ⟨x, ex, kx⟩ := at_ok h2 a2 (by omega)
    refine ⟨_, rfl, x, ex, by rw [lin]; exact Nat.le_of_ble_eq_true rfl, by rw [lin]; exact Nat.le_of_ble_eq_true rfl, ?_⟩
    exact q ⟨f.owner, x, f.price, f.least, f.day⟩ _ ⟨ok.o, kx, ok.p, ok.l, ok.d⟩
  · obtain ⟨x, ex, kx⟩ := at_ok h3 a2 (by omega)
    refine ⟨_, rfl, x, ex, by rw [lin]; exact Nat.le_of_ble_eq_true rfl, by rw [lin]; exact Nat.le_of_ble_eq_true rfl, ?_⟩
    exact q ⟨f.owner, f.number, x, f.least, f.day⟩ _ ⟨ok.o, ok.n, kx, ok.l, ok.d⟩
  · obtain ⟨x, ex, kx⟩ := at_ok h4 a2 (by omega)
    refine ⟨_, rfl, x, ex, by rw [lin]; exact Nat.le_of_ble_eq_true rfl, by rw [lin]; exact Nat.le_of_ble_eq_true rfl, ?_⟩
    exact q ⟨f.owner, f.number, f.price, x, f.day⟩ _ ⟨ok.o, ok.n, ok.p, kx, ok.d⟩
  · obtain ⟨x, ex, kx⟩ := at_ok h5 a2 (by show r2 < 12; omega)
    refine ⟨_, rfl, x, ex, by rw [lin]; exact Nat.le_of_ble_eq_true rfl, by rw [lin]; exact Nat.le_of_ble_eq_true rfl, ?_⟩
    exact q ⟨f.owner, f.number, f.price, f.least, x⟩ _ ⟨ok.o, ok.n, ok.p, ok.l, kx⟩
theorem f_odd {B : Nat} (hB : 1000000000000 ≤ B) {f : FiveA} (ok : f.Ok B) {ds : List PyData} {n : Nat} (hb : BoxD ds n) (hn : n < 10000000) {P : PyData → List Sl → Prop} (q : ∀ (f' : FiveA) ds' sl, f'.Ok (B + 1) → BoxD ds' (n + 2) → P f'.d (.own ds' :: sl)) : F__law_odd [.own ds, .fz f.d] P := by
  unfold F__law_odd FiveA.d FiveA.ds
  walk_at "w"
  refine take_step hb (by decide) (by decide) (by omega) fun r1 d1 a1 c1 b1 => ?_
  walk_at "w"
  refine take_step b1 (by decide) (by decide) (by omega) fun r2 d2 a2 c2 b2 => ?_
  walk_at "w"
  have fin : ∀ x, okD (B + 1) x = true → F__law_odd_1 { nx := fun ρ' => P PyData.none (List.take 2 ρ'), rt := fun d ρ' => P d (List.take 2 ρ') }
      [.own d2, .fz (.tuple [f.owner, f.number, f.price, f.least, f.day]), .fz (.int r1), .fz (.int r2), .fz f.price, .fz (.list [PyData.str (Str.ofString ""), .str (Str.ofString "abcdefghi"), .str (Str.ofString "Ann"), .str (Str.ofString "a-b"), .str (Str.ofString "a1"), .str (Str.ofString "ann "), .int 5, .none, .bool true, .str (Str.ofString "z"), .str (Str.ofString "abcdefgh"), .str (Str.ofString "{")]), .fz (.list [PyData.int 0, .int 1, .int 9999, .int 10000, .int (-1), .bool true, .none, .str (Str.ofString "1"), .str (Str.ofString ""), .int 1000000000, .bool false, .int 36]), .fz (.list [PyData.int 0, .int 1, .int 99999, .int 100000, .int (-1), .bool true, .none, .str (Str.ofString "1"), .str (Str.ofString ""), .int 1000000000000, .bool false, .int 36]), .own [x, .int 0, .int (-1), .none, .str (Str.ofString "0"), .bool true, .bool false, .int 1000000000, .str (Str.ofString ""), .int 99999, .int 100000, .int 1], .no, .no] := by
    intro x hx
    have k : ∀ {y}, okD 1000000000000 y = true → okD (B + 1) y = true := fun h => okD.mono (by omega) h
    refine f_odd_1 (C := B + 1) (by omega) (ok.mono (Nat.le_succ _)) a1 c1 a2 c2 ?_ rfl ?_ rfl ?_ rfl ?_ rfl fun f' e ok' => q f' d2 _ ok' b2
    · exact fun y hy => k (okAll_iff.mp (by decide +kernel : okAll 1000000000000 [PyData.str (Str.ofString ""), .str (Str.ofString "abcdefghi"), .str (Str.ofString "Ann"), .str (Str.ofString "a-b"), .str (Str.ofString "a1"), .str (Str.ofString "ann "), .int 5, .none, .bool true, .str (Str.ofString "z"), .str (Str.ofString "abcdefgh"), .str (Str.ofString "{")] = true) y hy)
    · exact fun y hy => k (okAll_iff.mp (by decide +kernel : okAll 1000000000000 [PyData.int 0, .int 1, .int 9999, .int 10000, .int (-1), .bool true, .none, .str (Str.ofString "1"), .str (Str.ofString ""), .int 1000000000, .bool false, .int 36] = true) y hy)
    · exact fun y hy => k (okAll_iff.mp (by decide +kernel : okAll 1000000000000 [PyData.int 0, .int 1, .int 99999, .int 100000, .int (-1), .bool true, .none, .str (Str.ofString "1"), .str (Str.ofString ""), .int 1000000000000, .bool false, .int 36] = true) y hy)
    · intro y hy
      rcases List.mem_cons.mp hy with rfl | hy
      · exact hx
      · exact k (okAll_iff.mp (by decide +kernel : okAll 1000000000000 [PyData.int 0, .int (-1), .none, .str (Str.ofString "0"), .bool true, .bool false, .int 1000000000, .str (Str.ofString ""), .int 99999, .int 100000, .int 1] = true) y hy)
  have hp := ok.p
  refine ⟨by unfold CPow; decide, by unfold CPow; decide, by unfold CPow; decide, ?_⟩
  cases ep : f.price with
  | dict _ => rw [ep] at hp; cases hp
  | int i =>
    refine ⟨rfl, true, rfl, ?_⟩
    rw [ep] at fin hp
    exact ⟨0, rfl, fin (.int (i + 1)) (okI (by have : i.natAbs ≤ B := of_decide_eq_true hp; omega))⟩
  | bool b =>
    refine ⟨rfl, true, rfl, ?_⟩
    rw [ep] at fin
    cases b
    · exact ⟨0, rfl, fin (.int (0 + 1)) (okI (by show 1 ≤ _; omega))⟩
    · exact ⟨0, rfl, fin (.int (1 + 1)) (okI (by show 2 ≤ _; omega))⟩
  | _ =>
    refine ⟨rfl, false, rfl, ?_⟩
    rw [ep] at fin
    exact ⟨0, rfl, fin (.int 1) (okI (by show 1 ≤ _; omega))⟩
/-! ### each refusal by its class, field and base -/
def crItems : List (Str × PyData × Str) := [("BadTag", .str (Str.ofString "a"), Str.ofString "1000000"), ("BadText", .int 5, Str.ofString "1000000"), ("TooMany", .int 3, Str.ofString "0001100"), ("TooEarly", .int 9, Str.ofString "0000001"), ("BadSum", .str (Str.ofString "b"), Str.ofString "1000000"), ("BadOrder", .int 1, Str.ofString "1000000"), ("BadQuery", .int 2, Str.ofString "1000000"), ("BadColumn", .int 4, Str.ofString "1000000"),
  ("BadRow", .int 6, Str.ofString "1000000"), ("NoCoin", .int 7, Str.ofString "0100000"), ("NoEntry", .int 8, Str.ofString "0100000"), ("NoThing", .int 10, Str.ofString "0100000"), ("NoChange", .int 11, Str.ofString "0000000"), ("BadDay", .int 12, Str.ofString "0010000"), ("TooLow", .int 13, Str.ofString "0001000"), ("TooLittle", .int 14, Str.ofString "0001000"), ("BadDeed", .int 15, Str.ofString "0000010")]
theorem mjoin9 {s : Str} {ws : List Str} (h : (ws.map (·.length)).sum + ws.length * s.length ≤ 16777216) {P : PyData → Prop} (q : P (.str (Txt.join s ws))) : mJoin s [.list (ws.map .str)] P := by
  show strsF (ws.map .str) _
  exact strsF_map ⟨h, q⟩
theorem bstr9 {b : Bool} {P : PyData → Prop} (q : P (.str (Str.ofString (if b = true then "1" else "0")))) : bStrI [.int (if b = true then 1 else 0)] P := by
  have e1 : (toString (1 : Int) : Str) = Str.ofString "1" := by decide +kernel
  have e0 : (toString (0 : Int) : Str) = Str.ofString "0" := by decide +kernel
  cases b
  · refine ⟨by decide, ?_⟩
    rw [show ((if false = true then 1 else 0 : Int)) = 0 from rfl, e0]
    exact q
  · refine ⟨by decide, ?_⟩
    rw [show ((if true = true then 1 else 0 : Int)) = 1 from rfl, e1]
    exact q
def bit9 (b : Bool) : Str := Str.ofString (if b = true then "1" else "0")
theorem f_cr4 {c : Str} {w : PyData} {t : Str} (hm : (c, w, t) ∈ crItems) {x0 x1 s6 : Sl} {bs : List PyData} (hb : bs.length < 17) {E : FEnds} (q : ∀ s3 s4 : PyData, E.nx [x0, x1, .own (bs ++ [.str t]), .fz s3, .fz s4, .no, s6]) : F__law_classes_right_4 E [x0, x1, .own bs, .fz (excD c w), .no, .no, s6] := by
  have lin : sizeLine = 16777216 := by decide +kernel
  unfold F__law_classes_right_4
  walk_at "w"
  unfold crItems at hm
  simp only [List.mem_cons, List.not_mem_nil, or_false, Prod.mk.injEq] at hm
  rcases hm with ⟨rfl, rfl, rfl⟩ | ⟨rfl, rfl, rfl⟩ | ⟨rfl, rfl, rfl⟩ | ⟨rfl, rfl, rfl⟩ | ⟨rfl, rfl, rfl⟩ | ⟨rfl, rfl, rfl⟩ | ⟨rfl, rfl, rfl⟩ | ⟨rfl, rfl, rfl⟩ | ⟨rfl, rfl, rfl⟩ | ⟨rfl, rfl, rfl⟩ | ⟨rfl, rfl, rfl⟩ | ⟨rfl, rfl, rfl⟩ | ⟨rfl, rfl, rfl⟩ | ⟨rfl, rfl, rfl⟩ | ⟨rfl, rfl, rfl⟩ | ⟨rfl, rfl, rfl⟩ | ⟨rfl, rfl, rfl⟩
  · refine ⟨true, by decide +kernel, ⟨false, by decide +kernel, ⟨false, by decide +kernel, ?_⟩⟩⟩
    refine ⟨false, by decide +kernel, ⟨false, by decide +kernel, ⟨false, by decide +kernel, ?_⟩⟩⟩
    refine ⟨false, by decide +kernel, ?_⟩
    refine lc_map [true, false, false, false, false, false, false] PyData.bool (fun b => some (.str (bit9 b))) rfl rfl (by decide) (fun b R acc hz hacc hR => ?_) ?_
    · unfold F__law_classes_right_3
      walk_at "w"
      exact bstr9 ⟨hacc, hR⟩
    · rw [filterMap_some]
      walk_at "w"
      refine mjoin9 (ws := [true, false, false, false, false, false, false].map bit9) (by decide +kernel) ?_
      rw [show Txt.join (Str.ofString "") ([true, false, false, false, false, false, false].map bit9) = Str.ofString "1000000" from by decide +kernel]
      exact ⟨by omega, q _ _⟩
  · refine ⟨true, by decide +kernel, ⟨false, by decide +kernel, ⟨false, by decide +kernel, ?_⟩⟩⟩
    refine ⟨false, by decide +kernel, ⟨false, by decide +kernel, ⟨false, by decide +kernel, ?_⟩⟩⟩
    refine ⟨false, by decide +kernel, ?_⟩
    refine lc_map [true, false, false, false, false, false, false] PyData.bool (fun b => some (.str (bit9 b))) rfl rfl (by decide) (fun b R acc hz hacc hR => ?_) ?_
    · unfold F__law_classes_right_3
      walk_at "w"
      exact bstr9 ⟨hacc, hR⟩
    · rw [filterMap_some]
      walk_at "w"
      refine mjoin9 (ws := [true, false, false, false, false, false, false].map bit9) (by decide +kernel) ?_
      rw [show Txt.join (Str.ofString "") ([true, false, false, false, false, false, false].map bit9) = Str.ofString "1000000" from by decide +kernel]
      exact ⟨by omega, q _ _⟩
  · refine ⟨false, by decide +kernel, ⟨false, by decide +kernel, ⟨false, by decide +kernel, ?_⟩⟩⟩
    refine ⟨true, by decide +kernel, ⟨true, by decide +kernel, ⟨false, by decide +kernel, ?_⟩⟩⟩
    refine ⟨false, by decide +kernel, ?_⟩
    refine lc_map [false, false, false, true, true, false, false] PyData.bool (fun b => some (.str (bit9 b))) rfl rfl (by decide) (fun b R acc hz hacc hR => ?_) ?_
    · unfold F__law_classes_right_3
      walk_at "w"
      exact bstr9 ⟨hacc, hR⟩
    · rw [filterMap_some]
      walk_at "w"
      refine mjoin9 (ws := [false, false, false, true, true, false, false].map bit9) (by decide +kernel) ?_
      rw [show Txt.join (Str.ofString "") ([false, false, false, true, true, false, false].map bit9) = Str.ofString "0001100" from by decide +kernel]
      exact ⟨by omega, q _ _⟩
  · refine ⟨false, by decide +kernel, ⟨false, by decide +kernel, ⟨false, by decide +kernel, ?_⟩⟩⟩
    refine ⟨false, by decide +kernel, ⟨false, by decide +kernel, ⟨false, by decide +kernel, ?_⟩⟩⟩
    refine ⟨true, by decide +kernel, ?_⟩
    refine lc_map [false, false, false, false, false, false, true] PyData.bool (fun b => some (.str (bit9 b))) rfl rfl (by decide) (fun b R acc hz hacc hR => ?_) ?_
    · unfold F__law_classes_right_3
      walk_at "w"
      exact bstr9 ⟨hacc, hR⟩
    · rw [filterMap_some]
      walk_at "w"
      refine mjoin9 (ws := [false, false, false, false, false, false, true].map bit9) (by decide +kernel) ?_
      rw [show Txt.join (Str.ofString "") ([false, false, false, false, false, false, true].map bit9) = Str.ofString "0000001" from by decide +kernel]
      exact ⟨by omega, q _ _⟩
  · refine ⟨true, by decide +kernel, ⟨false, by decide +kernel, ⟨false, by decide +kernel, ?_⟩⟩⟩
    refine ⟨false, by decide +kernel, ⟨false, by decide +kernel, ⟨false, by decide +kernel, ?_⟩⟩⟩
    refine ⟨false, by decide +kernel, ?_⟩
    refine lc_map [true, false, false, false, false, false, false] PyData.bool (fun b => some (.str (bit9 b))) rfl rfl (by decide) (fun b R acc hz hacc hR => ?_) ?_
    · unfold F__law_classes_right_3
      walk_at "w"
      exact bstr9 ⟨hacc, hR⟩
    · rw [filterMap_some]
      walk_at "w"
      refine mjoin9 (ws := [true, false, false, false, false, false, false].map bit9) (by decide +kernel) ?_
      rw [show Txt.join (Str.ofString "") ([true, false, false, false, false, false, false].map bit9) = Str.ofString "1000000" from by decide +kernel]
      exact ⟨by omega, q _ _⟩
  · refine ⟨true, by decide +kernel, ⟨false, by decide +kernel, ⟨false, by decide +kernel, ?_⟩⟩⟩
    refine ⟨false, by decide +kernel, ⟨false, by decide +kernel, ⟨false, by decide +kernel, ?_⟩⟩⟩
    refine ⟨false, by decide +kernel, ?_⟩
    refine lc_map [true, false, false, false, false, false, false] PyData.bool (fun b => some (.str (bit9 b))) rfl rfl (by decide) (fun b R acc hz hacc hR => ?_) ?_
    · unfold F__law_classes_right_3
      walk_at "w"
      exact bstr9 ⟨hacc, hR⟩
    · rw [filterMap_some]
      walk_at "w"
      refine mjoin9 (ws := [true, false, false, false, false, false, false].map bit9) (by decide +kernel) ?_
      rw [show Txt.join (Str.ofString "") ([true, false, false, false, false, false, false].map bit9) = Str.ofString "1000000" from by decide +kernel]
      exact ⟨by omega, q _ _⟩
  · refine ⟨true, by decide +kernel, ⟨false, by decide +kernel, ⟨false, by decide +kernel, ?_⟩⟩⟩
    refine ⟨false, by decide +kernel, ⟨false, by decide +kernel, ⟨false, by decide +kernel, ?_⟩⟩⟩
    refine ⟨false, by decide +kernel, ?_⟩
    refine lc_map [true, false, false, false, false, false, false] PyData.bool (fun b => some (.str (bit9 b))) rfl rfl (by decide) (fun b R acc hz hacc hR => ?_) ?_
    · unfold F__law_classes_right_3
      walk_at "w"
      exact bstr9 ⟨hacc, hR⟩
    · rw [filterMap_some]
      walk_at "w"
      refine mjoin9 (ws := [true, false, false, false, false, false, false].map bit9) (by decide +kernel) ?_
      rw [show Txt.join (Str.ofString "") ([true, false, false, false, false, false, false].map bit9) = Str.ofString "1000000" from by decide +kernel]
      exact ⟨by omega, q _ _⟩
  · refine ⟨true, by decide +kernel, ⟨false, by decide +kernel, ⟨false, by decide +kernel, ?_⟩⟩⟩
    refine ⟨false, by decide +kernel, ⟨false, by decide +kernel, ⟨false, by decide +kernel, ?_⟩⟩⟩
    refine ⟨false, by decide +kernel, ?_⟩
    refine lc_map [true, false, false, false, false, false, false] PyData.bool (fun b => some (.str (bit9 b))) rfl rfl (by decide) (fun b R acc hz hacc hR => ?_) ?_
    · unfold F__law_classes_right_3
      walk_at "w"
      exact bstr9 ⟨hacc, hR⟩
    · rw [filterMap_some]
      walk_at "w"
      refine mjoin9 (ws := [true, false, false, false, false, false, false].map bit9) (by decide +kernel) ?_
      rw [show Txt.join (Str.ofString "") ([true, false, false, false, false, false, false].map bit9) = Str.ofString "1000000" from by decide +kernel]
      exact ⟨by omega, q _ _⟩
  · refine ⟨true, by decide +kernel, ⟨false, by decide +kernel, ⟨false, by decide +kernel, ?_⟩⟩⟩
    refine ⟨false, by decide +kernel, ⟨false, by decide +kernel, ⟨false, by decide +kernel, ?_⟩⟩⟩
    refine ⟨false, by decide +kernel, ?_⟩
    refine lc_map [true, false, false, false, false, false, false] PyData.bool (fun b => some (.str (bit9 b))) rfl rfl (by decide) (fun b R acc hz hacc hR => ?_) ?_
    · unfold F__law_classes_right_3
      walk_at "w"
      exact bstr9 ⟨hacc, hR⟩
    · rw [filterMap_some]
      walk_at "w"
      refine mjoin9 (ws := [true, false, false, false, false, false, false].map bit9) (by decide +kernel) ?_
      rw [show Txt.join (Str.ofString "") ([true, false, false, false, false, false, false].map bit9) = Str.ofString "1000000" from by decide +kernel]
      exact ⟨by omega, q _ _⟩
  · refine ⟨false, by decide +kernel, ⟨true, by decide +kernel, ⟨false, by decide +kernel, ?_⟩⟩⟩
    refine ⟨false, by decide +kernel, ⟨false, by decide +kernel, ⟨false, by decide +kernel, ?_⟩⟩⟩
    refine ⟨false, by decide +kernel, ?_⟩
    refine lc_map [false, true, false, false, false, false, false] PyData.bool (fun b => some (.str (bit9 b))) rfl rfl (by decide) (fun b R acc hz hacc hR => ?_) ?_
    · unfold F__law_classes_right_3
      walk_at "w"
      exact bstr9 ⟨hacc, hR⟩
    · rw [filterMap_some]
      walk_at "w"
      refine mjoin9 (ws := [false, true, false, false, false, false, false].map bit9) (by decide +kernel) ?_
      rw [show Txt.join (Str.ofString "") ([false, true, false, false, false, false, false].map bit9) = Str.ofString "0100000" from by decide +kernel]
      exact ⟨by omega, q _ _⟩
  · refine ⟨false, by decide +kernel, ⟨true, by decide +kernel, ⟨false, by decide +kernel, ?_⟩⟩⟩
    refine ⟨false, by decide +kernel, ⟨false, by decide +kernel, ⟨false, by decide +kernel, ?_⟩⟩⟩
    refine ⟨false, by decide +kernel, ?_⟩
    refine lc_map [false, true, false, false, false, false, false] PyData.bool (fun b => some (.str (bit9 b))) rfl rfl (by decide) (fun b R acc hz hacc hR => ?_) ?_
    · unfold F__law_classes_right_3
      walk_at "w"
      exact bstr9 ⟨hacc, hR⟩
    · rw [filterMap_some]
      walk_at "w"
      refine mjoin9 (ws := [false, true, false, false, false, false, false].map bit9) (by decide +kernel) ?_
      rw [show Txt.join (Str.ofString "") ([false, true, false, false, false, false, false].map bit9) = Str.ofString "0100000" from by decide +kernel]
      exact ⟨by omega, q _ _⟩
  · refine ⟨false, by decide +kernel, ⟨true, by decide +kernel, ⟨false, by decide +kernel, ?_⟩⟩⟩
    refine ⟨false, by decide +kernel, ⟨false, by decide +kernel, ⟨false, by decide +kernel, ?_⟩⟩⟩
    refine ⟨false, by decide +kernel, ?_⟩
    refine lc_map [false, true, false, false, false, false, false] PyData.bool (fun b => some (.str (bit9 b))) rfl rfl (by decide) (fun b R acc hz hacc hR => ?_) ?_
    · unfold F__law_classes_right_3
      walk_at "w"
      exact bstr9 ⟨hacc, hR⟩
    · rw [filterMap_some]
      walk_at "w"
      refine mjoin9 (ws := [false, true, false, false, false, false, false].map bit9) (by decide +kernel) ?_
      rw [show Txt.join (Str.ofString "") ([false, true, false, false, false, false, false].map bit9) = Str.ofString "0100000" from by decide +kernel]
      exact ⟨by omega, q _ _⟩
  · refine ⟨false, by decide +kernel, ⟨false, by decide +kernel, ⟨false, by decide +kernel, ?_⟩⟩⟩
    refine ⟨false, by decide +kernel, ⟨false, by decide +kernel, ⟨false, by decide +kernel, ?_⟩⟩⟩
    refine ⟨false, by decide +kernel, ?_⟩
    refine lc_map [false, false, false, false, false, false, false] PyData.bool (fun b => some (.str (bit9 b))) rfl rfl (by decide) (fun b R acc hz hacc hR => ?_) ?_
    · unfold F__law_classes_right_3
      walk_at "w"
      exact bstr9 ⟨hacc, hR⟩
    · rw [filterMap_some]
      walk_at "w"
      refine mjoin9 (ws := [false, false, false, false, false, false, false].map bit9) (by decide +kernel) ?_
      rw [show Txt.join (Str.ofString "") ([false, false, false, false, false, false, false].map bit9) = Str.ofString "0000000" from by decide +kernel]
      exact ⟨by omega, q _ _⟩
  · refine ⟨false, by decide +kernel, ⟨false, by decide +kernel, ⟨true, by decide +kernel, ?_⟩⟩⟩
    refine ⟨false, by decide +kernel, ⟨false, by decide +kernel, ⟨false, by decide +kernel, ?_⟩⟩⟩
    refine ⟨false, by decide +kernel, ?_⟩
    refine lc_map [false, false, true, false, false, false, false] PyData.bool (fun b => some (.str (bit9 b))) rfl rfl (by decide) (fun b R acc hz hacc hR => ?_) ?_
    · unfold F__law_classes_right_3
      walk_at "w"
      exact bstr9 ⟨hacc, hR⟩
    · rw [filterMap_some]
      walk_at "w"
      refine mjoin9 (ws := [false, false, true, false, false, false, false].map bit9) (by decide +kernel) ?_
      rw [show Txt.join (Str.ofString "") ([false, false, true, false, false, false, false].map bit9) = Str.ofString "0010000" from by decide +kernel]
      exact ⟨by omega, q _ _⟩
  · refine ⟨false, by decide +kernel, ⟨false, by decide +kernel, ⟨false, by decide +kernel, ?_⟩⟩⟩
    refine ⟨true, by decide +kernel, ⟨false, by decide +kernel, ⟨false, by decide +kernel, ?_⟩⟩⟩
    refine ⟨false, by decide +kernel, ?_⟩
    refine lc_map [false, false, false, true, false, false, false] PyData.bool (fun b => some (.str (bit9 b))) rfl rfl (by decide) (fun b R acc hz hacc hR => ?_) ?_
    · unfold F__law_classes_right_3
      walk_at "w"
      exact bstr9 ⟨hacc, hR⟩
    · rw [filterMap_some]
      walk_at "w"
      refine mjoin9 (ws := [false, false, false, true, false, false, false].map bit9) (by decide +kernel) ?_
      rw [show Txt.join (Str.ofString "") ([false, false, false, true, false, false, false].map bit9) = Str.ofString "0001000" from by decide +kernel]
      exact ⟨by omega, q _ _⟩
  · refine ⟨false, by decide +kernel, ⟨false, by decide +kernel, ⟨false, by decide +kernel, ?_⟩⟩⟩
    refine ⟨true, by decide +kernel, ⟨false, by decide +kernel, ⟨false, by decide +kernel, ?_⟩⟩⟩
    refine ⟨false, by decide +kernel, ?_⟩
    refine lc_map [false, false, false, true, false, false, false] PyData.bool (fun b => some (.str (bit9 b))) rfl rfl (by decide) (fun b R acc hz hacc hR => ?_) ?_
    · unfold F__law_classes_right_3
      walk_at "w"
      exact bstr9 ⟨hacc, hR⟩
    · rw [filterMap_some]
      walk_at "w"
      refine mjoin9 (ws := [false, false, false, true, false, false, false].map bit9) (by decide +kernel) ?_
      rw [show Txt.join (Str.ofString "") ([false, false, false, true, false, false, false].map bit9) = Str.ofString "0001000" from by decide +kernel]
      exact ⟨by omega, q _ _⟩
  · refine ⟨false, by decide +kernel, ⟨false, by decide +kernel, ⟨false, by decide +kernel, ?_⟩⟩⟩
    refine ⟨false, by decide +kernel, ⟨false, by decide +kernel, ⟨true, by decide +kernel, ?_⟩⟩⟩
    refine ⟨false, by decide +kernel, ?_⟩
    refine lc_map [false, false, false, false, false, true, false] PyData.bool (fun b => some (.str (bit9 b))) rfl rfl (by decide) (fun b R acc hz hacc hR => ?_) ?_
    · unfold F__law_classes_right_3
      walk_at "w"
      exact bstr9 ⟨hacc, hR⟩
    · rw [filterMap_some]
      walk_at "w"
      refine mjoin9 (ws := [false, false, false, false, false, true, false].map bit9) (by decide +kernel) ?_
      rw [show Txt.join (Str.ofString "") ([false, false, false, false, false, true, false].map bit9) = Str.ofString "0000010" from by decide +kernel]
      exact ⟨by omega, q _ _⟩
theorem f_classes_right {P : PyData → List Sl → Prop} (q : ∀ sl, P (.bool true) sl) : F__law_classes_right [] P := by
  have lin : sizeLine = 16777216 := by decide +kernel
  unfold F__law_classes_right
  walk_at "w"
  refine ⟨by decide, ?_⟩
  refine for_map crItems (fun z => excD z.1 z.2.1) (fun i ρ => ∃ s0 s1, ρ = [s0, s1, .own ((crItems.take i).map fun z => .str z.2.2), .no, .no, .no, .no] ∧ s0 = .fz (.list (crItems.map fun z => excD z.1 z.2.1)) ∧ s1 = .fz (.list (crItems.map fun z => z.2.1))) rfl ⟨_, _, rfl, rfl, rfl⟩ ?_ ?_
  · rintro i ⟨c, w, t⟩ ρ hn hi ⟨s0, s1, rfl, e0, e1⟩
    have hm := List.mem_of_getElem? hn
    walk_at "w"
    refine f_cr4 hm (by rw [List.length_map, List.length_take]; have : crItems.length = 17 := rfl; omega) fun _ _ => ?_
    walk_at "w"
    refine ⟨s0, s1, ?_, e0, e1⟩
    rw [List.take_add_one, hn, List.map_append]
    exact ⟨rfl, rfl, rfl⟩
  · rintro ρ ⟨s0, s1, rfl, rfl, rfl⟩
    rw [List.take_of_length_le (by decide)]
    unfold F__law_classes_right_2
    walk_at "w"
    repeat refine ⟨by rw [lin]; exact Nat.le_of_ble_eq_true rfl, ?_⟩
    refine ⟨by decide +kernel, by decide +kernel, ?_⟩
    rw [if_pos (by decide +kernel)]
    refine lc_map crItems (fun z => excD z.1 z.2.1) (fun z => some z.2.1) rfl rfl (by decide) (fun z R acc hz hacc hR => ?_) ?_
    · have hm : ∀ z ∈ crItems, z.1 ∈ (["BadTag", "BadText", "TooMany", "TooEarly", "BadSum", "BadOrder", "BadQuery", "BadColumn", "BadDeed", "BadRow", "NoCoin", "NoEntry", "NoThing", "NoChange", "BadDay", "TooLow", "TooLittle"] : List Str) := by decide +kernel
      unfold F__law_classes_right_1
      walk_at "w"
      exact ⟨hm z hz, hacc, hR⟩
    · rw [filterMap_some]
      walk_at "w"
      refine ⟨by decide +kernel, by decide +kernel, ?_⟩
      rw [SeqAt.eqv_refl _ (by decide +kernel)]
      exact q _
/-! ### tags drawn, told and made -/
theorem okNameS {B : Nat} {s : Str} (h : NameS s) : okD B (.str s) = true := by
  obtain ⟨h1, h2, h3⟩ := h
  have ln : s.length = (tl s).length := Array.length_toList.symm
  show (decide (s.length ≤ 25) && s.cps.all (· < 0x110000)) = true
  rw [decide_eq_true (by omega), Bool.true_and, Array.all_eq_true']
  intro c hc
  have := h3 c (Array.mem_toList_iff.mpr hc)
  exact decide_eq_true (by omega)
def anyF (f : Five) : FiveA := ⟨.str f.owner, .int f.number, .int f.price, .int f.least, .int f.day⟩
theorem any_ok {f : Five} (ok : f.Ok) : (anyF f).Ok 1000000000000 := by
  obtain ⟨h1, h2, h3, h4, h5, h6, h7, h8, h9⟩ := ok
  exact ⟨okNameS h1, okI (by omega), okI (by omega), okI (by omega), okI (by omega)⟩
theorem any_right {f : Five} (ok : f.Ok) : (anyF f).fault = "" := by
  obtain ⟨h1, h2, h3, h4, h5, h6, h7, h8, h9⟩ := ok
  show (if nameD (.str f.owner) = true then
    if wholeD (.int f.number) 1 9999 = true then
      (if 1 ≤ f.price ∧ f.price ≤ 99999 then (if wholeD (.int f.least) 0 f.price = true then (if wholeD (.int f.day) 0 999 = true then "" else "day") else "least") else "price")
    else "number"
  else "owner") = _
  rw [if_pos (name_yes h1), if_pos (whole_yes h2 h3), if_pos ⟨h4, h5⟩, if_pos (whole_yes h6 h7), if_pos (whole_yes h8 h9)]
theorem FiveA.fault_def (f : FiveA) : f.fault = if nameD f.owner = true then
    if wholeD f.number 1 9999 = true then
      match f.price with
      | .int p => if 1 ≤ p ∧ p ≤ 99999 then (if wholeD f.least 0 p = true then (if wholeD f.day 0 999 = true then "" else "day") else "least") else "price"
      | _ => "price"
    else "number"
  else "owner" := rfl
theorem FiveA.right5 {f : FiveA} (r : f.fault = "") : ∃ o n p l d, f = ⟨.str o, .int n, .int p, .int l, .int d⟩ := by
  obtain ⟨l, d, el, ed⟩ := f.right r
  rw [f.fault_def] at r
  obtain ⟨o, n, p, l', d'⟩ := f
  split at r
  · next h1 =>
    split at r
    · next h2 =>
      obtain ⟨s, rfl⟩ : ∃ s, o = .str s := by
        cases o with
        | str s => exact ⟨s, rfl⟩
        | _ => cases h1
      obtain ⟨m, rfl⟩ : ∃ m, n = .int m := by
        cases n with
        | int m => exact ⟨m, rfl⟩
        | _ => cases h2
      cases p with
      | int p => subst el ed; exact ⟨_, _, _, _, _, rfl⟩
      | _ => exact absurd (show ("price" : String) = "" from r) (by decide)
    · exact absurd r (by decide)
  · exact absurd r (by decide)
theorem FiveA.Ok.lay {B : Nat} (hB : B ≤ 1000000000000000000000000000000) {f : FiveA} (ok : f.Ok B) (r : f.fault = "") : Lay f.d 1 6 := by
  obtain ⟨o, n, p, l, d, rfl⟩ := f.right5 r
  have h := (okD.factsB hB ok.o).1
  exact (Lay.tup (.cons (.str h) (.cons (.int _) (.cons (.int _) (.cons (.int _) (.cons (.int _) .nil)))))).mono (by decide) (by decide)
theorem fault_lay (f : FiveA) : Lay (.str (Str.ofString f.fault)) 0 1 := by
  have h : f.fault = "owner" ∨ f.fault = "number" ∨ f.fault = "price" ∨ f.fault = "least" ∨ f.fault = "day" ∨ f.fault = "" := by
    unfold FiveA.fault
    repeat' split
    all_goals simp
  rcases h with h | h | h | h | h | h <;> rw [h] <;> exact .str (by decide +kernel)
theorem f_five {ds : List PyData} {n : Nat} {ss : List Str} (hb : BoxD ds n) (hn : n < 10000000) (l0 : 0 < ss.length) (l1 : ss.length ≤ 1000) (hs : ∀ s ∈ ss, NameS s) {P : PyData → List Sl → Prop} (h : ∀ f ds' sl, f.Ok → BoxD ds' (n + 20) → P (fiveD f) (.own ds' :: sl)) : F__law_five [.own ds, .fz (.list (ss.map .str))] P := by
  unfold F__law_five
  walk_at "f"
  refine take_step hb (by decide) (by decide) (by omega) fun r1 d1 _ _ b1 => ?_
  refine take_step b1 (by decide) (by decide) (by omega) fun r2 d2 _ _ b2 => ?_
  refine take_step b2 (by decide) (by decide) (by omega) fun r3 d3 a3 c3 b3 => ?_
  obtain ⟨v, e, m⟩ := at_mem (xs := [PyData.int (1 + r1), PyData.int (1 + r2), PyData.int 9999]) a3 c3
  obtain ⟨num, rfl, num0, num1⟩ : ∃ a, v = .int a ∧ 1 ≤ a ∧ a ≤ 9999 := by
    simp only [List.mem_cons, List.not_mem_nil, or_false] at m
    rcases m with rfl | rfl | rfl <;> exact ⟨_, rfl, by omega, by omega⟩
  refine ⟨_, e, ?_⟩
  refine f_price b3 (by omega) fun pr d4 pr0 pr1 b4 => ?_
  walk_at "f"
  refine take_step b4 (by omega) (by omega) (by omega) fun r5 d5 _ _ b5 => ⟨⟨by decide, by decide⟩, ?_⟩
  refine take_step b5 (by decide) (by decide) (by omega) fun r6 d6 a6 c6 b6 => ?_
  obtain ⟨v, e, m⟩ := at_mem (xs := [PyData.int 0, PyData.int pr, PyData.int r5, PyData.int (pr / 2)]) a6 c6
  obtain ⟨low, rfl, low0, low1⟩ : ∃ a, v = .int a ∧ 0 ≤ a ∧ a ≤ pr := by
    simp only [List.mem_cons, List.not_mem_nil, or_false] at m
    rcases m with rfl | rfl | rfl | rfl <;> exact ⟨_, rfl, by omega, by omega⟩
  refine ⟨_, e, ?_⟩
  refine take_step b6 (by decide) (by decide) (by omega) fun r7 d7 _ _ b7 => ?_
  refine take_step b7 (by decide) (by decide) (by omega) fun r8 d8 _ _ b8 => ?_
  refine take_step b8 (by decide) (by decide) (by omega) fun r9 d9 a9 c9 b9 => ?_
  obtain ⟨v, e, m⟩ := at_mem (xs := [PyData.int r7, PyData.int r8, PyData.int 999]) a9 c9
  obtain ⟨day, rfl, day0, day1⟩ : ∃ a, v = .int a ∧ 0 ≤ a ∧ a ≤ 999 := by
    simp only [List.mem_cons, List.not_mem_nil, or_false] at m
    rcases m with rfl | rfl | rfl <;> exact ⟨_, rfl, by omega, by omega⟩
  refine ⟨_, e, ?_⟩
  refine take_step b9 (by rw [List.length_map]; omega) (by rw [List.length_map]; omega) (by omega) fun r10 d10 a10 c10 b10 => ?_
  rw [List.length_map] at c10
  obtain ⟨s, es, ms⟩ := at_mem (xs := ss) a10 c10
  refine ⟨.str s, by rw [atI_map, es]; rfl, ?_⟩
  exact h ⟨s, num, pr, low, day⟩ d10 _ ⟨hs s ms, num0, num1, pr0, pr1, low0, low1, day0, day1⟩ (b10.mono (by omega))
/-! ### a turn -/
theorem fault_iff (f : FiveA) : Str.ofString f.fault = Str.ofString "" ↔ f.fault = "" := by
  have h : f.fault = "owner" ∨ f.fault = "number" ∨ f.fault = "price" ∨ f.fault = "least" ∨ f.fault = "day" ∨ f.fault = "" := by
    unfold FiveA.fault
    repeat' split
    all_goals simp
  rcases h with h | h | h | h | h | h <;> rw [h] <;> decide +kernel
theorem f_right_3 {ds : List PyData} {n B : Nat} {f : FiveA} (hb : BoxD ds n) (hn : n < 10000000) (ok : f.Ok B) (hB : B ≤ 1000000000000000000000000000000) {s1 s2 s3 s4 s6 s8 : Sl} {E : FEnds} (q : ∀ ds', BoxD ds' (n + 1) → E.nx [.own ds', s1, s2, s3, s4, .fz f.d, s6, .fz (.str (Str.ofString f.fault)), s8]) :
    F__law_right_3 E [.own ds, s1, s2, s3, s4, .fz f.d, s6, .fz (.str (Str.ofString f.fault)), s8] := by
  unfold F__law_right_3
  walk_at "w"
  by_cases c : f.fault = ""
  · rw [if_pos ((fault_iff f).mpr c)]
    refine f_made ok c hb hn fun d1 sl b1 => ?_
    walk_at "w"
    refine f_fields fun _ => ⟨rfl, same_lay (ok.lay hB c) (by decide) (by decide) fun _ => q _ b1⟩
  · rw [if_neg fun e => c ((fault_iff f).mp e)]
    exact q _ (hb.mono (by omega))
theorem f_right_4 {ds : List PyData} {n B : Nat} {f : FiveA} (hb : BoxD ds n) (hn : n < 9000000) (ok : f.Ok B) (hB : B ≤ 1000000000000000000000000000000) {s1 s2 s3 s4 s6 s8 : Sl} {E : FEnds} (q : ∀ ds', BoxD ds' (n + 2) → E.nx [.own ds', s1, s2, s3, s4, .fz f.d, s6, .fz (.str (Str.ofString f.fault)), s8]) :
    F__law_right_4 E [.own ds, s1, s2, s3, s4, .fz f.d, s6, .no, s8] := by
  unfold F__law_right_4
  walk_at "w"
  refine f_fault ok fun _ => ?_
  walk_at "w"
  refine take_step hb (by decide) (by decide) (by omega) fun r1 d1 a1 c1 b1 => ?_
  walk_at "w"
  refine f_told ok (fun c _ => ?_) fun c _ => ?_
  · rw [if_pos ((fault_iff f).mpr c)]
    exact ⟨rfl, same_lay (ok.lay hB c) (by decide) (by decide) fun _ => f_right_3 b1 (by omega) ok hB q⟩
  · rw [if_neg fun e => c ((fault_iff f).mp e)]
    exact ⟨rfl, same_lay (fault_lay f) (by decide) (by decide) fun _ => f_right_3 b1 (by omega) ok hB q⟩
theorem f_right_6 {ds : List PyData} {n : Nat} {ss : List Str} (hb : BoxD ds n) (hn : n < 8000000) (l0 : 0 < ss.length) (l1 : ss.length ≤ 1000) (hs : ∀ s ∈ ss, NameS s) {s2 s3 s4 s8 : Sl} {E : FEnds} (q : ∀ ds' s5 s7, BoxD ds' (n + 40) → E.nx [.own ds', .fz (.list (ss.map .str)), s2, s3, s4, .fz s5, .no, .fz s7, s8]) :
    F__law_right_6 E [.own ds, .fz (.list (ss.map .str)), s2, s3, s4, .no, .no, .no, s8] := by
  unfold F__law_right_6
  walk_at "w"
  refine f_five hb (by omega) l0 l1 hs fun f d1 _ ok b1 => ?_
  walk_at "w"
  refine take_step b1 (by decide) (by decide) (by omega) fun r d2 a2 c2 b2 => ?_
  walk_at "w"
  obtain ⟨m, em, m5⟩ : ∃ m : Nat, atI [PyData.int 0, PyData.int 1, PyData.int 1, PyData.int 2, PyData.int 5] r = some (.int m) ∧ m ≤ 5 := by
    rcases (show r = 0 ∨ r = 1 ∨ r = 2 ∨ r = 3 ∨ r = 4 by omega) with rfl | rfl | rfl | rfl | rfl
    · exact ⟨0, rfl, by decide⟩
    · exact ⟨1, rfl, by decide⟩
    · exact ⟨1, rfl, by decide⟩
    · exact ⟨2, rfl, by decide⟩
    · exact ⟨5, rfl, by decide⟩
  refine ⟨_, em, ?_⟩
  refine ⟨by omega, by omega, ?_⟩
  rw [Int.toNat_natCast]
  have B0 : (1000000000000 : Nat) + 5 ≤ 1000000000000000000000000000000 := by decide
  refine for_range (fun i ρ => ∃ ds' f', BoxD ds' (n + 21 + 2 * i) ∧ FiveA.Ok (1000000000000 + i) f' ∧ ρ = [.own ds', .fz (.list (ss.map .str)), s2, s3, s4, .fz f'.d, .no, .no, s8]) ⟨d2, anyF f, b2.mono (by omega), any_ok ok, rfl⟩ ?_ ?_
  · rintro i ρ hi ⟨d3, f3, b3, ok3, rfl⟩
    walk_at "w"
    unfold F__law_right_5
    walk_at "w"
    refine f_odd (by omega) ok3 b3 (by omega) fun f4 d4 sl ok4 b4 => ?_
    walk_at "w"
    exact ⟨d4, f4, b4.mono (by omega), ok4, rfl, rfl⟩
  · rintro ρ ⟨d3, f3, b3, ok3, rfl⟩
    walk_at "w"
    exact f_right_4 b3 (by omega) ok3 (by omega) fun d4 b4 => q _ _ _ (b4.mono (by omega))
theorem f_right {ds : List PyData} (hb : BoxD ds 0) {P : PyData → List Sl → Prop} (q : ∀ sl, P (.bool true) sl) : F__law_right [.own ds] P := by
  have lin : sizeLine = 16777216 := by decide +kernel
  unfold F__law_right
  walk_at "w"
  refine f_names (m := 4) hb (by decide) (by decide) fun ns d1 _ ln hs b1 => ?_
  walk_at "w"
  have na : NameS (Str.ofString "a") := ⟨by decide +kernel, by decide +kernel, by decide +kernel⟩
  have nz : NameS (Str.ofString "zzzzzzzz") := ⟨by decide +kernel, by decide +kernel, by decide +kernel⟩
  refine ⟨by rw [List.length_map, ln, lin]; decide, ?_⟩
  obtain ⟨ss, es, l6, hss⟩ : ∃ ss : List Str, ns.map PyData.str ++ [.str (Str.ofString "a"), .str (Str.ofString "zzzzzzzz")] = ss.map .str ∧ ss.length = 6 ∧ ∀ s ∈ ss, NameS s := by
    refine ⟨ns ++ [Str.ofString "a", Str.ofString "zzzzzzzz"], by rw [List.map_append]; rfl, by rw [List.length_append, ln]; rfl, fun s h => ?_⟩
    rcases List.mem_append.mp h with h | h
    · exact hs s h
    · simp only [List.mem_cons, List.not_mem_nil, or_false] at h
      rcases h with rfl | rfl
      · exact na
      · exact nz
  rw [es]
  refine f_five b1 (by decide) (by omega) (by omega) hss fun f d2 _ ok b2 => ?_
  walk_at "w"
  have okA := any_ok ok
  have rA := any_right ok
  refine f_made okA rA b2 (by decide) fun d3 _ b3 => ?_
  walk_at "w"
  refine for_range (fun i ρ => ∃ ds', BoxD ds' (2021 + 40 * i) ∧ ρ = [.own ds', .fz (.list (ss.map .str)), .fz (fiveD f), .fz (aTagD (anyF f)), .no, .no, .no, .no, .no]) ⟨d3, b3.mono (by omega), rfl⟩ ?_ ?_
  · rintro i ρ hi ⟨d4, b4, rfl⟩
    walk_at "w"
    refine f_right_6 b4 (by omega) (by omega) (by omega) hss fun d5 x y b5 => ?_
    walk_at "w"
    exact ⟨d5, b5.mono (by omega), rfl⟩
  · rintro ρ ⟨d4, b4, rfl⟩
    unfold F__law_right_2
    walk_at "w"
    unfold fiveD
    walk_at "w"
    have ok0 : Five.Ok { f with least := 0, day := 0 } := ⟨ok.owner, ok.n1, ok.n2, ok.p1, ok.p2, Int.le_refl _, by have := ok.p1; show (0 : Int) ≤ f.price; omega, Int.le_refl _, by show (0 : Int) ≤ 999; decide⟩
    refine fun x => f_mk (f := anyF { f with least := 0, day := 0 }) (any_ok ok0) (any_right ok0) ?_
    refine f_fields fun _ => f_fields fun _ => ⟨by rw [lin]; exact Nat.le_of_ble_eq_true rfl, rfl, ?_⟩
    have l1 := (any_ok ok0).lay (by decide) (any_right ok0)
    have l2 := okA.lay (by decide) rA
    refine same_lay (Lay.list (.cons l1 (.cons l2 .nil))) (by decide) (by decide) fun _ => ?_
    unfold F__law_right_1
    walk_at "w"
    exact f_classes_right fun _ => q _
theorem f_law {ns : List Int} (hn : ns.length ≤ 63) : F_law [.fz (.list (ns.map .int))] fun d _ => d = .bool true := by
  have lin : sizeLine = 16777216 := by decide +kernel
  unfold F_law
  walk_at "w"
  refine f_folded (m := 6) (by decide) (by decide) hn fun ms lm _ => ?_
  walk_at "w"
  rw [List.length_map]
  obtain ⟨z, hz, h6⟩ : ∃ z : Nat, (if (ms.length : Int) > 1 then (ms.length : Int) else 1) = (z : Int) ∧ z ≤ 6 := by
    split
    · exact ⟨ms.length, rfl, by omega⟩
    · exact ⟨1, rfl, by decide⟩
  rw [hz, Int.toNat_natCast]
  refine ⟨by omega, by omega, ?_⟩
  unfold rangeD
  refine lc_map (List.range z) (fun k : Nat => .int (0 + (k : Int))) (fun _ => some (.bool true)) rfl rfl (by rw [List.length_range]; omega) (fun k R acc hz hacc hR => ?_) ?_
  · have := List.mem_range.mp hz
    unfold F_law_1
    walk_at "w"
    refine f_box (by omega) fun ds _ hb => ?_
    walk_at "w"
    exact f_right hb fun _ => ⟨hacc, hR⟩
  · rw [filterMap_some, show ((List.range z).map fun _ => PyData.bool true) = ((List.range z).map fun _ => true).map PyData.bool from by rw [List.map_map]; rfl]
    refine boolsF_map ?_
    rw [List.all_map]
    exact congrArg _ (List.all_eq_true.mpr fun _ _ => rfl)
def top (i : Nat) : Stmt := PySem.Challenge.pw_stallshares_k09_tags_made_or_refused.main.body.getD i (.Pass ⟨0, 0, 0, 0⟩)
abbrev s__law_folded : Stmt := top 34
abbrev N__law_folded : List Str := ["_law_script", "_law_size", "_law_cells", "_law_k", "_law_cell"]
theorem sc__law_folded : FnScope N__law_folded ["_law_script", "_law_size"] (defScope s__law_folded) := ⟨rfl, rfl, rfl, by decide +kernel, rfl, by decide +kernel, by decide +kernel⟩
abbrev s__law_take : Stmt := top 33
abbrev N__law_take : List Str := ["_law_box_here", "_law_size", "_law_found", "_law_step", "_law_once", "_law_twice"]
theorem sc__law_take : FnScope N__law_take ["_law_box_here", "_law_size"] (defScope s__law_take) := ⟨rfl, rfl, rfl, by decide +kernel, rfl, by decide +kernel, by decide +kernel⟩
abbrev s__law_price : Stmt := top 36
abbrev N__law_price : List Str := ["_law_box_here"]
theorem sc__law_price : FnScope N__law_price ["_law_box_here"] (defScope s__law_price) := ⟨rfl, rfl, rfl, by decide +kernel, rfl, by decide +kernel, by decide +kernel⟩
abbrev s__law_five : Stmt := top 37
abbrev N__law_five : List Str := ["_law_box_here", "_law_people", "_law_number", "_law_price_here", "_law_lowest", "_law_when"]
theorem sc__law_five : FnScope N__law_five ["_law_box_here", "_law_people"] (defScope s__law_five) := ⟨rfl, rfl, rfl, by decide +kernel, rfl, by decide +kernel, by decide +kernel⟩
abbrev s_BadTag_init : Stmt := inClass (top 2) 0
abbrev N_BadTag_init : List Str := ["self", "what"]
theorem sc_BadTag_init : FnScope N_BadTag_init ["self", "what"] (defScope s_BadTag_init) := ⟨rfl, rfl, rfl, by decide +kernel, rfl, by decide +kernel, by decide +kernel⟩
abbrev s_is_name : Stmt := top 26
abbrev N_is_name : List Str := ["thing", "sign"]
theorem sc_is_name : FnScope N_is_name ["thing"] (defScope s_is_name) := ⟨rfl, rfl, rfl, by decide +kernel, rfl, by decide +kernel, by decide +kernel⟩
abbrev s_is_whole : Stmt := top 27
abbrev N_is_whole : List Str := ["thing", "least", "most"]
theorem sc_is_whole : FnScope N_is_whole ["thing", "least", "most"] (defScope s_is_whole) := ⟨rfl, rfl, rfl, by decide +kernel, rfl, by decide +kernel, by decide +kernel⟩
abbrev s_Tag_init : Stmt := inClass (top 30) 0
abbrev N_Tag_init : List Str := ["self", "owner", "number", "price", "least", "day"]
theorem sc_Tag_init : FnScope N_Tag_init ["self", "owner", "number", "price", "least", "day"] (defScope s_Tag_init) := ⟨rfl, rfl, rfl, by decide +kernel, rfl, by decide +kernel, by decide +kernel⟩
abbrev s__law_made : Stmt := top 38
abbrev N__law_made : List Str := ["_law_box_here", "_law_five_here", "_law_owner", "_law_number", "_law_price_here", "_law_lowest", "_law_when", "_law_way"]
theorem sc__law_made : FnScope N__law_made ["_law_box_here", "_law_five_here"] (defScope s__law_made) := ⟨rfl, rfl, rfl, by decide +kernel, rfl, by decide +kernel, by decide +kernel⟩
abbrev s_BadText_init : Stmt := inClass (top 3) 0
abbrev N_BadText_init : List Str := ["self", "what"]
theorem sc_BadText_init : FnScope N_BadText_init ["self", "what"] (defScope s_BadText_init) := ⟨rfl, rfl, rfl, by decide +kernel, rfl, by decide +kernel, by decide +kernel⟩
abbrev s_TooMany_init : Stmt := inClass (top 15) 0
abbrev N_TooMany_init : List Str := ["self", "what"]
theorem sc_TooMany_init : FnScope N_TooMany_init ["self", "what"] (defScope s_TooMany_init) := ⟨rfl, rfl, rfl, by decide +kernel, rfl, by decide +kernel, by decide +kernel⟩
abbrev s_TooEarly_init : Stmt := inClass (top 16) 0
abbrev N_TooEarly_init : List Str := ["self", "what"]
theorem sc_TooEarly_init : FnScope N_TooEarly_init ["self", "what"] (defScope s_TooEarly_init) := ⟨rfl, rfl, rfl, by decide +kernel, rfl, by decide +kernel, by decide +kernel⟩
abbrev s_BadSum_init : Stmt := inClass (top 1) 0
abbrev N_BadSum_init : List Str := ["self", "what"]
theorem sc_BadSum_init : FnScope N_BadSum_init ["self", "what"] (defScope s_BadSum_init) := ⟨rfl, rfl, rfl, by decide +kernel, rfl, by decide +kernel, by decide +kernel⟩
abbrev s_BadOrder_init : Stmt := inClass (top 4) 0
abbrev N_BadOrder_init : List Str := ["self", "what"]
theorem sc_BadOrder_init : FnScope N_BadOrder_init ["self", "what"] (defScope s_BadOrder_init) := ⟨rfl, rfl, rfl, by decide +kernel, rfl, by decide +kernel, by decide +kernel⟩
abbrev s_BadQuery_init : Stmt := inClass (top 5) 0
abbrev N_BadQuery_init : List Str := ["self", "what"]
theorem sc_BadQuery_init : FnScope N_BadQuery_init ["self", "what"] (defScope s_BadQuery_init) := ⟨rfl, rfl, rfl, by decide +kernel, rfl, by decide +kernel, by decide +kernel⟩
abbrev s_BadColumn_init : Stmt := inClass (top 6) 0
abbrev N_BadColumn_init : List Str := ["self", "what"]
theorem sc_BadColumn_init : FnScope N_BadColumn_init ["self", "what"] (defScope s_BadColumn_init) := ⟨rfl, rfl, rfl, by decide +kernel, rfl, by decide +kernel, by decide +kernel⟩
abbrev s_BadDeed_init : Stmt := inClass (top 17) 0
abbrev N_BadDeed_init : List Str := ["self", "what"]
theorem sc_BadDeed_init : FnScope N_BadDeed_init ["self", "what"] (defScope s_BadDeed_init) := ⟨rfl, rfl, rfl, by decide +kernel, rfl, by decide +kernel, by decide +kernel⟩
abbrev s_BadRow_init : Stmt := inClass (top 7) 0
abbrev N_BadRow_init : List Str := ["self", "what"]
theorem sc_BadRow_init : FnScope N_BadRow_init ["self", "what"] (defScope s_BadRow_init) := ⟨rfl, rfl, rfl, by decide +kernel, rfl, by decide +kernel, by decide +kernel⟩
abbrev s_NoCoin_init : Stmt := inClass (top 8) 0
abbrev N_NoCoin_init : List Str := ["self", "what"]
theorem sc_NoCoin_init : FnScope N_NoCoin_init ["self", "what"] (defScope s_NoCoin_init) := ⟨rfl, rfl, rfl, by decide +kernel, rfl, by decide +kernel, by decide +kernel⟩
abbrev s_NoEntry_init : Stmt := inClass (top 9) 0
abbrev N_NoEntry_init : List Str := ["self", "what"]
theorem sc_NoEntry_init : FnScope N_NoEntry_init ["self", "what"] (defScope s_NoEntry_init) := ⟨rfl, rfl, rfl, by decide +kernel, rfl, by decide +kernel, by decide +kernel⟩
abbrev s_NoThing_init : Stmt := inClass (top 10) 0
abbrev N_NoThing_init : List Str := ["self", "what"]
theorem sc_NoThing_init : FnScope N_NoThing_init ["self", "what"] (defScope s_NoThing_init) := ⟨rfl, rfl, rfl, by decide +kernel, rfl, by decide +kernel, by decide +kernel⟩
abbrev s_NoChange_init : Stmt := inClass (top 11) 0
abbrev N_NoChange_init : List Str := ["self", "what"]
theorem sc_NoChange_init : FnScope N_NoChange_init ["self", "what"] (defScope s_NoChange_init) := ⟨rfl, rfl, rfl, by decide +kernel, rfl, by decide +kernel, by decide +kernel⟩
abbrev s_BadDay_init : Stmt := inClass (top 12) 0
abbrev N_BadDay_init : List Str := ["self", "what"]
theorem sc_BadDay_init : FnScope N_BadDay_init ["self", "what"] (defScope s_BadDay_init) := ⟨rfl, rfl, rfl, by decide +kernel, rfl, by decide +kernel, by decide +kernel⟩
abbrev s_TooLow_init : Stmt := inClass (top 13) 0
abbrev N_TooLow_init : List Str := ["self", "what"]
theorem sc_TooLow_init : FnScope N_TooLow_init ["self", "what"] (defScope s_TooLow_init) := ⟨rfl, rfl, rfl, by decide +kernel, rfl, by decide +kernel, by decide +kernel⟩
abbrev s_TooLittle_init : Stmt := inClass (top 14) 0
abbrev N_TooLittle_init : List Str := ["self", "what"]
theorem sc_TooLittle_init : FnScope N_TooLittle_init ["self", "what"] (defScope s_TooLittle_init) := ⟨rfl, rfl, rfl, by decide +kernel, rfl, by decide +kernel, by decide +kernel⟩
abbrev s__law_classes_right : Stmt := top 45
abbrev N__law_classes_right : List Str := ["_law_some", "_law_whats", "_law_bases", "_law_one", "_law_kinds", "_law_kind", "_law_due"]
theorem sc__law_classes_right : FnScope N__law_classes_right [] (defScope s__law_classes_right) := ⟨rfl, rfl, rfl, by decide +kernel, rfl, by decide +kernel, by decide +kernel⟩
abbrev s__law_names : Stmt := top 35
abbrev N__law_names : List Str := ["_law_box_here", "_law_many", "_law_letters", "_law_found", "_law_first", "_law_step", "_law_words", "_law_k", "_law_own", "_law_tail", "_law_turn", "_law_name"]
theorem sc__law_names : FnScope N__law_names ["_law_box_here", "_law_many"] (defScope s__law_names) := ⟨rfl, rfl, rfl, by decide +kernel, rfl, by decide +kernel, by decide +kernel⟩
abbrev s__law_whole : Stmt := top 42
abbrev N__law_whole : List Str := ["_law_thing", "_law_lowest", "_law_most"]
theorem sc__law_whole : FnScope N__law_whole ["_law_thing", "_law_lowest", "_law_most"] (defScope s__law_whole) := ⟨rfl, rfl, rfl, by decide +kernel, rfl, by decide +kernel, by decide +kernel⟩
abbrev s__law_fault : Stmt := top 43
abbrev N__law_fault : List Str := ["_law_five_here", "_law_owner", "_law_sign"]
theorem sc__law_fault : FnScope N__law_fault ["_law_five_here"] (defScope s__law_fault) := ⟨rfl, rfl, rfl, by decide +kernel, rfl, by decide +kernel, by decide +kernel⟩
abbrev s__law_same : Stmt := top 40
abbrev N__law_same : List Str := ["_law_found", "_law_due", "_law_one", "_law_other"]
theorem sc__law_same : FnScope N__law_same ["_law_found", "_law_due"] (defScope s__law_same) := ⟨rfl, rfl, rfl, by decide +kernel, rfl, by decide +kernel, by decide +kernel⟩
abbrev s__law_odd : Stmt := top 41
abbrev N__law_odd : List Str := ["_law_box_here", "_law_five_here", "_law_at", "_law_way", "_law_price_here", "_law_people", "_law_numbers", "_law_prices", "_law_leasts", "_law_days", "_law_new"]
theorem sc__law_odd : FnScope N__law_odd ["_law_box_here", "_law_five_here"] (defScope s__law_odd) := ⟨rfl, rfl, rfl, by decide +kernel, rfl, by decide +kernel, by decide +kernel⟩
abbrev s__law_fields : Stmt := top 39
abbrev N__law_fields : List Str := ["_law_tag"]
theorem sc__law_fields : FnScope N__law_fields ["_law_tag"] (defScope s__law_fields) := ⟨rfl, rfl, rfl, by decide +kernel, rfl, by decide +kernel, by decide +kernel⟩
abbrev s__law_told : Stmt := top 44
abbrev N__law_told : List Str := ["_law_five_here", "_law_named", "_law_found", "_law_caught", "error", "_law_others"]
theorem sc__law_told : FnScope N__law_told ["_law_five_here", "_law_named"] (defScope s__law_told) := ⟨rfl, rfl, rfl, by decide +kernel, rfl, by decide +kernel, by decide +kernel⟩
abbrev s__law_right : Stmt := top 46
abbrev N__law_right : List Str := ["_law_box_here", "_law_people", "_law_first", "_law_tag", "_law_turn", "_law_five_here", "_law_step", "_law_fault_here", "_law_plain"]
theorem sc__law_right : FnScope N__law_right ["_law_box_here"] (defScope s__law_right) := ⟨rfl, rfl, rfl, by decide +kernel, rfl, by decide +kernel, by decide +kernel⟩
abbrev s__law_box : Stmt := top 32
abbrev N__law_box : List Str := ["_law_script", "_law_k", "_law_cell"]
theorem sc__law_box : FnScope N__law_box ["_law_script", "_law_k"] (defScope s__law_box) := ⟨rfl, rfl, rfl, by decide +kernel, rfl, by decide +kernel, by decide +kernel⟩
abbrev s_law : Stmt := top 47
abbrev N_law : List Str := ["_law_script", "_law_cells", "_law_k"]
theorem sc_law : FnScope N_law ["_law_script"] (defScope s_law) := ⟨rfl, rfl, rfl, by decide +kernel, rfl, by decide +kernel, by decide +kernel⟩
structure Ad where
  C_BadTag : Addr
  C_BadText : Addr
  C_TooMany : Addr
  C_TooEarly : Addr
  C_BadSum : Addr
  C_BadOrder : Addr
  C_BadQuery : Addr
  C_BadColumn : Addr
  C_BadDeed : Addr
  C_BadRow : Addr
  C_NoCoin : Addr
  C_NoEntry : Addr
  C_NoThing : Addr
  C_NoChange : Addr
  C_BadDay : Addr
  C_TooLow : Addr
  C_TooLittle : Addr
  C_Tag : Addr
  f__law_folded : Addr
  d__law_folded : FuncData
  f__law_take : Addr
  d__law_take : FuncData
  f__law_price : Addr
  d__law_price : FuncData
  f__law_five : Addr
  d__law_five : FuncData
  f_BadTag_init : Addr
  d_BadTag_init : FuncData
  f_is_name : Addr
  d_is_name : FuncData
  f_is_whole : Addr
  d_is_whole : FuncData
  f_Tag_init : Addr
  d_Tag_init : FuncData
  f__law_made : Addr
  d__law_made : FuncData
  f_BadText_init : Addr
  d_BadText_init : FuncData
  f_TooMany_init : Addr
  d_TooMany_init : FuncData
  f_TooEarly_init : Addr
  d_TooEarly_init : FuncData
  f_BadSum_init : Addr
  d_BadSum_init : FuncData
  f_BadOrder_init : Addr
  d_BadOrder_init : FuncData
  f_BadQuery_init : Addr
  d_BadQuery_init : FuncData
  f_BadColumn_init : Addr
  d_BadColumn_init : FuncData
  f_BadDeed_init : Addr
  d_BadDeed_init : FuncData
  f_BadRow_init : Addr
  d_BadRow_init : FuncData
  f_NoCoin_init : Addr
  d_NoCoin_init : FuncData
  f_NoEntry_init : Addr
  d_NoEntry_init : FuncData
  f_NoThing_init : Addr
  d_NoThing_init : FuncData
  f_NoChange_init : Addr
  d_NoChange_init : FuncData
  f_BadDay_init : Addr
  d_BadDay_init : FuncData
  f_TooLow_init : Addr
  d_TooLow_init : FuncData
  f_TooLittle_init : Addr
  d_TooLittle_init : FuncData
  f__law_classes_right : Addr
  d__law_classes_right : FuncData
  f__law_names : Addr
  d__law_names : FuncData
  f__law_whole : Addr
  d__law_whole : FuncData
  f__law_fault : Addr
  d__law_fault : FuncData
  f__law_same : Addr
  d__law_same : FuncData
  f__law_odd : Addr
  d__law_odd : FuncData
  f__law_fields : Addr
  d__law_fields : FuncData
  f__law_told : Addr
  d__law_told : FuncData
  f__law_right : Addr
  d__law_right : FuncData
  f__law_box : Addr
  d__law_box : FuncData
  f_law : Addr
  d_law : FuncData
structure Txt (K : PySem.W.Frag) (mg : Str → Option Value) (a : Ad) : Prop where
  n_list : mg "list" = none
  n_enumerate : mg "enumerate" = none
  n_divmod : mg "divmod" = none
  n_len : mg "len" = none
  n_ValueError : mg "ValueError" = none
  n_all : mg "all" = none
  n_isinstance : mg "isinstance" = none
  n_str : mg "str" = none
  n_int : mg "int" = none
  n_bool : mg "bool" = none
  n_OverflowError : mg "OverflowError" = none
  n_RuntimeError : mg "RuntimeError" = none
  n_TypeError : mg "TypeError" = none
  n_KeyError : mg "KeyError" = none
  n_LookupError : mg "LookupError" = none
  n_IndexError : mg "IndexError" = none
  n_ArithmeticError : mg "ArithmeticError" = none
  n_range : mg "range" = none
  n_tuple : mg "tuple" = none
  n_zip : mg "zip" = none
  n_abs : mg "abs" = none
  n_max : mg "max" = none
  c_SMALL_SIGNS : ∃ u, mg "SMALL_SIGNS" = some u ∧ RelV (.str "abcdefghijklmnopqrstuvwxyz") u
  c_MOST_SIGNS : ∃ u, mg "MOST_SIGNS" = some u ∧ RelV (.int 8) u
  c_MOST_NUMBER : ∃ u, mg "MOST_NUMBER" = some u ∧ RelV (.int 9999) u
  c_MOST_PRICE : ∃ u, mg "MOST_PRICE" = some u ∧ RelV (.int 99999) u
  c_MOST_DAY : ∃ u, mg "MOST_DAY" = some u ∧ RelV (.int 999) u
  cl_Tag : Cls K a.C_Tag
  g_Tag : mg "Tag" = some (.ref a.C_Tag)
  q_Tag : PySem.W.nsIn K mainGlobals "Tag" = some (some (.ref a.C_Tag))
  mk_Tag : Mk K a.C_Tag a.f_Tag_init
  na_Tag_owner : NoAttr K a.C_Tag "owner"
  na_Tag_number : NoAttr K a.C_Tag "number"
  na_Tag_price : NoAttr K a.C_Tag "price"
  na_Tag_least : NoAttr K a.C_Tag "least"
  na_Tag_day : NoAttr K a.C_Tag "day"
  F__law_folded : Fun K "_law_folded" "_law_folded" s__law_folded a.f__law_folded a.d__law_folded
  g__law_folded : mg "_law_folded" = some (.ref a.f__law_folded)
  b__law_folded : Binds K a.d__law_folded ["_law_script", "_law_size"] []
  F__law_take : Fun K "_law_take" "_law_take" s__law_take a.f__law_take a.d__law_take
  g__law_take : mg "_law_take" = some (.ref a.f__law_take)
  b__law_take : Binds K a.d__law_take ["_law_box_here", "_law_size"] []
  F__law_price : Fun K "_law_price" "_law_price" s__law_price a.f__law_price a.d__law_price
  g__law_price : mg "_law_price" = some (.ref a.f__law_price)
  b__law_price : Binds K a.d__law_price ["_law_box_here"] []
  F__law_five : Fun K "_law_five" "_law_five" s__law_five a.f__law_five a.d__law_five
  g__law_five : mg "_law_five" = some (.ref a.f__law_five)
  b__law_five : Binds K a.d__law_five ["_law_box_here", "_law_people"] []
  F_BadTag_init : Fun K "__init__" "BadTag.__init__" s_BadTag_init a.f_BadTag_init a.d_BadTag_init
  b_BadTag_init : Binds K a.d_BadTag_init ["self", "what"] []
  F_is_name : Fun K "is_name" "is_name" s_is_name a.f_is_name a.d_is_name
  g_is_name : mg "is_name" = some (.ref a.f_is_name)
  b_is_name : Binds K a.d_is_name ["thing"] []
  F_is_whole : Fun K "is_whole" "is_whole" s_is_whole a.f_is_whole a.d_is_whole
  g_is_whole : mg "is_whole" = some (.ref a.f_is_whole)
  b_is_whole : Binds K a.d_is_whole ["thing", "least", "most"] []
  F_Tag_init : FunD K "__init__" "Tag.__init__" (defArgs s_Tag_init) (defBody s_Tag_init) (defScope s_Tag_init) [.int 0, .int 0] [] a.f_Tag_init a.d_Tag_init
  b_Tag_init_6 : ∃ ds, Vals [] ds ∧ Binds K a.d_Tag_init ["self", "owner", "number", "price", "least", "day"] ds
  b_Tag_init_4 : ∃ ds, Vals [.int 0, .int 0] ds ∧ Binds K a.d_Tag_init ["self", "owner", "number", "price", "least", "day"] ds
  kb_Tag_init_4_day : ∃ its : List Value, KBn K a.d_Tag_init ["self", "owner", "number", "price", "least", "day"] 4 ["day"] (fun us ws => us ++ (its.drop 0).take 1 ++ (ws.drop 0).take 1) (fun vs zs => vs ++ (([.int 0, .int 0] : List V).drop 0).take 1 ++ (zs.drop 0).take 1)
  b_Tag_init_5 : ∃ ds, Vals [.int 0] ds ∧ Binds K a.d_Tag_init ["self", "owner", "number", "price", "least", "day"] ds
  kb_Tag_init_4_day_least : ∃ its : List Value, KBn K a.d_Tag_init ["self", "owner", "number", "price", "least", "day"] 4 ["day", "least"] (fun us ws => us ++ (ws.drop 1).take 1 ++ (ws.drop 0).take 1) (fun vs zs => vs ++ (zs.drop 1).take 1 ++ (zs.drop 0).take 1)
  kb_Tag_init_5_day : ∃ its : List Value, KBn K a.d_Tag_init ["self", "owner", "number", "price", "least", "day"] 5 ["day"] (fun us ws => us ++ (ws.drop 0).take 1) (fun vs zs => vs ++ (zs.drop 0).take 1)
  F__law_made : Fun K "_law_made" "_law_made" s__law_made a.f__law_made a.d__law_made
  g__law_made : mg "_law_made" = some (.ref a.f__law_made)
  b__law_made : Binds K a.d__law_made ["_law_box_here", "_law_five_here"] []
  F_BadText_init : Fun K "__init__" "BadText.__init__" s_BadText_init a.f_BadText_init a.d_BadText_init
  b_BadText_init : Binds K a.d_BadText_init ["self", "what"] []
  F_TooMany_init : Fun K "__init__" "TooMany.__init__" s_TooMany_init a.f_TooMany_init a.d_TooMany_init
  b_TooMany_init : Binds K a.d_TooMany_init ["self", "what"] []
  F_TooEarly_init : Fun K "__init__" "TooEarly.__init__" s_TooEarly_init a.f_TooEarly_init a.d_TooEarly_init
  b_TooEarly_init : Binds K a.d_TooEarly_init ["self", "what"] []
  F_BadSum_init : Fun K "__init__" "BadSum.__init__" s_BadSum_init a.f_BadSum_init a.d_BadSum_init
  b_BadSum_init : Binds K a.d_BadSum_init ["self", "what"] []
  F_BadOrder_init : Fun K "__init__" "BadOrder.__init__" s_BadOrder_init a.f_BadOrder_init a.d_BadOrder_init
  b_BadOrder_init : Binds K a.d_BadOrder_init ["self", "what"] []
  F_BadQuery_init : Fun K "__init__" "BadQuery.__init__" s_BadQuery_init a.f_BadQuery_init a.d_BadQuery_init
  b_BadQuery_init : Binds K a.d_BadQuery_init ["self", "what"] []
  F_BadColumn_init : Fun K "__init__" "BadColumn.__init__" s_BadColumn_init a.f_BadColumn_init a.d_BadColumn_init
  b_BadColumn_init : Binds K a.d_BadColumn_init ["self", "what"] []
  F_BadDeed_init : Fun K "__init__" "BadDeed.__init__" s_BadDeed_init a.f_BadDeed_init a.d_BadDeed_init
  b_BadDeed_init : Binds K a.d_BadDeed_init ["self", "what"] []
  F_BadRow_init : Fun K "__init__" "BadRow.__init__" s_BadRow_init a.f_BadRow_init a.d_BadRow_init
  b_BadRow_init : Binds K a.d_BadRow_init ["self", "what"] []
  F_NoCoin_init : Fun K "__init__" "NoCoin.__init__" s_NoCoin_init a.f_NoCoin_init a.d_NoCoin_init
  b_NoCoin_init : Binds K a.d_NoCoin_init ["self", "what"] []
  F_NoEntry_init : Fun K "__init__" "NoEntry.__init__" s_NoEntry_init a.f_NoEntry_init a.d_NoEntry_init
  b_NoEntry_init : Binds K a.d_NoEntry_init ["self", "what"] []
  F_NoThing_init : Fun K "__init__" "NoThing.__init__" s_NoThing_init a.f_NoThing_init a.d_NoThing_init
  b_NoThing_init : Binds K a.d_NoThing_init ["self", "what"] []
  F_NoChange_init : Fun K "__init__" "NoChange.__init__" s_NoChange_init a.f_NoChange_init a.d_NoChange_init
  b_NoChange_init : Binds K a.d_NoChange_init ["self", "what"] []
  F_BadDay_init : Fun K "__init__" "BadDay.__init__" s_BadDay_init a.f_BadDay_init a.d_BadDay_init
  b_BadDay_init : Binds K a.d_BadDay_init ["self", "what"] []
  F_TooLow_init : Fun K "__init__" "TooLow.__init__" s_TooLow_init a.f_TooLow_init a.d_TooLow_init
  b_TooLow_init : Binds K a.d_TooLow_init ["self", "what"] []
  F_TooLittle_init : Fun K "__init__" "TooLittle.__init__" s_TooLittle_init a.f_TooLittle_init a.d_TooLittle_init
  b_TooLittle_init : Binds K a.d_TooLittle_init ["self", "what"] []
  F__law_classes_right : Fun K "_law_classes_right" "_law_classes_right" s__law_classes_right a.f__law_classes_right a.d__law_classes_right
  g__law_classes_right : mg "_law_classes_right" = some (.ref a.f__law_classes_right)
  b__law_classes_right : Binds K a.d__law_classes_right [] []
  F__law_names : Fun K "_law_names" "_law_names" s__law_names a.f__law_names a.d__law_names
  g__law_names : mg "_law_names" = some (.ref a.f__law_names)
  b__law_names : Binds K a.d__law_names ["_law_box_here", "_law_many"] []
  F__law_whole : Fun K "_law_whole" "_law_whole" s__law_whole a.f__law_whole a.d__law_whole
  g__law_whole : mg "_law_whole" = some (.ref a.f__law_whole)
  b__law_whole : Binds K a.d__law_whole ["_law_thing", "_law_lowest", "_law_most"] []
  F__law_fault : Fun K "_law_fault" "_law_fault" s__law_fault a.f__law_fault a.d__law_fault
  g__law_fault : mg "_law_fault" = some (.ref a.f__law_fault)
  b__law_fault : Binds K a.d__law_fault ["_law_five_here"] []
  F__law_same : Fun K "_law_same" "_law_same" s__law_same a.f__law_same a.d__law_same
  g__law_same : mg "_law_same" = some (.ref a.f__law_same)
  b__law_same : Binds K a.d__law_same ["_law_found", "_law_due"] []
  F__law_odd : Fun K "_law_odd" "_law_odd" s__law_odd a.f__law_odd a.d__law_odd
  g__law_odd : mg "_law_odd" = some (.ref a.f__law_odd)
  b__law_odd : Binds K a.d__law_odd ["_law_box_here", "_law_five_here"] []
  F__law_fields : Fun K "_law_fields" "_law_fields" s__law_fields a.f__law_fields a.d__law_fields
  g__law_fields : mg "_law_fields" = some (.ref a.f__law_fields)
  b__law_fields : Binds K a.d__law_fields ["_law_tag"] []
  F__law_told : Fun K "_law_told" "_law_told" s__law_told a.f__law_told a.d__law_told
  g__law_told : mg "_law_told" = some (.ref a.f__law_told)
  b__law_told : Binds K a.d__law_told ["_law_five_here", "_law_named"] []
  F__law_right : Fun K "_law_right" "_law_right" s__law_right a.f__law_right a.d__law_right
  g__law_right : mg "_law_right" = some (.ref a.f__law_right)
  b__law_right : Binds K a.d__law_right ["_law_box_here"] []
  F__law_box : Fun K "_law_box" "_law_box" s__law_box a.f__law_box a.d__law_box
  g__law_box : mg "_law_box" = some (.ref a.f__law_box)
  b__law_box : Binds K a.d__law_box ["_law_script", "_law_k"] []
  F_law : Fun K "law" "law" s_law a.f_law a.d_law
  g_BadTag : mg "BadTag" = some (.ref a.C_BadTag)
  q_BadTag : PySem.W.nsIn K mainGlobals "BadTag" = some (some (.ref a.C_BadTag))
  g_BadText : mg "BadText" = some (.ref a.C_BadText)
  q_BadText : PySem.W.nsIn K mainGlobals "BadText" = some (some (.ref a.C_BadText))
  g_TooMany : mg "TooMany" = some (.ref a.C_TooMany)
  q_TooMany : PySem.W.nsIn K mainGlobals "TooMany" = some (some (.ref a.C_TooMany))
  g_TooEarly : mg "TooEarly" = some (.ref a.C_TooEarly)
  q_TooEarly : PySem.W.nsIn K mainGlobals "TooEarly" = some (some (.ref a.C_TooEarly))
  g_BadSum : mg "BadSum" = some (.ref a.C_BadSum)
  q_BadSum : PySem.W.nsIn K mainGlobals "BadSum" = some (some (.ref a.C_BadSum))
  g_BadOrder : mg "BadOrder" = some (.ref a.C_BadOrder)
  q_BadOrder : PySem.W.nsIn K mainGlobals "BadOrder" = some (some (.ref a.C_BadOrder))
  g_BadQuery : mg "BadQuery" = some (.ref a.C_BadQuery)
  q_BadQuery : PySem.W.nsIn K mainGlobals "BadQuery" = some (some (.ref a.C_BadQuery))
  g_BadColumn : mg "BadColumn" = some (.ref a.C_BadColumn)
  q_BadColumn : PySem.W.nsIn K mainGlobals "BadColumn" = some (some (.ref a.C_BadColumn))
  g_BadDeed : mg "BadDeed" = some (.ref a.C_BadDeed)
  q_BadDeed : PySem.W.nsIn K mainGlobals "BadDeed" = some (some (.ref a.C_BadDeed))
  g_BadRow : mg "BadRow" = some (.ref a.C_BadRow)
  q_BadRow : PySem.W.nsIn K mainGlobals "BadRow" = some (some (.ref a.C_BadRow))
  g_NoCoin : mg "NoCoin" = some (.ref a.C_NoCoin)
  q_NoCoin : PySem.W.nsIn K mainGlobals "NoCoin" = some (some (.ref a.C_NoCoin))
  g_NoEntry : mg "NoEntry" = some (.ref a.C_NoEntry)
  q_NoEntry : PySem.W.nsIn K mainGlobals "NoEntry" = some (some (.ref a.C_NoEntry))
  g_NoThing : mg "NoThing" = some (.ref a.C_NoThing)
  q_NoThing : PySem.W.nsIn K mainGlobals "NoThing" = some (some (.ref a.C_NoThing))
  g_NoChange : mg "NoChange" = some (.ref a.C_NoChange)
  q_NoChange : PySem.W.nsIn K mainGlobals "NoChange" = some (some (.ref a.C_NoChange))
  g_BadDay : mg "BadDay" = some (.ref a.C_BadDay)
  q_BadDay : PySem.W.nsIn K mainGlobals "BadDay" = some (some (.ref a.C_BadDay))
  g_TooLow : mg "TooLow" = some (.ref a.C_TooLow)
  q_TooLow : PySem.W.nsIn K mainGlobals "TooLow" = some (some (.ref a.C_TooLow))
  g_TooLittle : mg "TooLittle" = some (.ref a.C_TooLittle)
  q_TooLittle : PySem.W.nsIn K mainGlobals "TooLittle" = some (some (.ref a.C_TooLittle))
  ob_BadTag : OxB K a.C_BadTag "ValueError" "ValueError.__new__" "ValueError.__init__" [.type "ValueError", .type "Exception", .type "BaseException", .type "object"]
  xk_BadTag : ExK K a.C_BadTag
  in_BadTag : PySem.W.findIn K (.ref a.C_BadTag) "__init__" = some (some (.ref a.f_BadTag_init))
  ty_BadTag : PySem.W.typeIn K (.ref a.f_BadTag_init) = some (.type "function")
  vb_BadTag : PySem.W.findCls K (.type "ValueError") (.type "type") "__init__" = some (.val (.builtin "ValueError.__init__"))
  ob_BadText : OxB K a.C_BadText "ValueError" "ValueError.__new__" "ValueError.__init__" [.type "ValueError", .type "Exception", .type "BaseException", .type "object"]
  xk_BadText : ExK K a.C_BadText
  in_BadText : PySem.W.findIn K (.ref a.C_BadText) "__init__" = some (some (.ref a.f_BadText_init))
  ty_BadText : PySem.W.typeIn K (.ref a.f_BadText_init) = some (.type "function")
  vb_BadText : PySem.W.findCls K (.type "ValueError") (.type "type") "__init__" = some (.val (.builtin "ValueError.__init__"))
  ob_TooMany : OxB K a.C_TooMany "OverflowError" "OverflowError.__new__" "OverflowError.__init__" [.type "OverflowError", .type "ArithmeticError", .type "Exception", .type "BaseException", .type "object"]
  xk_TooMany : ExK K a.C_TooMany
  in_TooMany : PySem.W.findIn K (.ref a.C_TooMany) "__init__" = some (some (.ref a.f_TooMany_init))
  ty_TooMany : PySem.W.typeIn K (.ref a.f_TooMany_init) = some (.type "function")
  vb_TooMany : PySem.W.findCls K (.type "OverflowError") (.type "type") "__init__" = some (.val (.builtin "OverflowError.__init__"))
  ob_TooEarly : OxB K a.C_TooEarly "RuntimeError" "RuntimeError.__new__" "RuntimeError.__init__" [.type "RuntimeError", .type "Exception", .type "BaseException", .type "object"]
  xk_TooEarly : ExK K a.C_TooEarly
  in_TooEarly : PySem.W.findIn K (.ref a.C_TooEarly) "__init__" = some (some (.ref a.f_TooEarly_init))
  ty_TooEarly : PySem.W.typeIn K (.ref a.f_TooEarly_init) = some (.type "function")
  vb_TooEarly : PySem.W.findCls K (.type "RuntimeError") (.type "type") "__init__" = some (.val (.builtin "RuntimeError.__init__"))
  ob_BadSum : OxB K a.C_BadSum "ValueError" "ValueError.__new__" "ValueError.__init__" [.type "ValueError", .type "Exception", .type "BaseException", .type "object"]
  xk_BadSum : ExK K a.C_BadSum
  in_BadSum : PySem.W.findIn K (.ref a.C_BadSum) "__init__" = some (some (.ref a.f_BadSum_init))
  ty_BadSum : PySem.W.typeIn K (.ref a.f_BadSum_init) = some (.type "function")
  vb_BadSum : PySem.W.findCls K (.type "ValueError") (.type "type") "__init__" = some (.val (.builtin "ValueError.__init__"))
  ob_BadOrder : OxB K a.C_BadOrder "ValueError" "ValueError.__new__" "ValueError.__init__" [.type "ValueError", .type "Exception", .type "BaseException", .type "object"]
  xk_BadOrder : ExK K a.C_BadOrder
  in_BadOrder : PySem.W.findIn K (.ref a.C_BadOrder) "__init__" = some (some (.ref a.f_BadOrder_init))
  ty_BadOrder : PySem.W.typeIn K (.ref a.f_BadOrder_init) = some (.type "function")
  vb_BadOrder : PySem.W.findCls K (.type "ValueError") (.type "type") "__init__" = some (.val (.builtin "ValueError.__init__"))
  ob_BadQuery : OxB K a.C_BadQuery "ValueError" "ValueError.__new__" "ValueError.__init__" [.type "ValueError", .type "Exception", .type "BaseException", .type "object"]
  xk_BadQuery : ExK K a.C_BadQuery
  in_BadQuery : PySem.W.findIn K (.ref a.C_BadQuery) "__init__" = some (some (.ref a.f_BadQuery_init))
  ty_BadQuery : PySem.W.typeIn K (.ref a.f_BadQuery_init) = some (.type "function")
  vb_BadQuery : PySem.W.findCls K (.type "ValueError") (.type "type") "__init__" = some (.val (.builtin "ValueError.__init__"))
  ob_BadColumn : OxB K a.C_BadColumn "ValueError" "ValueError.__new__" "ValueError.__init__" [.type "ValueError", .type "Exception", .type "BaseException", .type "object"]
  xk_BadColumn : ExK K a.C_BadColumn
  in_BadColumn : PySem.W.findIn K (.ref a.C_BadColumn) "__init__" = some (some (.ref a.f_BadColumn_init))
  ty_BadColumn : PySem.W.typeIn K (.ref a.f_BadColumn_init) = some (.type "function")
  vb_BadColumn : PySem.W.findCls K (.type "ValueError") (.type "type") "__init__" = some (.val (.builtin "ValueError.__init__"))
  ob_BadDeed : OxB K a.C_BadDeed "TypeError" "TypeError.__new__" "TypeError.__init__" [.type "TypeError", .type "Exception", .type "BaseException", .type "object"]
  xk_BadDeed : ExK K a.C_BadDeed
  in_BadDeed : PySem.W.findIn K (.ref a.C_BadDeed) "__init__" = some (some (.ref a.f_BadDeed_init))
  ty_BadDeed : PySem.W.typeIn K (.ref a.f_BadDeed_init) = some (.type "function")
  vb_BadDeed : PySem.W.findCls K (.type "TypeError") (.type "type") "__init__" = some (.val (.builtin "TypeError.__init__"))
  ob_BadRow : OxB K a.C_BadRow "ValueError" "ValueError.__new__" "ValueError.__init__" [.type "ValueError", .type "Exception", .type "BaseException", .type "object"]
  xk_BadRow : ExK K a.C_BadRow
  in_BadRow : PySem.W.findIn K (.ref a.C_BadRow) "__init__" = some (some (.ref a.f_BadRow_init))
  ty_BadRow : PySem.W.typeIn K (.ref a.f_BadRow_init) = some (.type "function")
  vb_BadRow : PySem.W.findCls K (.type "ValueError") (.type "type") "__init__" = some (.val (.builtin "ValueError.__init__"))
  ob_NoCoin : OxB K a.C_NoCoin "KeyError" "LookupError.__new__" "KeyError.__init__" [.type "KeyError", .type "LookupError", .type "Exception", .type "BaseException", .type "object"]
  xk_NoCoin : ExK K a.C_NoCoin
  in_NoCoin : PySem.W.findIn K (.ref a.C_NoCoin) "__init__" = some (some (.ref a.f_NoCoin_init))
  ty_NoCoin : PySem.W.typeIn K (.ref a.f_NoCoin_init) = some (.type "function")
  vb_NoCoin : PySem.W.findCls K (.type "KeyError") (.type "type") "__init__" = some (.val (.builtin "KeyError.__init__"))
  ob_NoEntry : OxB K a.C_NoEntry "KeyError" "LookupError.__new__" "KeyError.__init__" [.type "KeyError", .type "LookupError", .type "Exception", .type "BaseException", .type "object"]
  xk_NoEntry : ExK K a.C_NoEntry
  in_NoEntry : PySem.W.findIn K (.ref a.C_NoEntry) "__init__" = some (some (.ref a.f_NoEntry_init))
  ty_NoEntry : PySem.W.typeIn K (.ref a.f_NoEntry_init) = some (.type "function")
  vb_NoEntry : PySem.W.findCls K (.type "KeyError") (.type "type") "__init__" = some (.val (.builtin "KeyError.__init__"))
  ob_NoThing : OxB K a.C_NoThing "KeyError" "LookupError.__new__" "KeyError.__init__" [.type "KeyError", .type "LookupError", .type "Exception", .type "BaseException", .type "object"]
  xk_NoThing : ExK K a.C_NoThing
  in_NoThing : PySem.W.findIn K (.ref a.C_NoThing) "__init__" = some (some (.ref a.f_NoThing_init))
  ty_NoThing : PySem.W.typeIn K (.ref a.f_NoThing_init) = some (.type "function")
  vb_NoThing : PySem.W.findCls K (.type "KeyError") (.type "type") "__init__" = some (.val (.builtin "KeyError.__init__"))
  ob_NoChange : OxB K a.C_NoChange "LookupError" "LookupError.__new__" "LookupError.__init__" [.type "LookupError", .type "Exception", .type "BaseException", .type "object"]
  xk_NoChange : ExK K a.C_NoChange
  in_NoChange : PySem.W.findIn K (.ref a.C_NoChange) "__init__" = some (some (.ref a.f_NoChange_init))
  ty_NoChange : PySem.W.typeIn K (.ref a.f_NoChange_init) = some (.type "function")
  vb_NoChange : PySem.W.findCls K (.type "LookupError") (.type "type") "__init__" = some (.val (.builtin "LookupError.__init__"))
  ob_BadDay : OxB K a.C_BadDay "IndexError" "IndexError.__new__" "IndexError.__init__" [.type "IndexError", .type "LookupError", .type "Exception", .type "BaseException", .type "object"]
  xk_BadDay : ExK K a.C_BadDay
  in_BadDay : PySem.W.findIn K (.ref a.C_BadDay) "__init__" = some (some (.ref a.f_BadDay_init))
  ty_BadDay : PySem.W.typeIn K (.ref a.f_BadDay_init) = some (.type "function")
  vb_BadDay : PySem.W.findCls K (.type "IndexError") (.type "type") "__init__" = some (.val (.builtin "IndexError.__init__"))
  ob_TooLow : OxB K a.C_TooLow "ArithmeticError" "ArithmeticError.__new__" "ArithmeticError.__init__" [.type "ArithmeticError", .type "Exception", .type "BaseException", .type "object"]
  xk_TooLow : ExK K a.C_TooLow
  in_TooLow : PySem.W.findIn K (.ref a.C_TooLow) "__init__" = some (some (.ref a.f_TooLow_init))
  ty_TooLow : PySem.W.typeIn K (.ref a.f_TooLow_init) = some (.type "function")
  vb_TooLow : PySem.W.findCls K (.type "ArithmeticError") (.type "type") "__init__" = some (.val (.builtin "ArithmeticError.__init__"))
  ob_TooLittle : OxB K a.C_TooLittle "ArithmeticError" "ArithmeticError.__new__" "ArithmeticError.__init__" [.type "ArithmeticError", .type "Exception", .type "BaseException", .type "object"]
  xk_TooLittle : ExK K a.C_TooLittle
  in_TooLittle : PySem.W.findIn K (.ref a.C_TooLittle) "__init__" = some (some (.ref a.f_TooLittle_init))
  ty_TooLittle : PySem.W.typeIn K (.ref a.f_TooLittle_init) = some (.type "function")
  vb_TooLittle : PySem.W.findCls K (.type "ArithmeticError") (.type "type") "__init__" = some (.val (.builtin "ArithmeticError.__init__"))
  ts_0_BadTag : PySem.W.kitOne K (.ref a.C_BadTag) (.type "RuntimeError") = some false
  ts_0_BadText : PySem.W.kitOne K (.ref a.C_BadText) (.type "RuntimeError") = some false
  ts_0_TooMany : PySem.W.kitOne K (.ref a.C_TooMany) (.type "RuntimeError") = some false
  ts_0_TooEarly : PySem.W.kitOne K (.ref a.C_TooEarly) (.type "RuntimeError") = some true
  ts_0_BadSum : PySem.W.kitOne K (.ref a.C_BadSum) (.type "RuntimeError") = some false
  ts_0_BadOrder : PySem.W.kitOne K (.ref a.C_BadOrder) (.type "RuntimeError") = some false
  ts_0_BadQuery : PySem.W.kitOne K (.ref a.C_BadQuery) (.type "RuntimeError") = some false
  ts_0_BadColumn : PySem.W.kitOne K (.ref a.C_BadColumn) (.type "RuntimeError") = some false
  ts_0_BadDeed : PySem.W.kitOne K (.ref a.C_BadDeed) (.type "RuntimeError") = some false
  ts_0_BadRow : PySem.W.kitOne K (.ref a.C_BadRow) (.type "RuntimeError") = some false
  ts_0_NoCoin : PySem.W.kitOne K (.ref a.C_NoCoin) (.type "RuntimeError") = some false
  ts_0_NoEntry : PySem.W.kitOne K (.ref a.C_NoEntry) (.type "RuntimeError") = some false
  ts_0_NoThing : PySem.W.kitOne K (.ref a.C_NoThing) (.type "RuntimeError") = some false
  ts_0_NoChange : PySem.W.kitOne K (.ref a.C_NoChange) (.type "RuntimeError") = some false
  ts_0_BadDay : PySem.W.kitOne K (.ref a.C_BadDay) (.type "RuntimeError") = some false
  ts_0_TooLow : PySem.W.kitOne K (.ref a.C_TooLow) (.type "RuntimeError") = some false
  ts_0_TooLittle : PySem.W.kitOne K (.ref a.C_TooLittle) (.type "RuntimeError") = some false
  ts_1_BadTag : PySem.W.kitOne K (.ref a.C_BadTag) (.type "TypeError") = some false
  ts_1_BadText : PySem.W.kitOne K (.ref a.C_BadText) (.type "TypeError") = some false
  ts_1_TooMany : PySem.W.kitOne K (.ref a.C_TooMany) (.type "TypeError") = some false
  ts_1_TooEarly : PySem.W.kitOne K (.ref a.C_TooEarly) (.type "TypeError") = some false
  ts_1_BadSum : PySem.W.kitOne K (.ref a.C_BadSum) (.type "TypeError") = some false
  ts_1_BadOrder : PySem.W.kitOne K (.ref a.C_BadOrder) (.type "TypeError") = some false
  ts_1_BadQuery : PySem.W.kitOne K (.ref a.C_BadQuery) (.type "TypeError") = some false
  ts_1_BadColumn : PySem.W.kitOne K (.ref a.C_BadColumn) (.type "TypeError") = some false
  ts_1_BadDeed : PySem.W.kitOne K (.ref a.C_BadDeed) (.type "TypeError") = some true
  ts_1_BadRow : PySem.W.kitOne K (.ref a.C_BadRow) (.type "TypeError") = some false
  ts_1_NoCoin : PySem.W.kitOne K (.ref a.C_NoCoin) (.type "TypeError") = some false
  ts_1_NoEntry : PySem.W.kitOne K (.ref a.C_NoEntry) (.type "TypeError") = some false
  ts_1_NoThing : PySem.W.kitOne K (.ref a.C_NoThing) (.type "TypeError") = some false
  ts_1_NoChange : PySem.W.kitOne K (.ref a.C_NoChange) (.type "TypeError") = some false
  ts_1_BadDay : PySem.W.kitOne K (.ref a.C_BadDay) (.type "TypeError") = some false
  ts_1_TooLow : PySem.W.kitOne K (.ref a.C_TooLow) (.type "TypeError") = some false
  ts_1_TooLittle : PySem.W.kitOne K (.ref a.C_TooLittle) (.type "TypeError") = some false
  ts_2_BadTag : PySem.W.kitOne K (.ref a.C_BadTag) (.type "OverflowError") = some false
  ts_2_BadText : PySem.W.kitOne K (.ref a.C_BadText) (.type "OverflowError") = some false
  ts_2_TooMany : PySem.W.kitOne K (.ref a.C_TooMany) (.type "OverflowError") = some true
  ts_2_TooEarly : PySem.W.kitOne K (.ref a.C_TooEarly) (.type "OverflowError") = some false
  ts_2_BadSum : PySem.W.kitOne K (.ref a.C_BadSum) (.type "OverflowError") = some false
  ts_2_BadOrder : PySem.W.kitOne K (.ref a.C_BadOrder) (.type "OverflowError") = some false
  ts_2_BadQuery : PySem.W.kitOne K (.ref a.C_BadQuery) (.type "OverflowError") = some false
  ts_2_BadColumn : PySem.W.kitOne K (.ref a.C_BadColumn) (.type "OverflowError") = some false
  ts_2_BadDeed : PySem.W.kitOne K (.ref a.C_BadDeed) (.type "OverflowError") = some false
  ts_2_BadRow : PySem.W.kitOne K (.ref a.C_BadRow) (.type "OverflowError") = some false
  ts_2_NoCoin : PySem.W.kitOne K (.ref a.C_NoCoin) (.type "OverflowError") = some false
  ts_2_NoEntry : PySem.W.kitOne K (.ref a.C_NoEntry) (.type "OverflowError") = some false
  ts_2_NoThing : PySem.W.kitOne K (.ref a.C_NoThing) (.type "OverflowError") = some false
  ts_2_NoChange : PySem.W.kitOne K (.ref a.C_NoChange) (.type "OverflowError") = some false
  ts_2_BadDay : PySem.W.kitOne K (.ref a.C_BadDay) (.type "OverflowError") = some false
  ts_2_TooLow : PySem.W.kitOne K (.ref a.C_TooLow) (.type "OverflowError") = some false
  ts_2_TooLittle : PySem.W.kitOne K (.ref a.C_TooLittle) (.type "OverflowError") = some false
  ts_3_BadTag : PySem.W.kitOne K (.ref a.C_BadTag) (.type "ArithmeticError") = some false
  ts_3_BadText : PySem.W.kitOne K (.ref a.C_BadText) (.type "ArithmeticError") = some false
  ts_3_TooMany : PySem.W.kitOne K (.ref a.C_TooMany) (.type "ArithmeticError") = some true
  ts_3_TooEarly : PySem.W.kitOne K (.ref a.C_TooEarly) (.type "ArithmeticError") = some false
  ts_3_BadSum : PySem.W.kitOne K (.ref a.C_BadSum) (.type "ArithmeticError") = some false
  ts_3_BadOrder : PySem.W.kitOne K (.ref a.C_BadOrder) (.type "ArithmeticError") = some false
  ts_3_BadQuery : PySem.W.kitOne K (.ref a.C_BadQuery) (.type "ArithmeticError") = some false
  ts_3_BadColumn : PySem.W.kitOne K (.ref a.C_BadColumn) (.type "ArithmeticError") = some false
  ts_3_BadDeed : PySem.W.kitOne K (.ref a.C_BadDeed) (.type "ArithmeticError") = some false
  ts_3_BadRow : PySem.W.kitOne K (.ref a.C_BadRow) (.type "ArithmeticError") = some false
  ts_3_NoCoin : PySem.W.kitOne K (.ref a.C_NoCoin) (.type "ArithmeticError") = some false
  ts_3_NoEntry : PySem.W.kitOne K (.ref a.C_NoEntry) (.type "ArithmeticError") = some false
  ts_3_NoThing : PySem.W.kitOne K (.ref a.C_NoThing) (.type "ArithmeticError") = some false
  ts_3_NoChange : PySem.W.kitOne K (.ref a.C_NoChange) (.type "ArithmeticError") = some false
  ts_3_BadDay : PySem.W.kitOne K (.ref a.C_BadDay) (.type "ArithmeticError") = some false
  ts_3_TooLow : PySem.W.kitOne K (.ref a.C_TooLow) (.type "ArithmeticError") = some true
  ts_3_TooLittle : PySem.W.kitOne K (.ref a.C_TooLittle) (.type "ArithmeticError") = some true
  ts_4_BadTag : PySem.W.kitOne K (.ref a.C_BadTag) (.type "IndexError") = some false
  ts_4_BadText : PySem.W.kitOne K (.ref a.C_BadText) (.type "IndexError") = some false
  ts_4_TooMany : PySem.W.kitOne K (.ref a.C_TooMany) (.type "IndexError") = some false
  ts_4_TooEarly : PySem.W.kitOne K (.ref a.C_TooEarly) (.type "IndexError") = some false
  ts_4_BadSum : PySem.W.kitOne K (.ref a.C_BadSum) (.type "IndexError") = some false
  ts_4_BadOrder : PySem.W.kitOne K (.ref a.C_BadOrder) (.type "IndexError") = some false
  ts_4_BadQuery : PySem.W.kitOne K (.ref a.C_BadQuery) (.type "IndexError") = some false
  ts_4_BadColumn : PySem.W.kitOne K (.ref a.C_BadColumn) (.type "IndexError") = some false
  ts_4_BadDeed : PySem.W.kitOne K (.ref a.C_BadDeed) (.type "IndexError") = some false
  ts_4_BadRow : PySem.W.kitOne K (.ref a.C_BadRow) (.type "IndexError") = some false
  ts_4_NoCoin : PySem.W.kitOne K (.ref a.C_NoCoin) (.type "IndexError") = some false
  ts_4_NoEntry : PySem.W.kitOne K (.ref a.C_NoEntry) (.type "IndexError") = some false
  ts_4_NoThing : PySem.W.kitOne K (.ref a.C_NoThing) (.type "IndexError") = some false
  ts_4_NoChange : PySem.W.kitOne K (.ref a.C_NoChange) (.type "IndexError") = some false
  ts_4_BadDay : PySem.W.kitOne K (.ref a.C_BadDay) (.type "IndexError") = some true
  ts_4_TooLow : PySem.W.kitOne K (.ref a.C_TooLow) (.type "IndexError") = some false
  ts_4_TooLittle : PySem.W.kitOne K (.ref a.C_TooLittle) (.type "IndexError") = some false
  ts_5_BadTag : PySem.W.kitOne K (.ref a.C_BadTag) (.type "KeyError") = some false
  ts_5_BadText : PySem.W.kitOne K (.ref a.C_BadText) (.type "KeyError") = some false
  ts_5_TooMany : PySem.W.kitOne K (.ref a.C_TooMany) (.type "KeyError") = some false
  ts_5_TooEarly : PySem.W.kitOne K (.ref a.C_TooEarly) (.type "KeyError") = some false
  ts_5_BadSum : PySem.W.kitOne K (.ref a.C_BadSum) (.type "KeyError") = some false
  ts_5_BadOrder : PySem.W.kitOne K (.ref a.C_BadOrder) (.type "KeyError") = some false
  ts_5_BadQuery : PySem.W.kitOne K (.ref a.C_BadQuery) (.type "KeyError") = some false
  ts_5_BadColumn : PySem.W.kitOne K (.ref a.C_BadColumn) (.type "KeyError") = some false
  ts_5_BadDeed : PySem.W.kitOne K (.ref a.C_BadDeed) (.type "KeyError") = some false
  ts_5_BadRow : PySem.W.kitOne K (.ref a.C_BadRow) (.type "KeyError") = some false
  ts_5_NoCoin : PySem.W.kitOne K (.ref a.C_NoCoin) (.type "KeyError") = some true
  ts_5_NoEntry : PySem.W.kitOne K (.ref a.C_NoEntry) (.type "KeyError") = some true
  ts_5_NoThing : PySem.W.kitOne K (.ref a.C_NoThing) (.type "KeyError") = some true
  ts_5_NoChange : PySem.W.kitOne K (.ref a.C_NoChange) (.type "KeyError") = some false
  ts_5_BadDay : PySem.W.kitOne K (.ref a.C_BadDay) (.type "KeyError") = some false
  ts_5_TooLow : PySem.W.kitOne K (.ref a.C_TooLow) (.type "KeyError") = some false
  ts_5_TooLittle : PySem.W.kitOne K (.ref a.C_TooLittle) (.type "KeyError") = some false
  ts_6_BadTag : PySem.W.kitOne K (.ref a.C_BadTag) (.type "ValueError") = some true
  ts_6_BadText : PySem.W.kitOne K (.ref a.C_BadText) (.type "ValueError") = some true
  ts_6_TooMany : PySem.W.kitOne K (.ref a.C_TooMany) (.type "ValueError") = some false
  ts_6_TooEarly : PySem.W.kitOne K (.ref a.C_TooEarly) (.type "ValueError") = some false
  ts_6_BadSum : PySem.W.kitOne K (.ref a.C_BadSum) (.type "ValueError") = some true
  ts_6_BadOrder : PySem.W.kitOne K (.ref a.C_BadOrder) (.type "ValueError") = some true
  ts_6_BadQuery : PySem.W.kitOne K (.ref a.C_BadQuery) (.type "ValueError") = some true
  ts_6_BadColumn : PySem.W.kitOne K (.ref a.C_BadColumn) (.type "ValueError") = some true
  ts_6_BadDeed : PySem.W.kitOne K (.ref a.C_BadDeed) (.type "ValueError") = some false
  ts_6_BadRow : PySem.W.kitOne K (.ref a.C_BadRow) (.type "ValueError") = some true
  ts_6_NoCoin : PySem.W.kitOne K (.ref a.C_NoCoin) (.type "ValueError") = some false
  ts_6_NoEntry : PySem.W.kitOne K (.ref a.C_NoEntry) (.type "ValueError") = some false
  ts_6_NoThing : PySem.W.kitOne K (.ref a.C_NoThing) (.type "ValueError") = some false
  ts_6_NoChange : PySem.W.kitOne K (.ref a.C_NoChange) (.type "ValueError") = some false
  ts_6_BadDay : PySem.W.kitOne K (.ref a.C_BadDay) (.type "ValueError") = some false
  ts_6_TooLow : PySem.W.kitOne K (.ref a.C_TooLow) (.type "ValueError") = some false
  ts_6_TooLittle : PySem.W.kitOne K (.ref a.C_TooLittle) (.type "ValueError") = some false
  ts_7_BadTag : PySem.W.kitOne K (.ref a.C_BadTag) (.ref a.C_BadTag) = some true
  ts_7_BadText : PySem.W.kitOne K (.ref a.C_BadText) (.ref a.C_BadTag) = some false
  ts_7_TooMany : PySem.W.kitOne K (.ref a.C_TooMany) (.ref a.C_BadTag) = some false
  ts_7_TooEarly : PySem.W.kitOne K (.ref a.C_TooEarly) (.ref a.C_BadTag) = some false
  ts_7_BadSum : PySem.W.kitOne K (.ref a.C_BadSum) (.ref a.C_BadTag) = some false
  ts_7_BadOrder : PySem.W.kitOne K (.ref a.C_BadOrder) (.ref a.C_BadTag) = some false
  ts_7_BadQuery : PySem.W.kitOne K (.ref a.C_BadQuery) (.ref a.C_BadTag) = some false
  ts_7_BadColumn : PySem.W.kitOne K (.ref a.C_BadColumn) (.ref a.C_BadTag) = some false
  ts_7_BadDeed : PySem.W.kitOne K (.ref a.C_BadDeed) (.ref a.C_BadTag) = some false
  ts_7_BadRow : PySem.W.kitOne K (.ref a.C_BadRow) (.ref a.C_BadTag) = some false
  ts_7_NoCoin : PySem.W.kitOne K (.ref a.C_NoCoin) (.ref a.C_BadTag) = some false
  ts_7_NoEntry : PySem.W.kitOne K (.ref a.C_NoEntry) (.ref a.C_BadTag) = some false
  ts_7_NoThing : PySem.W.kitOne K (.ref a.C_NoThing) (.ref a.C_BadTag) = some false
  ts_7_NoChange : PySem.W.kitOne K (.ref a.C_NoChange) (.ref a.C_BadTag) = some false
  ts_7_BadDay : PySem.W.kitOne K (.ref a.C_BadDay) (.ref a.C_BadTag) = some false
  ts_7_TooLow : PySem.W.kitOne K (.ref a.C_TooLow) (.ref a.C_BadTag) = some false
  ts_7_TooLittle : PySem.W.kitOne K (.ref a.C_TooLittle) (.ref a.C_BadTag) = some false
  ts_8_BadTag : PySem.W.kitAny K (.ref a.C_BadTag) [.ref a.C_BadSum, .ref a.C_BadText, .ref a.C_BadOrder, .ref a.C_BadQuery, .ref a.C_BadColumn, .ref a.C_BadRow] = some false
  ts_8_BadText : PySem.W.kitAny K (.ref a.C_BadText) [.ref a.C_BadSum, .ref a.C_BadText, .ref a.C_BadOrder, .ref a.C_BadQuery, .ref a.C_BadColumn, .ref a.C_BadRow] = some true
  ts_8_TooMany : PySem.W.kitAny K (.ref a.C_TooMany) [.ref a.C_BadSum, .ref a.C_BadText, .ref a.C_BadOrder, .ref a.C_BadQuery, .ref a.C_BadColumn, .ref a.C_BadRow] = some false
  ts_8_TooEarly : PySem.W.kitAny K (.ref a.C_TooEarly) [.ref a.C_BadSum, .ref a.C_BadText, .ref a.C_BadOrder, .ref a.C_BadQuery, .ref a.C_BadColumn, .ref a.C_BadRow] = some false
  ts_8_BadSum : PySem.W.kitAny K (.ref a.C_BadSum) [.ref a.C_BadSum, .ref a.C_BadText, .ref a.C_BadOrder, .ref a.C_BadQuery, .ref a.C_BadColumn, .ref a.C_BadRow] = some true
  ts_8_BadOrder : PySem.W.kitAny K (.ref a.C_BadOrder) [.ref a.C_BadSum, .ref a.C_BadText, .ref a.C_BadOrder, .ref a.C_BadQuery, .ref a.C_BadColumn, .ref a.C_BadRow] = some true
  ts_8_BadQuery : PySem.W.kitAny K (.ref a.C_BadQuery) [.ref a.C_BadSum, .ref a.C_BadText, .ref a.C_BadOrder, .ref a.C_BadQuery, .ref a.C_BadColumn, .ref a.C_BadRow] = some true
  ts_8_BadColumn : PySem.W.kitAny K (.ref a.C_BadColumn) [.ref a.C_BadSum, .ref a.C_BadText, .ref a.C_BadOrder, .ref a.C_BadQuery, .ref a.C_BadColumn, .ref a.C_BadRow] = some true
  ts_8_BadDeed : PySem.W.kitAny K (.ref a.C_BadDeed) [.ref a.C_BadSum, .ref a.C_BadText, .ref a.C_BadOrder, .ref a.C_BadQuery, .ref a.C_BadColumn, .ref a.C_BadRow] = some false
  ts_8_BadRow : PySem.W.kitAny K (.ref a.C_BadRow) [.ref a.C_BadSum, .ref a.C_BadText, .ref a.C_BadOrder, .ref a.C_BadQuery, .ref a.C_BadColumn, .ref a.C_BadRow] = some true
  ts_8_NoCoin : PySem.W.kitAny K (.ref a.C_NoCoin) [.ref a.C_BadSum, .ref a.C_BadText, .ref a.C_BadOrder, .ref a.C_BadQuery, .ref a.C_BadColumn, .ref a.C_BadRow] = some false
  ts_8_NoEntry : PySem.W.kitAny K (.ref a.C_NoEntry) [.ref a.C_BadSum, .ref a.C_BadText, .ref a.C_BadOrder, .ref a.C_BadQuery, .ref a.C_BadColumn, .ref a.C_BadRow] = some false
  ts_8_NoThing : PySem.W.kitAny K (.ref a.C_NoThing) [.ref a.C_BadSum, .ref a.C_BadText, .ref a.C_BadOrder, .ref a.C_BadQuery, .ref a.C_BadColumn, .ref a.C_BadRow] = some false
  ts_8_NoChange : PySem.W.kitAny K (.ref a.C_NoChange) [.ref a.C_BadSum, .ref a.C_BadText, .ref a.C_BadOrder, .ref a.C_BadQuery, .ref a.C_BadColumn, .ref a.C_BadRow] = some false
  ts_8_BadDay : PySem.W.kitAny K (.ref a.C_BadDay) [.ref a.C_BadSum, .ref a.C_BadText, .ref a.C_BadOrder, .ref a.C_BadQuery, .ref a.C_BadColumn, .ref a.C_BadRow] = some false
  ts_8_TooLow : PySem.W.kitAny K (.ref a.C_TooLow) [.ref a.C_BadSum, .ref a.C_BadText, .ref a.C_BadOrder, .ref a.C_BadQuery, .ref a.C_BadColumn, .ref a.C_BadRow] = some false
  ts_8_TooLittle : PySem.W.kitAny K (.ref a.C_TooLittle) [.ref a.C_BadSum, .ref a.C_BadText, .ref a.C_BadOrder, .ref a.C_BadQuery, .ref a.C_BadColumn, .ref a.C_BadRow] = some false
  ts_9_BadTag : PySem.W.exmAny K (.ref a.C_BadTag) [.ref a.C_BadColumn, .ref a.C_BadOrder, .ref a.C_BadQuery, .ref a.C_BadRow, .ref a.C_BadSum, .ref a.C_BadTag, .ref a.C_BadText] = some true
  ts_9_BadText : PySem.W.exmAny K (.ref a.C_BadText) [.ref a.C_BadColumn, .ref a.C_BadOrder, .ref a.C_BadQuery, .ref a.C_BadRow, .ref a.C_BadSum, .ref a.C_BadTag, .ref a.C_BadText] = some true
  ts_9_TooMany : PySem.W.exmAny K (.ref a.C_TooMany) [.ref a.C_BadColumn, .ref a.C_BadOrder, .ref a.C_BadQuery, .ref a.C_BadRow, .ref a.C_BadSum, .ref a.C_BadTag, .ref a.C_BadText] = some false
  ts_9_TooEarly : PySem.W.exmAny K (.ref a.C_TooEarly) [.ref a.C_BadColumn, .ref a.C_BadOrder, .ref a.C_BadQuery, .ref a.C_BadRow, .ref a.C_BadSum, .ref a.C_BadTag, .ref a.C_BadText] = some false
  ts_9_BadSum : PySem.W.exmAny K (.ref a.C_BadSum) [.ref a.C_BadColumn, .ref a.C_BadOrder, .ref a.C_BadQuery, .ref a.C_BadRow, .ref a.C_BadSum, .ref a.C_BadTag, .ref a.C_BadText] = some true
  ts_9_BadOrder : PySem.W.exmAny K (.ref a.C_BadOrder) [.ref a.C_BadColumn, .ref a.C_BadOrder, .ref a.C_BadQuery, .ref a.C_BadRow, .ref a.C_BadSum, .ref a.C_BadTag, .ref a.C_BadText] = some true
  ts_9_BadQuery : PySem.W.exmAny K (.ref a.C_BadQuery) [.ref a.C_BadColumn, .ref a.C_BadOrder, .ref a.C_BadQuery, .ref a.C_BadRow, .ref a.C_BadSum, .ref a.C_BadTag, .ref a.C_BadText] = some true
  ts_9_BadColumn : PySem.W.exmAny K (.ref a.C_BadColumn) [.ref a.C_BadColumn, .ref a.C_BadOrder, .ref a.C_BadQuery, .ref a.C_BadRow, .ref a.C_BadSum, .ref a.C_BadTag, .ref a.C_BadText] = some true
  ts_9_BadDeed : PySem.W.exmAny K (.ref a.C_BadDeed) [.ref a.C_BadColumn, .ref a.C_BadOrder, .ref a.C_BadQuery, .ref a.C_BadRow, .ref a.C_BadSum, .ref a.C_BadTag, .ref a.C_BadText] = some false
  ts_9_BadRow : PySem.W.exmAny K (.ref a.C_BadRow) [.ref a.C_BadColumn, .ref a.C_BadOrder, .ref a.C_BadQuery, .ref a.C_BadRow, .ref a.C_BadSum, .ref a.C_BadTag, .ref a.C_BadText] = some true
  ts_9_NoCoin : PySem.W.exmAny K (.ref a.C_NoCoin) [.ref a.C_BadColumn, .ref a.C_BadOrder, .ref a.C_BadQuery, .ref a.C_BadRow, .ref a.C_BadSum, .ref a.C_BadTag, .ref a.C_BadText] = some false
  ts_9_NoEntry : PySem.W.exmAny K (.ref a.C_NoEntry) [.ref a.C_BadColumn, .ref a.C_BadOrder, .ref a.C_BadQuery, .ref a.C_BadRow, .ref a.C_BadSum, .ref a.C_BadTag, .ref a.C_BadText] = some false
  ts_9_NoThing : PySem.W.exmAny K (.ref a.C_NoThing) [.ref a.C_BadColumn, .ref a.C_BadOrder, .ref a.C_BadQuery, .ref a.C_BadRow, .ref a.C_BadSum, .ref a.C_BadTag, .ref a.C_BadText] = some false
  ts_9_NoChange : PySem.W.exmAny K (.ref a.C_NoChange) [.ref a.C_BadColumn, .ref a.C_BadOrder, .ref a.C_BadQuery, .ref a.C_BadRow, .ref a.C_BadSum, .ref a.C_BadTag, .ref a.C_BadText] = some false
  ts_9_BadDay : PySem.W.exmAny K (.ref a.C_BadDay) [.ref a.C_BadColumn, .ref a.C_BadOrder, .ref a.C_BadQuery, .ref a.C_BadRow, .ref a.C_BadSum, .ref a.C_BadTag, .ref a.C_BadText] = some false
  ts_9_TooLow : PySem.W.exmAny K (.ref a.C_TooLow) [.ref a.C_BadColumn, .ref a.C_BadOrder, .ref a.C_BadQuery, .ref a.C_BadRow, .ref a.C_BadSum, .ref a.C_BadTag, .ref a.C_BadText] = some false
  ts_9_TooLittle : PySem.W.exmAny K (.ref a.C_TooLittle) [.ref a.C_BadColumn, .ref a.C_BadOrder, .ref a.C_BadQuery, .ref a.C_BadRow, .ref a.C_BadSum, .ref a.C_BadTag, .ref a.C_BadText] = some false
/-! ### the draw -/
def sp__law_take : Sp := fun vs H Q _ => ∃ (B : Addr) (m : Int) (n : Nat), vs = [.ref B, .int m] ∧ Box H B n ∧ 0 < m ∧ m < 1073741824 ∧ n < 1000000000 ∧
  ∀ r H', 0 ≤ r → r < m → Fr [B] H H' → Box H' B (n + 1) → Q (.int r) H'
theorem ok__law_take {P : Program} {w : World} {K : PySem.W.Frag} {mg : Str → Option Value} {base : Heap} {ad : Ad} (T : Txt K mg ad) : FnOk P w K mg base CX0 1 ad.f__law_take ad.d__law_take ["_law_box_here", "_law_size"] sp__law_take := by
  refine T.F__law_take.ok sc__law_take (fun vs H Q E h => ?_) (fun cdv A outer s H vs Q E hr h => ?_)
  · obtain ⟨a, ns, k, rfl, _⟩ := h
    rfl
  · obtain ⟨B, m, n, rfl, ⟨b0, b1, b2, hB, h0, h1, h2, h3, h4⟩, m0, m1, hn, q⟩ := h
    refine ⟨_, (pss_cons (ps_if (pt_cmpR op_gt (pe_ix ix_list (pv 0) pe_int (fun _ _ => rfl)) pe_int (nomark _)) (pss_cons (ps_asg (pe_callB call_divmod (by rfl) T.n_divmod (by decide +kernel) (pa_cons (pe_ix ix_list (pv 0) pe_int (fun _ _ => rfl)) (pa_cons (pv 1) pa_nil))) (pg_tup (by rfl) (pgs_cons (pg_sub (pv 0) pe_int set_list) (pgs_cons (pg_name (i := 2) sc__law_take.nd rfl (Or.inl rfl)) pgs_nil))))
    (pss_one (ps_ret (pv 2)))) pss_nil)
    (pss_cons (ps_asg (pe_op op_add (pe_ix ix_list (pv 0) pe_int (fun _ _ => rfl)) pe_int) (pg_sub (pv 0) pe_int set_list))
    (pss_cons (ps_set (i := 3) sc__law_take.nd rfl (Or.inl rfl) (pe_op op_add pe_int (pe_op op_mul (pe_ix ix_list (pv 0) pe_int (fun _ _ => rfl)) (pe_ix ix_list (pv 0) pe_int (fun _ _ => rfl)))))
    (pss_cons (ps_set (i := 4) sc__law_take.nd rfl (Or.inl rfl) (pe_op op_mod (pe_op op_mul (pe_op op_add (pe_ix ix_list (pv 0) pe_int (fun _ _ => rfl)) (pe_op op_mul pe_int (pe_ix ix_list (pv 0) pe_int (fun _ _ => rfl)))) (pv 3)) pe_int))
    (pss_cons (ps_set (i := 5) sc__law_take.nd rfl (Or.inl rfl) (pe_op op_mod (pe_op op_add (pe_op op_mul (pv 4) (pe_op op_add (pe_op op_mod (pv 4) pe_int) pe_int)) (pe_ix ix_list (pv 0) pe_int (fun _ _ => rfl))) pe_int))
    (pss_one (ps_ret (pe_op op_mod (pe_op op_fdiv (pe_op op_mod (pe_op op_mul (pv 5) (pe_op op_add (pe_op op_mod (pv 5) pe_int) pe_int)) pe_int) pe_int) (pv 1))))))))), ?_⟩
    walk_at "z"
    refine ite2 (fun h => ?_) (fun h => ?_)
    · walk_at "z"
      refine fun p hp => ?_
      have hBp : B ≠ p := ne_of_none hB hp
      have hB' : upd H p (.tup [.int (b0 / m), .int (b0 % m)]) B = some (.lst [.int b0, .int b1, .int b2]) := by rw [upd_ne hBp]; exact hB
      walk_at "z"
      refine q _ _ (Int.emod_nonneg _ (by omega)) (Int.emod_lt_of_pos _ m0) ?_ ?_
      · exact (Fr.new hp).put (by simp)
      · exact ⟨_, _, _, upd_same, Int.ediv_nonneg h0 (by omega), h1, h2, h3, by omega⟩
    · walk_at "z"
      refine q _ _ (Int.emod_nonneg _ (by omega)) (Int.emod_lt_of_pos _ m0) ((Fr.refl _ _).put (by simp)) ⟨_, _, _, upd_same, h0, h1, h2, by omega, by omega⟩

theorem okD__law_take {P : Program} {w : World} {K : PySem.W.Frag} {mg : Str → Option Value} {base : Heap} {ad : Ad} (T : Txt K mg ad) : FnOk P w K mg base CX0 1 ad.f__law_take ad.d__law_take ["_law_box_here", "_law_size"] (spF K 2 F__law_take) :=
  (ok__law_take T).imp fun _ _ _ _ h => take_of h

/-! ### the law's own likeness, kind by kind -/
def sp__law_same (K : PySem.W.Frag) (n : Nat) : Sp := fun vs H Q _ => ∃ (v1 v2 : V) (d : PyData), vs = [v1, v2] ∧ Dp K H v1 d ∧ Dp K H v2 d ∧ SeqAt.shaped d = true ∧ d.depth < n ∧ nodes d ≤ 1000000 ∧ ∀ H', Same H H' → Q (.bl true) H'
theorem ok__law_same {P : Program} {w : World} {K : PySem.W.Frag} {mg : Str → Option Value} {base : Heap} {ad : Ad} (T : Txt K mg ad) : ∀ n : Nat, FnOk P w K mg base CX0 n ad.f__law_same ad.d__law_same ["_law_found", "_law_due"] (sp__law_same K n)
  | 0 => ⟨fun vs H Q E ⟨_, _, _, _, _, _, _, h, _, _⟩ => absurd h (Nat.not_lt_zero _), fun _ _ _ _ _ _ _ _ _ _ _ _ _ ⟨_, _, _, _, _, _, _, h, _, _⟩ => absurd h (Nat.not_lt_zero _)⟩
  | n + 1 => by
    have G__law_same := ok__law_same (P := P) (w := w) (base := base) T n
    refine T.F__law_same.ok sc__law_same (fun vs H Q E h => ?_) (fun cdv A outer s H vs Q E hr h => ?_)
    · obtain ⟨v1, v2, d, rfl, _⟩ := h
      rfl
    · obtain ⟨v1, v2, d, rfl, d1, d2, sh, dep, nod, q⟩ := h
      refine ⟨_, (pss_cons (ps_if (pt_val (pe_callB call_isiT (by rfl) T.n_isinstance (by decide +kernel) (pa_cons (pv 1) (pa_cons (pe_tup (pa_cons (pe_bltn (v := .ty "list") (by rfl) T.n_list (by decide +kernel) rfl) (pa_cons (pe_bltn (v := .ty "tuple") (by rfl) T.n_tuple (by decide +kernel) rfl) pa_nil))) pa_nil)))) (pss_cons (ps_if (PW.pt (pw_or (pt_cmpR op_ne (pe_callB call_isi (by rfl) T.n_isinstance (by decide +kernel) (pa_cons (pv 0) (pa_cons (pe_bltn (v := .ty "list") (by rfl) T.n_list (by decide +kernel) rfl) pa_nil))) (pe_callB call_isi (by rfl) T.n_isinstance (by decide +kernel) (pa_cons (pv 1) (pa_cons (pe_bltn (v := .ty "list") (by rfl) T.n_list (by decide +kernel) rfl) pa_nil))) (nomark _)) (pw_or1 (pt_cmpR op_ne (pe_callB call_isi (by rfl) T.n_isinstance (by decide +kernel) (pa_cons (pv 0) (pa_cons (pe_bltn (v := .ty "tuple") (by rfl) T.n_tuple (by decide +kernel) rfl) pa_nil))) (pe_callB call_isi (by rfl) T.n_isinstance (by decide +kernel) (pa_cons (pv 1) (pa_cons (pe_bltn (v := .ty "tuple") (by rfl) T.n_tuple (by decide +kernel) rfl) pa_nil))) (nomark _))))) (pss_one (ps_ret pe_bl)) pss_nil)
    (pss_one (ps_ret (pe_and (pe_cmpR op_eq (pe_callB call_len_seq (by rfl) T.n_len PySem.boot_len (pa_cons (pv 0) pa_nil)) (pe_callB call_len_seq (by rfl) T.n_len PySem.boot_len (pa_cons (pv 1) pa_nil)) (nomark _)) (pe_one (pe_callB (cr_all rfl) (by rfl) T.n_all (by decide +kernel) (pa_cons (pe_lc (own := [("_law_one", 2), ("_law_other", 3)]) (g := gTup K 2 (gCons (gName 2) (gCons (gName 3) gNil))) (by rfl) sc__law_same.nd (RZ.pi_zipA (by rfl) T.n_zip (pa_cons (pv 0) (pa_cons (pv 1) pa_nil))) (blkOk_by (own := [("_law_one", 2), ("_law_other", 3)]) (N := N__law_same) (sc := defScope s__law_same) (by decide +kernel)) (fun _ _ _ _ _ => (pg_tup (by rfl) (pgs_cons (pg_name (i := 2) sc__law_same.nd rfl (Or.inl rfl)) (pgs_cons (pg_name (i := 3) sc__law_same.nd rfl (Or.inl rfl)) pgs_nil)))) (fun _ _ _ _ _ => pts_nil) (fun _ _ _ _ _ => (pe_call G__law_same hr rfl T.g__law_same T.F__law_same.kp T.b__law_same .nil pass0 (pa_cons (pv 2) (pa_cons (pv 3) pa_nil))))) pa_nil))))))) pss_nil)
    (pss_cons (ps_if (PW.pt (pw_or (pt_cmpR op_isN (pv 1) pe_non (nomark _)) (pw_or1 (pt_val (pe_callB call_isi (by rfl) T.n_isinstance (by decide +kernel) (pa_cons (pv 1) (pa_cons (pe_bltn (v := .ty "str") (by rfl) T.n_str (by decide +kernel) rfl) pa_nil))))))) (pss_one (ps_ret (pe_and (pe_cmpR (op_eqD hr.units) (pv 0) (pv 1) (nomark _)) (pe_one (pe_cmpR op_eq (pe_callB call_isi (by rfl) T.n_isinstance (by decide +kernel) (pa_cons (pv 0) (pa_cons (pe_bltn (v := .ty "str") (by rfl) T.n_str (by decide +kernel) rfl) pa_nil))) (pe_callB call_isi (by rfl) T.n_isinstance (by decide +kernel) (pa_cons (pv 1) (pa_cons (pe_bltn (v := .ty "str") (by rfl) T.n_str (by decide +kernel) rfl) pa_nil))) (nomark _)))))) pss_nil)
    (pss_one (ps_ret (pe_and (pe_callB call_isi (by rfl) T.n_isinstance (by decide +kernel) (pa_cons (pv 0) (pa_cons (pe_bltn (v := .ty "int") (by rfl) T.n_int (by decide +kernel) rfl) pa_nil))) (pe_and (pe_cmpR op_eq (pe_callB call_isi (by rfl) T.n_isinstance (by decide +kernel) (pa_cons (pv 0) (pa_cons (pe_bltn (v := .ty "bool") (by rfl) T.n_bool (by decide +kernel) rfl) pa_nil))) (pe_callB call_isi (by rfl) T.n_isinstance (by decide +kernel) (pa_cons (pv 1) (pa_cons (pe_bltn (v := .ty "bool") (by rfl) T.n_bool (by decide +kernel) rfl) pa_nil))) (nomark _)) (pe_one (pe_cmpR (op_eqD hr.units) (pv 0) (pv 1) (nomark _))))))))), ?_⟩
      have fin : ∀ {p : Addr} {o : HO}, H p = none → Q (.bl true) (upd H p o) := fun hp => q _ (Same.new hp)
      cases d with
      | dict _ => cases d1
      | none =>
        refine ⟨_, rfl, Nat.le_of_ble_eq_true rfl, fun p hp => ?_⟩
        have d1' := Dp.mono (Same.new (o := .tup [.ty "list", .ty "tuple"]) hp) d1
        have d2' := Dp.mono (Same.new (o := .tup [.ty "list", .ty "tuple"]) hp) d2
        refine ⟨_, _, _, _, _, false, rfl, upd_same, ltC, tyD "NoneType" d2' rfl, kitLT "NoneType" false false (by decide +kernel) (by decide +kernel), ?_⟩
        cases d1
        cases d2
        walk_at "z"
        refine ⟨.none, .none, .non, .non, rfl, rfl, ?_⟩
        walk_at "z"
        refine ⟨_, _, _, _, false, rfl, .ty _, tyD "NoneType" d1' rfl, kit_ty (by decide +kernel), ?_⟩
        walk_at "z"
        refine ⟨_, _, _, _, false, rfl, .ty _, tyD "NoneType" d2' rfl, kit_ty (by decide +kernel), ?_⟩
        walk_at "z"
        exact fin hp
      | bool b =>
        refine ⟨_, rfl, Nat.le_of_ble_eq_true rfl, fun p hp => ?_⟩
        have d1' := Dp.mono (Same.new (o := .tup [.ty "list", .ty "tuple"]) hp) d1
        have d2' := Dp.mono (Same.new (o := .tup [.ty "list", .ty "tuple"]) hp) d2
        refine ⟨_, _, _, _, _, false, rfl, upd_same, ltC, tyD "bool" d2' rfl, kitLT "bool" false false (by decide +kernel) (by decide +kernel), ?_⟩
        cases d1
        cases d2
        walk_at "z"
        refine ⟨_, _, _, _, false, rfl, .ty _, tyD "bool" d2' rfl, kit_ty (by decide +kernel), ?_⟩
        walk_at "z"
        refine ⟨_, _, _, _, true, rfl, .ty _, tyD "bool" d1' rfl, kit_ty (by decide +kernel), ?_⟩
        walk_at "z"
        refine ⟨_, _, _, _, true, rfl, .ty _, tyD "bool" d1' rfl, kit_ty (by decide +kernel), ?_⟩
        walk_at "z"
        refine ⟨_, _, _, _, true, rfl, .ty _, tyD "bool" d2' rfl, kit_ty (by decide +kernel), ?_⟩
        walk_at "z"
        refine ⟨.bool b, .bool b, .bl _, .bl _, rfl, rfl, ?_⟩
        rw [SeqAt.eqv_refl _ rfl]
        exact fin hp
      | int i =>
        refine ⟨_, rfl, Nat.le_of_ble_eq_true rfl, fun p hp => ?_⟩
        have d1' := Dp.mono (Same.new (o := .tup [.ty "list", .ty "tuple"]) hp) d1
        have d2' := Dp.mono (Same.new (o := .tup [.ty "list", .ty "tuple"]) hp) d2
        refine ⟨_, _, _, _, _, false, rfl, upd_same, ltC, tyD "int" d2' rfl, kitLT "int" false false (by decide +kernel) (by decide +kernel), ?_⟩
        cases d1
        cases d2
        walk_at "z"
        refine ⟨.int i, .int i, .int _, .int _, rfl, rfl, ?_⟩
        rw [SeqAt.eqv_refl _ rfl]
        exact fin hp
      | str x =>
        refine ⟨_, rfl, Nat.le_of_ble_eq_true rfl, fun p hp => ?_⟩
        have d1' := Dp.mono (Same.new (o := .tup [.ty "list", .ty "tuple"]) hp) d1
        have d2' := Dp.mono (Same.new (o := .tup [.ty "list", .ty "tuple"]) hp) d2
        refine ⟨_, _, _, _, _, false, rfl, upd_same, ltC, tyD "str" d2' rfl, kitLT "str" false false (by decide +kernel) (by decide +kernel), ?_⟩
        cases d1
        cases d2
        walk_at "z"
        refine ⟨.str x, .str x, .str _, .str _, sh, sh, ?_⟩
        rw [SeqAt.eqv_refl _ (SeqAt.canLay_of_shaped sh)]
        walk_at "z"
        exact fin hp
      | list ds =>
        obtain ⟨a1, xs, rfl, s1, r1⟩ := Dp.list_of d1
        obtain ⟨a2, ys, rfl, s2, r2⟩ := Dp.list_of d2
        refine ⟨_, rfl, Nat.le_of_ble_eq_true rfl, fun p hp => ?_⟩
        have sm := Same.new (o := .tup [.ty "list", .ty "tuple"]) hp
        have d1' := Dp.mono sm d1
        have d2' := Dp.mono sm d2
        refine ⟨_, _, _, _, _, true, rfl, upd_same, ltC, tyD "list" d2' rfl, kitLT "list" true false (by decide +kernel) (by decide +kernel), ?_⟩
        walk_at "z"
        refine ⟨_, _, _, _, true, rfl, .ty _, tyD "list" d1' rfl, kit_ty (by decide +kernel), ?_⟩
        walk_at "z"
        refine ⟨_, _, _, _, true, rfl, .ty _, tyD "list" d2' rfl, kit_ty (by decide +kernel), ?_⟩
        walk_at "z"
        refine ⟨_, _, _, _, false, rfl, .ty _, tyD "list" d1' rfl, kit_ty (by decide +kernel), ?_⟩
        walk_at "z"
        refine ⟨_, _, _, _, false, rfl, .ty _, tyD "list" d2' rfl, kit_ty (by decide +kernel), ?_⟩
        walk_at "z"
        have hl : xs.length = ys.length := by rw [DpAll.length r1, DpAll.length r2]
        refine ⟨a1, _, rfl, .inl (SqL.mono sm s1), ?_⟩
        refine ⟨_, rfl, a2, _, rfl, .inl (SqL.mono sm s2), ?_⟩
        refine ⟨rfl, _, rfl, ?_⟩
        with_reducible refine iteDS (by rw [hl]) ?_
        refine ⟨_, rfl, _, rfl, a1, a2, xs, ys, rfl, .inl ⟨SqL.mono sm s1, SqL.mono sm s2, fun D hD => ?_⟩⟩
        refine lc_it (walk_zip (xs := xs) (ys := ys) (n := xs.length) (by omega)) (fun i H' => LcP (upd H p (.tup [.ty "list", .ty "tuple"])) D xs (fun _ => V.bl true) i H') (LcP.start hD) ?_ ?_ ?_
        · intro i H' _ lp
          exact ⟨SqL.mono (sm.trans lp.same) s1, SqL.mono (sm.trans lp.same) s2⟩
        · rintro i x H' _ hi lp ⟨t, x, y, rfl, ht, rfl, hx, hy⟩
          walk_at "z"
          obtain ⟨dd, hd, dx⟩ := DpAll.get r1 hx
          obtain ⟨dd', hd', dy⟩ := DpAll.get r2 hy
          have ed : dd' = dd := Option.some.inj (hd'.symm.trans hd)
          subst ed
          have sx : Same H (upd H' t (.tup [x, y])) := (sm.trans lp.same).trans (Same.new ht)
          obtain ⟨c1, c2⟩ := shaped_mem (.inl sh) (List.mem_of_getElem? hd)
          refine ⟨x, y, _, rfl, Dp.mono sx dx, Dp.mono sx dy, c1, ?_, ?_, fun H4 s4 => ?_⟩
          · have : PyData.depthAll ds + 1 < n + 1 := dep
            omega
          · have h1 := nodes_mem (List.mem_of_getElem? hd)
            have h2 : nodesAll ds + 1 ≤ 1000000 := nod
            omega
          · refine lp.step ((Same.new ht).trans s4) hx rfl ?_
            have h1 := len_nodes ds
            have h2 : nodesAll ds + 1 ≤ 1000000 := nod
            have h3 : sizeLine = 16777216 := by decide +kernel
            rw [DpAll.length r1]
            omega
        · intro H' lp
          refine ⟨D, xs.map fun _ => true, rfl, SqL.of (by rw [lp.done, List.map_map]; rfl), ?_⟩
          have e : (xs.map fun _ => true).all id = true := by simp
          rw [e]
          exact q _ (sm.trans lp.same)
      | tuple ds =>
        obtain ⟨a1, xs, rfl, s1, r1⟩ := Dp.tuple_of d1
        obtain ⟨a2, ys, rfl, s2, r2⟩ := Dp.tuple_of d2
        refine ⟨_, rfl, Nat.le_of_ble_eq_true rfl, fun p hp => ?_⟩
        have sm := Same.new (o := .tup [.ty "list", .ty "tuple"]) hp
        have d1' := Dp.mono sm d1
        have d2' := Dp.mono sm d2
        refine ⟨_, _, _, _, _, true, rfl, upd_same, ltC, tyD "tuple" d2' rfl, kitLT "tuple" false true (by decide +kernel) (by decide +kernel), ?_⟩
        walk_at "z"
        refine ⟨_, _, _, _, false, rfl, .ty _, tyD "tuple" d1' rfl, kit_ty (by decide +kernel), ?_⟩
        walk_at "z"
        refine ⟨_, _, _, _, false, rfl, .ty _, tyD "tuple" d2' rfl, kit_ty (by decide +kernel), ?_⟩
        walk_at "z"
        refine ⟨_, _, _, _, true, rfl, .ty _, tyD "tuple" d1' rfl, kit_ty (by decide +kernel), ?_⟩
        walk_at "z"
        refine ⟨_, _, _, _, true, rfl, .ty _, tyD "tuple" d2' rfl, kit_ty (by decide +kernel), ?_⟩
        walk_at "z"
        have hl : xs.length = ys.length := by rw [DpAll.length r1, DpAll.length r2]
        refine ⟨a1, _, rfl, .inr (SqT.mono sm s1), ?_⟩
        refine ⟨_, rfl, a2, _, rfl, .inr (SqT.mono sm s2), ?_⟩
        refine ⟨rfl, _, rfl, ?_⟩
        with_reducible refine iteDS (by rw [hl]) ?_
        refine ⟨_, rfl, _, rfl, a1, a2, xs, ys, rfl, .inr ⟨SqT.mono sm s1, SqT.mono sm s2, fun D hD => ?_⟩⟩
        refine lc_it (walk_zipT (xs := xs) (ys := ys) (n := xs.length) (by omega)) (fun i H' => LcP (upd H p (.tup [.ty "list", .ty "tuple"])) D xs (fun _ => V.bl true) i H') (LcP.start hD) ?_ ?_ ?_
        · intro i H' _ lp
          exact ⟨SqT.mono (sm.trans lp.same) s1, SqT.mono (sm.trans lp.same) s2⟩
        · rintro i x H' _ hi lp ⟨t, x, y, rfl, ht, rfl, hx, hy⟩
          walk_at "z"
          obtain ⟨dd, hd, dx⟩ := DpAll.get r1 hx
          obtain ⟨dd', hd', dy⟩ := DpAll.get r2 hy
          have ed : dd' = dd := Option.some.inj (hd'.symm.trans hd)
          subst ed
          have sx : Same H (upd H' t (.tup [x, y])) := (sm.trans lp.same).trans (Same.new ht)
          obtain ⟨c1, c2⟩ := shaped_mem (.inr sh) (List.mem_of_getElem? hd)
          refine ⟨x, y, _, rfl, Dp.mono sx dx, Dp.mono sx dy, c1, ?_, ?_, fun H4 s4 => ?_⟩
          · have : PyData.depthAll ds + 1 < n + 1 := dep
            omega
          · have h1 := nodes_mem (List.mem_of_getElem? hd)
            have h2 : nodesAll ds + 1 ≤ 1000000 := nod
            omega
          · refine lp.step ((Same.new ht).trans s4) hx rfl ?_
            have h1 := len_nodes ds
            have h2 : nodesAll ds + 1 ≤ 1000000 := nod
            have h3 : sizeLine = 16777216 := by decide +kernel
            rw [DpAll.length r1]
            omega
        · intro H' lp
          refine ⟨D, xs.map fun _ => true, rfl, SqL.of (by rw [lp.done, List.map_map]; rfl), ?_⟩
          have e : (xs.map fun _ => true).all id = true := by simp
          rw [e]
          exact q _ (sm.trans lp.same)

theorem okD__law_same {P : Program} {w : World} {K : PySem.W.Frag} {mg : Str → Option Value} {base : Heap} {ad : Ad} (T : Txt K mg ad) (_ : Nat) : FnOk P w K mg base CX0 8 ad.f__law_same ad.d__law_same ["_law_found", "_law_due"] (spF K 2 F__law_same) :=
  (ok__law_same T 8).imp fun _ _ _ _ h => same_of h

theorem okD__law_folded {P : Program} {w : World} {K : PySem.W.Frag} {mg : Str → Option Value} {base : Heap} {ad : Ad} (T : Txt K mg ad) : FnOk P w K mg base CX0 1 ad.f__law_folded ad.d__law_folded ["_law_script", "_law_size"] (spF K 2 F__law_folded) := by
  refine okF0 T.F__law_folded sc__law_folded fun cdv A outer s H E hr => ⟨_, (pss_cons (ps_set (i := 2) sc__law_folded.nd rfl (Or.inl rfl) (pe_callTy call_list_of (by rfl) T.n_list (by decide +kernel) (pa_cons (pe_slice sl_list (pv 0) po_none (po_some (pv 1))) pa_nil)))
    (pss_cons (ps_for PassesOwn.never rfl (pi_enum (by rfl) T.n_enumerate (pa_cons (pe_slice sl_list (pv 0) (po_some (pv 1)) (po_some pe_int)) pa_nil)) (pg_tup (by rfl) (pgs_cons (pg_name (i := 3) sc__law_folded.nd rfl (Or.inl rfl)) (pgs_cons (pg_name (i := 4) sc__law_folded.nd rfl (Or.inl rfl)) pgs_nil))) (pss_one (ps_asg (pe_op op_add (pe_ix ix_list (pv 2) (pe_op op_mod (pv 3) (pv 1)) (fun _ _ => rfl)) (pe_op op_mul (pv 4) (pe_op op_add (pv 3) pe_int))) (pg_sub (pv 2) (pe_op op_mod (pv 3) (pv 1)) set_list))))
    (pss_one (ps_ret (pv 2))))), ?_⟩
  intro J
  exact (rs_seq (rs_own (by decide) (rn_cb rbn_list (ra_cons (re_sl rl_list re_v ro_no (ro_so re_v)) ra_nil)))
    (rs_seq (rs_for (by decide) (ri_enum (ra_cons (re_sl rl_list re_v (ro_so re_v) (ro_so (re_c fun _ => .int _))) ra_nil)) (rg_tup (rgs_cons rg_name (rgs_cons rg_name rgs_nil))) (rs_asg (re_op rr_add (re_ixO (re_op rr_mod re_v re_v)) (re_op rr_mul re_v (re_op rr_add re_v (re_c fun _ => .int _)))) (rg_subO (re_op rr_mod re_v re_v))))
    (rs_freeze (by decide) (rs_ret re_v))))
theorem okD__law_price {P : Program} {w : World} {K : PySem.W.Frag} {mg : Str → Option Value} {base : Heap} {ad : Ad} (T : Txt K mg ad) : FnOk P w K mg base CX0 2 ad.f__law_price ad.d__law_price ["_law_box_here"] (spF K 1 F__law_price) := by
  have G__law_take := okD__law_take (P := P) (w := w) (base := base) T
  refine okF0 T.F__law_price sc__law_price fun cdv A outer s H E hr => ⟨_, (pss_one (ps_ret (pe_ix ix_list (pe_lst (pa_cons (pe_op op_add pe_int (pe_call G__law_take (hr.mono (by decide)) rfl T.g__law_take T.F__law_take.kp T.b__law_take .nil pass0 (pa_cons (pv 0) (pa_cons pe_int pa_nil)))) (pa_cons (pe_op op_add pe_int (pe_call G__law_take (hr.mono (by decide)) rfl T.g__law_take T.F__law_take.kp T.b__law_take .nil pass0 (pa_cons (pv 0) (pa_cons pe_int pa_nil)))) (pa_cons (pe_op op_mul pe_int (pe_op op_add pe_int (pe_call G__law_take (hr.mono (by decide)) rfl T.g__law_take T.F__law_take.kp T.b__law_take .nil pass0 (pa_cons (pv 0) (pa_cons pe_int pa_nil))))) (pa_cons (pe_op op_add pe_int (pe_call G__law_take (hr.mono (by decide)) rfl T.g__law_take T.F__law_take.kp T.b__law_take .nil pass0 (pa_cons (pv 0) (pa_cons pe_int pa_nil)))) pa_nil))))) (pe_call G__law_take (hr.mono (by decide)) rfl T.g__law_take T.F__law_take.kp T.b__law_take .nil pass0 (pa_cons (pv 0) (pa_cons pe_int pa_nil))) (fun _ _ => rfl)))), ?_⟩
  intro J
  exact (rs_ret (re_op rr_ixL (RN.re (rn_lst (ra_cons (re_op rr_add (re_c fun _ => .int _) (re_call (fun _ => .nil) (rc_own (rc_dat (re_c fun _ => .int _) rc_nil)))) (ra_cons (re_op rr_add (re_c fun _ => .int _) (re_call (fun _ => .nil) (rc_own (rc_dat (re_c fun _ => .int _) rc_nil)))) (ra_cons (re_op rr_mul (re_c fun _ => .int _) (re_op rr_add (re_c fun _ => .int _) (re_call (fun _ => .nil) (rc_own (rc_dat (re_c fun _ => .int _) rc_nil))))) (ra_cons (re_op rr_add (re_c fun _ => .int _) (re_call (fun _ => .nil) (rc_own (rc_dat (re_c fun _ => .int _) rc_nil)))) ra_nil)))))) (re_call (fun _ => .nil) (rc_own (rc_dat (re_c fun _ => .int _) rc_nil)))))
theorem okD__law_five {P : Program} {w : World} {K : PySem.W.Frag} {mg : Str → Option Value} {base : Heap} {ad : Ad} (T : Txt K mg ad) : FnOk P w K mg base CX0 3 ad.f__law_five ad.d__law_five ["_law_box_here", "_law_people"] (spF K 2 F__law_five) := by
  have G__law_price := okD__law_price (P := P) (w := w) (base := base) T
  have G__law_take := okD__law_take (P := P) (w := w) (base := base) T
  refine okF0 T.F__law_five sc__law_five fun cdv A outer s H E hr => ⟨_, (pss_cons (ps_set (i := 2) sc__law_five.nd rfl (Or.inl rfl) (pe_ix ix_list (pe_lst (pa_cons (pe_op op_add pe_int (pe_call G__law_take (hr.mono (by decide)) rfl T.g__law_take T.F__law_take.kp T.b__law_take .nil pass0 (pa_cons (pv 0) (pa_cons pe_int pa_nil)))) (pa_cons (pe_op op_add pe_int (pe_call G__law_take (hr.mono (by decide)) rfl T.g__law_take T.F__law_take.kp T.b__law_take .nil pass0 (pa_cons (pv 0) (pa_cons pe_int pa_nil)))) (pa_cons pe_int pa_nil)))) (pe_call G__law_take (hr.mono (by decide)) rfl T.g__law_take T.F__law_take.kp T.b__law_take .nil pass0 (pa_cons (pv 0) (pa_cons pe_int pa_nil))) (fun _ _ => rfl)))
    (pss_cons (ps_set (i := 3) sc__law_five.nd rfl (Or.inl rfl) (pe_call G__law_price (hr.mono (by decide)) rfl T.g__law_price T.F__law_price.kp T.b__law_price .nil pass0 (pa_cons (pv 0) pa_nil)))
    (pss_cons (ps_set (i := 4) sc__law_five.nd rfl (Or.inl rfl) (pe_ix ix_list (pe_lst (pa_cons pe_int (pa_cons (pv 3) (pa_cons (pe_call G__law_take (hr.mono (by decide)) rfl T.g__law_take T.F__law_take.kp T.b__law_take .nil pass0 (pa_cons (pv 0) (pa_cons (pe_op op_add (pv 3) pe_int) pa_nil))) (pa_cons (pe_op op_fdiv (pv 3) pe_int) pa_nil))))) (pe_call G__law_take (hr.mono (by decide)) rfl T.g__law_take T.F__law_take.kp T.b__law_take .nil pass0 (pa_cons (pv 0) (pa_cons pe_int pa_nil))) (fun _ _ => rfl)))
    (pss_cons (ps_set (i := 5) sc__law_five.nd rfl (Or.inl rfl) (pe_ix ix_list (pe_lst (pa_cons (pe_call G__law_take (hr.mono (by decide)) rfl T.g__law_take T.F__law_take.kp T.b__law_take .nil pass0 (pa_cons (pv 0) (pa_cons pe_int pa_nil))) (pa_cons (pe_call G__law_take (hr.mono (by decide)) rfl T.g__law_take T.F__law_take.kp T.b__law_take .nil pass0 (pa_cons (pv 0) (pa_cons pe_int pa_nil))) (pa_cons pe_int pa_nil)))) (pe_call G__law_take (hr.mono (by decide)) rfl T.g__law_take T.F__law_take.kp T.b__law_take .nil pass0 (pa_cons (pv 0) (pa_cons pe_int pa_nil))) (fun _ _ => rfl)))
    (pss_one (ps_ret (pe_tup (pa_cons (pe_ix ix_list (pv 1) (pe_call G__law_take (hr.mono (by decide)) rfl T.g__law_take T.F__law_take.kp T.b__law_take .nil pass0 (pa_cons (pv 0) (pa_cons (pe_callB call_len_seq (by rfl) T.n_len PySem.boot_len (pa_cons (pv 1) pa_nil)) pa_nil))) (fun _ _ => rfl)) (pa_cons (pv 2) (pa_cons (pv 3) (pa_cons (pv 4) (pa_cons (pv 5) pa_nil)))))))))))), ?_⟩
  intro J
  exact (rs_seq (rs_asg (re_op rr_ixL (RN.re (rn_lst (ra_cons (re_op rr_add (re_c fun _ => .int _) (re_call (fun _ => .nil) (rc_own (rc_dat (re_c fun _ => .int _) rc_nil)))) (ra_cons (re_op rr_add (re_c fun _ => .int _) (re_call (fun _ => .nil) (rc_own (rc_dat (re_c fun _ => .int _) rc_nil)))) (ra_cons (re_c fun _ => .int _) ra_nil))))) (re_call (fun _ => .nil) (rc_own (rc_dat (re_c fun _ => .int _) rc_nil)))) rg_name)
    (rs_seq (rs_asg (re_call (fun _ => .nil) (rc_own rc_nil)) rg_name)
    (rs_seq (rs_asg (re_op rr_ixL (RN.re (rn_lst (ra_cons (re_c fun _ => .int _) (ra_cons re_v (ra_cons (re_call (fun _ => .nil) (rc_own (rc_dat (re_op rr_add re_v (re_c fun _ => .int _)) rc_nil))) (ra_cons (re_op rr_fdiv re_v (re_c fun _ => .int _)) ra_nil)))))) (re_call (fun _ => .nil) (rc_own (rc_dat (re_c fun _ => .int _) rc_nil)))) rg_name)
    (rs_seq (rs_asg (re_op rr_ixL (RN.re (rn_lst (ra_cons (re_call (fun _ => .nil) (rc_own (rc_dat (re_c fun _ => .int _) rc_nil))) (ra_cons (re_call (fun _ => .nil) (rc_own (rc_dat (re_c fun _ => .int _) rc_nil))) (ra_cons (re_c fun _ => .int _) ra_nil))))) (re_call (fun _ => .nil) (rc_own (rc_dat (re_c fun _ => .int _) rc_nil)))) rg_name)
    (rs_ret (re_tup (ra_cons (re_op rr_ixL re_v (re_call (fun _ => .nil) (rc_own (rc_dat (re_cb rb_len (ra_cons re_v ra_nil)) rc_nil)))) (ra_cons re_v (ra_cons re_v (ra_cons re_v (ra_cons re_v ra_nil)))))))))))
theorem okD_BadTag_init {P : Program} {w : World} {K : PySem.W.Frag} {mg : Str → Option Value} {base : Heap} {ad : Ad} (T : Txt K mg ad) : FnOk P w K mg base CX0 1 ad.f_BadTag_init ad.d_BadTag_init ["self", "what"] (spIn K ad.C_BadTag) := by
  refine T.F_BadTag_init.ok sc_BadTag_init (fun vs H Q E h => ?_) (fun cdv A outer s H vs Q E hr h => ?_)
  · obtain ⟨a, y, rfl, _⟩ := h
    rfl
  · obtain ⟨a, y, rfl, ea, q⟩ := h
    refine ⟨_, pss_cons (ps_expr (pe_bi (B := "ValueError") (nI := "ValueError.__new__") (iI := "ValueError.__init__") (bm := [.type "ValueError", .type "Exception", .type "BaseException", .type "object"]) rfl T.n_ValueError (by decide +kernel) (by kernel_rfl) T.vb_BadTag (pa_cons (pv 0) (pa_cons pe_str pa_nil)))) (pss_one (ps_ow (pv 0) (pv 1))), ?_⟩
    exact ⟨_, rfl, a, ad.C_BadTag, _, rfl, (by show 1 ≤ 1000; decide), T.ob_BadTag, ea, _, rfl, _, rfl, a, ad.C_BadTag, _, _, _, _, rfl, T.ob_BadTag, ea, q⟩
theorem okD_is_name {P : Program} {w : World} {K : PySem.W.Frag} {mg : Str → Option Value} {base : Heap} {ad : Ad} (T : Txt K mg ad) : FnOk P w K mg base CX0 1 ad.f_is_name ad.d_is_name ["thing"] (spF K 1 F_is_name) := by
  refine okF0 T.F_is_name sc_is_name fun cdv A outer s H E hr => ⟨_, (pss_cons (ps_if (PW.pt (pw_or (pt_not (pt_val (pe_callB call_isi (by rfl) T.n_isinstance (by decide +kernel) (pa_cons (pv 0) (pa_cons (pe_bltn (v := .ty "str") (by rfl) T.n_str (by decide +kernel) rfl) pa_nil))))) (pw_or1 (pt_not (pt_chain op_le op_le pe_int (pe_callB call_len_str (by rfl) T.n_len PySem.boot_len (pa_cons (pv 0) pa_nil)) (pe_globE rfl T.c_MOST_SIGNS)))))) (pss_one (ps_ret pe_bl)) pss_nil)
    (pss_one (ps_ret (pe_callB (cr_all rfl) (by rfl) T.n_all (by decide +kernel) (pa_cons (pe_lc (own := [("sign", 1)]) (g := gName 1) (by rfl) sc_is_name.nd (pi_str (pv 0)) (blkOk_by (own := [("sign", 1)]) (N := N_is_name) (sc := defScope s_is_name) (by decide +kernel)) (fun _ _ _ _ _ => (pg_name (i := 1) sc_is_name.nd rfl (Or.inl rfl))) (fun _ _ _ _ _ => pts_nil) (fun _ _ _ _ _ => (pe_cmpR op_in_sign (pv 1) (pe_globE rfl T.c_SMALL_SIGNS) rfl))) pa_nil))))), ?_⟩
  intro J
  exact (rs_seq (rs_if (rt_or (rt_not (rt_b (re_isi re_v))) (rt_not (rt_test (re_chain rr_le rr_le (re_c fun _ => .int _) (re_cb rb_len_str (ra_cons re_v ra_nil)) (re_c fun _ => .int _))))) (rs_ret (re_c fun _ => .bl _)) rs_next)
    (rs_ret (re_cb rb_all (ra_cons (RN.re (rn_lc (by decide) (ri_str re_v) (fun _ le => rg_name) (fun _ le => rt_yes) (fun _ le => (re_op rr_in_sign re_v (re_c fun _ => .str _))))) ra_nil))))
theorem okD_is_whole {P : Program} {w : World} {K : PySem.W.Frag} {mg : Str → Option Value} {base : Heap} {ad : Ad} (T : Txt K mg ad) : FnOk P w K mg base CX0 1 ad.f_is_whole ad.d_is_whole ["thing", "least", "most"] (spF K 3 F_is_whole) := by
  refine okF0 T.F_is_whole sc_is_whole fun cdv A outer s H E hr => ⟨_, (pss_one (ps_ret (pe_and (pe_callB call_isi (by rfl) T.n_isinstance (by decide +kernel) (pa_cons (pv 0) (pa_cons (pe_bltn (v := .ty "int") (by rfl) T.n_int (by decide +kernel) rfl) pa_nil))) (pe_and (pe_not (pe_callB call_isi (by rfl) T.n_isinstance (by decide +kernel) (pa_cons (pv 0) (pa_cons (pe_bltn (v := .ty "bool") (by rfl) T.n_bool (by decide +kernel) rfl) pa_nil)))) (pe_one (pe_chain op_le op_le (pv 1) (pv 0) (pv 2))))))), ?_⟩
  intro J
  exact (rs_ret (re_and (re_isi re_v) (re_and (re_not (re_isi re_v)) (re_chain rr_le rr_le re_v re_v re_v))))
theorem okD_Tag_init {P : Program} {w : World} {K : PySem.W.Frag} {mg : Str → Option Value} {base : Heap} {ad : Ad} (T : Txt K mg ad) : FnOk P w K mg base (L2.CX P w) 3 ad.f_Tag_init ad.d_Tag_init ["self", "owner", "number", "price", "least", "day"] (spXS K 6 F_Tag_init) := by
  have G_is_name := okD_is_name (P := P) (w := w) (base := base) T
  have G_BadTag_init := okD_BadTag_init (P := P) (w := w) (base := base) T
  have G_is_whole := okD_is_whole (P := P) (w := w) (base := base) T
  refine okXSD T.F_Tag_init sc_Tag_init fun cdv A outer s H E hr => ⟨_, fun _ tk => (pss_cons (ps_if (pt_not (pt_val (pe_call G_is_name (hr.mono (by decide)) rfl T.g_is_name T.F_is_name.kp T.b_is_name .nil pass0 (pa_cons (pv 1) pa_nil)))) (pss_one (ps_raise rfl tk (pmk_b T.ob_BadTag T.in_BadTag T.ty_BadTag G_BadTag_init (hr.mono (by decide)) (T.b_BadTag_init) rfl T.g_BadTag pe_str))) pss_nil)
    (pss_cons (ps_if (pt_not (pt_val (pe_call G_is_whole (hr.mono (by decide)) rfl T.g_is_whole T.F_is_whole.kp T.b_is_whole .nil pass0 (pa_cons (pv 2) (pa_cons pe_int (pa_cons (pe_globE rfl T.c_MOST_NUMBER) pa_nil)))))) (pss_one (ps_raise rfl tk (pmk_b T.ob_BadTag T.in_BadTag T.ty_BadTag G_BadTag_init (hr.mono (by decide)) (T.b_BadTag_init) rfl T.g_BadTag pe_str))) pss_nil)
    (pss_cons (ps_if (pt_not (pt_val (pe_call G_is_whole (hr.mono (by decide)) rfl T.g_is_whole T.F_is_whole.kp T.b_is_whole .nil pass0 (pa_cons (pv 3) (pa_cons pe_int (pa_cons (pe_globE rfl T.c_MOST_PRICE) pa_nil)))))) (pss_one (ps_raise rfl tk (pmk_b T.ob_BadTag T.in_BadTag T.ty_BadTag G_BadTag_init (hr.mono (by decide)) (T.b_BadTag_init) rfl T.g_BadTag pe_str))) pss_nil)
    (pss_cons (ps_if (pt_not (pt_val (pe_call G_is_whole (hr.mono (by decide)) rfl T.g_is_whole T.F_is_whole.kp T.b_is_whole .nil pass0 (pa_cons (pv 4) (pa_cons pe_int (pa_cons (pv 3) pa_nil)))))) (pss_one (ps_raise rfl tk (pmk_b T.ob_BadTag T.in_BadTag T.ty_BadTag G_BadTag_init (hr.mono (by decide)) (T.b_BadTag_init) rfl T.g_BadTag pe_str))) pss_nil)
    (pss_cons (ps_if (pt_not (pt_val (pe_call G_is_whole (hr.mono (by decide)) rfl T.g_is_whole T.F_is_whole.kp T.b_is_whole .nil pass0 (pa_cons (pv 5) (pa_cons pe_int (pa_cons (pe_globE rfl T.c_MOST_DAY) pa_nil)))))) (pss_one (ps_raise rfl tk (pmk_b T.ob_BadTag T.in_BadTag T.ty_BadTag G_BadTag_init (hr.mono (by decide)) (T.b_BadTag_init) rfl T.g_BadTag pe_str))) pss_nil)
    (pss_cons (ps_fld (pv 0) (pv 1) rfl)
    (pss_cons (ps_fld (pv 0) (pv 2) rfl)
    (pss_cons (ps_fld (pv 0) (pv 3) rfl)
    (pss_cons (ps_fld (pv 0) (pv 4) rfl)
    (pss_one (ps_fld (pv 0) (pv 5) rfl))))))))))), ?_⟩
  intro J Xw W l
  exact (rs_seq (rs_if (rt_not (rt_b (re_call (fun _ => .nil) (rc_dat re_v rc_nil)))) (rs_raise T.q_BadTag l (re_c fun _ => .str _)) rs_next)
    (rs_seq (rs_if (rt_not (rt_b (re_call (fun _ => .nil) (rc_dat re_v (rc_dat (re_c fun _ => .int _) (rc_dat (re_c fun _ => .int _) rc_nil)))))) (rs_raise T.q_BadTag l (re_c fun _ => .str _)) rs_next)
    (rs_seq (rs_if (rt_not (rt_b (re_call (fun _ => .nil) (rc_dat re_v (rc_dat (re_c fun _ => .int _) (rc_dat (re_c fun _ => .int _) rc_nil)))))) (rs_raise T.q_BadTag l (re_c fun _ => .str _)) rs_next)
    (rs_seq (rs_if (rt_not (rt_b (re_call (fun _ => .nil) (rc_dat re_v (rc_dat (re_c fun _ => .int _) (rc_dat re_v rc_nil)))))) (rs_raise T.q_BadTag l (re_c fun _ => .str _)) rs_next)
    (rs_seq (rs_if (rt_not (rt_b (re_call (fun _ => .nil) (rc_dat re_v (rc_dat (re_c fun _ => .int _) (rc_dat (re_c fun _ => .int _) rc_nil)))))) (rs_raise T.q_BadTag l (re_c fun _ => .str _)) rs_next)
    (rs_seq (rs_setF T.q_Tag T.cl_Tag T.na_Tag_owner re_v re_v)
    (rs_seq (rs_setF T.q_Tag T.cl_Tag T.na_Tag_number re_v re_v)
    (rs_seq (rs_setF T.q_Tag T.cl_Tag T.na_Tag_price re_v re_v)
    (rs_seq (rs_setF T.q_Tag T.cl_Tag T.na_Tag_least re_v re_v)
    (rs_setF T.q_Tag T.cl_Tag T.na_Tag_day re_v re_v))))))))))
theorem okD__law_made {P : Program} {w : World} {K : PySem.W.Frag} {mg : Str → Option Value} {base : Heap} {ad : Ad} (T : Txt K mg ad) : FnOk P w K mg base CX0 5 ad.f__law_made ad.d__law_made ["_law_box_here", "_law_five_here"] (spF K 2 F__law_made) := by
  have G__law_take := okD__law_take (P := P) (w := w) (base := base) T
  have G_Tag_init := okD_Tag_init (P := P) (w := w) (base := base) T
  obtain ⟨db_Tag_init_6, vb_Tag_init_6, b_Tag_init_6⟩ := T.b_Tag_init_6
  obtain ⟨db_Tag_init_4, vb_Tag_init_4, b_Tag_init_4⟩ := T.b_Tag_init_4
  obtain ⟨ikb_Tag_init_4_day, kb_Tag_init_4_day⟩ := T.kb_Tag_init_4_day
  obtain ⟨db_Tag_init_5, vb_Tag_init_5, b_Tag_init_5⟩ := T.b_Tag_init_5
  obtain ⟨ikb_Tag_init_4_day_least, kb_Tag_init_4_day_least⟩ := T.kb_Tag_init_4_day_least
  refine okF0 T.F__law_made sc__law_made fun cdv A outer s H E hr => ⟨_, (pss_cons (ps_asg (pv 1) (pg_tup (by rfl) (pgs_cons (pg_name (i := 2) sc__law_made.nd rfl (Or.inl rfl)) (pgs_cons (pg_name (i := 3) sc__law_made.nd rfl (Or.inl rfl)) (pgs_cons (pg_name (i := 4) sc__law_made.nd rfl (Or.inl rfl)) (pgs_cons (pg_name (i := 5) sc__law_made.nd rfl (Or.inl rfl)) (pgs_cons (pg_name (i := 6) sc__law_made.nd rfl (Or.inl rfl)) pgs_nil)))))))
    (pss_cons (ps_set (i := 7) sc__law_made.nd rfl (Or.inl rfl) (pe_call G__law_take (hr.mono (by decide)) rfl T.g__law_take T.F__law_take.kp T.b__law_take .nil pass0 (pa_cons (pv 0) (pa_cons pe_int pa_nil))))
    (pss_cons (ps_if (PW.pt (pw_and (pt_cmpR op_eq (pv 7) pe_int (nomark _)) (pw_and1 (pt_cmpR (op_eqD hr.units) (pe_tup (pa_cons (pv 5) (pa_cons (pv 6) pa_nil))) (pe_tup (pa_cons pe_int (pa_cons pe_int pa_nil))) (nomark _))))) (pss_one (ps_ret (pe_makeSD T.mk_Tag G_Tag_init (hr.mono (by decide)) rfl T.g_Tag b_Tag_init_4 vb_Tag_init_4 (fun σ => passAt takes0 σ) (pa_cons (pv 2) (pa_cons (pv 3) (pa_cons (pv 4) pa_nil)))))) pss_nil)
    (pss_cons (ps_if (PW.pt (pw_and (pt_cmpR op_eq (pv 7) pe_int (nomark _)) (pw_and1 (pt_cmpR (op_eqD hr.units) (pv 5) pe_int (nomark _))))) (pss_one (ps_ret (pe_makeNSD T.mk_Tag G_Tag_init (hr.mono (by decide)) rfl T.g_Tag kb_Tag_init_4_day (fun σ => passAt takes0 σ) (pa_cons (pv 2) (pa_cons (pv 3) (pa_cons (pv 4) pa_nil))) (pk_cons (pv 6) pk_nil)))) pss_nil)
    (pss_cons (ps_if (PW.pt (pw_and (pt_cmpR op_eq (pv 7) pe_int (nomark _)) (pw_and1 (pt_cmpR (op_eqD hr.units) (pv 6) pe_int (nomark _))))) (pss_one (ps_ret (pe_makeSD T.mk_Tag G_Tag_init (hr.mono (by decide)) rfl T.g_Tag b_Tag_init_5 vb_Tag_init_5 (fun σ => passAt takes0 σ) (pa_cons (pv 2) (pa_cons (pv 3) (pa_cons (pv 4) (pa_cons (pv 5) pa_nil))))))) pss_nil)
    (pss_cons (ps_if (pt_cmpR op_eq (pv 7) pe_int (nomark _)) (pss_one (ps_ret (pe_makeNSD T.mk_Tag G_Tag_init (hr.mono (by decide)) rfl T.g_Tag kb_Tag_init_4_day_least (fun σ => passAt takes0 σ) (pa_cons (pv 2) (pa_cons (pv 3) (pa_cons (pv 4) pa_nil))) (pk_cons (pv 6) (pk_cons (pv 5) pk_nil))))) pss_nil)
    (pss_one (ps_ret (pe_makeSD T.mk_Tag G_Tag_init (hr.mono (by decide)) rfl T.g_Tag b_Tag_init_6 vb_Tag_init_6 (fun σ => passAt takes0 σ) (pa_cons (pv 2) (pa_cons (pv 3) (pa_cons (pv 4) (pa_cons (pv 5) (pa_cons (pv 6) pa_nil)))))))))))))), ?_⟩
  intro J
  exact (rs_seq (rs_asg re_v (rg_tup (rgs_cons rg_name (rgs_cons rg_name (rgs_cons rg_name (rgs_cons rg_name (rgs_cons rg_name rgs_nil)))))))
    (rs_seq (rs_asg (re_call (fun _ => .nil) (rc_own (rc_dat (re_c fun _ => .int _) rc_nil))) rg_name)
    (rs_seq (rs_if (rt_and (rt_test (re_op rr_eq re_v (re_c fun _ => .int _))) (rt_test (re_op rr_eqD (re_tup (ra_cons re_v (ra_cons re_v ra_nil))) (re_tup (ra_cons (re_c fun _ => .int _) (ra_cons (re_c fun _ => .int _) ra_nil)))))) (rs_ret (re_mkZX lkF T.q_Tag (fun _ => (.cons (.int _) (.cons (.int _) .nil))) (ra_cons re_v (ra_cons re_v (ra_cons re_v ra_nil))))) rs_next)
    (rs_seq (rs_if (rt_and (rt_test (re_op rr_eq re_v (re_c fun _ => .int _))) (rt_test (re_op rr_eqD re_v (re_c fun _ => .int _)))) (rs_ret (re_mkNZX lkF T.q_Tag (fun x vs zs ds es H r1 r2 => ⟨_, rfl, ((r1.append ((((.cons (.int _) (.cons (.int _) .nil)) : DqAll K _ _ ([(.int 0), (.int 0)] : List PyData)).drop 0).take 1)).append ((r2.drop 0).take 1))⟩) (ra_cons re_v (ra_cons re_v (ra_cons re_v ra_nil))) (ra_cons re_v ra_nil))) rs_next)
    (rs_seq (rs_if (rt_and (rt_test (re_op rr_eq re_v (re_c fun _ => .int _))) (rt_test (re_op rr_eqD re_v (re_c fun _ => .int _)))) (rs_ret (re_mkZX lkF T.q_Tag (fun _ => (.cons (.int _) .nil)) (ra_cons re_v (ra_cons re_v (ra_cons re_v (ra_cons re_v ra_nil)))))) rs_next)
    (rs_seq (rs_if (rt_test (re_op rr_eq re_v (re_c fun _ => .int _))) (rs_ret (re_mkNZX lkF T.q_Tag (fun x vs zs ds es H r1 r2 => ⟨_, rfl, ((r1.append ((r2.drop 1).take 1)).append ((r2.drop 0).take 1))⟩) (ra_cons re_v (ra_cons re_v (ra_cons re_v ra_nil))) (ra_cons re_v (ra_cons re_v ra_nil)))) rs_next)
    (rs_ret (re_mkZX lkF T.q_Tag (fun _ => .nil) (ra_cons re_v (ra_cons re_v (ra_cons re_v (ra_cons re_v (ra_cons re_v ra_nil)))))))))))))
theorem okD_BadText_init {P : Program} {w : World} {K : PySem.W.Frag} {mg : Str → Option Value} {base : Heap} {ad : Ad} (T : Txt K mg ad) : FnOk P w K mg base CX0 1 ad.f_BadText_init ad.d_BadText_init ["self", "what"] (spIn K ad.C_BadText) := by
  refine T.F_BadText_init.ok sc_BadText_init (fun vs H Q E h => ?_) (fun cdv A outer s H vs Q E hr h => ?_)
  · obtain ⟨a, y, rfl, _⟩ := h
    rfl
  · obtain ⟨a, y, rfl, ea, q⟩ := h
    refine ⟨_, pss_cons (ps_expr (pe_bi (B := "ValueError") (nI := "ValueError.__new__") (iI := "ValueError.__init__") (bm := [.type "ValueError", .type "Exception", .type "BaseException", .type "object"]) rfl T.n_ValueError (by decide +kernel) (by kernel_rfl) T.vb_BadText (pa_cons (pv 0) (pa_cons pe_str pa_nil)))) (pss_one (ps_ow (pv 0) (pv 1))), ?_⟩
    exact ⟨_, rfl, a, ad.C_BadText, _, rfl, (by show 1 ≤ 1000; decide), T.ob_BadText, ea, _, rfl, _, rfl, a, ad.C_BadText, _, _, _, _, rfl, T.ob_BadText, ea, q⟩
theorem okD_TooMany_init {P : Program} {w : World} {K : PySem.W.Frag} {mg : Str → Option Value} {base : Heap} {ad : Ad} (T : Txt K mg ad) : FnOk P w K mg base CX0 1 ad.f_TooMany_init ad.d_TooMany_init ["self", "what"] (spIn K ad.C_TooMany) := by
  refine T.F_TooMany_init.ok sc_TooMany_init (fun vs H Q E h => ?_) (fun cdv A outer s H vs Q E hr h => ?_)
  · obtain ⟨a, y, rfl, _⟩ := h
    rfl
  · obtain ⟨a, y, rfl, ea, q⟩ := h
    refine ⟨_, pss_cons (ps_expr (pe_bi (B := "OverflowError") (nI := "OverflowError.__new__") (iI := "OverflowError.__init__") (bm := [.type "OverflowError", .type "ArithmeticError", .type "Exception", .type "BaseException", .type "object"]) rfl T.n_OverflowError (by decide +kernel) (by kernel_rfl) T.vb_TooMany (pa_cons (pv 0) (pa_cons pe_str pa_nil)))) (pss_one (ps_ow (pv 0) (pv 1))), ?_⟩
    exact ⟨_, rfl, a, ad.C_TooMany, _, rfl, (by show 1 ≤ 1000; decide), T.ob_TooMany, ea, _, rfl, _, rfl, a, ad.C_TooMany, _, _, _, _, rfl, T.ob_TooMany, ea, q⟩
theorem okD_TooEarly_init {P : Program} {w : World} {K : PySem.W.Frag} {mg : Str → Option Value} {base : Heap} {ad : Ad} (T : Txt K mg ad) : FnOk P w K mg base CX0 1 ad.f_TooEarly_init ad.d_TooEarly_init ["self", "what"] (spIn K ad.C_TooEarly) := by
  refine T.F_TooEarly_init.ok sc_TooEarly_init (fun vs H Q E h => ?_) (fun cdv A outer s H vs Q E hr h => ?_)
  · obtain ⟨a, y, rfl, _⟩ := h
    rfl
  · obtain ⟨a, y, rfl, ea, q⟩ := h
    refine ⟨_, pss_cons (ps_expr (pe_bi (B := "RuntimeError") (nI := "RuntimeError.__new__") (iI := "RuntimeError.__init__") (bm := [.type "RuntimeError", .type "Exception", .type "BaseException", .type "object"]) rfl T.n_RuntimeError (by decide +kernel) (by kernel_rfl) T.vb_TooEarly (pa_cons (pv 0) (pa_cons pe_str pa_nil)))) (pss_one (ps_ow (pv 0) (pv 1))), ?_⟩
    exact ⟨_, rfl, a, ad.C_TooEarly, _, rfl, (by show 1 ≤ 1000; decide), T.ob_TooEarly, ea, _, rfl, _, rfl, a, ad.C_TooEarly, _, _, _, _, rfl, T.ob_TooEarly, ea, q⟩
theorem okD_BadSum_init {P : Program} {w : World} {K : PySem.W.Frag} {mg : Str → Option Value} {base : Heap} {ad : Ad} (T : Txt K mg ad) : FnOk P w K mg base CX0 1 ad.f_BadSum_init ad.d_BadSum_init ["self", "what"] (spIn K ad.C_BadSum) := by
  refine T.F_BadSum_init.ok sc_BadSum_init (fun vs H Q E h => ?_) (fun cdv A outer s H vs Q E hr h => ?_)
  · obtain ⟨a, y, rfl, _⟩ := h
    rfl
  · obtain ⟨a, y, rfl, ea, q⟩ := h
    refine ⟨_, pss_cons (ps_expr (pe_bi (B := "ValueError") (nI := "ValueError.__new__") (iI := "ValueError.__init__") (bm := [.type "ValueError", .type "Exception", .type "BaseException", .type "object"]) rfl T.n_ValueError (by decide +kernel) (by kernel_rfl) T.vb_BadSum (pa_cons (pv 0) (pa_cons pe_str pa_nil)))) (pss_one (ps_ow (pv 0) (pv 1))), ?_⟩
    exact ⟨_, rfl, a, ad.C_BadSum, _, rfl, (by show 1 ≤ 1000; decide), T.ob_BadSum, ea, _, rfl, _, rfl, a, ad.C_BadSum, _, _, _, _, rfl, T.ob_BadSum, ea, q⟩
theorem okD_BadOrder_init {P : Program} {w : World} {K : PySem.W.Frag} {mg : Str → Option Value} {base : Heap} {ad : Ad} (T : Txt K mg ad) : FnOk P w K mg base CX0 1 ad.f_BadOrder_init ad.d_BadOrder_init ["self", "what"] (spIn K ad.C_BadOrder) := by
  refine T.F_BadOrder_init.ok sc_BadOrder_init (fun vs H Q E h => ?_) (fun cdv A outer s H vs Q E hr h => ?_)
  · obtain ⟨a, y, rfl, _⟩ := h
    rfl
  · obtain ⟨a, y, rfl, ea, q⟩ := h
    refine ⟨_, pss_cons (ps_expr (pe_bi (B := "ValueError") (nI := "ValueError.__new__") (iI := "ValueError.__init__") (bm := [.type "ValueError", .type "Exception", .type "BaseException", .type "object"]) rfl T.n_ValueError (by decide +kernel) (by kernel_rfl) T.vb_BadOrder (pa_cons (pv 0) (pa_cons pe_str pa_nil)))) (pss_one (ps_ow (pv 0) (pv 1))), ?_⟩
    exact ⟨_, rfl, a, ad.C_BadOrder, _, rfl, (by show 1 ≤ 1000; decide), T.ob_BadOrder, ea, _, rfl, _, rfl, a, ad.C_BadOrder, _, _, _, _, rfl, T.ob_BadOrder, ea, q⟩
theorem okD_BadQuery_init {P : Program} {w : World} {K : PySem.W.Frag} {mg : Str → Option Value} {base : Heap} {ad : Ad} (T : Txt K mg ad) : FnOk P w K mg base CX0 1 ad.f_BadQuery_init ad.d_BadQuery_init ["self", "what"] (spIn K ad.C_BadQuery) := by
  refine T.F_BadQuery_init.ok sc_BadQuery_init (fun vs H Q E h => ?_) (fun cdv A outer s H vs Q E hr h => ?_)
  · obtain ⟨a, y, rfl, _⟩ := h
    rfl
  · obtain ⟨a, y, rfl, ea, q⟩ := h
    refine ⟨_, pss_cons (ps_expr (pe_bi (B := "ValueError") (nI := "ValueError.__new__") (iI := "ValueError.__init__") (bm := [.type "ValueError", .type "Exception", .type "BaseException", .type "object"]) rfl T.n_ValueError (by decide +kernel) (by kernel_rfl) T.vb_BadQuery (pa_cons (pv 0) (pa_cons pe_str pa_nil)))) (pss_one (ps_ow (pv 0) (pv 1))), ?_⟩
    exact ⟨_, rfl, a, ad.C_BadQuery, _, rfl, (by show 1 ≤ 1000; decide), T.ob_BadQuery, ea, _, rfl, _, rfl, a, ad.C_BadQuery, _, _, _, _, rfl, T.ob_BadQuery, ea, q⟩
theorem okD_BadColumn_init {P : Program} {w : World} {K : PySem.W.Frag} {mg : Str → Option Value} {base : Heap} {ad : Ad} (T : Txt K mg ad) : FnOk P w K mg base CX0 1 ad.f_BadColumn_init ad.d_BadColumn_init ["self", "what"] (spIn K ad.C_BadColumn) := by
  refine T.F_BadColumn_init.ok sc_BadColumn_init (fun vs H Q E h => ?_) (fun cdv A outer s H vs Q E hr h => ?_)
  · obtain ⟨a, y, rfl, _⟩ := h
    rfl
  · obtain ⟨a, y, rfl, ea, q⟩ := h
    refine ⟨_, pss_cons (ps_expr (pe_bi (B := "ValueError") (nI := "ValueError.__new__") (iI := "ValueError.__init__") (bm := [.type "ValueError", .type "Exception", .type "BaseException", .type "object"]) rfl T.n_ValueError (by decide +kernel) (by kernel_rfl) T.vb_BadColumn (pa_cons (pv 0) (pa_cons pe_str pa_nil)))) (pss_one (ps_ow (pv 0) (pv 1))), ?_⟩
    exact ⟨_, rfl, a, ad.C_BadColumn, _, rfl, (by show 1 ≤ 1000; decide), T.ob_BadColumn, ea, _, rfl, _, rfl, a, ad.C_BadColumn, _, _, _, _, rfl, T.ob_BadColumn, ea, q⟩
theorem okD_BadDeed_init {P : Program} {w : World} {K : PySem.W.Frag} {mg : Str → Option Value} {base : Heap} {ad : Ad} (T : Txt K mg ad) : FnOk P w K mg base CX0 1 ad.f_BadDeed_init ad.d_BadDeed_init ["self", "what"] (spIn K ad.C_BadDeed) := by
  refine T.F_BadDeed_init.ok sc_BadDeed_init (fun vs H Q E h => ?_) (fun cdv A outer s H vs Q E hr h => ?_)
  · obtain ⟨a, y, rfl, _⟩ := h
    rfl
  · obtain ⟨a, y, rfl, ea, q⟩ := h
    refine ⟨_, pss_cons (ps_expr (pe_bi (B := "TypeError") (nI := "TypeError.__new__") (iI := "TypeError.__init__") (bm := [.type "TypeError", .type "Exception", .type "BaseException", .type "object"]) rfl T.n_TypeError (by decide +kernel) (by kernel_rfl) T.vb_BadDeed (pa_cons (pv 0) (pa_cons pe_str pa_nil)))) (pss_one (ps_ow (pv 0) (pv 1))), ?_⟩
    exact ⟨_, rfl, a, ad.C_BadDeed, _, rfl, (by show 1 ≤ 1000; decide), T.ob_BadDeed, ea, _, rfl, _, rfl, a, ad.C_BadDeed, _, _, _, _, rfl, T.ob_BadDeed, ea, q⟩
theorem okD_BadRow_init {P : Program} {w : World} {K : PySem.W.Frag} {mg : Str → Option Value} {base : Heap} {ad : Ad} (T : Txt K mg ad) : FnOk P w K mg base CX0 1 ad.f_BadRow_init ad.d_BadRow_init ["self", "what"] (spIn K ad.C_BadRow) := by
  refine T.F_BadRow_init.ok sc_BadRow_init (fun vs H Q E h => ?_) (fun cdv A outer s H vs Q E hr h => ?_)
  · obtain ⟨a, y, rfl, _⟩ := h
    rfl
  · obtain ⟨a, y, rfl, ea, q⟩ := h
    refine ⟨_, pss_cons (ps_expr (pe_bi (B := "ValueError") (nI := "ValueError.__new__") (iI := "ValueError.__init__") (bm := [.type "ValueError", .type "Exception", .type "BaseException", .type "object"]) rfl T.n_ValueError (by decide +kernel) (by kernel_rfl) T.vb_BadRow (pa_cons (pv 0) (pa_cons pe_str pa_nil)))) (pss_one (ps_ow (pv 0) (pv 1))), ?_⟩
    exact ⟨_, rfl, a, ad.C_BadRow, _, rfl, (by show 1 ≤ 1000; decide), T.ob_BadRow, ea, _, rfl, _, rfl, a, ad.C_BadRow, _, _, _, _, rfl, T.ob_BadRow, ea, q⟩
theorem okD_NoCoin_init {P : Program} {w : World} {K : PySem.W.Frag} {mg : Str → Option Value} {base : Heap} {ad : Ad} (T : Txt K mg ad) : FnOk P w K mg base CX0 1 ad.f_NoCoin_init ad.d_NoCoin_init ["self", "what"] (spIn K ad.C_NoCoin) := by
  refine T.F_NoCoin_init.ok sc_NoCoin_init (fun vs H Q E h => ?_) (fun cdv A outer s H vs Q E hr h => ?_)
  · obtain ⟨a, y, rfl, _⟩ := h
    rfl
  · obtain ⟨a, y, rfl, ea, q⟩ := h
    refine ⟨_, pss_cons (ps_expr (pe_bi (B := "KeyError") (nI := "LookupError.__new__") (iI := "KeyError.__init__") (bm := [.type "KeyError", .type "LookupError", .type "Exception", .type "BaseException", .type "object"]) rfl T.n_KeyError (by decide +kernel) (by kernel_rfl) T.vb_NoCoin (pa_cons (pv 0) (pa_cons pe_str pa_nil)))) (pss_one (ps_ow (pv 0) (pv 1))), ?_⟩
    exact ⟨_, rfl, a, ad.C_NoCoin, _, rfl, (by show 1 ≤ 1000; decide), T.ob_NoCoin, ea, _, rfl, _, rfl, a, ad.C_NoCoin, _, _, _, _, rfl, T.ob_NoCoin, ea, q⟩
theorem okD_NoEntry_init {P : Program} {w : World} {K : PySem.W.Frag} {mg : Str → Option Value} {base : Heap} {ad : Ad} (T : Txt K mg ad) : FnOk P w K mg base CX0 1 ad.f_NoEntry_init ad.d_NoEntry_init ["self", "what"] (spIn K ad.C_NoEntry) := by
  refine T.F_NoEntry_init.ok sc_NoEntry_init (fun vs H Q E h => ?_) (fun cdv A outer s H vs Q E hr h => ?_)
  · obtain ⟨a, y, rfl, _⟩ := h
    rfl
  · obtain ⟨a, y, rfl, ea, q⟩ := h
    refine ⟨_, pss_cons (ps_expr (pe_bi (B := "KeyError") (nI := "LookupError.__new__") (iI := "KeyError.__init__") (bm := [.type "KeyError", .type "LookupError", .type "Exception", .type "BaseException", .type "object"]) rfl T.n_KeyError (by decide +kernel) (by kernel_rfl) T.vb_NoEntry (pa_cons (pv 0) (pa_cons pe_str pa_nil)))) (pss_one (ps_ow (pv 0) (pv 1))), ?_⟩
    exact ⟨_, rfl, a, ad.C_NoEntry, _, rfl, (by show 1 ≤ 1000; decide), T.ob_NoEntry, ea, _, rfl, _, rfl, a, ad.C_NoEntry, _, _, _, _, rfl, T.ob_NoEntry, ea, q⟩
theorem okD_NoThing_init {P : Program} {w : World} {K : PySem.W.Frag} {mg : Str → Option Value} {base : Heap} {ad : Ad} (T : Txt K mg ad) : FnOk P w K mg base CX0 1 ad.f_NoThing_init ad.d_NoThing_init ["self", "what"] (spIn K ad.C_NoThing) := by
  refine T.F_NoThing_init.ok sc_NoThing_init (fun vs H Q E h => ?_) (fun cdv A outer s H vs Q E hr h => ?_)
  · obtain ⟨a, y, rfl, _⟩ := h
    rfl
  · obtain ⟨a, y, rfl, ea, q⟩ := h
    refine ⟨_, pss_cons (ps_expr (pe_bi (B := "KeyError") (nI := "LookupError.__new__") (iI := "KeyError.__init__") (bm := [.type "KeyError", .type "LookupError", .type "Exception", .type "BaseException", .type "object"]) rfl T.n_KeyError (by decide +kernel) (by kernel_rfl) T.vb_NoThing (pa_cons (pv 0) (pa_cons pe_str pa_nil)))) (pss_one (ps_ow (pv 0) (pv 1))), ?_⟩
    exact ⟨_, rfl, a, ad.C_NoThing, _, rfl, (by show 1 ≤ 1000; decide), T.ob_NoThing, ea, _, rfl, _, rfl, a, ad.C_NoThing, _, _, _, _, rfl, T.ob_NoThing, ea, q⟩
theorem okD_NoChange_init {P : Program} {w : World} {K : PySem.W.Frag} {mg : Str → Option Value} {base : Heap} {ad : Ad} (T : Txt K mg ad) : FnOk P w K mg base CX0 1 ad.f_NoChange_init ad.d_NoChange_init ["self", "what"] (spIn K ad.C_NoChange) := by
  refine T.F_NoChange_init.ok sc_NoChange_init (fun vs H Q E h => ?_) (fun cdv A outer s H vs Q E hr h => ?_)
  · obtain ⟨a, y, rfl, _⟩ := h
    rfl
  · obtain ⟨a, y, rfl, ea, q⟩ := h
    refine ⟨_, pss_cons (ps_expr (pe_bi (B := "LookupError") (nI := "LookupError.__new__") (iI := "LookupError.__init__") (bm := [.type "LookupError", .type "Exception", .type "BaseException", .type "object"]) rfl T.n_LookupError (by decide +kernel) (by kernel_rfl) T.vb_NoChange (pa_cons (pv 0) (pa_cons pe_str pa_nil)))) (pss_one (ps_ow (pv 0) (pv 1))), ?_⟩
    exact ⟨_, rfl, a, ad.C_NoChange, _, rfl, (by show 1 ≤ 1000; decide), T.ob_NoChange, ea, _, rfl, _, rfl, a, ad.C_NoChange, _, _, _, _, rfl, T.ob_NoChange, ea, q⟩
theorem okD_BadDay_init {P : Program} {w : World} {K : PySem.W.Frag} {mg : Str → Option Value} {base : Heap} {ad : Ad} (T : Txt K mg ad) : FnOk P w K mg base CX0 1 ad.f_BadDay_init ad.d_BadDay_init ["self", "what"] (spIn K ad.C_BadDay) := by
  refine T.F_BadDay_init.ok sc_BadDay_init (fun vs H Q E h => ?_) (fun cdv A outer s H vs Q E hr h => ?_)
  · obtain ⟨a, y, rfl, _⟩ := h
    rfl
  · obtain ⟨a, y, rfl, ea, q⟩ := h
    refine ⟨_, pss_cons (ps_expr (pe_bi (B := "IndexError") (nI := "IndexError.__new__") (iI := "IndexError.__init__") (bm := [.type "IndexError", .type "LookupError", .type "Exception", .type "BaseException", .type "object"]) rfl T.n_IndexError (by decide +kernel) (by kernel_rfl) T.vb_BadDay (pa_cons (pv 0) (pa_cons pe_str pa_nil)))) (pss_one (ps_ow (pv 0) (pv 1))), ?_⟩
    exact ⟨_, rfl, a, ad.C_BadDay, _, rfl, (by show 1 ≤ 1000; decide), T.ob_BadDay, ea, _, rfl, _, rfl, a, ad.C_BadDay, _, _, _, _, rfl, T.ob_BadDay, ea, q⟩
theorem okD_TooLow_init {P : Program} {w : World} {K : PySem.W.Frag} {mg : Str → Option Value} {base : Heap} {ad : Ad} (T : Txt K mg ad) : FnOk P w K mg base CX0 1 ad.f_TooLow_init ad.d_TooLow_init ["self", "what"] (spIn K ad.C_TooLow) := by
  refine T.F_TooLow_init.ok sc_TooLow_init (fun vs H Q E h => ?_) (fun cdv A outer s H vs Q E hr h => ?_)
  · obtain ⟨a, y, rfl, _⟩ := h
    rfl
  · obtain ⟨a, y, rfl, ea, q⟩ := h
    refine ⟨_, pss_cons (ps_expr (pe_bi (B := "ArithmeticError") (nI := "ArithmeticError.__new__") (iI := "ArithmeticError.__init__") (bm := [.type "ArithmeticError", .type "Exception", .type "BaseException", .type "object"]) rfl T.n_ArithmeticError (by decide +kernel) (by kernel_rfl) T.vb_TooLow (pa_cons (pv 0) (pa_cons pe_str pa_nil)))) (pss_one (ps_ow (pv 0) (pv 1))), ?_⟩
    exact ⟨_, rfl, a, ad.C_TooLow, _, rfl, (by show 1 ≤ 1000; decide), T.ob_TooLow, ea, _, rfl, _, rfl, a, ad.C_TooLow, _, _, _, _, rfl, T.ob_TooLow, ea, q⟩
theorem okD_TooLittle_init {P : Program} {w : World} {K : PySem.W.Frag} {mg : Str → Option Value} {base : Heap} {ad : Ad} (T : Txt K mg ad) : FnOk P w K mg base CX0 1 ad.f_TooLittle_init ad.d_TooLittle_init ["self", "what"] (spIn K ad.C_TooLittle) := by
  refine T.F_TooLittle_init.ok sc_TooLittle_init (fun vs H Q E h => ?_) (fun cdv A outer s H vs Q E hr h => ?_)
  · obtain ⟨a, y, rfl, _⟩ := h
    rfl
  · obtain ⟨a, y, rfl, ea, q⟩ := h
    refine ⟨_, pss_cons (ps_expr (pe_bi (B := "ArithmeticError") (nI := "ArithmeticError.__new__") (iI := "ArithmeticError.__init__") (bm := [.type "ArithmeticError", .type "Exception", .type "BaseException", .type "object"]) rfl T.n_ArithmeticError (by decide +kernel) (by kernel_rfl) T.vb_TooLittle (pa_cons (pv 0) (pa_cons pe_str pa_nil)))) (pss_one (ps_ow (pv 0) (pv 1))), ?_⟩
    exact ⟨_, rfl, a, ad.C_TooLittle, _, rfl, (by show 1 ≤ 1000; decide), T.ob_TooLittle, ea, _, rfl, _, rfl, a, ad.C_TooLittle, _, _, _, _, rfl, T.ob_TooLittle, ea, q⟩
theorem okD__law_classes_right {P : Program} {w : World} {K : PySem.W.Frag} {mg : Str → Option Value} {base : Heap} {ad : Ad} (T : Txt K mg ad) : FnOk P w K mg base CX0 3 ad.f__law_classes_right ad.d__law_classes_right [] (spF K 0 F__law_classes_right) := by
  have G_BadTag_init := okD_BadTag_init (P := P) (w := w) (base := base) T
  have G_BadText_init := okD_BadText_init (P := P) (w := w) (base := base) T
  have G_TooMany_init := okD_TooMany_init (P := P) (w := w) (base := base) T
  have G_TooEarly_init := okD_TooEarly_init (P := P) (w := w) (base := base) T
  have G_BadSum_init := okD_BadSum_init (P := P) (w := w) (base := base) T
  have G_BadOrder_init := okD_BadOrder_init (P := P) (w := w) (base := base) T
  have G_BadQuery_init := okD_BadQuery_init (P := P) (w := w) (base := base) T
  have G_BadColumn_init := okD_BadColumn_init (P := P) (w := w) (base := base) T
  have G_BadDeed_init := okD_BadDeed_init (P := P) (w := w) (base := base) T
  have G_BadRow_init := okD_BadRow_init (P := P) (w := w) (base := base) T
  have G_NoCoin_init := okD_NoCoin_init (P := P) (w := w) (base := base) T
  have G_NoEntry_init := okD_NoEntry_init (P := P) (w := w) (base := base) T
  have G_NoThing_init := okD_NoThing_init (P := P) (w := w) (base := base) T
  have G_NoChange_init := okD_NoChange_init (P := P) (w := w) (base := base) T
  have G_BadDay_init := okD_BadDay_init (P := P) (w := w) (base := base) T
  have G_TooLow_init := okD_TooLow_init (P := P) (w := w) (base := base) T
  have G_TooLittle_init := okD_TooLittle_init (P := P) (w := w) (base := base) T
  refine okF0 T.F__law_classes_right sc__law_classes_right fun cdv A outer s H E hr => ⟨_, (pss_cons (ps_set (i := 0) sc__law_classes_right.nd rfl (Or.inl rfl) (pe_lst (pa_cons (pe_mkV rfl (pmk_b T.ob_BadTag T.in_BadTag T.ty_BadTag G_BadTag_init (hr.mono (by decide)) (T.b_BadTag_init) rfl T.g_BadTag pe_str)) (pa_cons (pe_mkV rfl (pmk_b T.ob_BadText T.in_BadText T.ty_BadText G_BadText_init (hr.mono (by decide)) (T.b_BadText_init) rfl T.g_BadText pe_int)) (pa_cons (pe_mkV rfl (pmk_b T.ob_TooMany T.in_TooMany T.ty_TooMany G_TooMany_init (hr.mono (by decide)) (T.b_TooMany_init) rfl T.g_TooMany pe_int)) (pa_cons (pe_mkV rfl (pmk_b T.ob_TooEarly T.in_TooEarly T.ty_TooEarly G_TooEarly_init (hr.mono (by decide)) (T.b_TooEarly_init) rfl T.g_TooEarly pe_int)) (pa_cons (pe_mkV rfl (pmk_b T.ob_BadSum T.in_BadSum T.ty_BadSum G_BadSum_init (hr.mono (by decide)) (T.b_BadSum_init) rfl T.g_BadSum pe_str)) (pa_cons (pe_mkV rfl (pmk_b T.ob_BadOrder T.in_BadOrder T.ty_BadOrder G_BadOrder_init (hr.mono (by decide)) (T.b_BadOrder_init) rfl T.g_BadOrder pe_int)) (pa_cons (pe_mkV rfl (pmk_b T.ob_BadQuery T.in_BadQuery T.ty_BadQuery G_BadQuery_init (hr.mono (by decide)) (T.b_BadQuery_init) rfl T.g_BadQuery pe_int)) (pa_cons (pe_mkV rfl (pmk_b T.ob_BadColumn T.in_BadColumn T.ty_BadColumn G_BadColumn_init (hr.mono (by decide)) (T.b_BadColumn_init) rfl T.g_BadColumn pe_int)) pa_nil))))))))))
    (pss_cons (ps_set (i := 0) sc__law_classes_right.nd rfl (Or.inl rfl) (pe_op op_catK (pv 0) (pe_lst (pa_cons (pe_mkV rfl (pmk_b T.ob_BadRow T.in_BadRow T.ty_BadRow G_BadRow_init (hr.mono (by decide)) (T.b_BadRow_init) rfl T.g_BadRow pe_int)) (pa_cons (pe_mkV rfl (pmk_b T.ob_NoCoin T.in_NoCoin T.ty_NoCoin G_NoCoin_init (hr.mono (by decide)) (T.b_NoCoin_init) rfl T.g_NoCoin pe_int)) (pa_cons (pe_mkV rfl (pmk_b T.ob_NoEntry T.in_NoEntry T.ty_NoEntry G_NoEntry_init (hr.mono (by decide)) (T.b_NoEntry_init) rfl T.g_NoEntry pe_int)) (pa_cons (pe_mkV rfl (pmk_b T.ob_NoThing T.in_NoThing T.ty_NoThing G_NoThing_init (hr.mono (by decide)) (T.b_NoThing_init) rfl T.g_NoThing pe_int)) (pa_cons (pe_mkV rfl (pmk_b T.ob_NoChange T.in_NoChange T.ty_NoChange G_NoChange_init (hr.mono (by decide)) (T.b_NoChange_init) rfl T.g_NoChange pe_int)) (pa_cons (pe_mkV rfl (pmk_b T.ob_BadDay T.in_BadDay T.ty_BadDay G_BadDay_init (hr.mono (by decide)) (T.b_BadDay_init) rfl T.g_BadDay pe_int)) (pa_cons (pe_mkV rfl (pmk_b T.ob_TooLow T.in_TooLow T.ty_TooLow G_TooLow_init (hr.mono (by decide)) (T.b_TooLow_init) rfl T.g_TooLow pe_int)) (pa_cons (pe_mkV rfl (pmk_b T.ob_TooLittle T.in_TooLittle T.ty_TooLittle G_TooLittle_init (hr.mono (by decide)) (T.b_TooLittle_init) rfl T.g_TooLittle pe_int)) pa_nil)))))))))))
    (pss_cons (ps_expr (pe_bm PySem.F.plainAttrs_list PySem.F.slot_list_append PySem.F.type_list_append mt_append (pv 0) (pa_cons (pe_mkV rfl (pmk_b T.ob_BadDeed T.in_BadDeed T.ty_BadDeed G_BadDeed_init (hr.mono (by decide)) (T.b_BadDeed_init) rfl T.g_BadDeed pe_int)) pa_nil)))
    (pss_cons (ps_set (i := 1) sc__law_classes_right.nd rfl (Or.inl rfl) (pe_lst (pa_cons pe_str (pa_cons pe_int (pa_cons pe_int (pa_cons pe_int (pa_cons pe_str (pa_cons pe_int (pa_cons pe_int (pa_cons pe_int (pa_cons pe_int (pa_cons pe_int (pa_cons pe_int (pa_cons pe_int (pa_cons pe_int (pa_cons pe_int (pa_cons pe_int (pa_cons pe_int (pa_cons pe_int pa_nil)))))))))))))))))))
    (pss_cons (ps_set (i := 2) sc__law_classes_right.nd rfl (Or.inl rfl) (pe_lst pa_nil))
    (pss_cons (ps_for PassesOwn.never rfl (pi_list (pv 0)) (pg_name (i := 3) sc__law_classes_right.nd rfl (Or.inl rfl)) (pss_cons (ps_set (i := 4) sc__law_classes_right.nd rfl (Or.inl rfl) (pe_lst (pa_cons (pe_callB call_isX (by rfl) T.n_isinstance (by decide +kernel) (pa_cons (pv 3) (pa_cons (pe_bltn (v := .ty "ValueError") (by rfl) T.n_ValueError (by decide +kernel) rfl) pa_nil))) (pa_cons (pe_callB call_isX (by rfl) T.n_isinstance (by decide +kernel) (pa_cons (pv 3) (pa_cons (pe_bltn (v := .ty "KeyError") (by rfl) T.n_KeyError (by decide +kernel) rfl) pa_nil))) (pa_cons (pe_callB call_isX (by rfl) T.n_isinstance (by decide +kernel) (pa_cons (pv 3) (pa_cons (pe_bltn (v := .ty "IndexError") (by rfl) T.n_IndexError (by decide +kernel) rfl) pa_nil))) pa_nil)))))
    (pss_cons (ps_set (i := 4) sc__law_classes_right.nd rfl (Or.inl rfl) (pe_op op_catK (pv 4) (pe_lst (pa_cons (pe_callB call_isX (by rfl) T.n_isinstance (by decide +kernel) (pa_cons (pv 3) (pa_cons (pe_bltn (v := .ty "ArithmeticError") (by rfl) T.n_ArithmeticError (by decide +kernel) rfl) pa_nil))) (pa_cons (pe_callB call_isX (by rfl) T.n_isinstance (by decide +kernel) (pa_cons (pv 3) (pa_cons (pe_bltn (v := .ty "OverflowError") (by rfl) T.n_OverflowError (by decide +kernel) rfl) pa_nil))) (pa_cons (pe_callB call_isX (by rfl) T.n_isinstance (by decide +kernel) (pa_cons (pv 3) (pa_cons (pe_bltn (v := .ty "TypeError") (by rfl) T.n_TypeError (by decide +kernel) rfl) pa_nil))) pa_nil))))))
    (pss_one (ps_expr (pe_bm PySem.F.plainAttrs_list PySem.F.slot_list_append PySem.F.type_list_append mt_append (pv 2) (pa_cons (pe_bm PySem.F.plainAttrs_str PySem.F.slot_str_join PySem.F.type_str_join mt_join pe_str (pa_cons (pe_lc (own := [("_law_kind", 5)]) (g := gName 5) (by rfl) sc__law_classes_right.nd (pi_list (pe_op op_catK (pv 4) (pe_lst (pa_cons (pe_callB call_isX (by rfl) T.n_isinstance (by decide +kernel) (pa_cons (pv 3) (pa_cons (pe_bltn (v := .ty "RuntimeError") (by rfl) T.n_RuntimeError (by decide +kernel) rfl) pa_nil))) pa_nil)))) (blkOk_by (own := [("_law_kind", 5)]) (N := N__law_classes_right) (sc := defScope s__law_classes_right) (by decide +kernel)) (fun _ _ _ _ _ => (pg_name (i := 5) sc__law_classes_right.nd rfl (Or.inl rfl))) (fun _ _ _ _ _ => pts_nil) (fun _ _ _ _ _ => (pe_callTy call_str_int (by rfl) T.n_str (by decide +kernel) (pa_cons (pe_callTy call_int1 (by rfl) T.n_int (by decide +kernel) (pa_cons (pv 5) pa_nil)) pa_nil)))) pa_nil)) pa_nil)))))))
    (pss_cons (ps_set (i := 6) sc__law_classes_right.nd rfl (Or.inl rfl) (pe_op op_catK (pe_op op_catK (pe_op op_catK (pe_op op_catK (pe_op op_rep (pe_lst (pa_cons pe_str pa_nil)) pe_int) (pe_lst (pa_cons pe_str (pa_cons pe_str pa_nil)))) (pe_op op_rep (pe_lst (pa_cons pe_str pa_nil)) pe_int)) (pe_op op_rep (pe_lst (pa_cons pe_str pa_nil)) pe_int)) (pe_lst (pa_cons pe_str (pa_cons pe_str pa_nil)))))
    (pss_one (ps_ret (pe_and (pe_cmpR (op_eqD hr.units) (pv 2) (pe_op op_catK (pe_op op_catK (pv 6) (pe_op op_rep (pe_lst (pa_cons pe_str pa_nil)) pe_int)) (pe_lst (pa_cons pe_str pa_nil))) (nomark _)) (pe_one (pe_cmpR (op_eqD hr.units) (pe_lc (own := [("_law_one", 3)]) (g := gName 3) (by rfl) sc__law_classes_right.nd (pi_list (pv 0)) (blkOk_by (own := [("_law_one", 3)]) (N := N__law_classes_right) (sc := defScope s__law_classes_right) (by decide +kernel)) (fun _ _ _ _ _ => (pg_name (i := 3) sc__law_classes_right.nd rfl (Or.inl rfl))) (fun _ _ _ _ _ => pts_nil) (fun _ _ _ _ _ => (show PE _ _ (tWhat K _) from pe_what (pv 3)))) (pv 1) (nomark _))))))))))))), ?_⟩
  intro J
  exact (rs_seq (rs_own (by decide) (rn_lst (ra_cons (re_mkV T.q_BadTag (re_c fun _ => .str _)) (ra_cons (re_mkV T.q_BadText (re_c fun _ => .int _)) (ra_cons (re_mkV T.q_TooMany (re_c fun _ => .int _)) (ra_cons (re_mkV T.q_TooEarly (re_c fun _ => .int _)) (ra_cons (re_mkV T.q_BadSum (re_c fun _ => .str _)) (ra_cons (re_mkV T.q_BadOrder (re_c fun _ => .int _)) (ra_cons (re_mkV T.q_BadQuery (re_c fun _ => .int _)) (ra_cons (re_mkV T.q_BadColumn (re_c fun _ => .int _)) ra_nil))))))))))
    (rs_seq (rs_freeze (by decide) (rs_own (by decide) (rn_op rrn_cat re_v (RN.re (rn_lst (ra_cons (re_mkV T.q_BadRow (re_c fun _ => .int _)) (ra_cons (re_mkV T.q_NoCoin (re_c fun _ => .int _)) (ra_cons (re_mkV T.q_NoEntry (re_c fun _ => .int _)) (ra_cons (re_mkV T.q_NoThing (re_c fun _ => .int _)) (ra_cons (re_mkV T.q_NoChange (re_c fun _ => .int _)) (ra_cons (re_mkV T.q_BadDay (re_c fun _ => .int _)) (ra_cons (re_mkV T.q_TooLow (re_c fun _ => .int _)) (ra_cons (re_mkV T.q_TooLittle (re_c fun _ => .int _)) ra_nil)))))))))))))
    (rs_seq (rs_append (re_mkV T.q_BadDeed (re_c fun _ => .int _)))
    (rs_seq (rs_asg (RN.re (rn_lst (ra_cons (re_c fun _ => .str _) (ra_cons (re_c fun _ => .int _) (ra_cons (re_c fun _ => .int _) (ra_cons (re_c fun _ => .int _) (ra_cons (re_c fun _ => .str _) (ra_cons (re_c fun _ => .int _) (ra_cons (re_c fun _ => .int _) (ra_cons (re_c fun _ => .int _) (ra_cons (re_c fun _ => .int _) (ra_cons (re_c fun _ => .int _) (ra_cons (re_c fun _ => .int _) (ra_cons (re_c fun _ => .int _) (ra_cons (re_c fun _ => .int _) (ra_cons (re_c fun _ => .int _) (ra_cons (re_c fun _ => .int _) (ra_cons (re_c fun _ => .int _) (ra_cons (re_c fun _ => .int _) ra_nil))))))))))))))))))) rg_name)
    (rs_seq (rs_own (by decide) (rn_lst ra_nil))
    (rs_seq (rs_freeze (by decide) (rs_for (by decide) (ri_list re_v) rg_name (rs_seq (rs_asg (RN.re (rn_lst (ra_cons (re_isX (.ty _) (tab_cons T.q_BadTag ⟨T.xk_BadTag, T.ts_6_BadTag⟩ (tab_cons T.q_BadText ⟨T.xk_BadText, T.ts_6_BadText⟩ (tab_cons T.q_TooMany ⟨T.xk_TooMany, T.ts_6_TooMany⟩ (tab_cons T.q_TooEarly ⟨T.xk_TooEarly, T.ts_6_TooEarly⟩ (tab_cons T.q_BadSum ⟨T.xk_BadSum, T.ts_6_BadSum⟩ (tab_cons T.q_BadOrder ⟨T.xk_BadOrder, T.ts_6_BadOrder⟩ (tab_cons T.q_BadQuery ⟨T.xk_BadQuery, T.ts_6_BadQuery⟩ (tab_cons T.q_BadColumn ⟨T.xk_BadColumn, T.ts_6_BadColumn⟩ (tab_cons T.q_BadDeed ⟨T.xk_BadDeed, T.ts_6_BadDeed⟩ (tab_cons T.q_BadRow ⟨T.xk_BadRow, T.ts_6_BadRow⟩ (tab_cons T.q_NoCoin ⟨T.xk_NoCoin, T.ts_6_NoCoin⟩ (tab_cons T.q_NoEntry ⟨T.xk_NoEntry, T.ts_6_NoEntry⟩ (tab_cons T.q_NoThing ⟨T.xk_NoThing, T.ts_6_NoThing⟩ (tab_cons T.q_NoChange ⟨T.xk_NoChange, T.ts_6_NoChange⟩ (tab_cons T.q_BadDay ⟨T.xk_BadDay, T.ts_6_BadDay⟩ (tab_cons T.q_TooLow ⟨T.xk_TooLow, T.ts_6_TooLow⟩ (tab_cons T.q_TooLittle ⟨T.xk_TooLittle, T.ts_6_TooLittle⟩ tab_nil))))))))))))))))) re_v) (ra_cons (re_isX (.ty _) (tab_cons T.q_BadTag ⟨T.xk_BadTag, T.ts_5_BadTag⟩ (tab_cons T.q_BadText ⟨T.xk_BadText, T.ts_5_BadText⟩ (tab_cons T.q_TooMany ⟨T.xk_TooMany, T.ts_5_TooMany⟩ (tab_cons T.q_TooEarly ⟨T.xk_TooEarly, T.ts_5_TooEarly⟩ (tab_cons T.q_BadSum ⟨T.xk_BadSum, T.ts_5_BadSum⟩ (tab_cons T.q_BadOrder ⟨T.xk_BadOrder, T.ts_5_BadOrder⟩ (tab_cons T.q_BadQuery ⟨T.xk_BadQuery, T.ts_5_BadQuery⟩ (tab_cons T.q_BadColumn ⟨T.xk_BadColumn, T.ts_5_BadColumn⟩ (tab_cons T.q_BadDeed ⟨T.xk_BadDeed, T.ts_5_BadDeed⟩ (tab_cons T.q_BadRow ⟨T.xk_BadRow, T.ts_5_BadRow⟩ (tab_cons T.q_NoCoin ⟨T.xk_NoCoin, T.ts_5_NoCoin⟩ (tab_cons T.q_NoEntry ⟨T.xk_NoEntry, T.ts_5_NoEntry⟩ (tab_cons T.q_NoThing ⟨T.xk_NoThing, T.ts_5_NoThing⟩ (tab_cons T.q_NoChange ⟨T.xk_NoChange, T.ts_5_NoChange⟩ (tab_cons T.q_BadDay ⟨T.xk_BadDay, T.ts_5_BadDay⟩ (tab_cons T.q_TooLow ⟨T.xk_TooLow, T.ts_5_TooLow⟩ (tab_cons T.q_TooLittle ⟨T.xk_TooLittle, T.ts_5_TooLittle⟩ tab_nil))))))))))))))))) re_v) (ra_cons (re_isX (.ty _) (tab_cons T.q_BadTag ⟨T.xk_BadTag, T.ts_4_BadTag⟩ (tab_cons T.q_BadText ⟨T.xk_BadText, T.ts_4_BadText⟩ (tab_cons T.q_TooMany ⟨T.xk_TooMany, T.ts_4_TooMany⟩ (tab_cons T.q_TooEarly ⟨T.xk_TooEarly, T.ts_4_TooEarly⟩ (tab_cons T.q_BadSum ⟨T.xk_BadSum, T.ts_4_BadSum⟩ (tab_cons T.q_BadOrder ⟨T.xk_BadOrder, T.ts_4_BadOrder⟩ (tab_cons T.q_BadQuery ⟨T.xk_BadQuery, T.ts_4_BadQuery⟩ (tab_cons T.q_BadColumn ⟨T.xk_BadColumn, T.ts_4_BadColumn⟩ (tab_cons T.q_BadDeed ⟨T.xk_BadDeed, T.ts_4_BadDeed⟩ (tab_cons T.q_BadRow ⟨T.xk_BadRow, T.ts_4_BadRow⟩ (tab_cons T.q_NoCoin ⟨T.xk_NoCoin, T.ts_4_NoCoin⟩ (tab_cons T.q_NoEntry ⟨T.xk_NoEntry, T.ts_4_NoEntry⟩ (tab_cons T.q_NoThing ⟨T.xk_NoThing, T.ts_4_NoThing⟩ (tab_cons T.q_NoChange ⟨T.xk_NoChange, T.ts_4_NoChange⟩ (tab_cons T.q_BadDay ⟨T.xk_BadDay, T.ts_4_BadDay⟩ (tab_cons T.q_TooLow ⟨T.xk_TooLow, T.ts_4_TooLow⟩ (tab_cons T.q_TooLittle ⟨T.xk_TooLittle, T.ts_4_TooLittle⟩ tab_nil))))))))))))))))) re_v) ra_nil))))) rg_name)
    (rs_seq (rs_asg (re_op rr_cat re_v (RN.re (rn_lst (ra_cons (re_isX (.ty _) (tab_cons T.q_BadTag ⟨T.xk_BadTag, T.ts_3_BadTag⟩ (tab_cons T.q_BadText ⟨T.xk_BadText, T.ts_3_BadText⟩ (tab_cons T.q_TooMany ⟨T.xk_TooMany, T.ts_3_TooMany⟩ (tab_cons T.q_TooEarly ⟨T.xk_TooEarly, T.ts_3_TooEarly⟩ (tab_cons T.q_BadSum ⟨T.xk_BadSum, T.ts_3_BadSum⟩ (tab_cons T.q_BadOrder ⟨T.xk_BadOrder, T.ts_3_BadOrder⟩ (tab_cons T.q_BadQuery ⟨T.xk_BadQuery, T.ts_3_BadQuery⟩ (tab_cons T.q_BadColumn ⟨T.xk_BadColumn, T.ts_3_BadColumn⟩ (tab_cons T.q_BadDeed ⟨T.xk_BadDeed, T.ts_3_BadDeed⟩ (tab_cons T.q_BadRow ⟨T.xk_BadRow, T.ts_3_BadRow⟩ (tab_cons T.q_NoCoin ⟨T.xk_NoCoin, T.ts_3_NoCoin⟩ (tab_cons T.q_NoEntry ⟨T.xk_NoEntry, T.ts_3_NoEntry⟩ (tab_cons T.q_NoThing ⟨T.xk_NoThing, T.ts_3_NoThing⟩ (tab_cons T.q_NoChange ⟨T.xk_NoChange, T.ts_3_NoChange⟩ (tab_cons T.q_BadDay ⟨T.xk_BadDay, T.ts_3_BadDay⟩ (tab_cons T.q_TooLow ⟨T.xk_TooLow, T.ts_3_TooLow⟩ (tab_cons T.q_TooLittle ⟨T.xk_TooLittle, T.ts_3_TooLittle⟩ tab_nil))))))))))))))))) re_v) (ra_cons (re_isX (.ty _) (tab_cons T.q_BadTag ⟨T.xk_BadTag, T.ts_2_BadTag⟩ (tab_cons T.q_BadText ⟨T.xk_BadText, T.ts_2_BadText⟩ (tab_cons T.q_TooMany ⟨T.xk_TooMany, T.ts_2_TooMany⟩ (tab_cons T.q_TooEarly ⟨T.xk_TooEarly, T.ts_2_TooEarly⟩ (tab_cons T.q_BadSum ⟨T.xk_BadSum, T.ts_2_BadSum⟩ (tab_cons T.q_BadOrder ⟨T.xk_BadOrder, T.ts_2_BadOrder⟩ (tab_cons T.q_BadQuery ⟨T.xk_BadQuery, T.ts_2_BadQuery⟩ (tab_cons T.q_BadColumn ⟨T.xk_BadColumn, T.ts_2_BadColumn⟩ (tab_cons T.q_BadDeed ⟨T.xk_BadDeed, T.ts_2_BadDeed⟩ (tab_cons T.q_BadRow ⟨T.xk_BadRow, T.ts_2_BadRow⟩ (tab_cons T.q_NoCoin ⟨T.xk_NoCoin, T.ts_2_NoCoin⟩ (tab_cons T.q_NoEntry ⟨T.xk_NoEntry, T.ts_2_NoEntry⟩ (tab_cons T.q_NoThing ⟨T.xk_NoThing, T.ts_2_NoThing⟩ (tab_cons T.q_NoChange ⟨T.xk_NoChange, T.ts_2_NoChange⟩ (tab_cons T.q_BadDay ⟨T.xk_BadDay, T.ts_2_BadDay⟩ (tab_cons T.q_TooLow ⟨T.xk_TooLow, T.ts_2_TooLow⟩ (tab_cons T.q_TooLittle ⟨T.xk_TooLittle, T.ts_2_TooLittle⟩ tab_nil))))))))))))))))) re_v) (ra_cons (re_isX (.ty _) (tab_cons T.q_BadTag ⟨T.xk_BadTag, T.ts_1_BadTag⟩ (tab_cons T.q_BadText ⟨T.xk_BadText, T.ts_1_BadText⟩ (tab_cons T.q_TooMany ⟨T.xk_TooMany, T.ts_1_TooMany⟩ (tab_cons T.q_TooEarly ⟨T.xk_TooEarly, T.ts_1_TooEarly⟩ (tab_cons T.q_BadSum ⟨T.xk_BadSum, T.ts_1_BadSum⟩ (tab_cons T.q_BadOrder ⟨T.xk_BadOrder, T.ts_1_BadOrder⟩ (tab_cons T.q_BadQuery ⟨T.xk_BadQuery, T.ts_1_BadQuery⟩ (tab_cons T.q_BadColumn ⟨T.xk_BadColumn, T.ts_1_BadColumn⟩ (tab_cons T.q_BadDeed ⟨T.xk_BadDeed, T.ts_1_BadDeed⟩ (tab_cons T.q_BadRow ⟨T.xk_BadRow, T.ts_1_BadRow⟩ (tab_cons T.q_NoCoin ⟨T.xk_NoCoin, T.ts_1_NoCoin⟩ (tab_cons T.q_NoEntry ⟨T.xk_NoEntry, T.ts_1_NoEntry⟩ (tab_cons T.q_NoThing ⟨T.xk_NoThing, T.ts_1_NoThing⟩ (tab_cons T.q_NoChange ⟨T.xk_NoChange, T.ts_1_NoChange⟩ (tab_cons T.q_BadDay ⟨T.xk_BadDay, T.ts_1_BadDay⟩ (tab_cons T.q_TooLow ⟨T.xk_TooLow, T.ts_1_TooLow⟩ (tab_cons T.q_TooLittle ⟨T.xk_TooLittle, T.ts_1_TooLittle⟩ tab_nil))))))))))))))))) re_v) ra_nil)))))) rg_name)
    (rs_append (re_bm rm_join (re_c fun _ => .str _) (ra_cons (RN.re (rn_lc (by decide) (ri_list (re_op rr_cat re_v (RN.re (rn_lst (ra_cons (re_isX (.ty _) (tab_cons T.q_BadTag ⟨T.xk_BadTag, T.ts_0_BadTag⟩ (tab_cons T.q_BadText ⟨T.xk_BadText, T.ts_0_BadText⟩ (tab_cons T.q_TooMany ⟨T.xk_TooMany, T.ts_0_TooMany⟩ (tab_cons T.q_TooEarly ⟨T.xk_TooEarly, T.ts_0_TooEarly⟩ (tab_cons T.q_BadSum ⟨T.xk_BadSum, T.ts_0_BadSum⟩ (tab_cons T.q_BadOrder ⟨T.xk_BadOrder, T.ts_0_BadOrder⟩ (tab_cons T.q_BadQuery ⟨T.xk_BadQuery, T.ts_0_BadQuery⟩ (tab_cons T.q_BadColumn ⟨T.xk_BadColumn, T.ts_0_BadColumn⟩ (tab_cons T.q_BadDeed ⟨T.xk_BadDeed, T.ts_0_BadDeed⟩ (tab_cons T.q_BadRow ⟨T.xk_BadRow, T.ts_0_BadRow⟩ (tab_cons T.q_NoCoin ⟨T.xk_NoCoin, T.ts_0_NoCoin⟩ (tab_cons T.q_NoEntry ⟨T.xk_NoEntry, T.ts_0_NoEntry⟩ (tab_cons T.q_NoThing ⟨T.xk_NoThing, T.ts_0_NoThing⟩ (tab_cons T.q_NoChange ⟨T.xk_NoChange, T.ts_0_NoChange⟩ (tab_cons T.q_BadDay ⟨T.xk_BadDay, T.ts_0_BadDay⟩ (tab_cons T.q_TooLow ⟨T.xk_TooLow, T.ts_0_TooLow⟩ (tab_cons T.q_TooLittle ⟨T.xk_TooLittle, T.ts_0_TooLittle⟩ tab_nil))))))))))))))))) re_v) ra_nil))))) (fun _ le => rg_name) (fun _ le => rt_yes) (fun _ le => (re_cb rb_str_int (ra_cons (re_cb rb_int (ra_cons re_v ra_nil)) ra_nil))))) ra_nil)))))))
    (rs_seq (rs_asg (re_op rr_cat (re_op rr_cat (re_op rr_cat (re_op rr_cat (RN.re (rn_rep (rn_lst (ra_cons (re_c fun _ => .str _) ra_nil)) (re_c fun _ => .int _))) (RN.re (rn_lst (ra_cons (re_c fun _ => .str _) (ra_cons (re_c fun _ => .str _) ra_nil))))) (RN.re (rn_rep (rn_lst (ra_cons (re_c fun _ => .str _) ra_nil)) (re_c fun _ => .int _)))) (RN.re (rn_rep (rn_lst (ra_cons (re_c fun _ => .str _) ra_nil)) (re_c fun _ => .int _)))) (RN.re (rn_lst (ra_cons (re_c fun _ => .str _) (ra_cons (re_c fun _ => .str _) ra_nil))))) rg_name)
    (rs_freeze (by decide) (rs_ret (re_and (re_eqO (re_op rr_cat (re_op rr_cat re_v (RN.re (rn_rep (rn_lst (ra_cons (re_c fun _ => .str _) ra_nil)) (re_c fun _ => .int _)))) (RN.re (rn_lst (ra_cons (re_c fun _ => .str _) ra_nil))))) (re_op rr_eqD (RN.re (rn_lc (by decide) (ri_list re_v) (fun _ le => rg_name) (fun _ le => rt_yes) (fun _ le => (re_what (cls_cons T.q_BadTag T.xk_BadTag (cls_cons T.q_BadText T.xk_BadText (cls_cons T.q_TooMany T.xk_TooMany (cls_cons T.q_TooEarly T.xk_TooEarly (cls_cons T.q_BadSum T.xk_BadSum (cls_cons T.q_BadOrder T.xk_BadOrder (cls_cons T.q_BadQuery T.xk_BadQuery (cls_cons T.q_BadColumn T.xk_BadColumn (cls_cons T.q_BadDeed T.xk_BadDeed (cls_cons T.q_BadRow T.xk_BadRow (cls_cons T.q_NoCoin T.xk_NoCoin (cls_cons T.q_NoEntry T.xk_NoEntry (cls_cons T.q_NoThing T.xk_NoThing (cls_cons T.q_NoChange T.xk_NoChange (cls_cons T.q_BadDay T.xk_BadDay (cls_cons T.q_TooLow T.xk_TooLow (cls_cons T.q_TooLittle T.xk_TooLittle cls_nil))))))))))))))))) re_v)))) re_v)))))))))))
theorem okD__law_names {P : Program} {w : World} {K : PySem.W.Frag} {mg : Str → Option Value} {base : Heap} {ad : Ad} (T : Txt K mg ad) : FnOk P w K mg base CX0 2 ad.f__law_names ad.d__law_names ["_law_box_here", "_law_many"] (spF K 2 F__law_names) := by
  have G__law_take := okD__law_take (P := P) (w := w) (base := base) T
  refine okF0 T.F__law_names sc__law_names fun cdv A outer s H E hr => ⟨_, (pss_cons (ps_asg (pe_tup (pa_cons pe_str (pa_cons (pe_lst pa_nil) pa_nil))) (pg_tup (by rfl) (pgs_cons (pg_name (i := 2) sc__law_names.nd rfl (Or.inr rfl)) (pgs_cons (pg_name (i := 3) sc__law_names.nd rfl (Or.inl rfl)) pgs_nil))))
    (pss_cons (ps_par (i := 4) (j := 5) (by rfl) sc__law_names.nd rfl rfl (by decide) rfl rfl (pa_cons (pe_call G__law_take (hr.mono (by decide)) rfl T.g__law_take T.F__law_take.kp T.b__law_take .nil pass0 (pa_cons (pv 0) (pa_cons pe_int pa_nil))) (pa_cons (pe_ix ix_list (pe_lst (pa_cons pe_int (pa_cons pe_int (pa_cons pe_int (pa_cons pe_int (pa_cons pe_int (pa_cons pe_int pa_nil))))))) (pe_call G__law_take (hr.mono (by decide)) rfl T.g__law_take T.F__law_take.kp T.b__law_take .nil pass0 (pa_cons (pv 0) (pa_cons pe_int pa_nil))) (fun _ _ => rfl)) pa_nil)) (by rfl))
    (pss_cons (ps_set (i := 6) sc__law_names.nd rfl (Or.inl rfl) (pe_lst (pa_cons pe_str (pa_cons pe_str (pa_cons pe_str (pa_cons pe_str (pa_cons pe_str (pa_cons pe_str (pa_cons pe_str (pa_cons pe_str (pa_cons pe_str (pa_cons pe_str (pa_cons pe_str (pa_cons pe_str pa_nil))))))))))))))
    (pss_cons (ps_for PassesOwn.never rfl (pi_range1 rfl T.n_range (pa_cons (pv 1) pa_nil)) (pg_name (i := 7) sc__law_names.nd rfl (Or.inl rfl)) (pss_cons (ps_set (i := 8) sc__law_names.nd rfl (Or.inl rfl) (pe_op op_mod (pe_op op_add (pv 4) (pe_op op_mul (pv 5) (pv 7))) pe_int))
    (pss_cons (ps_set (i := 9) sc__law_names.nd rfl (Or.inl rfl) (pe_bm PySem.F.plainAttrs_str PySem.F.slot_str_join PySem.F.type_str_join mt_join pe_str (pa_cons (pe_lc (own := [("_law_turn", 10)]) (g := gName 10) (by rfl) sc__law_names.nd (pi_range1 rfl T.n_range (pa_cons (pe_op op_add pe_int (pe_call G__law_take (hr.mono (by decide)) rfl T.g__law_take T.F__law_take.kp T.b__law_take .nil pass0 (pa_cons (pv 0) (pa_cons pe_int pa_nil)))) pa_nil)) (blkOk_by (own := [("_law_turn", 10)]) (N := N__law_names) (sc := defScope s__law_names) (by decide +kernel)) (fun _ _ _ _ _ => (pg_name (i := 10) sc__law_names.nd rfl (Or.inl rfl))) (fun _ _ _ _ _ => pts_nil) (fun _ _ _ _ _ => (pe_ix ix_str (pv 2) (pe_call G__law_take (hr.mono (by decide)) rfl T.g__law_take T.F__law_take.kp T.b__law_take .nil pass0 (pa_cons (pv 0) (pa_cons pe_int pa_nil))) (fun _ _ => rfl)))) pa_nil)))
    (pss_cons (ps_set (i := 11) sc__law_names.nd rfl (Or.inl rfl) (pe_op op_add_str (pe_op op_add_str (pe_ix ix_str (pv 2) (pe_op op_fdiv (pv 8) pe_int) (fun _ _ => rfl)) (pe_ix ix_str (pv 2) (pe_op op_mod (pv 8) pe_int) (fun _ _ => rfl))) (pv 9)))
    (pss_cons (ps_if (PW.pt (pw_and (pt_cmpR op_lt (pv 1) pe_int (nomark _)) (pw_and1 (pt_cmpR op_eq (pe_call G__law_take (hr.mono (by decide)) rfl T.g__law_take T.F__law_take.kp T.b__law_take .nil pass0 (pa_cons (pv 0) (pa_cons pe_int pa_nil))) pe_int (nomark _))))) (pss_one (ps_set (i := 11) sc__law_names.nd rfl (Or.inl rfl) (pe_ix ix_list (pv 6) (pv 7) (fun _ _ => rfl)))) pss_nil)
    (pss_cons (ps_if (pt_cmpR op_in_seq (pv 11) (pv 3) rfl) (pss_one (ps_set (i := 11) sc__law_names.nd rfl (Or.inl rfl) (pe_op op_add_str (pe_op op_add_str (pe_ix ix_str (pv 2) (pe_op op_fdiv (pv 8) pe_int) (fun _ _ => rfl)) (pe_ix ix_str (pv 2) (pe_op op_mod (pv 8) pe_int) (fun _ _ => rfl))) pe_str))) pss_nil)
    (pss_one (ps_expr (pe_bm PySem.F.plainAttrs_list PySem.F.slot_list_append PySem.F.type_list_append mt_append (pv 3) (pa_cons (pv 11) pa_nil))))))))))
    (pss_one (ps_ret (pv 3))))))), ?_⟩
  intro J
  exact (rs_seq (rs_asgO2 (by decide) (re_c fun _ => .str _) (rn_lst ra_nil))
    (rs_seq (rs_par (ra_cons (re_call (fun _ => .nil) (rc_own (rc_dat (re_c fun _ => .int _) rc_nil))) (ra_cons (re_op rr_ixL (RN.re (rn_lst (ra_cons (re_c fun _ => .int _) (ra_cons (re_c fun _ => .int _) (ra_cons (re_c fun _ => .int _) (ra_cons (re_c fun _ => .int _) (ra_cons (re_c fun _ => .int _) (ra_cons (re_c fun _ => .int _) ra_nil)))))))) (re_call (fun _ => .nil) (rc_own (rc_dat (re_c fun _ => .int _) rc_nil)))) ra_nil)))
    (rs_seq (rs_asg (RN.re (rn_lst (ra_cons (re_c fun _ => .str _) (ra_cons (re_c fun _ => .str _) (ra_cons (re_c fun _ => .str _) (ra_cons (re_c fun _ => .str _) (ra_cons (re_c fun _ => .str _) (ra_cons (re_c fun _ => .str _) (ra_cons (re_c fun _ => .str _) (ra_cons (re_c fun _ => .str _) (ra_cons (re_c fun _ => .str _) (ra_cons (re_c fun _ => .str _) (ra_cons (re_c fun _ => .str _) (ra_cons (re_c fun _ => .str _) ra_nil)))))))))))))) rg_name)
    (rs_seq (rs_for (by decide) (ri_rng1 (ra_cons re_v ra_nil)) rg_name (rs_seq (rs_asg (re_op rr_mod (re_op rr_add re_v (re_op rr_mul re_v re_v)) (re_c fun _ => .int _)) rg_name)
    (rs_seq (rs_asg (re_bm rm_join (re_c fun _ => .str _) (ra_cons (RN.re (rn_lc (by decide) (ri_rng1 (ra_cons (re_op rr_add (re_c fun _ => .int _) (re_call (fun _ => .nil) (rc_own (rc_dat (re_c fun _ => .int _) rc_nil)))) ra_nil)) (fun _ le => rg_name) (fun _ le => rt_yes) (fun _ le => (re_op rr_ixS re_v (re_call (fun _ => .nil) (rc_own (rc_dat (re_c fun _ => .int _) rc_nil))))))) ra_nil)) rg_name)
    (rs_seq (rs_asg (re_op rr_add_str (re_op rr_add_str (re_op rr_ixS re_v (re_op rr_fdiv re_v (re_c fun _ => .int _))) (re_op rr_ixS re_v (re_op rr_mod re_v (re_c fun _ => .int _)))) re_v) rg_name)
    (rs_seq (rs_if (rt_and (rt_test (re_op rr_lt re_v (re_c fun _ => .int _))) (rt_test (re_op rr_eq (re_call (fun _ => .nil) (rc_own (rc_dat (re_c fun _ => .int _) rc_nil))) (re_c fun _ => .int _)))) (rs_asg (re_op rr_ixL re_v re_v) rg_name) rs_next)
    (rs_seq (rs_if (rt_test (re_inO re_v)) (rs_asg (re_op rr_add_str (re_op rr_add_str (re_op rr_ixS re_v (re_op rr_fdiv re_v (re_c fun _ => .int _))) (re_op rr_ixS re_v (re_op rr_mod re_v (re_c fun _ => .int _)))) (re_c fun _ => .str _)) rg_name) rs_next)
    (rs_append re_v)))))))
    (rs_freeze (by decide) (rs_ret re_v))))))
theorem okD__law_whole {P : Program} {w : World} {K : PySem.W.Frag} {mg : Str → Option Value} {base : Heap} {ad : Ad} (T : Txt K mg ad) : FnOk P w K mg base CX0 1 ad.f__law_whole ad.d__law_whole ["_law_thing", "_law_lowest", "_law_most"] (spF K 3 F__law_whole) := by
  refine okF0 T.F__law_whole sc__law_whole fun cdv A outer s H E hr => ⟨_, (pss_one (ps_ret (pe_and (pe_callB call_isi (by rfl) T.n_isinstance (by decide +kernel) (pa_cons (pv 0) (pa_cons (pe_bltn (v := .ty "int") (by rfl) T.n_int (by decide +kernel) rfl) pa_nil))) (pe_and (pe_not (pe_callB call_isi (by rfl) T.n_isinstance (by decide +kernel) (pa_cons (pv 0) (pa_cons (pe_bltn (v := .ty "bool") (by rfl) T.n_bool (by decide +kernel) rfl) pa_nil)))) (pe_one (pe_chain op_le op_le (pv 1) (pv 0) (pv 2))))))), ?_⟩
  intro J
  exact (rs_ret (re_and (re_isi re_v) (re_and (re_not (re_isi re_v)) (re_chain rr_le rr_le re_v re_v re_v))))
theorem okD__law_fault {P : Program} {w : World} {K : PySem.W.Frag} {mg : Str → Option Value} {base : Heap} {ad : Ad} (T : Txt K mg ad) : FnOk P w K mg base CX0 2 ad.f__law_fault ad.d__law_fault ["_law_five_here"] (spF K 1 F__law_fault) := by
  have G__law_whole := okD__law_whole (P := P) (w := w) (base := base) T
  refine okF0 T.F__law_fault sc__law_fault fun cdv A outer s H E hr => ⟨_, (pss_cons (ps_set (i := 1) sc__law_fault.nd rfl (Or.inl rfl) (pe_ix ix_tup (pv 0) pe_int (fun _ _ => rfl)))
    (pss_cons (ps_if (PW.pt (pw_or (pt_not (pt_val (pe_callB call_isi (by rfl) T.n_isinstance (by decide +kernel) (pa_cons (pv 1) (pa_cons (pe_bltn (v := .ty "str") (by rfl) T.n_str (by decide +kernel) rfl) pa_nil))))) (pw_or (pt_not (pt_chain op_le op_le pe_int (pe_callB call_len_str (by rfl) T.n_len PySem.boot_len (pa_cons (pv 1) pa_nil)) pe_int)) (pw_or1 (pt_not (pt_val (pe_callB (cr_all rfl) (by rfl) T.n_all (by decide +kernel) (pa_cons (pe_lc (own := [("_law_sign", 2)]) (g := gName 2) (by rfl) sc__law_fault.nd (pi_str (pv 1)) (blkOk_by (own := [("_law_sign", 2)]) (N := N__law_fault) (sc := defScope s__law_fault) (by decide +kernel)) (fun _ _ _ _ _ => (pg_name (i := 2) sc__law_fault.nd rfl (Or.inl rfl))) (fun _ _ _ _ _ => pts_nil) (fun _ _ _ _ _ => (pe_chain op_le_str op_le_str pe_str (pv 2) pe_str))) pa_nil)))))))) (pss_one (ps_ret pe_str)) pss_nil)
    (pss_cons (ps_if (pt_not (pt_val (pe_call G__law_whole (hr.mono (by decide)) rfl T.g__law_whole T.F__law_whole.kp T.b__law_whole .nil pass0 (pa_cons (pe_ix ix_tup (pv 0) pe_int (fun _ _ => rfl)) (pa_cons pe_int (pa_cons pe_int pa_nil)))))) (pss_one (ps_ret pe_str)) pss_nil)
    (pss_cons (ps_if (pt_not (pt_val (pe_call G__law_whole (hr.mono (by decide)) rfl T.g__law_whole T.F__law_whole.kp T.b__law_whole .nil pass0 (pa_cons (pe_ix ix_tup (pv 0) pe_int (fun _ _ => rfl)) (pa_cons pe_int (pa_cons pe_int pa_nil)))))) (pss_one (ps_ret pe_str)) pss_nil)
    (pss_cons (ps_if (pt_not (pt_val (pe_call G__law_whole (hr.mono (by decide)) rfl T.g__law_whole T.F__law_whole.kp T.b__law_whole .nil pass0 (pa_cons (pe_ix ix_tup (pv 0) pe_int (fun _ _ => rfl)) (pa_cons pe_int (pa_cons (pe_ix ix_tup (pv 0) pe_int (fun _ _ => rfl)) pa_nil)))))) (pss_one (ps_ret pe_str)) pss_nil)
    (pss_one (ps_ret (pe_ifExp (pt_val (pe_call G__law_whole (hr.mono (by decide)) rfl T.g__law_whole T.F__law_whole.kp T.b__law_whole .nil pass0 (pa_cons (pe_ix ix_tup (pv 0) pe_int (fun _ _ => rfl)) (pa_cons pe_int (pa_cons pe_int pa_nil))))) pe_str pe_str)))))))), ?_⟩
  intro J
  exact (rs_seq (rs_asg (re_op rr_ixT re_v (re_c fun _ => .int _)) rg_name)
    (rs_seq (rs_if (rt_or (rt_not (rt_b (re_isi re_v))) (rt_or (rt_not (rt_test (re_chain rr_le rr_le (re_c fun _ => .int _) (re_cb rb_len_str (ra_cons re_v ra_nil)) (re_c fun _ => .int _)))) (rt_not (rt_b (re_cb rb_all (ra_cons (RN.re (rn_lc (by decide) (ri_str re_v) (fun _ le => rg_name) (fun _ le => rt_yes) (fun _ le => (re_chain rr_le_str rr_le_str (re_c fun _ => .str _) re_v (re_c fun _ => .str _))))) ra_nil)))))) (rs_ret (re_c fun _ => .str _)) rs_next)
    (rs_seq (rs_if (rt_not (rt_b (re_call (fun _ => .nil) (rc_dat (re_op rr_ixT re_v (re_c fun _ => .int _)) (rc_dat (re_c fun _ => .int _) (rc_dat (re_c fun _ => .int _) rc_nil)))))) (rs_ret (re_c fun _ => .str _)) rs_next)
    (rs_seq (rs_if (rt_not (rt_b (re_call (fun _ => .nil) (rc_dat (re_op rr_ixT re_v (re_c fun _ => .int _)) (rc_dat (re_c fun _ => .int _) (rc_dat (re_c fun _ => .int _) rc_nil)))))) (rs_ret (re_c fun _ => .str _)) rs_next)
    (rs_seq (rs_if (rt_not (rt_b (re_call (fun _ => .nil) (rc_dat (re_op rr_ixT re_v (re_c fun _ => .int _)) (rc_dat (re_c fun _ => .int _) (rc_dat (re_op rr_ixT re_v (re_c fun _ => .int _)) rc_nil)))))) (rs_ret (re_c fun _ => .str _)) rs_next)
    (rs_ret (re_if (rt_b (re_call (fun _ => .nil) (rc_dat (re_op rr_ixT re_v (re_c fun _ => .int _)) (rc_dat (re_c fun _ => .int _) (rc_dat (re_c fun _ => .int _) rc_nil))))) (re_c fun _ => .str _) (re_c fun _ => .str _))))))))
theorem okD__law_odd {P : Program} {w : World} {K : PySem.W.Frag} {mg : Str → Option Value} {base : Heap} {ad : Ad} (T : Txt K mg ad) : FnOk P w K mg base CX0 2 ad.f__law_odd ad.d__law_odd ["_law_box_here", "_law_five_here"] (spF K 2 F__law_odd) := by
  have G__law_take := okD__law_take (P := P) (w := w) (base := base) T
  refine okF0 T.F__law_odd sc__law_odd fun cdv A outer s H E hr => ⟨_, (pss_cons (ps_par3 (i := 2) (j := 3) (l := 4) (by rfl) sc__law_odd.nd rfl rfl rfl (by decide) (by decide) (by decide) rfl rfl rfl (pa_cons (pe_call G__law_take (hr.mono (by decide)) rfl T.g__law_take T.F__law_take.kp T.b__law_take .nil pass0 (pa_cons (pv 0) (pa_cons pe_int pa_nil))) (pa_cons (pe_call G__law_take (hr.mono (by decide)) rfl T.g__law_take T.F__law_take.kp T.b__law_take .nil pass0 (pa_cons (pv 0) (pa_cons pe_int pa_nil))) (pa_cons (pe_ix ix_tup (pv 1) pe_int (fun _ _ => rfl)) pa_nil))) (by rfl))
    (pss_cons (ps_set (i := 5) sc__law_odd.nd rfl (Or.inl rfl) (pe_lst (pa_cons pe_str (pa_cons pe_str (pa_cons pe_str (pa_cons pe_str (pa_cons pe_str (pa_cons pe_str (pa_cons pe_int (pa_cons pe_non (pa_cons pe_bl (pa_cons pe_str (pa_cons pe_str (pa_cons pe_str pa_nil))))))))))))))
    (pss_cons (ps_set (i := 6) sc__law_odd.nd rfl (Or.inl rfl) (pe_lst (pa_cons pe_int (pa_cons pe_int (pa_cons pe_int (pa_cons pe_int (pa_cons (pe_un un_neg pe_int) (pa_cons pe_bl (pa_cons pe_non (pa_cons pe_str (pa_cons pe_str (pa_cons (pe_op op_pow pe_int pe_int) (pa_cons pe_bl (pa_cons pe_int pa_nil))))))))))))))
    (pss_cons (ps_set (i := 7) sc__law_odd.nd rfl (Or.inl rfl) (pe_lst (pa_cons pe_int (pa_cons pe_int (pa_cons pe_int (pa_cons pe_int (pa_cons (pe_un un_neg pe_int) (pa_cons pe_bl (pa_cons pe_non (pa_cons pe_str (pa_cons pe_str (pa_cons (pe_op op_pow pe_int pe_int) (pa_cons pe_bl (pa_cons pe_int pa_nil))))))))))))))
    (pss_cons (ps_set (i := 8) sc__law_odd.nd rfl (Or.inl rfl) (pe_lst (pa_cons (pv 4) (pa_cons pe_int (pa_cons (pe_un un_neg pe_int) (pa_cons pe_non (pa_cons pe_str (pa_cons pe_bl (pa_cons pe_bl (pa_cons (pe_op op_pow pe_int pe_int) (pa_cons pe_str (pa_cons pe_int (pa_cons pe_int (pa_cons pe_int pa_nil))))))))))))))
    (pss_cons (ps_asg (pe_ifExp (pt_val (pe_callB call_isi (by rfl) T.n_isinstance (by decide +kernel) (pa_cons (pv 4) (pa_cons (pe_bltn (v := .ty "int") (by rfl) T.n_int (by decide +kernel) rfl) pa_nil)))) (pe_op DL.op_addN (pv 4) pe_int) pe_int) (pg_sub (pv 8) pe_int set_list))
    (pss_cons (ps_set (i := 9) sc__law_odd.nd rfl (Or.inl rfl) (pe_lst (pa_cons pe_int (pa_cons pe_int (pa_cons pe_int (pa_cons (pe_un un_neg pe_int) (pa_cons pe_non (pa_cons pe_str (pa_cons pe_bl (pa_cons pe_bl (pa_cons (pe_op op_pow pe_int pe_int) (pa_cons pe_str (pa_cons pe_int (pa_cons pe_int pa_nil))))))))))))))
    (pss_cons (ps_set (i := 10) sc__law_odd.nd rfl (Or.inl rfl) (pe_ix ix_list (pe_ix ix_list (pe_lst (pa_cons (pv 5) (pa_cons (pv 6) (pa_cons (pv 7) (pa_cons (pv 8) (pa_cons (pv 9) pa_nil)))))) (pv 2) (fun _ _ => rfl)) (pv 3) (fun _ _ => rfl)))
    (pss_one (ps_ret (pe_op op_catA (pe_op op_catA (pe_slice sl_tupA (pv 1) po_none (po_some (pv 2))) (pe_tup (pa_cons (pv 10) pa_nil))) (pe_slice sl_tupA (pv 1) (po_some (pe_op op_add (pv 2) pe_int)) po_none)))))))))))), ?_⟩
  intro J
  exact (rs_seq (rs_par3 (ra_cons (re_call (fun _ => .nil) (rc_own (rc_dat (re_c fun _ => .int _) rc_nil))) (ra_cons (re_call (fun _ => .nil) (rc_own (rc_dat (re_c fun _ => .int _) rc_nil))) (ra_cons (re_op rr_ixT re_v (re_c fun _ => .int _)) ra_nil))))
    (rs_seq (rs_asg (RN.re (rn_lst (ra_cons (re_c fun _ => .str _) (ra_cons (re_c fun _ => .str _) (ra_cons (re_c fun _ => .str _) (ra_cons (re_c fun _ => .str _) (ra_cons (re_c fun _ => .str _) (ra_cons (re_c fun _ => .str _) (ra_cons (re_c fun _ => .int _) (ra_cons (re_c fun _ => .non) (ra_cons (re_c fun _ => .bl _) (ra_cons (re_c fun _ => .str _) (ra_cons (re_c fun _ => .str _) (ra_cons (re_c fun _ => .str _) ra_nil)))))))))))))) rg_name)
    (rs_seq (rs_asg (RN.re (rn_lst (ra_cons (re_c fun _ => .int _) (ra_cons (re_c fun _ => .int _) (ra_cons (re_c fun _ => .int _) (ra_cons (re_c fun _ => .int _) (ra_cons (re_un ru_neg (re_c fun _ => .int _)) (ra_cons (re_c fun _ => .bl _) (ra_cons (re_c fun _ => .non) (ra_cons (re_c fun _ => .str _) (ra_cons (re_c fun _ => .str _) (ra_cons (re_op rr_pow (re_c fun _ => .int _) (re_c fun _ => .int _)) (ra_cons (re_c fun _ => .bl _) (ra_cons (re_c fun _ => .int _) ra_nil)))))))))))))) rg_name)
    (rs_seq (rs_asg (RN.re (rn_lst (ra_cons (re_c fun _ => .int _) (ra_cons (re_c fun _ => .int _) (ra_cons (re_c fun _ => .int _) (ra_cons (re_c fun _ => .int _) (ra_cons (re_un ru_neg (re_c fun _ => .int _)) (ra_cons (re_c fun _ => .bl _) (ra_cons (re_c fun _ => .non) (ra_cons (re_c fun _ => .str _) (ra_cons (re_c fun _ => .str _) (ra_cons (re_op rr_pow (re_c fun _ => .int _) (re_c fun _ => .int _)) (ra_cons (re_c fun _ => .bl _) (ra_cons (re_c fun _ => .int _) ra_nil)))))))))))))) rg_name)
    (rs_seq (rs_own (by decide) (rn_lst (ra_cons re_v (ra_cons (re_c fun _ => .int _) (ra_cons (re_un ru_neg (re_c fun _ => .int _)) (ra_cons (re_c fun _ => .non) (ra_cons (re_c fun _ => .str _) (ra_cons (re_c fun _ => .bl _) (ra_cons (re_c fun _ => .bl _) (ra_cons (re_op rr_pow (re_c fun _ => .int _) (re_c fun _ => .int _)) (ra_cons (re_c fun _ => .str _) (ra_cons (re_c fun _ => .int _) (ra_cons (re_c fun _ => .int _) (ra_cons (re_c fun _ => .int _) ra_nil))))))))))))))
    (rs_seq (rs_asg (re_if (rt_b (re_isi re_v)) (re_op rr_num re_v (re_c fun _ => .int _)) (re_c fun _ => .int _)) (rg_subO (re_c fun _ => .int _)))
    (rs_seq (rs_asg (RN.re (rn_lst (ra_cons (re_c fun _ => .int _) (ra_cons (re_c fun _ => .int _) (ra_cons (re_c fun _ => .int _) (ra_cons (re_un ru_neg (re_c fun _ => .int _)) (ra_cons (re_c fun _ => .non) (ra_cons (re_c fun _ => .str _) (ra_cons (re_c fun _ => .bl _) (ra_cons (re_c fun _ => .bl _) (ra_cons (re_op rr_pow (re_c fun _ => .int _) (re_c fun _ => .int _)) (ra_cons (re_c fun _ => .str _) (ra_cons (re_c fun _ => .int _) (ra_cons (re_c fun _ => .int _) ra_nil)))))))))))))) rg_name)
    (rs_seq (rs_freeze (by decide) (rs_asg (re_op rr_ixL (re_op rr_ixL (RN.re (rn_lst (ra_cons re_v (ra_cons re_v (ra_cons re_v (ra_cons re_v (ra_cons re_v ra_nil))))))) re_v) re_v) rg_name))
    (rs_ret (re_op rr_catA (re_op rr_catA (re_sl rl_tupA re_v ro_no (ro_so re_v)) (re_tup (ra_cons re_v ra_nil))) (re_sl rl_tupA re_v (ro_so (re_op rr_add re_v (re_c fun _ => .int _))) ro_no)))))))))))
theorem okD__law_fields {P : Program} {w : World} {K : PySem.W.Frag} {mg : Str → Option Value} {base : Heap} {ad : Ad} (T : Txt K mg ad) : FnOk P w K mg base CX0 1 ad.f__law_fields ad.d__law_fields ["_law_tag"] (spF K 1 F__law_fields) := by
  refine okF0 T.F__law_fields sc__law_fields fun cdv A outer s H E hr => ⟨_, (pss_one (ps_ret (pe_tup (pa_cons (pe_fld (pv 0) rfl) (pa_cons (pe_fld (pv 0) rfl) (pa_cons (pe_fld (pv 0) rfl) (pa_cons (pe_fld (pv 0) rfl) (pa_cons (pe_fld (pv 0) rfl) pa_nil)))))))), ?_⟩
  intro J
  exact (rs_ret (re_tup (ra_cons (re_fld T.q_Tag T.cl_Tag T.na_Tag_owner re_v) (ra_cons (re_fld T.q_Tag T.cl_Tag T.na_Tag_number re_v) (ra_cons (re_fld T.q_Tag T.cl_Tag T.na_Tag_price re_v) (ra_cons (re_fld T.q_Tag T.cl_Tag T.na_Tag_least re_v) (ra_cons (re_fld T.q_Tag T.cl_Tag T.na_Tag_day re_v) ra_nil)))))))
theorem okD__law_told {P : Program} {w : World} {K : PySem.W.Frag} {mg : Str → Option Value} {base : Heap} {ad : Ad} (T : Txt K mg ad) : FnOk P w K mg base CX0 5 ad.f__law_told ad.d__law_told ["_law_five_here", "_law_named"] (spF K 2 F__law_told) := by
  have G__law_fields := okD__law_fields (P := P) (w := w) (base := base) T
  have G_Tag_init := okD_Tag_init (P := P) (w := w) (base := base) T
  obtain ⟨ikb_Tag_init_5_day, kb_Tag_init_5_day⟩ := T.kb_Tag_init_5_day
  obtain ⟨db_Tag_init_6, vb_Tag_init_6, b_Tag_init_6⟩ := T.b_Tag_init_6
  refine okF0 T.F__law_told sc__law_told fun cdv A outer s H E hr => ⟨_, (pss_cons (ps_asg (pe_tup (pa_cons pe_non (pa_cons pe_non pa_nil))) (pg_tup (by rfl) (pgs_cons (pg_name (i := 2) sc__law_told.nd rfl (Or.inl rfl)) (pgs_cons (pg_name (i := 3) sc__law_told.nd rfl (Or.inl rfl)) pgs_nil))))
    (pss_cons (ps_try_keep (i := 4) rfl rfl rfl sc__law_told.nd rfl rfl (.many (names_cons (by exact ⟨rfl, by decide, .inl T.g_BadColumn⟩) (names_cons (by exact ⟨rfl, by decide, .inl T.g_BadOrder⟩) (names_cons (by exact ⟨rfl, by decide, .inl T.g_BadQuery⟩) (names_cons (by exact ⟨rfl, by decide, .inl T.g_BadRow⟩) (names_cons (by exact ⟨rfl, by decide, .inl T.g_BadSum⟩) (names_cons (by exact ⟨rfl, by decide, .inl T.g_BadTag⟩) (names_cons (by exact ⟨rfl, by decide, .inl T.g_BadText⟩) names_nil))))))) (Nat.le_of_ble_eq_true rfl)) takes0 (fun _ _ _ tk1 po1 => (pss_one (ps_if (pt_val (pv 1)) (pss_one (ps_set (i := 2) sc__law_told.nd rfl (Or.inl rfl) (pe_makeNSD T.mk_Tag G_Tag_init (hr.mono (by decide)) rfl T.g_Tag kb_Tag_init_5_day (fun σ => passAt tk1 σ) (pa_cons (pe_ix (r := rIxT K) ix_tup (pv 0) pe_int (fun _ _ => rfl)) (pa_cons (pe_ix (r := rIxT K) ix_tup (pv 0) pe_int (fun _ _ => rfl)) (pa_cons (pe_ix (r := rIxT K) ix_tup (pv 0) pe_int (fun _ _ => rfl)) (pa_cons (pe_ix (r := rIxT K) ix_tup (pv 0) pe_int (fun _ _ => rfl)) pa_nil)))) (pk_cons (pe_ix (r := rIxT K) ix_tup (pv 0) pe_int (fun _ _ => rfl)) pk_nil)))) (pss_one (ps_set (i := 2) sc__law_told.nd rfl (Or.inl rfl) (pe_makeSD T.mk_Tag G_Tag_init (hr.mono (by decide)) rfl T.g_Tag b_Tag_init_6 vb_Tag_init_6 (fun σ => passAt tk1 σ) (pa_cons (pe_ix (r := rIxT K) ix_tup (pv 0) pe_int (fun _ _ => rfl)) (pa_cons (pe_ix (r := rIxT K) ix_tup (pv 0) pe_int (fun _ _ => rfl)) (pa_cons (pe_ix (r := rIxT K) ix_tup (pv 0) pe_int (fun _ _ => rfl)) (pa_cons (pe_ix (r := rIxT K) ix_tup (pv 0) pe_int (fun _ _ => rfl)) (pa_cons (pe_ix (r := rIxT K) ix_tup (pv 0) pe_int (fun _ _ => rfl)) pa_nil))))))))))) (fun _ _ => pss_one (ps_set (i := 3) sc__law_told.nd rfl (Or.inl rfl) (pv 4))))
    (pss_cons (ps_if (pt_cmpR op_isN (pv 3) pe_non (nomark _)) (pss_one (ps_ret (pe_call G__law_fields (hr.mono (by decide)) rfl T.g__law_fields T.F__law_fields.kp T.b__law_fields .nil pass0 (pa_cons (pv 2) pa_nil)))) pss_nil)
    (pss_cons (ps_set (i := 5) sc__law_told.nd rfl (Or.inl rfl) (pe_callB call_isXT (by rfl) T.n_isinstance (by decide +kernel) (pa_cons (pv 3) (pa_cons (pe_tup (pa_cons (pe_glob (v := .ref ad.C_BadSum) rfl T.g_BadSum rfl) (pa_cons (pe_glob (v := .ref ad.C_BadText) rfl T.g_BadText rfl) (pa_cons (pe_glob (v := .ref ad.C_BadOrder) rfl T.g_BadOrder rfl) (pa_cons (pe_glob (v := .ref ad.C_BadQuery) rfl T.g_BadQuery rfl) (pa_cons (pe_glob (v := .ref ad.C_BadColumn) rfl T.g_BadColumn rfl) (pa_cons (pe_glob (v := .ref ad.C_BadRow) rfl T.g_BadRow rfl) pa_nil))))))) pa_nil))))
    (pss_one (ps_ret (pe_ifExp (PW.pt (pw_and (pt_val (pe_callB call_isX (by rfl) T.n_isinstance (by decide +kernel) (pa_cons (pv 3) (pa_cons (pe_glob (v := .ref ad.C_BadTag) rfl T.g_BadTag rfl) pa_nil)))) (pw_and1 (pt_not (pt_val (pv 5)))))) (pe_what (pv 3)) pe_str))))))), ?_⟩
  intro J
  exact (rs_seq (rs_asg (re_tup (ra_cons (re_c fun _ => .non) (ra_cons (re_c fun _ => .non) ra_nil))) (rg_tup (rgs_cons rg_name (rgs_cons rg_name rgs_nil))))
    (rs_seq (rs_tryK (by decide) lkF (tab_cons T.q_BadTag T.ts_9_BadTag (tab_cons T.q_BadText T.ts_9_BadText (tab_cons T.q_TooMany T.ts_9_TooMany (tab_cons T.q_TooEarly T.ts_9_TooEarly (tab_cons T.q_BadSum T.ts_9_BadSum (tab_cons T.q_BadOrder T.ts_9_BadOrder (tab_cons T.q_BadQuery T.ts_9_BadQuery (tab_cons T.q_BadColumn T.ts_9_BadColumn (tab_cons T.q_BadDeed T.ts_9_BadDeed (tab_cons T.q_BadRow T.ts_9_BadRow (tab_cons T.q_NoCoin T.ts_9_NoCoin (tab_cons T.q_NoEntry T.ts_9_NoEntry (tab_cons T.q_NoThing T.ts_9_NoThing (tab_cons T.q_NoChange T.ts_9_NoChange (tab_cons T.q_BadDay T.ts_9_BadDay (tab_cons T.q_TooLow T.ts_9_TooLow (tab_cons T.q_TooLittle T.ts_9_TooLittle tab_nil))))))))))))))))) (fun _ _ _ _ l1 => (rs_if (rt_b re_v) (rs_asg (re_mkNZX l1 T.q_Tag (fun x vs zs ds es H r1 r2 => ⟨_, rfl, (r1.append ((r2.drop 0).take 1))⟩) (ra_cons (re_op rr_ixT re_v (re_c fun _ => .int _)) (ra_cons (re_op rr_ixT re_v (re_c fun _ => .int _)) (ra_cons (re_op rr_ixT re_v (re_c fun _ => .int _)) (ra_cons (re_op rr_ixT re_v (re_c fun _ => .int _)) ra_nil)))) (ra_cons (re_op rr_ixT re_v (re_c fun _ => .int _)) ra_nil)) rg_name) (rs_asg (re_mkZX l1 T.q_Tag (fun _ => .nil) (ra_cons (re_op rr_ixT re_v (re_c fun _ => .int _)) (ra_cons (re_op rr_ixT re_v (re_c fun _ => .int _)) (ra_cons (re_op rr_ixT re_v (re_c fun _ => .int _)) (ra_cons (re_op rr_ixT re_v (re_c fun _ => .int _)) (ra_cons (re_op rr_ixT re_v (re_c fun _ => .int _)) ra_nil)))))) rg_name))))
    (rs_seq (rs_if (rt_test (re_op rr_isN re_v (re_c fun _ => .non))) (rs_ret (re_call (fun _ => .nil) (rc_dat re_v rc_nil))) rs_next)
    (rs_seq (rs_asg (re_isXT (cs := [.ref ad.C_BadSum, .ref ad.C_BadText, .ref ad.C_BadOrder, .ref ad.C_BadQuery, .ref ad.C_BadColumn, .ref ad.C_BadRow]) (.cons (.own _) (.cons (.own _) (.cons (.own _) (.cons (.own _) (.cons (.own _) (.cons (.own _) .nil)))))) (Nat.le_of_ble_eq_true rfl) (tab_cons T.q_BadTag ⟨T.xk_BadTag, T.ts_8_BadTag⟩ (tab_cons T.q_BadText ⟨T.xk_BadText, T.ts_8_BadText⟩ (tab_cons T.q_TooMany ⟨T.xk_TooMany, T.ts_8_TooMany⟩ (tab_cons T.q_TooEarly ⟨T.xk_TooEarly, T.ts_8_TooEarly⟩ (tab_cons T.q_BadSum ⟨T.xk_BadSum, T.ts_8_BadSum⟩ (tab_cons T.q_BadOrder ⟨T.xk_BadOrder, T.ts_8_BadOrder⟩ (tab_cons T.q_BadQuery ⟨T.xk_BadQuery, T.ts_8_BadQuery⟩ (tab_cons T.q_BadColumn ⟨T.xk_BadColumn, T.ts_8_BadColumn⟩ (tab_cons T.q_BadDeed ⟨T.xk_BadDeed, T.ts_8_BadDeed⟩ (tab_cons T.q_BadRow ⟨T.xk_BadRow, T.ts_8_BadRow⟩ (tab_cons T.q_NoCoin ⟨T.xk_NoCoin, T.ts_8_NoCoin⟩ (tab_cons T.q_NoEntry ⟨T.xk_NoEntry, T.ts_8_NoEntry⟩ (tab_cons T.q_NoThing ⟨T.xk_NoThing, T.ts_8_NoThing⟩ (tab_cons T.q_NoChange ⟨T.xk_NoChange, T.ts_8_NoChange⟩ (tab_cons T.q_BadDay ⟨T.xk_BadDay, T.ts_8_BadDay⟩ (tab_cons T.q_TooLow ⟨T.xk_TooLow, T.ts_8_TooLow⟩ (tab_cons T.q_TooLittle ⟨T.xk_TooLittle, T.ts_8_TooLittle⟩ tab_nil))))))))))))))))) re_v) rg_name)
    (rs_ret (re_if (rt_and (rt_b (re_isX (.own _) (tab_cons T.q_BadTag ⟨T.xk_BadTag, T.ts_7_BadTag⟩ (tab_cons T.q_BadText ⟨T.xk_BadText, T.ts_7_BadText⟩ (tab_cons T.q_TooMany ⟨T.xk_TooMany, T.ts_7_TooMany⟩ (tab_cons T.q_TooEarly ⟨T.xk_TooEarly, T.ts_7_TooEarly⟩ (tab_cons T.q_BadSum ⟨T.xk_BadSum, T.ts_7_BadSum⟩ (tab_cons T.q_BadOrder ⟨T.xk_BadOrder, T.ts_7_BadOrder⟩ (tab_cons T.q_BadQuery ⟨T.xk_BadQuery, T.ts_7_BadQuery⟩ (tab_cons T.q_BadColumn ⟨T.xk_BadColumn, T.ts_7_BadColumn⟩ (tab_cons T.q_BadDeed ⟨T.xk_BadDeed, T.ts_7_BadDeed⟩ (tab_cons T.q_BadRow ⟨T.xk_BadRow, T.ts_7_BadRow⟩ (tab_cons T.q_NoCoin ⟨T.xk_NoCoin, T.ts_7_NoCoin⟩ (tab_cons T.q_NoEntry ⟨T.xk_NoEntry, T.ts_7_NoEntry⟩ (tab_cons T.q_NoThing ⟨T.xk_NoThing, T.ts_7_NoThing⟩ (tab_cons T.q_NoChange ⟨T.xk_NoChange, T.ts_7_NoChange⟩ (tab_cons T.q_BadDay ⟨T.xk_BadDay, T.ts_7_BadDay⟩ (tab_cons T.q_TooLow ⟨T.xk_TooLow, T.ts_7_TooLow⟩ (tab_cons T.q_TooLittle ⟨T.xk_TooLittle, T.ts_7_TooLittle⟩ tab_nil))))))))))))))))) re_v)) (rt_not (rt_b re_v))) (re_what (cls_cons T.q_BadTag T.xk_BadTag (cls_cons T.q_BadText T.xk_BadText (cls_cons T.q_TooMany T.xk_TooMany (cls_cons T.q_TooEarly T.xk_TooEarly (cls_cons T.q_BadSum T.xk_BadSum (cls_cons T.q_BadOrder T.xk_BadOrder (cls_cons T.q_BadQuery T.xk_BadQuery (cls_cons T.q_BadColumn T.xk_BadColumn (cls_cons T.q_BadDeed T.xk_BadDeed (cls_cons T.q_BadRow T.xk_BadRow (cls_cons T.q_NoCoin T.xk_NoCoin (cls_cons T.q_NoEntry T.xk_NoEntry (cls_cons T.q_NoThing T.xk_NoThing (cls_cons T.q_NoChange T.xk_NoChange (cls_cons T.q_BadDay T.xk_BadDay (cls_cons T.q_TooLow T.xk_TooLow (cls_cons T.q_TooLittle T.xk_TooLittle cls_nil))))))))))))))))) re_v) (re_c fun _ => .str _)))))))
theorem okD__law_right {P : Program} {w : World} {K : PySem.W.Frag} {mg : Str → Option Value} {base : Heap} {ad : Ad} (T : Txt K mg ad) : FnOk P w K mg base CX0 9 ad.f__law_right ad.d__law_right ["_law_box_here"] (spF K 1 F__law_right) := by
  have G__law_five := okD__law_five (P := P) (w := w) (base := base) T
  have G__law_made := okD__law_made (P := P) (w := w) (base := base) T
  have G_Tag_init := okD_Tag_init (P := P) (w := w) (base := base) T
  have G__law_classes_right := okD__law_classes_right (P := P) (w := w) (base := base) T
  have G__law_names := okD__law_names (P := P) (w := w) (base := base) T
  have G__law_fault := okD__law_fault (P := P) (w := w) (base := base) T
  have G__law_same := okD__law_same (P := P) (w := w) (base := base) T 8
  have G__law_odd := okD__law_odd (P := P) (w := w) (base := base) T
  have G__law_take := okD__law_take (P := P) (w := w) (base := base) T
  have G__law_told := okD__law_told (P := P) (w := w) (base := base) T
  have G__law_fields := okD__law_fields (P := P) (w := w) (base := base) T
  obtain ⟨db_Tag_init_4, vb_Tag_init_4, b_Tag_init_4⟩ := T.b_Tag_init_4
  refine okF0 T.F__law_right sc__law_right fun cdv A outer s H E hr => ⟨_, (pss_cons (ps_set (i := 1) sc__law_right.nd rfl (Or.inl rfl) (pe_op op_catK (pe_call G__law_names (hr.mono (by decide)) rfl T.g__law_names T.F__law_names.kp T.b__law_names .nil pass0 (pa_cons (pv 0) (pa_cons pe_int pa_nil))) (pe_lst (pa_cons pe_str (pa_cons pe_str pa_nil)))))
    (pss_cons (ps_set (i := 2) sc__law_right.nd rfl (Or.inl rfl) (pe_call G__law_five (hr.mono (by decide)) rfl T.g__law_five T.F__law_five.kp T.b__law_five .nil pass0 (pa_cons (pv 0) (pa_cons (pv 1) pa_nil))))
    (pss_cons (ps_set (i := 3) sc__law_right.nd rfl (Or.inl rfl) (pe_call G__law_made (hr.mono (by decide)) rfl T.g__law_made T.F__law_made.kp T.b__law_made .nil pass0 (pa_cons (pv 0) (pa_cons (pv 2) pa_nil))))
    (pss_cons (ps_for PassesOwn.never rfl (pi_range1 rfl T.n_range (pa_cons pe_int pa_nil)) (pg_name (i := 4) sc__law_right.nd rfl (Or.inl rfl)) (pss_cons (ps_set (i := 5) sc__law_right.nd rfl (Or.inl rfl) (pe_call G__law_five (hr.mono (by decide)) rfl T.g__law_five T.F__law_five.kp T.b__law_five .nil pass0 (pa_cons (pv 0) (pa_cons (pv 1) pa_nil))))
    (pss_cons (ps_for PassesOwn.never rfl (pi_range1 rfl T.n_range (pa_cons (pe_ix ix_list (pe_lst (pa_cons pe_int (pa_cons pe_int (pa_cons pe_int (pa_cons pe_int (pa_cons pe_int pa_nil)))))) (pe_call G__law_take (hr.mono (by decide)) rfl T.g__law_take T.F__law_take.kp T.b__law_take .nil pass0 (pa_cons (pv 0) (pa_cons pe_int pa_nil))) (fun _ _ => rfl)) pa_nil)) (pg_name (i := 6) sc__law_right.nd rfl (Or.inl rfl)) (pss_one (ps_set (i := 5) sc__law_right.nd rfl (Or.inl rfl) (pe_call G__law_odd (hr.mono (by decide)) rfl T.g__law_odd T.F__law_odd.kp T.b__law_odd .nil pass0 (pa_cons (pv 0) (pa_cons (pv 5) pa_nil))))))
    (pss_cons (ps_set (i := 7) sc__law_right.nd rfl (Or.inl rfl) (pe_call G__law_fault (hr.mono (by decide)) rfl T.g__law_fault T.F__law_fault.kp T.b__law_fault .nil pass0 (pa_cons (pv 5) pa_nil)))
    (pss_cons (ps_if (pt_not (pt_val (pe_call G__law_same (hr.mono (by decide)) rfl T.g__law_same T.F__law_same.kp T.b__law_same .nil pass0 (pa_cons (pe_call G__law_told (hr.mono (by decide)) rfl T.g__law_told T.F__law_told.kp T.b__law_told .nil pass0 (pa_cons (pv 5) (pa_cons (pe_cmpR op_eq (pe_call G__law_take (hr.mono (by decide)) rfl T.g__law_take T.F__law_take.kp T.b__law_take .nil pass0 (pa_cons (pv 0) (pa_cons pe_int pa_nil))) pe_int (nomark _)) pa_nil))) (pa_cons (pe_ifExp (pt_cmpR op_ne (pv 7) pe_str (nomark _)) (pv 7) (pv 5)) pa_nil))))) (pss_one (ps_ret pe_bl)) pss_nil)
    (pss_one (ps_if (PW.pt (pw_and (pt_cmpR op_eq (pv 7) pe_str (nomark _)) (pw_and1 (pt_not (pt_val (pe_call G__law_same (hr.mono (by decide)) rfl T.g__law_same T.F__law_same.kp T.b__law_same .nil pass0 (pa_cons (pe_call G__law_fields (hr.mono (by decide)) rfl T.g__law_fields T.F__law_fields.kp T.b__law_fields .nil pass0 (pa_cons (pe_call G__law_made (hr.mono (by decide)) rfl T.g__law_made T.F__law_made.kp T.b__law_made .nil pass0 (pa_cons (pv 0) (pa_cons (pv 5) pa_nil))) pa_nil)) (pa_cons (pv 5) pa_nil)))))))) (pss_one (ps_ret pe_bl)) pss_nil)))))))
    (pss_cons (ps_set (i := 8) sc__law_right.nd rfl (Or.inl rfl) (pe_makeSD T.mk_Tag G_Tag_init (hr.mono (by decide)) rfl T.g_Tag b_Tag_init_4 vb_Tag_init_4 (fun σ => passAt takes0 σ) (pa_cons (pe_ix ix_tup (pv 2) pe_int (fun _ _ => rfl)) (pa_cons (pe_ix ix_tup (pv 2) pe_int (fun _ _ => rfl)) (pa_cons (pe_ix ix_tup (pv 2) pe_int (fun _ _ => rfl)) pa_nil)))))
    (pss_cons (ps_if (pt_not (pt_val (pe_call G__law_same (hr.mono (by decide)) rfl T.g__law_same T.F__law_same.kp T.b__law_same .nil pass0 (pa_cons (pe_lst (pa_cons (pe_call G__law_fields (hr.mono (by decide)) rfl T.g__law_fields T.F__law_fields.kp T.b__law_fields .nil pass0 (pa_cons (pv 8) pa_nil)) (pa_cons (pe_call G__law_fields (hr.mono (by decide)) rfl T.g__law_fields T.F__law_fields.kp T.b__law_fields .nil pass0 (pa_cons (pv 3) pa_nil)) pa_nil))) (pa_cons (pe_lst (pa_cons (pe_op op_catA (pe_slice sl_tupA (pv 2) po_none (po_some pe_int)) (pe_tup (pa_cons pe_int (pa_cons pe_int pa_nil)))) (pa_cons (pv 2) pa_nil))) pa_nil))))) (pss_one (ps_ret pe_bl)) pss_nil)
    (pss_one (ps_ret (pe_call0 G__law_classes_right (hr.mono (by decide)) rfl T.g__law_classes_right T.F__law_classes_right.kp T.b__law_classes_right .nil pass0 ))))))))), ?_⟩
  intro J
  exact (rs_seq (rs_asg (re_op rr_cat (re_call (fun _ => .nil) (rc_own (rc_dat (re_c fun _ => .int _) rc_nil))) (RN.re (rn_lst (ra_cons (re_c fun _ => .str _) (ra_cons (re_c fun _ => .str _) ra_nil))))) rg_name)
    (rs_seq (rs_asg (re_call (fun _ => .nil) (rc_own (rc_dat re_v rc_nil))) rg_name)
    (rs_seq (rs_asg (re_call (fun _ => .nil) (rc_own (rc_dat re_v rc_nil))) rg_name)
    (rs_seq (rs_for (by decide) (ri_rng1 (ra_cons (re_c fun _ => .int _) ra_nil)) rg_name (rs_seq (rs_asg (re_call (fun _ => .nil) (rc_own (rc_dat re_v rc_nil))) rg_name)
    (rs_seq (rs_for (by decide) (ri_rng1 (ra_cons (re_op rr_ixL (RN.re (rn_lst (ra_cons (re_c fun _ => .int _) (ra_cons (re_c fun _ => .int _) (ra_cons (re_c fun _ => .int _) (ra_cons (re_c fun _ => .int _) (ra_cons (re_c fun _ => .int _) ra_nil))))))) (re_call (fun _ => .nil) (rc_own (rc_dat (re_c fun _ => .int _) rc_nil)))) ra_nil)) rg_name (rs_asg (re_call (fun _ => .nil) (rc_own (rc_dat re_v rc_nil))) rg_name))
    (rs_seq (rs_asg (re_call (fun _ => .nil) (rc_dat re_v rc_nil)) rg_name)
    (rs_seq (rs_if (rt_not (rt_b (re_call (fun _ => .nil) (rc_dat (re_call (fun _ => .nil) (rc_dat re_v (rc_dat (re_op rr_eq (re_call (fun _ => .nil) (rc_own (rc_dat (re_c fun _ => .int _) rc_nil))) (re_c fun _ => .int _)) rc_nil))) (rc_dat (re_if (rt_test (re_op rr_ne re_v (re_c fun _ => .str _))) re_v re_v) rc_nil))))) (rs_ret (re_c fun _ => .bl _)) rs_next)
    (rs_if (rt_and (rt_test (re_op rr_eq re_v (re_c fun _ => .str _))) (rt_not (rt_b (re_call (fun _ => .nil) (rc_dat (re_call (fun _ => .nil) (rc_dat (re_call (fun _ => .nil) (rc_own (rc_dat re_v rc_nil))) rc_nil)) (rc_dat re_v rc_nil)))))) (rs_ret (re_c fun _ => .bl _)) rs_next))))))
    (rs_seq (rs_asg (re_mkZX lkF T.q_Tag (fun _ => (.cons (.int _) (.cons (.int _) .nil))) (ra_cons (re_op rr_ixT re_v (re_c fun _ => .int _)) (ra_cons (re_op rr_ixT re_v (re_c fun _ => .int _)) (ra_cons (re_op rr_ixT re_v (re_c fun _ => .int _)) ra_nil)))) rg_name)
    (rs_seq (rs_if (rt_not (rt_b (re_call (fun _ => .nil) (rc_dat (RN.re (rn_lst (ra_cons (re_call (fun _ => .nil) (rc_dat re_v rc_nil)) (ra_cons (re_call (fun _ => .nil) (rc_dat re_v rc_nil)) ra_nil)))) (rc_dat (RN.re (rn_lst (ra_cons (re_op rr_catA (re_sl rl_tupA re_v ro_no (ro_so (re_c fun _ => .int _))) (re_tup (ra_cons (re_c fun _ => .int _) (ra_cons (re_c fun _ => .int _) ra_nil)))) (ra_cons re_v ra_nil)))) rc_nil))))) (rs_ret (re_c fun _ => .bl _)) rs_next)
    (rs_ret (re_call (fun _ => .nil) rc_nil))))))))
theorem okD__law_box {P : Program} {w : World} {K : PySem.W.Frag} {mg : Str → Option Value} {base : Heap} {ad : Ad} (T : Txt K mg ad) : FnOk P w K mg base CX0 1 ad.f__law_box ad.d__law_box ["_law_script", "_law_k"] (spN K 2 F__law_box) := by
  refine okN0 T.F__law_box sc__law_box fun cdv A outer s H E hr => ⟨_, (pss_cons (ps_set (i := 2) sc__law_box.nd rfl (Or.inl rfl) (pe_ifExp (pt_cmpR op_lt (pv 1) (pe_callB call_len_seq (by rfl) T.n_len PySem.boot_len (pa_cons (pv 0) pa_nil)) (nomark _)) (pe_ix ix_list (pv 0) (pv 1) (fun _ _ => rfl)) pe_int))
    (pss_one (ps_ret (pe_lst (pa_cons (pe_op op_mul (pe_callB call_abs (by rfl) T.n_abs (by decide +kernel) (pa_cons (pv 2) pa_nil)) (pe_callTy call_int1 (by rfl) T.n_int (by decide +kernel) (pa_cons (pe_cmpR op_ge (pe_callB call_abs (by rfl) T.n_abs (by decide +kernel) (pa_cons (pv 2) pa_nil)) (pe_op op_pow pe_int pe_int) (nomark _)) pa_nil))) (pa_cons (pe_op op_mod (pe_op op_mul (pe_op op_add (pe_op op_add (pe_op op_mod (pv 2) pe_int) (pe_op op_mul pe_int (pv 1))) pe_int) pe_int) pe_int) (pa_cons pe_int pa_nil))))))), ?_⟩
  intro J
  exact (rs_seq (rs_asg (re_if (rt_test (re_op rr_lt re_v (re_cb rb_len (ra_cons re_v ra_nil)))) (re_op rr_ixL re_v re_v) (re_c fun _ => .int _)) rg_name)
    (rs_retW (rn_lst (ra_cons (re_op rr_mul (re_cb rb_abs (ra_cons re_v ra_nil)) (re_cb rb_int (ra_cons (re_op rr_ge (re_cb rb_abs (ra_cons re_v ra_nil)) (re_op rr_pow (re_c fun _ => .int _) (re_c fun _ => .int _))) ra_nil))) (ra_cons (re_op rr_mod (re_op rr_mul (re_op rr_add (re_op rr_add (re_op rr_mod re_v (re_c fun _ => .int _)) (re_op rr_mul (re_c fun _ => .int _) re_v)) (re_c fun _ => .int _)) (re_c fun _ => .int _)) (re_c fun _ => .int _)) (ra_cons (re_c fun _ => .int _) ra_nil))))))
theorem okD_law {P : Program} {w : World} {K : PySem.W.Frag} {mg : Str → Option Value} {base : Heap} {ad : Ad} (T : Txt K mg ad) : FnOk P w K mg base CX0 10 ad.f_law ad.d_law ["_law_script"] (spF K 1 F_law) := by
  have G__law_folded := okD__law_folded (P := P) (w := w) (base := base) T
  have G__law_right := okD__law_right (P := P) (w := w) (base := base) T
  have G__law_box := okD__law_box (P := P) (w := w) (base := base) T
  refine okF0 T.F_law sc_law fun cdv A outer s H E hr => ⟨_, (pss_cons (ps_set (i := 1) sc_law.nd rfl (Or.inr rfl) (pe_call G__law_folded (hr.mono (by decide)) rfl T.g__law_folded T.F__law_folded.kp T.b__law_folded .nil pass0 (pa_cons (pv 0) (pa_cons pe_int pa_nil))))
    (pss_one (ps_ret (pe_callB (cr_all rfl) (by rfl) T.n_all (by decide +kernel) (pa_cons (pe_lc (own := [("_law_k", 2)]) (g := gName 2) (by rfl) sc_law.nd (pi_range1 rfl T.n_range (pa_cons (pe_callB (call_max2 rfl) (by rfl) T.n_max (by decide +kernel) (pa_cons pe_int (pa_cons (pe_callB call_len_seq (by rfl) T.n_len PySem.boot_len (pa_cons (pv 1) pa_nil)) pa_nil))) pa_nil)) (blkOk_by (own := [("_law_k", 2)]) (N := N_law) (sc := defScope s_law) (by decide +kernel)) (fun _ _ _ _ _ => (pg_name (i := 2) sc_law.nd rfl (Or.inl rfl))) (fun _ _ _ _ _ => pts_nil) (fun _ _ _ _ _ => (pe_call G__law_right (hr.mono (by decide)) rfl T.g__law_right T.F__law_right.kp T.b__law_right .nil pass0 (pa_cons (pe_call G__law_box (hr.mono (by decide)) rfl T.g__law_box T.F__law_box.kp T.b__law_box .nil pass0 (pa_cons (pv 1) (pa_cons (pv 2) pa_nil))) pa_nil)))) pa_nil))))), ?_⟩
  intro J
  exact (rs_seq (rs_asg (re_call (fun _ => .nil) (rc_dat re_v (rc_dat (re_c fun _ => .int _) rc_nil))) rg_name)
    (rs_ret (re_cb rb_all (ra_cons (RN.re (rn_lc (by decide) (ri_rng1 (ra_cons (re_cb rb_max2 (ra_cons (re_c fun _ => .int _) (ra_cons (re_cb rb_len (ra_cons re_v ra_nil)) ra_nil))) ra_nil)) (fun _ le => rg_name) (fun _ le => rt_yes) (fun _ le => (re_callT (fun _ => .nil) (rn_call (fun _ => .nil) (rc_dat re_v (rc_dat re_v rc_nil))) rc_nil)))) ra_nil))))
abbrev sp_law (K : PySem.W.Frag) : Sp := spLaw K
theorem ok_law {P : Program} {w : World} {K : PySem.W.Frag} {mg : Str → Option Value} {base : Heap} {ad : Ad} (T : Txt K mg ad) : FnOk P w K mg base CX0 10 ad.f_law ad.d_law ["_law_script"] (sp_law K) :=
  (okD_law T).imp fun _ _ _ _ h => law_of (fun ns hl => f_law hl) h

theorem all_mk {l : PySem.W.OpenLaw} {w : World} {K : PySem.W.Frag} {h : Heap} {mg : Str → Option Value} {fa : Addr} (X : K.In h) (G : h.Ns mainGlobals mg) (hfa : mg "law" = some (.ref fa))
    {C_BadTag : Addr}
    {C_BadText : Addr}
    {C_TooMany : Addr}
    {C_TooEarly : Addr}
    {C_BadSum : Addr}
    {C_BadOrder : Addr}
    {C_BadQuery : Addr}
    {C_BadColumn : Addr}
    {C_BadDeed : Addr}
    {C_BadRow : Addr}
    {C_NoCoin : Addr}
    {C_NoEntry : Addr}
    {C_NoThing : Addr}
    {C_NoChange : Addr}
    {C_BadDay : Addr}
    {C_TooLow : Addr}
    {C_TooLittle : Addr}
    {C_Tag : Addr}
    {f__law_folded : Addr} {od__law_folded an__law_folded : Option Addr} {sl__law_folded : Array (Option Value)} {oc__law_folded kV__law_folded dc__law_folded pm__law_folded cd__law_folded ct__law_folded : Value}
    {f__law_take : Addr} {od__law_take an__law_take : Option Addr} {sl__law_take : Array (Option Value)} {oc__law_take kV__law_take dc__law_take pm__law_take cd__law_take ct__law_take : Value}
    {f__law_price : Addr} {od__law_price an__law_price : Option Addr} {sl__law_price : Array (Option Value)} {oc__law_price kV__law_price dc__law_price pm__law_price cd__law_price ct__law_price : Value}
    {f__law_five : Addr} {od__law_five an__law_five : Option Addr} {sl__law_five : Array (Option Value)} {oc__law_five kV__law_five dc__law_five pm__law_five cd__law_five ct__law_five : Value}
    {f_BadTag_init : Addr} {od_BadTag_init an_BadTag_init : Option Addr} {sl_BadTag_init : Array (Option Value)} {oc_BadTag_init kV_BadTag_init dc_BadTag_init pm_BadTag_init cd_BadTag_init ct_BadTag_init : Value}
    {f_is_name : Addr} {od_is_name an_is_name : Option Addr} {sl_is_name : Array (Option Value)} {oc_is_name kV_is_name dc_is_name pm_is_name cd_is_name ct_is_name : Value}
    {f_is_whole : Addr} {od_is_whole an_is_whole : Option Addr} {sl_is_whole : Array (Option Value)} {oc_is_whole kV_is_whole dc_is_whole pm_is_whole cd_is_whole ct_is_whole : Value}
    {f_Tag_init : Addr} {od_Tag_init an_Tag_init : Option Addr} {sl_Tag_init : Array (Option Value)} {oc_Tag_init kV_Tag_init dc_Tag_init pm_Tag_init cd_Tag_init ct_Tag_init : Value}
    {T_Tag_init : Addr} {oT_Tag_init : Value} {dT_Tag_init : Option Addr} {nT_Tag_init : Nat} {sT_Tag_init : Array (Option Value)} {tk_Tag_init_0 tk_Tag_init_1 : Tok}
    {f__law_made : Addr} {od__law_made an__law_made : Option Addr} {sl__law_made : Array (Option Value)} {oc__law_made kV__law_made dc__law_made pm__law_made cd__law_made ct__law_made : Value}
    {f_BadText_init : Addr} {od_BadText_init an_BadText_init : Option Addr} {sl_BadText_init : Array (Option Value)} {oc_BadText_init kV_BadText_init dc_BadText_init pm_BadText_init cd_BadText_init ct_BadText_init : Value}
    {f_TooMany_init : Addr} {od_TooMany_init an_TooMany_init : Option Addr} {sl_TooMany_init : Array (Option Value)} {oc_TooMany_init kV_TooMany_init dc_TooMany_init pm_TooMany_init cd_TooMany_init ct_TooMany_init : Value}
    {f_TooEarly_init : Addr} {od_TooEarly_init an_TooEarly_init : Option Addr} {sl_TooEarly_init : Array (Option Value)} {oc_TooEarly_init kV_TooEarly_init dc_TooEarly_init pm_TooEarly_init cd_TooEarly_init ct_TooEarly_init : Value}
    {f_BadSum_init : Addr} {od_BadSum_init an_BadSum_init : Option Addr} {sl_BadSum_init : Array (Option Value)} {oc_BadSum_init kV_BadSum_init dc_BadSum_init pm_BadSum_init cd_BadSum_init ct_BadSum_init : Value}
    {f_BadOrder_init : Addr} {od_BadOrder_init an_BadOrder_init : Option Addr} {sl_BadOrder_init : Array (Option Value)} {oc_BadOrder_init kV_BadOrder_init dc_BadOrder_init pm_BadOrder_init cd_BadOrder_init ct_BadOrder_init : Value}
    {f_BadQuery_init : Addr} {od_BadQuery_init an_BadQuery_init : Option Addr} {sl_BadQuery_init : Array (Option Value)} {oc_BadQuery_init kV_BadQuery_init dc_BadQuery_init pm_BadQuery_init cd_BadQuery_init ct_BadQuery_init : Value}
    {f_BadColumn_init : Addr} {od_BadColumn_init an_BadColumn_init : Option Addr} {sl_BadColumn_init : Array (Option Value)} {oc_BadColumn_init kV_BadColumn_init dc_BadColumn_init pm_BadColumn_init cd_BadColumn_init ct_BadColumn_init : Value}
    {f_BadDeed_init : Addr} {od_BadDeed_init an_BadDeed_init : Option Addr} {sl_BadDeed_init : Array (Option Value)} {oc_BadDeed_init kV_BadDeed_init dc_BadDeed_init pm_BadDeed_init cd_BadDeed_init ct_BadDeed_init : Value}
    {f_BadRow_init : Addr} {od_BadRow_init an_BadRow_init : Option Addr} {sl_BadRow_init : Array (Option Value)} {oc_BadRow_init kV_BadRow_init dc_BadRow_init pm_BadRow_init cd_BadRow_init ct_BadRow_init : Value}
    {f_NoCoin_init : Addr} {od_NoCoin_init an_NoCoin_init : Option Addr} {sl_NoCoin_init : Array (Option Value)} {oc_NoCoin_init kV_NoCoin_init dc_NoCoin_init pm_NoCoin_init cd_NoCoin_init ct_NoCoin_init : Value}
    {f_NoEntry_init : Addr} {od_NoEntry_init an_NoEntry_init : Option Addr} {sl_NoEntry_init : Array (Option Value)} {oc_NoEntry_init kV_NoEntry_init dc_NoEntry_init pm_NoEntry_init cd_NoEntry_init ct_NoEntry_init : Value}
    {f_NoThing_init : Addr} {od_NoThing_init an_NoThing_init : Option Addr} {sl_NoThing_init : Array (Option Value)} {oc_NoThing_init kV_NoThing_init dc_NoThing_init pm_NoThing_init cd_NoThing_init ct_NoThing_init : Value}
    {f_NoChange_init : Addr} {od_NoChange_init an_NoChange_init : Option Addr} {sl_NoChange_init : Array (Option Value)} {oc_NoChange_init kV_NoChange_init dc_NoChange_init pm_NoChange_init cd_NoChange_init ct_NoChange_init : Value}
    {f_BadDay_init : Addr} {od_BadDay_init an_BadDay_init : Option Addr} {sl_BadDay_init : Array (Option Value)} {oc_BadDay_init kV_BadDay_init dc_BadDay_init pm_BadDay_init cd_BadDay_init ct_BadDay_init : Value}
    {f_TooLow_init : Addr} {od_TooLow_init an_TooLow_init : Option Addr} {sl_TooLow_init : Array (Option Value)} {oc_TooLow_init kV_TooLow_init dc_TooLow_init pm_TooLow_init cd_TooLow_init ct_TooLow_init : Value}
    {f_TooLittle_init : Addr} {od_TooLittle_init an_TooLittle_init : Option Addr} {sl_TooLittle_init : Array (Option Value)} {oc_TooLittle_init kV_TooLittle_init dc_TooLittle_init pm_TooLittle_init cd_TooLittle_init ct_TooLittle_init : Value}
    {f__law_classes_right : Addr} {od__law_classes_right an__law_classes_right : Option Addr} {sl__law_classes_right : Array (Option Value)} {oc__law_classes_right kV__law_classes_right dc__law_classes_right pm__law_classes_right cd__law_classes_right ct__law_classes_right : Value}
    {f__law_names : Addr} {od__law_names an__law_names : Option Addr} {sl__law_names : Array (Option Value)} {oc__law_names kV__law_names dc__law_names pm__law_names cd__law_names ct__law_names : Value}
    {f__law_whole : Addr} {od__law_whole an__law_whole : Option Addr} {sl__law_whole : Array (Option Value)} {oc__law_whole kV__law_whole dc__law_whole pm__law_whole cd__law_whole ct__law_whole : Value}
    {f__law_fault : Addr} {od__law_fault an__law_fault : Option Addr} {sl__law_fault : Array (Option Value)} {oc__law_fault kV__law_fault dc__law_fault pm__law_fault cd__law_fault ct__law_fault : Value}
    {f__law_same : Addr} {od__law_same an__law_same : Option Addr} {sl__law_same : Array (Option Value)} {oc__law_same kV__law_same dc__law_same pm__law_same cd__law_same ct__law_same : Value}
    {f__law_odd : Addr} {od__law_odd an__law_odd : Option Addr} {sl__law_odd : Array (Option Value)} {oc__law_odd kV__law_odd dc__law_odd pm__law_odd cd__law_odd ct__law_odd : Value}
    {f__law_fields : Addr} {od__law_fields an__law_fields : Option Addr} {sl__law_fields : Array (Option Value)} {oc__law_fields kV__law_fields dc__law_fields pm__law_fields cd__law_fields ct__law_fields : Value}
    {f__law_told : Addr} {od__law_told an__law_told : Option Addr} {sl__law_told : Array (Option Value)} {oc__law_told kV__law_told dc__law_told pm__law_told cd__law_told ct__law_told : Value}
    {f__law_right : Addr} {od__law_right an__law_right : Option Addr} {sl__law_right : Array (Option Value)} {oc__law_right kV__law_right dc__law_right pm__law_right cd__law_right ct__law_right : Value}
    {f__law_box : Addr} {od__law_box an__law_box : Option Addr} {sl__law_box : Array (Option Value)} {oc__law_box kV__law_box dc__law_box pm__law_box cd__law_box ct__law_box : Value}
    {f_law : Addr} {od_law an_law : Option Addr} {sl_law : Array (Option Value)} {oc_law kV_law dc_law pm_law cd_law ct_law : Value}
    {t_SMALL_SIGNS : Tok}
    {t_MOST_SIGNS : Tok}
    {t_MOST_NUMBER : Tok}
    {t_MOST_PRICE : Tok}
    {t_MOST_DAY : Tok}
    {cd_BadTag : ClassData}
    {cd_BadText : ClassData}
    {cd_TooMany : ClassData}
    {cd_TooEarly : ClassData}
    {cd_BadSum : ClassData}
    {cd_BadOrder : ClassData}
    {cd_BadQuery : ClassData}
    {cd_BadColumn : ClassData}
    {cd_BadDeed : ClassData}
    {cd_BadRow : ClassData}
    {cd_NoCoin : ClassData}
    {cd_NoEntry : ClassData}
    {cd_NoThing : ClassData}
    {cd_NoChange : ClassData}
    {cd_BadDay : ClassData}
    {cd_TooLow : ClassData}
    {cd_TooLittle : ClassData}
    (a_BadTag : PySem.W.nsIn K mainGlobals "BadTag" = some (some (.ref C_BadTag)))
    (a_BadText : PySem.W.nsIn K mainGlobals "BadText" = some (some (.ref C_BadText)))
    (a_TooMany : PySem.W.nsIn K mainGlobals "TooMany" = some (some (.ref C_TooMany)))
    (a_TooEarly : PySem.W.nsIn K mainGlobals "TooEarly" = some (some (.ref C_TooEarly)))
    (a_BadSum : PySem.W.nsIn K mainGlobals "BadSum" = some (some (.ref C_BadSum)))
    (a_BadOrder : PySem.W.nsIn K mainGlobals "BadOrder" = some (some (.ref C_BadOrder)))
    (a_BadQuery : PySem.W.nsIn K mainGlobals "BadQuery" = some (some (.ref C_BadQuery)))
    (a_BadColumn : PySem.W.nsIn K mainGlobals "BadColumn" = some (some (.ref C_BadColumn)))
    (a_BadDeed : PySem.W.nsIn K mainGlobals "BadDeed" = some (some (.ref C_BadDeed)))
    (a_BadRow : PySem.W.nsIn K mainGlobals "BadRow" = some (some (.ref C_BadRow)))
    (a_NoCoin : PySem.W.nsIn K mainGlobals "NoCoin" = some (some (.ref C_NoCoin)))
    (a_NoEntry : PySem.W.nsIn K mainGlobals "NoEntry" = some (some (.ref C_NoEntry)))
    (a_NoThing : PySem.W.nsIn K mainGlobals "NoThing" = some (some (.ref C_NoThing)))
    (a_NoChange : PySem.W.nsIn K mainGlobals "NoChange" = some (some (.ref C_NoChange)))
    (a_BadDay : PySem.W.nsIn K mainGlobals "BadDay" = some (some (.ref C_BadDay)))
    (a_TooLow : PySem.W.nsIn K mainGlobals "TooLow" = some (some (.ref C_TooLow)))
    (a_TooLittle : PySem.W.nsIn K mainGlobals "TooLittle" = some (some (.ref C_TooLittle)))
    (a_Tag : PySem.W.nsIn K mainGlobals "Tag" = some (some (.ref C_Tag)))
    (pg_Tag : PySem.W.plainGet K C_Tag Str.empty = true)
    (hd_Tag : PySem.W.hasDictIn K C_Tag = true)
    (po_Tag : PySem.W.plainOver K C_Tag = true)
    (sa_Tag : PySem.W.findIn K (.ref C_Tag) "__setattr__" = some (some (.builtin "object.__setattr__")))
    (mk_Tag : PySem.W.makesIn K C_Tag = true)
    (kc_Tag : PySem.W.keepIn K (.ref C_Tag) = true)
    (na_Tag_owner : PySem.W.findIn K (.ref C_Tag) "owner" = some none)
    (na_Tag_number : PySem.W.findIn K (.ref C_Tag) "number" = some none)
    (na_Tag_price : PySem.W.findIn K (.ref C_Tag) "price" = some none)
    (na_Tag_least : PySem.W.findIn K (.ref C_Tag) "least" = some none)
    (na_Tag_day : PySem.W.findIn K (.ref C_Tag) "day" = some none)
    (a__law_folded : PySem.W.nsIn K mainGlobals "_law_folded" = some (some (.ref f__law_folded)))
    (l__law_folded : K.lookup f__law_folded = some ⟨oc__law_folded, od__law_folded, .func (PySem.W.fnOf "_law_folded" "_law_folded" (defArgs s__law_folded) (defBody s__law_folded) (defScope s__law_folded) .none kV__law_folded dc__law_folded pm__law_folded an__law_folded cd__law_folded ct__law_folded), sl__law_folded⟩)
    (e__law_folded : PySem.W.codeIn K cd__law_folded "_law_folded" = true)
    (k__law_folded : PySem.W.keepIn K (.ref f__law_folded) = true)
    (a__law_take : PySem.W.nsIn K mainGlobals "_law_take" = some (some (.ref f__law_take)))
    (l__law_take : K.lookup f__law_take = some ⟨oc__law_take, od__law_take, .func (PySem.W.fnOf "_law_take" "_law_take" (defArgs s__law_take) (defBody s__law_take) (defScope s__law_take) .none kV__law_take dc__law_take pm__law_take an__law_take cd__law_take ct__law_take), sl__law_take⟩)
    (e__law_take : PySem.W.codeIn K cd__law_take "_law_take" = true)
    (k__law_take : PySem.W.keepIn K (.ref f__law_take) = true)
    (a__law_price : PySem.W.nsIn K mainGlobals "_law_price" = some (some (.ref f__law_price)))
    (l__law_price : K.lookup f__law_price = some ⟨oc__law_price, od__law_price, .func (PySem.W.fnOf "_law_price" "_law_price" (defArgs s__law_price) (defBody s__law_price) (defScope s__law_price) .none kV__law_price dc__law_price pm__law_price an__law_price cd__law_price ct__law_price), sl__law_price⟩)
    (e__law_price : PySem.W.codeIn K cd__law_price "_law_price" = true)
    (k__law_price : PySem.W.keepIn K (.ref f__law_price) = true)
    (a__law_five : PySem.W.nsIn K mainGlobals "_law_five" = some (some (.ref f__law_five)))
    (l__law_five : K.lookup f__law_five = some ⟨oc__law_five, od__law_five, .func (PySem.W.fnOf "_law_five" "_law_five" (defArgs s__law_five) (defBody s__law_five) (defScope s__law_five) .none kV__law_five dc__law_five pm__law_five an__law_five cd__law_five ct__law_five), sl__law_five⟩)
    (e__law_five : PySem.W.codeIn K cd__law_five "_law_five" = true)
    (k__law_five : PySem.W.keepIn K (.ref f__law_five) = true)
    (a_BadTag_init : PySem.W.findIn K (.ref C_BadTag) "__init__" = some (some (.ref f_BadTag_init)))
    (i_BadTag_init : PySem.W.isFn K (.ref f_BadTag_init) = true)
    (l_BadTag_init : K.lookup f_BadTag_init = some ⟨oc_BadTag_init, od_BadTag_init, .func (PySem.W.fnOf "__init__" "BadTag.__init__" (defArgs s_BadTag_init) (defBody s_BadTag_init) (defScope s_BadTag_init) .none kV_BadTag_init dc_BadTag_init pm_BadTag_init an_BadTag_init cd_BadTag_init ct_BadTag_init), sl_BadTag_init⟩)
    (e_BadTag_init : PySem.W.codeIn K cd_BadTag_init "BadTag.__init__" = true)
    (k_BadTag_init : PySem.W.keepIn K (.ref f_BadTag_init) = true)
    (a_is_name : PySem.W.nsIn K mainGlobals "is_name" = some (some (.ref f_is_name)))
    (l_is_name : K.lookup f_is_name = some ⟨oc_is_name, od_is_name, .func (PySem.W.fnOf "is_name" "is_name" (defArgs s_is_name) (defBody s_is_name) (defScope s_is_name) .none kV_is_name dc_is_name pm_is_name an_is_name cd_is_name ct_is_name), sl_is_name⟩)
    (e_is_name : PySem.W.codeIn K cd_is_name "is_name" = true)
    (k_is_name : PySem.W.keepIn K (.ref f_is_name) = true)
    (a_is_whole : PySem.W.nsIn K mainGlobals "is_whole" = some (some (.ref f_is_whole)))
    (l_is_whole : K.lookup f_is_whole = some ⟨oc_is_whole, od_is_whole, .func (PySem.W.fnOf "is_whole" "is_whole" (defArgs s_is_whole) (defBody s_is_whole) (defScope s_is_whole) .none kV_is_whole dc_is_whole pm_is_whole an_is_whole cd_is_whole ct_is_whole), sl_is_whole⟩)
    (e_is_whole : PySem.W.codeIn K cd_is_whole "is_whole" = true)
    (k_is_whole : PySem.W.keepIn K (.ref f_is_whole) = true)
    (a_Tag_init : PySem.W.findIn K (.ref C_Tag) "__init__" = some (some (.ref f_Tag_init)))
    (i_Tag_init : PySem.W.isFn K (.ref f_Tag_init) = true)
    (l_Tag_init : K.lookup f_Tag_init = some ⟨oc_Tag_init, od_Tag_init, .func (PySem.W.fnOf "__init__" "Tag.__init__" (defArgs s_Tag_init) (defBody s_Tag_init) (defScope s_Tag_init) (.ref T_Tag_init) kV_Tag_init dc_Tag_init pm_Tag_init an_Tag_init cd_Tag_init ct_Tag_init), sl_Tag_init⟩)
    (e_Tag_init : PySem.W.codeIn K cd_Tag_init "Tag.__init__" = true)
    (k_Tag_init : PySem.W.keepIn K (.ref f_Tag_init) = true)
    (t_Tag_init : K.lookup T_Tag_init = some ⟨oT_Tag_init, dT_Tag_init, .seq ([Value.int 0 tk_Tag_init_0, Value.int 0 tk_Tag_init_1] : List Value).toArray nT_Tag_init, sT_Tag_init⟩)
    (a__law_made : PySem.W.nsIn K mainGlobals "_law_made" = some (some (.ref f__law_made)))
    (l__law_made : K.lookup f__law_made = some ⟨oc__law_made, od__law_made, .func (PySem.W.fnOf "_law_made" "_law_made" (defArgs s__law_made) (defBody s__law_made) (defScope s__law_made) .none kV__law_made dc__law_made pm__law_made an__law_made cd__law_made ct__law_made), sl__law_made⟩)
    (e__law_made : PySem.W.codeIn K cd__law_made "_law_made" = true)
    (k__law_made : PySem.W.keepIn K (.ref f__law_made) = true)
    (a_BadText_init : PySem.W.findIn K (.ref C_BadText) "__init__" = some (some (.ref f_BadText_init)))
    (i_BadText_init : PySem.W.isFn K (.ref f_BadText_init) = true)
    (l_BadText_init : K.lookup f_BadText_init = some ⟨oc_BadText_init, od_BadText_init, .func (PySem.W.fnOf "__init__" "BadText.__init__" (defArgs s_BadText_init) (defBody s_BadText_init) (defScope s_BadText_init) .none kV_BadText_init dc_BadText_init pm_BadText_init an_BadText_init cd_BadText_init ct_BadText_init), sl_BadText_init⟩)
    (e_BadText_init : PySem.W.codeIn K cd_BadText_init "BadText.__init__" = true)
    (k_BadText_init : PySem.W.keepIn K (.ref f_BadText_init) = true)
    (a_TooMany_init : PySem.W.findIn K (.ref C_TooMany) "__init__" = some (some (.ref f_TooMany_init)))
    (i_TooMany_init : PySem.W.isFn K (.ref f_TooMany_init) = true)
    (l_TooMany_init : K.lookup f_TooMany_init = some ⟨oc_TooMany_init, od_TooMany_init, .func (PySem.W.fnOf "__init__" "TooMany.__init__" (defArgs s_TooMany_init) (defBody s_TooMany_init) (defScope s_TooMany_init) .none kV_TooMany_init dc_TooMany_init pm_TooMany_init an_TooMany_init cd_TooMany_init ct_TooMany_init), sl_TooMany_init⟩)
    (e_TooMany_init : PySem.W.codeIn K cd_TooMany_init "TooMany.__init__" = true)
    (k_TooMany_init : PySem.W.keepIn K (.ref f_TooMany_init) = true)
    (a_TooEarly_init : PySem.W.findIn K (.ref C_TooEarly) "__init__" = some (some (.ref f_TooEarly_init)))
    (i_TooEarly_init : PySem.W.isFn K (.ref f_TooEarly_init) = true)
    (l_TooEarly_init : K.lookup f_TooEarly_init = some ⟨oc_TooEarly_init, od_TooEarly_init, .func (PySem.W.fnOf "__init__" "TooEarly.__init__" (defArgs s_TooEarly_init) (defBody s_TooEarly_init) (defScope s_TooEarly_init) .none kV_TooEarly_init dc_TooEarly_init pm_TooEarly_init an_TooEarly_init cd_TooEarly_init ct_TooEarly_init), sl_TooEarly_init⟩)
    (e_TooEarly_init : PySem.W.codeIn K cd_TooEarly_init "TooEarly.__init__" = true)
    (k_TooEarly_init : PySem.W.keepIn K (.ref f_TooEarly_init) = true)
    (a_BadSum_init : PySem.W.findIn K (.ref C_BadSum) "__init__" = some (some (.ref f_BadSum_init)))
    (i_BadSum_init : PySem.W.isFn K (.ref f_BadSum_init) = true)
    (l_BadSum_init : K.lookup f_BadSum_init = some ⟨oc_BadSum_init, od_BadSum_init, .func (PySem.W.fnOf "__init__" "BadSum.__init__" (defArgs s_BadSum_init) (defBody s_BadSum_init) (defScope s_BadSum_init) .none kV_BadSum_init dc_BadSum_init pm_BadSum_init an_BadSum_init cd_BadSum_init ct_BadSum_init), sl_BadSum_init⟩)
    (e_BadSum_init : PySem.W.codeIn K cd_BadSum_init "BadSum.__init__" = true)
    (k_BadSum_init : PySem.W.keepIn K (.ref f_BadSum_init) = true)
    (a_BadOrder_init : PySem.W.findIn K (.ref C_BadOrder) "__init__" = some (some (.ref f_BadOrder_init)))
    (i_BadOrder_init : PySem.W.isFn K (.ref f_BadOrder_init) = true)
    (l_BadOrder_init : K.lookup f_BadOrder_init = some ⟨oc_BadOrder_init, od_BadOrder_init, .func (PySem.W.fnOf "__init__" "BadOrder.__init__" (defArgs s_BadOrder_init) (defBody s_BadOrder_init) (defScope s_BadOrder_init) .none kV_BadOrder_init dc_BadOrder_init pm_BadOrder_init an_BadOrder_init cd_BadOrder_init ct_BadOrder_init), sl_BadOrder_init⟩)
    (e_BadOrder_init : PySem.W.codeIn K cd_BadOrder_init "BadOrder.__init__" = true)
    (k_BadOrder_init : PySem.W.keepIn K (.ref f_BadOrder_init) = true)
    (a_BadQuery_init : PySem.W.findIn K (.ref C_BadQuery) "__init__" = some (some (.ref f_BadQuery_init)))
    (i_BadQuery_init : PySem.W.isFn K (.ref f_BadQuery_init) = true)
    (l_BadQuery_init : K.lookup f_BadQuery_init = some ⟨oc_BadQuery_init, od_BadQuery_init, .func (PySem.W.fnOf "__init__" "BadQuery.__init__" (defArgs s_BadQuery_init) (defBody s_BadQuery_init) (defScope s_BadQuery_init) .none kV_BadQuery_init dc_BadQuery_init pm_BadQuery_init an_BadQuery_init cd_BadQuery_init ct_BadQuery_init), sl_BadQuery_init⟩)
    (e_BadQuery_init : PySem.W.codeIn K cd_BadQuery_init "BadQuery.__init__" = true)
    (k_BadQuery_init : PySem.W.keepIn K (.ref f_BadQuery_init) = true)
    (a_BadColumn_init : PySem.W.findIn K (.ref C_BadColumn) "__init__" = some (some (.ref f_BadColumn_init)))
    (i_BadColumn_init : PySem.W.isFn K (.ref f_BadColumn_init) = true)
    (l_BadColumn_init : K.lookup f_BadColumn_init = some ⟨oc_BadColumn_init, od_BadColumn_init, .func (PySem.W.fnOf "__init__" "BadColumn.__init__" (defArgs s_BadColumn_init) (defBody s_BadColumn_init) (defScope s_BadColumn_init) .none kV_BadColumn_init dc_BadColumn_init pm_BadColumn_init an_BadColumn_init cd_BadColumn_init ct_BadColumn_init), sl_BadColumn_init⟩)
    (e_BadColumn_init : PySem.W.codeIn K cd_BadColumn_init "BadColumn.__init__" = true)
    (k_BadColumn_init : PySem.W.keepIn K (.ref f_BadColumn_init) = true)
    (a_BadDeed_init : PySem.W.findIn K (.ref C_BadDeed) "__init__" = some (some (.ref f_BadDeed_init)))
    (i_BadDeed_init : PySem.W.isFn K (.ref f_BadDeed_init) = true)
    (l_BadDeed_init : K.lookup f_BadDeed_init = some ⟨oc_BadDeed_init, od_BadDeed_init, .func (PySem.W.fnOf "__init__" "BadDeed.__init__" (defArgs s_BadDeed_init) (defBody s_BadDeed_init) (defScope s_BadDeed_init) .none kV_BadDeed_init dc_BadDeed_init pm_BadDeed_init an_BadDeed_init cd_BadDeed_init ct_BadDeed_init), sl_BadDeed_init⟩)
    (e_BadDeed_init : PySem.W.codeIn K cd_BadDeed_init "BadDeed.__init__" = true)
    (k_BadDeed_init : PySem.W.keepIn K (.ref f_BadDeed_init) = true)
    (a_BadRow_init : PySem.W.findIn K (.ref C_BadRow) "__init__" = some (some (.ref f_BadRow_init)))
    (i_BadRow_init : PySem.W.isFn K (.ref f_BadRow_init) = true)
    (l_BadRow_init : K.lookup f_BadRow_init = some ⟨oc_BadRow_init, od_BadRow_init, .func (PySem.W.fnOf "__init__" "BadRow.__init__" (defArgs s_BadRow_init) (defBody s_BadRow_init) (defScope s_BadRow_init) .none kV_BadRow_init dc_BadRow_init pm_BadRow_init an_BadRow_init cd_BadRow_init ct_BadRow_init), sl_BadRow_init⟩)
    (e_BadRow_init : PySem.W.codeIn K cd_BadRow_init "BadRow.__init__" = true)
    (k_BadRow_init : PySem.W.keepIn K (.ref f_BadRow_init) = true)
    (a_NoCoin_init : PySem.W.findIn K (.ref C_NoCoin) "__init__" = some (some (.ref f_NoCoin_init)))
    (i_NoCoin_init : PySem.W.isFn K (.ref f_NoCoin_init) = true)
    (l_NoCoin_init : K.lookup f_NoCoin_init = some ⟨oc_NoCoin_init, od_NoCoin_init, .func (PySem.W.fnOf "__init__" "NoCoin.__init__" (defArgs s_NoCoin_init) (defBody s_NoCoin_init) (defScope s_NoCoin_init) .none kV_NoCoin_init dc_NoCoin_init pm_NoCoin_init an_NoCoin_init cd_NoCoin_init ct_NoCoin_init), sl_NoCoin_init⟩)
    (e_NoCoin_init : PySem.W.codeIn K cd_NoCoin_init "NoCoin.__init__" = true)
    (k_NoCoin_init : PySem.W.keepIn K (.ref f_NoCoin_init) = true)
    (a_NoEntry_init : PySem.W.findIn K (.ref C_NoEntry) "__init__" = some (some (.ref f_NoEntry_init)))
    (i_NoEntry_init : PySem.W.isFn K (.ref f_NoEntry_init) = true)
    (l_NoEntry_init : K.lookup f_NoEntry_init = some ⟨oc_NoEntry_init, od_NoEntry_init, .func (PySem.W.fnOf "__init__" "NoEntry.__init__" (defArgs s_NoEntry_init) (defBody s_NoEntry_init) (defScope s_NoEntry_init) .none kV_NoEntry_init dc_NoEntry_init pm_NoEntry_init an_NoEntry_init cd_NoEntry_init ct_NoEntry_init), sl_NoEntry_init⟩)
    (e_NoEntry_init : PySem.W.codeIn K cd_NoEntry_init "NoEntry.__init__" = true)
    (k_NoEntry_init : PySem.W.keepIn K (.ref f_NoEntry_init) = true)
    (a_NoThing_init : PySem.W.findIn K (.ref C_NoThing) "__init__" = some (some (.ref f_NoThing_init)))
    (i_NoThing_init : PySem.W.isFn K (.ref f_NoThing_init) = true)
    (l_NoThing_init : K.lookup f_NoThing_init = some ⟨oc_NoThing_init, od_NoThing_init, .func (PySem.W.fnOf "__init__" "NoThing.__init__" (defArgs s_NoThing_init) (defBody s_NoThing_init) (defScope s_NoThing_init) .none kV_NoThing_init dc_NoThing_init pm_NoThing_init an_NoThing_init cd_NoThing_init ct_NoThing_init), sl_NoThing_init⟩)
    (e_NoThing_init : PySem.W.codeIn K cd_NoThing_init "NoThing.__init__" = true)
    (k_NoThing_init : PySem.W.keepIn K (.ref f_NoThing_init) = true)
    (a_NoChange_init : PySem.W.findIn K (.ref C_NoChange) "__init__" = some (some (.ref f_NoChange_init)))
    (i_NoChange_init : PySem.W.isFn K (.ref f_NoChange_init) = true)
    (l_NoChange_init : K.lookup f_NoChange_init = some ⟨oc_NoChange_init, od_NoChange_init, .func (PySem.W.fnOf "__init__" "NoChange.__init__" (defArgs s_NoChange_init) (defBody s_NoChange_init) (defScope s_NoChange_init) .none kV_NoChange_init dc_NoChange_init pm_NoChange_init an_NoChange_init cd_NoChange_init ct_NoChange_init), sl_NoChange_init⟩)
    (e_NoChange_init : PySem.W.codeIn K cd_NoChange_init "NoChange.__init__" = true)
    (k_NoChange_init : PySem.W.keepIn K (.ref f_NoChange_init) = true)
    (a_BadDay_init : PySem.W.findIn K (.ref C_BadDay) "__init__" = some (some (.ref f_BadDay_init)))
    (i_BadDay_init : PySem.W.isFn K (.ref f_BadDay_init) = true)
    (l_BadDay_init : K.lookup f_BadDay_init = some ⟨oc_BadDay_init, od_BadDay_init, .func (PySem.W.fnOf "__init__" "BadDay.__init__" (defArgs s_BadDay_init) (defBody s_BadDay_init) (defScope s_BadDay_init) .none kV_BadDay_init dc_BadDay_init pm_BadDay_init an_BadDay_init cd_BadDay_init ct_BadDay_init), sl_BadDay_init⟩)
    (e_BadDay_init : PySem.W.codeIn K cd_BadDay_init "BadDay.__init__" = true)
    (k_BadDay_init : PySem.W.keepIn K (.ref f_BadDay_init) = true)
    (a_TooLow_init : PySem.W.findIn K (.ref C_TooLow) "__init__" = some (some (.ref f_TooLow_init)))
    (i_TooLow_init : PySem.W.isFn K (.ref f_TooLow_init) = true)
    (l_TooLow_init : K.lookup f_TooLow_init = some ⟨oc_TooLow_init, od_TooLow_init, .func (PySem.W.fnOf "__init__" "TooLow.__init__" (defArgs s_TooLow_init) (defBody s_TooLow_init) (defScope s_TooLow_init) .none kV_TooLow_init dc_TooLow_init pm_TooLow_init an_TooLow_init cd_TooLow_init ct_TooLow_init), sl_TooLow_init⟩)
    (e_TooLow_init : PySem.W.codeIn K cd_TooLow_init "TooLow.__init__" = true)
    (k_TooLow_init : PySem.W.keepIn K (.ref f_TooLow_init) = true)
    (a_TooLittle_init : PySem.W.findIn K (.ref C_TooLittle) "__init__" = some (some (.ref f_TooLittle_init)))
    (i_TooLittle_init : PySem.W.isFn K (.ref f_TooLittle_init) = true)
    (l_TooLittle_init : K.lookup f_TooLittle_init = some ⟨oc_TooLittle_init, od_TooLittle_init, .func (PySem.W.fnOf "__init__" "TooLittle.__init__" (defArgs s_TooLittle_init) (defBody s_TooLittle_init) (defScope s_TooLittle_init) .none kV_TooLittle_init dc_TooLittle_init pm_TooLittle_init an_TooLittle_init cd_TooLittle_init ct_TooLittle_init), sl_TooLittle_init⟩)
    (e_TooLittle_init : PySem.W.codeIn K cd_TooLittle_init "TooLittle.__init__" = true)
    (k_TooLittle_init : PySem.W.keepIn K (.ref f_TooLittle_init) = true)
    (a__law_classes_right : PySem.W.nsIn K mainGlobals "_law_classes_right" = some (some (.ref f__law_classes_right)))
    (l__law_classes_right : K.lookup f__law_classes_right = some ⟨oc__law_classes_right, od__law_classes_right, .func (PySem.W.fnOf "_law_classes_right" "_law_classes_right" (defArgs s__law_classes_right) (defBody s__law_classes_right) (defScope s__law_classes_right) .none kV__law_classes_right dc__law_classes_right pm__law_classes_right an__law_classes_right cd__law_classes_right ct__law_classes_right), sl__law_classes_right⟩)
    (e__law_classes_right : PySem.W.codeIn K cd__law_classes_right "_law_classes_right" = true)
    (k__law_classes_right : PySem.W.keepIn K (.ref f__law_classes_right) = true)
    (a__law_names : PySem.W.nsIn K mainGlobals "_law_names" = some (some (.ref f__law_names)))
    (l__law_names : K.lookup f__law_names = some ⟨oc__law_names, od__law_names, .func (PySem.W.fnOf "_law_names" "_law_names" (defArgs s__law_names) (defBody s__law_names) (defScope s__law_names) .none kV__law_names dc__law_names pm__law_names an__law_names cd__law_names ct__law_names), sl__law_names⟩)
    (e__law_names : PySem.W.codeIn K cd__law_names "_law_names" = true)
    (k__law_names : PySem.W.keepIn K (.ref f__law_names) = true)
    (a__law_whole : PySem.W.nsIn K mainGlobals "_law_whole" = some (some (.ref f__law_whole)))
    (l__law_whole : K.lookup f__law_whole = some ⟨oc__law_whole, od__law_whole, .func (PySem.W.fnOf "_law_whole" "_law_whole" (defArgs s__law_whole) (defBody s__law_whole) (defScope s__law_whole) .none kV__law_whole dc__law_whole pm__law_whole an__law_whole cd__law_whole ct__law_whole), sl__law_whole⟩)
    (e__law_whole : PySem.W.codeIn K cd__law_whole "_law_whole" = true)
    (k__law_whole : PySem.W.keepIn K (.ref f__law_whole) = true)
    (a__law_fault : PySem.W.nsIn K mainGlobals "_law_fault" = some (some (.ref f__law_fault)))
    (l__law_fault : K.lookup f__law_fault = some ⟨oc__law_fault, od__law_fault, .func (PySem.W.fnOf "_law_fault" "_law_fault" (defArgs s__law_fault) (defBody s__law_fault) (defScope s__law_fault) .none kV__law_fault dc__law_fault pm__law_fault an__law_fault cd__law_fault ct__law_fault), sl__law_fault⟩)
    (e__law_fault : PySem.W.codeIn K cd__law_fault "_law_fault" = true)
    (k__law_fault : PySem.W.keepIn K (.ref f__law_fault) = true)
    (a__law_same : PySem.W.nsIn K mainGlobals "_law_same" = some (some (.ref f__law_same)))
    (l__law_same : K.lookup f__law_same = some ⟨oc__law_same, od__law_same, .func (PySem.W.fnOf "_law_same" "_law_same" (defArgs s__law_same) (defBody s__law_same) (defScope s__law_same) .none kV__law_same dc__law_same pm__law_same an__law_same cd__law_same ct__law_same), sl__law_same⟩)
    (e__law_same : PySem.W.codeIn K cd__law_same "_law_same" = true)
    (k__law_same : PySem.W.keepIn K (.ref f__law_same) = true)
    (a__law_odd : PySem.W.nsIn K mainGlobals "_law_odd" = some (some (.ref f__law_odd)))
    (l__law_odd : K.lookup f__law_odd = some ⟨oc__law_odd, od__law_odd, .func (PySem.W.fnOf "_law_odd" "_law_odd" (defArgs s__law_odd) (defBody s__law_odd) (defScope s__law_odd) .none kV__law_odd dc__law_odd pm__law_odd an__law_odd cd__law_odd ct__law_odd), sl__law_odd⟩)
    (e__law_odd : PySem.W.codeIn K cd__law_odd "_law_odd" = true)
    (k__law_odd : PySem.W.keepIn K (.ref f__law_odd) = true)
    (a__law_fields : PySem.W.nsIn K mainGlobals "_law_fields" = some (some (.ref f__law_fields)))
    (l__law_fields : K.lookup f__law_fields = some ⟨oc__law_fields, od__law_fields, .func (PySem.W.fnOf "_law_fields" "_law_fields" (defArgs s__law_fields) (defBody s__law_fields) (defScope s__law_fields) .none kV__law_fields dc__law_fields pm__law_fields an__law_fields cd__law_fields ct__law_fields), sl__law_fields⟩)
    (e__law_fields : PySem.W.codeIn K cd__law_fields "_law_fields" = true)
    (k__law_fields : PySem.W.keepIn K (.ref f__law_fields) = true)
    (a__law_told : PySem.W.nsIn K mainGlobals "_law_told" = some (some (.ref f__law_told)))
    (l__law_told : K.lookup f__law_told = some ⟨oc__law_told, od__law_told, .func (PySem.W.fnOf "_law_told" "_law_told" (defArgs s__law_told) (defBody s__law_told) (defScope s__law_told) .none kV__law_told dc__law_told pm__law_told an__law_told cd__law_told ct__law_told), sl__law_told⟩)
    (e__law_told : PySem.W.codeIn K cd__law_told "_law_told" = true)
    (k__law_told : PySem.W.keepIn K (.ref f__law_told) = true)
    (a__law_right : PySem.W.nsIn K mainGlobals "_law_right" = some (some (.ref f__law_right)))
    (l__law_right : K.lookup f__law_right = some ⟨oc__law_right, od__law_right, .func (PySem.W.fnOf "_law_right" "_law_right" (defArgs s__law_right) (defBody s__law_right) (defScope s__law_right) .none kV__law_right dc__law_right pm__law_right an__law_right cd__law_right ct__law_right), sl__law_right⟩)
    (e__law_right : PySem.W.codeIn K cd__law_right "_law_right" = true)
    (k__law_right : PySem.W.keepIn K (.ref f__law_right) = true)
    (a__law_box : PySem.W.nsIn K mainGlobals "_law_box" = some (some (.ref f__law_box)))
    (l__law_box : K.lookup f__law_box = some ⟨oc__law_box, od__law_box, .func (PySem.W.fnOf "_law_box" "_law_box" (defArgs s__law_box) (defBody s__law_box) (defScope s__law_box) .none kV__law_box dc__law_box pm__law_box an__law_box cd__law_box ct__law_box), sl__law_box⟩)
    (e__law_box : PySem.W.codeIn K cd__law_box "_law_box" = true)
    (k__law_box : PySem.W.keepIn K (.ref f__law_box) = true)
    (a_law : PySem.W.nsIn K mainGlobals "law" = some (some (.ref f_law)))
    (l_law : K.lookup f_law = some ⟨oc_law, od_law, .func (PySem.W.fnOf "law" "law" (defArgs s_law) (defBody s_law) (defScope s_law) .none kV_law dc_law pm_law an_law cd_law ct_law), sl_law⟩)
    (e_law : PySem.W.codeIn K cd_law "law" = true)
    (k_law : PySem.W.keepIn K (.ref f_law) = true)
    (z_list : PySem.W.nsIn K mainGlobals "list" = some none)
    (z_enumerate : PySem.W.nsIn K mainGlobals "enumerate" = some none)
    (z_divmod : PySem.W.nsIn K mainGlobals "divmod" = some none)
    (z_len : PySem.W.nsIn K mainGlobals "len" = some none)
    (z_ValueError : PySem.W.nsIn K mainGlobals "ValueError" = some none)
    (z_all : PySem.W.nsIn K mainGlobals "all" = some none)
    (z_isinstance : PySem.W.nsIn K mainGlobals "isinstance" = some none)
    (z_str : PySem.W.nsIn K mainGlobals "str" = some none)
    (z_int : PySem.W.nsIn K mainGlobals "int" = some none)
    (z_bool : PySem.W.nsIn K mainGlobals "bool" = some none)
    (z_OverflowError : PySem.W.nsIn K mainGlobals "OverflowError" = some none)
    (z_RuntimeError : PySem.W.nsIn K mainGlobals "RuntimeError" = some none)
    (z_TypeError : PySem.W.nsIn K mainGlobals "TypeError" = some none)
    (z_KeyError : PySem.W.nsIn K mainGlobals "KeyError" = some none)
    (z_LookupError : PySem.W.nsIn K mainGlobals "LookupError" = some none)
    (z_IndexError : PySem.W.nsIn K mainGlobals "IndexError" = some none)
    (z_ArithmeticError : PySem.W.nsIn K mainGlobals "ArithmeticError" = some none)
    (z_range : PySem.W.nsIn K mainGlobals "range" = some none)
    (z_tuple : PySem.W.nsIn K mainGlobals "tuple" = some none)
    (z_zip : PySem.W.nsIn K mainGlobals "zip" = some none)
    (z_abs : PySem.W.nsIn K mainGlobals "abs" = some none)
    (z_max : PySem.W.nsIn K mainGlobals "max" = some none)
    (y_SMALL_SIGNS : PySem.W.nsIn K mainGlobals "SMALL_SIGNS" = some (some (.str "abcdefghijklmnopqrstuvwxyz" t_SMALL_SIGNS)))
    (y_MOST_SIGNS : PySem.W.nsIn K mainGlobals "MOST_SIGNS" = some (some (.int 8 t_MOST_SIGNS)))
    (y_MOST_NUMBER : PySem.W.nsIn K mainGlobals "MOST_NUMBER" = some (some (.int 9999 t_MOST_NUMBER)))
    (y_MOST_PRICE : PySem.W.nsIn K mainGlobals "MOST_PRICE" = some (some (.int 99999 t_MOST_PRICE)))
    (y_MOST_DAY : PySem.W.nsIn K mainGlobals "MOST_DAY" = some (some (.int 999 t_MOST_DAY)))
    (ci_BadTag : PySem.W.excInitIn K C_BadTag [.type "ValueError", .type "Exception", .type "BaseException", .type "object"] "ValueError.__new__" = true)
    (co_BadTag : PySem.W.excOver K C_BadTag [.type "ValueError", .type "Exception", .type "BaseException", .type "object"] = true)
    (hd_BadTag : PySem.W.hasDictIn K C_BadTag = true)
    (sa_BadTag : PySem.W.findIn K (.ref C_BadTag) "__setattr__" = some (some (.builtin "object.__setattr__")))
    (xc_BadTag : PySem.W.subIn K (.ref C_BadTag) (.type "BaseException") = some true)
    (tc_BadTag : PySem.W.typeIn K (.ref C_BadTag) = some (.type "type"))
    (kc_BadTag : PySem.W.keepIn K (.ref C_BadTag) = true)
    (nw_BadTag : PySem.W.findIn K (.ref C_BadTag) "what" = some none)
    (cc_BadTag : PySem.W.clsIn K C_BadTag = some cd_BadTag)
    (ga_BadTag : PySem.W.findIn K (.ref C_BadTag) "__getattribute__" = some (some (.builtin "BaseException.__getattribute__")))
    (gt_BadTag : PySem.W.findIn K (.ref C_BadTag) "__getattr__" = some none)
    (ca_BadTag : PySem.W.findIn K (.ref C_BadTag) "__class__" = some (some (.builtin "object.__class__")))
    (mo_BadTag : PySem.W.mroIn K C_BadTag (.type "object") = some true)
    (tf_BadTag : PySem.W.typeIn K (.ref f_BadTag_init) = some (.type "function"))
    (vb_BadTag : PySem.W.findCls K (.type "ValueError") (.type "type") "__init__" = some (.val (.builtin "ValueError.__init__")))
    (ci_BadText : PySem.W.excInitIn K C_BadText [.type "ValueError", .type "Exception", .type "BaseException", .type "object"] "ValueError.__new__" = true)
    (co_BadText : PySem.W.excOver K C_BadText [.type "ValueError", .type "Exception", .type "BaseException", .type "object"] = true)
    (hd_BadText : PySem.W.hasDictIn K C_BadText = true)
    (sa_BadText : PySem.W.findIn K (.ref C_BadText) "__setattr__" = some (some (.builtin "object.__setattr__")))
    (xc_BadText : PySem.W.subIn K (.ref C_BadText) (.type "BaseException") = some true)
    (tc_BadText : PySem.W.typeIn K (.ref C_BadText) = some (.type "type"))
    (kc_BadText : PySem.W.keepIn K (.ref C_BadText) = true)
    (nw_BadText : PySem.W.findIn K (.ref C_BadText) "what" = some none)
    (cc_BadText : PySem.W.clsIn K C_BadText = some cd_BadText)
    (ga_BadText : PySem.W.findIn K (.ref C_BadText) "__getattribute__" = some (some (.builtin "BaseException.__getattribute__")))
    (gt_BadText : PySem.W.findIn K (.ref C_BadText) "__getattr__" = some none)
    (ca_BadText : PySem.W.findIn K (.ref C_BadText) "__class__" = some (some (.builtin "object.__class__")))
    (mo_BadText : PySem.W.mroIn K C_BadText (.type "object") = some true)
    (tf_BadText : PySem.W.typeIn K (.ref f_BadText_init) = some (.type "function"))
    (vb_BadText : PySem.W.findCls K (.type "ValueError") (.type "type") "__init__" = some (.val (.builtin "ValueError.__init__")))
    (ci_TooMany : PySem.W.excInitIn K C_TooMany [.type "OverflowError", .type "ArithmeticError", .type "Exception", .type "BaseException", .type "object"] "OverflowError.__new__" = true)
    (co_TooMany : PySem.W.excOver K C_TooMany [.type "OverflowError", .type "ArithmeticError", .type "Exception", .type "BaseException", .type "object"] = true)
    (hd_TooMany : PySem.W.hasDictIn K C_TooMany = true)
    (sa_TooMany : PySem.W.findIn K (.ref C_TooMany) "__setattr__" = some (some (.builtin "object.__setattr__")))
    (xc_TooMany : PySem.W.subIn K (.ref C_TooMany) (.type "BaseException") = some true)
    (tc_TooMany : PySem.W.typeIn K (.ref C_TooMany) = some (.type "type"))
    (kc_TooMany : PySem.W.keepIn K (.ref C_TooMany) = true)
    (nw_TooMany : PySem.W.findIn K (.ref C_TooMany) "what" = some none)
    (cc_TooMany : PySem.W.clsIn K C_TooMany = some cd_TooMany)
    (ga_TooMany : PySem.W.findIn K (.ref C_TooMany) "__getattribute__" = some (some (.builtin "BaseException.__getattribute__")))
    (gt_TooMany : PySem.W.findIn K (.ref C_TooMany) "__getattr__" = some none)
    (ca_TooMany : PySem.W.findIn K (.ref C_TooMany) "__class__" = some (some (.builtin "object.__class__")))
    (mo_TooMany : PySem.W.mroIn K C_TooMany (.type "object") = some true)
    (tf_TooMany : PySem.W.typeIn K (.ref f_TooMany_init) = some (.type "function"))
    (vb_TooMany : PySem.W.findCls K (.type "OverflowError") (.type "type") "__init__" = some (.val (.builtin "OverflowError.__init__")))
    (ci_TooEarly : PySem.W.excInitIn K C_TooEarly [.type "RuntimeError", .type "Exception", .type "BaseException", .type "object"] "RuntimeError.__new__" = true)
    (co_TooEarly : PySem.W.excOver K C_TooEarly [.type "RuntimeError", .type "Exception", .type "BaseException", .type "object"] = true)
    (hd_TooEarly : PySem.W.hasDictIn K C_TooEarly = true)
    (sa_TooEarly : PySem.W.findIn K (.ref C_TooEarly) "__setattr__" = some (some (.builtin "object.__setattr__")))
    (xc_TooEarly : PySem.W.subIn K (.ref C_TooEarly) (.type "BaseException") = some true)
    (tc_TooEarly : PySem.W.typeIn K (.ref C_TooEarly) = some (.type "type"))
    (kc_TooEarly : PySem.W.keepIn K (.ref C_TooEarly) = true)
    (nw_TooEarly : PySem.W.findIn K (.ref C_TooEarly) "what" = some none)
    (cc_TooEarly : PySem.W.clsIn K C_TooEarly = some cd_TooEarly)
    (ga_TooEarly : PySem.W.findIn K (.ref C_TooEarly) "__getattribute__" = some (some (.builtin "BaseException.__getattribute__")))
    (gt_TooEarly : PySem.W.findIn K (.ref C_TooEarly) "__getattr__" = some none)
    (ca_TooEarly : PySem.W.findIn K (.ref C_TooEarly) "__class__" = some (some (.builtin "object.__class__")))
    (mo_TooEarly : PySem.W.mroIn K C_TooEarly (.type "object") = some true)
    (tf_TooEarly : PySem.W.typeIn K (.ref f_TooEarly_init) = some (.type "function"))
    (vb_TooEarly : PySem.W.findCls K (.type "RuntimeError") (.type "type") "__init__" = some (.val (.builtin "RuntimeError.__init__")))
    (ci_BadSum : PySem.W.excInitIn K C_BadSum [.type "ValueError", .type "Exception", .type "BaseException", .type "object"] "ValueError.__new__" = true)
    (co_BadSum : PySem.W.excOver K C_BadSum [.type "ValueError", .type "Exception", .type "BaseException", .type "object"] = true)
    (hd_BadSum : PySem.W.hasDictIn K C_BadSum = true)
    (sa_BadSum : PySem.W.findIn K (.ref C_BadSum) "__setattr__" = some (some (.builtin "object.__setattr__")))
    (xc_BadSum : PySem.W.subIn K (.ref C_BadSum) (.type "BaseException") = some true)
    (tc_BadSum : PySem.W.typeIn K (.ref C_BadSum) = some (.type "type"))
    (kc_BadSum : PySem.W.keepIn K (.ref C_BadSum) = true)
    (nw_BadSum : PySem.W.findIn K (.ref C_BadSum) "what" = some none)
    (cc_BadSum : PySem.W.clsIn K C_BadSum = some cd_BadSum)
    (ga_BadSum : PySem.W.findIn K (.ref C_BadSum) "__getattribute__" = some (some (.builtin "BaseException.__getattribute__")))
    (gt_BadSum : PySem.W.findIn K (.ref C_BadSum) "__getattr__" = some none)
    (ca_BadSum : PySem.W.findIn K (.ref C_BadSum) "__class__" = some (some (.builtin "object.__class__")))
    (mo_BadSum : PySem.W.mroIn K C_BadSum (.type "object") = some true)
    (tf_BadSum : PySem.W.typeIn K (.ref f_BadSum_init) = some (.type "function"))
    (vb_BadSum : PySem.W.findCls K (.type "ValueError") (.type "type") "__init__" = some (.val (.builtin "ValueError.__init__")))
    (ci_BadOrder : PySem.W.excInitIn K C_BadOrder [.type "ValueError", .type "Exception", .type "BaseException", .type "object"] "ValueError.__new__" = true)
    (co_BadOrder : PySem.W.excOver K C_BadOrder [.type "ValueError", .type "Exception", .type "BaseException", .type "object"] = true)
    (hd_BadOrder : PySem.W.hasDictIn K C_BadOrder = true)
    (sa_BadOrder : PySem.W.findIn K (.ref C_BadOrder) "__setattr__" = some (some (.builtin "object.__setattr__")))
    (xc_BadOrder : PySem.W.subIn K (.ref C_BadOrder) (.type "BaseException") = some true)
    (tc_BadOrder : PySem.W.typeIn K (.ref C_BadOrder) = some (.type "type"))
    (kc_BadOrder : PySem.W.keepIn K (.ref C_BadOrder) = true)
    (nw_BadOrder : PySem.W.findIn K (.ref C_BadOrder) "what" = some none)
    (cc_BadOrder : PySem.W.clsIn K C_BadOrder = some cd_BadOrder)
    (ga_BadOrder : PySem.W.findIn K (.ref C_BadOrder) "__getattribute__" = some (some (.builtin "BaseException.__getattribute__")))
    (gt_BadOrder : PySem.W.findIn K (.ref C_BadOrder) "__getattr__" = some none)
    (ca_BadOrder : PySem.W.findIn K (.ref C_BadOrder) "__class__" = some (some (.builtin "object.__class__")))
    (mo_BadOrder : PySem.W.mroIn K C_BadOrder (.type "object") = some true)
    (tf_BadOrder : PySem.W.typeIn K (.ref f_BadOrder_init) = some (.type "function"))
    (vb_BadOrder : PySem.W.findCls K (.type "ValueError") (.type "type") "__init__" = some (.val (.builtin "ValueError.__init__")))
    (ci_BadQuery : PySem.W.excInitIn K C_BadQuery [.type "ValueError", .type "Exception", .type "BaseException", .type "object"] "ValueError.__new__" = true)
    (co_BadQuery : PySem.W.excOver K C_BadQuery [.type "ValueError", .type "Exception", .type "BaseException", .type "object"] = true)
    (hd_BadQuery : PySem.W.hasDictIn K C_BadQuery = true)
    (sa_BadQuery : PySem.W.findIn K (.ref C_BadQuery) "__setattr__" = some (some (.builtin "object.__setattr__")))
    (xc_BadQuery : PySem.W.subIn K (.ref C_BadQuery) (.type "BaseException") = some true)
    (tc_BadQuery : PySem.W.typeIn K (.ref C_BadQuery) = some (.type "type"))
    (kc_BadQuery : PySem.W.keepIn K (.ref C_BadQuery) = true)
    (nw_BadQuery : PySem.W.findIn K (.ref C_BadQuery) "what" = some none)
    (cc_BadQuery : PySem.W.clsIn K C_BadQuery = some cd_BadQuery)
    (ga_BadQuery : PySem.W.findIn K (.ref C_BadQuery) "__getattribute__" = some (some (.builtin "BaseException.__getattribute__")))
    (gt_BadQuery : PySem.W.findIn K (.ref C_BadQuery) "__getattr__" = some none)
    (ca_BadQuery : PySem.W.findIn K (.ref C_BadQuery) "__class__" = some (some (.builtin "object.__class__")))
    (mo_BadQuery : PySem.W.mroIn K C_BadQuery (.type "object") = some true)
    (tf_BadQuery : PySem.W.typeIn K (.ref f_BadQuery_init) = some (.type "function"))
    (vb_BadQuery : PySem.W.findCls K (.type "ValueError") (.type "type") "__init__" = some (.val (.builtin "ValueError.__init__")))
    (ci_BadColumn : PySem.W.excInitIn K C_BadColumn [.type "ValueError", .type "Exception", .type "BaseException", .type "object"] "ValueError.__new__" = true)
    (co_BadColumn : PySem.W.excOver K C_BadColumn [.type "ValueError", .type "Exception", .type "BaseException", .type "object"] = true)
    (hd_BadColumn : PySem.W.hasDictIn K C_BadColumn = true)
    (sa_BadColumn : PySem.W.findIn K (.ref C_BadColumn) "__setattr__" = some (some (.builtin "object.__setattr__")))
    (xc_BadColumn : PySem.W.subIn K (.ref C_BadColumn) (.type "BaseException") = some true)
    (tc_BadColumn : PySem.W.typeIn K (.ref C_BadColumn) = some (.type "type"))
    (kc_BadColumn : PySem.W.keepIn K (.ref C_BadColumn) = true)
    (nw_BadColumn : PySem.W.findIn K (.ref C_BadColumn) "what" = some none)
    (cc_BadColumn : PySem.W.clsIn K C_BadColumn = some cd_BadColumn)
    (ga_BadColumn : PySem.W.findIn K (.ref C_BadColumn) "__getattribute__" = some (some (.builtin "BaseException.__getattribute__")))
    (gt_BadColumn : PySem.W.findIn K (.ref C_BadColumn) "__getattr__" = some none)
    (ca_BadColumn : PySem.W.findIn K (.ref C_BadColumn) "__class__" = some (some (.builtin "object.__class__")))
    (mo_BadColumn : PySem.W.mroIn K C_BadColumn (.type "object") = some true)
    (tf_BadColumn : PySem.W.typeIn K (.ref f_BadColumn_init) = some (.type "function"))
    (vb_BadColumn : PySem.W.findCls K (.type "ValueError") (.type "type") "__init__" = some (.val (.builtin "ValueError.__init__")))
    (ci_BadDeed : PySem.W.excInitIn K C_BadDeed [.type "TypeError", .type "Exception", .type "BaseException", .type "object"] "TypeError.__new__" = true)
    (co_BadDeed : PySem.W.excOver K C_BadDeed [.type "TypeError", .type "Exception", .type "BaseException", .type "object"] = true)
    (hd_BadDeed : PySem.W.hasDictIn K C_BadDeed = true)
    (sa_BadDeed : PySem.W.findIn K (.ref C_BadDeed) "__setattr__" = some (some (.builtin "object.__setattr__")))
    (xc_BadDeed : PySem.W.subIn K (.ref C_BadDeed) (.type "BaseException") = some true)
    (tc_BadDeed : PySem.W.typeIn K (.ref C_BadDeed) = some (.type "type"))
    (kc_BadDeed : PySem.W.keepIn K (.ref C_BadDeed) = true)
    (nw_BadDeed : PySem.W.findIn K (.ref C_BadDeed) "what" = some none)
    (cc_BadDeed : PySem.W.clsIn K C_BadDeed = some cd_BadDeed)
    (ga_BadDeed : PySem.W.findIn K (.ref C_BadDeed) "__getattribute__" = some (some (.builtin "BaseException.__getattribute__")))
    (gt_BadDeed : PySem.W.findIn K (.ref C_BadDeed) "__getattr__" = some none)
    (ca_BadDeed : PySem.W.findIn K (.ref C_BadDeed) "__class__" = some (some (.builtin "object.__class__")))
    (mo_BadDeed : PySem.W.mroIn K C_BadDeed (.type "object") = some true)
    (tf_BadDeed : PySem.W.typeIn K (.ref f_BadDeed_init) = some (.type "function"))
    (vb_BadDeed : PySem.W.findCls K (.type "TypeError") (.type "type") "__init__" = some (.val (.builtin "TypeError.__init__")))
    (ci_BadRow : PySem.W.excInitIn K C_BadRow [.type "ValueError", .type "Exception", .type "BaseException", .type "object"] "ValueError.__new__" = true)
    (co_BadRow : PySem.W.excOver K C_BadRow [.type "ValueError", .type "Exception", .type "BaseException", .type "object"] = true)
    (hd_BadRow : PySem.W.hasDictIn K C_BadRow = true)
    (sa_BadRow : PySem.W.findIn K (.ref C_BadRow) "__setattr__" = some (some (.builtin "object.__setattr__")))
    (xc_BadRow : PySem.W.subIn K (.ref C_BadRow) (.type "BaseException") = some true)
    (tc_BadRow : PySem.W.typeIn K (.ref C_BadRow) = some (.type "type"))
    (kc_BadRow : PySem.W.keepIn K (.ref C_BadRow) = true)
    (nw_BadRow : PySem.W.findIn K (.ref C_BadRow) "what" = some none)
    (cc_BadRow : PySem.W.clsIn K C_BadRow = some cd_BadRow)
    (ga_BadRow : PySem.W.findIn K (.ref C_BadRow) "__getattribute__" = some (some (.builtin "BaseException.__getattribute__")))
    (gt_BadRow : PySem.W.findIn K (.ref C_BadRow) "__getattr__" = some none)
    (ca_BadRow : PySem.W.findIn K (.ref C_BadRow) "__class__" = some (some (.builtin "object.__class__")))
    (mo_BadRow : PySem.W.mroIn K C_BadRow (.type "object") = some true)
    (tf_BadRow : PySem.W.typeIn K (.ref f_BadRow_init) = some (.type "function"))
    (vb_BadRow : PySem.W.findCls K (.type "ValueError") (.type "type") "__init__" = some (.val (.builtin "ValueError.__init__")))
    (ci_NoCoin : PySem.W.excInitIn K C_NoCoin [.type "KeyError", .type "LookupError", .type "Exception", .type "BaseException", .type "object"] "LookupError.__new__" = true)
    (co_NoCoin : PySem.W.excOver K C_NoCoin [.type "KeyError", .type "LookupError", .type "Exception", .type "BaseException", .type "object"] = true)
    (hd_NoCoin : PySem.W.hasDictIn K C_NoCoin = true)
    (sa_NoCoin : PySem.W.findIn K (.ref C_NoCoin) "__setattr__" = some (some (.builtin "object.__setattr__")))
    (xc_NoCoin : PySem.W.subIn K (.ref C_NoCoin) (.type "BaseException") = some true)
    (tc_NoCoin : PySem.W.typeIn K (.ref C_NoCoin) = some (.type "type"))
    (kc_NoCoin : PySem.W.keepIn K (.ref C_NoCoin) = true)
    (nw_NoCoin : PySem.W.findIn K (.ref C_NoCoin) "what" = some none)
    (cc_NoCoin : PySem.W.clsIn K C_NoCoin = some cd_NoCoin)
    (ga_NoCoin : PySem.W.findIn K (.ref C_NoCoin) "__getattribute__" = some (some (.builtin "BaseException.__getattribute__")))
    (gt_NoCoin : PySem.W.findIn K (.ref C_NoCoin) "__getattr__" = some none)
    (ca_NoCoin : PySem.W.findIn K (.ref C_NoCoin) "__class__" = some (some (.builtin "object.__class__")))
    (mo_NoCoin : PySem.W.mroIn K C_NoCoin (.type "object") = some true)
    (tf_NoCoin : PySem.W.typeIn K (.ref f_NoCoin_init) = some (.type "function"))
    (vb_NoCoin : PySem.W.findCls K (.type "KeyError") (.type "type") "__init__" = some (.val (.builtin "KeyError.__init__")))
    (ci_NoEntry : PySem.W.excInitIn K C_NoEntry [.type "KeyError", .type "LookupError", .type "Exception", .type "BaseException", .type "object"] "LookupError.__new__" = true)
    (co_NoEntry : PySem.W.excOver K C_NoEntry [.type "KeyError", .type "LookupError", .type "Exception", .type "BaseException", .type "object"] = true)
    (hd_NoEntry : PySem.W.hasDictIn K C_NoEntry = true)
    (sa_NoEntry : PySem.W.findIn K (.ref C_NoEntry) "__setattr__" = some (some (.builtin "object.__setattr__")))
    (xc_NoEntry : PySem.W.subIn K (.ref C_NoEntry) (.type "BaseException") = some true)
    (tc_NoEntry : PySem.W.typeIn K (.ref C_NoEntry) = some (.type "type"))
    (kc_NoEntry : PySem.W.keepIn K (.ref C_NoEntry) = true)
    (nw_NoEntry : PySem.W.findIn K (.ref C_NoEntry) "what" = some none)
    (cc_NoEntry : PySem.W.clsIn K C_NoEntry = some cd_NoEntry)
    (ga_NoEntry : PySem.W.findIn K (.ref C_NoEntry) "__getattribute__" = some (some (.builtin "BaseException.__getattribute__")))
    (gt_NoEntry : PySem.W.findIn K (.ref C_NoEntry) "__getattr__" = some none)
    (ca_NoEntry : PySem.W.findIn K (.ref C_NoEntry) "__class__" = some (some (.builtin "object.__class__")))
    (mo_NoEntry : PySem.W.mroIn K C_NoEntry (.type "object") = some true)
    (tf_NoEntry : PySem.W.typeIn K (.ref f_NoEntry_init) = some (.type "function"))
    (vb_NoEntry : PySem.W.findCls K (.type "KeyError") (.type "type") "__init__" = some (.val (.builtin "KeyError.__init__")))
    (ci_NoThing : PySem.W.excInitIn K C_NoThing [.type "KeyError", .type "LookupError", .type "Exception", .type "BaseException", .type "object"] "LookupError.__new__" = true)
    (co_NoThing : PySem.W.excOver K C_NoThing [.type "KeyError", .type "LookupError", .type "Exception", .type "BaseException", .type "object"] = true)
    (hd_NoThing : PySem.W.hasDictIn K C_NoThing = true)
    (sa_NoThing : PySem.W.findIn K (.ref C_NoThing) "__setattr__" = some (some (.builtin "object.__setattr__")))
    (xc_NoThing : PySem.W.subIn K (.ref C_NoThing) (.type "BaseException") = some true)
    (tc_NoThing : PySem.W.typeIn K (.ref C_NoThing) = some (.type "type"))
    (kc_NoThing : PySem.W.keepIn K (.ref C_NoThing) = true)
    (nw_NoThing : PySem.W.findIn K (.ref C_NoThing) "what" = some none)
    (cc_NoThing : PySem.W.clsIn K C_NoThing = some cd_NoThing)
    (ga_NoThing : PySem.W.findIn K (.ref C_NoThing) "__getattribute__" = some (some (.builtin "BaseException.__getattribute__")))
    (gt_NoThing : PySem.W.findIn K (.ref C_NoThing) "__getattr__" = some none)
    (ca_NoThing : PySem.W.findIn K (.ref C_NoThing) "__class__" = some (some (.builtin "object.__class__")))
    (mo_NoThing : PySem.W.mroIn K C_NoThing (.type "object") = some true)
    (tf_NoThing : PySem.W.typeIn K (.ref f_NoThing_init) = some (.type "function"))
    (vb_NoThing : PySem.W.findCls K (.type "KeyError") (.type "type") "__init__" = some (.val (.builtin "KeyError.__init__")))
    (ci_NoChange : PySem.W.excInitIn K C_NoChange [.type "LookupError", .type "Exception", .type "BaseException", .type "object"] "LookupError.__new__" = true)
    (co_NoChange : PySem.W.excOver K C_NoChange [.type "LookupError", .type "Exception", .type "BaseException", .type "object"] = true)
    (hd_NoChange : PySem.W.hasDictIn K C_NoChange = true)
    (sa_NoChange : PySem.W.findIn K (.ref C_NoChange) "__setattr__" = some (some (.builtin "object.__setattr__")))
    (xc_NoChange : PySem.W.subIn K (.ref C_NoChange) (.type "BaseException") = some true)
    (tc_NoChange : PySem.W.typeIn K (.ref C_NoChange) = some (.type "type"))
    (kc_NoChange : PySem.W.keepIn K (.ref C_NoChange) = true)
    (nw_NoChange : PySem.W.findIn K (.ref C_NoChange) "what" = some none)
    (cc_NoChange : PySem.W.clsIn K C_NoChange = some cd_NoChange)
    (ga_NoChange : PySem.W.findIn K (.ref C_NoChange) "__getattribute__" = some (some (.builtin "BaseException.__getattribute__")))
    (gt_NoChange : PySem.W.findIn K (.ref C_NoChange) "__getattr__" = some none)
    (ca_NoChange : PySem.W.findIn K (.ref C_NoChange) "__class__" = some (some (.builtin "object.__class__")))
    (mo_NoChange : PySem.W.mroIn K C_NoChange (.type "object") = some true)
    (tf_NoChange : PySem.W.typeIn K (.ref f_NoChange_init) = some (.type "function"))
    (vb_NoChange : PySem.W.findCls K (.type "LookupError") (.type "type") "__init__" = some (.val (.builtin "LookupError.__init__")))
    (ci_BadDay : PySem.W.excInitIn K C_BadDay [.type "IndexError", .type "LookupError", .type "Exception", .type "BaseException", .type "object"] "IndexError.__new__" = true)
    (co_BadDay : PySem.W.excOver K C_BadDay [.type "IndexError", .type "LookupError", .type "Exception", .type "BaseException", .type "object"] = true)
    (hd_BadDay : PySem.W.hasDictIn K C_BadDay = true)
    (sa_BadDay : PySem.W.findIn K (.ref C_BadDay) "__setattr__" = some (some (.builtin "object.__setattr__")))
    (xc_BadDay : PySem.W.subIn K (.ref C_BadDay) (.type "BaseException") = some true)
    (tc_BadDay : PySem.W.typeIn K (.ref C_BadDay) = some (.type "type"))
    (kc_BadDay : PySem.W.keepIn K (.ref C_BadDay) = true)
    (nw_BadDay : PySem.W.findIn K (.ref C_BadDay) "what" = some none)
    (cc_BadDay : PySem.W.clsIn K C_BadDay = some cd_BadDay)
    (ga_BadDay : PySem.W.findIn K (.ref C_BadDay) "__getattribute__" = some (some (.builtin "BaseException.__getattribute__")))
    (gt_BadDay : PySem.W.findIn K (.ref C_BadDay) "__getattr__" = some none)
    (ca_BadDay : PySem.W.findIn K (.ref C_BadDay) "__class__" = some (some (.builtin "object.__class__")))
    (mo_BadDay : PySem.W.mroIn K C_BadDay (.type "object") = some true)
    (tf_BadDay : PySem.W.typeIn K (.ref f_BadDay_init) = some (.type "function"))
    (vb_BadDay : PySem.W.findCls K (.type "IndexError") (.type "type") "__init__" = some (.val (.builtin "IndexError.__init__")))
    (ci_TooLow : PySem.W.excInitIn K C_TooLow [.type "ArithmeticError", .type "Exception", .type "BaseException", .type "object"] "ArithmeticError.__new__" = true)
    (co_TooLow : PySem.W.excOver K C_TooLow [.type "ArithmeticError", .type "Exception", .type "BaseException", .type "object"] = true)
    (hd_TooLow : PySem.W.hasDictIn K C_TooLow = true)
    (sa_TooLow : PySem.W.findIn K (.ref C_TooLow) "__setattr__" = some (some (.builtin "object.__setattr__")))
    (xc_TooLow : PySem.W.subIn K (.ref C_TooLow) (.type "BaseException") = some true)
    (tc_TooLow : PySem.W.typeIn K (.ref C_TooLow) = some (.type "type"))
    (kc_TooLow : PySem.W.keepIn K (.ref C_TooLow) = true)
    (nw_TooLow : PySem.W.findIn K (.ref C_TooLow) "what" = some none)
    (cc_TooLow : PySem.W.clsIn K C_TooLow = some cd_TooLow)
    (ga_TooLow : PySem.W.findIn K (.ref C_TooLow) "__getattribute__" = some (some (.builtin "BaseException.__getattribute__")))
    (gt_TooLow : PySem.W.findIn K (.ref C_TooLow) "__getattr__" = some none)
    (ca_TooLow : PySem.W.findIn K (.ref C_TooLow) "__class__" = some (some (.builtin "object.__class__")))
    (mo_TooLow : PySem.W.mroIn K C_TooLow (.type "object") = some true)
    (tf_TooLow : PySem.W.typeIn K (.ref f_TooLow_init) = some (.type "function"))
    (vb_TooLow : PySem.W.findCls K (.type "ArithmeticError") (.type "type") "__init__" = some (.val (.builtin "ArithmeticError.__init__")))
    (ci_TooLittle : PySem.W.excInitIn K C_TooLittle [.type "ArithmeticError", .type "Exception", .type "BaseException", .type "object"] "ArithmeticError.__new__" = true)
    (co_TooLittle : PySem.W.excOver K C_TooLittle [.type "ArithmeticError", .type "Exception", .type "BaseException", .type "object"] = true)
    (hd_TooLittle : PySem.W.hasDictIn K C_TooLittle = true)
    (sa_TooLittle : PySem.W.findIn K (.ref C_TooLittle) "__setattr__" = some (some (.builtin "object.__setattr__")))
    (xc_TooLittle : PySem.W.subIn K (.ref C_TooLittle) (.type "BaseException") = some true)
    (tc_TooLittle : PySem.W.typeIn K (.ref C_TooLittle) = some (.type "type"))
    (kc_TooLittle : PySem.W.keepIn K (.ref C_TooLittle) = true)
    (nw_TooLittle : PySem.W.findIn K (.ref C_TooLittle) "what" = some none)
    (cc_TooLittle : PySem.W.clsIn K C_TooLittle = some cd_TooLittle)
    (ga_TooLittle : PySem.W.findIn K (.ref C_TooLittle) "__getattribute__" = some (some (.builtin "BaseException.__getattribute__")))
    (gt_TooLittle : PySem.W.findIn K (.ref C_TooLittle) "__getattr__" = some none)
    (ca_TooLittle : PySem.W.findIn K (.ref C_TooLittle) "__class__" = some (some (.builtin "object.__class__")))
    (mo_TooLittle : PySem.W.mroIn K C_TooLittle (.type "object") = some true)
    (tf_TooLittle : PySem.W.typeIn K (.ref f_TooLittle_init) = some (.type "function"))
    (vb_TooLittle : PySem.W.findCls K (.type "ArithmeticError") (.type "type") "__init__" = some (.val (.builtin "ArithmeticError.__init__")))
    (dg_exc : PySem.W.specialIn K (.builtin "object.__class__") "__get__" = some (some (.builtin "getset_descriptor.__get__")))
    (tk_exc : PySem.W.takesIn K (.builtin "object.__class__") = some true)
    (ts_0_BadTag : PySem.W.kitOne K (.ref C_BadTag) (.type "RuntimeError") = some false)
    (ts_0_BadText : PySem.W.kitOne K (.ref C_BadText) (.type "RuntimeError") = some false)
    (ts_0_TooMany : PySem.W.kitOne K (.ref C_TooMany) (.type "RuntimeError") = some false)
    (ts_0_TooEarly : PySem.W.kitOne K (.ref C_TooEarly) (.type "RuntimeError") = some true)
    (ts_0_BadSum : PySem.W.kitOne K (.ref C_BadSum) (.type "RuntimeError") = some false)
    (ts_0_BadOrder : PySem.W.kitOne K (.ref C_BadOrder) (.type "RuntimeError") = some false)
    (ts_0_BadQuery : PySem.W.kitOne K (.ref C_BadQuery) (.type "RuntimeError") = some false)
    (ts_0_BadColumn : PySem.W.kitOne K (.ref C_BadColumn) (.type "RuntimeError") = some false)
    (ts_0_BadDeed : PySem.W.kitOne K (.ref C_BadDeed) (.type "RuntimeError") = some false)
    (ts_0_BadRow : PySem.W.kitOne K (.ref C_BadRow) (.type "RuntimeError") = some false)
    (ts_0_NoCoin : PySem.W.kitOne K (.ref C_NoCoin) (.type "RuntimeError") = some false)
    (ts_0_NoEntry : PySem.W.kitOne K (.ref C_NoEntry) (.type "RuntimeError") = some false)
    (ts_0_NoThing : PySem.W.kitOne K (.ref C_NoThing) (.type "RuntimeError") = some false)
    (ts_0_NoChange : PySem.W.kitOne K (.ref C_NoChange) (.type "RuntimeError") = some false)
    (ts_0_BadDay : PySem.W.kitOne K (.ref C_BadDay) (.type "RuntimeError") = some false)
    (ts_0_TooLow : PySem.W.kitOne K (.ref C_TooLow) (.type "RuntimeError") = some false)
    (ts_0_TooLittle : PySem.W.kitOne K (.ref C_TooLittle) (.type "RuntimeError") = some false)
    (ts_1_BadTag : PySem.W.kitOne K (.ref C_BadTag) (.type "TypeError") = some false)
    (ts_1_BadText : PySem.W.kitOne K (.ref C_BadText) (.type "TypeError") = some false)
    (ts_1_TooMany : PySem.W.kitOne K (.ref C_TooMany) (.type "TypeError") = some false)
    (ts_1_TooEarly : PySem.W.kitOne K (.ref C_TooEarly) (.type "TypeError") = some false)
    (ts_1_BadSum : PySem.W.kitOne K (.ref C_BadSum) (.type "TypeError") = some false)
    (ts_1_BadOrder : PySem.W.kitOne K (.ref C_BadOrder) (.type "TypeError") = some false)
    (ts_1_BadQuery : PySem.W.kitOne K (.ref C_BadQuery) (.type "TypeError") = some false)
    (ts_1_BadColumn : PySem.W.kitOne K (.ref C_BadColumn) (.type "TypeError") = some false)
    (ts_1_BadDeed : PySem.W.kitOne K (.ref C_BadDeed) (.type "TypeError") = some true)
    (ts_1_BadRow : PySem.W.kitOne K (.ref C_BadRow) (.type "TypeError") = some false)
    (ts_1_NoCoin : PySem.W.kitOne K (.ref C_NoCoin) (.type "TypeError") = some false)
    (ts_1_NoEntry : PySem.W.kitOne K (.ref C_NoEntry) (.type "TypeError") = some false)
    (ts_1_NoThing : PySem.W.kitOne K (.ref C_NoThing) (.type "TypeError") = some false)
    (ts_1_NoChange : PySem.W.kitOne K (.ref C_NoChange) (.type "TypeError") = some false)
    (ts_1_BadDay : PySem.W.kitOne K (.ref C_BadDay) (.type "TypeError") = some false)
    (ts_1_TooLow : PySem.W.kitOne K (.ref C_TooLow) (.type "TypeError") = some false)
    (ts_1_TooLittle : PySem.W.kitOne K (.ref C_TooLittle) (.type "TypeError") = some false)
    (ts_2_BadTag : PySem.W.kitOne K (.ref C_BadTag) (.type "OverflowError") = some false)
    (ts_2_BadText : PySem.W.kitOne K (.ref C_BadText) (.type "OverflowError") = some false)
    (ts_2_TooMany : PySem.W.kitOne K (.ref C_TooMany) (.type "OverflowError") = some true)
    (ts_2_TooEarly : PySem.W.kitOne K (.ref C_TooEarly) (.type "OverflowError") = some false)
    (ts_2_BadSum : PySem.W.kitOne K (.ref C_BadSum) (.type "OverflowError") = some false)
    (ts_2_BadOrder : PySem.W.kitOne K (.ref C_BadOrder) (.type "OverflowError") = some false)
    (ts_2_BadQuery : PySem.W.kitOne K (.ref C_BadQuery) (.type "OverflowError") = some false)
    (ts_2_BadColumn : PySem.W.kitOne K (.ref C_BadColumn) (.type "OverflowError") = some false)
    (ts_2_BadDeed : PySem.W.kitOne K (.ref C_BadDeed) (.type "OverflowError") = some false)
    (ts_2_BadRow : PySem.W.kitOne K (.ref C_BadRow) (.type "OverflowError") = some false)
    (ts_2_NoCoin : PySem.W.kitOne K (.ref C_NoCoin) (.type "OverflowError") = some false)
    (ts_2_NoEntry : PySem.W.kitOne K (.ref C_NoEntry) (.type "OverflowError") = some false)
    (ts_2_NoThing : PySem.W.kitOne K (.ref C_NoThing) (.type "OverflowError") = some false)
    (ts_2_NoChange : PySem.W.kitOne K (.ref C_NoChange) (.type "OverflowError") = some false)
    (ts_2_BadDay : PySem.W.kitOne K (.ref C_BadDay) (.type "OverflowError") = some false)
    (ts_2_TooLow : PySem.W.kitOne K (.ref C_TooLow) (.type "OverflowError") = some false)
    (ts_2_TooLittle : PySem.W.kitOne K (.ref C_TooLittle) (.type "OverflowError") = some false)
    (ts_3_BadTag : PySem.W.kitOne K (.ref C_BadTag) (.type "ArithmeticError") = some false)
    (ts_3_BadText : PySem.W.kitOne K (.ref C_BadText) (.type "ArithmeticError") = some false)
    (ts_3_TooMany : PySem.W.kitOne K (.ref C_TooMany) (.type "ArithmeticError") = some true)
    (ts_3_TooEarly : PySem.W.kitOne K (.ref C_TooEarly) (.type "ArithmeticError") = some false)
    (ts_3_BadSum : PySem.W.kitOne K (.ref C_BadSum) (.type "ArithmeticError") = some false)
    (ts_3_BadOrder : PySem.W.kitOne K (.ref C_BadOrder) (.type "ArithmeticError") = some false)
    (ts_3_BadQuery : PySem.W.kitOne K (.ref C_BadQuery) (.type "ArithmeticError") = some false)
    (ts_3_BadColumn : PySem.W.kitOne K (.ref C_BadColumn) (.type "ArithmeticError") = some false)
    (ts_3_BadDeed : PySem.W.kitOne K (.ref C_BadDeed) (.type "ArithmeticError") = some false)
    (ts_3_BadRow : PySem.W.kitOne K (.ref C_BadRow) (.type "ArithmeticError") = some false)
    (ts_3_NoCoin : PySem.W.kitOne K (.ref C_NoCoin) (.type "ArithmeticError") = some false)
    (ts_3_NoEntry : PySem.W.kitOne K (.ref C_NoEntry) (.type "ArithmeticError") = some false)
    (ts_3_NoThing : PySem.W.kitOne K (.ref C_NoThing) (.type "ArithmeticError") = some false)
    (ts_3_NoChange : PySem.W.kitOne K (.ref C_NoChange) (.type "ArithmeticError") = some false)
    (ts_3_BadDay : PySem.W.kitOne K (.ref C_BadDay) (.type "ArithmeticError") = some false)
    (ts_3_TooLow : PySem.W.kitOne K (.ref C_TooLow) (.type "ArithmeticError") = some true)
    (ts_3_TooLittle : PySem.W.kitOne K (.ref C_TooLittle) (.type "ArithmeticError") = some true)
    (ts_4_BadTag : PySem.W.kitOne K (.ref C_BadTag) (.type "IndexError") = some false)
    (ts_4_BadText : PySem.W.kitOne K (.ref C_BadText) (.type "IndexError") = some false)
    (ts_4_TooMany : PySem.W.kitOne K (.ref C_TooMany) (.type "IndexError") = some false)
    (ts_4_TooEarly : PySem.W.kitOne K (.ref C_TooEarly) (.type "IndexError") = some false)
    (ts_4_BadSum : PySem.W.kitOne K (.ref C_BadSum) (.type "IndexError") = some false)
    (ts_4_BadOrder : PySem.W.kitOne K (.ref C_BadOrder) (.type "IndexError") = some false)
    (ts_4_BadQuery : PySem.W.kitOne K (.ref C_BadQuery) (.type "IndexError") = some false)
    (ts_4_BadColumn : PySem.W.kitOne K (.ref C_BadColumn) (.type "IndexError") = some false)
    (ts_4_BadDeed : PySem.W.kitOne K (.ref C_BadDeed) (.type "IndexError") = some false)
    (ts_4_BadRow : PySem.W.kitOne K (.ref C_BadRow) (.type "IndexError") = some false)
    (ts_4_NoCoin : PySem.W.kitOne K (.ref C_NoCoin) (.type "IndexError") = some false)
    (ts_4_NoEntry : PySem.W.kitOne K (.ref C_NoEntry) (.type "IndexError") = some false)
    (ts_4_NoThing : PySem.W.kitOne K (.ref C_NoThing) (.type "IndexError") = some false)
    (ts_4_NoChange : PySem.W.kitOne K (.ref C_NoChange) (.type "IndexError") = some false)
    (ts_4_BadDay : PySem.W.kitOne K (.ref C_BadDay) (.type "IndexError") = some true)
    (ts_4_TooLow : PySem.W.kitOne K (.ref C_TooLow) (.type "IndexError") = some false)
    (ts_4_TooLittle : PySem.W.kitOne K (.ref C_TooLittle) (.type "IndexError") = some false)
    (ts_5_BadTag : PySem.W.kitOne K (.ref C_BadTag) (.type "KeyError") = some false)
    (ts_5_BadText : PySem.W.kitOne K (.ref C_BadText) (.type "KeyError") = some false)
    (ts_5_TooMany : PySem.W.kitOne K (.ref C_TooMany) (.type "KeyError") = some false)
    (ts_5_TooEarly : PySem.W.kitOne K (.ref C_TooEarly) (.type "KeyError") = some false)
    (ts_5_BadSum : PySem.W.kitOne K (.ref C_BadSum) (.type "KeyError") = some false)
    (ts_5_BadOrder : PySem.W.kitOne K (.ref C_BadOrder) (.type "KeyError") = some false)
    (ts_5_BadQuery : PySem.W.kitOne K (.ref C_BadQuery) (.type "KeyError") = some false)
    (ts_5_BadColumn : PySem.W.kitOne K (.ref C_BadColumn) (.type "KeyError") = some false)
    (ts_5_BadDeed : PySem.W.kitOne K (.ref C_BadDeed) (.type "KeyError") = some false)
    (ts_5_BadRow : PySem.W.kitOne K (.ref C_BadRow) (.type "KeyError") = some false)
    (ts_5_NoCoin : PySem.W.kitOne K (.ref C_NoCoin) (.type "KeyError") = some true)
    (ts_5_NoEntry : PySem.W.kitOne K (.ref C_NoEntry) (.type "KeyError") = some true)
    (ts_5_NoThing : PySem.W.kitOne K (.ref C_NoThing) (.type "KeyError") = some true)
    (ts_5_NoChange : PySem.W.kitOne K (.ref C_NoChange) (.type "KeyError") = some false)
    (ts_5_BadDay : PySem.W.kitOne K (.ref C_BadDay) (.type "KeyError") = some false)
    (ts_5_TooLow : PySem.W.kitOne K (.ref C_TooLow) (.type "KeyError") = some false)
    (ts_5_TooLittle : PySem.W.kitOne K (.ref C_TooLittle) (.type "KeyError") = some false)
    (ts_6_BadTag : PySem.W.kitOne K (.ref C_BadTag) (.type "ValueError") = some true)
    (ts_6_BadText : PySem.W.kitOne K (.ref C_BadText) (.type "ValueError") = some true)
    (ts_6_TooMany : PySem.W.kitOne K (.ref C_TooMany) (.type "ValueError") = some false)
    (ts_6_TooEarly : PySem.W.kitOne K (.ref C_TooEarly) (.type "ValueError") = some false)
    (ts_6_BadSum : PySem.W.kitOne K (.ref C_BadSum) (.type "ValueError") = some true)
    (ts_6_BadOrder : PySem.W.kitOne K (.ref C_BadOrder) (.type "ValueError") = some true)
    (ts_6_BadQuery : PySem.W.kitOne K (.ref C_BadQuery) (.type "ValueError") = some true)
    (ts_6_BadColumn : PySem.W.kitOne K (.ref C_BadColumn) (.type "ValueError") = some true)
    (ts_6_BadDeed : PySem.W.kitOne K (.ref C_BadDeed) (.type "ValueError") = some false)
    (ts_6_BadRow : PySem.W.kitOne K (.ref C_BadRow) (.type "ValueError") = some true)
    (ts_6_NoCoin : PySem.W.kitOne K (.ref C_NoCoin) (.type "ValueError") = some false)
    (ts_6_NoEntry : PySem.W.kitOne K (.ref C_NoEntry) (.type "ValueError") = some false)
    (ts_6_NoThing : PySem.W.kitOne K (.ref C_NoThing) (.type "ValueError") = some false)
    (ts_6_NoChange : PySem.W.kitOne K (.ref C_NoChange) (.type "ValueError") = some false)
    (ts_6_BadDay : PySem.W.kitOne K (.ref C_BadDay) (.type "ValueError") = some false)
    (ts_6_TooLow : PySem.W.kitOne K (.ref C_TooLow) (.type "ValueError") = some false)
    (ts_6_TooLittle : PySem.W.kitOne K (.ref C_TooLittle) (.type "ValueError") = some false)
    (ts_7_BadTag : PySem.W.kitOne K (.ref C_BadTag) (.ref C_BadTag) = some true)
    (ts_7_BadText : PySem.W.kitOne K (.ref C_BadText) (.ref C_BadTag) = some false)
    (ts_7_TooMany : PySem.W.kitOne K (.ref C_TooMany) (.ref C_BadTag) = some false)
    (ts_7_TooEarly : PySem.W.kitOne K (.ref C_TooEarly) (.ref C_BadTag) = some false)
    (ts_7_BadSum : PySem.W.kitOne K (.ref C_BadSum) (.ref C_BadTag) = some false)
    (ts_7_BadOrder : PySem.W.kitOne K (.ref C_BadOrder) (.ref C_BadTag) = some false)
    (ts_7_BadQuery : PySem.W.kitOne K (.ref C_BadQuery) (.ref C_BadTag) = some false)
    (ts_7_BadColumn : PySem.W.kitOne K (.ref C_BadColumn) (.ref C_BadTag) = some false)
    (ts_7_BadDeed : PySem.W.kitOne K (.ref C_BadDeed) (.ref C_BadTag) = some false)
    (ts_7_BadRow : PySem.W.kitOne K (.ref C_BadRow) (.ref C_BadTag) = some false)
    (ts_7_NoCoin : PySem.W.kitOne K (.ref C_NoCoin) (.ref C_BadTag) = some false)
    (ts_7_NoEntry : PySem.W.kitOne K (.ref C_NoEntry) (.ref C_BadTag) = some false)
    (ts_7_NoThing : PySem.W.kitOne K (.ref C_NoThing) (.ref C_BadTag) = some false)
    (ts_7_NoChange : PySem.W.kitOne K (.ref C_NoChange) (.ref C_BadTag) = some false)
    (ts_7_BadDay : PySem.W.kitOne K (.ref C_BadDay) (.ref C_BadTag) = some false)
    (ts_7_TooLow : PySem.W.kitOne K (.ref C_TooLow) (.ref C_BadTag) = some false)
    (ts_7_TooLittle : PySem.W.kitOne K (.ref C_TooLittle) (.ref C_BadTag) = some false)
    (ts_8_BadTag : PySem.W.kitAny K (.ref C_BadTag) [.ref C_BadSum, .ref C_BadText, .ref C_BadOrder, .ref C_BadQuery, .ref C_BadColumn, .ref C_BadRow] = some false)
    (ts_8_BadText : PySem.W.kitAny K (.ref C_BadText) [.ref C_BadSum, .ref C_BadText, .ref C_BadOrder, .ref C_BadQuery, .ref C_BadColumn, .ref C_BadRow] = some true)
    (ts_8_TooMany : PySem.W.kitAny K (.ref C_TooMany) [.ref C_BadSum, .ref C_BadText, .ref C_BadOrder, .ref C_BadQuery, .ref C_BadColumn, .ref C_BadRow] = some false)
    (ts_8_TooEarly : PySem.W.kitAny K (.ref C_TooEarly) [.ref C_BadSum, .ref C_BadText, .ref C_BadOrder, .ref C_BadQuery, .ref C_BadColumn, .ref C_BadRow] = some false)
    (ts_8_BadSum : PySem.W.kitAny K (.ref C_BadSum) [.ref C_BadSum, .ref C_BadText, .ref C_BadOrder, .ref C_BadQuery, .ref C_BadColumn, .ref C_BadRow] = some true)
    (ts_8_BadOrder : PySem.W.kitAny K (.ref C_BadOrder) [.ref C_BadSum, .ref C_BadText, .ref C_BadOrder, .ref C_BadQuery, .ref C_BadColumn, .ref C_BadRow] = some true)
    (ts_8_BadQuery : PySem.W.kitAny K (.ref C_BadQuery) [.ref C_BadSum, .ref C_BadText, .ref C_BadOrder, .ref C_BadQuery, .ref C_BadColumn, .ref C_BadRow] = some true)
    (ts_8_BadColumn : PySem.W.kitAny K (.ref C_BadColumn) [.ref C_BadSum, .ref C_BadText, .ref C_BadOrder, .ref C_BadQuery, .ref C_BadColumn, .ref C_BadRow] = some true)
    (ts_8_BadDeed : PySem.W.kitAny K (.ref C_BadDeed) [.ref C_BadSum, .ref C_BadText, .ref C_BadOrder, .ref C_BadQuery, .ref C_BadColumn, .ref C_BadRow] = some false)
    (ts_8_BadRow : PySem.W.kitAny K (.ref C_BadRow) [.ref C_BadSum, .ref C_BadText, .ref C_BadOrder, .ref C_BadQuery, .ref C_BadColumn, .ref C_BadRow] = some true)
    (ts_8_NoCoin : PySem.W.kitAny K (.ref C_NoCoin) [.ref C_BadSum, .ref C_BadText, .ref C_BadOrder, .ref C_BadQuery, .ref C_BadColumn, .ref C_BadRow] = some false)
    (ts_8_NoEntry : PySem.W.kitAny K (.ref C_NoEntry) [.ref C_BadSum, .ref C_BadText, .ref C_BadOrder, .ref C_BadQuery, .ref C_BadColumn, .ref C_BadRow] = some false)
    (ts_8_NoThing : PySem.W.kitAny K (.ref C_NoThing) [.ref C_BadSum, .ref C_BadText, .ref C_BadOrder, .ref C_BadQuery, .ref C_BadColumn, .ref C_BadRow] = some false)
    (ts_8_NoChange : PySem.W.kitAny K (.ref C_NoChange) [.ref C_BadSum, .ref C_BadText, .ref C_BadOrder, .ref C_BadQuery, .ref C_BadColumn, .ref C_BadRow] = some false)
    (ts_8_BadDay : PySem.W.kitAny K (.ref C_BadDay) [.ref C_BadSum, .ref C_BadText, .ref C_BadOrder, .ref C_BadQuery, .ref C_BadColumn, .ref C_BadRow] = some false)
    (ts_8_TooLow : PySem.W.kitAny K (.ref C_TooLow) [.ref C_BadSum, .ref C_BadText, .ref C_BadOrder, .ref C_BadQuery, .ref C_BadColumn, .ref C_BadRow] = some false)
    (ts_8_TooLittle : PySem.W.kitAny K (.ref C_TooLittle) [.ref C_BadSum, .ref C_BadText, .ref C_BadOrder, .ref C_BadQuery, .ref C_BadColumn, .ref C_BadRow] = some false)
    (ts_9_BadTag : PySem.W.exmAny K (.ref C_BadTag) [.ref C_BadColumn, .ref C_BadOrder, .ref C_BadQuery, .ref C_BadRow, .ref C_BadSum, .ref C_BadTag, .ref C_BadText] = some true)
    (ts_9_BadText : PySem.W.exmAny K (.ref C_BadText) [.ref C_BadColumn, .ref C_BadOrder, .ref C_BadQuery, .ref C_BadRow, .ref C_BadSum, .ref C_BadTag, .ref C_BadText] = some true)
    (ts_9_TooMany : PySem.W.exmAny K (.ref C_TooMany) [.ref C_BadColumn, .ref C_BadOrder, .ref C_BadQuery, .ref C_BadRow, .ref C_BadSum, .ref C_BadTag, .ref C_BadText] = some false)
    (ts_9_TooEarly : PySem.W.exmAny K (.ref C_TooEarly) [.ref C_BadColumn, .ref C_BadOrder, .ref C_BadQuery, .ref C_BadRow, .ref C_BadSum, .ref C_BadTag, .ref C_BadText] = some false)
    (ts_9_BadSum : PySem.W.exmAny K (.ref C_BadSum) [.ref C_BadColumn, .ref C_BadOrder, .ref C_BadQuery, .ref C_BadRow, .ref C_BadSum, .ref C_BadTag, .ref C_BadText] = some true)
    (ts_9_BadOrder : PySem.W.exmAny K (.ref C_BadOrder) [.ref C_BadColumn, .ref C_BadOrder, .ref C_BadQuery, .ref C_BadRow, .ref C_BadSum, .ref C_BadTag, .ref C_BadText] = some true)
    (ts_9_BadQuery : PySem.W.exmAny K (.ref C_BadQuery) [.ref C_BadColumn, .ref C_BadOrder, .ref C_BadQuery, .ref C_BadRow, .ref C_BadSum, .ref C_BadTag, .ref C_BadText] = some true)
    (ts_9_BadColumn : PySem.W.exmAny K (.ref C_BadColumn) [.ref C_BadColumn, .ref C_BadOrder, .ref C_BadQuery, .ref C_BadRow, .ref C_BadSum, .ref C_BadTag, .ref C_BadText] = some true)
    (ts_9_BadDeed : PySem.W.exmAny K (.ref C_BadDeed) [.ref C_BadColumn, .ref C_BadOrder, .ref C_BadQuery, .ref C_BadRow, .ref C_BadSum, .ref C_BadTag, .ref C_BadText] = some false)
    (ts_9_BadRow : PySem.W.exmAny K (.ref C_BadRow) [.ref C_BadColumn, .ref C_BadOrder, .ref C_BadQuery, .ref C_BadRow, .ref C_BadSum, .ref C_BadTag, .ref C_BadText] = some true)
    (ts_9_NoCoin : PySem.W.exmAny K (.ref C_NoCoin) [.ref C_BadColumn, .ref C_BadOrder, .ref C_BadQuery, .ref C_BadRow, .ref C_BadSum, .ref C_BadTag, .ref C_BadText] = some false)
    (ts_9_NoEntry : PySem.W.exmAny K (.ref C_NoEntry) [.ref C_BadColumn, .ref C_BadOrder, .ref C_BadQuery, .ref C_BadRow, .ref C_BadSum, .ref C_BadTag, .ref C_BadText] = some false)
    (ts_9_NoThing : PySem.W.exmAny K (.ref C_NoThing) [.ref C_BadColumn, .ref C_BadOrder, .ref C_BadQuery, .ref C_BadRow, .ref C_BadSum, .ref C_BadTag, .ref C_BadText] = some false)
    (ts_9_NoChange : PySem.W.exmAny K (.ref C_NoChange) [.ref C_BadColumn, .ref C_BadOrder, .ref C_BadQuery, .ref C_BadRow, .ref C_BadSum, .ref C_BadTag, .ref C_BadText] = some false)
    (ts_9_BadDay : PySem.W.exmAny K (.ref C_BadDay) [.ref C_BadColumn, .ref C_BadOrder, .ref C_BadQuery, .ref C_BadRow, .ref C_BadSum, .ref C_BadTag, .ref C_BadText] = some false)
    (ts_9_TooLow : PySem.W.exmAny K (.ref C_TooLow) [.ref C_BadColumn, .ref C_BadOrder, .ref C_BadQuery, .ref C_BadRow, .ref C_BadSum, .ref C_BadTag, .ref C_BadText] = some false)
    (ts_9_TooLittle : PySem.W.exmAny K (.ref C_TooLittle) [.ref C_BadColumn, .ref C_BadOrder, .ref C_BadQuery, .ref C_BadRow, .ref C_BadSum, .ref C_BadTag, .ref C_BadText] = some false)
    : ∃ fd : FuncData, (∀ (s : Shared) (v : Value), BindsTo s fd ⟨[v], []⟩ [("_law_script", v)]) ∧ ∀ base : Heap, K.In base → base.Ns mainGlobals mg → FnOk l.prog w K mg base CX0 10 fa fd ["_law_script"] (sp_law K) := by
  have e := hfa.symm.trans (PySem.W.mg_of X G a_law)
  cases e
  have F__law_folded := fun_mk (st := s__law_folded) l__law_folded e__law_folded k__law_folded
  have b__law_folded := F__law_folded.binds (ps := ["_law_script", "_law_size"]) fun _ _ _ _ _ _ us hl => match us, hl with | [_, _], _ => rfl
  have F__law_take := fun_mk (st := s__law_take) l__law_take e__law_take k__law_take
  have b__law_take := F__law_take.binds (ps := ["_law_box_here", "_law_size"]) fun _ _ _ _ _ _ us hl => match us, hl with | [_, _], _ => rfl
  have F__law_price := fun_mk (st := s__law_price) l__law_price e__law_price k__law_price
  have b__law_price := F__law_price.binds (ps := ["_law_box_here"]) fun _ _ _ _ _ _ us hl => match us, hl with | [_], _ => rfl
  have F__law_five := fun_mk (st := s__law_five) l__law_five e__law_five k__law_five
  have b__law_five := F__law_five.binds (ps := ["_law_box_here", "_law_people"]) fun _ _ _ _ _ _ us hl => match us, hl with | [_, _], _ => rfl
  have F_BadTag_init := fun_mk (st := s_BadTag_init) l_BadTag_init e_BadTag_init k_BadTag_init
  have b_BadTag_init := F_BadTag_init.binds (ps := ["self", "what"]) fun _ _ _ _ _ _ us hl => match us, hl with | [_, _], _ => rfl
  have F_is_name := fun_mk (st := s_is_name) l_is_name e_is_name k_is_name
  have b_is_name := F_is_name.binds (ps := ["thing"]) fun _ _ _ _ _ _ us hl => match us, hl with | [_], _ => rfl
  have F_is_whole := fun_mk (st := s_is_whole) l_is_whole e_is_whole k_is_whole
  have b_is_whole := F_is_whole.binds (ps := ["thing", "least", "most"]) fun _ _ _ _ _ _ us hl => match us, hl with | [_, _, _], _ => rfl
  have F_Tag_init : FunD K "__init__" "Tag.__init__" (defArgs s_Tag_init) (defBody s_Tag_init) (defScope s_Tag_init) [.int 0, .int 0] [] f_Tag_init _ := ⟨⟨_, _, _, _, _, _, _, _, _, _, rfl, l_Tag_init, e_Tag_init, .inr ⟨by simp, T_Tag_init, _, _, _, rfl, t_Tag_init, rfl, (.cons ⟨_, rfl⟩ (.cons ⟨_, rfl⟩ .nil))⟩, .inl rfl⟩, k_Tag_init⟩
  have b_Tag_init_6 := FunD.binds1 (ps := ["self", "owner", "number", "price", "least", "day"]) F_Tag_init 6 2 (by simp) rfl (fun _ _ _ _ _ _ _ us its h1 h2 => match us, its, h1, h2 with | [_, _, _, _, _, _], [_, _], _, _ => ⟨_, rfl, rfl⟩)
  have b_Tag_init_4 := FunD.binds1 (ps := ["self", "owner", "number", "price", "least", "day"]) F_Tag_init 4 0 (by simp) rfl (fun _ _ _ _ _ _ _ us its h1 h2 => match us, its, h1, h2 with | [_, _, _, _], [_, _], _, _ => ⟨_, rfl, rfl⟩)
  have kb_Tag_init_4_day := FunD.kbindsD (ps := ["self", "owner", "number", "price", "least", "day"]) F_Tag_init 4 ["day"] (fun a b c => a ++ (b.drop 0).take 1 ++ (c.drop 0).take 1) (by simp) (fun r1 r2 r3 => ((r1.append ((r2.drop 0).take 1)).append ((r3.drop 0).take 1))) (fun _ _ _ _ _ _ _ us its ws h1 h2 h3 => match us, its, ws, h1, h2, h3 with | [_, _, _, _], [_, _], [_], _, _, _ => ⟨_, rfl, rfl⟩)
  have b_Tag_init_5 := FunD.binds1 (ps := ["self", "owner", "number", "price", "least", "day"]) F_Tag_init 5 1 (by simp) rfl (fun _ _ _ _ _ _ _ us its h1 h2 => match us, its, h1, h2 with | [_, _, _, _, _], [_, _], _, _ => ⟨_, rfl, rfl⟩)
  have kb_Tag_init_4_day_least := FunD.kbindsD (ps := ["self", "owner", "number", "price", "least", "day"]) F_Tag_init 4 ["day", "least"] (fun a b c => a ++ (c.drop 1).take 1 ++ (c.drop 0).take 1) (by simp) (fun r1 r2 r3 => ((r1.append ((r3.drop 1).take 1)).append ((r3.drop 0).take 1))) (fun _ _ _ _ _ _ _ us its ws h1 h2 h3 => match us, its, ws, h1, h2, h3 with | [_, _, _, _], [_, _], [_, _], _, _, _ => ⟨_, rfl, rfl⟩)
  have kb_Tag_init_5_day := FunD.kbindsD (ps := ["self", "owner", "number", "price", "least", "day"]) F_Tag_init 5 ["day"] (fun a b c => a ++ (c.drop 0).take 1) (by simp) (fun r1 r2 r3 => (r1.append ((r3.drop 0).take 1))) (fun _ _ _ _ _ _ _ us its ws h1 h2 h3 => match us, its, ws, h1, h2, h3 with | [_, _, _, _, _], [_, _], [_], _, _, _ => ⟨_, rfl, rfl⟩)
  have F__law_made := fun_mk (st := s__law_made) l__law_made e__law_made k__law_made
  have b__law_made := F__law_made.binds (ps := ["_law_box_here", "_law_five_here"]) fun _ _ _ _ _ _ us hl => match us, hl with | [_, _], _ => rfl
  have F_BadText_init := fun_mk (st := s_BadText_init) l_BadText_init e_BadText_init k_BadText_init
  have b_BadText_init := F_BadText_init.binds (ps := ["self", "what"]) fun _ _ _ _ _ _ us hl => match us, hl with | [_, _], _ => rfl
  have F_TooMany_init := fun_mk (st := s_TooMany_init) l_TooMany_init e_TooMany_init k_TooMany_init
  have b_TooMany_init := F_TooMany_init.binds (ps := ["self", "what"]) fun _ _ _ _ _ _ us hl => match us, hl with | [_, _], _ => rfl
  have F_TooEarly_init := fun_mk (st := s_TooEarly_init) l_TooEarly_init e_TooEarly_init k_TooEarly_init
  have b_TooEarly_init := F_TooEarly_init.binds (ps := ["self", "what"]) fun _ _ _ _ _ _ us hl => match us, hl with | [_, _], _ => rfl
  have F_BadSum_init := fun_mk (st := s_BadSum_init) l_BadSum_init e_BadSum_init k_BadSum_init
  have b_BadSum_init := F_BadSum_init.binds (ps := ["self", "what"]) fun _ _ _ _ _ _ us hl => match us, hl with | [_, _], _ => rfl
  have F_BadOrder_init := fun_mk (st := s_BadOrder_init) l_BadOrder_init e_BadOrder_init k_BadOrder_init
  have b_BadOrder_init := F_BadOrder_init.binds (ps := ["self", "what"]) fun _ _ _ _ _ _ us hl => match us, hl with | [_, _], _ => rfl
  have F_BadQuery_init := fun_mk (st := s_BadQuery_init) l_BadQuery_init e_BadQuery_init k_BadQuery_init
  have b_BadQuery_init := F_BadQuery_init.binds (ps := ["self", "what"]) fun _ _ _ _ _ _ us hl => match us, hl with | [_, _], _ => rfl
  have F_BadColumn_init := fun_mk (st := s_BadColumn_init) l_BadColumn_init e_BadColumn_init k_BadColumn_init
  have b_BadColumn_init := F_BadColumn_init.binds (ps := ["self", "what"]) fun _ _ _ _ _ _ us hl => match us, hl with | [_, _], _ => rfl
  have F_BadDeed_init := fun_mk (st := s_BadDeed_init) l_BadDeed_init e_BadDeed_init k_BadDeed_init
  have b_BadDeed_init := F_BadDeed_init.binds (ps := ["self", "what"]) fun _ _ _ _ _ _ us hl => match us, hl with | [_, _], _ => rfl
  have F_BadRow_init := fun_mk (st := s_BadRow_init) l_BadRow_init e_BadRow_init k_BadRow_init
  have b_BadRow_init := F_BadRow_init.binds (ps := ["self", "what"]) fun _ _ _ _ _ _ us hl => match us, hl with | [_, _], _ => rfl
  have F_NoCoin_init := fun_mk (st := s_NoCoin_init) l_NoCoin_init e_NoCoin_init k_NoCoin_init
  have b_NoCoin_init := F_NoCoin_init.binds (ps := ["self", "what"]) fun _ _ _ _ _ _ us hl => match us, hl with | [_, _], _ => rfl
  have F_NoEntry_init := fun_mk (st := s_NoEntry_init) l_NoEntry_init e_NoEntry_init k_NoEntry_init
  have b_NoEntry_init := F_NoEntry_init.binds (ps := ["self", "what"]) fun _ _ _ _ _ _ us hl => match us, hl with | [_, _], _ => rfl
  have F_NoThing_init := fun_mk (st := s_NoThing_init) l_NoThing_init e_NoThing_init k_NoThing_init
  have b_NoThing_init := F_NoThing_init.binds (ps := ["self", "what"]) fun _ _ _ _ _ _ us hl => match us, hl with | [_, _], _ => rfl
  have F_NoChange_init := fun_mk (st := s_NoChange_init) l_NoChange_init e_NoChange_init k_NoChange_init
  have b_NoChange_init := F_NoChange_init.binds (ps := ["self", "what"]) fun _ _ _ _ _ _ us hl => match us, hl with | [_, _], _ => rfl
  have F_BadDay_init := fun_mk (st := s_BadDay_init) l_BadDay_init e_BadDay_init k_BadDay_init
  have b_BadDay_init := F_BadDay_init.binds (ps := ["self", "what"]) fun _ _ _ _ _ _ us hl => match us, hl with | [_, _], _ => rfl
  have F_TooLow_init := fun_mk (st := s_TooLow_init) l_TooLow_init e_TooLow_init k_TooLow_init
  have b_TooLow_init := F_TooLow_init.binds (ps := ["self", "what"]) fun _ _ _ _ _ _ us hl => match us, hl with | [_, _], _ => rfl
  have F_TooLittle_init := fun_mk (st := s_TooLittle_init) l_TooLittle_init e_TooLittle_init k_TooLittle_init
  have b_TooLittle_init := F_TooLittle_init.binds (ps := ["self", "what"]) fun _ _ _ _ _ _ us hl => match us, hl with | [_, _], _ => rfl
  have F__law_classes_right := fun_mk (st := s__law_classes_right) l__law_classes_right e__law_classes_right k__law_classes_right
  have b__law_classes_right := F__law_classes_right.binds (ps := []) fun _ _ _ _ _ _ us hl => match us, hl with | [], _ => rfl
  have F__law_names := fun_mk (st := s__law_names) l__law_names e__law_names k__law_names
  have b__law_names := F__law_names.binds (ps := ["_law_box_here", "_law_many"]) fun _ _ _ _ _ _ us hl => match us, hl with | [_, _], _ => rfl
  have F__law_whole := fun_mk (st := s__law_whole) l__law_whole e__law_whole k__law_whole
  have b__law_whole := F__law_whole.binds (ps := ["_law_thing", "_law_lowest", "_law_most"]) fun _ _ _ _ _ _ us hl => match us, hl with | [_, _, _], _ => rfl
  have F__law_fault := fun_mk (st := s__law_fault) l__law_fault e__law_fault k__law_fault
  have b__law_fault := F__law_fault.binds (ps := ["_law_five_here"]) fun _ _ _ _ _ _ us hl => match us, hl with | [_], _ => rfl
  have F__law_same := fun_mk (st := s__law_same) l__law_same e__law_same k__law_same
  have b__law_same := F__law_same.binds (ps := ["_law_found", "_law_due"]) fun _ _ _ _ _ _ us hl => match us, hl with | [_, _], _ => rfl
  have F__law_odd := fun_mk (st := s__law_odd) l__law_odd e__law_odd k__law_odd
  have b__law_odd := F__law_odd.binds (ps := ["_law_box_here", "_law_five_here"]) fun _ _ _ _ _ _ us hl => match us, hl with | [_, _], _ => rfl
  have F__law_fields := fun_mk (st := s__law_fields) l__law_fields e__law_fields k__law_fields
  have b__law_fields := F__law_fields.binds (ps := ["_law_tag"]) fun _ _ _ _ _ _ us hl => match us, hl with | [_], _ => rfl
  have F__law_told := fun_mk (st := s__law_told) l__law_told e__law_told k__law_told
  have b__law_told := F__law_told.binds (ps := ["_law_five_here", "_law_named"]) fun _ _ _ _ _ _ us hl => match us, hl with | [_, _], _ => rfl
  have F__law_right := fun_mk (st := s__law_right) l__law_right e__law_right k__law_right
  have b__law_right := F__law_right.binds (ps := ["_law_box_here"]) fun _ _ _ _ _ _ us hl => match us, hl with | [_], _ => rfl
  have F__law_box := fun_mk (st := s__law_box) l__law_box e__law_box k__law_box
  have b__law_box := F__law_box.binds (ps := ["_law_script", "_law_k"]) fun _ _ _ _ _ _ us hl => match us, hl with | [_, _], _ => rfl
  have F_law := fun_mk (st := s_law) l_law e_law k_law
  have T : Txt K mg ⟨C_BadTag, C_BadText, C_TooMany, C_TooEarly, C_BadSum, C_BadOrder, C_BadQuery, C_BadColumn, C_BadDeed, C_BadRow, C_NoCoin, C_NoEntry, C_NoThing, C_NoChange, C_BadDay, C_TooLow, C_TooLittle, C_Tag, f__law_folded, PySem.W.fnOf "_law_folded" "_law_folded" (defArgs s__law_folded) (defBody s__law_folded) (defScope s__law_folded) .none kV__law_folded dc__law_folded pm__law_folded an__law_folded cd__law_folded ct__law_folded, f__law_take, PySem.W.fnOf "_law_take" "_law_take" (defArgs s__law_take) (defBody s__law_take) (defScope s__law_take) .none kV__law_take dc__law_take pm__law_take an__law_take cd__law_take ct__law_take, f__law_price, PySem.W.fnOf "_law_price" "_law_price" (defArgs s__law_price) (defBody s__law_price) (defScope s__law_price) .none kV__law_price dc__law_price pm__law_price an__law_price cd__law_price ct__law_price, f__law_five, PySem.W.fnOf "_law_five" "_law_five" (defArgs s__law_five) (defBody s__law_five) (defScope s__law_five) .none kV__law_five dc__law_five pm__law_five an__law_five cd__law_five ct__law_five, f_BadTag_init, PySem.W.fnOf "__init__" "BadTag.__init__" (defArgs s_BadTag_init) (defBody s_BadTag_init) (defScope s_BadTag_init) .none kV_BadTag_init dc_BadTag_init pm_BadTag_init an_BadTag_init cd_BadTag_init ct_BadTag_init, f_is_name, PySem.W.fnOf "is_name" "is_name" (defArgs s_is_name) (defBody s_is_name) (defScope s_is_name) .none kV_is_name dc_is_name pm_is_name an_is_name cd_is_name ct_is_name, f_is_whole, PySem.W.fnOf "is_whole" "is_whole" (defArgs s_is_whole) (defBody s_is_whole) (defScope s_is_whole) .none kV_is_whole dc_is_whole pm_is_whole an_is_whole cd_is_whole ct_is_whole, f_Tag_init, PySem.W.fnOf "__init__" "Tag.__init__" (defArgs s_Tag_init) (defBody s_Tag_init) (defScope s_Tag_init) (.ref T_Tag_init) kV_Tag_init dc_Tag_init pm_Tag_init an_Tag_init cd_Tag_init ct_Tag_init, f__law_made, PySem.W.fnOf "_law_made" "_law_made" (defArgs s__law_made) (defBody s__law_made) (defScope s__law_made) .none kV__law_made dc__law_made pm__law_made an__law_made cd__law_made ct__law_made, f_BadText_init, PySem.W.fnOf "__init__" "BadText.__init__" (defArgs s_BadText_init) (defBody s_BadText_init) (defScope s_BadText_init) .none kV_BadText_init dc_BadText_init pm_BadText_init an_BadText_init cd_BadText_init ct_BadText_init, f_TooMany_init, PySem.W.fnOf "__init__" "TooMany.__init__" (defArgs s_TooMany_init) (defBody s_TooMany_init) (defScope s_TooMany_init) .none kV_TooMany_init dc_TooMany_init pm_TooMany_init an_TooMany_init cd_TooMany_init ct_TooMany_init, f_TooEarly_init, PySem.W.fnOf "__init__" "TooEarly.__init__" (defArgs s_TooEarly_init) (defBody s_TooEarly_init) (defScope s_TooEarly_init) .none kV_TooEarly_init dc_TooEarly_init pm_TooEarly_init an_TooEarly_init cd_TooEarly_init ct_TooEarly_init, f_BadSum_init, PySem.W.fnOf "__init__" "BadSum.__init__" (defArgs s_BadSum_init) (defBody s_BadSum_init) (defScope s_BadSum_init) .none kV_BadSum_init dc_BadSum_init pm_BadSum_init an_BadSum_init cd_BadSum_init ct_BadSum_init, f_BadOrder_init, PySem.W.fnOf "__init__" "BadOrder.__init__" (defArgs s_BadOrder_init) (defBody s_BadOrder_init) (defScope s_BadOrder_init) .none kV_BadOrder_init dc_BadOrder_init pm_BadOrder_init an_BadOrder_init cd_BadOrder_init ct_BadOrder_init, f_BadQuery_init, PySem.W.fnOf "__init__" "BadQuery.__init__" (defArgs s_BadQuery_init) (defBody s_BadQuery_init) (defScope s_BadQuery_init) .none kV_BadQuery_init dc_BadQuery_init pm_BadQuery_init an_BadQuery_init cd_BadQuery_init ct_BadQuery_init, f_BadColumn_init, PySem.W.fnOf "__init__" "BadColumn.__init__" (defArgs s_BadColumn_init) (defBody s_BadColumn_init) (defScope s_BadColumn_init) .none kV_BadColumn_init dc_BadColumn_init pm_BadColumn_init an_BadColumn_init cd_BadColumn_init ct_BadColumn_init, f_BadDeed_init, PySem.W.fnOf "__init__" "BadDeed.__init__" (defArgs s_BadDeed_init) (defBody s_BadDeed_init) (defScope s_BadDeed_init) .none kV_BadDeed_init dc_BadDeed_init pm_BadDeed_init an_BadDeed_init cd_BadDeed_init ct_BadDeed_init, f_BadRow_init, PySem.W.fnOf "__init__" "BadRow.__init__" (defArgs s_BadRow_init) (defBody s_BadRow_init) (defScope s_BadRow_init) .none kV_BadRow_init dc_BadRow_init pm_BadRow_init an_BadRow_init cd_BadRow_init ct_BadRow_init, f_NoCoin_init, PySem.W.fnOf "__init__" "NoCoin.__init__" (defArgs s_NoCoin_init) (defBody s_NoCoin_init) (defScope s_NoCoin_init) .none kV_NoCoin_init dc_NoCoin_init pm_NoCoin_init an_NoCoin_init cd_NoCoin_init ct_NoCoin_init, f_NoEntry_init, PySem.W.fnOf "__init__" "NoEntry.__init__" (defArgs s_NoEntry_init) (defBody s_NoEntry_init) (defScope s_NoEntry_init) .none kV_NoEntry_init dc_NoEntry_init pm_NoEntry_init an_NoEntry_init cd_NoEntry_init ct_NoEntry_init, f_NoThing_init, PySem.W.fnOf "__init__" "NoThing.__init__" (defArgs s_NoThing_init) (defBody s_NoThing_init) (defScope s_NoThing_init) .none kV_NoThing_init dc_NoThing_init pm_NoThing_init an_NoThing_init cd_NoThing_init ct_NoThing_init, f_NoChange_init, PySem.W.fnOf "__init__" "NoChange.__init__" (defArgs s_NoChange_init) (defBody s_NoChange_init) (defScope s_NoChange_init) .none kV_NoChange_init dc_NoChange_init pm_NoChange_init an_NoChange_init cd_NoChange_init ct_NoChange_init, f_BadDay_init, PySem.W.fnOf "__init__" "BadDay.__init__" (defArgs s_BadDay_init) (defBody s_BadDay_init) (defScope s_BadDay_init) .none kV_BadDay_init dc_BadDay_init pm_BadDay_init an_BadDay_init cd_BadDay_init ct_BadDay_init, f_TooLow_init, PySem.W.fnOf "__init__" "TooLow.__init__" (defArgs s_TooLow_init) (defBody s_TooLow_init) (defScope s_TooLow_init) .none kV_TooLow_init dc_TooLow_init pm_TooLow_init an_TooLow_init cd_TooLow_init ct_TooLow_init, f_TooLittle_init, PySem.W.fnOf "__init__" "TooLittle.__init__" (defArgs s_TooLittle_init) (defBody s_TooLittle_init) (defScope s_TooLittle_init) .none kV_TooLittle_init dc_TooLittle_init pm_TooLittle_init an_TooLittle_init cd_TooLittle_init ct_TooLittle_init, f__law_classes_right, PySem.W.fnOf "_law_classes_right" "_law_classes_right" (defArgs s__law_classes_right) (defBody s__law_classes_right) (defScope s__law_classes_right) .none kV__law_classes_right dc__law_classes_right pm__law_classes_right an__law_classes_right cd__law_classes_right ct__law_classes_right, f__law_names, PySem.W.fnOf "_law_names" "_law_names" (defArgs s__law_names) (defBody s__law_names) (defScope s__law_names) .none kV__law_names dc__law_names pm__law_names an__law_names cd__law_names ct__law_names, f__law_whole, PySem.W.fnOf "_law_whole" "_law_whole" (defArgs s__law_whole) (defBody s__law_whole) (defScope s__law_whole) .none kV__law_whole dc__law_whole pm__law_whole an__law_whole cd__law_whole ct__law_whole, f__law_fault, PySem.W.fnOf "_law_fault" "_law_fault" (defArgs s__law_fault) (defBody s__law_fault) (defScope s__law_fault) .none kV__law_fault dc__law_fault pm__law_fault an__law_fault cd__law_fault ct__law_fault, f__law_same, PySem.W.fnOf "_law_same" "_law_same" (defArgs s__law_same) (defBody s__law_same) (defScope s__law_same) .none kV__law_same dc__law_same pm__law_same an__law_same cd__law_same ct__law_same, f__law_odd, PySem.W.fnOf "_law_odd" "_law_odd" (defArgs s__law_odd) (defBody s__law_odd) (defScope s__law_odd) .none kV__law_odd dc__law_odd pm__law_odd an__law_odd cd__law_odd ct__law_odd, f__law_fields, PySem.W.fnOf "_law_fields" "_law_fields" (defArgs s__law_fields) (defBody s__law_fields) (defScope s__law_fields) .none kV__law_fields dc__law_fields pm__law_fields an__law_fields cd__law_fields ct__law_fields, f__law_told, PySem.W.fnOf "_law_told" "_law_told" (defArgs s__law_told) (defBody s__law_told) (defScope s__law_told) .none kV__law_told dc__law_told pm__law_told an__law_told cd__law_told ct__law_told, f__law_right, PySem.W.fnOf "_law_right" "_law_right" (defArgs s__law_right) (defBody s__law_right) (defScope s__law_right) .none kV__law_right dc__law_right pm__law_right an__law_right cd__law_right ct__law_right, f__law_box, PySem.W.fnOf "_law_box" "_law_box" (defArgs s__law_box) (defBody s__law_box) (defScope s__law_box) .none kV__law_box dc__law_box pm__law_box an__law_box cd__law_box ct__law_box, fa, PySem.W.fnOf "law" "law" (defArgs s_law) (defBody s_law) (defScope s_law) .none kV_law dc_law pm_law an_law cd_law ct_law⟩ := ⟨PySem.W.mg_none_of X G z_list, PySem.W.mg_none_of X G z_enumerate, PySem.W.mg_none_of X G z_divmod, PySem.W.mg_none_of X G z_len, PySem.W.mg_none_of X G z_ValueError, PySem.W.mg_none_of X G z_all, PySem.W.mg_none_of X G z_isinstance, PySem.W.mg_none_of X G z_str, PySem.W.mg_none_of X G z_int, PySem.W.mg_none_of X G z_bool, PySem.W.mg_none_of X G z_OverflowError, PySem.W.mg_none_of X G z_RuntimeError, PySem.W.mg_none_of X G z_TypeError, PySem.W.mg_none_of X G z_KeyError, PySem.W.mg_none_of X G z_LookupError, PySem.W.mg_none_of X G z_IndexError, PySem.W.mg_none_of X G z_ArithmeticError, PySem.W.mg_none_of X G z_range, PySem.W.mg_none_of X G z_tuple, PySem.W.mg_none_of X G z_zip, PySem.W.mg_none_of X G z_abs, PySem.W.mg_none_of X G z_max, ⟨_, PySem.W.mg_of X G y_SMALL_SIGNS, ⟨_, rfl⟩⟩, ⟨_, PySem.W.mg_of X G y_MOST_SIGNS, ⟨_, rfl⟩⟩, ⟨_, PySem.W.mg_of X G y_MOST_NUMBER, ⟨_, rfl⟩⟩, ⟨_, PySem.W.mg_of X G y_MOST_PRICE, ⟨_, rfl⟩⟩, ⟨_, PySem.W.mg_of X G y_MOST_DAY, ⟨_, rfl⟩⟩, ⟨pg_Tag, hd_Tag, po_Tag, sa_Tag⟩, PySem.W.mg_of X G a_Tag, a_Tag, ⟨mk_Tag, a_Tag_init, i_Tag_init, kc_Tag⟩, na_Tag_owner, na_Tag_number, na_Tag_price, na_Tag_least, na_Tag_day, F__law_folded, PySem.W.mg_of X G a__law_folded, b__law_folded, F__law_take, PySem.W.mg_of X G a__law_take, b__law_take, F__law_price, PySem.W.mg_of X G a__law_price, b__law_price, F__law_five, PySem.W.mg_of X G a__law_five, b__law_five, F_BadTag_init, b_BadTag_init, F_is_name, PySem.W.mg_of X G a_is_name, b_is_name, F_is_whole, PySem.W.mg_of X G a_is_whole, b_is_whole, F_Tag_init, b_Tag_init_6, b_Tag_init_4, kb_Tag_init_4_day, b_Tag_init_5, kb_Tag_init_4_day_least, kb_Tag_init_5_day, F__law_made, PySem.W.mg_of X G a__law_made, b__law_made, F_BadText_init, b_BadText_init, F_TooMany_init, b_TooMany_init, F_TooEarly_init, b_TooEarly_init, F_BadSum_init, b_BadSum_init, F_BadOrder_init, b_BadOrder_init, F_BadQuery_init, b_BadQuery_init, F_BadColumn_init, b_BadColumn_init, F_BadDeed_init, b_BadDeed_init, F_BadRow_init, b_BadRow_init, F_NoCoin_init, b_NoCoin_init, F_NoEntry_init, b_NoEntry_init, F_NoThing_init, b_NoThing_init, F_NoChange_init, b_NoChange_init, F_BadDay_init, b_BadDay_init, F_TooLow_init, b_TooLow_init, F_TooLittle_init, b_TooLittle_init, F__law_classes_right, PySem.W.mg_of X G a__law_classes_right, b__law_classes_right, F__law_names, PySem.W.mg_of X G a__law_names, b__law_names, F__law_whole, PySem.W.mg_of X G a__law_whole, b__law_whole, F__law_fault, PySem.W.mg_of X G a__law_fault, b__law_fault, F__law_same, PySem.W.mg_of X G a__law_same, b__law_same, F__law_odd, PySem.W.mg_of X G a__law_odd, b__law_odd, F__law_fields, PySem.W.mg_of X G a__law_fields, b__law_fields, F__law_told, PySem.W.mg_of X G a__law_told, b__law_told, F__law_right, PySem.W.mg_of X G a__law_right, b__law_right, F__law_box, PySem.W.mg_of X G a__law_box, b__law_box, F_law, PySem.W.mg_of X G a_BadTag, a_BadTag, PySem.W.mg_of X G a_BadText, a_BadText, PySem.W.mg_of X G a_TooMany, a_TooMany, PySem.W.mg_of X G a_TooEarly, a_TooEarly, PySem.W.mg_of X G a_BadSum, a_BadSum, PySem.W.mg_of X G a_BadOrder, a_BadOrder, PySem.W.mg_of X G a_BadQuery, a_BadQuery, PySem.W.mg_of X G a_BadColumn, a_BadColumn, PySem.W.mg_of X G a_BadDeed, a_BadDeed, PySem.W.mg_of X G a_BadRow, a_BadRow, PySem.W.mg_of X G a_NoCoin, a_NoCoin, PySem.W.mg_of X G a_NoEntry, a_NoEntry, PySem.W.mg_of X G a_NoThing, a_NoThing, PySem.W.mg_of X G a_NoChange, a_NoChange, PySem.W.mg_of X G a_BadDay, a_BadDay, PySem.W.mg_of X G a_TooLow, a_TooLow, PySem.W.mg_of X G a_TooLittle, a_TooLittle, ⟨⟨_, .of PySem.F.excBase_ValueError⟩, PySem.F.store_ValueError, ci_BadTag, co_BadTag, hd_BadTag, sa_BadTag, xc_BadTag, tc_BadTag, kc_BadTag, nw_BadTag⟩, ⟨by rw [cc_BadTag]; rfl, ga_BadTag, gt_BadTag, xc_BadTag, ca_BadTag, dg_exc, tk_exc, mo_BadTag, hd_BadTag, nw_BadTag⟩, a_BadTag_init, tf_BadTag, vb_BadTag, ⟨⟨_, .of PySem.F.excBase_ValueError⟩, PySem.F.store_ValueError, ci_BadText, co_BadText, hd_BadText, sa_BadText, xc_BadText, tc_BadText, kc_BadText, nw_BadText⟩, ⟨by rw [cc_BadText]; rfl, ga_BadText, gt_BadText, xc_BadText, ca_BadText, dg_exc, tk_exc, mo_BadText, hd_BadText, nw_BadText⟩, a_BadText_init, tf_BadText, vb_BadText, ⟨⟨_, .of PySem.F.excBase_OverflowError⟩, PySem.F.store_OverflowError, ci_TooMany, co_TooMany, hd_TooMany, sa_TooMany, xc_TooMany, tc_TooMany, kc_TooMany, nw_TooMany⟩, ⟨by rw [cc_TooMany]; rfl, ga_TooMany, gt_TooMany, xc_TooMany, ca_TooMany, dg_exc, tk_exc, mo_TooMany, hd_TooMany, nw_TooMany⟩, a_TooMany_init, tf_TooMany, vb_TooMany, ⟨⟨_, .of PySem.F.excBase_RuntimeError⟩, PySem.F.store_RuntimeError, ci_TooEarly, co_TooEarly, hd_TooEarly, sa_TooEarly, xc_TooEarly, tc_TooEarly, kc_TooEarly, nw_TooEarly⟩, ⟨by rw [cc_TooEarly]; rfl, ga_TooEarly, gt_TooEarly, xc_TooEarly, ca_TooEarly, dg_exc, tk_exc, mo_TooEarly, hd_TooEarly, nw_TooEarly⟩, a_TooEarly_init, tf_TooEarly, vb_TooEarly, ⟨⟨_, .of PySem.F.excBase_ValueError⟩, PySem.F.store_ValueError, ci_BadSum, co_BadSum, hd_BadSum, sa_BadSum, xc_BadSum, tc_BadSum, kc_BadSum, nw_BadSum⟩, ⟨by rw [cc_BadSum]; rfl, ga_BadSum, gt_BadSum, xc_BadSum, ca_BadSum, dg_exc, tk_exc, mo_BadSum, hd_BadSum, nw_BadSum⟩, a_BadSum_init, tf_BadSum, vb_BadSum, ⟨⟨_, .of PySem.F.excBase_ValueError⟩, PySem.F.store_ValueError, ci_BadOrder, co_BadOrder, hd_BadOrder, sa_BadOrder, xc_BadOrder, tc_BadOrder, kc_BadOrder, nw_BadOrder⟩, ⟨by rw [cc_BadOrder]; rfl, ga_BadOrder, gt_BadOrder, xc_BadOrder, ca_BadOrder, dg_exc, tk_exc, mo_BadOrder, hd_BadOrder, nw_BadOrder⟩, a_BadOrder_init, tf_BadOrder, vb_BadOrder, ⟨⟨_, .of PySem.F.excBase_ValueError⟩, PySem.F.store_ValueError, ci_BadQuery, co_BadQuery, hd_BadQuery, sa_BadQuery, xc_BadQuery, tc_BadQuery, kc_BadQuery, nw_BadQuery⟩, ⟨by rw [cc_BadQuery]; rfl, ga_BadQuery, gt_BadQuery, xc_BadQuery, ca_BadQuery, dg_exc, tk_exc, mo_BadQuery, hd_BadQuery, nw_BadQuery⟩, a_BadQuery_init, tf_BadQuery, vb_BadQuery, ⟨⟨_, .of PySem.F.excBase_ValueError⟩, PySem.F.store_ValueError, ci_BadColumn, co_BadColumn, hd_BadColumn, sa_BadColumn, xc_BadColumn, tc_BadColumn, kc_BadColumn, nw_BadColumn⟩, ⟨by rw [cc_BadColumn]; rfl, ga_BadColumn, gt_BadColumn, xc_BadColumn, ca_BadColumn, dg_exc, tk_exc, mo_BadColumn, hd_BadColumn, nw_BadColumn⟩, a_BadColumn_init, tf_BadColumn, vb_BadColumn, ⟨⟨_, .of PySem.F.excBase_TypeError⟩, PySem.F.store_TypeError, ci_BadDeed, co_BadDeed, hd_BadDeed, sa_BadDeed, xc_BadDeed, tc_BadDeed, kc_BadDeed, nw_BadDeed⟩, ⟨by rw [cc_BadDeed]; rfl, ga_BadDeed, gt_BadDeed, xc_BadDeed, ca_BadDeed, dg_exc, tk_exc, mo_BadDeed, hd_BadDeed, nw_BadDeed⟩, a_BadDeed_init, tf_BadDeed, vb_BadDeed, ⟨⟨_, .of PySem.F.excBase_ValueError⟩, PySem.F.store_ValueError, ci_BadRow, co_BadRow, hd_BadRow, sa_BadRow, xc_BadRow, tc_BadRow, kc_BadRow, nw_BadRow⟩, ⟨by rw [cc_BadRow]; rfl, ga_BadRow, gt_BadRow, xc_BadRow, ca_BadRow, dg_exc, tk_exc, mo_BadRow, hd_BadRow, nw_BadRow⟩, a_BadRow_init, tf_BadRow, vb_BadRow, ⟨⟨_, XBO.bo_KeyError⟩, XBO.store_KeyError, ci_NoCoin, co_NoCoin, hd_NoCoin, sa_NoCoin, xc_NoCoin, tc_NoCoin, kc_NoCoin, nw_NoCoin⟩, ⟨by rw [cc_NoCoin]; rfl, ga_NoCoin, gt_NoCoin, xc_NoCoin, ca_NoCoin, dg_exc, tk_exc, mo_NoCoin, hd_NoCoin, nw_NoCoin⟩, a_NoCoin_init, tf_NoCoin, vb_NoCoin, ⟨⟨_, XBO.bo_KeyError⟩, XBO.store_KeyError, ci_NoEntry, co_NoEntry, hd_NoEntry, sa_NoEntry, xc_NoEntry, tc_NoEntry, kc_NoEntry, nw_NoEntry⟩, ⟨by rw [cc_NoEntry]; rfl, ga_NoEntry, gt_NoEntry, xc_NoEntry, ca_NoEntry, dg_exc, tk_exc, mo_NoEntry, hd_NoEntry, nw_NoEntry⟩, a_NoEntry_init, tf_NoEntry, vb_NoEntry, ⟨⟨_, XBO.bo_KeyError⟩, XBO.store_KeyError, ci_NoThing, co_NoThing, hd_NoThing, sa_NoThing, xc_NoThing, tc_NoThing, kc_NoThing, nw_NoThing⟩, ⟨by rw [cc_NoThing]; rfl, ga_NoThing, gt_NoThing, xc_NoThing, ca_NoThing, dg_exc, tk_exc, mo_NoThing, hd_NoThing, nw_NoThing⟩, a_NoThing_init, tf_NoThing, vb_NoThing, ⟨⟨_, .of PySem.F.excBase_LookupError⟩, PySem.F.store_LookupError, ci_NoChange, co_NoChange, hd_NoChange, sa_NoChange, xc_NoChange, tc_NoChange, kc_NoChange, nw_NoChange⟩, ⟨by rw [cc_NoChange]; rfl, ga_NoChange, gt_NoChange, xc_NoChange, ca_NoChange, dg_exc, tk_exc, mo_NoChange, hd_NoChange, nw_NoChange⟩, a_NoChange_init, tf_NoChange, vb_NoChange, ⟨⟨_, .of PySem.F.excBase_IndexError⟩, PySem.F.store_IndexError, ci_BadDay, co_BadDay, hd_BadDay, sa_BadDay, xc_BadDay, tc_BadDay, kc_BadDay, nw_BadDay⟩, ⟨by rw [cc_BadDay]; rfl, ga_BadDay, gt_BadDay, xc_BadDay, ca_BadDay, dg_exc, tk_exc, mo_BadDay, hd_BadDay, nw_BadDay⟩, a_BadDay_init, tf_BadDay, vb_BadDay, ⟨⟨_, .of PySem.F.excBase_ArithmeticError⟩, PySem.F.store_ArithmeticError, ci_TooLow, co_TooLow, hd_TooLow, sa_TooLow, xc_TooLow, tc_TooLow, kc_TooLow, nw_TooLow⟩, ⟨by rw [cc_TooLow]; rfl, ga_TooLow, gt_TooLow, xc_TooLow, ca_TooLow, dg_exc, tk_exc, mo_TooLow, hd_TooLow, nw_TooLow⟩, a_TooLow_init, tf_TooLow, vb_TooLow, ⟨⟨_, .of PySem.F.excBase_ArithmeticError⟩, PySem.F.store_ArithmeticError, ci_TooLittle, co_TooLittle, hd_TooLittle, sa_TooLittle, xc_TooLittle, tc_TooLittle, kc_TooLittle, nw_TooLittle⟩, ⟨by rw [cc_TooLittle]; rfl, ga_TooLittle, gt_TooLittle, xc_TooLittle, ca_TooLittle, dg_exc, tk_exc, mo_TooLittle, hd_TooLittle, nw_TooLittle⟩, a_TooLittle_init, tf_TooLittle, vb_TooLittle, ts_0_BadTag, ts_0_BadText, ts_0_TooMany, ts_0_TooEarly, ts_0_BadSum, ts_0_BadOrder, ts_0_BadQuery, ts_0_BadColumn, ts_0_BadDeed, ts_0_BadRow, ts_0_NoCoin, ts_0_NoEntry, ts_0_NoThing, ts_0_NoChange, ts_0_BadDay, ts_0_TooLow, ts_0_TooLittle, ts_1_BadTag, ts_1_BadText, ts_1_TooMany, ts_1_TooEarly, ts_1_BadSum, ts_1_BadOrder, ts_1_BadQuery, ts_1_BadColumn, ts_1_BadDeed, ts_1_BadRow, ts_1_NoCoin, ts_1_NoEntry, ts_1_NoThing, ts_1_NoChange, ts_1_BadDay, ts_1_TooLow, ts_1_TooLittle, ts_2_BadTag, ts_2_BadText, ts_2_TooMany, ts_2_TooEarly, ts_2_BadSum, ts_2_BadOrder, ts_2_BadQuery, ts_2_BadColumn, ts_2_BadDeed, ts_2_BadRow, ts_2_NoCoin, ts_2_NoEntry, ts_2_NoThing, ts_2_NoChange, ts_2_BadDay, ts_2_TooLow, ts_2_TooLittle, ts_3_BadTag, ts_3_BadText, ts_3_TooMany, ts_3_TooEarly, ts_3_BadSum, ts_3_BadOrder, ts_3_BadQuery, ts_3_BadColumn, ts_3_BadDeed, ts_3_BadRow, ts_3_NoCoin, ts_3_NoEntry, ts_3_NoThing, ts_3_NoChange, ts_3_BadDay, ts_3_TooLow, ts_3_TooLittle, ts_4_BadTag, ts_4_BadText, ts_4_TooMany, ts_4_TooEarly, ts_4_BadSum, ts_4_BadOrder, ts_4_BadQuery, ts_4_BadColumn, ts_4_BadDeed, ts_4_BadRow, ts_4_NoCoin, ts_4_NoEntry, ts_4_NoThing, ts_4_NoChange, ts_4_BadDay, ts_4_TooLow, ts_4_TooLittle, ts_5_BadTag, ts_5_BadText, ts_5_TooMany, ts_5_TooEarly, ts_5_BadSum, ts_5_BadOrder, ts_5_BadQuery, ts_5_BadColumn, ts_5_BadDeed, ts_5_BadRow, ts_5_NoCoin, ts_5_NoEntry, ts_5_NoThing, ts_5_NoChange, ts_5_BadDay, ts_5_TooLow, ts_5_TooLittle, ts_6_BadTag, ts_6_BadText, ts_6_TooMany, ts_6_TooEarly, ts_6_BadSum, ts_6_BadOrder, ts_6_BadQuery, ts_6_BadColumn, ts_6_BadDeed, ts_6_BadRow, ts_6_NoCoin, ts_6_NoEntry, ts_6_NoThing, ts_6_NoChange, ts_6_BadDay, ts_6_TooLow, ts_6_TooLittle, ts_7_BadTag, ts_7_BadText, ts_7_TooMany, ts_7_TooEarly, ts_7_BadSum, ts_7_BadOrder, ts_7_BadQuery, ts_7_BadColumn, ts_7_BadDeed, ts_7_BadRow, ts_7_NoCoin, ts_7_NoEntry, ts_7_NoThing, ts_7_NoChange, ts_7_BadDay, ts_7_TooLow, ts_7_TooLittle, ts_8_BadTag, ts_8_BadText, ts_8_TooMany, ts_8_TooEarly, ts_8_BadSum, ts_8_BadOrder, ts_8_BadQuery, ts_8_BadColumn, ts_8_BadDeed, ts_8_BadRow, ts_8_NoCoin, ts_8_NoEntry, ts_8_NoThing, ts_8_NoChange, ts_8_BadDay, ts_8_TooLow, ts_8_TooLittle, ts_9_BadTag, ts_9_BadText, ts_9_TooMany, ts_9_TooEarly, ts_9_BadSum, ts_9_BadOrder, ts_9_BadQuery, ts_9_BadColumn, ts_9_BadDeed, ts_9_BadRow, ts_9_NoCoin, ts_9_NoEntry, ts_9_NoThing, ts_9_NoChange, ts_9_BadDay, ts_9_TooLow, ts_9_TooLittle⟩
  exact ⟨_, fun s v => .of_eq rfl, fun base _ _ => ok_law T⟩
theorem walk {l : PySem.W.OpenLaw} {q : Program} {loose : List Str} {XP : (Str → Option Value) → Heap → Prop} {YP : World → Heap → Prop} {d : DefRec} {K : Params → PySem.W.Frag} (hn : l.most = some 63) (hdf : d.params.defaults = [])
    (hY : ∀ (w : World) (h : Heap), YP w h → (K w.params).In h)
    (F : ∀ (w : World) (mg : Str → Option Value) (fa : Addr) (h : Heap), (K w.params).In h → h.Ns mainGlobals mg → mg d.name = some (.ref fa) →
      ∃ fd : FuncData, (∀ (s : Shared) (u : Value), BindsTo s fd ⟨[u], []⟩ [("_law_script", u)]) ∧ ∀ base : Heap, (K w.params).In base → base.Ns mainGlobals mg → FnOk l.prog w (K w.params) mg base CX0 10 fa fd ["_law_script"] (sp_law (K w.params))) :
    PySem.W.WalkO q loose XP YP l.row.toRowW d [] (fun f vs => PySem.call f vs) :=
  L2.walk_of (n := 63) (k := 10) (x := "_law_script") (CX := fun _ => CX0) (sp := fun w => sp_law (K w.params)) hn (by decide) hdf ⟨rfl, by decide, by decide⟩ hY F (fun _ _ a ns hl _ hS => ⟨a, ns, rfl, hS, hl, (fun _ hp => nomatch hp), fun _ => rfl⟩) fun _ _ _ _ _ z => z
end K

open PySem PySem.W PyProof.Rows in
set_option maxRecDepth 100000 in
set_option maxHeartbeats 0 in
theorem PySem.Challenge.cw_stallshares_k09_tags_made_or_refused_holds : PySem.Challenge.rw_stallshares_k09_tags_made_or_refused.Holds := by
  w_on; o_law; k_head; (case hw => w_witness2)
  k_fill
  refine K.walk (l := PySem.Challenge.rw_stallshares_k09_tags_made_or_refused) rfl rfl (fun w h Y => PySem.W.kIn_of Y) ?F
  case F =>
    intro w mg fa h KX G hmg
    refine' K.all_mk KX G hmg ?a_BadTag ?a_BadText ?a_TooMany ?a_TooEarly ?a_BadSum ?a_BadOrder ?a_BadQuery ?a_BadColumn ?a_BadDeed ?a_BadRow ?a_NoCoin ?a_NoEntry ?a_NoThing ?a_NoChange ?a_BadDay ?a_TooLow ?a_TooLittle ?a_Tag ?pg_Tag ?hd_Tag ?po_Tag ?sa_Tag ?mk_Tag ?kc_Tag ?na_Tag_owner ?na_Tag_number ?na_Tag_price ?na_Tag_least ?na_Tag_day ?a__law_folded ?l__law_folded ?e__law_folded ?k__law_folded ?a__law_take ?l__law_take ?e__law_take ?k__law_take ?a__law_price ?l__law_price ?e__law_price ?k__law_price ?a__law_five ?l__law_five ?e__law_five ?k__law_five ?a_BadTag_init ?i_BadTag_init ?l_BadTag_init ?e_BadTag_init ?k_BadTag_init ?a_is_name ?l_is_name ?e_is_name ?k_is_name ?a_is_whole ?l_is_whole ?e_is_whole ?k_is_whole ?a_Tag_init ?i_Tag_init ?l_Tag_init ?e_Tag_init ?k_Tag_init ?t_Tag_init ?a__law_made ?l__law_made ?e__law_made ?k__law_made ?a_BadText_init ?i_BadText_init ?l_BadText_init ?e_BadText_init ?k_BadText_init ?a_TooMany_init ?i_TooMany_init ?l_TooMany_init ?e_TooMany_init ?k_TooMany_init ?a_TooEarly_init ?i_TooEarly_init ?l_TooEarly_init ?e_TooEarly_init ?k_TooEarly_init ?a_BadSum_init ?i_BadSum_init ?l_BadSum_init ?e_BadSum_init ?k_BadSum_init ?a_BadOrder_init ?i_BadOrder_init ?l_BadOrder_init ?e_BadOrder_init ?k_BadOrder_init ?a_BadQuery_init ?i_BadQuery_init ?l_BadQuery_init ?e_BadQuery_init ?k_BadQuery_init ?a_BadColumn_init ?i_BadColumn_init ?l_BadColumn_init ?e_BadColumn_init ?k_BadColumn_init ?a_BadDeed_init ?i_BadDeed_init ?l_BadDeed_init ?e_BadDeed_init ?k_BadDeed_init ?a_BadRow_init ?i_BadRow_init ?l_BadRow_init ?e_BadRow_init ?k_BadRow_init ?a_NoCoin_init ?i_NoCoin_init ?l_NoCoin_init ?e_NoCoin_init ?k_NoCoin_init ?a_NoEntry_init ?i_NoEntry_init ?l_NoEntry_init ?e_NoEntry_init ?k_NoEntry_init ?a_NoThing_init ?i_NoThing_init ?l_NoThing_init ?e_NoThing_init ?k_NoThing_init ?a_NoChange_init ?i_NoChange_init ?l_NoChange_init ?e_NoChange_init ?k_NoChange_init ?a_BadDay_init ?i_BadDay_init ?l_BadDay_init ?e_BadDay_init ?k_BadDay_init ?a_TooLow_init ?i_TooLow_init ?l_TooLow_init ?e_TooLow_init ?k_TooLow_init ?a_TooLittle_init ?i_TooLittle_init ?l_TooLittle_init ?e_TooLittle_init ?k_TooLittle_init ?a__law_classes_right ?l__law_classes_right ?e__law_classes_right ?k__law_classes_right ?a__law_names ?l__law_names ?e__law_names ?k__law_names ?a__law_whole ?l__law_whole ?e__law_whole ?k__law_whole ?a__law_fault ?l__law_fault ?e__law_fault ?k__law_fault ?a__law_same ?l__law_same ?e__law_same ?k__law_same ?a__law_odd ?l__law_odd ?e__law_odd ?k__law_odd ?a__law_fields ?l__law_fields ?e__law_fields ?k__law_fields ?a__law_told ?l__law_told ?e__law_told ?k__law_told ?a__law_right ?l__law_right ?e__law_right ?k__law_right ?a__law_box ?l__law_box ?e__law_box ?k__law_box ?a_law ?l_law ?e_law ?k_law ?z_list ?z_enumerate ?z_divmod ?z_len ?z_ValueError ?z_all ?z_isinstance ?z_str ?z_int ?z_bool ?z_OverflowError ?z_RuntimeError ?z_TypeError ?z_KeyError ?z_LookupError ?z_IndexError ?z_ArithmeticError ?z_range ?z_tuple ?z_zip ?z_abs ?z_max ?y_SMALL_SIGNS ?y_MOST_SIGNS ?y_MOST_NUMBER ?y_MOST_PRICE ?y_MOST_DAY ?ci_BadTag ?co_BadTag ?hd_BadTag ?sa_BadTag ?xc_BadTag ?tc_BadTag ?kc_BadTag ?nw_BadTag ?cc_BadTag ?ga_BadTag ?gt_BadTag ?ca_BadTag ?mo_BadTag ?tf_BadTag ?vb_BadTag ?ci_BadText ?co_BadText ?hd_BadText ?sa_BadText ?xc_BadText ?tc_BadText ?kc_BadText ?nw_BadText ?cc_BadText ?ga_BadText ?gt_BadText ?ca_BadText ?mo_BadText ?tf_BadText ?vb_BadText ?ci_TooMany ?co_TooMany ?hd_TooMany ?sa_TooMany ?xc_TooMany ?tc_TooMany ?kc_TooMany ?nw_TooMany ?cc_TooMany ?ga_TooMany ?gt_TooMany ?ca_TooMany ?mo_TooMany ?tf_TooMany ?vb_TooMany ?ci_TooEarly ?co_TooEarly ?hd_TooEarly ?sa_TooEarly ?xc_TooEarly ?tc_TooEarly ?kc_TooEarly ?nw_TooEarly ?cc_TooEarly ?ga_TooEarly ?gt_TooEarly ?ca_TooEarly ?mo_TooEarly ?tf_TooEarly ?vb_TooEarly ?ci_BadSum ?co_BadSum ?hd_BadSum ?sa_BadSum ?xc_BadSum ?tc_BadSum ?kc_BadSum ?nw_BadSum ?cc_BadSum ?ga_BadSum ?gt_BadSum ?ca_BadSum ?mo_BadSum ?tf_BadSum ?vb_BadSum ?ci_BadOrder ?co_BadOrder ?hd_BadOrder ?sa_BadOrder ?xc_BadOrder ?tc_BadOrder ?kc_BadOrder ?nw_BadOrder ?cc_BadOrder ?ga_BadOrder ?gt_BadOrder ?ca_BadOrder ?mo_BadOrder ?tf_BadOrder ?vb_BadOrder ?ci_BadQuery ?co_BadQuery ?hd_BadQuery ?sa_BadQuery ?xc_BadQuery ?tc_BadQuery ?kc_BadQuery ?nw_BadQuery ?cc_BadQuery ?ga_BadQuery ?gt_BadQuery ?ca_BadQuery ?mo_BadQuery ?tf_BadQuery ?vb_BadQuery ?ci_BadColumn ?co_BadColumn ?hd_BadColumn ?sa_BadColumn ?xc_BadColumn ?tc_BadColumn ?kc_BadColumn ?nw_BadColumn ?cc_BadColumn ?ga_BadColumn ?gt_BadColumn ?ca_BadColumn ?mo_BadColumn ?tf_BadColumn ?vb_BadColumn ?ci_BadDeed ?co_BadDeed ?hd_BadDeed ?sa_BadDeed ?xc_BadDeed ?tc_BadDeed ?kc_BadDeed ?nw_BadDeed ?cc_BadDeed ?ga_BadDeed ?gt_BadDeed ?ca_BadDeed ?mo_BadDeed ?tf_BadDeed ?vb_BadDeed ?ci_BadRow ?co_BadRow ?hd_BadRow ?sa_BadRow ?xc_BadRow ?tc_BadRow ?kc_BadRow ?nw_BadRow ?cc_BadRow ?ga_BadRow ?gt_BadRow ?ca_BadRow ?mo_BadRow ?tf_BadRow ?vb_BadRow ?ci_NoCoin ?co_NoCoin ?hd_NoCoin ?sa_NoCoin ?xc_NoCoin ?tc_NoCoin ?kc_NoCoin ?nw_NoCoin ?cc_NoCoin ?ga_NoCoin ?gt_NoCoin ?ca_NoCoin ?mo_NoCoin ?tf_NoCoin ?vb_NoCoin ?ci_NoEntry ?co_NoEntry ?hd_NoEntry ?sa_NoEntry ?xc_NoEntry ?tc_NoEntry ?kc_NoEntry ?nw_NoEntry ?cc_NoEntry ?ga_NoEntry ?gt_NoEntry ?ca_NoEntry ?mo_NoEntry ?tf_NoEntry ?vb_NoEntry ?ci_NoThing ?co_NoThing ?hd_NoThing ?sa_NoThing ?xc_NoThing ?tc_NoThing ?kc_NoThing ?nw_NoThing ?cc_NoThing ?ga_NoThing ?gt_NoThing ?ca_NoThing ?mo_NoThing ?tf_NoThing ?vb_NoThing ?ci_NoChange ?co_NoChange ?hd_NoChange ?sa_NoChange ?xc_NoChange ?tc_NoChange ?kc_NoChange ?nw_NoChange ?cc_NoChange ?ga_NoChange ?gt_NoChange ?ca_NoChange ?mo_NoChange ?tf_NoChange ?vb_NoChange ?ci_BadDay ?co_BadDay ?hd_BadDay ?sa_BadDay ?xc_BadDay ?tc_BadDay ?kc_BadDay ?nw_BadDay ?cc_BadDay ?ga_BadDay ?gt_BadDay ?ca_BadDay ?mo_BadDay ?tf_BadDay ?vb_BadDay ?ci_TooLow ?co_TooLow ?hd_TooLow ?sa_TooLow ?xc_TooLow ?tc_TooLow ?kc_TooLow ?nw_TooLow ?cc_TooLow ?ga_TooLow ?gt_TooLow ?ca_TooLow ?mo_TooLow ?tf_TooLow ?vb_TooLow ?ci_TooLittle ?co_TooLittle ?hd_TooLittle ?sa_TooLittle ?xc_TooLittle ?tc_TooLittle ?kc_TooLittle ?nw_TooLittle ?cc_TooLittle ?ga_TooLittle ?gt_TooLittle ?ca_TooLittle ?mo_TooLittle ?tf_TooLittle ?vb_TooLittle ?dg_exc ?tk_exc ?ts_0_BadTag ?ts_0_BadText ?ts_0_TooMany ?ts_0_TooEarly ?ts_0_BadSum ?ts_0_BadOrder ?ts_0_BadQuery ?ts_0_BadColumn ?ts_0_BadDeed ?ts_0_BadRow ?ts_0_NoCoin ?ts_0_NoEntry ?ts_0_NoThing ?ts_0_NoChange ?ts_0_BadDay ?ts_0_TooLow ?ts_0_TooLittle ?ts_1_BadTag ?ts_1_BadText ?ts_1_TooMany ?ts_1_TooEarly ?ts_1_BadSum ?ts_1_BadOrder ?ts_1_BadQuery ?ts_1_BadColumn ?ts_1_BadDeed ?ts_1_BadRow ?ts_1_NoCoin ?ts_1_NoEntry ?ts_1_NoThing ?ts_1_NoChange ?ts_1_BadDay ?ts_1_TooLow ?ts_1_TooLittle ?ts_2_BadTag ?ts_2_BadText ?ts_2_TooMany ?ts_2_TooEarly ?ts_2_BadSum ?ts_2_BadOrder ?ts_2_BadQuery ?ts_2_BadColumn ?ts_2_BadDeed ?ts_2_BadRow ?ts_2_NoCoin ?ts_2_NoEntry ?ts_2_NoThing ?ts_2_NoChange ?ts_2_BadDay ?ts_2_TooLow ?ts_2_TooLittle ?ts_3_BadTag ?ts_3_BadText ?ts_3_TooMany ?ts_3_TooEarly ?ts_3_BadSum ?ts_3_BadOrder ?ts_3_BadQuery ?ts_3_BadColumn ?ts_3_BadDeed ?ts_3_BadRow ?ts_3_NoCoin ?ts_3_NoEntry ?ts_3_NoThing ?ts_3_NoChange ?ts_3_BadDay ?ts_3_TooLow ?ts_3_TooLittle ?ts_4_BadTag ?ts_4_BadText ?ts_4_TooMany ?ts_4_TooEarly ?ts_4_BadSum ?ts_4_BadOrder ?ts_4_BadQuery ?ts_4_BadColumn ?ts_4_BadDeed ?ts_4_BadRow ?ts_4_NoCoin ?ts_4_NoEntry ?ts_4_NoThing ?ts_4_NoChange ?ts_4_BadDay ?ts_4_TooLow ?ts_4_TooLittle ?ts_5_BadTag ?ts_5_BadText ?ts_5_TooMany ?ts_5_TooEarly ?ts_5_BadSum ?ts_5_BadOrder ?ts_5_BadQuery ?ts_5_BadColumn ?ts_5_BadDeed ?ts_5_BadRow ?ts_5_NoCoin ?ts_5_NoEntry ?ts_5_NoThing ?ts_5_NoChange ?ts_5_BadDay ?ts_5_TooLow ?ts_5_TooLittle ?ts_6_BadTag ?ts_6_BadText ?ts_6_TooMany ?ts_6_TooEarly ?ts_6_BadSum ?ts_6_BadOrder ?ts_6_BadQuery ?ts_6_BadColumn ?ts_6_BadDeed ?ts_6_BadRow ?ts_6_NoCoin ?ts_6_NoEntry ?ts_6_NoThing ?ts_6_NoChange ?ts_6_BadDay ?ts_6_TooLow ?ts_6_TooLittle ?ts_7_BadTag ?ts_7_BadText ?ts_7_TooMany ?ts_7_TooEarly ?ts_7_BadSum ?ts_7_BadOrder ?ts_7_BadQuery ?ts_7_BadColumn ?ts_7_BadDeed ?ts_7_BadRow ?ts_7_NoCoin ?ts_7_NoEntry ?ts_7_NoThing ?ts_7_NoChange ?ts_7_BadDay ?ts_7_TooLow ?ts_7_TooLittle ?ts_8_BadTag ?ts_8_BadText ?ts_8_TooMany ?ts_8_TooEarly ?ts_8_BadSum ?ts_8_BadOrder ?ts_8_BadQuery ?ts_8_BadColumn ?ts_8_BadDeed ?ts_8_BadRow ?ts_8_NoCoin ?ts_8_NoEntry ?ts_8_NoThing ?ts_8_NoChange ?ts_8_BadDay ?ts_8_TooLow ?ts_8_TooLittle ?ts_9_BadTag ?ts_9_BadText ?ts_9_TooMany ?ts_9_TooEarly ?ts_9_BadSum ?ts_9_BadOrder ?ts_9_BadQuery ?ts_9_BadColumn ?ts_9_BadDeed ?ts_9_BadRow ?ts_9_NoCoin ?ts_9_NoEntry ?ts_9_NoThing ?ts_9_NoChange ?ts_9_BadDay ?ts_9_TooLow ?ts_9_TooLittle
    (case a_BadTag => k_is)
    (case a_BadText => k_is)
    (case a_TooMany => k_is)
    (case a_TooEarly => k_is)
    (case a_BadSum => k_is)
    (case a_BadOrder => k_is)
    (case a_BadQuery => k_is)
    (case a_BadColumn => k_is)
    (case a_BadDeed => k_is)
    (case a_BadRow => k_is)
    (case a_NoCoin => k_is)
    (case a_NoEntry => k_is)
    (case a_NoThing => k_is)
    (case a_NoChange => k_is)
    (case a_BadDay => k_is)
    (case a_TooLow => k_is)
    (case a_TooLittle => k_is)
    (case a_Tag => k_is)
    (case pg_Tag => k_is)
    (case hd_Tag => k_is)
    (case po_Tag => k_is)
    (case sa_Tag => k_is)
    (case mk_Tag => k_is)
    (case kc_Tag => k_is)
    (case na_Tag_owner => k_is)
    (case na_Tag_number => k_is)
    (case na_Tag_price => k_is)
    (case na_Tag_least => k_is)
    (case na_Tag_day => k_is)
    (case a__law_folded => k_is)
    (case l__law_folded => k_is)
    (case e__law_folded => k_is)
    (case k__law_folded => k_is)
    (case a__law_take => k_is)
    (case l__law_take => k_is)
    (case e__law_take => k_is)
    (case k__law_take => k_is)
    (case a__law_price => k_is)
    (case l__law_price => k_is)
    (case e__law_price => k_is)
    (case k__law_price => k_is)
    (case a__law_five => k_is)
    (case l__law_five => k_is)
    (case e__law_five => k_is)
    (case k__law_five => k_is)
    (case a_BadTag_init => k_is)
    (case i_BadTag_init => k_is)
    (case l_BadTag_init => k_is)
    (case e_BadTag_init => k_is)
    (case k_BadTag_init => k_is)
    (case a_is_name => k_is)
    (case l_is_name => k_is)
    (case e_is_name => k_is)
    (case k_is_name => k_is)
    (case a_is_whole => k_is)
    (case l_is_whole => k_is)
    (case e_is_whole => k_is)
    (case k_is_whole => k_is)
    (case a_Tag_init => k_is)
    (case i_Tag_init => k_is)
    (case l_Tag_init => k_is)
    (case e_Tag_init => k_is)
    (case k_Tag_init => k_is)
    (case t_Tag_init => k_is)
    (case a__law_made => k_is)
    (case l__law_made => k_is)
    (case e__law_made => k_is)
    (case k__law_made => k_is)
    (case a_BadText_init => k_is)
    (case i_BadText_init => k_is)
    (case l_BadText_init => k_is)
    (case e_BadText_init => k_is)
    (case k_BadText_init => k_is)
    (case a_TooMany_init => k_is)
    (case i_TooMany_init => k_is)
    (case l_TooMany_init => k_is)
    (case e_TooMany_init => k_is)
    (case k_TooMany_init => k_is)
    (case a_TooEarly_init => k_is)
    (case i_TooEarly_init => k_is)
    (case l_TooEarly_init => k_is)
    (case e_TooEarly_init => k_is)
    (case k_TooEarly_init => k_is)
    (case a_BadSum_init => k_is)
    (case i_BadSum_init => k_is)
    (case l_BadSum_init => k_is)
    (case e_BadSum_init => k_is)
    (case k_BadSum_init => k_is)
    (case a_BadOrder_init => k_is)
    (case i_BadOrder_init => k_is)
    (case l_BadOrder_init => k_is)
    (case e_BadOrder_init => k_is)
    (case k_BadOrder_init => k_is)
    (case a_BadQuery_init => k_is)
    (case i_BadQuery_init => k_is)
    (case l_BadQuery_init => k_is)
    (case e_BadQuery_init => k_is)
    (case k_BadQuery_init => k_is)
    (case a_BadColumn_init => k_is)
    (case i_BadColumn_init => k_is)
    (case l_BadColumn_init => k_is)
    (case e_BadColumn_init => k_is)
    (case k_BadColumn_init => k_is)
    (case a_BadDeed_init => k_is)
    (case i_BadDeed_init => k_is)
    (case l_BadDeed_init => k_is)
    (case e_BadDeed_init => k_is)
    (case k_BadDeed_init => k_is)
    (case a_BadRow_init => k_is)
    (case i_BadRow_init => k_is)
    (case l_BadRow_init => k_is)
    (case e_BadRow_init => k_is)
    (case k_BadRow_init => k_is)
    (case a_NoCoin_init => k_is)
    (case i_NoCoin_init => k_is)
    (case l_NoCoin_init => k_is)
    (case e_NoCoin_init => k_is)
    (case k_NoCoin_init => k_is)
    (case a_NoEntry_init => k_is)
    (case i_NoEntry_init => k_is)
    (case l_NoEntry_init => k_is)
    (case e_NoEntry_init => k_is)
    (case k_NoEntry_init => k_is)
    (case a_NoThing_init => k_is)
    (case i_NoThing_init => k_is)
    (case l_NoThing_init => k_is)
    (case e_NoThing_init => k_is)
    (case k_NoThing_init => k_is)
    (case a_NoChange_init => k_is)
    (case i_NoChange_init => k_is)
    (case l_NoChange_init => k_is)
    (case e_NoChange_init => k_is)
    (case k_NoChange_init => k_is)
    (case a_BadDay_init => k_is)
    (case i_BadDay_init => k_is)
    (case l_BadDay_init => k_is)
    (case e_BadDay_init => k_is)
    (case k_BadDay_init => k_is)
    (case a_TooLow_init => k_is)
    (case i_TooLow_init => k_is)
    (case l_TooLow_init => k_is)
    (case e_TooLow_init => k_is)
    (case k_TooLow_init => k_is)
    (case a_TooLittle_init => k_is)
    (case i_TooLittle_init => k_is)
    (case l_TooLittle_init => k_is)
    (case e_TooLittle_init => k_is)
    (case k_TooLittle_init => k_is)
    (case a__law_classes_right => k_is)
    (case l__law_classes_right => k_is)
    (case e__law_classes_right => k_is)
    (case k__law_classes_right => k_is)
    (case a__law_names => k_is)
    (case l__law_names => k_is)
    (case e__law_names => k_is)
    (case k__law_names => k_is)
    (case a__law_whole => k_is)
    (case l__law_whole => k_is)
    (case e__law_whole => k_is)
    (case k__law_whole => k_is)
    (case a__law_fault => k_is)
    (case l__law_fault => k_is)
    (case e__law_fault => k_is)
    (case k__law_fault => k_is)
    (case a__law_same => k_is)
    (case l__law_same => k_is)
    (case e__law_same => k_is)
    (case k__law_same => k_is)
    (case a__law_odd => k_is)
    (case l__law_odd => k_is)
    (case e__law_odd => k_is)
    (case k__law_odd => k_is)
    (case a__law_fields => k_is)
    (case l__law_fields => k_is)
    (case e__law_fields => k_is)
    (case k__law_fields => k_is)
    (case a__law_told => k_is)
    (case l__law_told => k_is)
    (case e__law_told => k_is)
    (case k__law_told => k_is)
    (case a__law_right => k_is)
    (case l__law_right => k_is)
    (case e__law_right => k_is)
    (case k__law_right => k_is)
    (case a__law_box => k_is)
    (case l__law_box => k_is)
    (case e__law_box => k_is)
    (case k__law_box => k_is)
    (case a_law => k_is)
    (case l_law => k_is)
    (case e_law => k_is)
    (case k_law => k_is)
    (case z_list => k_is)
    (case z_enumerate => k_is)
    (case z_divmod => k_is)
    (case z_len => k_is)
    (case z_ValueError => k_is)
    (case z_all => k_is)
    (case z_isinstance => k_is)
    (case z_str => k_is)
    (case z_int => k_is)
    (case z_bool => k_is)
    (case z_OverflowError => k_is)
    (case z_RuntimeError => k_is)
    (case z_TypeError => k_is)
    (case z_KeyError => k_is)
    (case z_LookupError => k_is)
    (case z_IndexError => k_is)
    (case z_ArithmeticError => k_is)
    (case z_range => k_is)
    (case z_tuple => k_is)
    (case z_zip => k_is)
    (case z_abs => k_is)
    (case z_max => k_is)
    (case y_SMALL_SIGNS => k_is)
    (case y_MOST_SIGNS => k_is)
    (case y_MOST_NUMBER => k_is)
    (case y_MOST_PRICE => k_is)
    (case y_MOST_DAY => k_is)
    (case ci_BadTag => kx_is)
    (case co_BadTag => kx_is)
    (case hd_BadTag => k_is)
    (case sa_BadTag => k_is)
    (case xc_BadTag => k_is)
    (case tc_BadTag => k_is)
    (case kc_BadTag => k_is)
    (case nw_BadTag => k_is)
    (case cc_BadTag => k_is)
    (case ga_BadTag => k_is)
    (case gt_BadTag => k_is)
    (case ca_BadTag => k_is)
    (case mo_BadTag => k_is)
    (case tf_BadTag => k_is)
    (case vb_BadTag => k_is)
    (case ci_BadText => kx_is)
    (case co_BadText => kx_is)
    (case hd_BadText => k_is)
    (case sa_BadText => k_is)
    (case xc_BadText => k_is)
    (case tc_BadText => k_is)
    (case kc_BadText => k_is)
    (case nw_BadText => k_is)
    (case cc_BadText => k_is)
    (case ga_BadText => k_is)
    (case gt_BadText => k_is)
    (case ca_BadText => k_is)
    (case mo_BadText => k_is)
    (case tf_BadText => k_is)
    (case vb_BadText => k_is)
    (case ci_TooMany => kx_is)
    (case co_TooMany => kx_is)
    (case hd_TooMany => k_is)
    (case sa_TooMany => k_is)
    (case xc_TooMany => k_is)
    (case tc_TooMany => k_is)
    (case kc_TooMany => k_is)
    (case nw_TooMany => k_is)
    (case cc_TooMany => k_is)
    (case ga_TooMany => k_is)
    (case gt_TooMany => k_is)
    (case ca_TooMany => k_is)
    (case mo_TooMany => k_is)
    (case tf_TooMany => k_is)
    (case vb_TooMany => k_is)
    (case ci_TooEarly => kx_is)
    (case co_TooEarly => kx_is)
    (case hd_TooEarly => k_is)
    (case sa_TooEarly => k_is)
    (case xc_TooEarly => k_is)
    (case tc_TooEarly => k_is)
    (case kc_TooEarly => k_is)
    (case nw_TooEarly => k_is)
    (case cc_TooEarly => k_is)
    (case ga_TooEarly => k_is)
    (case gt_TooEarly => k_is)
    (case ca_TooEarly => k_is)
    (case mo_TooEarly => k_is)
    (case tf_TooEarly => k_is)
    (case vb_TooEarly => k_is)
    (case ci_BadSum => kx_is)
    (case co_BadSum => kx_is)
    (case hd_BadSum => k_is)
    (case sa_BadSum => k_is)
    (case xc_BadSum => k_is)
    (case tc_BadSum => k_is)
    (case kc_BadSum => k_is)
    (case nw_BadSum => k_is)
    (case cc_BadSum => k_is)
    (case ga_BadSum => k_is)
    (case gt_BadSum => k_is)
    (case ca_BadSum => k_is)
    (case mo_BadSum => k_is)
    (case tf_BadSum => k_is)
    (case vb_BadSum => k_is)
    (case ci_BadOrder => kx_is)
    (case co_BadOrder => kx_is)
    (case hd_BadOrder => k_is)
    (case sa_BadOrder => k_is)
    (case xc_BadOrder => k_is)
    (case tc_BadOrder => k_is)
    (case kc_BadOrder => k_is)
    (case nw_BadOrder => k_is)
    (case cc_BadOrder => k_is)
    (case ga_BadOrder => k_is)
    (case gt_BadOrder => k_is)
    (case ca_BadOrder => k_is)
    (case mo_BadOrder => k_is)
    (case tf_BadOrder => k_is)
    (case vb_BadOrder => k_is)
    (case ci_BadQuery => kx_is)
    (case co_BadQuery => kx_is)
    (case hd_BadQuery => k_is)
    (case sa_BadQuery => k_is)
    (case xc_BadQuery => k_is)
    (case tc_BadQuery => k_is)
    (case kc_BadQuery => k_is)
    (case nw_BadQuery => k_is)
    (case cc_BadQuery => k_is)
    (case ga_BadQuery => k_is)
    (case gt_BadQuery => k_is)
    (case ca_BadQuery => k_is)
    (case mo_BadQuery => k_is)
    (case tf_BadQuery => k_is)
    (case vb_BadQuery => k_is)
    (case ci_BadColumn => kx_is)
    (case co_BadColumn => kx_is)
    (case hd_BadColumn => k_is)
    (case sa_BadColumn => k_is)
    (case xc_BadColumn => k_is)
    (case tc_BadColumn => k_is)
    (case kc_BadColumn => k_is)
    (case nw_BadColumn => k_is)
    (case cc_BadColumn => k_is)
    (case ga_BadColumn => k_is)
    (case gt_BadColumn => k_is)
    (case ca_BadColumn => k_is)
    (case mo_BadColumn => k_is)
    (case tf_BadColumn => k_is)
    (case vb_BadColumn => k_is)
    (case ci_BadDeed => kx_is)
    (case co_BadDeed => kx_is)
    (case hd_BadDeed => k_is)
    (case sa_BadDeed => k_is)
    (case xc_BadDeed => k_is)
    (case tc_BadDeed => k_is)
    (case kc_BadDeed => k_is)
    (case nw_BadDeed => k_is)
    (case cc_BadDeed => k_is)
    (case ga_BadDeed => k_is)
    (case gt_BadDeed => k_is)
    (case ca_BadDeed => k_is)
    (case mo_BadDeed => k_is)
    (case tf_BadDeed => k_is)
    (case vb_BadDeed => k_is)
    (case ci_BadRow => kx_is)
    (case co_BadRow => kx_is)
    (case hd_BadRow => k_is)
    (case sa_BadRow => k_is)
    (case xc_BadRow => k_is)
    (case tc_BadRow => k_is)
    (case kc_BadRow => k_is)
    (case nw_BadRow => k_is)
    (case cc_BadRow => k_is)
    (case ga_BadRow => k_is)
    (case gt_BadRow => k_is)
    (case ca_BadRow => k_is)
    (case mo_BadRow => k_is)
    (case tf_BadRow => k_is)
    (case vb_BadRow => k_is)
    (case ci_NoCoin => kx_is)
    (case co_NoCoin => kx_is)
    (case hd_NoCoin => k_is)
    (case sa_NoCoin => k_is)
    (case xc_NoCoin => k_is)
    (case tc_NoCoin => k_is)
    (case kc_NoCoin => k_is)
    (case nw_NoCoin => k_is)
    (case cc_NoCoin => k_is)
    (case ga_NoCoin => k_is)
    (case gt_NoCoin => k_is)
    (case ca_NoCoin => k_is)
    (case mo_NoCoin => k_is)
    (case tf_NoCoin => k_is)
    (case vb_NoCoin => k_is)
    (case ci_NoEntry => kx_is)
    (case co_NoEntry => kx_is)
    (case hd_NoEntry => k_is)
    (case sa_NoEntry => k_is)
    (case xc_NoEntry => k_is)
    (case tc_NoEntry => k_is)
    (case kc_NoEntry => k_is)
    (case nw_NoEntry => k_is)
    (case cc_NoEntry => k_is)
    (case ga_NoEntry => k_is)
    (case gt_NoEntry => k_is)
    (case ca_NoEntry => k_is)
    (case mo_NoEntry => k_is)
    (case tf_NoEntry => k_is)
    (case vb_NoEntry => k_is)
    (case ci_NoThing => kx_is)
    (case co_NoThing => kx_is)
    (case hd_NoThing => k_is)
    (case sa_NoThing => k_is)
    (case xc_NoThing => k_is)
    (case tc_NoThing => k_is)
    (case kc_NoThing => k_is)
    (case nw_NoThing => k_is)
    (case cc_NoThing => k_is)
    (case ga_NoThing => k_is)
    (case gt_NoThing => k_is)
    (case ca_NoThing => k_is)
    (case mo_NoThing => k_is)
    (case tf_NoThing => k_is)
    (case vb_NoThing => k_is)
    (case ci_NoChange => kx_is)
    (case co_NoChange => kx_is)
    (case hd_NoChange => k_is)
    (case sa_NoChange => k_is)
    (case xc_NoChange => k_is)
    (case tc_NoChange => k_is)
    (case kc_NoChange => k_is)
    (case nw_NoChange => k_is)
    (case cc_NoChange => k_is)
    (case ga_NoChange => k_is)
    (case gt_NoChange => k_is)
    (case ca_NoChange => k_is)
    (case mo_NoChange => k_is)
    (case tf_NoChange => k_is)
    (case vb_NoChange => k_is)
    (case ci_BadDay => kx_is)
    (case co_BadDay => kx_is)
    (case hd_BadDay => k_is)
    (case sa_BadDay => k_is)
    (case xc_BadDay => k_is)
    (case tc_BadDay => k_is)
    (case kc_BadDay => k_is)
    (case nw_BadDay => k_is)
    (case cc_BadDay => k_is)
    (case ga_BadDay => k_is)
    (case gt_BadDay => k_is)
    (case ca_BadDay => k_is)
    (case mo_BadDay => k_is)
    (case tf_BadDay => k_is)
    (case vb_BadDay => k_is)
    (case ci_TooLow => kx_is)
    (case co_TooLow => kx_is)
    (case hd_TooLow => k_is)
    (case sa_TooLow => k_is)
    (case xc_TooLow => k_is)
    (case tc_TooLow => k_is)
    (case kc_TooLow => k_is)
    (case nw_TooLow => k_is)
    (case cc_TooLow => k_is)
    (case ga_TooLow => k_is)
    (case gt_TooLow => k_is)
    (case ca_TooLow => k_is)
    (case mo_TooLow => k_is)
    (case tf_TooLow => k_is)
    (case vb_TooLow => k_is)
    (case ci_TooLittle => kx_is)
    (case co_TooLittle => kx_is)
    (case hd_TooLittle => k_is)
    (case sa_TooLittle => k_is)
    (case xc_TooLittle => k_is)
    (case tc_TooLittle => k_is)
    (case kc_TooLittle => k_is)
    (case nw_TooLittle => k_is)
    (case cc_TooLittle => k_is)
    (case ga_TooLittle => k_is)
    (case gt_TooLittle => k_is)
    (case ca_TooLittle => k_is)
    (case mo_TooLittle => k_is)
    (case tf_TooLittle => k_is)
    (case vb_TooLittle => k_is)
    (case dg_exc => k_is)
    (case tk_exc => k_is)
    (case ts_0_BadTag => kit_is)
    (case ts_0_BadText => kit_is)
    (case ts_0_TooMany => kit_is)
    (case ts_0_TooEarly => kit_is)
    (case ts_0_BadSum => kit_is)
    (case ts_0_BadOrder => kit_is)
    (case ts_0_BadQuery => kit_is)
    (case ts_0_BadColumn => kit_is)
    (case ts_0_BadDeed => kit_is)
    (case ts_0_BadRow => kit_is)
    (case ts_0_NoCoin => kit_is)
    (case ts_0_NoEntry => kit_is)
    (case ts_0_NoThing => kit_is)
    (case ts_0_NoChange => kit_is)
    (case ts_0_BadDay => kit_is)
    (case ts_0_TooLow => kit_is)
    (case ts_0_TooLittle => kit_is)
    (case ts_1_BadTag => kit_is)
    (case ts_1_BadText => kit_is)
    (case ts_1_TooMany => kit_is)
    (case ts_1_TooEarly => kit_is)
    (case ts_1_BadSum => kit_is)
    (case ts_1_BadOrder => kit_is)
    (case ts_1_BadQuery => kit_is)
    (case ts_1_BadColumn => kit_is)
    (case ts_1_BadDeed => kit_is)
    (case ts_1_BadRow => kit_is)
    (case ts_1_NoCoin => kit_is)
    (case ts_1_NoEntry => kit_is)
    (case ts_1_NoThing => kit_is)
    (case ts_1_NoChange => kit_is)
    (case ts_1_BadDay => kit_is)
    (case ts_1_TooLow => kit_is)
    (case ts_1_TooLittle => kit_is)
    (case ts_2_BadTag => kit_is)
    (case ts_2_BadText => kit_is)
    (case ts_2_TooMany => kit_is)
    (case ts_2_TooEarly => kit_is)
    (case ts_2_BadSum => kit_is)
    (case ts_2_BadOrder => kit_is)
    (case ts_2_BadQuery => kit_is)
    (case ts_2_BadColumn => kit_is)
    (case ts_2_BadDeed => kit_is)
    (case ts_2_BadRow => kit_is)
    (case ts_2_NoCoin => kit_is)
    (case ts_2_NoEntry => kit_is)
    (case ts_2_NoThing => kit_is)
    (case ts_2_NoChange => kit_is)
    (case ts_2_BadDay => kit_is)
    (case ts_2_TooLow => kit_is)
    (case ts_2_TooLittle => kit_is)
    (case ts_3_BadTag => kit_is)
    (case ts_3_BadText => kit_is)
    (case ts_3_TooMany => kit_is)
    (case ts_3_TooEarly => kit_is)
    (case ts_3_BadSum => kit_is)
    (case ts_3_BadOrder => kit_is)
    (case ts_3_BadQuery => kit_is)
    (case ts_3_BadColumn => kit_is)
    (case ts_3_BadDeed => kit_is)
    (case ts_3_BadRow => kit_is)
    (case ts_3_NoCoin => kit_is)
    (case ts_3_NoEntry => kit_is)
    (case ts_3_NoThing => kit_is)
    (case ts_3_NoChange => kit_is)
    (case ts_3_BadDay => kit_is)
    (case ts_3_TooLow => kit_is)
    (case ts_3_TooLittle => kit_is)
    (case ts_4_BadTag => kit_is)
    (case ts_4_BadText => kit_is)
    (case ts_4_TooMany => kit_is)
    (case ts_4_TooEarly => kit_is)
    (case ts_4_BadSum => kit_is)
    (case ts_4_BadOrder => kit_is)
    (case ts_4_BadQuery => kit_is)
    (case ts_4_BadColumn => kit_is)
    (case ts_4_BadDeed => kit_is)
    (case ts_4_BadRow => kit_is)
    (case ts_4_NoCoin => kit_is)
    (case ts_4_NoEntry => kit_is)
    (case ts_4_NoThing => kit_is)
    (case ts_4_NoChange => kit_is)
    (case ts_4_BadDay => kit_is)
    (case ts_4_TooLow => kit_is)
    (case ts_4_TooLittle => kit_is)
    (case ts_5_BadTag => kit_is)
    (case ts_5_BadText => kit_is)
    (case ts_5_TooMany => kit_is)
    (case ts_5_TooEarly => kit_is)
    (case ts_5_BadSum => kit_is)
    (case ts_5_BadOrder => kit_is)
    (case ts_5_BadQuery => kit_is)
    (case ts_5_BadColumn => kit_is)
    (case ts_5_BadDeed => kit_is)
    (case ts_5_BadRow => kit_is)
    (case ts_5_NoCoin => kit_is)
    (case ts_5_NoEntry => kit_is)
    (case ts_5_NoThing => kit_is)
    (case ts_5_NoChange => kit_is)
    (case ts_5_BadDay => kit_is)
    (case ts_5_TooLow => kit_is)
    (case ts_5_TooLittle => kit_is)
    (case ts_6_BadTag => kit_is)
    (case ts_6_BadText => kit_is)
    (case ts_6_TooMany => kit_is)
    (case ts_6_TooEarly => kit_is)
    (case ts_6_BadSum => kit_is)
    (case ts_6_BadOrder => kit_is)
    (case ts_6_BadQuery => kit_is)
    (case ts_6_BadColumn => kit_is)
    (case ts_6_BadDeed => kit_is)
    (case ts_6_BadRow => kit_is)
    (case ts_6_NoCoin => kit_is)
    (case ts_6_NoEntry => kit_is)
    (case ts_6_NoThing => kit_is)
    (case ts_6_NoChange => kit_is)
    (case ts_6_BadDay => kit_is)
    (case ts_6_TooLow => kit_is)
    (case ts_6_TooLittle => kit_is)
    (case ts_7_BadTag => kit_is)
    (case ts_7_BadText => kit_is)
    (case ts_7_TooMany => kit_is)
    (case ts_7_TooEarly => kit_is)
    (case ts_7_BadSum => kit_is)
    (case ts_7_BadOrder => kit_is)
    (case ts_7_BadQuery => kit_is)
    (case ts_7_BadColumn => kit_is)
    (case ts_7_BadDeed => kit_is)
    (case ts_7_BadRow => kit_is)
    (case ts_7_NoCoin => kit_is)
    (case ts_7_NoEntry => kit_is)
    (case ts_7_NoThing => kit_is)
    (case ts_7_NoChange => kit_is)
    (case ts_7_BadDay => kit_is)
    (case ts_7_TooLow => kit_is)
    (case ts_7_TooLittle => kit_is)
    (case ts_8_BadTag => kit_is)
    (case ts_8_BadText => kit_is)
    (case ts_8_TooMany => kit_is)
    (case ts_8_TooEarly => kit_is)
    (case ts_8_BadSum => kit_is)
    (case ts_8_BadOrder => kit_is)
    (case ts_8_BadQuery => kit_is)
    (case ts_8_BadColumn => kit_is)
    (case ts_8_BadDeed => kit_is)
    (case ts_8_BadRow => kit_is)
    (case ts_8_NoCoin => kit_is)
    (case ts_8_NoEntry => kit_is)
    (case ts_8_NoThing => kit_is)
    (case ts_8_NoChange => kit_is)
    (case ts_8_BadDay => kit_is)
    (case ts_8_TooLow => kit_is)
    (case ts_8_TooLittle => kit_is)
    (case ts_9_BadTag => kts_exm)
    (case ts_9_BadText => kts_exm)
    (case ts_9_TooMany => kts_exm)
    (case ts_9_TooEarly => kts_exm)
    (case ts_9_BadSum => kts_exm)
    (case ts_9_BadOrder => kts_exm)
    (case ts_9_BadQuery => kts_exm)
    (case ts_9_BadColumn => kts_exm)
    (case ts_9_BadDeed => kts_exm)
    (case ts_9_BadRow => kts_exm)
    (case ts_9_NoCoin => kts_exm)
    (case ts_9_NoEntry => kts_exm)
    (case ts_9_NoThing => kts_exm)
    (case ts_9_NoChange => kts_exm)
    (case ts_9_BadDay => kts_exm)
    (case ts_9_TooLow => kts_exm)
    (case ts_9_TooLittle => kts_exm)
